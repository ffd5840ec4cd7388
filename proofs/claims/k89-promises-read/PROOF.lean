import PyProof.Rows.All
import Wide.All
import OpenK.AllK
import Wide.FinOn
import HandS.ForMost
import HandS.Exc
import HandS.TryOnly
import HandS.Lambda
import HandS.Walk
import HandS.Zip
import HandS.ExcInit
import HandS.ExcOwn
import HandS.Defaults
import HandS.WordsExc
import HandS.TupAny
import HandS.TupMul
import HandS.TupLe
import HandS.Deep
import HandS.IsInst
import HandS.Text
import HandS.RaiseMore
import HandS.Dict
import HandS.Small
import HandS.Comp
import HandS.Style
import HandS.Iter
import HandS.ExcField
import HandS.TryMany
import PySem.Challenge.RW_climbabout_k89_promises_read
import HandS.Codes
import KE.IntTextLaws
import KE.GoesEnum
import HandS.More
import PyProof.ReprBulk
import PyProof.FitsInt
import HandS.EndTab
import HandS.HeadWalk
import HandS.HeadHook4
import KE.KStateDown
import Lean
import HandS.Base
import HandS.Call
import HandS.Ends
import HandS.Words
import HandS.Head0
import HandS.Head1
import HandS.Head2
import HandS.HeadEnd
import HandS.HeadHook1
import HandS.HeadHook2
import HandS.HeadHook3
set_option Elab.async false
set_option linter.all false
set_option maxRecDepth 100000
set_option maxHeartbeats 1000000
/-! Layer D: values as trees. -/
namespace DL
open PySem PySem.Spec PyProof.Rows L2

/-- a value as a tree -/
inductive D where
  | non | bl (b : Bool) | int (i : Int) | str (x : Str)
  | tup (xs : List D) | lst (xs : List D) | frl (xs : List D)
  | dic (ks : List D) (us : List D)
  | obj (C : Addr) (ns : List Str) (us : List D)
  | ref (a : Addr)

/-- a key of a dict that is an int or a text -/
def keyD : Key → D
  | .inl i => .int i
  | .inr x => .str x

/-- what may be read at a as u, apart from the addresses Z; or a thing that never changes -/
def RdA (Z : Addr → Prop) (H : Hp) (a : Addr) (u : HO) : Prop := (H a = some u ∧ ¬ Z a) ∨ ∃ o, H a = some (.frz o u)
theorem RdA.rd {Z : Addr → Prop} {H : Hp} {a : Addr} {u : HO} (h : RdA Z H a u) : Rd H a u := h.elim (fun q => .inl q.1) .inr

mutual
def Rep (Z : Addr → Prop) (H : Hp) : D → V → Prop
  | .non, v => v = .non
  | .bl b, v => v = .bl b
  | .int i, v => v = .int i
  | .str x, v => v = .str x
  | .tup ds, v => ∃ a vs, v = .ref a ∧ Rd H a (.tup vs) ∧ Reps Z H ds vs
  | .lst ds, v => ∃ a vs, v = .ref a ∧ (H a = some (.lst vs) ∧ ¬ Z a) ∧ Reps Z H ds vs
  | .frl ds, v => ∃ a vs o, v = .ref a ∧ H a = some (.frz o (.lst vs)) ∧ Reps Z H ds vs
  | .dic ks us, v => ∃ a kvs, v = .ref a ∧ RdA Z H a (.dK kvs) ∧ ks = kvs.map (fun p => keyD p.1) ∧ Reps Z H us (kvs.map (·.2))
  | .obj C ns us, v => ∃ a dx vs, v = .ref a ∧ (H a = some (.ins C dx (ns.zip vs)) ∧ ¬ Z a) ∧ Reps Z H us vs
  | .ref a, v => v = .ref a
def Reps (Z : Addr → Prop) (H : Hp) : List D → List V → Prop
  | [], vs => vs = []
  | d :: ds, vs => ∃ v r, vs = v :: r ∧ Rep Z H d v ∧ Reps Z H ds r
end

section
variable {Z Z' B : Addr → Prop} {H H' : Hp}
theorem Reps.length : ∀ {ds : List D} {vs : List V}, Reps Z H ds vs → ds.length = vs.length
  | [], _, h => by simp only [Reps] at h; subst h; rfl
  | d :: ds, _, h => by
    simp only [Reps] at h
    obtain ⟨v, r, rfl, _, h2⟩ := h
    simp [Reps.length h2]
theorem Reps.get : ∀ {ds : List D} {vs : List V} {i : Nat} {d : D}, Reps Z H ds vs → ds[i]? = some d → ∃ v, vs[i]? = some v ∧ Rep Z H d v
  | [], _, _, _, _, e => by simp at e
  | d :: ds, _, 0, _, h, e => by
    simp only [Reps] at h
    obtain ⟨v, r, rfl, h1, _⟩ := h
    simp at e; subst e
    exact ⟨v, rfl, h1⟩
  | d :: ds, _, i + 1, x, h, e => by
    simp only [Reps] at h
    obtain ⟨v, r, rfl, _, h2⟩ := h
    obtain ⟨w, h3, h4⟩ := Reps.get (i := i) (d := x) h2 (by simpa using e)
    exact ⟨w, by simpa using h3, h4⟩
theorem Reps.get' : ∀ {ds : List D} {vs : List V} {i : Nat} {v : V}, Reps Z H ds vs → vs[i]? = some v → ∃ d, ds[i]? = some d ∧ Rep Z H d v := fun {ds vs i v} h e => by
  have hl := h.length
  have hi : i < vs.length := (List.getElem?_eq_some_iff.mp e).1
  obtain ⟨w, h1, h2⟩ := Reps.get (i := i) (d := ds[i]'(by omega)) h (by simp)
  rw [e] at h1; cases h1
  exact ⟨_, by simp, h2⟩
theorem Reps.nil : Reps Z H [] [] := by simp only [Reps]
theorem Reps.cons {d : D} {v : V} {ds : List D} {vs : List V} (h : Rep Z H d v) (t : Reps Z H ds vs) : Reps Z H (d :: ds) (v :: vs) := by simp only [Reps]; exact ⟨v, vs, rfl, h, t⟩
theorem Reps.append : ∀ {ds es : List D} {vs ws : List V}, Reps Z H ds vs → Reps Z H es ws → Reps Z H (ds ++ es) (vs ++ ws)
  | [], _, _, _, h, t => by simp only [Reps] at h; subst h; exact t
  | d :: ds, _, _, _, h, t => by
    simp only [Reps] at h
    obtain ⟨v, r, rfl, h1, h2⟩ := h
    exact .cons h1 (Reps.append h2 t)
theorem Reps.take : ∀ {ds : List D} {vs : List V} (n : Nat), Reps Z H ds vs → Reps Z H (ds.take n) (vs.take n)
  | _, _, 0, _ => by simp [Reps.nil]
  | [], _, n + 1, h => by simp only [Reps] at h; subst h; exact .nil
  | d :: ds, _, n + 1, h => by
    simp only [Reps] at h
    obtain ⟨v, r, rfl, h1, h2⟩ := h
    exact .cons h1 (Reps.take n h2)
theorem Reps.drop : ∀ {ds : List D} {vs : List V} (n : Nat), Reps Z H ds vs → Reps Z H (ds.drop n) (vs.drop n)
  | _, _, 0, h => by simpa using h
  | [], _, n + 1, h => by simp only [Reps] at h; subst h; exact .nil
  | d :: ds, _, n + 1, h => by
    simp only [Reps] at h
    obtain ⟨v, r, rfl, h1, h2⟩ := h
    exact Reps.drop n h2
theorem Reps.set : ∀ {ds : List D} {vs : List V} {d : D} {v : V} (n : Nat), Reps Z H ds vs → Rep Z H d v → Reps Z H (ds.set n d) (vs.set n v)
  | [], _, _, _, n, h, _ => by simp only [Reps] at h; subst h; exact .nil
  | _ :: _, _, _, _, 0, h, q => by
    simp only [Reps] at h
    obtain ⟨v, r, rfl, h1, h2⟩ := h
    exact .cons q h2
  | _ :: _, _, _, _, n + 1, h, q => by
    simp only [Reps] at h
    obtain ⟨v, r, rfl, h1, h2⟩ := h
    exact .cons h1 (Reps.set n h2 q)
theorem Reps.dropLast {ds : List D} {vs : List V} (h : Reps Z H ds vs) : Reps Z H ds.dropLast vs.dropLast := by
  rw [List.dropLast_eq_take, List.dropLast_eq_take, h.length]
  exact h.take _
theorem Reps.of_get : ∀ {ds : List D} {vs : List V}, ds.length = vs.length → (∀ (i : Nat) d v, ds[i]? = some d → vs[i]? = some v → Rep Z H d v) → Reps Z H ds vs
  | [], [], _, _ => .nil
  | [], _ :: _, h, _ => by simp at h
  | _ :: _, [], h, _ => by simp at h
  | d :: ds, v :: vs, h, k => .cons (k 0 d v rfl rfl) (Reps.of_get (by simpa using h) fun i d v h1 h2 => k (i + 1) d v (by simpa using h1) (by simpa using h2))

/-- what is bad holds no tuple and nothing frozen -/
def MutB (B : Addr → Prop) (H : Hp) : Prop := ∀ a, B a → Mut (H a)
theorem MutB.tup (m : MutB B H) {a : Addr} {xs : List V} (h : H a = some (.tup xs)) : ¬ B a := fun b => by
  have := m a b
  rw [h] at this
  exact this
theorem MutB.frz (m : MutB B H) {a : Addr} {o : Obj} {u : HO} (h : H a = some (.frz o u)) : ¬ B a := fun b => by
  have := m a b
  rw [h] at this
  exact this

/-- all but the bad addresses stays: a tree that keeps off them stays, and keeps off less -/
theorem RdA.keep {a : Addr} {u : HO} (h : RdA Z H a u) (k : ∀ a o, H a = some o → ¬ B a → H' a = some o) (bz : ∀ a, B a → Z a) (m : MutB B H) (zz : ∀ a, (∃ o, H a = some o) → Z' a → Z a) : RdA Z' H' a u := by
  rcases h with ⟨h, z⟩ | ⟨o, h⟩
  · exact .inl ⟨k _ _ h fun b => z (bz _ b), fun q => z (zz _ ⟨_, h⟩ q)⟩
  · exact .inr ⟨o, k _ _ h (m.frz h)⟩
mutual
theorem Rep.keep (k : ∀ a o, H a = some o → ¬ B a → H' a = some o) (bz : ∀ a, B a → Z a) (m : MutB B H) (zz : ∀ a, (∃ o, H a = some o) → Z' a → Z a) : ∀ {d : D} {v : V}, Rep Z H d v → Rep Z' H' d v
  | .non, _, h => by simp only [Rep] at h ⊢; exact h
  | .bl _, _, h => by simp only [Rep] at h ⊢; exact h
  | .int _, _, h => by simp only [Rep] at h ⊢; exact h
  | .str _, _, h => by simp only [Rep] at h ⊢; exact h
  | .ref _, _, h => by simp only [Rep] at h ⊢; exact h
  | .tup ds, _, h => by
    simp only [Rep] at h ⊢
    obtain ⟨a, vs, e, r, q⟩ := h
    refine ⟨a, vs, e, ?_, Reps.keep k bz m zz q⟩
    rcases r with r | ⟨o, r⟩
    · exact .inl (k _ _ r (m.tup r))
    · exact .inr ⟨o, k _ _ r (m.frz r)⟩
  | .lst ds, _, h => by
    simp only [Rep] at h ⊢
    obtain ⟨a, vs, e, ⟨r, z⟩, q⟩ := h
    exact ⟨a, vs, e, ⟨k _ _ r fun b => z (bz _ b), fun w => z (zz _ ⟨_, r⟩ w)⟩, Reps.keep k bz m zz q⟩
  | .frl ds, _, h => by
    simp only [Rep] at h ⊢
    obtain ⟨a, vs, o, e, r, q⟩ := h
    exact ⟨a, vs, o, e, k _ _ r (m.frz r), Reps.keep k bz m zz q⟩
  | .dic ks us, _, h => by
    simp only [Rep] at h ⊢
    obtain ⟨a, kvs, e, r, e2, q⟩ := h
    exact ⟨a, kvs, e, r.keep k bz m zz, e2, Reps.keep k bz m zz q⟩
  | .obj C ns us, _, h => by
    simp only [Rep] at h ⊢
    obtain ⟨a, dx, vs, e, ⟨r, z⟩, q⟩ := h
    exact ⟨a, dx, vs, e, ⟨k _ _ r fun b => z (bz _ b), fun w => z (zz _ ⟨_, r⟩ w)⟩, Reps.keep k bz m zz q⟩
theorem Reps.keep (k : ∀ a o, H a = some o → ¬ B a → H' a = some o) (bz : ∀ a, B a → Z a) (m : MutB B H) (zz : ∀ a, (∃ o, H a = some o) → Z' a → Z a) : ∀ {ds : List D} {vs : List V}, Reps Z H ds vs → Reps Z' H' ds vs
  | [], _, h => by simp only [Reps] at h ⊢; exact h
  | d :: ds, _, h => by
    simp only [Reps] at h ⊢
    obtain ⟨v, r, e, h1, h2⟩ := h
    exact ⟨v, r, e, Rep.keep k bz m zz h1, Reps.keep k bz m zz h2⟩
end
theorem mutB_none : MutB (fun _ => False) H := fun _ b => b.elim
/-- the heap grows, off is less -/
theorem Rep.grow {d : D} {v : V} (h : Rep Z H d v) (k : Same H H') (zz : ∀ a, (∃ o, H a = some o) → Z' a → Z a) : Rep Z' H' d v :=
  h.keep (B := fun _ => False) (fun a o e _ => k a o e) (fun _ b => b.elim) mutB_none zz
theorem Reps.grow {ds : List D} {vs : List V} (h : Reps Z H ds vs) (k : Same H H') (zz : ∀ a, (∃ o, H a = some o) → Z' a → Z a) : Reps Z' H' ds vs :=
  h.keep (B := fun _ => False) (fun a o e _ => k a o e) (fun _ b => b.elim) mutB_none zz
theorem Rep.less {d : D} {v : V} (h : Rep Z H d v) (zz : ∀ a, Z' a → Z a) : Rep Z' H d v := h.grow (fun _ _ e => e) fun a _ => zz a
theorem Reps.less {ds : List D} {vs : List V} (h : Reps Z H ds vs) (zz : ∀ a, Z' a → Z a) : Reps Z' H ds vs := h.grow (fun _ _ e => e) fun a _ => zz a
end

/-! ### own things -/
/-- the mutable thing at a holds d; what stands in it keeps off Z -/
def OwnAt (Z : Addr → Prop) (H : Hp) (a : Addr) : D → Prop
  | .lst ds => ∃ vs, H a = some (.lst vs) ∧ Reps Z H ds vs
  | .dic ks us => ∃ kvs, H a = some (.dK kvs) ∧ ks = kvs.map (fun p => keyD p.1) ∧ Reps Z H us (kvs.map (·.2))
  | .obj C ns us => ∃ dx vs, H a = some (.ins C dx (ns.zip vs)) ∧ Reps Z H us vs
  | _ => False
section
variable {Z Z' B : Addr → Prop} {H H' : Hp} {a : Addr} {d : D}
theorem OwnAt.mut (h : OwnAt Z H a d) : Mut (H a) := by
  cases d <;> simp only [OwnAt] at h
  · obtain ⟨vs, e, _⟩ := h; rw [e]; trivial
  · obtain ⟨vs, e, _⟩ := h; rw [e]; trivial
  · obtain ⟨dx, vs, e, _⟩ := h; rw [e]; trivial
theorem OwnAt.there (h : OwnAt Z H a d) : ∃ o, H a = some o := by
  have := h.mut
  cases q : H a with
  | none => rw [q] at this; exact this.elim
  | some o => exact ⟨o, rfl⟩
theorem OwnAt.keep (k : ∀ a o, H a = some o → ¬ B a → H' a = some o) (bz : ∀ a, B a → Z a) (m : MutB B H) (zz : ∀ a, (∃ o, H a = some o) → Z' a → Z a) (na : ¬ B a) (h : OwnAt Z H a d) : OwnAt Z' H' a d := by
  cases d <;> simp only [OwnAt] at h ⊢
  · obtain ⟨vs, e, q⟩ := h; exact ⟨vs, k _ _ e na, q.keep k bz m zz⟩
  · obtain ⟨kvs, e, e2, q⟩ := h; exact ⟨kvs, k _ _ e na, e2, q.keep k bz m zz⟩
  · obtain ⟨dx, vs, e, q⟩ := h; exact ⟨dx, vs, k _ _ e na, q.keep k bz m zz⟩
theorem OwnAt.grow (h : OwnAt Z H a d) (k : Same H H') (zz : ∀ a, (∃ o, H a = some o) → Z' a → Z a) : OwnAt Z' H' a d :=
  h.keep (B := fun _ => False) (fun a o e _ => k a o e) (fun _ b => b.elim) mutB_none zz id
/-- an own thing that is no longer changed is a value -/
theorem OwnAt.rep (h : OwnAt Z H a d) (z : ¬ Z' a) (zz : ∀ a, Z' a → Z a) : Rep Z' H d (.ref a) := by
  cases d <;> simp only [OwnAt] at h <;> simp only [Rep]
  · obtain ⟨vs, e, q⟩ := h; exact ⟨a, vs, rfl, ⟨e, z⟩, q.less zz⟩
  · obtain ⟨kvs, e, e2, q⟩ := h; exact ⟨a, kvs, rfl, .inl ⟨e, z⟩, e2, q.less zz⟩
  · obtain ⟨dx, vs, e, q⟩ := h; exact ⟨a, dx, vs, rfl, ⟨e, z⟩, q.less zz⟩
end
end DL
set_option Elab.async false
set_option linter.all false
set_option maxRecDepth 100000
set_option maxHeartbeats 1000000
/-! Layer D: the state. -/
namespace DL
open PySem PySem.Spec PyProof.Rows L2

/-- what a slot holds: a value that never changes; an own thing (nobody else holds it); a caller's thing; nothing is known -/
inductive SV where
  | val (d : D) | own (d : D) | io (d : D) | any
def SV.d : SV → D
  | .val d => d
  | .own d => d
  | .io d => d
  | .any => .non
def SV.isMut : SV → Bool
  | .own _ => true
  | .io _ => true
  | _ => false
/-- the same kind, another content -/
def SV.put : SV → D → SV
  | .val _, d => .val d
  | .own _, d => .own d
  | .io _, d => .io d
  | .any, _ => .any
abbrev DS := List (Option SV)
abbrev Ix := Nat ⊕ Nat
abbrev Wd := Ix → Option (V × SV)
def Mt (w : Wd) (a : Addr) : Prop := ∃ p sv, w p = some (.ref a, sv) ∧ sv.isMut = true

theorem tabs_keepM {N : List (Addr × Str)} {H H' : Hp} {a : Addr} (t : LamX.Tabs N H) (k : ∀ b o, H b = some o → b ≠ a → H' b = some o) {Z : Addr → Prop} {d : D} (m : OwnAt Z H a d) : LamX.Tabs N H' := fun p hp => by
  obtain ⟨ps, h1, h2, h3⟩ := t p hp
  refine ⟨ps, k _ _ h1 fun z => ?_, h2, fun pos cv hc => ?_⟩
  · subst z
    cases d <;> simp only [OwnAt] at m
    · obtain ⟨vs, e, _⟩ := m; rw [h1] at e; cases e
    · obtain ⟨vs, e, _⟩ := m; rw [h1] at e; cases e
    · obtain ⟨dx, vs, e, _⟩ := m; rw [h1] at e; cases e
  · obtain ⟨c, e1, e2⟩ := h3 pos cv hc
    refine ⟨c, e1, k _ _ e2 fun z => ?_⟩
    subst z
    unfold LamX.CodeO at e2
    cases d <;> simp only [OwnAt] at m
    · obtain ⟨vs, e, _⟩ := m; rw [e2] at e; cases e
    · obtain ⟨vs, e, _⟩ := m; rw [e2] at e; cases e
    · obtain ⟨dx, vs, e, _⟩ := m; rw [e2] at e; cases e
theorem OwnAt.there2 {Z : Addr → Prop} {H : Hp} {a : Addr} {d : D} (m : OwnAt Z H a d) : ∃ o, H a = some o ∧ ∀ ps, o ≠ .tbl ps := by
  cases d <;> simp only [OwnAt] at m
  · obtain ⟨vs, e, _⟩ := m; exact ⟨_, e, fun _ => nofun⟩
  · obtain ⟨vs, e, _⟩ := m; exact ⟨_, e, fun _ => nofun⟩
  · obtain ⟨dx, vs, e, _⟩ := m; exact ⟨_, e, fun _ => nofun⟩
structure RelW (N : List (Addr × Str)) (Z : Addr → Prop) (H0 : Hp) (io : Nat → Option Addr) (H : Hp) (w : Wd) : Prop where
  val : ∀ p v d, w p = some (v, .val d) → Rep (fun a => Z a ∨ Mt w a) H d v
  mu : ∀ p v sv, w p = some (v, sv) → sv.isMut = true → ∃ a, v = .ref a ∧ ¬ Z a ∧ OwnAt (fun a => Z a ∨ Mt w a) H a sv.d
  inj : ∀ p q a sv sv', w p = some (.ref a, sv) → w q = some (.ref a, sv') → sv.isMut = true → sv'.isMut = true → p = q
  own : ∀ p a d, w p = some (.ref a, .own d) → H0 a = none
  ioo : ∀ p a d, w p = some (.ref a, .io d) → ∃ i, p = .inl i ∧ io i = some a
  base : ∀ a o, H0 a = some o → (∀ i, io i ≠ some a) → (N ≠ [] → ∀ ps, o ≠ .tbl ps) → H a = some o
  dom : ∀ a o, H0 a = some o → ∃ o', H a = some o'
  tab : LamX.Tabs N H
  zdom : ∀ a, Z a → (∃ o, H0 a = some o) ∧ ∀ i, io i ≠ some a
  ioin : ∀ i b, io i = some b → ∃ o, H b = some o ∧ ∀ ps, o ≠ .tbl ps

section
variable {N : List (Addr × Str)} {Z : Addr → Prop} {H0 H H' : Hp} {io : Nat → Option Addr} {w w' : Wd}
theorem RelW.mutB (R : RelW N Z H0 io H w) : MutB (Mt w) H := fun a ⟨p, sv, e, m⟩ => by
  obtain ⟨b, eb, _, o⟩ := R.mu p _ sv e m
  cases eb
  exact o.mut
theorem RelW.there (R : RelW N Z H0 io H w) {a : Addr} (h : Mt w a) : ∃ o, H a = some o := by
  obtain ⟨p, sv, e, m⟩ := h
  obtain ⟨b, eb, _, o⟩ := R.mu p _ sv e m
  cases eb
  exact o.there
/-- fewer cells, in other places -/
theorem RelW.map (R : RelW N Z H0 io H w) (f : Ix → Ix) (h : ∀ p x, w' p = some x → w (f p) = some x) (fi : ∀ p q, (∃ x, w' p = some x) → (∃ x, w' q = some x) → f p = f q → p = q)
    (fo : ∀ p v d, w' p = some (v, .io d) → f p = p) : RelW N Z H0 io H w' := by
  have sub : ∀ a, (Z a ∨ Mt w' a) → (Z a ∨ Mt w a) := fun a q => q.elim .inl fun ⟨p, sv, e, m⟩ => .inr ⟨f p, sv, h _ _ e, m⟩
  refine ⟨fun p v d e => (R.val _ v d (h _ _ e)).less sub, fun p v sv e m => ?_, fun p q a sv sv' e e' m m' => fi p q ⟨_, e⟩ ⟨_, e'⟩ (R.inj _ _ a sv sv' (h _ _ e) (h _ _ e') m m'), fun p a d e => R.own _ a d (h _ _ e), fun p a d e => ?_, R.base, R.dom, R.tab, R.zdom, R.ioin⟩
  · obtain ⟨a, ea, na, o⟩ := R.mu _ v sv (h _ _ e) m
    exact ⟨a, ea, na, o.grow (fun _ _ e => e) fun a _ => sub a⟩
  · have := R.ioo _ a d (h _ _ e)
    rwa [fo p _ d e] at this
/-- the heap grows -/
theorem RelW.grow (R : RelW N Z H0 io H w) (k : Same H H') : RelW N Z H0 io H' w := by
  refine ⟨fun p v d e => (R.val p v d e).grow k fun _ _ q => q, fun p v sv e m => ?_, R.inj, R.own, R.ioo, fun a o e n t => k _ _ (R.base a o e n t), fun a o e => let ⟨o', q⟩ := R.dom a o e; ⟨o', k _ _ q⟩, R.tab.ext k, R.zdom, fun i b e => let ⟨o, q, t⟩ := R.ioin i b e; ⟨o, k _ _ q, t⟩⟩
  obtain ⟨a, ea, na, o⟩ := R.mu p v sv e m
  exact ⟨a, ea, na, o.grow k fun _ _ q => q⟩
def setW (w : Wd) (p : Ix) (x : Option (V × SV)) : Wd := fun q => if q = p then x else w q
theorem setW_same {p : Ix} {x : Option (V × SV)} : setW w p x p = x := if_pos rfl
theorem setW_ne {p q : Ix} {x : Option (V × SV)} (h : q ≠ p) : setW w p x q = w q := if_neg h
/-- a value comes to a cell in which nothing stood -/
theorem RelW.addVal (R : RelW N Z H0 io H w) {p : Ix} {v : V} {d : D} (n : w p = none) (r : Rep (fun a => Z a ∨ Mt w a) H d v) : RelW N Z H0 io H (setW w p (some (v, .val d))) := by
  have up : ∀ q x, setW w p (some (v, .val d)) q = some x → (q = p ∧ x = (v, .val d)) ∨ w q = some x := fun q x e => by
    by_cases h : q = p
    · subst h; rw [setW_same] at e; cases e; exact .inl ⟨rfl, rfl⟩
    · rw [setW_ne h] at e; exact .inr e
  have mm : ∀ a, Mt (setW w p (some (v, .val d))) a → Mt w a := fun a ⟨q, sv, e, m⟩ => by
    rcases up q _ e with ⟨_, e⟩ | e
    · cases e; cases m
    · exact ⟨q, sv, e, m⟩
  have sub : ∀ a, (Z a ∨ Mt (setW w p (some (v, .val d))) a) → (Z a ∨ Mt w a) := fun a q => q.elim .inl fun z => .inr (mm a z)
  refine ⟨fun q u c e => ?_, fun q u sv e m => ?_, fun q q' a sv sv' e e' m m' => ?_, fun q a c e => ?_, fun q a c e => ?_, R.base, R.dom, R.tab, R.zdom, R.ioin⟩
  · rcases up q _ e with ⟨_, e⟩ | e
    · cases e; exact r.less sub
    · exact (R.val q u c e).less sub
  · rcases up q _ e with ⟨_, e⟩ | e
    · cases e; cases m
    · obtain ⟨a, ea, na, o⟩ := R.mu q u sv e m
      exact ⟨a, ea, na, o.grow (fun _ _ e => e) fun a _ => sub a⟩
  · rcases up q _ e with ⟨_, e⟩ | e
    · cases e; cases m
    · rcases up q' _ e' with ⟨_, e'⟩ | e'
      · cases e'; cases m'
      · exact R.inj q q' a sv sv' e e' m m'
  · rcases up q _ e with ⟨_, e⟩ | e
    · cases e
    · exact R.own q a c e
  · rcases up q _ e with ⟨_, e⟩ | e
    · cases e
    · exact R.ioo q a c e
/-- a thing of which nothing is known comes to a cell -/
theorem RelW.addAny (R : RelW N Z H0 io H w) {p : Ix} {v : V} (n : w p = none) : RelW N Z H0 io H (setW w p (some (v, .any))) := by
  have up : ∀ q x, setW w p (some (v, .any)) q = some x → (q = p ∧ x = (v, .any)) ∨ w q = some x := fun q x e => by
    by_cases h : q = p
    · subst h; rw [setW_same] at e; cases e; exact .inl ⟨rfl, rfl⟩
    · rw [setW_ne h] at e; exact .inr e
  have sub : ∀ a, (Z a ∨ Mt (setW w p (some (v, .any))) a) → (Z a ∨ Mt w a) := fun a q => q.elim .inl fun ⟨q, sv, e, m⟩ => by
    rcases up q _ e with ⟨_, e⟩ | e
    · cases e; cases m
    · exact .inr ⟨q, sv, e, m⟩
  refine ⟨fun q u c e => ?_, fun q u sv e m => ?_, fun q q' a sv sv' e e' m m' => ?_, fun q a c e => ?_, fun q a c e => ?_, R.base, R.dom, R.tab, R.zdom, R.ioin⟩
  · rcases up q _ e with ⟨_, e⟩ | e
    · cases e
    · exact (R.val q u c e).less sub
  · rcases up q _ e with ⟨_, e⟩ | e
    · cases e; cases m
    · obtain ⟨a, ea, na, o⟩ := R.mu q u sv e m
      exact ⟨a, ea, na, o.grow (fun _ _ e => e) fun a _ => sub a⟩
  · rcases up q _ e with ⟨_, e⟩ | e
    · cases e; cases m
    · rcases up q' _ e' with ⟨_, e'⟩ | e'
      · cases e'; cases m'
      · exact R.inj q q' a sv sv' e e' m m'
  · rcases up q _ e with ⟨_, e⟩ | e
    · cases e
    · exact R.own q a c e
  · rcases up q _ e with ⟨_, e⟩ | e
    · cases e
    · exact R.ioo q a c e
/-- a new own thing: at a nothing stood ahead -/
theorem RelW.addOwn (R : RelW N Z H0 io H w) (k : Same H H') {p : Ix} {a : Addr} {d : D} (n : w p = none) (na : H a = none) (r : OwnAt (fun b => (Z b ∨ Mt w b) ∨ b = a) H' a d) : RelW N Z H0 io H' (setW w p (some (.ref a, .own d))) := by
  have nz : ¬ Z a := fun z => by
    obtain ⟨⟨o, e⟩, ni⟩ := R.zdom a z
    obtain ⟨o', this⟩ := R.dom a o e
    rw [na] at this; cases this
  have nm : ¬ Mt w a := fun m => by
    obtain ⟨o, e⟩ := R.there m
    rw [na] at e; cases e
  have up : ∀ q x, setW w p (some (.ref a, .own d)) q = some x → (q = p ∧ x = (.ref a, .own d)) ∨ (w q = some x ∧ q ≠ p) := fun q x e => by
    by_cases h : q = p
    · subst h; rw [setW_same] at e; cases e; exact .inl ⟨rfl, rfl⟩
    · rw [setW_ne h] at e; exact .inr ⟨e, h⟩
  have sub : ∀ b, (Z b ∨ Mt (setW w p (some (.ref a, .own d))) b) → ((Z b ∨ Mt w b) ∨ b = a) := fun b q => q.elim (fun z => .inl (.inl z)) fun ⟨q, sv, e, m⟩ => by
    rcases up q _ e with ⟨_, e⟩ | ⟨e, _⟩
    · cases e; exact .inr rfl
    · exact .inl (.inr ⟨q, sv, e, m⟩)
  have old : ∀ b, (∃ o, H b = some o) → (Z b ∨ Mt (setW w p (some (.ref a, .own d))) b) → (Z b ∨ Mt w b) := fun b ⟨o, e⟩ q => (sub b q).elim id fun z => by
    subst z; rw [na] at e; cases e
  refine ⟨fun q u c e => ?_, fun q u sv e m => ?_, fun q q' b sv sv' e e' m m' => ?_, fun q b c e => ?_, fun q b c e => ?_, fun b o e ni nt => k _ _ (R.base b o e ni nt), fun a o e => let ⟨o', q⟩ := R.dom a o e; ⟨o', k _ _ q⟩, R.tab.ext k, R.zdom, fun i b e => let ⟨o, q, t⟩ := R.ioin i b e; ⟨o, k _ _ q, t⟩⟩
  · rcases up q _ e with ⟨_, e⟩ | ⟨e, _⟩
    · cases e
    · exact (R.val q u c e).grow k old
  · rcases up q _ e with ⟨_, e⟩ | ⟨e, _⟩
    · cases e
      exact ⟨a, rfl, nz, r.grow (fun _ _ e => e) fun b _ => sub b⟩
    · obtain ⟨b, eb, nb, o⟩ := R.mu q u sv e m
      exact ⟨b, eb, nb, o.grow k old⟩
  · rcases up q _ e with ⟨h, e⟩ | ⟨e, h⟩
    · cases e
      rcases up q' _ e' with ⟨h', _⟩ | ⟨e', _⟩
      · rw [h, h']
      · exact (nm ⟨q', sv', e', m'⟩).elim
    · rcases up q' _ e' with ⟨_, e'⟩ | ⟨e', _⟩
      · cases e'
        exact (nm ⟨q, sv, e, m⟩).elim
      · exact R.inj q q' b sv sv' e e' m m'
  · rcases up q _ e with ⟨_, e⟩ | ⟨e, _⟩
    · cases e
      cases q0 : H0 a with
      | none => rfl
      | some o =>
        obtain ⟨o', this⟩ := R.dom a o q0
        rw [na] at this; cases this
    · exact R.own q b c e
  · rcases up q _ e with ⟨_, e⟩ | ⟨e, _⟩
    · cases e
    · exact R.ioo q b c e
/-- an own or a caller's thing is changed -/
theorem RelW.write (R : RelW N Z H0 io H w) {p : Ix} {a : Addr} {sv sv' : SV} {o' : HO} (e0 : w p = some (.ref a, sv)) (m0 : sv.isMut = true) (hk : sv' = sv.put sv'.d) (mu : Mut (some o'))
    (k : ∀ b o, H b = some o → b ≠ a → H' b = some o) (r : OwnAt (fun b => Z b ∨ Mt w b) H' a sv'.d) : RelW N Z H0 io H' (setW w p (some (.ref a, sv'))) := by
  have m1 : sv'.isMut = true := by rw [hk]; cases sv <;> first | rfl | cases m0
  have up : ∀ q x, setW w p (some (.ref a, sv')) q = some x → (q = p ∧ x = (.ref a, sv')) ∨ (w q = some x ∧ q ≠ p) := fun q x e => by
    by_cases h : q = p
    · subst h; rw [setW_same] at e; cases e; exact .inl ⟨rfl, rfl⟩
    · rw [setW_ne h] at e; exact .inr ⟨e, h⟩
  have mtA : Mt w a := ⟨p, sv, e0, m0⟩
  have sub : ∀ b, (Z b ∨ Mt (setW w p (some (.ref a, sv'))) b) → (Z b ∨ Mt w b) := fun b q => q.elim .inl fun ⟨q, s2, e, m⟩ => by
    rcases up q _ e with ⟨_, e⟩ | ⟨e, _⟩
    · cases e; exact .inr mtA
    · exact .inr ⟨q, s2, e, m⟩
  have mB : MutB (fun b => b = a) H := fun b z => by subst z; exact R.mutB _ mtA
  have keepV : ∀ {d : D} {v : V}, Rep (fun b => Z b ∨ Mt w b) H d v → Rep (fun b => Z b ∨ Mt (setW w p (some (.ref a, sv'))) b) H' d v := fun {d v} x =>
    x.keep (B := fun b => b = a) (fun b o e n => k b o e n) (fun b z => by subst z; exact .inr mtA) mB fun b _ => sub b
  refine ⟨fun q u c e => ?_, fun q u s2 e m => ?_, fun q q' b s2 s3 e e' m m' => ?_, fun q b c e => ?_, fun q b c e => ?_, fun b o e ni nt => ?_, fun b o e => ?_, (let ⟨_, eb, _, ow⟩ := R.mu p _ sv e0 m0; by cases eb; exact tabs_keepM R.tab k ow), R.zdom, fun i b e => ?_⟩
  · rcases up q _ e with ⟨_, e⟩ | ⟨e, _⟩
    · cases e; cases m1
    · exact keepV (R.val q u c e)
  · rcases up q _ e with ⟨_, e⟩ | ⟨e, hq⟩
    · cases e
      obtain ⟨b, eb, nb, _⟩ := R.mu p _ sv e0 m0
      cases eb
      exact ⟨a, rfl, nb, r.grow (fun _ _ e => e) fun b _ => sub b⟩
    · obtain ⟨b, eb, nb, o⟩ := R.mu q u s2 e m
      subst eb
      have hba : ¬ b = a := fun z => by
        subst z
        exact hq (R.inj q p b s2 sv ‹w q = some (V.ref b, s2)› e0 m m0)
      exact ⟨b, rfl, nb, o.keep (B := fun b => b = a) (fun b o e n => k b o e n) (fun b z => by subst z; exact .inr mtA) mB (fun b _ => sub b) hba⟩
  · rcases up q _ e with ⟨h, e⟩ | ⟨e, h⟩
    · cases e
      rcases up q' _ e' with ⟨h', _⟩ | ⟨e', _⟩
      · rw [h, h']
      · rw [h]; exact R.inj p q' a sv s3 e0 e' m0 m'
    · rcases up q' _ e' with ⟨h', e'⟩ | ⟨e', _⟩
      · cases e'
        rw [h']; exact R.inj q p a s2 sv e e0 m m0
      · exact R.inj q q' b s2 s3 e e' m m'
  · rcases up q _ e with ⟨_, e⟩ | ⟨e, _⟩
    · cases e
      cases sv with
      | own d0 => exact R.own p a d0 e0
      | io d0 => simp [SV.put] at hk
      | val _ => cases m0
      | any => cases m0
    · exact R.own q b c e
  · rcases up q _ e with ⟨h, e⟩ | ⟨e, _⟩
    · cases e
      cases sv with
      | io d0 => rw [h]; exact R.ioo p a d0 e0
      | own d0 => simp [SV.put] at hk
      | val _ => cases m0
      | any => cases m0
    · exact R.ioo q b c e
  · have h1 := R.base b o e ni nt
    refine k b o h1 fun z => ?_
    subst z
    cases sv with
    | own d0 => rw [R.own p b d0 e0] at e; cases e
    | io d0 =>
      obtain ⟨i, _, z⟩ := R.ioo p b d0 e0
      exact ni i z
    | val _ => cases m0
    | any => cases m0
  · obtain ⟨o', q⟩ := R.dom b o e
    by_cases z : b = a
    · subst z; exact r.there
    · exact ⟨o', k b o' q z⟩
  · obtain ⟨o, q, t⟩ := R.ioin i b e
    by_cases z : b = a
    · subst z; exact r.there2
    · exact ⟨o, k b o q z, t⟩
end
end DL
set_option Elab.async false
set_option linter.all false
set_option maxRecDepth 100000
set_option maxHeartbeats 1000000
/-! Layer D: slots, temporaries, judgements. -/
namespace DL
open PySem PySem.Spec PyProof.Rows L2

/-- a frame's constants: foreign things to keep off, the heap at the entry, the caller's things, the temporaries -/
structure Fr where
  N : List (Addr × Str)
  IO : Addr → Prop
  Z : Addr → Prop
  H0 : Hp
  io : Nat → Option Addr
  T : List (V × SV)
def Fr.push (F : Fr) (x : V × SV) : Fr := { F with T := F.T ++ [x] }
def Wof (T : List (V × SV)) (σ : L2.St) (S : DS) : Wd
  | .inl i => match σ[i]?, S[i]? with
    | some (some v), some (some sv) => some (v, sv)
    | _, _ => none
  | .inr j => T[j]?
structure Rel (F : Fr) (H : Hp) (σ : L2.St) (S : DS) : Prop where
  len : S.length = σ.length
  has : ∀ (i : Nat) sv, S[i]? = some (some sv) → ∃ v, σ[i]? = some (some v)
  iog : ∀ i a, F.io i = some a → F.H0 a = none ∨ F.IO a
  w : RelW F.N F.Z F.H0 F.io H (Wof F.T σ S)
/-- what a value keeps off -/
def Zs (F : Fr) (σ : L2.St) (S : DS) : Addr → Prop := fun a => F.Z a ∨ Mt (Wof F.T σ S) a

section
variable {F : Fr} {H H' : Hp} {σ : L2.St} {S : DS} {x : V × SV}
theorem wof_push {T : List (V × SV)} : Wof (T ++ [x]) σ S = setW (Wof T σ S) (.inr T.length) (some x) := by
  funext p
  cases p with
  | inl i => rw [setW_ne (by intro h; cases h)]; rfl
  | inr j =>
    by_cases h : j = T.length
    · subst h; rw [setW_same]; simp [Wof]
    · rw [setW_ne (by intro q; cases q; exact h rfl)]
      show (T ++ [x])[j]? = T[j]?
      by_cases h2 : j < T.length
      · rw [List.getElem?_append_left h2]
      · have h3 : T.length < j := by omega
        rw [List.getElem?_eq_none_iff.mpr (by simp; omega), List.getElem?_eq_none_iff.mpr (by omega)]
theorem wof_last {T : List (V × SV)} : Wof T σ S (.inr T.length) = none := by
  show T[T.length]? = none
  exact List.getElem?_eq_none_iff.mpr (Nat.le_refl _)
theorem Rel.grow (R : Rel F H σ S) (k : Same H H') : Rel F H' σ S := ⟨R.len, R.has, R.iog, R.w.grow k⟩
theorem Rel.pushVal (R : Rel F H σ S) {v : V} {d : D} (r : Rep (Zs F σ S) H d v) : Rel (F.push (v, .val d)) H σ S :=
  ⟨R.len, R.has, R.iog, by show RelW _ _ _ _ _ (Wof (F.T ++ [(v, .val d)]) σ S); rw [wof_push]; exact R.w.addVal wof_last r⟩
theorem Rel.pushAny (R : Rel F H σ S) {v : V} : Rel (F.push (v, .any)) H σ S :=
  ⟨R.len, R.has, R.iog, by show RelW _ _ _ _ _ (Wof (F.T ++ [(v, .any)]) σ S); rw [wof_push]; exact R.w.addAny wof_last⟩
theorem Rel.pushOwn (R : Rel F H σ S) (k : Same H H') {a : Addr} {d : D} (n : H a = none) (r : OwnAt (fun b => Zs F σ S b ∨ b = a) H' a d) : Rel (F.push (.ref a, .own d)) H' σ S :=
  ⟨R.len, R.has, R.iog, by show RelW _ _ _ _ _ (Wof (F.T ++ [(.ref a, .own d)]) σ S); rw [wof_push]; exact R.w.addOwn k wof_last n r⟩
/-- fewer temporaries -/
theorem Rel.cut {T T' : List (V × SV)} {N : List (Addr × Str)} {IO Z : Addr → Prop} {H0 : Hp} {io : Nat → Option Addr} (R : Rel ⟨N, IO, Z, H0, io, T ++ T'⟩ H σ S) : Rel ⟨N, IO, Z, H0, io, T⟩ H σ S := by
  refine ⟨R.len, R.has, R.iog, R.w.map id (fun p x e => ?_) (fun _ _ _ _ h => h) fun _ _ _ _ => rfl⟩
  cases p with
  | inl i => exact e
  | inr j =>
    have e' : T[j]? = some x := e
    show (T ++ T')[j]? = some x
    rw [List.getElem?_append_left (List.getElem?_eq_some_iff.mp e').1]
    exact e'
theorem Rel.pop (R : Rel (F.push x) H σ S) : Rel F H σ S := R.cut (T' := [x])
theorem mt_cut {T T' : List (V × SV)} {a : Addr} (h : Mt (Wof T σ S) a) : Mt (Wof (T ++ T') σ S) a := by
  obtain ⟨p, sv, e, m⟩ := h
  refine ⟨p, sv, ?_, m⟩
  cases p with
  | inl i => exact e
  | inr j =>
    have e' : T[j]? = some _ := e
    show (T ++ T')[j]? = _
    rw [List.getElem?_append_left (List.getElem?_eq_some_iff.mp e').1]
    exact e'
theorem zs_push {a : Addr} (h : Zs F σ S a) : Zs (F.push x) σ S a := h.elim .inl fun m => .inr (mt_cut m)

/-! ### slots -/
theorem wof_slot {T : List (V × SV)} {i : Nat} {v : V} {sv : SV} (e : σ[i]? = some (some v)) (e' : S[i]? = some (some sv)) : Wof T σ S (.inl i) = some (v, sv) := by
  show (match σ[i]?, S[i]? with
    | some (some v), some (some sv) => some (v, sv)
    | _, _ => none) = _
  rw [e, e']
theorem of_wof {T : List (V × SV)} {i : Nat} {v : V} {sv : SV} (h : Wof T σ S (.inl i) = some (v, sv)) : σ[i]? = some (some v) ∧ S[i]? = some (some sv) := by
  have h' : (match σ[i]?, S[i]? with
    | some (some v), some (some sv) => some (v, sv)
    | _, _ => none) = some (v, sv) := h
  split at h'
  · rename_i v' sv' e e'
    cases h'
    exact ⟨e, e'⟩
  · cases h'
theorem Rel.slot (R : Rel F H σ S) {i : Nat} {sv : SV} (e : S[i]? = some (some sv)) : ∃ v, σ[i]? = some (some v) ∧ Wof F.T σ S (.inl i) = some (v, sv) := by
  obtain ⟨v, h⟩ := R.has i sv e
  exact ⟨v, h, wof_slot h e⟩
theorem Rel.slotVal (R : Rel F H σ S) {i : Nat} {d : D} (e : S[i]? = some (some (.val d))) : ∃ v, σ[i]? = some (some v) ∧ Rep (Zs F σ S) H d v := by
  obtain ⟨v, h, hw⟩ := R.slot e
  exact ⟨v, h, R.w.val _ v d hw⟩
theorem Rel.slotMut (R : Rel F H σ S) {i : Nat} {sv : SV} (e : S[i]? = some (some sv)) (m : sv.isMut = true) : ∃ a, σ[i]? = some (some (.ref a)) ∧ OwnAt (Zs F σ S) H a sv.d := by
  obtain ⟨v, h, hw⟩ := R.slot e
  obtain ⟨a, rfl, _, o⟩ := R.w.mu _ v sv hw m
  exact ⟨a, h, o⟩
/-- may a slot be stored over -/
def freeSlot (S : DS) (i : Nat) : Prop := ∀ d, S[i]? ≠ some (some (.io d))
/-- the last temporary comes to a slot -/
theorem Rel.store (R : Rel (F.push x) H σ S) {i : Nat} (hi : i < σ.length) (fr : freeSlot S i) (nio : ∀ d, x.2 ≠ .io d) : Rel F H (σ.set i (some x.1)) (S.set i (some x.2)) := by
  obtain ⟨v, sv⟩ := x
  have hS : i < S.length := by rw [R.len]; exact hi
  refine ⟨by simp [R.len], fun j s e => ?_, R.iog, R.w.map (fun p => if p = .inl i then .inr F.T.length else p) (fun p y e => ?_) (fun p q hp hq h => ?_) fun p u d e => ?_⟩
  · by_cases h : j = i
    · subst h; exact ⟨v, by simp [hi]⟩
    · rw [List.getElem?_set_ne (Ne.symm h)] at e ⊢
      exact R.has j s e
  · by_cases h : p = .inl i
    · subst h
      rw [if_pos rfl]
      have hw : Wof F.T (σ.set i (some v)) (S.set i (some sv)) (.inl i) = some (v, sv) := wof_slot (by simp [hi]) (by simp [hS])
      have e' : some (v, sv) = some y := hw.symm.trans e
      rw [← e']
      show (F.T ++ [(v, sv)])[F.T.length]? = _
      simp
    · rw [if_neg h]
      cases p with
      | inl j =>
        have hj : j ≠ i := fun z => h (by rw [z])
        obtain ⟨u, s⟩ := y
        obtain ⟨e1, e2⟩ := of_wof e
        rw [List.getElem?_set_ne (Ne.symm hj)] at e1 e2
        exact wof_slot e1 e2
      | inr j =>
        have e' : F.T[j]? = some y := e
        show (F.T ++ [(v, sv)])[j]? = some y
        rw [List.getElem?_append_left (List.getElem?_eq_some_iff.mp e').1]
        exact e'
  · have lt : ∀ j, (∃ y, Wof F.T (σ.set i (some v)) (S.set i (some sv)) (.inr j) = some y) → j < F.T.length := fun j ⟨y, e⟩ => (List.getElem?_eq_some_iff.mp (show F.T[j]? = some y from e)).1
    by_cases h1 : p = .inl i
    · by_cases h2 : q = .inl i
      · rw [h1, h2]
      · rw [if_pos h1, if_neg h2] at h
        rw [← h] at hq
        exact absurd (lt _ hq) (Nat.lt_irrefl _)
    · by_cases h2 : q = .inl i
      · rw [if_neg h1, if_pos h2] at h
        rw [h] at hp
        exact absurd (lt _ hp) (Nat.lt_irrefl _)
      · rw [if_neg h1, if_neg h2] at h
        exact h
  · by_cases h : p = .inl i
    · subst h
      obtain ⟨_, e2⟩ := of_wof e
      rw [List.getElem?_set_self hS] at e2
      have e3 := Option.some.inj (Option.some.inj e2)
      exact (nio d e3).elim
    · exact if_neg h
/-- a slot is forgotten -/
theorem Rel.forget (R : Rel F H σ S) {i : Nat} : Rel F H σ (S.set i none) := by
  have sub : ∀ (j : Nat) sv, (S.set i none)[j]? = some (some sv) → S[j]? = some (some sv) := fun j sv e => by
    by_cases h : i = j
    · subst h
      by_cases h2 : i < S.length
      · rw [List.getElem?_set_self h2] at e; cases e
      · rw [List.getElem?_eq_none_iff.mpr (by simp; omega)] at e; cases e
    · rwa [List.getElem?_set_ne h] at e
  refine ⟨by simp [R.len], fun j sv e => R.has j sv (sub j sv e), R.iog, R.w.map id (fun p y e => ?_) (fun _ _ _ _ h => h) fun _ _ _ _ => rfl⟩
  cases p with
  | inl j =>
    obtain ⟨u, s⟩ := y
    obtain ⟨e1, e2⟩ := of_wof e
    exact wof_slot e1 (sub j s e2)
  | inr j => exact e
/-- an own thing is no longer changed -/
theorem Rel.freeze (R : Rel F H σ S) {i : Nat} {d : D} (e : S[i]? = some (some (.own d))) : Rel F H σ (S.set i (some (.val d))) := by
  obtain ⟨v, hv, hw⟩ := R.slot e
  obtain ⟨a, rfl, na, o⟩ := R.w.mu _ v _ hw rfl
  have hS : i < S.length := (List.getElem?_eq_some_iff.mp e).1
  have R1 : Rel F H σ (S.set i none) := R.forget
  have off : ¬ Zs F σ (S.set i none) a := fun z => z.elim na fun ⟨p, s, e2, m⟩ => by
    have e3 : Wof F.T σ S p = some (.ref a, s) := by
      cases p with
      | inl j =>
        obtain ⟨h1, h2⟩ := of_wof e2
        by_cases h : i = j
        · subst h; rw [List.getElem?_set_self hS] at h2; cases h2
        · rw [List.getElem?_set_ne h] at h2; exact wof_slot h1 h2
      | inr j => exact e2
    have hp := R.w.inj _ _ a s _ e3 hw m rfl
    subst hp
    obtain ⟨h1, h2⟩ := of_wof e2
    rw [List.getElem?_set_self hS] at h2; cases h2
  have sub : ∀ b, Zs F σ (S.set i none) b → Zs F σ S b := fun b z => z.elim .inl fun ⟨p, s, e2, m⟩ => .inr ⟨p, s, by
    cases p with
    | inl j =>
      obtain ⟨h1, h2⟩ := of_wof e2
      by_cases h : i = j
      · subst h; rw [List.getElem?_set_self hS] at h2; cases h2
      · rw [List.getElem?_set_ne h] at h2; exact wof_slot h1 h2
    | inr j => exact e2, m⟩
  have r : Rep (Zs F σ (S.set i none)) H d (.ref a) := o.rep off sub
  have R2 := (R1.pushVal r).store (i := i) (List.getElem?_eq_some_iff.mp hv).1 (fun d' z => by rw [List.getElem?_set_self hS] at z; cases z) (by simp)
  have eσ : σ.set i (some (V.ref a)) = σ := by
    apply List.ext_getElem?
    intro j
    by_cases h : i = j
    · subst h; rw [List.getElem?_set_self (List.getElem?_eq_some_iff.mp hv).1, hv]
    · rw [List.getElem?_set_ne h]
  rw [eσ, List.set_set] at R2
  exact R2
/-- a mutable thing in a slot is changed -/
theorem Rel.write (R : Rel F H σ S) {i : Nat} {a : Addr} {sv : SV} {d' : D} {o' : HO} (e : S[i]? = some (some sv)) (hv : σ[i]? = some (some (.ref a))) (m : sv.isMut = true) (mu : Mut (some o')) (k : ∀ b o, H b = some o → b ≠ a → H' b = some o)
    (r : OwnAt (Zs F σ S) H' a d') : Rel F H' σ (S.set i (some (sv.put d'))) := by
  have hS : i < S.length := (List.getElem?_eq_some_iff.mp e).1
  have hw : Wof F.T σ S (.inl i) = some (.ref a, sv) := wof_slot hv e
  have ed : (sv.put d').d = d' := by cases sv <;> first | rfl | cases m
  have ep : sv.put d' = sv.put (sv.put d').d := by rw [ed]
  have R1 := R.w.write (o' := o') hw m ep mu k (by rw [ed]; exact r)
  refine ⟨by simp [R.len], fun j s q => ?_, R.iog, ?_⟩
  · by_cases h : i = j
    · subst h; exact ⟨_, hv⟩
    · rw [List.getElem?_set_ne h] at q; exact R.has j s q
  · have eq : Wof F.T σ (S.set i (some (sv.put d'))) = setW (Wof F.T σ S) (.inl i) (some (.ref a, sv.put d')) := by
      funext p
      by_cases h : p = .inl i
      · subst h; rw [setW_same]; exact wof_slot hv (by simp [hS])
      · rw [setW_ne h]
        cases p with
        | inl j =>
          have hj : i ≠ j := fun z => h (by rw [z])
          show (match σ[j]?, (S.set i (some (sv.put d')))[j]? with
            | some (some v), some (some sv) => some (v, sv)
            | _, _ => none) = _
          rw [List.getElem?_set_ne hj]
          rfl
        | inr j => rfl
    rw [eq]; exact R1
end
end DL
set_option Elab.async false
set_option linter.all false
set_option maxRecDepth 100000
set_option maxHeartbeats 1000000
/-! Layer D: judgements; names, constants, operators, tests, arguments. -/
namespace DL
open PySem PySem.Spec PyProof.Rows L2

/-- what an expression gives: a value, an own (new) thing, or what the slot i holds -/
inductive EV where
  | val (d : D) | own (d : D) | bor (i : Nat)
def EV.sv : EV → SV
  | .val d => .val d
  | .own d => .own d
  | .bor _ => .any
def EvAt (σ : L2.St) : EV → V → Prop
  | .bor i, v => σ[i]? = some (some v)
  | _, _ => True
/-- what it holds now -/
def cont (S : DS) : EV → Option D
  | .val d => some d
  | .own d => some d
  | .bor i => match S[i]? with
    | some (some (.val d)) => some d
    | some (some (.own d)) => some d
    | some (some (.io d)) => some d
    | _ => none
abbrev DM := DS → (EV → DS → Prop) → Prop
abbrev DTm := DS → (Bool → DS → Prop) → Prop
abbrev DAm := DS → (List EV → DS → Prop) → Prop
structure DEnds where
  nx : DS → Prop
  rt : EV → DS → Prop
  bk : DS → Prop := fun _ => False
  ct : DS → Prop := fun _ => False
abbrev DSm := DEnds → DS → Prop
def Mono (m : DM) : Prop := ∀ S P P', (∀ ev S', P ev S' → P' ev S') → m S P → m S P'
def MonoT (m : DTm) : Prop := ∀ S P P', (∀ b S', P b S' → P' b S') → m S P → m S P'
def MonoA (m : DAm) : Prop := ∀ S P P', (∀ es S', P es S' → P' es S') → m S P → m S P'
structure DEnds.Le (D D' : DEnds) : Prop where
  nx : ∀ S, D.nx S → D'.nx S
  rt : ∀ ev S, D.rt ev S → D'.rt ev S
  bk : ∀ S, D.bk S → D'.bk S
  ct : ∀ S, D.ct S → D'.ct S
def MonoS (m : DSm) : Prop := ∀ D D' S, DEnds.Le D D' → m D S → m D' S

/-- what never changes in a body: foreign things to keep off, the heap at the entry -/
structure Gb where
  N : List (Addr × Str)
  IO : Addr → Prop
  Z : Addr → Prop
  H0 : Hp
def Fr.gb (F : Fr) : Gb := ⟨F.N, F.IO, F.Z, F.H0⟩
def Fr.pushs (F : Fr) (xs : List (V × SV)) : Fr := { F with T := F.T ++ xs }
def PostE (F : Fr) (σ : L2.St) (Q : VK) : EV → DS → Prop := fun ev S' => ∀ v H', Rel (F.push (v, ev.sv)) H' σ S' → EvAt σ ev v → Q v H'
def PostT (F : Fr) (σ : L2.St) (Q : Bool → Hp → Prop) : Bool → DS → Prop := fun b S' => ∀ H', Rel F H' σ S' → Q b H'
abbrev sval (x : V × EV) : V × SV := (x.1, x.2.sv)
def PostA (F : Fr) (σ : L2.St) (Q : List V → Hp → Prop) : List EV → DS → Prop := fun es S' =>
  ∀ (xs : List (V × EV)) H', xs.map (·.2) = es → Rel (F.pushs (xs.map sval)) H' σ S' → (∀ x ∈ xs, EvAt σ x.2 x.1) → Q (xs.map (·.1)) H'
def tD (G : Gb) (m : DM) : TE := fun σ H Q => ∃ F S, F.gb = G ∧ Rel F H σ S ∧ m S (PostE F σ Q)
def tDT (G : Gb) (m : DTm) : TT := fun σ H Q => ∃ F S, F.gb = G ∧ Rel F H σ S ∧ m S (PostT F σ Q)
def tDA (G : Gb) (m : DAm) : TA := fun σ H Q => ∃ F S, F.gb = G ∧ Rel F H σ S ∧ m S (PostA F σ Q)
def EndsOf (F : Fr) (D : Ends) : DEnds where
  nx := fun S' => ∀ σ' H', Rel F H' σ' S' → D.nx σ' H'
  rt := fun ev S' => ∀ v σ' H', Rel (F.push (v, ev.sv)) H' σ' S' → EvAt σ' ev v → D.rt v H'
  bk := fun S' => ∀ σ' H', Rel F H' σ' S' → D.bk σ' H'
  ct := fun S' => ∀ σ' H', Rel F H' σ' S' → D.ct σ' H'
def tDS (G : Gb) (m : DSm) : TS := fun D σ H => ∃ F S, F.gb = G ∧ Rel F H σ S ∧ m (EndsOf F D) S

structure DE (X : Cx) (G : Gb) (e : Expr) (m : DM) : Prop where
  run : PE X e (tD G m)
  mono : Mono m
structure DT (X : Cx) (G : Gb) (e : Expr) (m : DTm) : Prop where
  run : PT X e (tDT G m)
  mono : MonoT m
structure DW (X : Cx) (G : Gb) (e : Expr) (m : DTm) : Prop where
  run : PW X e (tDT G m)
  mono : MonoT m
structure DA (X : Cx) (G : Gb) (es : List Expr) (m : DAm) : Prop where
  run : PA X es (tDA G m)
  mono : MonoA m
structure DStm (X : Cx) (G : Gb) (st : Stmt) (m : DSm) : Prop where
  run : PS X st (tDS G m)
  mono : MonoS m
structure DBlk (X : Cx) (G : Gb) (sts : List Stmt) (m : DSm) : Prop where
  run : PSs X sts (tDS G m)
  mono : MonoS m

/-! ### other readings -/
section
variable {X : Cx} {e : Expr} {es : List Expr} {st : Stmt} {sts : List Stmt}
theorem pe_of {t t' : TE} (h : PE X e t) (k : ∀ σ H Q, t' σ H Q → t σ H Q) : PE X e t' := ⟨fun pins s σ H Q I q => h.run pins s σ H Q I (k σ H Q q)⟩
theorem pt_of {t t' : TT} (h : PT X e t) (k : ∀ σ H Q, t' σ H Q → t σ H Q) : PT X e t' := ⟨fun pins s σ H Q I q => h.run pins s σ H Q I (k σ H Q q)⟩
theorem pw_of {t t' : TT} (h : PW X e t) (k : ∀ σ H Q, t' σ H Q → t σ H Q) : PW X e t' := ⟨fun wh pins s σ H Q I q => h.run wh pins s σ H Q I (k σ H Q q)⟩
theorem pa_of {t t' : TA} (h : PA X es t) (k : ∀ σ H Q, t' σ H Q → t σ H Q) : PA X es t' := ⟨fun p pins s σ H Q I q => h.run p pins s σ H Q I (k σ H Q q)⟩
theorem ps_of {t t' : TS} (h : PS X st t) (k : ∀ D σ H, t' D σ H → t D σ H) : PS X st t' := ⟨fun pins s σ H D I q => h.run pins s σ H D I (k D σ H q)⟩
theorem pss_of {t t' : TS} (h : PSs X sts t) (k : ∀ D σ H, t' D σ H → t D σ H) : PSs X sts t' := ⟨fun pins s σ H D I q => h.run pins s σ H D I (k D σ H q)⟩
end

/-! ### reading a value at its top -/
/-- as Rep, the top thing itself may be anybody's -/
def Top (Z : Addr → Prop) (H : Hp) : D → V → Prop
  | .lst ds, v => ∃ a vs, v = .ref a ∧ H a = some (.lst vs) ∧ Reps Z H ds vs
  | .dic ks us, v => ∃ a kvs, v = .ref a ∧ Rd H a (.dK kvs) ∧ ks = kvs.map (fun p => keyD p.1) ∧ Reps Z H us (kvs.map (·.2))
  | .obj C ns us, v => ∃ a dx vs, v = .ref a ∧ H a = some (.ins C dx (ns.zip vs)) ∧ Reps Z H us vs
  | d, v => Rep Z H d v
theorem Rep.top {Z : Addr → Prop} {H : Hp} {d : D} {v : V} (h : Rep Z H d v) : Top Z H d v := by
  cases d <;> simp only [Top] <;> first | exact h | skip
  · simp only [Rep] at h
    obtain ⟨a, vs, e, r, q⟩ := h
    exact ⟨a, vs, e, r.1, q⟩
  · simp only [Rep] at h
    obtain ⟨a, kvs, e, r, e2, q⟩ := h
    exact ⟨a, kvs, e, r.rd, e2, q⟩
  · simp only [Rep] at h
    obtain ⟨a, dx, vs, e, r, q⟩ := h
    exact ⟨a, dx, vs, e, r.1, q⟩
theorem OwnAt.top {Z : Addr → Prop} {H : Hp} {a : Addr} {d : D} (h : OwnAt Z H a d) : Top Z H d (.ref a) := by
  cases d <;> simp only [OwnAt] at h <;> simp only [Top]
  · obtain ⟨vs, e, q⟩ := h; exact ⟨a, vs, rfl, e, q⟩
  · obtain ⟨kvs, e, e2, q⟩ := h; exact ⟨a, kvs, rfl, .inl e, e2, q⟩
  · obtain ⟨dx, vs, e, q⟩ := h; exact ⟨a, dx, vs, rfl, e, q⟩
theorem Top.less {Z Z' : Addr → Prop} {H : Hp} {d : D} {v : V} (h : Top Z H d v) (zz : ∀ a, Z' a → Z a) : Top Z' H d v := by
  cases d <;> simp only [Top] at h ⊢ <;> first | exact Rep.less h zz | skip
  · obtain ⟨a, vs, e, r, q⟩ := h; exact ⟨a, vs, e, r, q.less zz⟩
  · obtain ⟨a, kvs, e, r, e2, q⟩ := h; exact ⟨a, kvs, e, r, e2, q.less zz⟩
  · obtain ⟨a, dx, vs, e, r, q⟩ := h; exact ⟨a, dx, vs, e, r, q.less zz⟩

section
variable {F : Fr} {H : Hp} {σ : L2.St} {S : DS}
/-- a temporary, read -/
theorem Rel.topT (R : Rel F H σ S) {n : Nat} {v : V} {ev : EV} {d : D} (e : F.T[n]? = some (v, ev.sv)) (ha : EvAt σ ev v) (hc : cont S ev = some d) : Top (Zs F σ S) H d v := by
  have slot : ∀ {i : Nat} {sv : SV}, σ[i]? = some (some v) → S[i]? = some (some sv) → (∀ d, sv = .val d → Rep (Zs F σ S) H d v) ∧ (sv.isMut = true → ∃ a, v = .ref a ∧ OwnAt (Zs F σ S) H a sv.d) := fun {i sv} h1 h2 => by
    have hw : Wof F.T σ S (.inl i) = some (v, sv) := wof_slot h1 h2
    refine ⟨fun d q => ?_, fun m => ?_⟩
    · subst q; exact R.w.val _ v d hw
    · obtain ⟨a, ea, _, o⟩ := R.w.mu _ v sv hw m
      exact ⟨a, ea, o⟩
  cases ev with
  | val d' =>
    cases hc
    exact (R.w.val (.inr n) v _ e).top
  | own d' =>
    cases hc
    obtain ⟨a, rfl, _, o⟩ := R.w.mu (.inr n) v _ e rfl
    exact OwnAt.top o
  | bor i =>
    have ha : σ[i]? = some (some v) := ha
    have hc : (match S[i]? with
      | some (some (.val d)) => some d
      | some (some (.own d)) => some d
      | some (some (.io d)) => some d
      | _ => none) = some d := hc
    split at hc
    · rename_i d' q
      cases hc
      exact ((slot ha q).1 _ rfl).top
    · rename_i d' q
      cases hc
      obtain ⟨a, rfl, o⟩ := (slot ha q).2 rfl
      exact OwnAt.top o
    · rename_i d' q
      cases hc
      obtain ⟨a, rfl, o⟩ := (slot ha q).2 rfl
      exact OwnAt.top o
    · cases hc
theorem zs_cut {xs : List (V × SV)} {a : Addr} (h : Zs F σ S a) : Zs (F.pushs xs) σ S a := h.elim .inl fun m => .inr (mt_cut m)
theorem Rel.cuts {xs : List (V × SV)} (R : Rel (F.pushs xs) H σ S) : Rel F H σ S := R.cut (T' := xs)
/-- the last temporary, read -/
theorem Rel.top1 {v : V} {ev : EV} {d : D} (R : Rel (F.push (v, ev.sv)) H σ S) (ha : EvAt σ ev v) (hc : cont S ev = some d) : Top (Zs F σ S) H d v :=
  (R.topT (n := F.T.length) (by simp [Fr.push]) ha hc).less fun _ z => zs_push z
theorem Rel.top2 {v v' : V} {ev ev' : EV} {d d' : D} (R : Rel ((F.push (v, ev.sv)).push (v', ev'.sv)) H σ S) (ha : EvAt σ ev v) (ha' : EvAt σ ev' v') (hc : cont S ev = some d) (hc' : cont S ev' = some d') :
    Top (Zs F σ S) H d v ∧ Top (Zs F σ S) H d' v' :=
  ⟨(R.topT (n := F.T.length) (by simp [Fr.push]) ha hc).less fun _ z => zs_push (zs_push z), (R.topT (n := F.T.length + 1) (by simp [Fr.push]) ha' hc').less fun _ z => zs_push (zs_push z)⟩
/-- all of some temporaries, read -/
inductive Tops (Z : Addr → Prop) (H : Hp) : List D → List V → Prop
  | nil : Tops Z H [] []
  | cons {d : D} {v : V} {ds : List D} {vs : List V} : Top Z H d v → Tops Z H ds vs → Tops Z H (d :: ds) (v :: vs)
def conts (S : DS) : List EV → Option (List D)
  | [] => some []
  | e :: es => match cont S e, conts S es with
    | some d, some ds => some (d :: ds)
    | _, _ => none
theorem conts_cons {e : EV} {es : List EV} {ds : List D} (h : conts S (e :: es) = some ds) : ∃ d r, ds = d :: r ∧ cont S e = some d ∧ conts S es = some r := by
  have h' : (match cont S e, conts S es with
    | some d, some ds => some (d :: ds)
    | _, _ => none) = some ds := h
  split at h'
  · rename_i d r e1 e2
    cases h'
    exact ⟨d, r, rfl, e1, e2⟩
  · cases h'
theorem Rel.tops0 : ∀ {xs : List (V × EV)} {F : Fr} {ds : List D}, Rel (F.pushs (xs.map sval)) H σ S → (∀ x ∈ xs, EvAt σ x.2 x.1) → conts S (xs.map (·.2)) = some ds → Tops (Zs (F.pushs (xs.map sval)) σ S) H ds (xs.map (·.1)) := fun {xs F ds} R ha hc => by
  have main : ∀ (ys : List (V × EV)) (n : Nat) (ds : List D), (∀ (i : Nat) y, ys[i]? = some y → (F.pushs (xs.map sval)).T[n + i]? = some (sval y)) → (∀ y ∈ ys, EvAt σ y.2 y.1) → conts S (ys.map (·.2)) = some ds → Tops (Zs (F.pushs (xs.map sval)) σ S) H ds (ys.map (·.1)) := by
    intro ys
    induction ys with
    | nil =>
      intro n ds _ _ hc
      cases hc
      exact .nil
    | cons y ys ih =>
      intro n ds hT hy hc
      obtain ⟨d, r, rfl, e1, e2⟩ := conts_cons hc
      exact .cons (R.topT (n := n) (v := y.1) (ev := y.2) (by have := hT 0 y rfl; simpa using this) (hy y List.mem_cons_self) e1)
        (ih (n + 1) r (fun i z e => by have := hT (i + 1) z (by simpa using e); rw [show n + 1 + i = n + (i + 1) by omega]; exact this) (fun z hz => hy z (List.mem_cons_of_mem _ hz)) e2)
  refine main xs F.T.length ds (fun i y e => ?_) ha hc
  show (F.T ++ xs.map sval)[F.T.length + i]? = _
  rw [List.getElem?_append_right (by omega)]
  simp [e]
theorem Tops.less {Z Z' : Addr → Prop} {H : Hp} (zz : ∀ a, Z' a → Z a) : ∀ {ds : List D} {vs : List V}, Tops Z H ds vs → Tops Z' H ds vs
  | _, _, .nil => .nil
  | _, _, .cons h t => .cons (h.less zz) (Tops.less zz t)
theorem Rel.tops {xs : List (V × EV)} {F : Fr} {ds : List D} (R : Rel (F.pushs (xs.map sval)) H σ S) (ha : ∀ x ∈ xs, EvAt σ x.2 x.1) (hc : conts S (xs.map (·.2)) = some ds) : Tops (Zs F σ S) H ds (xs.map (·.1)) :=
  (R.tops0 ha hc).less fun _ z => zs_cut z
/-- other temporaries that stand among these -/
theorem Rel.subT {T T' : List (V × SV)} {N : List (Addr × Str)} {IO Z : Addr → Prop} {H0 : Hp} {io : Nat → Option Addr} (R : Rel ⟨N, IO, Z, H0, io, T⟩ H σ S) (f : Nat → Nat) (h : ∀ (j : Nat) x, T'[j]? = some x → T[f j]? = some x) (fi : ∀ i j, i < T'.length → j < T'.length → f i = f j → i = j) : Rel ⟨N, IO, Z, H0, io, T'⟩ H σ S := by
  refine ⟨R.len, R.has, R.iog, R.w.map (fun p => match p with
    | .inl i => .inl i
    | .inr j => .inr (f j)) (fun p x e => ?_) (fun p q hp hq hh => ?_) fun p u c e => ?_⟩
  · cases p with
    | inl i => exact e
    | inr j => exact h j x e
  · cases p with
    | inl i => cases q with
      | inl j => exact hh
      | inr j =>
        have h' : (Sum.inl i : Ix) = .inr (f j) := hh
        exact absurd h' (by simp)
    | inr i => cases q with
      | inl j =>
        have h' : (Sum.inr (f i) : Ix) = .inl j := hh
        exact absurd h' (by simp)
      | inr j =>
        obtain ⟨x, hp⟩ := hp
        obtain ⟨y, hq⟩ := hq
        have hh : (Sum.inr (f i) : Ix) = .inr (f j) := hh
        have e : f i = f j := Sum.inr.inj hh
        rw [fi i j (List.getElem?_eq_some_iff.mp (show T'[i]? = some x from hp)).1 (List.getElem?_eq_some_iff.mp (show T'[j]? = some y from hq)).1 e]
  · cases p with
    | inl i => rfl
    | inr j =>
      exfalso
      obtain ⟨a, rfl, _, _⟩ := R.w.mu (.inr (f j)) u _ (h j _ e) rfl
      obtain ⟨i, ei, _⟩ := R.w.ioo (.inr (f j)) a c (h j _ e)
      cases ei
theorem Rel.dropMid {xs : List (V × SV)} {F : Fr} {x : V × SV} (R : Rel ((F.pushs xs).push x) H σ S) : Rel (F.push x) H σ S := by
  refine Rel.subT (T := F.T ++ xs ++ [x]) R (fun j => if j < F.T.length then j else F.T.length + xs.length) (fun j y e => ?_) fun i j hi hj e => ?_
  · by_cases h : j < F.T.length
    · rw [if_pos h, List.append_assoc, List.getElem?_append_left h]
      rw [List.getElem?_append_left h] at e; exact e
    · rw [if_neg h]
      have hj : j = F.T.length := by
        have := (List.getElem?_eq_some_iff.mp e).1
        simp at this; omega
      subst hj
      simp at e
      simp [e]
  · simp at hi hj
    split at e <;> split at e <;> omega
end

/-! ### results -/
/-- a result: a value that keeps off Z, or a new thing -/
def RvAt (Z : Addr → Prop) (H H' : Hp) : EV → V → Prop
  | .val d, v => Rep Z H' d v
  | .own d, v => ∃ a, v = .ref a ∧ H a = none ∧ OwnAt (fun b => Z b ∨ b = a) H' a d
  | .bor _, _ => False
section
variable {F : Fr} {H H' : Hp} {σ : L2.St} {S : DS}
theorem Rel.result (R : Rel F H σ S) (k : Same H H') {ev : EV} {v : V} (r : RvAt (Zs F σ S) H H' ev v) : Rel (F.push (v, ev.sv)) H' σ S ∧ EvAt σ ev v := by
  cases ev with
  | val d => exact ⟨(R.grow k).pushVal (show Rep _ _ _ _ from r), trivial⟩
  | own d =>
    obtain ⟨a, rfl, n, o⟩ := r
    exact ⟨R.pushOwn k n o, trivial⟩
  | bor i => exact r.elim
end

/-! ### names and constants -/
section
variable {X : Cx} {G : Gb} {e a b : Expr} {ma mb : DM} {pos : Pos}
/-- the name in slot i -/
def dVar (i : Nat) : DM := fun S Q => ∃ sv, S[i]? = some (some sv) ∧ match sv with
  | .val d => Q (.val d) S
  | .own _ => Q (.bor i) S
  | .io _ => Q (.bor i) S
  | .any => False
theorem dVar_val {i : Nat} {S : DS} {Q : EV → DS → Prop} {d : D} (e : S[i]? = some (some (.val d))) (h : Q (.val d) S) : dVar i S Q := ⟨_, e, h⟩
theorem mono_var {i : Nat} : Mono (dVar i) := fun S P P' k ⟨sv, e, h⟩ => by
  refine ⟨sv, e, ?_⟩
  cases sv <;> first | exact k _ _ h | exact h
theorem de_var (i : Nat) {x : Str} (hN : X.N[i]? = some x := by rfl) (hv : Vis X.env.scope x := by first | exact Or.inl rfl | exact Or.inr (Or.inl rfl) | exact Or.inr (Or.inr rfl)) (hd : (x == ("__debug__" : Str)) = false := by decide)
    (hcd : (x == ("__classdict__" : Str)) = false := by decide) : DE X G (.Name x pos) (dVar i) := by
  refine ⟨pe_of (pe_var hN hv hd hcd) fun σ H Q => ?_, mono_var⟩
  rintro ⟨F, S, hG, R, sv, e, h⟩
  obtain ⟨v, hs, hw⟩ := R.slot e
  refine ⟨v, hs, ?_⟩
  cases sv with
  | val d => exact h v H (R.pushVal (R.w.val _ v d hw)) trivial
  | own d => exact h v H R.pushAny hs
  | io d => exact h v H R.pushAny hs
  | any => exact h.elim
def dC (d : D) : DM := fun S Q => Q (.val d) S
theorem mono_c {d : D} : Mono (dC d) := fun S P P' k h => k _ _ h
/-- a thing without a heap -/
theorem de_c {d : D} {v : V} (h : PE X e (tC v)) (r : ∀ Z H, Rep Z H d v) : DE X G e (dC d) := by
  refine ⟨pe_of h fun σ H Q => ?_, mono_c⟩
  rintro ⟨F, S, hG, R, q⟩
  exact q v H (R.pushVal (r _ _)) trivial
theorem de_int {i : Int} {j : Nat} : DE X G (.Constant (.int i) j pos) (dC (.int i)) := de_c pe_int fun _ _ => by simp only [Rep]
theorem de_bl {i : Bool} {j : Nat} : DE X G (.Constant (.bool i) j pos) (dC (.bl i)) := de_c pe_bl fun _ _ => by simp only [Rep]
theorem de_non {j : Nat} : DE X G (.Constant .none j pos) (dC .non) := de_c pe_non fun _ _ => by simp only [Rep]
theorem de_str {x : Str} {j : Nat} : DE X G (.Constant (.str x) j pos) (dC (.str x)) := de_c pe_str fun _ _ => by simp only [Rep]
theorem de_gstr {x z : Str} {t : Tok} (hg : Gl X x) (hm : X.mg x = some (.str z t)) (hd : (x == ("__debug__" : Str)) = false := by decide) : DE X G (.Name x pos) (dC (.str z)) := de_c (v := .str z) (pe_glob hg hm ⟨t, rfl⟩ hd) fun _ _ => by simp only [Rep]

/-! ### operators -/
/-- an operator by values: f tells the result -/
def OpD (r : R2) (f : D → D → Option EV) : Prop := ∀ (Z : Addr → Prop) (H : Hp) (x y : V) (c d : D) (ev : EV) (Q : VK), Top Z H c x → Top Z H d y → f c d = some ev → (∀ v H', Same H H' → RvAt Z H H' ev v → Q v H') → r x y H Q
def dBin (f : D → D → Option EV) (ma mb : DM) : DM := fun S Q => ma S fun ea S1 => mb S1 fun eb S2 => ∃ c d ev, cont S2 ea = some c ∧ cont S2 eb = some d ∧ f c d = some ev ∧ Q ev S2
theorem mono_bin {f : D → D → Option EV} (h1 : Mono ma) (h2 : Mono mb) : Mono (dBin f ma mb) := fun S P P' k h => h1 _ _ _ (fun ea S1 q => h2 _ _ _ (fun eb S2 ⟨c, d, ev, e1, e2, e3, p⟩ => ⟨c, d, ev, e1, e2, e3, k _ _ p⟩) q) h
theorem tOp_of {r : R2} {f : D → D → Option EV} (hd : OpD r f) (h1 : Mono ma) (h2 : Mono mb) {σ : L2.St} {H : Hp} {Q : VK} (h : tD G (dBin f ma mb) σ H Q) : tOp r (tD G ma) (tD G mb) σ H Q := by
  obtain ⟨F, S, hG, R, h⟩ := h
  refine ⟨F, S, hG, R, h1 _ _ _ (fun ea S1 q v1 H1 R1 a1 => ?_) h⟩
  refine ⟨F.push (v1, ea.sv), S1, hG, R1, h2 _ _ _ (fun eb S2 p v2 H2 R2 a2 => ?_) q⟩
  obtain ⟨c, d, ev, e1, e2, e3, p⟩ := p
  obtain ⟨t1, t2⟩ := R2.top2 a1 a2 e1 e2
  refine hd _ H2 v1 v2 c d ev Q t1 t2 e3 fun v H' k r => ?_
  obtain ⟨R3, a3⟩ := R2.pop.pop.result k r
  exact p v H' R3 a3
theorem de_op {op : Operator} {r : R2} {f : D → D → Option EV} (ho : OpR X (binaryOp op) r) (hd : OpD r f) (ha : DE X G a ma) (hb : DE X G b mb) : DE X G (.BinOp a op b pos) (dBin f ma mb) :=
  ⟨pe_of (pe_op ho ha.run hb.run) fun _ _ _ => tOp_of hd ha.mono hb.mono, mono_bin ha.mono hb.mono⟩
theorem de_cmp {op : CmpOp} {r : R2} {f : D → D → Option EV} (ho : OpR X (compareOp op) r) (hd : OpD r f) (ha : DE X G a ma) (hb : DE X G b mb) (hm : behindInMarks op b = false) : DE X G (.Compare a [op] [b] pos) (dBin f ma mb) :=
  ⟨pe_of (pe_cmpR ho ha.run hb.run hm) fun _ _ _ => tOp_of hd ha.mono hb.mono, mono_bin ha.mono hb.mono⟩
theorem de_ix {r : R2} {f : D → D → Option EV} (ho : IxR X r) (hd : OpD r f) (ha : DE X G a ma) (hb : DE X G b mb) (hs : PlainIx b) : DE X G (.Subscript a b pos) (dBin f ma mb) :=
  ⟨pe_of (pe_ix ho ha.run hb.run hs) fun _ _ _ => tOp_of hd ha.mono hb.mono, mono_bin ha.mono hb.mono⟩
/-- one operand -/
def UnD (r : V → Hp → VK → Prop) (f : D → Option EV) : Prop := ∀ (Z : Addr → Prop) (H : Hp) (x : V) (c : D) (ev : EV) (Q : VK), Top Z H c x → f c = some ev → (∀ v H', Same H H' → RvAt Z H H' ev v → Q v H') → r x H Q
def dUn (f : D → Option EV) (ma : DM) : DM := fun S Q => ma S fun ea S1 => ∃ c ev, cont S1 ea = some c ∧ f c = some ev ∧ Q ev S1
theorem mono_un {f : D → Option EV} (h1 : Mono ma) : Mono (dUn f ma) := fun S P P' k h => h1 _ _ _ (fun ea S1 ⟨c, ev, e1, e2, p⟩ => ⟨c, ev, e1, e2, k _ _ p⟩) h
theorem tUn_of {r : V → Hp → VK → Prop} {f : D → Option EV} (hd : UnD r f) (h1 : Mono ma) {σ : L2.St} {H : Hp} {Q : VK} (h : tD G (dUn f ma) σ H Q) : tUn r (tD G ma) σ H Q := by
  obtain ⟨F, S, hG, R, h⟩ := h
  refine ⟨F, S, hG, R, h1 _ _ _ (fun ea S1 q v1 H1 R1 a1 => ?_) h⟩
  obtain ⟨c, ev, e1, e2, p⟩ := q
  refine hd _ H1 v1 c ev Q (R1.top1 a1 e1) e2 fun v H' k r => ?_
  obtain ⟨R3, a3⟩ := R1.pop.result k r
  exact p v H' R3 a3
theorem de_un {op : UnaryOp} {r : V → Hp → VK → Prop} {f : D → Option EV} (ho : UnR X (unaryOp op) r) (hd : UnD r f) (ha : DE X G a ma) : DE X G (.UnaryOp op a pos) (dUn f ma) :=
  ⟨pe_of (pe_un ho ha.run) fun _ _ _ => tUn_of hd ha.mono, mono_un ha.mono⟩

/-! ### tests -/
/-- an expression that is True or False -/
def dB (m : DM) : DTm := fun S Q => m S fun ev S' => ∃ k, ev = .val (.bl k) ∧ Q k S'
theorem mono_b {m : DM} (h : Mono m) : MonoT (dB m) := fun S P P' k q => h _ _ _ (fun ev S' ⟨c, e, p⟩ => ⟨c, e, k _ _ p⟩) q
theorem tB_of {m : DM} (h : Mono m) {σ : L2.St} {H : Hp} {Q : Bool → Hp → Prop} (q : tDT G (dB m) σ H Q) : L2.tB (tD G m) σ H Q := by
  obtain ⟨F, S, hG, R, q⟩ := q
  refine ⟨F, S, hG, R, h _ _ _ (fun ev S' ⟨k, e, p⟩ v H' R' _ => ?_) q⟩
  subst e
  have hr : Rep (Zs (F.push (v, .val (.bl k))) σ S') H' (.bl k) v := R'.w.val (.inr F.T.length) v _ (by show (F.T ++ [_])[F.T.length]? = _; simp [EV.sv])
  simp only [Rep] at hr
  exact ⟨k, hr, p H' R'.pop⟩
theorem dt_val {m : DM} (h : DE X G e m) (he : ∀ whole, isTrue e X.env whole = (do let v ← whole; standAt e.pos; holding [v] (truthy v)) := by intro _; rfl) : DT X G e (dB m) :=
  ⟨pt_of (pt_val h.run he) fun _ _ _ => tB_of h.mono, mono_b h.mono⟩
theorem dt_cmp {op : CmpOp} {r : R2} {f : D → D → Option EV} (ho : OpR X (compareOp op) r) (hd : OpD r f) (ha : DE X G a ma) (hb : DE X G b mb) (hm : behindInMarks op b = false) : DT X G (.Compare a [op] [b] pos) (dB (dBin f ma mb)) := by
  refine ⟨pt_of (pt_cmpR ho ha.run hb.run hm) fun σ H Q q => ?_, mono_b (mono_bin ha.mono hb.mono)⟩
  have h := tB_of (mono_bin ha.mono hb.mono) q
  exact tOp_of hd ha.mono hb.mono h
variable {mt mt' : DTm} {rest : List Expr}
def dAnd (m m' : DTm) : DTm := fun S Q => m S fun c S1 => if c = true then m' S1 Q else Q false S1
def dOr (m m' : DTm) : DTm := fun S Q => m S fun c S1 => if c = true then Q true S1 else m' S1 Q
def dNot (m : DTm) : DTm := fun S Q => m S fun c S1 => Q (!c) S1
theorem dw_and1 (h : DT X G a mt) : DW X G (.BoolOp .And [a] pos) mt := ⟨pw_and1 h.run, h.mono⟩
theorem dw_or1 (h : DT X G a mt) : DW X G (.BoolOp .Or [a] pos) mt := ⟨pw_or1 h.run, h.mono⟩
theorem dw_and (h : DT X G a mt) (h' : DW X G (.BoolOp .And (b :: rest) pos) mt') : DW X G (.BoolOp .And (a :: b :: rest) pos) (dAnd mt mt') := by
  refine ⟨pw_of (pw_and h.run h'.run) fun σ H Q => ?_, fun S P P' k q => h.mono _ _ _ (fun c S1 p => ?_) q⟩
  · rintro ⟨F, S, hG, R, q⟩
    refine ⟨F, S, hG, R, h.mono _ _ _ (fun c S1 p H1 R1 => ?_) q⟩
    cases c with
    | true => exact ⟨F, S1, hG, R1, p⟩
    | false => exact p H1 R1
  · cases c with
    | true => exact h'.mono _ _ _ k p
    | false => exact k _ _ p
theorem dw_or (h : DT X G a mt) (h' : DW X G (.BoolOp .Or (b :: rest) pos) mt') : DW X G (.BoolOp .Or (a :: b :: rest) pos) (dOr mt mt') := by
  refine ⟨pw_of (pw_or h.run h'.run) fun σ H Q => ?_, fun S P P' k q => h.mono _ _ _ (fun c S1 p => ?_) q⟩
  · rintro ⟨F, S, hG, R, q⟩
    refine ⟨F, S, hG, R, h.mono _ _ _ (fun c S1 p H1 R1 => ?_) q⟩
    cases c with
    | true => exact p H1 R1
    | false => exact ⟨F, S1, hG, R1, p⟩
  · cases c with
    | true => exact k _ _ p
    | false => exact h'.mono _ _ _ k p
theorem dt_w (h : DW X G e mt) : DT X G e mt := ⟨h.run.pt, h.mono⟩
theorem dt_not (h : DT X G a mt) : DT X G (.UnaryOp .Not a pos) (dNot mt) := by
  refine ⟨pt_of (pt_not h.run) fun σ H Q => ?_, fun S P P' k q => h.mono _ _ _ (fun c S1 p => k _ _ p) q⟩
  rintro ⟨F, S, hG, R, q⟩
  exact ⟨F, S, hG, R, h.mono _ _ _ (fun c S1 p H1 R1 => p H1 R1) q⟩
/-- .. as values: True and False -/
def dAndV (m m' : DM) : DM := fun S Q => m S fun ev S1 => ∃ k, ev = .val (.bl k) ∧ if k = true then m' S1 Q else Q (.val (.bl false)) S1
def dOrV (m m' : DM) : DM := fun S Q => m S fun ev S1 => ∃ k, ev = .val (.bl k) ∧ if k = true then Q (.val (.bl true)) S1 else m' S1 Q
def dNotV (m : DM) : DM := fun S Q => m S fun ev S1 => ∃ k, ev = .val (.bl k) ∧ Q (.val (.bl (!k))) S1
theorem blAt {F : Fr} {H : Hp} {σ : L2.St} {S : DS} {v : V} {k : Bool} (R : Rel (F.push (v, EV.sv (.val (.bl k)))) H σ S) : v = .bl k := by
  have hr : Rep (Zs (F.push (v, .val (.bl k))) σ S) H (.bl k) v := R.w.val (.inr F.T.length) v _ (by show (F.T ++ [_])[F.T.length]? = _; simp [EV.sv])
  simpa only [Rep] using hr
theorem rep_bl {Z : Addr → Prop} {H : Hp} {k : Bool} : Rep Z H (.bl k) (.bl k) := by simp only [Rep]
theorem de_one {op : BoolOp} {m : DM} (h : DE X G a m) : DE X G (.BoolOp op [a] pos) m := ⟨pe_one h.run, h.mono⟩
theorem de_and (h : DE X G a ma) (h' : DE X G (.BoolOp .And (b :: rest) pos) mb) : DE X G (.BoolOp .And (a :: b :: rest) pos) (dAndV ma mb) := by
  refine ⟨pe_of (pe_and h.run h'.run) fun σ H Q => ?_, fun S P P' k q => h.mono _ _ _ (fun ev S1 ⟨c, e, p⟩ => ⟨c, e, ?_⟩) q⟩
  · rintro ⟨F, S, hG, R, q⟩
    refine ⟨F, S, hG, R, h.mono _ _ _ (fun ev S1 ⟨c, e, p⟩ v H1 R1 _ => ?_) q⟩
    subst e
    refine ⟨c, blAt R1, ?_⟩
    cases c with
    | true => exact ⟨F, S1, hG, R1.pop, p⟩
    | false => exact p _ H1 (R1.pop.pushVal rep_bl) trivial
  · cases c with
    | true => exact h'.mono _ _ _ k p
    | false => exact k _ _ p
theorem de_or (h : DE X G a ma) (h' : DE X G (.BoolOp .Or (b :: rest) pos) mb) : DE X G (.BoolOp .Or (a :: b :: rest) pos) (dOrV ma mb) := by
  refine ⟨pe_of (pe_or h.run h'.run) fun σ H Q => ?_, fun S P P' k q => h.mono _ _ _ (fun ev S1 ⟨c, e, p⟩ => ⟨c, e, ?_⟩) q⟩
  · rintro ⟨F, S, hG, R, q⟩
    refine ⟨F, S, hG, R, h.mono _ _ _ (fun ev S1 ⟨c, e, p⟩ v H1 R1 _ => ?_) q⟩
    subst e
    refine ⟨c, blAt R1, ?_⟩
    cases c with
    | true => exact p _ H1 (R1.pop.pushVal rep_bl) trivial
    | false => exact ⟨F, S1, hG, R1.pop, p⟩
  · cases c with
    | true => exact k _ _ p
    | false => exact h'.mono _ _ _ k p
theorem de_not (h : DE X G a ma) : DE X G (.UnaryOp .Not a pos) (dNotV ma) := by
  refine ⟨pe_of (pe_not h.run) fun σ H Q => ?_, fun S P P' k q => h.mono _ _ _ (fun ev S1 ⟨c, e, p⟩ => ⟨c, e, k _ _ p⟩) q⟩
  rintro ⟨F, S, hG, R, q⟩
  refine ⟨F, S, hG, R, h.mono _ _ _ (fun ev S1 ⟨c, e, p⟩ v H1 R1 _ => ?_) q⟩
  subst e
  exact ⟨c, blAt R1, p _ H1 (R1.pop.pushVal rep_bl) trivial⟩
def dIf (mt : DTm) (ma mb : DM) : DM := fun S Q => mt S fun c S1 => if c = true then ma S1 Q else mb S1 Q
theorem de_if {c : Expr} (hc : DT X G c mt) (ha : DE X G a ma) (hb : DE X G b mb) : DE X G (.IfExp c a b pos) (dIf mt ma mb) := by
  refine ⟨pe_of (pe_ifExp hc.run ha.run hb.run) fun σ H Q => ?_, fun S P P' k q => hc.mono _ _ _ (fun c S1 p => ?_) q⟩
  · rintro ⟨F, S, hG, R, q⟩
    refine ⟨F, S, hG, R, hc.mono _ _ _ (fun c S1 p H1 R1 => ?_) q⟩
    cases c with
    | true => exact ⟨F, S1, hG, R1, p⟩
    | false => exact ⟨F, S1, hG, R1, p⟩
  · cases c with
    | true => exact ha.mono _ _ _ k p
    | false => exact hb.mono _ _ _ k p

/-! ### arguments -/
variable {es : List Expr} {ms : DAm} {m : DM}
def dNil : DAm := fun S Q => Q [] S
def dCons (m : DM) (ms : DAm) : DAm := fun S Q => m S fun ev S1 => ms S1 fun evs S2 => Q (ev :: evs) S2
theorem da_nil : DA X G [] dNil := by
  refine ⟨pa_of pa_nil fun σ H Q => ?_, fun S P P' k q => k _ _ q⟩
  rintro ⟨F, S, hG, R, q⟩
  have q' := q [] H rfl (by simpa [Fr.pushs] using R) (by simp)
  exact q'
theorem da_cons (he : DE X G e m) (hr : DA X G es ms) (hs : starEach (e :: es) X.env = (false, eval e X.env) :: starEach es X.env := by rfl) : DA X G (e :: es) (dCons m ms) := by
  refine ⟨pa_of (pa_cons he.run hr.run hs) fun σ H Q => ?_, fun S P P' k q => he.mono _ _ _ (fun ev S1 p => hr.mono _ _ _ (fun evs S2 p => k _ _ p) p) q⟩
  rintro ⟨F, S, hG, R, q⟩
  refine ⟨F, S, hG, R, he.mono _ _ _ (fun ev S1 p v H1 R1 a1 => ?_) q⟩
  refine ⟨F.push (v, ev.sv), S1, hG, R1, hr.mono _ _ _ (fun evs S2 p xs H2 hx R2 a2 => ?_) p⟩
  have q' := p ((v, ev) :: xs) H2 (by simp [hx]) (by simpa [Fr.pushs, Fr.push] using R2) (fun x hx => (List.mem_cons.mp hx).elim (fun z => by rw [z]; exact a1) (a2 x))
  simpa using q'
/-- a list of operands -/
def LsD (r : List V → Hp → VK → Prop) (f : List D → Option EV) : Prop := ∀ (Z : Addr → Prop) (H : Hp) (xs : List V) (cs : List D) (ev : EV) (Q : VK), Tops Z H cs xs → f cs = some ev → (∀ v H', Same H H' → RvAt Z H H' ev v → Q v H') → r xs H Q
def dLs (f : List D → Option EV) (ms : DAm) : DM := fun S Q => ms S fun evs S1 => ∃ cs ev, conts S1 evs = some cs ∧ f cs = some ev ∧ Q ev S1
theorem mono_ls {f : List D → Option EV} (h : MonoA ms) : Mono (dLs f ms) := fun S P P' k q => h _ _ _ (fun evs S1 ⟨c, ev, e1, e2, p⟩ => ⟨c, ev, e1, e2, k _ _ p⟩) q
theorem tLs_of {r : List V → Hp → VK → Prop} {f : List D → Option EV} (hd : LsD r f) (h : MonoA ms) {σ : L2.St} {H : Hp} {Q : VK} (q : tD G (dLs f ms) σ H Q) : tDA G ms σ H fun xs H1 => r xs H1 Q := by
  obtain ⟨F, S, hG, R, q⟩ := q
  refine ⟨F, S, hG, R, h _ _ _ (fun evs S1 ⟨cs, ev, e1, e2, p⟩ xs H1 hx R1 a1 => ?_) q⟩
  refine hd _ H1 _ cs ev Q (R1.tops a1 (by rw [hx]; exact e1)) e2 fun v H' k r => ?_
  obtain ⟨R3, a3⟩ := R1.cuts.result k r
  exact p v H' R3 a3
theorem de_callB {x : Str} {id : String} {r : List V → Hp → VK → Prop} {f : List D → Option EV} {p : Pos} (hc : CallR X (.builtin id) r) (hd : LsD r f) (hg : Gl X x) (hm : X.mg x = none) (hv : bootBuiltins x = some (.builtin id)) (ha : DA X G (e :: es) ms) (hn : x ≠ "__name__" := by decide) (hdb : (x == ("__debug__" : Str)) = false := by decide)
    (he : starEach (e :: es) X.env = (false, eval e X.env) :: starEach es X.env := by rfl) (hpl : (backTo pos (starEach es X.env)).any (·.1) = false := by rfl) : DE X G (.Call (.Name x p) (e :: es) [] pos) (dLs f ms) :=
  ⟨pe_of (pe_callB hc hg hm hv ha.run hn hdb he hpl) fun _ _ _ => tLs_of hd ha.mono, mono_ls ha.mono⟩
theorem de_callTy {x : Str} {T : String} {r : List V → Hp → VK → Prop} {f : List D → Option EV} {p : Pos} (hc : CallR X (.type T) r) (hd : LsD r f) (hg : Gl X x) (hm : X.mg x = none) (hv : bootBuiltins x = some (.type T)) (ha : DA X G (e :: es) ms) (hn : x ≠ "__name__" := by decide) (hdb : (x == ("__debug__" : Str)) = false := by decide)
    (he : starEach (e :: es) X.env = (false, eval e X.env) :: starEach es X.env := by rfl) (hpl : (backTo pos (starEach es X.env)).any (·.1) = false := by rfl) : DE X G (.Call (.Name x p) (e :: es) [] pos) (dLs f ms) :=
  ⟨pe_of (pe_callTy hc hg hm hv ha.run hn hdb he hpl) fun _ _ _ => tLs_of hd ha.mono, mono_ls ha.mono⟩
end
end DL
set_option Elab.async false
set_option linter.all false
set_option maxRecDepth 100000
set_option maxHeartbeats 1000000
/-! Layer D: statements, targets, loops. -/
namespace DL
open PySem PySem.Spec PyProof.Rows L2

/-! ### from what an expression gives to a value, to an own thing -/
def asVal (S : DS) : EV → Option (D × DS)
  | .val d => some (d, S)
  | .own d => some (d, S)
  | .bor j => match S[j]? with
    | some (some (.val d)) => some (d, S)
    | some (some (.own d)) => some (d, S.set j (some (.val d)))
    | _ => none
def asOwn (S : DS) : EV → Option (D × DS)
  | .own d => some (d, S)
  | .bor j => match S[j]? with
    | some (some (.own d)) => some (d, S.set j none)
    | _ => none
  | _ => none
section
variable {F : Fr} {H H' : Hp} {σ : L2.St} {S S' : DS} {v : V} {ev : EV} {d : D}
theorem Rel.lastVal (R : Rel (F.push (v, .own d)) H σ S) : Rel (F.push (v, .val d)) H σ S := by
  obtain ⟨a, rfl, na, o⟩ := R.w.mu (.inr F.T.length) v (.own d) (by show (F.T ++ [_])[F.T.length]? = _; simp) rfl
  have off : ¬ Zs F σ S a := fun z => z.elim na fun ⟨p, s, e, m⟩ => by
    have e2 : Wof (F.T ++ [(.ref a, .own d)]) σ S p = some (.ref a, s) := by
      cases p with
      | inl i => exact e
      | inr j =>
        have e' : F.T[j]? = some (.ref a, s) := e
        show (F.T ++ [(.ref a, .own d)])[j]? = _
        rw [List.getElem?_append_left (List.getElem?_eq_some_iff.mp e').1]; exact e'
    have hp := R.w.inj p (.inr F.T.length) a s (.own d) e2 (by show (F.T ++ [_])[F.T.length]? = _; simp) m rfl
    subst hp
    have e' : F.T[F.T.length]? = some (.ref a, s) := e
    simp at e'
  exact R.pop.pushVal (o.rep off fun _ z => zs_push z)
theorem Rel.lastOf (R : Rel F H σ S) {j : Nat} (hv : σ[j]? = some (some v)) (e : S[j]? = some (some (.val d))) : Rel (F.push (v, .val d)) H σ S :=
  R.pushVal (R.w.val _ v d (wof_slot hv e))
theorem Rel.asVal (R : Rel (F.push (v, ev.sv)) H σ S) (a : EvAt σ ev v) (h : asVal S ev = some (d, S')) : Rel (F.push (v, .val d)) H σ S' := by
  cases ev with
  | val c => cases h; exact R
  | own c => cases h; exact R.lastVal
  | bor j =>
    have a : σ[j]? = some (some v) := a
    have h : (match S[j]? with
      | some (some (.val d)) => some (d, S)
      | some (some (.own d)) => some (d, S.set j (some (.val d)))
      | _ => none) = some (d, S') := h
    split at h
    · rename_i c e
      cases h
      exact R.pop.lastOf a e
    · rename_i c e
      cases h
      refine (R.pop.freeze e).lastOf a ?_
      rw [List.getElem?_set_self (List.getElem?_eq_some_iff.mp e).1]
    · cases h
theorem Rel.asOwn (R : Rel (F.push (v, ev.sv)) H σ S) (a : EvAt σ ev v) (h : asOwn S ev = some (d, S')) : Rel (F.push (v, .own d)) H σ S' := by
  cases ev with
  | val c => cases h
  | own c => cases h; exact R
  | bor j =>
    have a : σ[j]? = some (some v) := a
    have h : (match S[j]? with
      | some (some (.own d)) => some (d, S.set j none)
      | _ => none) = some (d, S') := h
    split at h
    · rename_i c e
      cases h
      have hS : j < S.length := (List.getElem?_eq_some_iff.mp e).1
      have R0 := R.pop
      have hw : Wof F.T σ S (.inl j) = some (v, .own d) := wof_slot a e
      refine ⟨by simp [R0.len], fun i sv q => ?_, R0.iog, R0.w.map (fun p => if p = .inr F.T.length then .inl j else p) (fun p x q => ?_) (fun p q hp hq hh => ?_) fun p u c q => ?_⟩
      · by_cases h : j = i
        · subst h; rw [List.getElem?_set_self hS] at q; cases q
        · rw [List.getElem?_set_ne h] at q; exact R0.has i sv q
      · by_cases h : p = .inr F.T.length
        · subst h
          rw [if_pos rfl]
          have q' : (F.T ++ [(v, SV.own d)])[F.T.length]? = some x := q
          simp at q'
          rw [← q']; exact hw
        · rw [if_neg h]
          cases p with
          | inl i =>
            obtain ⟨u, sv⟩ := x
            obtain ⟨q1, q2⟩ := of_wof q
            have hij : j ≠ i := fun z => by subst z; rw [List.getElem?_set_self hS] at q2; cases q2
            rw [List.getElem?_set_ne hij] at q2
            exact wof_slot q1 q2
          | inr i =>
            have q' : (F.T ++ [(v, SV.own d)])[i]? = some x := q
            have hi : i < F.T.length := by
              have := (List.getElem?_eq_some_iff.mp q').1
              simp at this
              have hne : i ≠ F.T.length := fun z => h (by rw [z])
              omega
            rw [List.getElem?_append_left hi] at q'
            exact q'
      · have nj : ∀ x, Wof (F.T ++ [(v, SV.own d)]) σ (S.set j none) (.inl j) ≠ some x := fun ⟨u, sv⟩ q => by
          obtain ⟨_, q2⟩ := of_wof q
          rw [List.getElem?_set_self hS] at q2; cases q2
        by_cases h1 : p = .inr F.T.length
        · by_cases h2 : q = .inr F.T.length
          · rw [h1, h2]
          · rw [if_pos h1, if_neg h2] at hh
            rw [← hh] at hq
            obtain ⟨x, hq⟩ := hq
            exact (nj x hq).elim
        · by_cases h2 : q = .inr F.T.length
          · rw [if_neg h1, if_pos h2] at hh
            rw [hh] at hp
            obtain ⟨x, hp⟩ := hp
            exact (nj x hp).elim
          · rw [if_neg h1, if_neg h2] at hh; exact hh
      · by_cases h : p = .inr F.T.length
        · subst h
          have q' : (F.T ++ [(v, SV.own d)])[F.T.length]? = some (u, SV.io c) := q
          simp at q'
        · exact if_neg h
    · cases h
end

/-! ### blocks -/
section
variable {X : Cx} {G : Gb} {st : Stmt} {rest : List Stmt} {m m' : DSm} {e : Expr} {me : DM} {mt : DTm} {pos : Pos}
def dSeq (m m' : DSm) : DSm := fun D S => m { D with nx := m' D } S
def dNext : DSm := fun D S => D.nx S
theorem tDS_nx {m' : DSm} {F : Fr} {D : Ends} {S : DS} (hG : F.gb = G) (h : m' (EndsOf F D) S) : ∀ σ' H', Rel F H' σ' S → tDS G m' D σ' H' := fun σ' H' R => ⟨F, S, hG, R, h⟩
theorem db_nil : DBlk X G [] dNext := ⟨pss_of pss_nil fun D σ H ⟨F, S, hG, R, h⟩ => h σ H R, fun D D' S k h => k.nx _ h⟩
theorem db_cons (h1 : DStm X G st m) (h2 : DBlk X G rest m') : DBlk X G (st :: rest) (dSeq m m') := by
  refine ⟨pss_of (pss_cons h1.run h2.run) fun D σ H ⟨F, S, hG, R, h⟩ => ⟨F, S, hG, R, h1.mono { EndsOf F D with nx := m' (EndsOf F D) } _ _ ⟨fun S' q => tDS_nx hG q, fun _ _ q => q, fun _ q => q, fun _ q => q⟩ h⟩,
    fun D D' S k h => h1.mono { D with nx := m' D } { D' with nx := m' D' } _ ⟨fun S' q => h2.mono _ _ _ k q, k.rt, k.bk, k.ct⟩ h⟩
theorem db_one (h1 : DStm X G st m) : DBlk X G [st] m := ⟨pss_of (pss_one h1.run) fun _ _ _ q => q, h1.mono⟩
def dBreak : DSm := fun D S => D.bk S
def dCont : DSm := fun D S => D.ct S
theorem ds_pass : DStm X G (.Pass pos) dNext := ⟨ps_of ps_pass fun D σ H ⟨F, S, hG, R, h⟩ => h σ H R, fun _ _ _ k h => k.nx _ h⟩
theorem ds_break : DStm X G (.Break pos) dBreak := ⟨ps_of ps_break fun D σ H ⟨F, S, hG, R, h⟩ => h σ H R, fun _ _ _ k h => k.bk _ h⟩
theorem ds_continue : DStm X G (.Continue pos) dCont := ⟨ps_of ps_continue fun D σ H ⟨F, S, hG, R, h⟩ => h σ H R, fun _ _ _ k h => k.ct _ h⟩
def dDrop (me : DM) : DSm := fun D S => me S fun _ S' => D.nx S'
theorem ds_expr (h : DE X G e me) (hs : swapsWith e none pos.line X.env = pure false := by rfl) : DStm X G (.Expr e pos) (dDrop me) :=
  ⟨ps_of (ps_expr h.run hs) fun D σ H ⟨F, S, hG, R, q⟩ => ⟨F, S, hG, R, h.mono _ _ _ (fun ev S' p v H' R' _ => p σ H' R'.pop) q⟩, fun D D' S k q => h.mono _ _ _ (fun ev S' p => k.nx _ p) q⟩
/-- return e: a value, or an own thing that is handed out -/
def dRet (me : DM) : DSm := fun D S => me S fun ev S' => match ev with
  | .val d => D.rt (.val d) S'
  | .own d => D.rt (.own d) S'
  | .bor j => ∃ d, S'[j]? = some (some (.own d)) ∧ D.rt (.own d) (S'.set j none)
theorem ds_ret (h : DE X G e me) : DStm X G (.Return (some e) pos) (dRet me) := by
  refine ⟨ps_of (ps_ret h.run) fun D σ H ⟨F, S, hG, R, q⟩ => ⟨F, S, hG, R, h.mono _ _ _ (fun ev S' p v H' R' a => ?_) q⟩, fun D D' S k q => h.mono _ _ _ (fun ev S' p => ?_) q⟩
  · cases ev with
    | val d => exact p v σ H' R' trivial
    | own d => exact p v σ H' R' trivial
    | bor j =>
      obtain ⟨d, e, p⟩ := p
      refine p v σ H' (R'.asOwn (ev := .bor j) a ?_) trivial
      show (match S'[j]? with
        | some (some (.own d)) => some (d, S'.set j none)
        | _ => none) = _
      rw [e]
  · cases ev with
    | val d => exact k.rt _ _ p
    | own d => exact k.rt _ _ p
    | bor j => obtain ⟨d, e, p⟩ := p; exact ⟨d, e, k.rt _ _ p⟩
def dRetN : DSm := fun D S => D.rt (.val .non) S
theorem ds_retN : DStm X G (.Return none pos) dRetN := by
  refine ⟨ps_of ps_retN fun D σ H ⟨F, S, hG, R, q⟩ => ?_, fun D D' S k q => k.rt _ _ q⟩
  exact q .non σ H (R.pushVal (show Rep _ _ .non .non by simp only [Rep])) trivial
def dIfS (mt : DTm) (m m' : DSm) : DSm := fun D S => mt S fun b S1 => if b = true then m D S1 else m' D S1
theorem ds_if {c : Expr} {a b : List Stmt} (hc : DT X G c mt) (ha : DBlk X G a m) (hb : DBlk X G b m') : DStm X G (.If c a b pos) (dIfS mt m m') := by
  refine ⟨ps_of (ps_if hc.run ha.run hb.run) fun D σ H ⟨F, S, hG, R, q⟩ => ⟨F, S, hG, R, hc.mono _ _ _ (fun b S1 p H1 R1 => ?_) q⟩, fun D D' S k q => hc.mono _ _ _ (fun b S1 p => ?_) q⟩
  · cases b with
    | true => exact ⟨F, S1, hG, R1, p⟩
    | false => exact ⟨F, S1, hG, R1, p⟩
  · cases b with
    | true => exact ha.mono _ _ _ k p
    | false => exact hb.mono _ _ _ k p

/-! ### targets -/
abbrev DGm := D → DS → (DS → Prop) → Prop
abbrev DGsm := List D → DS → (DS → Prop) → Prop
def tDG (G : Gb) (g : DGm) : TG := fun v σ H Q => ∃ F S d, F.gb = G ∧ Rel (F.push (v, .val d)) H σ S ∧ g d S fun S' => ∀ σ' H', Rel F H' σ' S' → Q σ' H'
def tDGs (g : DGsm) : TGs := fun vs σ H Q => ∃ F S ds, Rel F H σ S ∧ (∃ G : Fr, Rel G H σ S ∧ True) ∧ Reps (Zs F σ S) H ds vs ∧ g ds S fun S' => ∀ σ' H', Rel F H' σ' S' → Q σ' H'
structure DG (X : Cx) (G : Gb) (tg : Expr) (g : DGm) : Prop where
  run : PG X tg (tDG G g)
  mono : ∀ d S P P', (∀ S', P S' → P' S') → g d S P → g d S P'
/-- the store of a slot -/
def canStore (S : DS) (i : Nat) : Prop := i < S.length ∧ freeSlot S i
def dgN (i : Nat) : DGm := fun d S Q => canStore S i ∧ Q (S.set i (some (.val d)))
theorem dg_name (i : Nat) {x : Str} (hN : X.N.Nodup) (hi : X.N[i]? = some x := by rfl) (hx : Loc X.env.scope x := by first | exact Or.inl rfl | exact Or.inr rfl) (hf : X.fn x = true ∨ X.env.scope.names.lookup x = some .local := by first | exact .inl rfl | exact .inr rfl | assumption) : DG X G (.Name x pos) (dgN i) := by
  refine ⟨⟨fun pins s σ H v u Q I r h => (pg_name hN hi hx hf).run pins s σ H v u Q I r ?_⟩, fun d S P P' k ⟨c, q⟩ => ⟨c, k _ q⟩⟩
  obtain ⟨F, S, d, hG, R, ⟨c1, c2⟩, q⟩ := h
  exact q _ H (R.store (by rw [← R.len]; exact c1) c2 (by simp))
/-- a store of a value leaves less to keep off -/
theorem zs_store {F : Fr} {σ : L2.St} {S : DS} {i : Nat} {v : V} {d : D} {a : Addr} (h : Zs F (σ.set i (some v)) (S.set i (some (.val d))) a) : Zs F σ S a := h.elim .inl fun ⟨p, s, e, m⟩ => .inr ⟨p, s, by
  cases p with
  | inl j =>
    obtain ⟨q1, q2⟩ := of_wof e
    by_cases hij : i = j
    · subst hij
      by_cases hS : i < S.length
      · rw [List.getElem?_set_self hS] at q2; cases q2; cases m
      · rw [List.getElem?_eq_none_iff.mpr (by simp; omega)] at q2; cases q2
    · rw [List.getElem?_set_ne hij] at q1 q2
      exact wof_slot q1 q2
  | inr j => exact e, m⟩
def putAll : List Nat → List D → DS → DS
  | i :: is, d :: ds, S => putAll is ds (S.set i (some (.val d)))
  | _, _, S => S
theorem putAll_length : ∀ {is : List Nat} {ds : List D} {S : DS}, (putAll is ds S).length = S.length
  | [], _, _ => by simp [putAll]
  | _ :: _, [], _ => by simp [putAll]
  | i :: is, d :: ds, S => by simp only [putAll]; rw [putAll_length]; simp
def canAll (S : DS) : List Nat → Prop
  | [] => True
  | i :: is => canStore S i ∧ canAll S is
theorem canAll_set {S : DS} {i : Nat} {d : D} : ∀ {is : List Nat}, canAll S is → canAll (S.set i (some (.val d))) is
  | [], _ => trivial
  | j :: is, ⟨⟨h1, h2⟩, h⟩ => ⟨⟨by simpa using h1, fun c z => by
      by_cases hij : i = j
      · subst hij; rw [List.getElem?_set_self h1] at z; cases z
      · rw [List.getElem?_set_ne hij] at z; exact h2 c z⟩, canAll_set h⟩
/-- a, b, .. = a tuple of so many values: names alone -/
def dgTup (is : List Nat) : DGm := fun d S Q => ∃ ds, d = .tup ds ∧ ds.length = is.length ∧ canAll S is ∧ Q (putAll is ds S)
inductive NmsOk (X : Cx) : List Expr → List Nat → Prop
  | nil : NmsOk X [] []
  | cons {x : Str} {p : Pos} {i : Nat} {es : List Expr} {is : List Nat} (hi : X.N[i]? = some x) (hx : Loc X.env.scope x) (hf : X.fn x = true ∨ X.env.scope.names.lookup x = some .local) (r : NmsOk X es is) : NmsOk X (.Name x p :: es) (i :: is)
theorem nms_cons (i : Nat) {x : Str} {p : Pos} {es : List Expr} {is : List Nat} (r : NmsOk X es is) (hi : X.N[i]? = some x := by rfl) (hx : Loc X.env.scope x := by first | exact Or.inl rfl | exact Or.inr rfl) (hf : X.fn x = true ∨ X.env.scope.names.lookup x = some .local := by first | exact .inl rfl | exact .inr rfl | assumption) : NmsOk X (.Name x p :: es) (i :: is) := .cons hi hx hf r
theorem pgs_names (G : Gb) (hN : X.N.Nodup) : ∀ {es : List Expr} {is : List Nat}, NmsOk X es is → (∀ es, (assignEach es X.env).map (·.2) = (assignEach es X.env).map (·.2)) →
    PGs X es (fun vs σ H Q => ∃ (F : Fr) (S : DS) (ds : List D), F.gb = G ∧ Rel F H σ S ∧ Reps (Zs F σ S) H ds vs ∧ ds.length = is.length ∧ canAll S is ∧ ∀ σ' H', Rel F H' σ' (putAll is ds S) → Q σ' H')
  | _, _, .nil, _ => by
    refine ⟨fun pins s σ H vs us Q I r h => pgs_nil.run pins s σ H vs us Q I r ?_⟩
    obtain ⟨F, S, ds, hG, R, rs, l, _, q⟩ := h
    have e2 : ds = [] := List.length_eq_zero_iff.mp l
    subst e2
    simp only [Reps] at rs
    exact ⟨rs, q σ H R⟩
  | _, _, @NmsOk.cons _ x p i es is hi hx hf rest, hh => by
    refine ⟨fun pins s σ H vs us Q I r h => (pgs_cons (pg_name hN hi hx hf) (pgs_names G hN rest hh) (by rfl)).run pins s σ H vs us Q I r ?_⟩
    obtain ⟨F, S, ds, hG, R, rs, l, ⟨⟨c1, c2⟩, c⟩, q⟩ := h
    cases ds with
    | nil => simp at l
    | cons d ds =>
      simp only [Reps] at rs
      obtain ⟨v, r', rfl, r1, r2⟩ := rs
      refine ⟨v, r', rfl, ?_⟩
      have R1 := (R.pushVal r1).store (i := i) (by rw [← R.len]; exact c1) c2 (by simp)
      exact ⟨F, _, ds, hG, R1, r2.less fun _ z => zs_store z, by simpa using l, canAll_set c, q⟩
theorem dg_tup {es : List Expr} {k : Nat} {is : List Nat} (hc : X.calm = true) (hN : X.N.Nodup) (h : NmsOk X es is) (hn : (assignEach es X.env).length = is.length := by rfl) (hst : (assignEach es X.env).findIdx? (·.1) = none := by rfl) : DG X G (.Tuple es k pos) (dgTup is) := by
  refine ⟨⟨fun pins s σ H v u Q I r q => (pg_tup hc (pgs_names G hN h fun _ => rfl) hn hst).run pins s σ H v u Q I r ?_⟩, fun d S P P' k ⟨ds, e, l, c, q⟩ => ⟨ds, e, l, c, k _ q⟩⟩
  obtain ⟨F, S, d, hG, R, ds, rfl, l, c, q⟩ := q
  have hr : Rep (Zs (F.push (v, .val (.tup ds))) σ S) H (.tup ds) v := R.w.val (.inr F.T.length) v _ (by show (F.T ++ [_])[F.T.length]? = _; simp)
  simp only [Rep] at hr
  obtain ⟨a, vs, rfl, rd, rs⟩ := hr
  exact ⟨a, vs, rfl, .inl rd, by rw [← rs.length, l], F, S, ds, hG, R.pop, rs.less fun _ z => zs_push z, l, c, q⟩

/-! ### assignments -/
variable {g : DGm} {tg : Expr}
/-- target = e, the value kept as one that never changes -/
def dAsg (me : DM) (g : DGm) : DSm := fun D S => me S fun ev S' => ∃ d S2, asVal S' ev = some (d, S2) ∧ g d S2 D.nx
theorem tAsg_of (h : Mono me) {D : Ends} {σ : L2.St} {H : Hp} (q : tDS G (dAsg me g) D σ H) : tAsg (tD G me) (tDG G g) D σ H := by
  obtain ⟨F, S, hG, R, q⟩ := q
  refine ⟨F, S, hG, R, h _ _ _ (fun ev S' p v H' R' a => ?_) q⟩
  obtain ⟨d, S2, e, p⟩ := p
  exact ⟨F, S2, d, hG, R'.asVal a e, p⟩
theorem ds_asg (he : DE X G e me) (hg : DG X G tg g) (hs : swapsWithSole [tg] e pos.line X.env = pure false := by rfl) (hw : swappedStores [tg] e X.env = pure none := by rfl)
    (h1 : (assignEach [tg] X.env).map (·.2) = [assign tg X.env] := by rfl) : DStm X G (.Assign [tg] e pos) (dAsg me g) :=
  ⟨ps_of (ps_asg he.run hg.run hs hw h1) fun _ _ _ => tAsg_of he.mono, fun D D' S k q => he.mono _ _ _ (fun ev S' ⟨d, S2, e, p⟩ => ⟨d, S2, e, hg.mono _ _ _ _ k.nx p⟩) q⟩
/-- name = e -/
theorem ds_set (i : Nat) {x : Str} {pos' : Pos} (hN : X.N.Nodup) (he : DE X G e me) (hi : X.N[i]? = some x := by rfl) (hx : Loc X.env.scope x := by first | exact Or.inl rfl | exact Or.inr rfl) (hs : swapsWith e (some (.Name x pos')) pos.line X.env = pure false := by rfl)
    (hf : X.fn x = true ∨ X.env.scope.names.lookup x = some .local := by first | exact .inl rfl | exact .inr rfl | assumption) : DStm X G (.Assign [.Name x pos'] e pos) (dAsg me (dgN i)) := by
  refine ⟨ps_of (ps_set hN hi hx he.run hs hf) fun D σ H q => ?_, fun D D' S k q => he.mono _ _ _ (fun ev S' ⟨d, S2, e, c, p⟩ => ⟨d, S2, e, c, k.nx _ p⟩) q⟩
  obtain ⟨F, S, hG, R, q⟩ := q
  refine ⟨F, S, hG, R, he.mono _ _ _ (fun ev S' p v H' R' a => ?_) q⟩
  obtain ⟨d, S2, e, ⟨c1, c2⟩, p⟩ := p
  have R2 := R'.asVal a e
  exact p _ H' (R2.store (by rw [← R2.len]; exact c1) c2 (by simp))
/-- name = e, an own thing -/
def dOwn (me : DM) (i : Nat) : DSm := fun D S => me S fun ev S' => ∃ d S2, asOwn S' ev = some (d, S2) ∧ canStore S2 i ∧ D.nx (S2.set i (some (.own d)))
theorem ds_own (i : Nat) {x : Str} {pos' : Pos} (hN : X.N.Nodup) (he : DE X G e me) (hi : X.N[i]? = some x := by rfl) (hx : Loc X.env.scope x := by first | exact Or.inl rfl | exact Or.inr rfl) (hs : swapsWith e (some (.Name x pos')) pos.line X.env = pure false := by rfl)
    (hf : X.fn x = true ∨ X.env.scope.names.lookup x = some .local := by first | exact .inl rfl | exact .inr rfl | assumption) : DStm X G (.Assign [.Name x pos'] e pos) (dOwn me i) := by
  refine ⟨ps_of (ps_set hN hi hx he.run hs hf) fun D σ H q => ?_, fun D D' S k q => he.mono _ _ _ (fun ev S' ⟨d, S2, e, c, p⟩ => ⟨d, S2, e, c, k.nx _ p⟩) q⟩
  obtain ⟨F, S, hG, R, q⟩ := q
  refine ⟨F, S, hG, R, he.mono _ _ _ (fun ev S' p v H' R' a => ?_) q⟩
  obtain ⟨d, S2, e, ⟨c1, c2⟩, p⟩ := p
  have R2 := R'.asOwn a e
  exact p _ H' (R2.store (by rw [← R2.len]; exact c1) c2 (by simp))

/-! ### while -/
/-- the turns are counted by a bound n that the proof finds -/
def dLoop (mt : DTm) (m : DSm) (D : DEnds) : Nat → DS → Prop
  | 0, _ => False
  | n + 1, S => mt S fun b S1 => if b = true then m { D with nx := dLoop mt m D n, ct := dLoop mt m D n, bk := D.nx } S1 else D.nx S1
def dWhile (mt : DTm) (m : DSm) : DSm := fun D S => ∃ n, dLoop mt m D n S
theorem ds_while {c : Expr} {body : List Stmt} (hp : PassesOwn (model X.prog X.w) X.A X.env X.xe) (hc : DT X G c mt) (hb : DBlk X G body m) : DStm X G (.While c body [] pos) (dWhile mt m) := by
  refine ⟨ps_of (ps_while hp hc.run hb.run) fun D σ H q => ?_, fun D D' S k q => ?_⟩
  · obtain ⟨F, S, hG, R, n, q⟩ := q
    refine ⟨fun n σ H => ∃ S, Rel F H σ S ∧ dLoop mt m (EndsOf F D) n S, ⟨n, S, R, q⟩, ?_⟩
    rintro n σ H ⟨S, R, q⟩
    cases n with
    | zero => exact q.elim
    | succ n =>
      refine ⟨F, S, hG, R, hc.mono _ _ _ (fun b S1 p H1 R1 => ?_) q⟩
      cases b with
      | true =>
        rw [if_pos rfl]
        refine ⟨fun σ' H' => ∃ S, Rel F H' σ' S ∧ dLoop mt m (EndsOf F D) n S, fun σ' H' h => ⟨n, Nat.lt_succ_self _, h⟩, F, S1, hG, R1, hb.mono { EndsOf F D with nx := dLoop mt m (EndsOf F D) n, ct := dLoop mt m (EndsOf F D) n, bk := (EndsOf F D).nx } _ _ ⟨fun S' z σ' H' R' => ⟨S', R', z⟩, fun _ _ z => z, fun _ z => z, fun S' z σ' H' R' => ⟨S', R', z⟩⟩ p⟩
      | false => exact p σ H1 R1
  · obtain ⟨n, q⟩ := q
    refine ⟨n, ?_⟩
    induction n generalizing S with
    | zero => exact q
    | succ n ih =>
      refine hc.mono _ _ _ (fun b S1 p => ?_) q
      cases b with
      | true => exact hb.mono { D with nx := dLoop mt m D n, ct := dLoop mt m D n, bk := D.nx } { D' with nx := dLoop mt m D' n, ct := dLoop mt m D' n, bk := D'.nx } _ ⟨fun S z => ih (S := S) z, k.rt, k.nx, fun S z => ih (S := S) z⟩ p
      | false => exact k.nx _ p

/-! ### what a loop walks -/
/-- the things that must stand while it is walked, with what they hold; the items -/
structure IT where
  gs : List (EV × D)
  items : List D
abbrev DIm := DS → (IT → DS → Prop) → Prop
structure WalkD (J : It) (vs : List V) (it : IT) : Prop where
  walk : Walk J it.items.length (fun H => ∃ Z, Tops Z H (it.gs.map (·.2)) vs) fun i H x H' => ∀ Z, Tops Z H (it.gs.map (·.2)) vs → ∃ d, it.items[i]? = some d ∧ Same H H' ∧ Rep Z H' d x
def tDI (G : Gb) (mi : DIm) : TI := fun σ H R => ∃ F S, F.gb = G ∧ Rel F H σ S ∧ mi S fun it S' => ∀ (xs : List (V × EV)) (H' : Hp) (J : It), xs.map (·.2) = it.gs.map (·.1) → Rel (F.pushs (xs.map sval)) H' σ S' → (∀ x ∈ xs, EvAt σ x.2 x.1) → WalkD J (xs.map (·.1)) it → R J H'
structure DI (X : Cx) (G : Gb) (tg e : Expr) (mi : DIm) : Prop where
  run : PI X tg e (tDI G mi)
  mono : ∀ S P P', (∀ it S', P it S' → P' it S') → mi S P → mi S P'
/-- a thing holds what it held: a temporary; a slot that is not stored over -/
def held (S : DS) : EV × D → Prop
  | (.val c, d) => c = d
  | (.own c, d) => c = d
  | (.bor j, d) => S[j]? = some (some (.io d))
def holds (S : DS) (gs : List (EV × D)) : Prop := ∀ g ∈ gs, held S g
def dTurns (gs : List (EV × D)) (g : DGm) (m : DSm) (E : DEnds) : List D → DS → Prop
  | [], S => holds S gs ∧ E.nx S
  | d :: ds, S => holds S gs ∧ g d S fun S1 => m { E with nx := dTurns gs g m E ds, ct := dTurns gs g m E ds, bk := E.nx } S1
def dFor (mi : DIm) (g : DGm) (m : DSm) : DSm := fun D S => mi S fun it S' => dTurns it.gs g m D it.items S'
theorem dTurns_mono {gs : List (EV × D)} {g : DGm} {m : DSm} {E E' : DEnds} (hg : ∀ d S P P', (∀ S', P S' → P' S') → g d S P → g d S P') (hm : MonoS m) (k : DEnds.Le E E') : ∀ {ds : List D} {S : DS}, dTurns gs g m E ds S → dTurns gs g m E' ds S
  | [], _, ⟨h, q⟩ => ⟨h, k.nx _ q⟩
  | d :: ds, S, ⟨h, q⟩ => ⟨h, hg _ _ _ _ (fun S1 p => hm { E with nx := dTurns gs g m E ds, ct := dTurns gs g m E ds, bk := E.nx } { E' with nx := dTurns gs g m E' ds, ct := dTurns gs g m E' ds, bk := E'.nx } _ ⟨fun _ z => dTurns_mono hg hm k z, k.rt, k.nx, fun _ z => dTurns_mono hg hm k z⟩ p) q⟩
theorem dTurns_holds {gs : List (EV × D)} {g : DGm} {m : DSm} {E : DEnds} : ∀ {ds : List D} {S : DS}, dTurns gs g m E ds S → holds S gs
  | [], _, h => h.1
  | _ :: _, _, h => h.1
theorem conts_held {S : DS} : ∀ {gs : List (EV × D)}, holds S gs → conts S (gs.map (·.1)) = some (gs.map (·.2))
  | [], _ => rfl
  | (ev, d) :: gs, h => by
    have h1 := h (ev, d) List.mem_cons_self
    have h2 := conts_held (S := S) (gs := gs) fun g hg => h g (List.mem_cons_of_mem _ hg)
    have e : cont S ev = some d := by
      cases ev with
      | val c => exact congrArg some (show c = d from h1)
      | own c => exact congrArg some (show c = d from h1)
      | bor j =>
        have h1 : S[j]? = some (some (.io d)) := h1
        show (match S[j]? with
          | some (some (.val d)) => some d
          | some (some (.own d)) => some d
          | some (some (.io d)) => some d
          | _ => none) = some d
        rw [h1]
    show (match cont S ev, conts S (gs.map (·.1)) with
      | some d, some ds => some (d :: ds)
      | _, _ => none) = _
    rw [e, h2]
    rfl
/-- where a pinned slot stands -/
def evPin (F : Fr) : V × EV → Prop
  | (v, .bor j) => ∃ a, v = .ref a ∧ F.io j = some a
  | _ => True
theorem Rel.ioAt {F : Fr} {H : Hp} {σ : L2.St} {S : DS} (R : Rel F H σ S) {j : Nat} {d : D} (e : S[j]? = some (some (.io d))) : ∃ a, σ[j]? = some (some (.ref a)) ∧ F.io j = some a := by
  obtain ⟨v, hv, hw⟩ := R.slot e
  obtain ⟨a, rfl, _, _⟩ := R.w.mu _ v _ hw rfl
  obtain ⟨i, ei, hi⟩ := R.w.ioo _ a d hw
  cases ei
  exact ⟨a, hv, hi⟩
theorem pin_of {F : Fr} {H : Hp} {σ : L2.St} {S : DS} (R : Rel F H σ S) {v : V} {ev : EV} {d : D} (a : EvAt σ ev v) (h : held S (ev, d)) : evPin F (v, ev) := by
  cases ev with
  | val c => trivial
  | own c => trivial
  | bor j =>
    obtain ⟨b, h1, h2⟩ := R.ioAt (show S[j]? = some (some (.io d)) from h)
    have a : σ[j]? = some (some v) := a
    rw [a] at h1; cases h1
    exact ⟨b, rfl, h2⟩
theorem at_pin {F : Fr} {H : Hp} {σ : L2.St} {S : DS} (R : Rel F H σ S) {v : V} {ev : EV} {d : D} (p : evPin F (v, ev)) (h : held S (ev, d)) : EvAt σ ev v := by
  cases ev with
  | val c => trivial
  | own c => trivial
  | bor j =>
    obtain ⟨b, h1, h2⟩ := R.ioAt (show S[j]? = some (some (.io d)) from h)
    obtain ⟨a, rfl, h3⟩ := p
    rw [h2] at h3; cases h3
    exact h1
theorem held_mem {S : DS} {gs : List (EV × D)} {xs : List (V × EV)} (hx : xs.map (·.2) = gs.map (·.1)) (h : holds S gs) {x : V × EV} (hm : x ∈ xs) : ∃ d, held S (x.2, d) := by
  have : x.2 ∈ gs.map (·.1) := by rw [← hx]; exact List.mem_map_of_mem hm
  obtain ⟨g, hg, e⟩ := List.mem_map.mp this
  refine ⟨g.2, ?_⟩
  rw [← e]
  exact h g hg
theorem ds_for {iter : Expr} {body : List Stmt} {mi : DIm} (hp : PassesOwn (model X.prog X.w) X.A X.env X.xe) (hc : X.calm = true) (hi : DI X G tg iter mi) (hg : DG X G tg g) (hb : DBlk X G body m)
    (hs : ∀ x, foldedSetIterable iter X.env x = pure x := by intro _; rfl) : DStm X G (.For tg iter body [] pos) (dFor mi g m) := by
  refine ⟨ps_of (ps_for hp hc hi.run hg.run hb.run hs) fun D σ H q => ?_, fun D D' S k q => hi.mono _ _ _ (fun it S' p => dTurns_mono hg.mono hb.mono k p) q⟩
  obtain ⟨F, S, hG, R, q⟩ := q
  refine ⟨F, S, hG, R, hi.mono _ _ _ (fun it S' p xs H' J hx R' ha w => ?_) q⟩
  have ats : ∀ {σ' : L2.St} {H' : Hp} {S' : DS}, Rel (F.pushs (xs.map sval)) H' σ' S' → (∀ x ∈ xs, evPin F x) → holds S' it.gs → ∀ x ∈ xs, EvAt σ' x.2 x.1 := fun R pn h x hm => by
    obtain ⟨d, hd⟩ := held_mem hx h hm
    exact at_pin R.cuts (pn x hm) hd
  have tops : ∀ {σ' : L2.St} {H' : Hp} {S' : DS}, Rel (F.pushs (xs.map sval)) H' σ' S' → (∀ x ∈ xs, evPin F x) → holds S' it.gs → Tops (Zs (F.pushs (xs.map sval)) σ' S') H' (it.gs.map (·.2)) (xs.map (·.1)) := fun R pn h =>
    R.tops0 (ats R pn h) (by rw [hx]; exact conts_held h)
  have pn : ∀ x ∈ xs, evPin F x := fun x hm => by
    obtain ⟨d, hd⟩ := held_mem hx (dTurns_holds p) hm
    exact pin_of R'.cuts (ha x hm) hd
  refine for_it (w := w.walk) (fun i σ' H' => ∃ S', Rel (F.pushs (xs.map sval)) H' σ' S' ∧ dTurns it.gs g m (EndsOf F D) (it.items.drop i) S') ?_ ?_ ?_ ?_
  · exact ⟨S', R', by simpa using p⟩
  · rintro i σ' H' _ ⟨S', R', p⟩
    exact ⟨_, tops R' pn (dTurns_holds p)⟩
  · rintro i x σ' H' H2 hi' ⟨S', R', p⟩ y
    obtain ⟨d, hd, k, r⟩ := y _ (tops R' pn (dTurns_holds p))
    have hl : i < it.items.length := hi'
    have ed : it.items.drop i = d :: it.items.drop (i + 1) := by
      rw [List.drop_eq_getElem_cons hl]
      rw [List.getElem?_eq_getElem hl] at hd
      rw [Option.some.inj hd]
    rw [ed] at p
    obtain ⟨_, p⟩ := p
    have R2 : Rel ((F.pushs (xs.map sval)).push (x, .val d)) H2 σ' S' := (R'.grow k).pushVal r
    refine ⟨F.pushs (xs.map sval), S', d, hG, R2, hg.mono _ _ _ _ (fun S1 p σ2 H3 R3 => ?_) p⟩
    refine ⟨F.pushs (xs.map sval), S1, hG, R3, hb.mono { EndsOf F D with nx := dTurns it.gs g m (EndsOf F D) (it.items.drop (i + 1)), ct := dTurns it.gs g m (EndsOf F D) (it.items.drop (i + 1)), bk := (EndsOf F D).nx } _ _ ⟨?_, ?_, ?_, ?_⟩ p⟩
    · exact fun S4 z σ4 H4 R4 => ⟨S4, R4, z⟩
    · exact fun ev S4 z v σ4 H4 R4 a4 => z v σ4 H4 R4.dropMid a4
    · exact fun S4 z σ4 H4 R4 => z σ4 H4 R4.cuts
    · exact fun S4 z σ4 H4 R4 => ⟨S4, R4, z⟩
  · rintro σ' H' ⟨S', R', p⟩
    rw [List.drop_length] at p
    exact p.2 σ' H' R'.cuts
end
end DL
set_option Elab.async false
set_option linter.all false
set_option maxRecDepth 100000
set_option maxHeartbeats 1000000
/-! Layer D: defs, their promises, calls, raise. -/
namespace DL
open PySem PySem.Spec PyProof.Rows L2

/-! ### a def's promise where no guard runs -/
structure FnG (P : Program) (w : World) (K : PySem.W.Frag) (mg : Str → Option Value) (base : Heap) (k : Nat) (f : Addr) (fd : FuncData) (ps : List Str) (sp : Sp) : Prop where
  len : ∀ vs H Q E, sp vs H Q E → vs.length = ps.length
  run : ∀ (A : Around) (outer : List Env) (s : Shared) (H : Hp) (args : Args) (us : List Value) (vs : List V) (Q : VK) (E : XK), Room k A → A.guards = some [] → Env0 P w K mg base A outer s H → BindsTo s fd args (ps.zip us) → Vals vs us → sp vs H Q E →
    codeAny (model P w) A (.call (.ref f) args) (CR (L2.CX P w) outer P w H s Q E) s
theorem FnG.mono {P : Program} {w : World} {K : PySem.W.Frag} {mg : Str → Option Value} {base : Heap} {j k : Nat} {f : Addr} {fd : FuncData} {ps : List Str} {sp : Sp} (F : FnG P w K mg base j f fd ps sp) (h : j ≤ k) : FnG P w K mg base k f fd ps sp :=
  ⟨F.len, fun A outer s H args us vs Q E hr => F.run A outer s H args us vs Q E (hr.mono h)⟩
theorem fng_of {P : Program} {w : World} {K : PySem.W.Frag} {mg : Str → Option Value} {base : Heap} {x qual : Str} {params : Arguments} {body : List Stmt} {scope : Scope} {dvs : List V} {kws : List (Str × V)} {f : Addr} {fd : FuncData} {N ps : List Str} {k : Nat} {sp : Sp}
    (F : FunD K x qual params body scope dvs kws f fd) (S : FnScope N ps scope) (len : ∀ vs H Q E, sp vs H Q E → vs.length = ps.length)
    (hbody : ∀ (cdv : Value) (A : Around) (outer : List Env) (s : Shared) (H : Hp) (vs : List V) (Q : VK) (E : XK), Room k (A.deeper (envOfC qual scope s.heap.objs.size f cdv)) → (A.deeper (envOfC qual scope s.heap.objs.size f cdv)).guards = some [] → sp vs H Q E →
      ∃ t, PSs (cxOf (L2.CX P w) P w K mg base N qual scope f cdv A outer s H E) body t ∧ t { nx := fun _ H' => Q .non H', rt := Q } (start N vs) H) : FnG P w K mg base (k + 1) f fd ps sp := by
  obtain ⟨oc, od, dV, kV, doc, pm, an, cdv, ct, osl, rfl, lk, hcd, _, _⟩ := F.ex
  exact ⟨len, fun A outer s H args us vs Q E hr hg e0 hb r hsp => LamX.run_ofS lk hcd S hr e0 hb r (len _ _ _ _ hsp) fun hr' => hbody cdv A outer s H vs Q E hr' hg hsp⟩
section
variable {X : Cx} {k : Nat} {f : Addr} {fd : FuncData} {ps : List Str} {sp : Sp} {dvs : List V} {ds : List Value} {E : L2.St → XK} {x : Str} {p pos : Pos} {e : Expr} {es : List Expr} {t : TA}
def tCallG (sp : Sp) (dvs : List V) (E : L2.St → XK) (t : TA) : TE := fun σ H Q => t σ H fun vs H1 => sp (vs ++ dvs) H1 Q (E σ)
theorem run_fng {pins : List (Addr × Obj)} {σ : L2.St} {H : Hp} {s : Shared} {Q : VK} {us : List Value} {vs : List V} (F : FnG X.prog X.w X.K X.mg X.base k f fd ps sp) (hr : Room k X.A) (hgd : X.A.guards = some []) (hb : Binds X.K fd ps ds) (hd : Vals dvs ds) (hx : PassesAt (L2.CX X.prog X.w) X σ (E σ))
    (I : Inv X pins σ H s) (r : Vals vs us) (h : sp (vs ++ dvs) H Q (E σ)) : wpAny (model X.prog X.w) X.A (call (.ref f) us) (EP X pins σ Q) X.xe s := by
  have rr : Vals (vs ++ dvs) (us ++ ds) := r.append hd
  have hl : (us ++ ds).length = ps.length := rr.length.symm.trans (F.len _ _ _ _ h)
  refine wpAny_call (codeAny_mono (F.run X.A X.stack s H ⟨us, []⟩ (us ++ ds) (vs ++ dvs) Q (E σ) hr hgd I.env0 (hb s us I.kIn hl) rr h) fun res s2 hq => ?_)
  match res, hq with
  | .error e, hq => exact hx pins H s e s2 I hq
  | .ok (.ret u), hq => exact I.after hq
theorem pe_callG (F : FnG X.prog X.w X.K X.mg X.base k f fd ps sp) (hr : Room k X.A) (hgd : X.A.guards = some []) (hg : Gl X x) (hm : X.mg x = some (.ref f)) (hk : PySem.W.keepIn X.K (.ref f) = true) (hb : Binds X.K fd ps ds) (hd : Vals dvs ds) (hx : ∀ σ, PassesAt (L2.CX X.prog X.w) X σ (E σ))
    (ha : PA X (e :: es) t) (hdb : (x == ("__debug__" : Str)) = false := by decide) (he : starEach (e :: es) X.env = (false, eval e X.env) :: starEach es X.env := by rfl) (hpl : (backTo pos (starEach es X.env)).any (·.1) = false := by rfl) :
    PE X (.Call (.Name x p) (e :: es) [] pos) (tCallG sp dvs E t) := by
  refine ⟨fun pins s σ H Q I h => wpAny_Call_Name_kw (ld_glob I hg hm ?_ hdb)⟩
  exact PySem.W.callWith_K (h₀ := X.base) I.ok.mod.kin hk (thn (ha.run pos pins s σ H _ I h) fun us s1 ⟨vs, H1, I1, r, q⟩ => ⟨I1.kIn, run_fng F hr hgd hb hd (hx σ) I1 r q⟩) he hpl
theorem pe_callG0 (F : FnG X.prog X.w X.K X.mg X.base k f fd ps sp) (hr : Room k X.A) (hgd : X.A.guards = some []) (hg : Gl X x) (hm : X.mg x = some (.ref f)) (hk : PySem.W.keepIn X.K (.ref f) = true) (hb : Binds X.K fd ps ds) (hd : Vals dvs ds) (hx : ∀ σ, PassesAt (L2.CX X.prog X.w) X σ (E σ))
    (hdb : (x == ("__debug__" : Str)) = false := by decide) : PE X (.Call (.Name x p) [] [] pos) (tCallG sp dvs E tNil) := by
  refine ⟨fun pins s σ H Q I h => wpAny_Call_Name_kw (ld_glob I hg hm ?_ hdb)⟩
  exact PySem.W.callWith_K0 I.kIn hk (run_fng F hr hgd hb hd (hx σ) I .nil h)
end

/-! ### exceptions as data -/
structure DX where
  C : Addr
  ns : List Str
  us : List D
/-- an exception x: its class, its dict -/
def XAt (Z : Addr → Prop) (H : Hp) (x : DX) (cls : Value) (d : Option Addr) : Prop := cls = .ref x.C ∧ ((x.ns = [] ∧ x.us = [] ∧ d = none) ∨ ∃ a vs, d = some a ∧ H a = some (.xd (x.ns.zip vs)) ∧ x.ns.length = x.us.length ∧ Reps Z H x.us vs)
theorem XAt.grow {Z Z' : Addr → Prop} {H H' : Hp} {x : DX} {cls : Value} {d : Option Addr} (h : XAt Z H x cls d) (k : Same H H') (zz : ∀ a, (∃ o, H a = some o) → Z' a → Z a) : XAt Z' H' x cls d := by
  obtain ⟨e, h⟩ := h
  refine ⟨e, h.elim .inl fun ⟨a, vs, e1, e2, e3, r⟩ => .inr ⟨a, vs, e1, k _ _ e2, e3, r.grow k zz⟩⟩
abbrev DXm := DX → DS → Prop
/-- what is wished of an exception in a body -/
def wD (G : Gb) (Xd : DXm) : WX := fun cls d σ H' => ∃ F S x, F.gb = G ∧ Rel F H' σ S ∧ XAt (Zs F σ S) H' x cls d ∧ Xd x S
theorem takes_no {X : Cx} {G : Gb} : Takes X (wD G fun _ _ => False) := fun _ _ ⟨_, _, _, _, _, _, _, _, _, _, _, _, _, _, _, _, w⟩ => by
  obtain ⟨_, _, _, _, _, _, z⟩ := w
  exact z.elim

/-! ### promises by data -/
/-- a def that changes nothing: the arguments, the wish of the result, of an exception -/
abbrev Sp0 := List D → (EV → Prop) → (DX → Prop) → Prop
def spP (s : Sp0) : Sp := fun vs H Q E => ∃ (Z : Addr → Prop) (ds : List D), (∀ a, Z a → ∃ o, H a = some o) ∧ Reps Z H ds vs ∧
  s ds (fun r => ∀ v H', Same H H' → RvAt Z H H' r v → Q v H') fun x => ∀ cls dd H', Same H H' → XAt Z H' x cls dd → E cls dd H'
/-- a def that changes its first argument -/
abbrev Sp1 := D → List D → (EV → D → Prop) → Prop
def evOwn : EV → V → Addr → Prop
  | .own _, v, b => v = .ref b
  | _, _, _ => False
def spI (s : Sp1) : Sp := fun vs H Q _ => ∃ (Z : Addr → Prop) (a : Addr) (d : D) (ds : List D) (vs' : List V), vs = .ref a :: vs' ∧ (∀ b, Z b → (∃ o, H b = some o) ∧ b ≠ a) ∧ OwnAt (fun b => Z b ∨ b = a) H a d ∧ Reps (fun b => Z b ∨ b = a) H ds vs' ∧
  s d ds fun r d' => ∀ v H', (∀ b o, H b = some o → b ≠ a → H' b = some o) → RvAt (fun b => Z b ∨ b = a) H H' r v → OwnAt (fun b => (Z b ∨ b = a) ∨ evOwn r v b) H' a d' → Q v H'

/-! ### all arguments as values -/
def asVals (S : DS) : List EV → Option (List D × DS)
  | [] => some ([], S)
  | e :: es => match asVals S es with
    | some (cs, S1) => (match asVal S1 e with
      | some (c, S2) => some (c :: cs, S2)
      | none => none)
    | none => none
theorem asVals_cons {S : DS} {e : EV} {es : List EV} {cs : List D} {S' : DS} (h : asVals S (e :: es) = some (cs, S')) : ∃ c r S1, cs = c :: r ∧ asVals S es = some (r, S1) ∧ asVal S1 e = some (c, S') := by
  simp only [asVals] at h
  split at h
  · rename_i r S1 e1
    split at h
    · rename_i c S2 e2
      cases h
      exact ⟨c, r, S1, rfl, e1, e2⟩
    · cases h
  · cases h
section
variable {F : Fr} {H : Hp} {σ : L2.St} {S S' : DS}
theorem zs_asVal {T : List (V × SV)} {ev : EV} {d : D} {a : Addr} (h : asVal S ev = some (d, S')) (m : Mt (Wof T σ S') a) : Mt (Wof T σ S) a := by
  have same : S' = S → Mt (Wof T σ S) a := fun e => by rw [← e]; exact m
  cases ev with
  | val c => cases h; exact m
  | own c => cases h; exact m
  | bor j =>
    have h : (match S[j]? with
      | some (some (.val d)) => some (d, S)
      | some (some (.own d)) => some (d, S.set j (some (.val d)))
      | _ => none) = some (d, S') := h
    split at h
    · cases h; exact m
    · rename_i c e
      cases h
      obtain ⟨p, s, e2, m⟩ := m
      refine ⟨p, s, ?_, m⟩
      cases p with
      | inl i =>
        obtain ⟨q1, q2⟩ := of_wof e2
        by_cases hij : j = i
        · subst hij
          rw [List.getElem?_set_self (List.getElem?_eq_some_iff.mp e).1] at q2; cases q2; cases m
        · rw [List.getElem?_set_ne hij] at q2
          exact wof_slot q1 q2
      | inr i => exact e2
    · cases h
theorem Rel.asVals : ∀ {xs : List (V × EV)} {F : Fr} {S S' : DS} {cs : List D}, Rel (F.pushs (xs.map sval)) H σ S → (∀ x ∈ xs, EvAt σ x.2 x.1) → DL.asVals S (xs.map (·.2)) = some (cs, S') → Rel F H σ S' ∧ Reps (Zs F σ S') H cs (xs.map (·.1)) ∧ ∀ a, Mt (Wof F.T σ S') a → Mt (Wof F.T σ S) a
  | [], F, S, S', cs, R, _, h => by
    have h : some ([], S) = some (cs, S') := h
    cases h
    exact ⟨by simpa [Fr.pushs] using R, .nil, fun _ z => z⟩
  | x :: xs, F, S, S', cs, R, ha, h => by
    obtain ⟨c, r, S1, rfl, e1, e2⟩ := asVals_cons h
    have R0 : Rel ((F.push (sval x)).pushs (xs.map sval)) H σ S := by
      have e : (F.push (sval x)).pushs (xs.map sval) = F.pushs ((x :: xs).map sval) := by simp [Fr.push, Fr.pushs]
      rw [e]; exact R
    obtain ⟨R1, rs, z1⟩ := Rel.asVals R0 (fun y hy => ha y (List.mem_cons_of_mem _ hy)) e1
    have R2 : Rel (F.push (x.1, .val c)) H σ S' := Rel.asVal (v := x.1) (ev := x.2) R1 (ha x List.mem_cons_self) e2
    refine ⟨R2.pop, .cons ?_ ?_, fun a m => ?_⟩
    · exact (R2.w.val (.inr F.T.length) x.1 c (by show (F.T ++ [_])[F.T.length]? = _; simp)).less fun _ z => zs_push z
    · exact rs.less fun a z => z.elim .inl fun m => .inr (mt_cut (T' := [sval x]) (zs_asVal e2 m))
    · have h1 := z1 a (mt_cut (T' := [sval x]) (zs_asVal e2 m))
      have h2 : Mt (Wof F.T σ S1) a := zs_asVal e2 m
      -- a cell of F's own
      obtain ⟨p, s, q, ms⟩ := m
      obtain ⟨p1, s1, q1, m1⟩ := h1
      by_cases hp : p1 = .inr F.T.length
      · exfalso
        subst hp
        have hq : (F.T ++ [sval x])[F.T.length]? = some (.ref a, s1) := q1
        simp at hq
        obtain ⟨p2, s2, q2, m2⟩ := h2
        have hx : Wof (F.T ++ [sval x]) σ S1 (.inr F.T.length) = some (.ref a, s1) := by show (F.T ++ [sval x])[F.T.length]? = _; simp [hq]
        have hy : Wof (F.T ++ [sval x]) σ S1 p2 = some (.ref a, s2) := by
          cases p2 with
          | inl i => exact q2
          | inr j =>
            have q' : F.T[j]? = some (.ref a, s2) := q2
            show (F.T ++ [sval x])[j]? = _
            rw [List.getElem?_append_left (List.getElem?_eq_some_iff.mp q').1]; exact q'
        have e := R1.w.inj _ _ a s2 s1 hy hx m2 m1
        subst e
        have q' : F.T[F.T.length]? = some (.ref a, s2) := q2
        simp at q'
      · refine ⟨p1, s1, ?_, m1⟩
        cases p1 with
        | inl i => exact q1
        | inr j =>
          have q' : (F.T ++ [sval x])[j]? = some (.ref a, s1) := q1
          have hj : j < F.T.length := by
            have := (List.getElem?_eq_some_iff.mp q').1
            simp at this
            have hne : j ≠ F.T.length := fun z => hp (by rw [z])
            omega
          rw [List.getElem?_append_left hj] at q'
          exact q'
theorem Rel.zdom (R : Rel F H σ S) {a : Addr} (h : Zs F σ S a) : ∃ o, H a = some o := h.elim (fun z => by
  obtain ⟨⟨o, e⟩, ni⟩ := R.w.zdom a z
  exact R.w.dom a o e) fun m => R.w.there m
end

/-! ### calls by data -/
section
variable {X : Cx} {G : Gb} {k : Nat} {f : Addr} {fd : FuncData} {ps : List Str} {s : Sp0} {s1 : Sp1} {Xd : DXm} {x : Str} {p pos : Pos} {e : Expr} {es : List Expr} {ms : DAm}
theorem mono_nil : MonoA dNil := fun S P P' k q => k _ _ q
def MonoP (s : Sp0) : Prop := ∀ ds Q Q' Y Y', (∀ r, Q r → Q' r) → (∀ x, Y x → Y' x) → s ds Q Y → s ds Q' Y'
def MonoI (s : Sp1) : Prop := ∀ d ds Q Q', (∀ r c, Q r c → Q' r c) → s d ds Q → s d ds Q'
def dCall (s : Sp0) (Xd : DXm) (dfl : List D) (ms : DAm) : DM := fun S Q => ms S fun evs S1 => ∃ cs S2, asVals S1 evs = some (cs, S2) ∧ s (cs ++ dfl) (fun r => Q r S2) fun x => Xd x S2
/-- defaults: values without a heap of their own, or written ones -/
def DflD (dvs : List V) (dfl : List D) : Prop := ∀ Z H, Reps Z H dfl dvs
theorem dfl_nil : DflD [] [] := fun _ _ => .nil
theorem mono_call (hm : MonoP s) (h : MonoA ms) {dfl : List D} : Mono (dCall s Xd dfl ms) := fun S P P' kk q => h _ _ _ (fun evs S1 ⟨cs, S2, e, p⟩ => ⟨cs, S2, e, hm _ _ _ _ _ (fun r z => kk _ _ z) (fun _ z => z) p⟩) q
theorem de_call {dvs : List V} {ds : List Value} {dfl : List D} (F : FnG X.prog X.w X.K X.mg X.base k f fd ps (spP s)) (hmo : MonoP s) (tk : Takes X (wD G Xd)) (hr : Room k X.A) (hgd : X.A.guards = some []) (hg : Gl X x) (hm : X.mg x = some (.ref f)) (hk : PySem.W.keepIn X.K (.ref f) = true) (hb : Binds X.K fd ps ds) (hd : Vals dvs ds) (hdf : DflD dvs dfl)
    (ha : DA X G (e :: es) ms) (hdb : (x == ("__debug__" : Str)) = false := by decide) (he : starEach (e :: es) X.env = (false, eval e X.env) :: starEach es X.env := by rfl) (hpl : (backTo pos (starEach es X.env)).any (·.1) = false := by rfl) :
    DE X G (.Call (.Name x p) (e :: es) [] pos) (dCall s Xd dfl ms) := by
  refine ⟨pe_of (pe_callG (E := fun σ => WE (wD G Xd) σ) F hr hgd hg hm hk hb hd (fun σ => passAt tk σ) ha.run hdb he hpl) fun σ H Q => ?_, mono_call hmo ha.mono⟩
  rintro ⟨F, S, hG, R, q⟩
  refine ⟨F, S, hG, R, ha.mono _ _ _ (fun evs S1 ⟨cs, S2, e, p⟩ xs H1 hx R1 a1 => ?_) q⟩
  obtain ⟨R2, rs, _⟩ := R1.asVals a1 (by rw [hx]; exact e)
  refine ⟨Zs F σ S2, cs ++ dfl, fun a z => R2.zdom z, rs.append (hdf _ _), hmo _ _ _ _ _ (fun r z v H' kk rv => ?_) (fun x z cls dd H' kk xa => ?_) p⟩
  · obtain ⟨R3, a3⟩ := R2.result kk rv
    exact z v H' R3 a3
  · exact ⟨F, S2, x, hG, R2.grow kk, xa, z⟩
theorem de_call0 {dvs : List V} {ds : List Value} {dfl : List D} (F : FnG X.prog X.w X.K X.mg X.base k f fd ps (spP s)) (hmo : MonoP s) (tk : Takes X (wD G Xd)) (hr : Room k X.A) (hgd : X.A.guards = some []) (hg : Gl X x) (hm : X.mg x = some (.ref f)) (hk : PySem.W.keepIn X.K (.ref f) = true) (hb : Binds X.K fd ps ds) (hd : Vals dvs ds) (hdf : DflD dvs dfl)
    (hdb : (x == ("__debug__" : Str)) = false := by decide) : DE X G (.Call (.Name x p) [] [] pos) (dCall s Xd dfl dNil) := by
  refine ⟨pe_of (pe_callG0 (E := fun σ => WE (wD G Xd) σ) F hr hgd hg hm hk hb hd (fun σ => passAt tk σ) hdb) fun σ H Q => ?_, mono_call hmo mono_nil⟩
  rintro ⟨F, S, hG, R, q⟩
  obtain ⟨cs, S2, e, p⟩ := q
  have e : some ([], S) = some (cs, S2) := e
  cases e
  refine ⟨Zs F σ S, dfl, fun a z => R.zdom z, hdf _ _, hmo _ _ _ _ _ (fun r z v H' kk rv => ?_) (fun x z cls dd H' kk xa => ?_) p⟩
  · obtain ⟨R3, a3⟩ := R.result kk rv
    exact z v H' R3 a3
  · exact ⟨F, S, x, hG, R.grow kk, xa, z⟩
/-- the first argument is a slot's thing, and changed -/
def dCallI (s : Sp1) (i : Nat) (ms : DAm) : DM := fun S Q => ms S fun evs S1 => ∃ es cs S2 sv, evs = .bor i :: es ∧ asVals S1 es = some (cs, S2) ∧ S2[i]? = some (some sv) ∧ sv.isMut = true ∧ s sv.d cs fun r d' => Q r (S2.set i (some (sv.put d')))
theorem mono_callI (hm : MonoI s1) (h : MonoA ms) {i : Nat} : Mono (dCallI s1 i ms) := fun S P P' kk q => h _ _ _ (fun evs S1 ⟨es, cs, S2, sv, e1, e2, e3, e4, p⟩ => ⟨es, cs, S2, sv, e1, e2, e3, e4, hm _ _ _ _ (fun r c z => kk _ _ z) p⟩) q
theorem de_callI {i : Nat} (F : FnG X.prog X.w X.K X.mg X.base k f fd ps (spI s1)) (hmo : MonoI s1) (hr : Room k X.A) (hgd : X.A.guards = some []) (hg : Gl X x) (hm : X.mg x = some (.ref f)) (hk : PySem.W.keepIn X.K (.ref f) = true) (hb : Binds X.K fd ps [])
    (ha : DA X G (e :: es) ms) (hdb : (x == ("__debug__" : Str)) = false := by decide) (he : starEach (e :: es) X.env = (false, eval e X.env) :: starEach es X.env := by rfl) (hpl : (backTo pos (starEach es X.env)).any (·.1) = false := by rfl) :
    DE X G (.Call (.Name x p) (e :: es) [] pos) (dCallI s1 i ms) := by
  refine ⟨pe_of (pe_callG (dvs := []) (E := fun σ => WE (wD G fun _ _ => False) σ) F hr hgd hg hm hk hb .nil (fun σ => passAt takes_no σ) ha.run hdb he hpl) fun σ H Q => ?_, mono_callI hmo ha.mono⟩
  rintro ⟨F, S, hG, R, q⟩
  refine ⟨F, S, hG, R, ha.mono _ _ _ (fun evs S1 ⟨es, cs, S2, sv, e1, e2, e3, e4, p⟩ xs H1 hx R1 a1 => ?_) q⟩
  rw [e1] at hx
  cases xs with
  | nil => cases hx
  | cons x xs =>
    obtain ⟨v0, ev0⟩ := x
    have hx1 : ev0 = .bor i := (List.cons.inj hx).1
    have hx2 : xs.map (·.2) = es := (List.cons.inj hx).2
    subst hx1
    have a0 : σ[i]? = some (some v0) := a1 (v0, .bor i) List.mem_cons_self
    have R1' : Rel ((F.push (v0, .any)).pushs (xs.map sval)) H1 σ S1 := by
      have e : (F.push (v0, .any)).pushs (xs.map sval) = F.pushs (((v0, EV.bor i) :: xs).map sval) := by simp [Fr.push, Fr.pushs, sval, EV.sv]
      rw [e]; exact R1
    obtain ⟨R2, rs, _⟩ := R1'.asVals (fun y hy => a1 y (List.mem_cons_of_mem _ hy)) (by rw [hx2]; exact e2)
    have R3 : Rel F H1 σ S2 := R2.pop
    have rs3 : Reps (Zs F σ S2) H1 cs (xs.map (·.1)) := rs.less fun _ z => zs_push z
    obtain ⟨a, ha0, ow⟩ := R3.slotMut e3 e4
    rw [a0] at ha0; cases ha0
    have hw : Wof F.T σ S2 (.inl i) = some (.ref a, sv) := wof_slot a0 e3
    obtain ⟨a', ea, nza, _⟩ := R3.w.mu _ _ sv hw e4
    cases ea
    have mA : Mt (Wof F.T σ S2) a := ⟨_, _, hw, e4⟩
    have zz : ∀ b, Zs F σ S2 b → ((Zs F σ S2 b ∧ b ≠ a) ∨ b = a) := fun b z => by
      by_cases h : b = a
      · exact .inr h
      · exact .inl ⟨z, h⟩
    have zz' : ∀ b, ((Zs F σ S2 b ∧ b ≠ a) ∨ b = a) → Zs F σ S2 b := fun b z => z.elim (·.1) fun h => by rw [h]; exact .inr mA
    refine ⟨fun b => Zs F σ S2 b ∧ b ≠ a, a, sv.d, cs, xs.map (·.1), by simp, fun b z => ⟨R3.zdom z.1, z.2⟩, ow.grow (fun _ _ e => e) fun b _ => zz' b, by simpa using rs3.less zz', hmo _ _ _ _ (fun r d' z v H' kk rv ow' => ?_) p⟩
    -- behind the call
    have hmut : Mut (H' a) := ow'.mut
    have zr : RvAt (Zs F σ S2) H1 H' r v := by
      cases r with
      | val d => exact Rep.less rv zz
      | own d =>
        obtain ⟨b, e, n, o⟩ := rv
        exact ⟨b, e, n, o.grow (fun _ _ e => e) fun c _ z => z.elim (fun z => .inl (zz c z)) .inr⟩
      | bor j => exact rv.elim
    refine z v H' ?_ ?_
    · cases r with
      | val d =>
        have Rw : Rel F H' σ (S2.set i (some (sv.put d'))) := R3.write (o' := .lst []) e3 a0 e4 trivial kk (ow'.grow (fun _ _ e => e) fun b _ z => .inl (zz b z))
        refine Rw.pushVal (Rep.less zr fun b z => z.elim .inl fun ⟨q, s, e, m⟩ => .inr ?_)
        cases q with
        | inl j =>
          obtain ⟨q1, q2⟩ := of_wof e
          by_cases hij : i = j
          · subst hij
            rw [q1] at a0; cases a0
            exact mA
          · rw [List.getElem?_set_ne hij] at q2
            exact ⟨.inl j, s, wof_slot q1 q2, m⟩
        | inr j => exact ⟨.inr j, s, e, m⟩
      | own d =>
        obtain ⟨b, rfl, nb, ob⟩ := zr
        have hba : a ≠ b := fun e => by
          obtain ⟨o, q⟩ := R3.zdom (.inr mA : Zs F σ S2 a)
          rw [e, nb] at q; cases q
        -- all but the changed thing
        have k1 : Same H1 (fun c => if c = a then H1 c else H' c) := fun c o q => by
          show (if c = a then H1 c else H' c) = some o
          by_cases h : c = a
          · rw [if_pos h]; exact q
          · rw [if_neg h]; exact kk c o q h
        have mB : MutB (fun c => c = a) H' := fun c e => by rw [e]; exact hmut
        have ob1 : OwnAt (fun c => Zs F σ S2 c ∨ c = b) (fun c => if c = a then H1 c else H' c) b d :=
          ob.keep (B := fun c => c = a) (fun c o q n => by show (if c = a then H1 c else H' c) = some o; rw [if_neg n]; exact q) (fun c e => .inl (by rw [e]; exact .inr mA)) mB (fun _ _ z => z) fun e => hba e.symm
        have Rp := R3.pushOwn k1 nb ob1
        refine Rp.write (o' := .lst []) e3 a0 e4 trivial (fun c o q n => ?_) (ow'.grow (fun _ _ e => e) fun c _ z => ?_)
        · have q : (if c = a then H1 c else H' c) = some o := q
          rw [if_neg n] at q; exact q
        · have z : Zs (F.push (.ref b, .own d)) σ S2 c := z
          rcases z with z | ⟨q, s, e, m⟩
          · exact .inl (zz c (.inl z))
          · cases q with
            | inl j => exact .inl (zz c (.inr ⟨.inl j, s, e, m⟩))
            | inr j =>
              have e' : (F.T ++ [(V.ref b, SV.own d)])[j]? = some (.ref c, s) := e
              by_cases hj : j < F.T.length
              · rw [List.getElem?_append_left hj] at e'
                exact .inl (zz c (.inr ⟨.inr j, s, e', m⟩))
              · have hj2 : j = F.T.length := by
                  have := (List.getElem?_eq_some_iff.mp e').1
                  simp at this; omega
                subst hj2
                simp at e'
                exact .inr (by show V.ref b = V.ref c; rw [e'.1])
      | bor j => exact zr.elim
    · cases r <;> trivial
end

theorem rep_non {Z : Addr → Prop} {H : Hp} : Rep Z H .non .non := by simp only [Rep]
/-! ### bodies by data -/
def startS (N : List Str) (ds : List D) : DS := ds.map (fun d => some (.val d)) ++ List.replicate (N.length - ds.length) none
def endsP (Q : EV → Prop) : DEnds where
  nx := fun _ => Q (.val .non)
  rt := fun ev _ => match ev with
    | .bor _ => False
    | ev => Q ev
theorem start_get {N : List Str} {vs : List V} {i : Nat} {v : V} (h : vs[i]? = some v) : (start N vs)[i]? = some (some v) := by
  unfold L2.start
  rw [List.getElem?_append_left (by simpa using (List.getElem?_eq_some_iff.mp h).1)]
  simp [h]
theorem startS_get {N : List Str} {ds : List D} {i : Nat} {sv : SV} (h : (startS N ds)[i]? = some (some sv)) : ∃ d, ds[i]? = some d ∧ sv = .val d := by
  unfold startS at h
  by_cases hi : i < ds.length
  · rw [List.getElem?_append_left (by simpa using hi)] at h
    simp [hi] at h
    exact ⟨ds[i], by simp [hi], h.symm⟩
  · rw [List.getElem?_append_right (by simp; omega)] at h
    have := List.mem_of_getElem? h
    simp at this
theorem tabs_nil {H : Hp} : LamX.Tabs [] H := fun p hp => (nomatch hp)
theorem rel_start {Nt : List (Addr × Str)} {N : List Str} {ds : List D} {vs : List V} {Z : Addr → Prop} {H : Hp} (ht : LamX.Tabs Nt H) (hz : ∀ a, Z a → ∃ o, H a = some o) (r : Reps Z H ds vs) : Rel ⟨Nt, fun _ => False, Z, H, fun _ => none, []⟩ H (start N vs) (startS N ds) := by
  have hl := r.length
  have at_ : ∀ (i : Nat) sv, (startS N ds)[i]? = some (some sv) → ∃ v d, (start N vs)[i]? = some (some v) ∧ sv = .val d ∧ Rep Z H d v := fun i sv e => by
    obtain ⟨d, hd, es⟩ := startS_get e
    obtain ⟨v, hv, q⟩ := r.get hd
    exact ⟨v, d, start_get hv, es, q⟩
  have cell : ∀ p v sv, Wof [] (start N vs) (startS N ds) p = some (v, sv) → ∃ d, sv = .val d ∧ Rep Z H d v := fun p v sv e => by
    cases p with
    | inl i =>
      obtain ⟨h1, h2⟩ := of_wof e
      obtain ⟨u, d, h3, h4, h5⟩ := at_ i sv h2
      rw [h1] at h3; cases h3
      exact ⟨d, h4, h5⟩
    | inr j => have e' : ([] : List (V × SV))[j]? = some (v, sv) := e; simp at e'
  have nomut : ∀ a, ¬ Mt (Wof [] (start N vs) (startS N ds)) a := fun a ⟨p, sv, e, m⟩ => by
    obtain ⟨d, h, _⟩ := cell p _ sv e
    subst h; cases m
  refine ⟨by simp [startS, L2.start, hl], fun i sv e => let ⟨v, _, h, _⟩ := at_ i sv e; ⟨v, h⟩, fun i a e => (nomatch e), ⟨fun p v d e => ?_, fun p v sv e m => ?_, fun p q a sv sv' e e' m m' => ?_, fun p a d e => ?_, fun p a d e => ?_, fun a o e _ _ => e, fun a o e => ⟨o, e⟩, ht, fun a z => ⟨hz a z, fun _ => nofun⟩, fun i b e => (nomatch e)⟩⟩
  · obtain ⟨d', h, q⟩ := cell p v _ e
    cases h
    exact q.less fun a z => z.elim id fun m => (nomut a m).elim
  · obtain ⟨d', h, q⟩ := cell p v _ e
    subst h; cases m
  · obtain ⟨d', h, q⟩ := cell p _ _ e
    subst h; cases m
  · obtain ⟨d', h, q⟩ := cell p _ _ e
    cases h
  · obtain ⟨d', h, q⟩ := cell p _ _ e
    cases h
section
variable {P : Program} {w : World} {K : PySem.W.Frag} {mg : Str → Option Value} {base : Heap} {x qual : Str} {params : Arguments} {body : List Stmt} {scope : Scope} {dvs : List V} {kws : List (Str × V)} {f : Addr} {fd : FuncData} {N ps : List Str} {k : Nat}
/-- what a body's derivation may use of its context -/
structure BodyCx (k : Nat) (X : Cx) (G : Gb) (Xd : DXm) : Prop where
  room : Room k X.A
  gd : X.A.guards = some []
  tk : Takes X (wD G Xd)
  own : PassesOwn (model X.prog X.w) X.A X.env X.xe
theorem fnP_ok {s : Sp0} (F : FunD K x qual params body scope dvs kws f fd) (S : FnScope N ps scope) (hlen : ∀ ds Q Y, s ds Q Y → ds.length = ps.length)
    (hbody : ∀ (cdv : Value) (A : Around) (outer : List Env) (st : Shared) (H : Hp) (E : XK) (G : Gb) (Y : DX → Prop), BodyCx k (cxOf (L2.CX P w) P w K mg base N qual scope f cdv A outer st H E) G (fun x _ => Y x) →
      ∃ m, DBlk (cxOf (L2.CX P w) P w K mg base N qual scope f cdv A outer st H E) G body m ∧ ∀ ds Q, s ds Q Y → m (endsP Q) (startS N ds)) : FnG P w K mg base (k + 1) f fd ps (spP s) := by
  refine fng_of F S (fun vs H Q E ⟨Z, ds, _, r, h⟩ => r.length.symm.trans (hlen ds _ _ h)) fun cdv A outer st H vs Q E hr hg ⟨Z, ds, hz, r, h⟩ => ?_
  have W : Takes (cxOf (L2.CX P w) P w K mg base N qual scope f cdv A outer st H E) (wD ⟨[], fun _ => False, Z, H⟩ fun x _ => ∀ cls dd H', Same H H' → XAt Z H' x cls dd → E cls dd H') := by
    refine (takes_of (E := E) rfl rfl rfl rfl).imp fun cls d σ H' ⟨F', S', x, hG, R, xa, q⟩ => q cls d H' (fun a o e => ?_) (xa.grow (fun _ _ e => e) fun a _ z => .inl ?_)
    · have e1 : F'.H0 = H := congrArg Gb.H0 hG
      have e2 : F'.IO = fun _ => False := congrArg Gb.IO hG
      refine R.w.base a o (by rw [e1]; exact e) (fun i q => ?_) fun n => absurd (congrArg Gb.N hG) n
      rcases R.iog i a q with h | h
      · rw [e1, e] at h; cases h
      · rw [e2] at h; exact h
    · rw [show F'.Z = Z from congrArg Gb.Z hG]; exact z
  obtain ⟨m, hd, hq⟩ := hbody cdv A outer st H E ⟨[], fun _ => False, Z, H⟩ _ ⟨hr, hg, W, passes_of rfl⟩
  refine ⟨_, hd.run, ⟨[], fun _ => False, Z, H, fun _ => none, []⟩, startS N ds, rfl, rel_start tabs_nil hz r, hd.mono _ _ _ ⟨?_, ?_, ?_, ?_⟩ (hq ds _ h)⟩
  · exact fun S' q σ' H' R => q .non H' (fun a o e => R.w.base a o e (fun _ => nofun) fun n => absurd rfl n) (rep_non (Z := Z) (H := H'))
  · intro ev S' q v σ' H' R _
    have sm : Same H H' := fun a o e => R.w.base a o e (fun _ => nofun) fun n => absurd rfl n
    cases ev with
    | val d => exact q v H' sm ((R.w.val (.inr 0) v d rfl).less fun a z => .inl z)
    | own d =>
      obtain ⟨a, rfl, na, o⟩ := R.w.mu (.inr 0) v (.own d) rfl rfl
      refine q _ H' sm ⟨a, rfl, R.w.own (.inr 0) a d rfl, o.grow (fun _ _ e => e) fun b _ z => z.elim .inl fun e => .inr ⟨.inr 0, .own d, by rw [e]; rfl, rfl⟩⟩
    | bor j => exact q.elim
  · exact fun S' q => q.elim
  · exact fun S' q => q.elim
/-! ### bodies that change their first argument -/
def startI (N : List Str) (d : D) (ds : List D) : DS := some (.io d) :: (ds.map (fun d => some (.val d)) ++ List.replicate (N.length - (ds.length + 1)) none)
def endsI (Q : EV → D → Prop) : DEnds where
  nx := fun S => ∃ d, S[0]? = some (some (.io d)) ∧ Q (.val .non) d
  rt := fun ev S => ∃ d, S[0]? = some (some (.io d)) ∧ match ev with
    | .bor _ => False
    | ev => Q ev d
theorem rel_startI {Nt : List (Addr × Str)} {N : List Str} {d : D} {ds : List D} {vs : List V} {a : Addr} {Z : Addr → Prop} {H : Hp} (ht : LamX.Tabs Nt H) (hz : ∀ b, Z b → (∃ o, H b = some o) ∧ b ≠ a) (o : OwnAt (fun b => Z b ∨ b = a) H a d) (r : Reps (fun b => Z b ∨ b = a) H ds vs) :
    Rel ⟨Nt, fun b => b = a, Z, H, fun i => if i = 0 then some a else none, []⟩ H (start N (.ref a :: vs)) (startI N d ds) := by
  have hl := r.length
  have at_ : ∀ (i : Nat) sv, (startI N d ds)[i]? = some (some sv) → (i = 0 ∧ sv = .io d) ∨ ∃ v d', i ≠ 0 ∧ (start N (.ref a :: vs))[i]? = some (some v) ∧ sv = .val d' ∧ Rep (fun b => Z b ∨ b = a) H d' v := fun i sv e => by
    cases i with
    | zero =>
      have e : some (some (SV.io d)) = some (some sv) := e
      cases e
      exact .inl ⟨rfl, rfl⟩
    | succ i =>
      refine .inr ?_
      have e : (ds.map (fun d => some (SV.val d)) ++ List.replicate (N.length - (ds.length + 1)) none)[i]? = some (some sv) := e
      by_cases hi : i < ds.length
      · rw [List.getElem?_append_left (by simpa using hi)] at e
        simp [hi] at e
        obtain ⟨v, hv, q⟩ := r.get (i := i) (d := ds[i]) (by simp [hi])
        exact ⟨v, _, by omega, start_get (vs := .ref a :: vs) (i := i + 1) (by simpa using hv), e.symm, q⟩
      · rw [List.getElem?_append_right (by simp; omega)] at e
        have := List.mem_of_getElem? e
        simp at this
  have h0 : (start N (.ref a :: vs))[0]? = some (some (.ref a)) := start_get (vs := .ref a :: vs) (i := 0) rfl
  have cell : ∀ p v sv, Wof [] (start N (.ref a :: vs)) (startI N d ds) p = some (v, sv) → (p = .inl 0 ∧ v = .ref a ∧ sv = .io d) ∨ ∃ d', sv = .val d' ∧ Rep (fun b => Z b ∨ b = a) H d' v := fun p v sv e => by
    cases p with
    | inl i =>
      obtain ⟨h1, h2⟩ := of_wof e
      rcases at_ i sv h2 with ⟨e0, es⟩ | ⟨u, d', _, h3, h4, h5⟩
      · subst e0
        rw [h0] at h1; cases h1
        exact .inl ⟨rfl, rfl, es⟩
      · rw [h1] at h3; cases h3
        exact .inr ⟨d', h4, h5⟩
    | inr j => have e' : ([] : List (V × SV))[j]? = some (v, sv) := e; simp at e'
  have muts : ∀ b, Mt (Wof [] (start N (.ref a :: vs)) (startI N d ds)) b → b = a := fun b ⟨p, sv, e, m⟩ => by
    rcases cell p _ sv e with ⟨_, h, _⟩ | ⟨_, h, _⟩
    · cases h; rfl
    · subst h; cases m
  have zz : ∀ b, (Z b ∨ Mt (Wof [] (start N (.ref a :: vs)) (startI N d ds)) b) → (Z b ∨ b = a) := fun b z => z.elim .inl fun m => .inr (muts b m)
  refine ⟨by simp [startI, L2.start, hl], fun i sv e => ?_, fun i b e => ?_, ⟨fun p v d' e => ?_, fun p v sv e m => ?_, fun p q b sv sv' e e' m m' => ?_, fun p b d' e => ?_, fun p b d' e => ?_, fun b o e _ _ => e, fun b o e => ⟨o, e⟩, ht, fun b z => ⟨(hz b z).1, fun i e => ?_⟩, fun i b e => ?_⟩⟩
  · rcases at_ i sv e with ⟨e0, _⟩ | ⟨v, _, _, h, _⟩
    · subst e0; exact ⟨_, h0⟩
    · exact ⟨v, h⟩
  · have e : (if i = 0 then some a else none) = some b := e
    split at e
    · cases e; exact .inr rfl
    · cases e
  · rcases cell p v _ e with ⟨_, _, h⟩ | ⟨d2, h, q⟩
    · cases h
    · cases h; exact q.less zz
  · rcases cell p v _ e with ⟨_, h1, h2⟩ | ⟨d2, h, q⟩
    · subst h1 h2
      exact ⟨a, rfl, fun z => (hz a z).2 rfl, o.grow (fun _ _ e => e) fun b _ => zz b⟩
    · subst h; cases m
  · rcases cell p _ _ e with ⟨h1, _⟩ | ⟨_, h, _⟩
    · rcases cell q _ _ e' with ⟨h2, _⟩ | ⟨_, h, _⟩
      · rw [h1, h2]
      · subst h; cases m'
    · subst h; cases m
  · rcases cell p _ _ e with ⟨_, _, h⟩ | ⟨_, h, _⟩ <;> cases h
  · rcases cell p _ _ e with ⟨h1, h2, _⟩ | ⟨_, h, _⟩
    · cases h2; exact ⟨0, h1, rfl⟩
    · cases h
  · have e : (if i = 0 then some a else none) = some b := e
    split at e
    · cases e; exact (hz _ z).2 rfl
    · cases e
  · have e : (if i = 0 then some a else none) = some b := e
    split at e
    · cases e; exact o.there2
    · cases e
theorem fnI_ok {s : Sp1} (F : FunD K x qual params body scope dvs kws f fd) (S : FnScope N ps scope) (hlen : ∀ d ds Q, s d ds Q → ds.length + 1 = ps.length)
    (hbody : ∀ (cdv : Value) (A : Around) (outer : List Env) (st : Shared) (H : Hp) (E : XK) (G : Gb), BodyCx k (cxOf (L2.CX P w) P w K mg base N qual scope f cdv A outer st H E) G (fun _ _ => False) →
      ∃ m, DBlk (cxOf (L2.CX P w) P w K mg base N qual scope f cdv A outer st H E) G body m ∧ ∀ d ds Q, s d ds Q → m (endsI Q) (startI N d ds)) : FnG P w K mg base (k + 1) f fd ps (spI s) := by
  refine fng_of F S (fun vs H Q E ⟨Z, a, d, ds, vs', e, _, _, r, h⟩ => by rw [e, List.length_cons, ← r.length]; exact hlen d ds _ h) fun cdv A outer st H vs Q E hr hg ⟨Z, a, d, ds, vs', e, hz, o, r, h⟩ => ?_
  subst e
  obtain ⟨m, hd, hq⟩ := hbody cdv A outer st H E ⟨[], fun b => b = a, Z, H⟩ ⟨hr, hg, takes_no, passes_of rfl⟩
  refine ⟨_, hd.run, ⟨[], fun b => b = a, Z, H, fun i => if i = 0 then some a else none, []⟩, startI N d ds, rfl, rel_startI tabs_nil hz o r, hd.mono _ _ _ ⟨?_, ?_, ?_, ?_⟩ (hq d ds _ h)⟩
  · rintro S' ⟨d', e0, q⟩ σ' H' R
    obtain ⟨b, hb, hio⟩ := R.ioAt e0
    obtain ⟨c, hc, ow⟩ := R.slotMut e0 rfl
    rw [hb] at hc; cases hc
    have hio : (if 0 = 0 then some a else none) = some b := hio
    cases hio
    refine q .non H' (fun c o e ne => R.w.base c o e (fun i z => ?_) fun n => absurd rfl n) (rep_non (Z := fun b => Z b ∨ b = a) (H := H')) (ow.grow (fun _ _ e => e) fun c _ z => ?_)
    · have z : (if i = 0 then some a else none) = some c := z
      split at z
      · cases z; exact ne rfl
      · cases z
    · rcases z with (z | z) | z
      · exact .inl z
      · exact .inr ⟨.inl 0, .io d', by rw [z]; exact wof_slot hb e0, rfl⟩
      · exact z.elim
  · rintro ev S' ⟨d', e0, q⟩ v σ' H' R _
    obtain ⟨b, hb, hio⟩ := R.ioAt e0
    obtain ⟨c, hc, ow⟩ := R.slotMut e0 rfl
    rw [hb] at hc; cases hc
    have hio : (if 0 = 0 then some a else none) = some b := hio
    cases hio
    have mA : Mt (Wof [(v, ev.sv)] σ' S') a := ⟨.inl 0, .io d', wof_slot hb e0, rfl⟩
    have zz : ∀ c, (Z c ∨ c = a) → Zs ⟨[], fun b => b = a, Z, H, fun i => if i = 0 then some a else none, [(v, ev.sv)]⟩ σ' S' c := fun c z => z.elim .inl fun e => by rw [e]; exact .inr mA
    have kk : ∀ c o, H c = some o → c ≠ a → H' c = some o := fun c o e ne => R.w.base c o e (fun i z => by
      have z : (if i = 0 then some a else none) = some c := z
      split at z
      · cases z; exact ne rfl
      · cases z) fun n => absurd rfl n
    cases ev with
    | val d2 =>
      refine q v H' kk ((R.w.val (.inr 0) v d2 rfl).less zz) (ow.grow (fun _ _ e => e) fun c _ z => ?_)
      exact z.elim (zz c) fun z => z.elim
    | own d2 =>
      obtain ⟨p, rfl, np, o2⟩ := R.w.mu (.inr 0) v (.own d2) rfl rfl
      refine q _ H' kk ⟨p, rfl, R.w.own (.inr 0) p d2 rfl, o2.grow (fun _ _ e => e) fun c _ z => ?_⟩ (ow.grow (fun _ _ e => e) fun c _ z => ?_)
      · rcases z with z | z
        · exact zz c z
        · exact .inr ⟨.inr 0, .own d2, by rw [z]; rfl, rfl⟩
      · rcases z with z | z
        · exact zz c z
        · have z : V.ref p = V.ref c := z
          cases z
          exact .inr ⟨.inr 0, .own d2, rfl, rfl⟩
    | bor j => exact q.elim
  · exact fun S' q => q.elim
  · exact fun S' q => q.elim
end

/-! ### raise -/
section
variable {P : Program} {w : World} {K : PySem.W.Frag} {mg : Str → Option Value} {base : Heap}
/-- an own exception's __init__: it stores its arguments, one after the other -/
def spX (C : Addr) (ns : List Str) : Sp := fun vs H Q _ => ∃ (a : Addr) (us : List V), vs = .ref a :: us ∧ us.length = ns.length ∧ H a = some (exo a C none) ∧
  ∀ d H', H d = none → d ≠ a → H' a = some (exo a C (some d)) → H' d = some (exd d ((ns.zip us).reverse)) → (∀ b, b ≠ a → b ≠ d → H' b = H b) → Q .non H'
end
section
variable {X : Cx} {G : Gb} {Xd : DXm} {e : Expr} {es : List Expr} {ms : DAm} {k : Nat} {x : Str} {C fI : Addr} {fd : FuncData} {ps ns : List Str} {p pos pos' : Pos}
def dRaise (Xd : DXm) (C : Addr) (ns : List Str) (ms : DAm) : DSm := fun _ S => ms S fun evs S1 => ∃ cs S2, asVals S1 evs = some (cs, S2) ∧ cs.length = ns.length ∧ cs.length ≤ 1000 ∧ Xd ⟨C, ns.reverse, cs.reverse⟩ S2
theorem zip_rev {α β : Type} : ∀ {l : List α} {m : List β}, l.length = m.length → (l.zip m).reverse = l.reverse.zip m.reverse
  | [], [], _ => rfl
  | [], _ :: _, h => by simp at h
  | _ :: _, [], h => by simp at h
  | x :: l, y :: m, h => by
    have hl : l.length = m.length := by simpa using h
    rw [List.zip_cons_cons, List.reverse_cons, List.reverse_cons, List.reverse_cons, zip_rev hl, List.zip_append (by simp [hl])]
    rfl
theorem Reps.rev {Z : Addr → Prop} {H : Hp} : ∀ {ds : List D} {vs : List V}, Reps Z H ds vs → Reps Z H ds.reverse vs.reverse
  | [], _, h => by simp only [Reps] at h; subst h; exact .nil
  | d :: ds, _, h => by
    simp only [Reps] at h
    obtain ⟨v, r, rfl, h1, h2⟩ := h
    simp only [List.reverse_cons]
    exact (Reps.rev h2).append (.cons h1 .nil)
theorem ds_raise (hc : X.calm = true) (tk : Takes X (wD G Xd)) (T : OexC X.K C) (iC : PySem.W.findIn X.K (.ref C) "__init__" = some (some (.ref fI))) (tI : PySem.W.typeIn X.K (.ref fI) = some (.type "function"))
    (F1 : FnOk X.prog X.w X.K X.mg X.base CX0 k fI fd ps (spX C ns)) (hr : Room (k + 1) X.A) (hb : Binds X.K fd ps []) (hg : Gl X x) (hm : X.mg x = some (.ref C)) (ha : DA X G (e :: es) ms)
    (hdb : (x == ("__debug__" : Str)) = false := by decide) (he : starEach (e :: es) X.env = (false, eval e X.env) :: starEach es X.env := by rfl) (hpl : (backTo pos (starEach es X.env)).any (·.1) = false := by rfl) :
    DStm X G (.Raise (some (.Call (.Name x p) (e :: es) [] pos)) none pos') (dRaise Xd C ns ms) := by
  refine ⟨ps_of (ps_raise hc tk (pmk_oex (dvs := []) T iC tI F1 hr hb .nil pass0 hg hm ha.run hdb he hpl)) fun D σ H => ?_, fun D D' S kk q => q⟩
  rintro ⟨F, S, hG, R, q⟩
  refine ⟨F, S, hG, R, ha.mono _ _ _ (fun evs S1 ⟨cs, S2, e1, e2, e3, p⟩ xs H1 hx R1 a1 => ?_) q⟩
  obtain ⟨R2, rs, _⟩ := R1.asVals a1 (by rw [hx]; exact e1)
  have hl : (xs.map (·.1)).length = cs.length := rs.length.symm
  refine ⟨by rw [hl]; exact e3, fun a na => ⟨a, xs.map (·.1), by simp, by rw [hl, e2], upd_same, fun d H' nd ne h1 h2 h3 => ⟨rfl, d, _, h1, h2, by rwa [upd_ne ne] at nd, ?_⟩⟩⟩
  have nd' : H1 d = none := by rwa [upd_ne ne] at nd
  have sm : Same H1 (upd (del H' a) d (.xd ((ns.zip (xs.map (·.1))).reverse))) := fun b o q => by
    have hbd : b ≠ d := fun z => by rw [z, nd'] at q; cases q
    have hba : b ≠ a := fun z => by rw [z, na] at q; cases q
    rw [upd_ne hbd, del_ne hba, h3 b hba hbd, upd_ne hba]
    exact q
  refine ⟨F, S2, ⟨C, ns.reverse, cs.reverse⟩, hG, R2.grow sm, ⟨rfl, .inr ⟨d, (xs.map (·.1)).reverse, rfl, ?_, by simp [e2], (rs.rev).grow sm fun _ _ z => z⟩⟩, p⟩
  rw [upd_same]
  rw [zip_rev (by rw [hl, e2])]
end
end DL
set_option Elab.async false
set_option linter.all false
set_option maxRecDepth 100000
set_option maxHeartbeats 1000000
/-! Layer D: the operators' tables. -/
namespace DL
open PySem PySem.Spec PyProof.Rows L2

/-! ### as the library's data -/
mutual
def toP : D → PyData
  | .non => .none
  | .bl b => .bool b
  | .int i => .int i
  | .str x => .str x
  | .tup ds => .tuple (toPs ds)
  | .lst ds => .list (toPs ds)
  | .frl ds => .list (toPs ds)
  | .dic _ _ => .dict []
  | .obj _ _ _ => .dict []
  | .ref _ => .dict []
def toPs : List D → List PyData
  | [] => []
  | d :: ds => toP d :: toPs ds
end
mutual
theorem Rep.dp {K : PySem.W.Frag} {Z : Addr → Prop} {H : Hp} : ∀ {d : D} {v : V}, Rep Z H d v → (toP d).canLay0 = true → Dp K H v (toP d)
  | .non, _, h, _ => by simp only [Rep] at h; subst h; simp only [toP]; exact .non
  | .bl b, _, h, _ => by simp only [Rep] at h; subst h; simp only [toP]; exact .bl b
  | .int b, _, h, _ => by simp only [Rep] at h; subst h; simp only [toP]; exact .int b
  | .str b, _, h, _ => by simp only [Rep] at h; subst h; simp only [toP]; exact .str b
  | .tup ds, _, h, c => by
    simp only [Rep] at h
    obtain ⟨a, vs, rfl, r, q⟩ := h
    simp only [toP, PyData.canLay0] at c ⊢
    exact .tup (.inl r) (Reps.dp q c)
  | .lst ds, _, h, c => by
    simp only [Rep] at h
    obtain ⟨a, vs, rfl, r, q⟩ := h
    simp only [toP, PyData.canLay0] at c ⊢
    exact .lst (.inl (.inl r.1)) (Reps.dp q c)
  | .frl ds, _, h, c => by
    simp only [Rep] at h
    obtain ⟨a, vs, o, rfl, r, q⟩ := h
    simp only [toP, PyData.canLay0] at c ⊢
    exact .lst (.inl (.inr ⟨o, r⟩)) (Reps.dp q c)
  | .dic _ _, _, _, c => by simp [toP, PyData.canLay0] at c
  | .obj _ _ _, _, _, c => by simp [toP, PyData.canLay0] at c
  | .ref _, _, _, c => by simp [toP, PyData.canLay0] at c
theorem Reps.dp {K : PySem.W.Frag} {Z : Addr → Prop} {H : Hp} : ∀ {ds : List D} {vs : List V}, Reps Z H ds vs → PyData.canLayAll0 (toPs ds) = true → DpAll K H vs (toPs ds)
  | [], _, h, _ => by simp only [Reps] at h; subst h; simp only [toPs]; exact .nil
  | d :: ds, _, h, c => by
    simp only [Reps] at h
    obtain ⟨v, r, rfl, h1, h2⟩ := h
    simp only [toPs, PyData.canLayAll0, Bool.and_eq_true] at c ⊢
    exact .cons (Rep.dp h1 c.1) (Reps.dp h2 c.2)
end
theorem Top.dp {K : PySem.W.Frag} {Z : Addr → Prop} {H : Hp} {d : D} {v : V} (h : Top Z H d v) (c : (toP d).canLay0 = true) : Dp K H v (toP d) := by
  cases d <;> simp only [Top] at h <;> first | exact Rep.dp h c | skip
  · obtain ⟨a, vs, rfl, r, q⟩ := h
    simp only [toP, PyData.canLay0] at c ⊢
    exact .lst (.inl (.inl r)) (Reps.dp q c)
  · simp [toP, PyData.canLay0] at c
  · simp [toP, PyData.canLay0] at c
def okE (d : D) : Bool := SeqAt.shaped (toP d)

/-! ### tools -/
theorem OpD.or {r r' : R2} {f f' : D → D → Option EV} {g : D → D → Option EV} (h : OpD r f) (h' : OpD r' f') (k : ∀ c d ev, g c d = some ev → f c d = some ev ∨ f' c d = some ev) : OpD (fun x y H Q => r x y H Q ∨ r' x y H Q) g :=
  fun Z H x y c d ev Q t1 t2 e q => (k c d ev e).elim (fun e => .inl (h Z H x y c d ev Q t1 t2 e q)) fun e => .inr (h' Z H x y c d ev Q t1 t2 e q)
theorem LsD.or {r r' : List V → Hp → VK → Prop} {f f' g : List D → Option EV} (h : LsD r f) (h' : LsD r' f') (k : ∀ cs ev, g cs = some ev → f cs = some ev ∨ f' cs = some ev) : LsD (fun xs H Q => r xs H Q ∨ r' xs H Q) g :=
  fun Z H xs cs ev Q t e q => (k cs ev e).elim (fun e => .inl (h Z H xs cs ev Q t e q)) fun e => .inr (h' Z H xs cs ev Q t e q)
theorem same_upd {H : Hp} {p : Addr} {o : HO} (n : H p = none) : Same H (upd H p o) := fun b u e => by rw [upd_ne (ne_of_none e n)]; exact e
section
variable {Z : Addr → Prop} {H : Hp} {v : V}
theorem top_int {i : Int} (h : Top Z H (.int i) v) : v = .int i := by simpa only [Top, Rep] using h
theorem top_str {i : Str} (h : Top Z H (.str i) v) : v = .str i := by simpa only [Top, Rep] using h
theorem top_bl {i : Bool} (h : Top Z H (.bl i) v) : v = .bl i := by simpa only [Top, Rep] using h
theorem top_non (h : Top Z H .non v) : v = .non := by simpa only [Top, Rep] using h
theorem top_tup {ds : List D} (h : Top Z H (.tup ds) v) : ∃ a vs, v = .ref a ∧ Rd H a (.tup vs) ∧ Reps Z H ds vs := by simpa only [Top, Rep] using h
theorem top_frl {ds : List D} (h : Top Z H (.frl ds) v) : ∃ a vs o, v = .ref a ∧ H a = some (.frz o (.lst vs)) ∧ Reps Z H ds vs := by simpa only [Top, Rep] using h
theorem rep_int {i : Int} : Rep Z H (.int i) (.int i) := by simp only [Rep]
theorem rep_str {i : Str} : Rep Z H (.str i) (.str i) := by simp only [Rep]
/-- a new list, a new tuple of these -/
theorem rv_lst {ds : List D} {vs : List V} {p : Addr} (n : H p = none) (r : Reps Z H ds vs) : RvAt Z H (upd H p (.lst vs)) (.own (.lst ds)) (.ref p) :=
  ⟨p, rfl, n, vs, upd_same, r.grow (same_upd n) fun a ⟨o, e⟩ z => z.elim id fun q => by rw [q, n] at e; cases e⟩
theorem rv_tup {ds : List D} {vs : List V} {p : Addr} (n : H p = none) (r : Reps Z H ds vs) : RvAt Z H (upd H p (.tup vs)) (.val (.tup ds)) (.ref p) := by
  show Rep Z _ (.tup ds) (.ref p)
  simp only [Rep]
  exact ⟨p, vs, rfl, .inl upd_same, r.grow (same_upd n) fun _ _ z => z⟩
end

section
variable {Z : Addr → Prop} {H H' : Hp}
theorem rv_int {i : Int} : RvAt Z H H' (.val (.int i)) (.int i) := rep_int (Z := Z) (H := H')
theorem rv_str {i : Str} : RvAt Z H H' (.val (.str i)) (.str i) := rep_str (Z := Z) (H := H')
theorem rv_bl {i : Bool} : RvAt Z H H' (.val (.bl i)) (.bl i) := rep_bl (Z := Z) (H := H')
theorem rv_val {d : D} {v : V} (h : Rep Z H' d v) : RvAt Z H H' (.val d) v := h
end
/-! ### + - * // % ** -/
def fAdd : D → D → Option EV
  | .int i, .int j => some (.val (.int (i + j)))
  | .str x, .str y => if x.length + y.length ≤ sizeLine then some (.val (.str (x ++ y))) else none
  | .lst xs, .lst ys => if xs.length + ys.length ≤ sizeLine then some (.own (.lst (xs ++ ys))) else none
  | .tup xs, .tup ys => if xs.length + ys.length ≤ sizeLine then some (.val (.tup (xs ++ ys))) else none
  | _, _ => none
theorem opd_add {K : PySem.W.Frag} : OpD (fun x y H Q => rI0 (fun i j => .int (i + j)) x y H Q ∨ ((∃ i j, x = .str i ∧ y = .str j ∧ i.length + j.length ≤ sizeLine ∧ Q (.str (i ++ j)) H) ∨ (rCat x y H Q ∨ rCatA K x y H Q))) fAdd := by
  intro Z H x y c d ev Q t1 t2 e q
  unfold fAdd at e
  split at e
  · cases e
    rw [top_int t1, top_int t2]
    exact .inl ⟨_, _, rfl, rfl, q _ H (Same.refl H) rv_int⟩
  · split at e
    · rename_i h
      cases e
      rw [top_str t1, top_str t2]
      exact .inr (.inl ⟨_, _, rfl, rfl, h, q _ H (Same.refl H) rv_str⟩)
    · cases e
  · split at e
    · rename_i h
      cases e
      obtain ⟨a, vs, rfl, r1, q1⟩ := t1
      obtain ⟨b, ws, rfl, r2, q2⟩ := t2
      exact .inr (.inr (.inl ⟨a, b, vs, ws, rfl, rfl, r1, r2, by rw [← q1.length, ← q2.length]; exact h, fun p n => q _ _ (same_upd n) (rv_lst n (q1.append q2))⟩))
    · cases e
  · split at e
    · rename_i h
      cases e
      obtain ⟨a, vs, rfl, r1, q1⟩ := top_tup t1
      obtain ⟨b, ws, rfl, r2, q2⟩ := top_tup t2
      refine .inr (.inr (.inr ⟨a, b, vs, ws, rfl, rfl, .inl r1, .inl r2, by rw [← q1.length, ← q2.length]; exact h, fun z => ?_, fun _ z => ?_, fun _ _ p n => q _ _ (same_upd n) (rv_tup n (q1.append q2))⟩))
      · subst z
        have e0 := List.length_eq_zero_iff.mp q1.length
        subst e0
        exact q _ H (Same.refl H) (show Rep _ _ _ _ by simp only [List.nil_append, Rep]; exact ⟨b, ws, rfl, r2, q2⟩)
      · subst z
        have e0 := List.length_eq_zero_iff.mp q2.length
        subst e0
        exact q _ H (Same.refl H) (show Rep _ _ _ _ by simp only [List.append_nil, Rep]; exact ⟨a, vs, rfl, r1, q1⟩)
    · cases e
  · cases e
def fSub : D → D → Option EV
  | .int i, .int j => some (.val (.int (i - j)))
  | _, _ => none
theorem opd_sub : OpD (rI0 fun i j => .int (i - j)) fSub := by
  intro Z H x y c d ev Q t1 t2 e q
  unfold fSub at e
  split at e
  · cases e
    rw [top_int t1, top_int t2]
    exact ⟨_, _, rfl, rfl, q _ H (Same.refl H) rv_int⟩
  · cases e
instance (i j : Int) : Decidable (CMul i j) := by unfold CMul; exact inferInstance
instance (i j : Int) : Decidable (CDiv i j) := by unfold CDiv; exact inferInstance
instance (i j : Int) : Decidable (CPow i j) := by unfold CPow; exact inferInstance
def fMul : D → D → Option EV
  | .int i, .int j => if CMul i j then some (.val (.int (i * j))) else none
  | .lst xs, .int k => if -(2 ^ 63) ≤ k ∧ k < 2 ^ 63 ∧ xs.length * k.toNat ≤ sizeLine then some (.own (.lst (List.replicate k.toNat xs).flatten)) else none
  | _, _ => none
theorem Reps.flat {Z : Addr → Prop} {H : Hp} {ds : List D} {vs : List V} (r : Reps Z H ds vs) : ∀ n, Reps Z H (List.replicate n ds).flatten (List.replicate n vs).flatten
  | 0 => .nil
  | n + 1 => by simp only [List.replicate_succ, List.flatten_cons]; exact r.append (Reps.flat r n)
theorem opd_mul : OpD (fun x y H Q => rI CMul (fun i j => .int (i * j)) x y H Q ∨ rRep x y H Q) fMul := by
  intro Z H x y c d ev Q t1 t2 e q
  unfold fMul at e
  split at e
  · split at e
    · rename_i h
      cases e
      rw [top_int t1, top_int t2]
      exact .inl ⟨_, _, rfl, rfl, h, q _ H (Same.refl H) rv_int⟩
    · cases e
  · split at e
    · rename_i h
      cases e
      obtain ⟨a, vs, rfl, r1, q1⟩ := t1
      rw [top_int t2]
      exact .inr ⟨a, _, vs, rfl, rfl, r1, h.1, h.2.1, by rw [← q1.length]; exact h.2.2, fun p n => q _ _ (same_upd n) (rv_lst n (q1.flat _))⟩
    · cases e
  · cases e
def fDiv : D → D → Option EV
  | .int i, .int j => if CDiv i j then some (.val (.int (i / j))) else none
  | _, _ => none
theorem opd_div : OpD (rI CDiv fun i j => .int (i / j)) fDiv := by
  intro Z H x y c d ev Q t1 t2 e q
  unfold fDiv at e
  split at e
  · split at e
    · rename_i h
      cases e
      rw [top_int t1, top_int t2]
      exact ⟨_, _, rfl, rfl, h, q _ H (Same.refl H) rv_int⟩
    · cases e
  · cases e
def fMod : D → D → Option EV
  | .int i, .int j => if 0 < j then some (.val (.int (i % j))) else none
  | _, _ => none
theorem opd_mod : OpD (rI (fun _ j => 0 < j) fun i j => .int (i % j)) fMod := by
  intro Z H x y c d ev Q t1 t2 e q
  unfold fMod at e
  split at e
  · split at e
    · rename_i h
      cases e
      rw [top_int t1, top_int t2]
      exact ⟨_, _, rfl, rfl, h, q _ H (Same.refl H) rv_int⟩
    · cases e
  · cases e
def fPow : D → D → Option EV
  | .int i, .int j => if CPow i j then some (.val (.int (i ^ j.toNat))) else none
  | _, _ => none
theorem opd_pow : OpD (rI CPow fun i j => .int (i ^ j.toNat)) fPow := by
  intro Z H x y c d ev Q t1 t2 e q
  unfold fPow at e
  split at e
  · split at e
    · rename_i h
      cases e
      rw [top_int t1, top_int t2]
      exact ⟨_, _, rfl, rfl, h, q _ H (Same.refl H) rv_int⟩
    · cases e
  · cases e
def fNeg : D → Option EV
  | .int i => some (.val (.int (-i)))
  | _ => none
theorem und_neg : UnD (rU fun i => .int (-i)) fNeg := by
  intro Z H x c ev Q t e q
  unfold fNeg at e
  split at e
  · cases e
    rw [top_int t]
    exact ⟨_, rfl, q _ H (Same.refl H) rv_int⟩
  · cases e

/-! ### == and != -/
/-- two values that == tells apart by themselves; others as data -/
def eqB : D → D → Option Bool
  | .str x, .str y => some (decide (x = y))
  | .int x, .int y => some (decide (x = y))
  | .bl x, .bl y => some (decide (x = y))
  | .non, .non => some true
  | .non, .str _ => some false
  | .str _, .non => some false
  | .non, .int _ => some false
  | .int _, .non => some false
  | .int _, .str _ => some false
  | .str _, .int _ => some false
  | .bl _, .str _ => some false
  | .str _, .bl _ => some false
  | .non, .bl _ => some false
  | .bl _, .non => some false
  | c, d => if okE c && okE d then some (PyData.eqv (toP c) (toP d)) else none
def fEq (c d : D) : Option EV := (eqB c d).map fun b => .val (.bl b)
def fNe (c d : D) : Option EV := (eqB c d).map fun b => .val (.bl (!b))
def atomV : D → Option V
  | .non => some .non
  | .bl b => some (.bl b)
  | .int i => some (.int i)
  | .str x => some (.str x)
  | _ => none
theorem top_atom {Z : Addr → Prop} {H : Hp} {d : D} {v u : V} (h : Top Z H d v) (e : atomV d = some u) : v = u := by
  cases d <;> simp only [atomV] at e <;> first | cases e | skip
  · exact top_non h
  · exact top_bl h
  · exact top_int h
  · exact top_str h
theorem eqB_cases {c d : D} {b : Bool} (h : eqB c d = some b) : (∃ x y, atomV c = some x ∧ atomV d = some y ∧ scal x y = true ∧ b = decide (x = y)) ∨ (okE c = true ∧ okE d = true ∧ b = PyData.eqv (toP c) (toP d)) := by
  unfold eqB at h
  split at h
  · cases h; refine .inl ⟨_, _, rfl, rfl, rfl, ?_⟩; simp
  · cases h; refine .inl ⟨_, _, rfl, rfl, rfl, ?_⟩; simp
  · cases h; refine .inl ⟨_, _, rfl, rfl, rfl, ?_⟩; simp
  · cases h; exact .inl ⟨_, _, rfl, rfl, rfl, rfl⟩
  · cases h; exact .inl ⟨_, _, rfl, rfl, rfl, rfl⟩
  · cases h; exact .inl ⟨_, _, rfl, rfl, rfl, rfl⟩
  · cases h; exact .inl ⟨_, _, rfl, rfl, rfl, rfl⟩
  · cases h; exact .inl ⟨_, _, rfl, rfl, rfl, rfl⟩
  · cases h; exact .inl ⟨_, _, rfl, rfl, rfl, rfl⟩
  · cases h; exact .inl ⟨_, _, rfl, rfl, rfl, rfl⟩
  · cases h; exact .inl ⟨_, _, rfl, rfl, rfl, rfl⟩
  · cases h; exact .inl ⟨_, _, rfl, rfl, rfl, rfl⟩
  · cases h; exact .inl ⟨_, _, rfl, rfl, rfl, rfl⟩
  · cases h; exact .inl ⟨_, _, rfl, rfl, rfl, rfl⟩
  · split at h
    · rename_i q
      cases h
      exact .inr ⟨(Bool.and_eq_true_iff.mp q).1, (Bool.and_eq_true_iff.mp q).2, rfl⟩
    · cases h
theorem okE_lay {d : D} (h : okE d = true) : (toP d).canLay0 = true := SeqAt.canLay_of_shaped h
theorem opd_eq {K : PySem.W.Frag} : OpD (fun x y H Q => rEq x y H Q ∨ rEqD K x y H Q) fEq := by
  intro Z H x y c d ev Q t1 t2 e q
  obtain ⟨b, e1, e2⟩ := Option.map_eq_some_iff.mp e
  subst e2
  rcases eqB_cases e1 with ⟨u, w, a1, a2, sc, eb⟩ | ⟨o1, o2, eb⟩
  · rw [top_atom t1 a1, top_atom t2 a2]
    refine .inl ⟨sc, ?_⟩
    rw [← eb]
    exact q _ H (Same.refl H) rv_bl
  · refine .inr ⟨_, _, t1.dp (okE_lay o1), t2.dp (okE_lay o2), o1, o2, ?_⟩
    rw [← eb]
    exact q _ H (Same.refl H) rv_bl
theorem opd_ne {K : PySem.W.Frag} : OpD (fun x y H Q => rNe x y H Q ∨ rNeD K x y H Q) fNe := by
  intro Z H x y c d ev Q t1 t2 e q
  obtain ⟨b, e1, e2⟩ := Option.map_eq_some_iff.mp e
  subst e2
  rcases eqB_cases e1 with ⟨u, w, a1, a2, sc, eb⟩ | ⟨o1, o2, eb⟩
  · rw [top_atom t1 a1, top_atom t2 a2]
    refine .inl ⟨sc, ?_⟩
    rw [← eb]
    exact q _ H (Same.refl H) rv_bl
  · refine .inr ⟨_, _, t1.dp (okE_lay o1), t2.dp (okE_lay o2), o1, o2, ?_⟩
    rw [← eb]
    exact q _ H (Same.refl H) rv_bl
section
variable {X : Cx} {k : Nat}
theorem opr_add : OpR X (binaryOp .Add) (fun x y H Q => rI0 (fun i j => .int (i + j)) x y H Q ∨ ((∃ i j, x = .str i ∧ y = .str j ∧ i.length + j.length ≤ sizeLine ∧ Q (.str (i ++ j)) H) ∨ (rCat x y H Q ∨ rCatA X.K x y H Q))) :=
  op_add.or (op_add_str.or (op_cat.or op_catA))
theorem opr_mul : OpR X (binaryOp .Mult) (fun x y H Q => rI CMul (fun i j => .int (i * j)) x y H Q ∨ rRep x y H Q) := op_mul.or op_rep
theorem opr_eq (hr : Room k X.A) : OpR X (compareOp .Eq) (fun x y H Q => rEq x y H Q ∨ rEqD X.K x y H Q) := op_eq.or (op_eqD hr.units)
theorem opr_ne (hr : Room k X.A) : OpR X (compareOp .NotEq) (fun x y H Q => rNe x y H Q ∨ rNeD X.K x y H Q) := op_ne.or (op_neD hr.units)
end

/-! ### order -/
def fInt2 (g : Int → Int → Bool) : D → D → Option EV
  | .int i, .int j => some (.val (.bl (g i j)))
  | _, _ => none
theorem opd_int2 {g : Int → Int → Bool} : OpD (rI0 fun i j => .bl (g i j)) (fInt2 g) := by
  intro Z H x y c d ev Q t1 t2 e q
  unfold fInt2 at e
  split at e
  · cases e
    rw [top_int t1, top_int t2]
    exact ⟨_, _, rfl, rfl, q _ H (Same.refl H) rv_bl⟩
  · cases e
def fLt : D → D → Option EV := fInt2 fun i j => decide (i < j)
def fLe : D → D → Option EV := fInt2 fun i j => decide (i ≤ j)
def fGt : D → D → Option EV := fInt2 fun i j => decide (j < i)
def fGe : D → D → Option EV := fInt2 fun i j => decide (j ≤ i)
/-! ### is None -/
def isNon : D → Bool
  | .non => true
  | _ => false
def fIsN (c d : D) : Option EV := if isNon d = true then some (.val (.bl (isNon c))) else none
def fNotN (c d : D) : Option EV := if isNon d = true then some (.val (.bl (!isNon c))) else none
theorem top_isN {Z : Addr → Prop} {H : Hp} {c : D} {x : V} (t : Top Z H c x) : decide (x = .non) = isNon c := by
  cases c <;> simp only [Top, Rep] at t
  · subst t; rfl
  · subst t; rfl
  · subst t; rfl
  · subst t; rfl
  all_goals first
    | (obtain ⟨a, _, rfl, _⟩ := t; rfl)
    | (obtain ⟨a, _, _, rfl, _⟩ := t; rfl)
    | (subst t; rfl)
theorem isNon_eq {d : D} (h : isNon d = true) : d = .non := by cases d <;> first | rfl | cases h
theorem opd_isN : OpD (fun x y H Q => y = .non ∧ Q (.bl (decide (x = .non))) H) fIsN := by
  intro Z H x y c d ev Q t1 t2 e q
  unfold fIsN at e
  split at e
  · rename_i h
    have := isNon_eq h
    subst this
    cases e
    refine ⟨top_non t2, ?_⟩
    rw [top_isN t1]
    exact q _ H (Same.refl H) rv_bl
  · cases e
theorem opd_notN : OpD (fun x y H Q => y = .non ∧ Q (.bl (!decide (x = .non))) H) fNotN := by
  intro Z H x y c d ev Q t1 t2 e q
  unfold fNotN at e
  split at e
  · rename_i h
    have := isNon_eq h
    subst this
    cases e
    refine ⟨top_non t2, ?_⟩
    rw [top_isN t1]
    exact q _ H (Same.refl H) rv_bl
  · cases e

/-! ### in -/
def fIn0 (neg : Bool) : D → D → Option EV
  | .str x, .str z => (match x.cps.toList with
    | [c] => some (.val (.bl (if neg then !decide (c ∈ z.cps.toList) else decide (c ∈ z.cps.toList))))
    | _ => none)
  | c, .lst ds => if okE c && okE (.lst ds) then some (.val (.bl (if neg then !ds.any (fun z => PyData.eqv (toP z) (toP c)) else ds.any (fun z => PyData.eqv (toP z) (toP c))))) else none
  | _, _ => none
theorem toPs_map (ds : List D) : toPs ds = ds.map toP := by
  induction ds with
  | nil => simp [toPs]
  | cons d ds ih => simp [toPs, ih]
theorem any_toPs (ds : List D) (c : D) : (toPs ds).any (fun z => PyData.eqv z (toP c)) = ds.any fun z => PyData.eqv (toP z) (toP c) := by
  rw [toPs_map, List.any_map]; rfl
theorem opd_in0 {K : PySem.W.Frag} : OpD (fun x y H Q => (∃ (c : Nat) (z : Str), x = .str ⟨#[c]⟩ ∧ y = .str z ∧ Q (.bl (decide (c ∈ z.cps.toList))) H) ∨ rInD K x y H Q) (fIn0 false) := by
  intro Z H x y c d ev Q t1 t2 e q
  unfold fIn0 at e
  split at e
  · rename_i x' z'
    split at e
    · rename_i c' hc
      cases e
      have e1 : x' = ⟨#[c']⟩ := by
        obtain ⟨a⟩ := x'
        simp only at hc
        rw [show a = #[c'] from by rw [← Array.toArray_toList (xs := a), hc]]
      subst e1
      rw [top_str t1, top_str t2]
      exact .inl ⟨c', z', rfl, rfl, q _ H (Same.refl H) rv_bl⟩
    · cases e
  · split at e
    · rename_i h
      cases e
      obtain ⟨h1, h2⟩ := Bool.and_eq_true_iff.mp h
      refine .inr ⟨_, _, t1.dp (okE_lay h1), (by have := Top.dp (K := K) t2 (okE_lay h2); simpa only [toP] using this), h1, (by simpa only [okE, toP] using h2), ?_⟩
      rw [any_toPs]
      exact q _ H (Same.refl H) rv_bl
    · cases e
  · cases e
theorem opd_notIn0 {K : PySem.W.Frag} : OpD (fun x y H Q => (∃ (c : Nat) (z : Str), x = .str ⟨#[c]⟩ ∧ y = .str z ∧ Q (.bl (!decide (c ∈ z.cps.toList))) H) ∨ rNotInD K x y H Q) (fIn0 true) := by
  intro Z H x y c d ev Q t1 t2 e q
  unfold fIn0 at e
  split at e
  · rename_i x' z'
    split at e
    · rename_i c' hc
      cases e
      have e1 : x' = ⟨#[c']⟩ := by
        obtain ⟨a⟩ := x'
        simp only at hc
        rw [show a = #[c'] from by rw [← Array.toArray_toList (xs := a), hc]]
      subst e1
      rw [top_str t1, top_str t2]
      exact .inl ⟨c', z', rfl, rfl, q _ H (Same.refl H) rv_bl⟩
    · cases e
  · split at e
    · rename_i h
      cases e
      obtain ⟨h1, h2⟩ := Bool.and_eq_true_iff.mp h
      refine .inr ⟨_, _, t1.dp (okE_lay h1), (by have := Top.dp (K := K) t2 (okE_lay h2); simpa only [toP] using this), h1, (by simpa only [okE, toP] using h2), ?_⟩
      rw [any_toPs]
      exact q _ H (Same.refl H) rv_bl
    · cases e
  · cases e

/-! ### subscripts -/
def fIx : D → D → Option EV
  | .lst xs, .int i => (atI xs i).map .val
  | .frl xs, .int i => (atI xs i).map .val
  | .tup xs, .int i => (atI xs i).map .val
  | .str z, .int i => if z.length ≤ sizeLine then (atI z.cps.toList i).map fun c => .val (.str ⟨#[c]⟩) else none
  | _, _ => none
theorem Reps.atI {Z : Addr → Prop} {H : Hp} {ds : List D} {vs : List V} {i : Int} {d : D} (r : Reps Z H ds vs) (e : L2.atI ds i = some d) : ∃ v, L2.atI vs i = some v ∧ Rep Z H d v := by
  unfold L2.atI at e ⊢
  rw [r.length] at e
  obtain ⟨j, e1, e2⟩ := Option.bind_eq_some_iff.mp e
  obtain ⟨v, h1, h2⟩ := r.get e2
  exact ⟨v, by rw [e1]; exact h1, h2⟩
theorem opd_ix {K : PySem.W.Frag} : OpD (rIx K) fIx := by
  intro Z H x y c d ev Q t1 t2 e q
  unfold fIx at e
  split at e
  · obtain ⟨w, e1, rfl⟩ := Option.map_eq_some_iff.mp e
    obtain ⟨a, vs, rfl, r1, q1⟩ := t1
    obtain ⟨v, h1, h2⟩ := q1.atI e1
    rw [top_int t2]
    exact .inl ⟨a, vs, _, v, rfl, rfl, .inl (.inl r1), h1, q _ H (Same.refl H) h2⟩
  · obtain ⟨w, e1, rfl⟩ := Option.map_eq_some_iff.mp e
    obtain ⟨a, vs, o, rfl, r1, q1⟩ := top_frl t1
    obtain ⟨v, h1, h2⟩ := q1.atI e1
    rw [top_int t2]
    exact .inl ⟨a, vs, _, v, rfl, rfl, .inl (.inr ⟨o, r1⟩), h1, q _ H (Same.refl H) h2⟩
  · obtain ⟨w, e1, rfl⟩ := Option.map_eq_some_iff.mp e
    obtain ⟨a, vs, rfl, r1, q1⟩ := top_tup t1
    obtain ⟨v, h1, h2⟩ := q1.atI e1
    rw [top_int t2]
    exact .inr (.inl ⟨a, vs, _, v, rfl, rfl, .inl r1, h1, q _ H (Same.refl H) h2⟩)
  · split at e
    · rename_i h
      obtain ⟨w, e1, rfl⟩ := Option.map_eq_some_iff.mp e
      rw [top_str t1, top_int t2]
      exact .inr (.inr ⟨_, _, w, rfl, rfl, h, e1, q _ H (Same.refl H) rv_str⟩)
    · cases e
  · cases e

/-! ### built-in functions -/
theorem tops1 {Z : Addr → Prop} {H : Hp} {c : D} {vs : List V} (t : Tops Z H [c] vs) : ∃ v, vs = [v] ∧ Top Z H c v := by
  cases t with
  | cons h t => cases t; exact ⟨_, rfl, h⟩
theorem tops2 {Z : Addr → Prop} {H : Hp} {c d : D} {vs : List V} (t : Tops Z H [c, d] vs) : ∃ v w, vs = [v, w] ∧ Top Z H c v ∧ Top Z H d w := by
  cases t with
  | cons h t => cases t with
    | cons h' t => cases t; exact ⟨_, _, rfl, h, h'⟩
def one (f : D → Option EV) : List D → Option EV
  | [c] => f c
  | _ => none
theorem lsd_one {r : List V → Hp → VK → Prop} {f : D → Option EV} (h : UnD (fun x H Q => r [x] H Q) f) : LsD r (one f) := fun Z H xs cs ev Q t e q => by
  match cs, t, e with
  | [c], t, e =>
    obtain ⟨v, rfl, t1⟩ := tops1 t
    exact h Z H v c ev Q t1 e q
  | [], _, e => cases e
  | _ :: _ :: _, _, e => cases e
def fLen : D → Option EV
  | .str z => if z.length ≤ sizeLine then some (.val (.int z.length)) else none
  | .lst xs => some (.val (.int xs.length))
  | .frl xs => some (.val (.int xs.length))
  | .tup xs => some (.val (.int xs.length))
  | _ => none
theorem lsd_len {K : PySem.W.Frag} : LsD (fun xs H Q => ∃ x n, xs = [x] ∧ LenV K x H n ∧ Q (.int n) H) (one fLen) := by
  refine lsd_one fun Z H x c ev Q t e q => ?_
  unfold fLen at e
  split at e
  · split at e
    · rename_i h
      cases e
      rw [top_str t]
      exact ⟨_, _, rfl, (show LenV K (.str _) H _ from ⟨h, rfl⟩), q _ H (Same.refl H) rv_int⟩
    · cases e
  · cases e
    obtain ⟨a, vs, rfl, r, q1⟩ := t
    refine ⟨_, vs.length, rfl, (show LenV K (.ref a) H _ from Or.inl ⟨vs, .inl (.inl r), rfl⟩), ?_⟩
    rw [← q1.length]
    exact q _ H (Same.refl H) rv_int
  · cases e
    obtain ⟨a, vs, o, rfl, r, q1⟩ := top_frl t
    refine ⟨_, vs.length, rfl, (show LenV K (.ref a) H _ from Or.inl ⟨vs, .inl (.inr ⟨o, r⟩), rfl⟩), ?_⟩
    rw [← q1.length]
    exact q _ H (Same.refl H) rv_int
  · cases e
    obtain ⟨a, vs, rfl, r, q1⟩ := top_tup t
    refine ⟨_, vs.length, rfl, (show LenV K (.ref a) H _ from Or.inr ⟨vs, .inl r, rfl⟩), ?_⟩
    rw [← q1.length]
    exact q _ H (Same.refl H) rv_int
  · cases e
/-- a list of True and False -/
def allBl : List D → Option (List Bool)
  | [] => some []
  | .bl b :: ds => (allBl ds).map (b :: ·)
  | _ :: _ => none
theorem Reps.bls {Z : Addr → Prop} {H : Hp} : ∀ {ds : List D} {vs : List V} {bs : List Bool}, Reps Z H ds vs → allBl ds = some bs → vs = bs.map V.bl
  | [], _, _, r, e => by simp only [Reps] at r; subst r; cases e; rfl
  | d :: ds, _, bs, r, e => by
    simp only [Reps] at r
    obtain ⟨v, w, rfl, h1, h2⟩ := r
    cases d <;> simp only [allBl] at e <;> first | cases e | skip
    obtain ⟨b', e1, rfl⟩ := Option.map_eq_some_iff.mp e
    simp only [Rep] at h1
    rw [h1, Reps.bls h2 e1]; rfl
def fAll : D → Option EV
  | .lst ds => (allBl ds).map fun bs => .val (.bl (bs.all id))
  | _ => none
def fAny : D → Option EV
  | .lst ds => (allBl ds).map fun bs => .val (.bl (bs.any id))
  | _ => none
theorem lsd_all {K : PySem.W.Frag} : LsD (rAll K) (one fAll) := by
  refine lsd_one fun Z H x c ev Q t e q => ?_
  unfold fAll at e
  split at e
  · obtain ⟨bs, e1, rfl⟩ := Option.map_eq_some_iff.mp e
    obtain ⟨a, vs, rfl, r, q1⟩ := t
    have := q1.bls e1
    subst this
    exact ⟨a, bs, rfl, .inl (.inl r), q _ H (Same.refl H) rv_bl⟩
  · cases e
theorem lsd_any {K : PySem.W.Frag} : LsD (rAny K) (one fAny) := by
  refine lsd_one fun Z H x c ev Q t e q => ?_
  unfold fAny at e
  split at e
  · obtain ⟨bs, e1, rfl⟩ := Option.map_eq_some_iff.mp e
    obtain ⟨a, vs, rfl, r, q1⟩ := t
    have := q1.bls e1
    subst this
    exact ⟨a, bs, rfl, .inl (.inl r), q _ H (Same.refl H) rv_bl⟩
  · cases e
/-- int(n), int(text) -/
def fIntOf : D → Option EV
  | .int i => some (.val (.int i))
  | .str a => if a.length ≤ 640 then (PySem.intText? a).map fun n => .val (.int n) else none
  | _ => none
theorem lsd_int : LsD (fun xs H Q => ((∃ i, xs = [.int i] ∧ Q (.int i) H) ∨ ∃ k, xs = [.bl k] ∧ Q (.int (if k then 1 else 0)) H) ∨ ∃ a n, xs = [.str a] ∧ PySem.intText? a = some n ∧ a.length ≤ 640 ∧ Q (.int n) H) (one fIntOf) := by
  refine lsd_one fun Z H x c ev Q t e q => ?_
  unfold fIntOf at e
  split at e
  · cases e
    rw [top_int t]
    exact .inl (.inl ⟨_, rfl, q _ H (Same.refl H) rv_int⟩)
  · split at e
    · rename_i h
      obtain ⟨n, e1, rfl⟩ := Option.map_eq_some_iff.mp e
      rw [top_str t]
      exact .inr ⟨_, n, rfl, e1, h, q _ H (Same.refl H) rv_int⟩
    · cases e
  · cases e
theorem callr_int {X : Cx} : CallR X (.type "int") (fun xs H Q => ((∃ i, xs = [.int i] ∧ Q (.int i) H) ∨ ∃ k, xs = [.bl k] ∧ Q (.int (if k then 1 else 0)) H) ∨ ∃ a n, xs = [.str a] ∧ PySem.intText? a = some n ∧ a.length ≤ 640 ∧ Q (.int n) H) := call_int1.or call_int_str
def fStrOf : D → Option EV
  | .int i => if i.natAbs.log2 < 1920 then some (.val (.str (toString i))) else none
  | _ => none
theorem lsd_str : LsD (fun xs H Q => ∃ i, xs = [.int i] ∧ i.natAbs.log2 < 1920 ∧ Q (.str (toString i)) H) (one fStrOf) := by
  refine lsd_one fun Z H x c ev Q t e q => ?_
  unfold fStrOf at e
  split at e
  · split at e
    · rename_i h
      cases e
      rw [top_int t]
      exact ⟨_, rfl, h, q _ H (Same.refl H) rv_str⟩
    · cases e
  · cases e
def fTuple : D → Option EV
  | .lst xs => some (.val (.tup xs))
  | .frl xs => some (.val (.tup xs))
  | .tup xs => some (.val (.tup xs))
  | _ => none
theorem lsd_tuple {K : PySem.W.Frag} : LsD (fun xs H Q => ∃ p ys, xs = [.ref p] ∧ ((SqL K H p ys ∧ ∀ l, H l = none → Q (.ref l) (upd H l (.tup ys))) ∨ (SqT K H p ys ∧ Q (.ref p) H))) (one fTuple) := by
  refine lsd_one fun Z H x c ev Q t e q => ?_
  unfold fTuple at e
  split at e
  · cases e
    obtain ⟨a, vs, rfl, r, q1⟩ := t
    exact ⟨a, vs, rfl, .inl ⟨.inl (.inl r), fun l n => q _ _ (same_upd n) (rv_tup n q1)⟩⟩
  · cases e
    obtain ⟨a, vs, o, rfl, r, q1⟩ := top_frl t
    exact ⟨a, vs, rfl, .inl ⟨.inl (.inr ⟨o, r⟩), fun l n => q _ _ (same_upd n) (rv_tup n q1)⟩⟩
  · cases e
    obtain ⟨a, vs, rfl, r, q1⟩ := top_tup t
    exact ⟨a, vs, rfl, .inr ⟨.inl r, q _ H (Same.refl H) (show Rep _ _ _ _ by simp only [Rep]; exact ⟨a, vs, rfl, r, q1⟩)⟩⟩
  · cases e
def fList : D → Option EV
  | .lst xs => some (.own (.lst xs))
  | .frl xs => some (.own (.lst xs))
  | .tup xs => some (.own (.lst xs))
  | _ => none
theorem lsd_list {K : PySem.W.Frag} : LsD (fun xs H Q => ∃ p ys, xs = [.ref p] ∧ (SqL K H p ys ∨ SqT K H p ys) ∧ ∀ l, H l = none → Q (.ref l) (upd H l (.lst ys))) (one fList) := by
  refine lsd_one fun Z H x c ev Q t e q => ?_
  unfold fList at e
  split at e
  · cases e
    obtain ⟨a, vs, rfl, r, q1⟩ := t
    exact ⟨a, vs, rfl, .inl (.inl (.inl r)), fun l n => q _ _ (same_upd n) (rv_lst n q1)⟩
  · cases e
    obtain ⟨a, vs, o, rfl, r, q1⟩ := top_frl t
    exact ⟨a, vs, rfl, .inl (.inl (.inr ⟨o, r⟩)), fun l n => q _ _ (same_upd n) (rv_lst n q1)⟩
  · cases e
    obtain ⟨a, vs, rfl, r, q1⟩ := top_tup t
    exact ⟨a, vs, rfl, .inr (.inl r), fun l n => q _ _ (same_upd n) (rv_lst n q1)⟩
  · cases e
end DL
set_option Elab.async false
set_option linter.all false
set_option maxRecDepth 100000
set_option maxHeartbeats 1000000
/-! Layer D: slices, chains, displays, dicts, things changed in a slot, isinstance, repr. -/
namespace DL
open PySem PySem.Spec PyProof.Rows L2

section
variable {X : Cx} {G : Gb} {a b c e : Expr} {es : List Expr} {ma mb mc me : DM} {ms : DAm} {pos p2 : Pos}

/-! ### slices -/
abbrev DOm := DS → (Option Int → DS → Prop) → Prop
def tDO (G : Gb) (m : DOm) : TO := fun σ H Q => ∃ F S, F.gb = G ∧ Rel F H σ S ∧ m S fun i S' => ∀ H', Rel F H' σ S' → Q i H'
structure DO (X : Cx) (G : Gb) (e : Option Expr) (m : DOm) : Prop where
  run : PO X e (tDO G m)
  mono : ∀ S P P', (∀ i S', P i S' → P' i S') → m S P → m S P'
def dNo : DOm := fun S Q => Q none S
def dPt (m : DM) : DOm := fun S Q => m S fun ev S' => ∃ i, ev = .val (.int i) ∧ Q (some i) S'
theorem do_none : DO X G none dNo := by
  refine ⟨⟨fun pins s σ H Q I h => ?_⟩, fun S P P' k q => k _ _ q⟩
  obtain ⟨F, S, hG, R, q⟩ := h
  exact po_none.run pins s σ H Q I (q H R)
theorem intAt {F : Fr} {H : Hp} {σ : L2.St} {S : DS} {v : V} {k : Int} (R : Rel (F.push (v, EV.sv (.val (.int k)))) H σ S) : v = .int k := by
  have hr : Rep (Zs (F.push (v, .val (.int k))) σ S) H (.int k) v := R.w.val (.inr F.T.length) v _ (by show (F.T ++ [_])[F.T.length]? = _; simp [EV.sv])
  simpa only [Rep] using hr
theorem do_some (h : DE X G e me) : DO X G (some e) (dPt me) := by
  refine ⟨⟨fun pins s σ H Q I q => ?_⟩, fun S P P' k q => h.mono _ _ _ (fun ev S' ⟨i, e, p⟩ => ⟨i, e, k _ _ p⟩) q⟩
  obtain ⟨F, S, hG, R, q⟩ := q
  refine (po_some h.run).run pins s σ H Q I ⟨F, S, hG, R, h.mono _ _ _ (fun ev S' ⟨i, e, p⟩ v H' R' _ => ?_) q⟩
  subst e
  exact ⟨i, intAt R', p H' R'.pop⟩
def SlD (r : V → Option Int → Option Int → Hp → VK → Prop) (f : D → Option Int → Option Int → Option EV) : Prop := ∀ (Z : Addr → Prop) (H : Hp) (x : V) (c : D) (lo hi : Option Int) (ev : EV) (Q : VK), Top Z H c x → f c lo hi = some ev → (∀ v H', Same H H' → RvAt Z H H' ev v → Q v H') → r x lo hi H Q
def dSl (f : D → Option Int → Option Int → Option EV) (me : DM) (ml mh : DOm) : DM := fun S Q => me S fun ea S1 => ml S1 fun l S2 => mh S2 fun h S3 => ∃ c ev, cont S3 ea = some c ∧ f c l h = some ev ∧ Q ev S3
theorem de_slice {r : V → Option Int → Option Int → Hp → VK → Prop} {f : D → Option Int → Option Int → Option EV} {lo hi : Option Expr} {ml mh : DOm} (hr : L2.SlR X r) (hd : SlD r f) (he : DE X G e me) (hl : DO X G lo ml) (hh : DO X G hi mh) :
    DE X G (.Subscript e (.Slice lo hi none p2) pos) (dSl f me ml mh) := by
  refine ⟨pe_of (pe_slice hr he.run hl.run hh.run) fun σ H Q => ?_, fun S P P' k q => he.mono _ _ _ (fun ea S1 p => hl.mono _ _ _ (fun l S2 p => hh.mono _ _ _ (fun h S3 ⟨c, ev, e1, e2, p⟩ => ⟨c, ev, e1, e2, k _ _ p⟩) p) p) q⟩
  rintro ⟨F, S, hG, R, q⟩
  refine ⟨F, S, hG, R, he.mono _ _ _ (fun ea S1 p v1 H1 R1 a1 => ?_) q⟩
  refine ⟨F.push (v1, ea.sv), S1, hG, R1, hl.mono _ _ _ (fun l S2 p H2 R2 => ?_) p⟩
  refine ⟨F.push (v1, ea.sv), S2, hG, R2, hh.mono _ _ _ (fun h S3 p H3 R3 => ?_) p⟩
  obtain ⟨c, ev, e1, e2, p⟩ := p
  refine hd _ H3 v1 c l h ev Q (R3.top1 a1 e1) e2 fun v H' k r => ?_
  obtain ⟨R4, a4⟩ := R3.pop.result k r
  exact p v H' R4 a4
def cutD {α : Type} (xs : List α) (lo hi : Option Int) : List α := (xs.drop (HT.sIx xs.length 0 lo)).take (HT.sIx xs.length xs.length hi - HT.sIx xs.length 0 lo)
theorem Reps.cut {Z : Addr → Prop} {H : Hp} {ds : List D} {vs : List V} (lo hi : Option Int) (r : Reps Z H ds vs) : Reps Z H (cutD ds lo hi) (cutV vs lo hi) := by
  unfold cutD cutV
  rw [r.length]
  exact (r.drop _).take _
def fSl : D → Option Int → Option Int → Option EV
  | .str z, l, h => if z.length ≤ sizeLine then some (.val (.str (cutS z l h))) else none
  | .lst xs, l, h => some (.own (.lst (cutD xs l h)))
  | .frl xs, l, h => some (.own (.lst (cutD xs l h)))
  | .tup xs, l, h => some (.val (.tup (cutD xs l h)))
  | _, _, _ => none
theorem cutV_whole {xs : List V} {lo hi : Option Int} (h : HT.sIx xs.length 0 lo = 0 ∧ HT.sIx xs.length xs.length hi = xs.length) : cutV xs lo hi = xs := by
  unfold cutV; rw [h.1, h.2]; simp
theorem reps_upd {Z : Addr → Prop} {H : Hp} {p : Addr} {o : HO} {ds : List D} {vs : List V} (n : H p = none) (r : Reps Z H ds vs) : Reps Z (upd H p o) ds vs := r.grow (same_upd n) fun _ _ z => z
theorem sld_seq {K : PySem.W.Frag} : SlD (fun x lo hi H Q => rSlS x lo hi H Q ∨ (rSlL K x lo hi H Q ∨ rSlA K x lo hi H Q)) fSl := by
  intro Z H x c lo hi ev Q t e q
  unfold fSl at e
  split at e
  · split at e
    · rename_i h
      cases e
      rw [top_str t]
      exact .inl ⟨_, rfl, h, q _ H (Same.refl H) rv_str⟩
    · cases e
  · cases e
    obtain ⟨a, vs, rfl, r, q1⟩ := t
    exact .inr (.inl ⟨a, vs, rfl, .inl (.inl r), fun p n => q _ _ (same_upd n) (rv_lst n (q1.cut lo hi))⟩)
  · cases e
    obtain ⟨a, vs, o, rfl, r, q1⟩ := top_frl t
    exact .inr (.inl ⟨a, vs, rfl, .inl (.inr ⟨o, r⟩), fun p n => q _ _ (same_upd n) (rv_lst n (q1.cut lo hi))⟩)
  · cases e
    obtain ⟨a, vs, rfl, r, q1⟩ := top_tup t
    refine .inr (.inr ⟨a, vs, rfl, .inl r, fun w => q _ H (Same.refl H) (rv_val ?_), fun _ p n => q _ _ (same_upd n) (rv_tup n (q1.cut lo hi))⟩)
    simp only [Rep]
    have h := q1.cut lo hi
    rw [cutV_whole w] at h
    exact ⟨a, vs, rfl, r, h⟩
  · cases e
theorem slr_seq : L2.SlR X (fun x lo hi H Q => rSlS x lo hi H Q ∨ (rSlL X.K x lo hi H Q ∨ rSlA X.K x lo hi H Q)) := L2.SlR.or sl_str (L2.SlR.or sl_list sl_tupA)

/-! ### a op b op' c -/
def dChain (f f' : D → D → Option EV) (ma mb mc : DM) : DM := fun S Q => ma S fun ea S1 => mb S1 fun eb S2 => ∃ c d k, cont S2 ea = some c ∧ cont S2 eb = some d ∧ f c d = some (.val (.bl k)) ∧
  if k = true then mc S2 fun ec S3 => ∃ d' g ev, cont S3 eb = some d' ∧ cont S3 ec = some g ∧ f' d' g = some ev ∧ Q ev S3 else Q (.val (.bl false)) S2
theorem mono_chain {f f' : D → D → Option EV} (h1 : Mono ma) (h2 : Mono mb) (h3 : Mono mc) : Mono (dChain f f' ma mb mc) := fun S P P' kk q => h1 _ _ _ (fun ea S1 q => h2 _ _ _ (fun eb S2 ⟨c, d, k, e1, e2, e3, q⟩ => ⟨c, d, k, e1, e2, e3, by
  cases k with
  | true =>
    rw [if_pos rfl] at q ⊢
    exact h3 _ _ _ (fun ec S3 ⟨d', g, ev, z1, z2, z3, p⟩ => ⟨d', g, ev, z1, z2, z3, kk _ _ p⟩) q
  | false =>
    rw [if_neg (by decide)] at q ⊢
    exact kk _ _ q⟩) q) q
theorem tChain_of {r r' : R2} {f f' : D → D → Option EV} (hd : OpD r f) (hd' : OpD r' f') (h1 : Mono ma) (h2 : Mono mb) (h3 : Mono mc) {σ : L2.St} {H : Hp} {Q : VK} (h : tD G (dChain f f' ma mb mc) σ H Q) : tChain r r' (tD G ma) (tD G mb) (tD G mc) σ H Q := by
  obtain ⟨F, S, hG, R, h⟩ := h
  refine ⟨F, S, hG, R, h1 _ _ _ (fun ea S1 q v1 H1 R1 a1 => ?_) h⟩
  refine ⟨F.push (v1, ea.sv), S1, hG, R1, h2 _ _ _ (fun eb S2 p v2 H2 R2 a2 => ?_) q⟩
  obtain ⟨c, d, k, e1, e2, e3, p⟩ := p
  obtain ⟨t1, t2⟩ := R2.top2 a1 a2 e1 e2
  refine hd _ H2 v1 v2 c d _ _ t1 t2 e3 fun v H3 kk r => ?_
  have hv : v = .bl k := by simpa only [RvAt, Rep] using r
  subst hv
  refine ⟨k, rfl, ?_⟩
  have R3 : Rel ((F.push (v1, ea.sv)).push (v2, eb.sv)) H3 σ S2 := R2.grow kk
  cases k with
  | false =>
    rw [if_neg (by decide)] at p ⊢
    obtain ⟨R4, a4⟩ := R3.pop.pop.result (Same.refl H3) (rv_bl (Z := Zs F σ S2) (i := false))
    exact p _ H3 R4 a4
  | true =>
    rw [if_pos rfl] at p ⊢
    refine ⟨(F.push (v1, ea.sv)).push (v2, eb.sv), S2, hG, R3, h3 _ _ _ (fun ec S3 p v3 H4 R4 a3 => ?_) p⟩
    obtain ⟨d', g, ev, z1, z2, z3, p⟩ := p
    obtain ⟨t1, t2⟩ := R4.top2 a2 a3 z1 z2
    refine hd' _ H4 v2 v3 d' g ev Q t1 t2 z3 fun v H' k r => ?_
    have zz : ∀ a, Zs F σ S3 a → Zs (F.push (v1, ea.sv)) σ S3 a := fun a z => zs_push z
    have r' : RvAt (Zs F σ S3) H4 H' ev v := by
      cases ev with
      | val d => exact Rep.less r zz
      | own d =>
        obtain ⟨b, e, n, o⟩ := r
        exact ⟨b, e, n, o.grow (fun _ _ e => e) fun c _ z => z.elim (fun z => .inl (zz c z)) .inr⟩
      | bor j => exact r.elim
    obtain ⟨R5, a5⟩ := R4.pop.pop.pop.result k r'
    exact p v H' R5 a5
theorem de_chain {op op' : CmpOp} {r r' : R2} {f f' : D → D → Option EV} (ho : OpR X (compareOp op) r) (ho' : OpR X (compareOp op') r') (hd : OpD r f) (hd' : OpD r' f') (ha : DE X G a ma) (hb : DE X G b mb) (hc : DE X G c mc)
    (hm : lastMarks [op, op'] [b, c] = false := by with_unfolding_all rfl) : DE X G (.Compare a [op, op'] [b, c] pos) (dChain f f' ma mb mc) :=
  ⟨pe_of (pe_chain ho ho' ha.run hb.run hc.run hm) fun _ _ _ => tChain_of hd hd' ha.mono hb.mono hc.mono, mono_chain ha.mono hb.mono hc.mono⟩
theorem dt_chain {op op' : CmpOp} {r r' : R2} {f f' : D → D → Option EV} (ho : OpR X (compareOp op) r) (ho' : OpR X (compareOp op') r') (hd : OpD r f) (hd' : OpD r' f') (ha : DE X G a ma) (hb : DE X G b mb) (hc : DE X G c mc)
    (hm : lastMarks [op, op'] [b, c] = false := by with_unfolding_all rfl) : DT X G (.Compare a [op, op'] [b, c] pos) (dB (dChain f f' ma mb mc)) := by
  refine ⟨pt_of (pt_chain ho ho' ha.run hb.run hc.run hm) fun σ H Q q => ?_, mono_b (mono_chain ha.mono hb.mono hc.mono)⟩
  exact tChain_of hd hd' ha.mono hb.mono hc.mono (tB_of (mono_chain ha.mono hb.mono hc.mono) q)

/-! ### displays -/
def dLst (ms : DAm) : DM := fun S Q => ms S fun evs S1 => ∃ cs S2, asVals S1 evs = some (cs, S2) ∧ cs.length ≤ sizeLine ∧ Q (.own (.lst cs)) S2
def dTup (ms : DAm) : DM := fun S Q => ms S fun evs S1 => ∃ cs S2, asVals S1 evs = some (cs, S2) ∧ cs.length ≤ sizeLine ∧ Q (.val (.tup cs)) S2
theorem de_lst (h : DA X G es ms) : DE X G (.List es pos) (dLst ms) := by
  refine ⟨pe_of (pe_lst h.run) fun σ H Q => ?_, fun S P P' k q => h.mono _ _ _ (fun evs S1 ⟨cs, S2, e, z, p⟩ => ⟨cs, S2, e, z, k _ _ p⟩) q⟩
  rintro ⟨F, S, hG, R, q⟩
  refine ⟨F, S, hG, R, h.mono _ _ _ (fun evs S1 ⟨cs, S2, e, z, p⟩ xs H1 hx R1 a1 => ?_) q⟩
  obtain ⟨R2, rs, _⟩ := R1.asVals a1 (by rw [hx]; exact e)
  refine ⟨by rw [← rs.length]; exact z, fun pp n => ?_⟩
  obtain ⟨R3, a3⟩ := R2.result (same_upd n) (rv_lst n rs)
  exact p _ _ R3 a3
theorem de_tup {x1} (h : DA X G es ms) : DE X G (.Tuple es x1 pos) (dTup ms) := by
  refine ⟨pe_of (pe_tup h.run) fun σ H Q => ?_, fun S P P' k q => h.mono _ _ _ (fun evs S1 ⟨cs, S2, e, z, p⟩ => ⟨cs, S2, e, z, k _ _ p⟩) q⟩
  rintro ⟨F, S, hG, R, q⟩
  refine ⟨F, S, hG, R, h.mono _ _ _ (fun evs S1 ⟨cs, S2, e, z, p⟩ xs H1 hx R1 a1 => ?_) q⟩
  obtain ⟨R2, rs, _⟩ := R1.asVals a1 (by rw [hx]; exact e)
  refine ⟨by rw [← rs.length]; exact z, fun pp n => ?_⟩
  obtain ⟨R3, a3⟩ := R2.result (same_upd n) (rv_tup n rs)
  exact p _ _ R3 a3
end
end DL
set_option Elab.async false
set_option linter.all false
set_option maxRecDepth 100000
set_option maxHeartbeats 1000000
/-! Layer D: dicts, things changed in a slot, isinstance, repr, texts' methods. -/
namespace DL
open PySem PySem.Spec PyProof.Rows L2

/-! ### dicts as pairs of lists -/
def keyOf : D → Option Key
  | .int i => some (.inl i)
  | .str x => some (.inr x)
  | _ => none
theorem keyOf_keyD (k : Key) : keyOf (keyD k) = some k := by cases k <;> rfl
def lookD : List D → List D → Key → Option D
  | k' :: ks, u :: us, k => if keyOf k' = some k then some u else lookD ks us k
  | _, _, _ => none
def putUs : List D → List D → Key → D → List D
  | k' :: ks, u :: us, k, v => (if keyOf k' = some k then v else u) :: putUs ks us k v
  | _, _, _, _ => []
def hasKey (ks : List D) (k : Key) : Bool := ks.any fun k' => decide (keyOf k' = some k)
def putD (ks us : List D) (k : Key) (v : D) : D := if hasKey ks k = true then .dic ks (putUs ks us k v) else .dic (ks ++ [keyD k]) (us ++ [v])
section
variable {Z : Addr → Prop} {H : Hp}
theorem Reps.look : ∀ {kvs : List (Key × V)} {us : List D} {k : Key} {d : D}, Reps Z H us (kvs.map (·.2)) → lookD (kvs.map fun p => keyD p.1) us k = some d → ∃ v, valV kvs k = some v ∧ Rep Z H d v
  | [], _, _, _, _, e => by cases e
  | p :: kvs, [], _, _, r, e => by simp only [Reps] at r; cases r
  | p :: kvs, u :: us, k, d, r, e => by
    simp only [Reps, List.map_cons] at r
    obtain ⟨v, w, e1, r1, r2⟩ := r
    cases e1
    simp only [List.map_cons, lookD, keyOf_keyD] at e
    by_cases h : p.1 = k
    · rw [if_pos (by rw [h])] at e
      cases e
      exact ⟨p.2, valV_pos h, r1⟩
    · rw [if_neg (fun z => h (Option.some.inj z))] at e
      rw [valV_neg h]
      exact Reps.look r2 e
theorem Reps.putUs : ∀ {kvs : List (Key × V)} {us : List D} {k : Key} {d : D} {v : V}, Reps Z H us (kvs.map (·.2)) → Rep Z H d v → Reps Z H (putUs (kvs.map fun p => keyD p.1) us k d) ((kvs.map fun kv => if kv.1 = k then (kv.1, v) else kv).map (·.2))
  | [], us, _, _, _, r, _ => by
    simp only [List.map_nil] at r ⊢
    cases us with
    | nil => simp only [DL.putUs, Reps]
    | cons u us => simp only [Reps] at r; obtain ⟨_, _, e, _⟩ := r; cases e
  | p :: kvs, [], _, _, _, r, _ => by simp only [Reps] at r; cases r
  | p :: kvs, u :: us, k, d, v, r, q => by
    simp only [Reps, List.map_cons] at r
    obtain ⟨v', w, e1, r1, r2⟩ := r
    cases e1
    simp only [List.map_cons, DL.putUs, keyOf_keyD]
    by_cases h : p.1 = k
    · rw [if_pos (by rw [h]), if_pos h]
      exact .cons q (Reps.putUs r2 q)
    · rw [if_neg (fun z => h (Option.some.inj z)), if_neg h]
      exact .cons r1 (Reps.putUs r2 q)
theorem hasKey_any : ∀ (kvs : List (Key × V)) (k : Key), hasKey (kvs.map fun p => keyD p.1) k = kvs.any fun kv => decide (kv.1 = k)
  | [], _ => rfl
  | p :: kvs, k => by
    have ih := hasKey_any kvs k
    unfold hasKey at ih ⊢
    simp only [List.map_cons, List.any_cons, ih, keyOf_keyD]
    congr 1
    by_cases h : p.1 = k
    · simp [h]
    · simp [h]
theorem own_put {a : Addr} {kvs : List (Key × V)} {us : List D} {k : Key} {d : D} {v : V} (e : H a = some (.dK (putK kvs k v))) (r : Reps Z H us (kvs.map (·.2))) (q : Rep Z H d v) : OwnAt Z H a (putD (kvs.map fun p => keyD p.1) us k d) := by
  unfold putD
  rw [hasKey_any]
  unfold putK at e
  split at e
  · rename_i h
    rw [if_pos h]
    simp only [OwnAt]
    refine ⟨_, e, ?_, r.putUs q⟩
    rw [List.map_map]
    refine List.map_congr_left fun p hp => ?_
    simp only [Function.comp]
    split <;> rfl
  · rename_i h
    rw [if_neg h]
    simp only [OwnAt]
    refine ⟨_, e, by simp, ?_⟩
    rw [List.map_append]
    exact r.append (.cons q .nil)
end
def fDGet : D → D → Option EV
  | .dic ks us, c => (keyOf c).bind fun k => (lookD ks us k).map .val
  | _, _ => none
def rDGet : R2 := fun x y H Q => ∃ a v, x = .ref a ∧ DGet H a y (some v) ∧ Q v H
theorem top_key {Z : Addr → Prop} {H : Hp} {c : D} {v : V} {k : Key} (t : Top Z H c v) (e : keyOf c = some k) : v = kV k := by
  cases c <;> simp only [keyOf] at e <;> cases e
  · rw [top_int t]; rfl
  · rw [top_str t]; rfl
theorem opd_dget : OpD rDGet fDGet := by
  intro Z H x y c d ev Q t1 t2 e q
  unfold fDGet at e
  split at e
  · obtain ⟨k, ek, e⟩ := Option.bind_eq_some_iff.mp e
    obtain ⟨u, eu, rfl⟩ := Option.map_eq_some_iff.mp e
    obtain ⟨a, kvs, rfl, r, e2, q1⟩ := (by simpa only [Top] using t1 : ∃ a kvs, x = .ref a ∧ Rd H a (.dK kvs) ∧ _ = kvs.map (fun p => keyD p.1) ∧ Reps Z H _ (kvs.map (·.2)))
    subst e2
    obtain ⟨v, e3, rv⟩ := q1.look eu
    exact ⟨a, v, rfl, .inl ⟨kvs, k, r, top_key t2 ek, e3.symm⟩, q v H (Same.refl H) rv⟩
  · cases e
def fDIn (neg : Bool) : D → D → Option EV
  | c, .dic ks us => (keyOf c).map fun k => .val (.bl (xor neg (lookD ks us k).isSome))
  | _, _ => none
section
variable {X : Cx} {G : Gb} {a b c e : Expr} {es : List Expr} {ma mb mc me : DM} {ms : DAm} {pos p2 apos cpos : Pos}
theorem de_dget (hr : X.A.units + 1 < cLine) (ha : DE X G a ma) (hb : DE X G b mb) (hs : NoSl b) : DE X G (.Subscript a b pos) (dBin fDGet ma mb) :=
  ⟨pe_of (pe_dget hr ha.run hb.run hs) fun σ H Q q => tOp_of (r := rDGet) opd_dget ha.mono hb.mono q, mono_bin ha.mono hb.mono⟩

/-! ### a thing that is changed in its slot -/
theorem Reps.updM {Z : Addr → Prop} {H : Hp} {a : Addr} {o : HO} {ds : List D} {vs : List V} (z : Z a) (m : Mut (H a)) (r : Reps Z H ds vs) : Reps Z (upd H a o) ds vs :=
  r.keep (B := fun b => b = a) (fun b u e n => by rw [upd_ne n]; exact e) (fun b e => e ▸ z) (fun b e => e ▸ m) fun _ _ z => z
theorem Rep.updM {Z : Addr → Prop} {H : Hp} {a : Addr} {o : HO} {d : D} {v : V} (z : Z a) (m : Mut (H a)) (r : Rep Z H d v) : Rep Z (upd H a o) d v :=
  r.keep (B := fun b => b = a) (fun b u e n => by rw [upd_ne n]; exact e) (fun b e => e ▸ z) (fun b e => e ▸ m) fun _ _ z => z
theorem upd_off {H : Hp} {a : Addr} {o : HO} : ∀ b u, H b = some u → b ≠ a → upd H a o b = some u := fun b u e n => by rw [upd_ne n]; exact e
def MuD (r : V → List V → Hp → VK → Prop) (f : D → List D → Option (D × D)) : Prop := ∀ (Z : Addr → Prop) (H : Hp) (a : Addr) (d : D) (cs : List D) (vs : List V) (d' c : D) (Q : VK), OwnAt Z H a d → Z a → Reps Z H cs vs → f d cs = some (d', c) →
  (∀ v H', (∀ b o, H b = some o → b ≠ a → H' b = some o) → OwnAt Z H' a d' → Rep Z H' c v → Q v H') → r (.ref a) vs H Q
theorem zs_put {F : Fr} {σ : L2.St} {S : DS} {i : Nat} {sv : SV} {d' : D} {b : Addr} (e : S[i]? = some (some sv)) (m : sv.isMut = true) (z : Zs F σ (S.set i (some (sv.put d'))) b) : Zs F σ S b := by
  refine z.elim .inl fun ⟨q, s, e', m'⟩ => .inr ?_
  cases q with
  | inl j =>
    obtain ⟨q1, q2⟩ := of_wof e'
    by_cases hij : i = j
    · subst hij
      exact ⟨.inl i, sv, wof_slot q1 e, m⟩
    · rw [List.getElem?_set_ne hij] at q2
      exact ⟨.inl j, s, wof_slot q1 q2, m'⟩
  | inr j => exact ⟨.inr j, s, e', m'⟩
theorem Rel.change {F : Fr} {H H' : Hp} {σ : L2.St} {S : DS} {i : Nat} {sv : SV} {a : Addr} {d' c : D} {v : V} (R : Rel F H σ S) (e : S[i]? = some (some sv)) (hv : σ[i]? = some (some (.ref a))) (m : sv.isMut = true) (k : ∀ b o, H b = some o → b ≠ a → H' b = some o)
    (ow : OwnAt (Zs F σ S) H' a d') (rv : Rep (Zs F σ S) H' c v) : Rel (F.push (v, .val c)) H' σ (S.set i (some (sv.put d'))) :=
  (R.write (o' := .lst []) e hv m trivial k ow).pushVal (rv.less fun b z => zs_put e m z)
theorem Rel.mutIn {F : Fr} {H : Hp} {σ : L2.St} {S : DS} {i : Nat} {sv : SV} (R : Rel F H σ S) (e : S[i]? = some (some sv)) (m : sv.isMut = true) : ∃ a, σ[i]? = some (some (.ref a)) ∧ OwnAt (Zs F σ S) H a sv.d ∧ Zs F σ S a := by
  obtain ⟨a, h, o⟩ := R.slotMut e m
  exact ⟨a, h, o, .inr ⟨.inl i, sv, wof_slot h e, m⟩⟩
def tyD (T : String) : D → Bool
  | .lst _ => T == "list"
  | .dic _ _ => T == "dict"
  | _ => false
theorem tyD_ok {K : PySem.W.Frag} {Z : Addr → Prop} {H : Hp} {a : Addr} {d : D} {T : String} (o : OwnAt Z H a d) (h : tyD T d = true) : tyV K T (.ref a) H := by
  cases d <;> simp only [tyD] at h <;> first | cases h | skip
  · simp only [OwnAt] at o
    obtain ⟨vs, e, _⟩ := o
    exact .inl ⟨by simpa using h, vs, .inl (.inl e)⟩
  · simp only [OwnAt] at o
    obtain ⟨kvs, e, _⟩ := o
    exact .inr (.inr (.inl ⟨by simpa using h, .inl ⟨kvs, e⟩⟩))
def dMth (T : String) (i : Nat) (f : D → List D → Option (D × D)) (mo : DM) (ms : DAm) : DM := fun S Q => mo S fun eo S0 => eo = .bor i ∧ (∃ sv, S0[i]? = some (some sv) ∧ sv.isMut = true ∧ tyD T sv.d = true) ∧ ms S0 fun evs S1 => ∃ cs S2 sv d' c, asVals S1 evs = some (cs, S2) ∧
  S2[i]? = some (some sv) ∧ sv.isMut = true ∧ f sv.d cs = some (d', c) ∧ Q (.val c) (S2.set i (some (sv.put d')))
theorem mono_mth {T : String} {i : Nat} {f : D → List D → Option (D × D)} (h1 : Mono ma) (h2 : MonoA ms) : Mono (dMth T i f ma ms) := fun S P P' k q => h1 _ _ _ (fun eo S0 ⟨e, t, p⟩ => ⟨e, t, h2 _ _ _ (fun evs S1 ⟨cs, S2, sv, d', c, e1, e2, e3, e4, p⟩ => ⟨cs, S2, sv, d', c, e1, e2, e3, e4, k _ _ p⟩) p⟩) q
theorem tMth_of {T : String} {i : Nat} {r : V → List V → Hp → VK → Prop} {f : D → List D → Option (D × D)} {K : PySem.W.Frag} (hd : MuD r f) (h1 : Mono ma) (h2 : MonoA ms) {σ : L2.St} {H : Hp} {Q : VK} (h : tD G (dMth T i f ma ms) σ H Q) : tBM K T r (tD G ma) (tDA G ms) σ H Q := by
  obtain ⟨F, S, hG, R, h⟩ := h
  refine ⟨F, S, hG, R, h1 _ _ _ (fun eo S0 q v0 H0 R0 a0 => ?_) h⟩
  obtain ⟨e, ⟨sv0, f1, f2, f3⟩, p⟩ := q
  subst e
  have R0' : Rel (F.push (v0, .any)) H0 σ S0 := R0
  obtain ⟨a, ha, ow, _⟩ := R0'.mutIn f1 f2
  have a0 : σ[i]? = some (some v0) := a0
  rw [ha] at a0; cases a0
  refine ⟨tyD_ok ow f3, F, S0, hG, R0'.pop, h2 _ _ _ (fun evs S1 ⟨cs, S2, sv, d', c, e1, e2, e3, e4, p⟩ xs H1 hx R1 a1 => ?_) p⟩
  obtain ⟨R2, rs, _⟩ := R1.asVals a1 (by rw [hx]; exact e1)
  obtain ⟨a', ha', ow2, za⟩ := R2.mutIn e2 e3
  rw [ha] at ha'; cases ha'
  exact hd _ H1 a sv.d cs _ d' c Q ow2 za rs e4 fun v H' k ow' rv => p v H' (R2.change e2 ha e3 k ow' rv) trivial
theorem de_mth {i : Nat} {T id : String} {name : Str} {r : V → List V → Hp → VK → Prop} {f : D → List D → Option (D × D)} (pa : PlainAttrs T) (slot : Slot T name id) (hty : typeOf (.builtin id) = pure (.type "method_descriptor")) (hm : MtR X id r) (hd : MuD r f) (ho : DE X G a ma) (ha : DA X G (e :: es) ms)
    (hbase : attributeBase a name X.env (eval a X.env) = eval a X.env := by rfl)
    (hfew : ((backTo cpos (starEach (e :: es) X.env)).all (fun x => !x.1) && (backToKw cpos (keywordEach [] X.env)).all (fun x => x.1.isSome)
      && decide ((e :: es).length + ([] : List Keyword).length + (if ([] : List Keyword).isEmpty then 0 else 1) < 30)) = true := by rfl)
    (hline : (apos.endLine == cpos.line) = true := by rfl) (hs : starEach (e :: es) X.env = (false, eval e X.env) :: starEach es X.env := by rfl) (hplain : (backTo cpos (starEach es X.env)).any (·.1) = false := by rfl) :
    DE X G (.Call (.Attribute a name apos) (e :: es) [] cpos) (dMth T i f ma ms) :=
  ⟨pe_of (pe_bm pa slot hty hm ho.run ha.run hbase hfew hline hs hplain) fun _ _ _ => tMth_of hd ho.mono ha.mono, mono_mth ho.mono ha.mono⟩
theorem de_mth0 {i : Nat} {T id : String} {name : Str} {r : V → List V → Hp → VK → Prop} {f : D → List D → Option (D × D)} (pa : PlainAttrs T) (slot : Slot T name id) (hty : typeOf (.builtin id) = pure (.type "method_descriptor")) (hm : MtR X id r) (hd : MuD r f) (ho : DE X G a ma)
    (hbase : attributeBase a name X.env (eval a X.env) = eval a X.env := by rfl) (hline : (apos.endLine == cpos.line) = true := by rfl) : DE X G (.Call (.Attribute a name apos) [] [] cpos) (dMth T i f ma dNil) := by
  refine ⟨pe_of (pe_bm0 pa slot hty hm ho.run hbase hline) fun σ H Q h => ?_, mono_mth ho.mono mono_nil⟩
  have h := tMth_of (K := X.K) hd ho.mono mono_nil h
  obtain ⟨F, S, hG, R, h⟩ := h
  refine ⟨F, S, hG, R, ho.mono _ _ _ (fun eo S0 q v0 H0 R0 a0 => ?_) h⟩
  obtain ⟨t, F', S', _, R', q⟩ := q v0 H0 R0 a0
  exact ⟨t, q [] H0 rfl (by simpa [Fr.pushs] using R') (by simp)⟩
def fAppend : D → List D → Option (D × D)
  | .lst xs, [c] => if xs.length < sizeLine then some (.lst (xs ++ [c]), .non) else none
  | _, _ => none
theorem reps1 {Z : Addr → Prop} {H : Hp} {c : D} {vs : List V} (r : Reps Z H [c] vs) : ∃ v, vs = [v] ∧ Rep Z H c v := by
  simp only [Reps] at r
  obtain ⟨v, w, e, h, e2⟩ := r
  exact ⟨v, by rw [e, e2], h⟩
theorem mud_append : MuD rAppend fAppend := by
  intro Z H a d cs vs d' c Q ow z rs e q
  unfold fAppend at e
  split at e
  · split at e
    · rename_i h
      cases e
      obtain ⟨v, rfl, rv⟩ := reps1 rs
      simp only [OwnAt] at ow
      obtain ⟨ws, e, r⟩ := ow
      have m : Mut (H a) := by rw [e]; trivial
      refine ⟨a, ws, v, rfl, rfl, e, by rw [← r.length]; exact h, q _ _ upd_off ?_ rep_non⟩
      simp only [OwnAt]
      exact ⟨_, upd_same, (r.append (.cons rv .nil)).updM z m⟩
    · cases e
  · cases e
def fPop : D → List D → Option (D × D)
  | .lst xs, [] => xs[xs.length - 1]?.map fun c => (.lst xs.dropLast, c)
  | _, _ => none
theorem mud_pop : MuD rPop fPop := by
  intro Z H a d cs vs d' c Q ow z rs e q
  unfold fPop at e
  split at e
  · obtain ⟨c', e1, e2⟩ := Option.map_eq_some_iff.mp e
    cases e2
    have e0 : vs = [] := by simpa only [Reps] using rs
    simp only [OwnAt] at ow
    obtain ⟨ws, e, r⟩ := ow
    have m : Mut (H a) := by rw [e]; trivial
    obtain ⟨v, ev, rv⟩ := r.get e1
    rw [r.length] at ev
    refine ⟨a, ws, v, rfl, e0, e, ev, q _ _ upd_off ?_ (rv.updM z m)⟩
    simp only [OwnAt]
    exact ⟨_, upd_same, (r.dropLast).updM z m⟩
  · cases e

/-! ### o[k] = v -/
def SetD (t : TSet) (f : D → D → D → Option D) : Prop := ∀ (Z : Addr → Prop) (H : Hp) (a : Addr) (d ck cv d' : D) (k v : V) (Q : Hp → Prop), OwnAt Z H a d → Z a → Rep Z H ck k → Rep Z H cv v → f d ck cv = some d' →
  (∀ H', (∀ b o, H b = some o → b ≠ a → H' b = some o) → OwnAt Z H' a d' → Q H') → t (.ref a) k v H Q
def dPut (i : Nat) (f : D → D → D → Option D) (mv mo mk : DM) : DSm := fun D S => mv S fun ev S1 => mo S1 fun eo S2 => eo = .bor i ∧ mk S2 fun ek S3 => ∃ cv ck S4 sv d', asVals S3 [ev, ek] = some ([cv, ck], S4) ∧
  S4[i]? = some (some sv) ∧ sv.isMut = true ∧ f sv.d ck cv = some d' ∧ D.nx (S4.set i (some (sv.put d')))
theorem PSet.or {t t' : TSet} (h : PSet X t) (h' : PSet X t') : PSet X (fun o i v H Q => t o i v H Q ∨ t' o i v H Q) := by
  intro pins s σ H o i v ov iv u Q I ro ri rv q
  rcases q with q | q
  · exact h pins s σ H o i v ov iv u Q I ro ri rv q
  · exact h' pins s σ H o i v ov iv u Q I ro ri rv q
def fSet : D → D → D → Option D
  | .lst xs, .int k, v => (ixN xs.length k).map fun j => .lst (xs.set j v)
  | .dic ks us, c, v => if ks.length < sizeLine then (keyOf c).map fun k => putD ks us k v else none
  | _, _, _ => none
theorem setd : SetD (fun o i v H Q => rSetL o i v H Q ∨ rSetD o i v H Q) fSet := by
  intro Z H a d ck cv d' k v Q ow z rk rv e q
  unfold fSet at e
  split at e
  · obtain ⟨j, ej, rfl⟩ := Option.map_eq_some_iff.mp e
    have hk := top_int rk.top
    subst hk
    simp only [OwnAt] at ow
    obtain ⟨ws, e, r⟩ := ow
    have m : Mut (H a) := by rw [e]; trivial
    rw [r.length] at ej
    refine .inl ⟨a, ws, _, j, rfl, rfl, e, ej, q _ upd_off ?_⟩
    simp only [OwnAt]
    exact ⟨_, upd_same, (r.set j rv).updM z m⟩
  · split at e
    · rename_i hz
      obtain ⟨k', ek, rfl⟩ := Option.map_eq_some_iff.mp e
      have hk := top_key rk.top ek
      subst hk
      simp only [OwnAt] at ow
      obtain ⟨kvs, e9, e2, r⟩ := ow
      subst e2
      have m : Mut (H a) := by rw [e9]; trivial
      have hl : kvs.length < sizeLine := by simpa using hz
      exact .inr ⟨a, _, rfl, DPut.k e9 hl, q _ upd_off (own_put (upd_same) (r.updM z m) (rv.updM z m))⟩
    · cases e
  · cases e
theorem ds_put {i : Nat} {o k : Expr} {mv mo mk : DM} {pos' : Pos} (hu : X.A.units + 1 < cLine) (hv : DE X G e mv) (ho : DE X G o mo) (hk : DE X G k mk) (hs : swapsWithSole [.Subscript o k pos'] e pos.line X.env = pure false := by rfl) (hw : swappedStores [.Subscript o k pos'] e X.env = pure none := by rfl)
    (h1 : (assignEach [.Subscript o k pos'] X.env).map (·.2) = [assign (.Subscript o k pos') X.env] := by rfl) (ha : ∀ v, assign (.Subscript o k pos') X.env v = (do
      let ov ← holding [v] (eval o X.env)
      let iv ← holding [v, ov] (eval k X.env)
      standAt pos'
      holding [v, ov, iv] (setItem ov iv v)
      release [v, ov, iv] []) := by intro _; rfl) : DStm X G (.Assign [.Subscript o k pos'] e pos) (dPut i fSet mv mo mk) := by
  refine ⟨ps_of (ps_asg hv.run (pg_sub ho.run hk.run (PSet.or set_list (set_dict hu)) ha) hs hw h1) fun D σ H => ?_, fun D D' S kk q => hv.mono _ _ _ (fun ev S1 p => ho.mono _ _ _ (fun eo S2 ⟨e0, p⟩ => ⟨e0, hk.mono _ _ _ (fun ek S3 ⟨cv, ck, S4, sv, d', e1, e2, e3, e4, p⟩ => ⟨cv, ck, S4, sv, d', e1, e2, e3, e4, kk.nx _ p⟩) p⟩) p) q⟩
  rintro ⟨F, S, hG, R, q⟩
  refine ⟨F, S, hG, R, hv.mono _ _ _ (fun ev S1 p v H1 R1 a1 => ?_) q⟩
  refine ⟨F.push (v, ev.sv), S1, hG, R1, ho.mono _ _ _ (fun eo S2 p x H2 R2 a2 => ?_) p⟩
  obtain ⟨e0, p⟩ := p
  subst e0
  refine ⟨(F.push (v, ev.sv)).push (x, .any), S2, hG, R2, hk.mono _ _ _ (fun ek S3 p y H3 R3 a3 => ?_) p⟩
  obtain ⟨cv, ck, S4, sv, d', e1, e2, e3, e4, p⟩ := p
  have R4 : Rel ((F.push (v, ev.sv)).push (y, ek.sv)) H3 σ S3 := Rel.dropMid (xs := [(x, .any)]) R3
  have R5 : Rel (F.pushs ([(v, ev), (y, ek)].map sval)) H3 σ S3 := by
    have e : F.pushs ([(v, ev), (y, ek)].map sval) = (F.push (v, ev.sv)).push (y, ek.sv) := by simp [Fr.push, Fr.pushs, sval]
    rw [e]; exact R4
  obtain ⟨R6, rs, _⟩ := R5.asVals (by simp [a1, a3]) (by simpa using e1)
  obtain ⟨a, ha', ow, za⟩ := R6.mutIn e2 e3
  have a2 : σ[i]? = some (some x) := a2
  rw [ha'] at a2; cases a2
  simp only [List.map_cons, List.map_nil, Reps] at rs
  obtain ⟨v', w', eq1, rv, y', w'', eq2, ry, _⟩ := rs
  cases eq1; cases eq2
  exact setd _ H3 a sv.d ck cv d' y v _ ow za ry rv e4 fun H' k ow' => p σ H' (R6.write (o' := .lst []) e2 ha' e3 trivial k ow')
end
end DL
set_option Elab.async false
set_option linter.all false
set_option maxRecDepth 100000
set_option maxHeartbeats 1000000
/-! Layer D: iterables, comprehensions. -/
namespace DL
open PySem PySem.Spec PyProof.Rows L2

section
variable {F : Fr} {H H' : Hp} {σ σ' : L2.St} {S S' : DS}
/-- the last temporary, an own thing, is changed -/
theorem Rel.writeT {a : Addr} {d d' : D} {o' : HO} (R : Rel (F.push (.ref a, .own d)) H σ S) (mu : Mut (some o')) (k : ∀ b o, H b = some o → b ≠ a → H' b = some o) (r : OwnAt (Zs (F.push (.ref a, .own d)) σ S) H' a d') : Rel (F.push (.ref a, .own d')) H' σ S := by
  have hw : Wof (F.push (.ref a, .own d)).T σ S (.inr F.T.length) = some (.ref a, .own d) := by
    show (F.T ++ [_])[F.T.length]? = _
    simp
  have R1 := R.w.write (sv' := .own d') (o' := o') hw rfl rfl mu k r
  refine ⟨R.len, R.has, R.iog, ?_⟩
  have eq : Wof (F.push (.ref a, .own d')).T σ S = setW (Wof (F.push (.ref a, .own d)).T σ S) (.inr F.T.length) (some (.ref a, .own d')) := by
    show Wof (F.T ++ [(V.ref a, SV.own d')]) σ S = setW (Wof (F.T ++ [(V.ref a, SV.own d)]) σ S) _ _
    rw [wof_push, wof_push]
    funext p
    by_cases h : p = .inr F.T.length
    · subst h; rw [setW_same, setW_same]
    · rw [setW_ne h, setW_ne h, setW_ne h]
  rw [eq]
  exact R1
/-- fewer known slots, other slots forgotten -/
theorem Rel.restate (R : Rel F H σ S) (hl : S'.length = σ'.length) (h : ∀ (j : Nat) sv, S'[j]? = some (some sv) → S[j]? = some (some sv) ∧ σ'[j]? = σ[j]?) : Rel F H σ' S' := by
  refine ⟨hl, fun j sv e => ?_, R.iog, R.w.map id (fun p y e => ?_) (fun _ _ _ _ h => h) fun _ _ _ _ => rfl⟩
  · obtain ⟨e1, e2⟩ := h j sv e
    rw [e2]; exact R.has j sv e1
  · cases p with
    | inl j =>
      obtain ⟨u, s⟩ := y
      obtain ⟨e1, e2⟩ := of_wof e
      obtain ⟨e3, e4⟩ := h j s e2
      exact wof_slot (e4 ▸ e1) e3
    | inr j => exact e
def wipeD (S : DS) : List Nat → DS
  | [] => S
  | v :: vs => (wipeD S vs).set v none
theorem wipeD_length (S : DS) : ∀ vs : List Nat, (wipeD S vs).length = S.length
  | [] => rfl
  | v :: vs => by unfold wipeD; rw [List.length_set, wipeD_length S vs]
theorem wipeD_some {i : Nat} {x : SV} : ∀ {vs : List Nat}, (wipeD S vs)[i]? = some (some x) → S[i]? = some (some x) ∧ i ∉ vs
  | [], h => ⟨h, by simp⟩
  | v :: vs, h => by
    unfold wipeD at h
    by_cases hi : v = i
    · subst hi
      by_cases hv : v < (wipeD S vs).length
      · rw [List.getElem?_set_self hv] at h; cases h
      · rw [List.getElem?_eq_none (by simpa using hv)] at h; cases h
    · rw [List.getElem?_set_ne hi] at h
      obtain ⟨h1, h2⟩ := wipeD_some h
      exact ⟨h1, by simp only [List.mem_cons, not_or]; exact ⟨fun e => hi e.symm, h2⟩⟩
theorem wipe_off {i : Nat} : ∀ {vs : List Nat}, i ∉ vs → (wipe σ vs)[i]? = σ[i]?
  | [], _ => rfl
  | v :: vs, h => by
    simp only [List.mem_cons, not_or] at h
    unfold wipe
    rw [List.getElem?_set_ne (Ne.symm h.1)]
    exact wipe_off h.2
theorem Rel.wipe (R : Rel F H σ S) (vs : List Nat) : Rel F H (L2.wipe σ vs) (wipeD S vs) :=
  R.restate (by rw [wipeD_length, wipe_length]; exact R.len) fun j sv e => ⟨(wipeD_some e).1, wipe_off (wipeD_some e).2⟩
theorem Rel.unwipe {vs : List Nat} (R : Rel F H (L2.wipe σ vs) S) : Rel F H σ (wipeD S vs) :=
  R.restate (by rw [wipeD_length, R.len, wipe_length]) fun j sv e => ⟨(wipeD_some e).1, (wipe_off (wipeD_some e).2).symm⟩
theorem wipe_set {i : Nat} {x : Option V} : ∀ {vs : List Nat}, i ∈ vs → L2.wipe ((L2.wipe σ vs).set i x) vs = L2.wipe σ vs := by
  intro vs hi
  apply List.ext_getElem?
  intro j
  by_cases h : j ∈ vs
  · have key : ∀ {τ : L2.St} {us : List Nat}, j ∈ us → (L2.wipe τ us)[j]? = if j < τ.length then some none else none := by
      intro τ us
      induction us with
      | nil => intro h; cases h
      | cons u us ih =>
        intro h
        unfold L2.wipe
        by_cases e : u = j
        · subst e
          by_cases hl : u < τ.length
          · rw [if_pos hl, List.getElem?_set_self (by rw [wipe_length]; exact hl)]
          · rw [if_neg hl]
            exact List.getElem?_eq_none (by rw [List.length_set, wipe_length]; omega)
        · rw [List.getElem?_set_ne e]
          exact ih ((List.mem_cons.mp h).resolve_left fun z => e z.symm)
    rw [key h, key h, List.length_set, wipe_length]
  · rw [wipe_off h, wipe_off h, List.getElem?_set_ne (fun e => h (by rw [← e]; exact hi)), wipe_off h]
end

/-! ### iterables -/
section
variable {X : Cx} {G : Gb} {tg a b c e : Expr} {es : List Expr} {ma mb mc me : DM} {ms : DAm} {pos p p2 : Pos}
def itOne (c : D) (xs : List D) : IT := ⟨[(.val c, c)], xs⟩
def seqL : D → Option (List D)
  | .lst xs => some xs
  | .frl xs => some xs
  | _ => none
def seqT : D → Option (List D)
  | .tup xs => some xs
  | _ => none
/-- the value of e, kept as one that never changes -/
def dIt (f : D → Option (List D)) (me : DM) : DIm := fun S Q => me S fun ev S' => ∃ c S2 xs, asVal S' ev = some (c, S2) ∧ f c = some xs ∧ Q (itOne c xs) S2
theorem mono_it {f : D → Option (List D)} (h : Mono me) : ∀ S P P', (∀ it S', P it S' → P' it S') → dIt f me S P → dIt f me S P' := fun S P P' k q => h _ _ _ (fun ev S1 ⟨c, S2, xs, e1, e2, p⟩ => ⟨c, S2, xs, e1, e2, k _ _ p⟩) q
theorem one_tops {F : Fr} {H : Hp} {σ : L2.St} {S : DS} {v : V} {c : D} (R : Rel (F.push (v, .val c)) H σ S) : Top (Zs F σ S) H c v := R.top1 (ev := .val c) trivial rfl
theorem top_lst {Z : Addr → Prop} {H : Hp} {K : PySem.W.Frag} {c : D} {xs : List D} {v : V} (t : Top Z H c v) (e : seqL c = some xs) : ∃ a vs, v = .ref a ∧ SqL K H a vs ∧ Reps Z H xs vs := by
  cases c <;> simp only [seqL] at e <;> cases e
  · obtain ⟨a, vs, rfl, r, q⟩ := t
    exact ⟨a, vs, rfl, .inl (.inl r), q⟩
  · obtain ⟨a, vs, o, rfl, r, q⟩ := top_frl t
    exact ⟨a, vs, rfl, .inl (.inr ⟨o, r⟩), q⟩
theorem top_tp {Z : Addr → Prop} {H : Hp} {K : PySem.W.Frag} {c : D} {xs : List D} {v : V} (t : Top Z H c v) (e : seqT c = some xs) : ∃ a vs, v = .ref a ∧ SqT K H a vs ∧ Reps Z H xs vs := by
  cases c <;> simp only [seqT] at e <;> cases e
  obtain ⟨a, vs, rfl, r, q⟩ := top_tup t
  exact ⟨a, vs, rfl, .inl r, q⟩
theorem walkL {K : PySem.W.Frag} {a : Addr} {c : D} {xs : List D} (e : seqL c = some xs) : WalkD (Itl K a) [.ref a] (itOne c xs) := by
  refine ⟨⟨fun i H hi g => ?_, fun H g => ?_, fun i H x H' hi g y Z t => ?_⟩⟩
  · obtain ⟨Z, t⟩ := g
    obtain ⟨v, ev, t⟩ := tops1 t
    cases ev
    obtain ⟨a', vs, ea, r, q⟩ := top_lst (K := K) t e
    cases ea
    have hi : i < xs.length := hi
    exact ⟨vs, vs[i]'(by rw [← q.length]; exact hi), r, by simp⟩
  · obtain ⟨Z, t⟩ := g
    obtain ⟨v, ev, t⟩ := tops1 t
    cases ev
    obtain ⟨a', vs, ea, r, q⟩ := top_lst (K := K) t e
    cases ea
    exact ⟨vs, r, Nat.le_of_eq q.length.symm⟩
  · obtain ⟨v, ev, t⟩ := tops1 t
    cases ev
    obtain ⟨a', vs, ea, r, q⟩ := top_lst (K := K) t e
    cases ea
    obtain ⟨e', y⟩ := y
    subst e'
    obtain ⟨d, hd, rd⟩ := q.get' (y vs r)
    exact ⟨d, hd, Same.refl _, rd⟩
theorem walkT {K : PySem.W.Frag} {a : Addr} {c : D} {xs : List D} (e : seqT c = some xs) : WalkD (Itt K a) [.ref a] (itOne c xs) := by
  refine ⟨⟨fun i H hi g => ?_, fun H g => ?_, fun i H x H' hi g y Z t => ?_⟩⟩
  · obtain ⟨Z, t⟩ := g
    obtain ⟨v, ev, t⟩ := tops1 t
    cases ev
    obtain ⟨a', vs, ea, r, q⟩ := top_tp (K := K) t e
    cases ea
    have hi : i < xs.length := hi
    exact ⟨vs, vs[i]'(by rw [← q.length]; exact hi), r, by simp⟩
  · obtain ⟨Z, t⟩ := g
    obtain ⟨v, ev, t⟩ := tops1 t
    cases ev
    obtain ⟨a', vs, ea, r, q⟩ := top_tp (K := K) t e
    cases ea
    exact ⟨vs, r, Nat.le_of_eq q.length.symm⟩
  · obtain ⟨v, ev, t⟩ := tops1 t
    cases ev
    obtain ⟨a', vs, ea, r, q⟩ := top_tp (K := K) t e
    cases ea
    obtain ⟨e', y⟩ := y
    subst e'
    obtain ⟨d, hd, rd⟩ := q.get' (y vs r)
    exact ⟨d, hd, Same.refl _, rd⟩
theorem push1 {F : Fr} {H : Hp} {σ : L2.St} {S : DS} {v : V} {c : D} (R : Rel (F.push (v, .val c)) H σ S) : Rel (F.pushs ([(v, EV.val c)].map sval)) H σ S := by
  simpa [Fr.push, Fr.pushs, sval, EV.sv] using R
theorem di_list (h : DE X G e me) : DI X G tg e (dIt seqL me) := by
  refine ⟨⟨fun pins s σ H R I q => (pi_list h.run).run pins s σ H R I ?_⟩, mono_it h.mono⟩
  obtain ⟨F, S, hG, R, q⟩ := q
  refine ⟨F, S, hG, R, h.mono _ _ _ (fun ev S1 ⟨c, S2, xs, e1, e2, p⟩ v H' R' a' => ?_) q⟩
  have R2 := R'.asVal a' e1
  obtain ⟨a, vs, ea, r, _⟩ := top_lst (K := X.K) (one_tops R2) e2
  subst ea
  exact ⟨a, rfl, ⟨vs, r⟩, p [(.ref a, .val c)] H' _ rfl (push1 R2) (by simp [EvAt]) (walkL e2)⟩
theorem di_tup (h : DE X G e me) : DI X G tg e (dIt seqT me) := by
  refine ⟨⟨fun pins s σ H R I q => (pi_tup h.run).run pins s σ H R I ?_⟩, mono_it h.mono⟩
  obtain ⟨F, S, hG, R, q⟩ := q
  refine ⟨F, S, hG, R, h.mono _ _ _ (fun ev S1 ⟨c, S2, xs, e1, e2, p⟩ v H' R' a' => ?_) q⟩
  have R2 := R'.asVal a' e1
  obtain ⟨a, vs, ea, r, _⟩ := top_tp (K := X.K) (one_tops R2) e2
  subst ea
  exact ⟨a, rfl, ⟨vs, r⟩, p [(.ref a, .val c)] H' _ rfl (push1 R2) (by simp [EvAt]) (walkT e2)⟩
def signs (z : Str) : List D := z.cps.toList.map fun c => .str ⟨#[c]⟩
def seqS : D → Option (List D)
  | .str z => some (signs z)
  | _ => none
theorem di_str (h : DE X G e me) : DI X G tg e (dIt seqS me) := by
  refine ⟨⟨fun pins s σ H R I q => (pi_str h.run).run pins s σ H R I ?_⟩, mono_it h.mono⟩
  obtain ⟨F, S, hG, R, q⟩ := q
  refine ⟨F, S, hG, R, h.mono _ _ _ (fun ev S1 ⟨c, S2, xs, e1, e2, p⟩ v H' R' a' => ?_) q⟩
  have R2 := R'.asVal a' e1
  unfold seqS at e2
  split at e2
  · rename_i z
    cases e2
    have hv := top_str (one_tops R2)
    subst hv
    refine ⟨z, rfl, p [(.str z, .val (.str z))] H' _ rfl (push1 R2) (by simp [EvAt]) ⟨?_⟩⟩
    have w := walk_str (z := z)
    have hn : (itOne (.str z) (signs z)).items.length = z.cps.size := by simp [itOne, signs]
    rw [hn]
    refine w.mono (fun _ _ => trivial) fun i H x H2 hi _ y Z _ => ?_
    obtain ⟨e', c, hc, ex⟩ := y
    subst e' ex
    refine ⟨.str ⟨#[c]⟩, ?_, Same.refl _, rep_str⟩
    show (signs z)[i]? = _
    unfold signs
    rw [List.getElem?_map]
    have : z.cps.toList[i]? = some c := by simpa using hc
    rw [this]; rfl
  · cases e2
def ups (lo : Int) (n : Nat) : List D := (List.range n).map fun i => .int (lo + (i : Nat))
theorem walkR {lo : Int} {n : Nat} {vs : List V} : WalkD (Itr lo n) vs ⟨[], ups lo n⟩ := by
  refine ⟨?_⟩
  have hn : (⟨[], ups lo n⟩ : IT).items.length = n := by simp [ups]
  rw [hn]
  refine walk_range.mono (fun _ _ => trivial) fun i H x H2 hi _ y Z _ => ?_
  obtain ⟨e', ex⟩ := y
  subst e' ex
  refine ⟨.int (lo + (i : Nat)), ?_, Same.refl _, rep_int⟩
  show (ups lo n)[i]? = _
  unfold ups
  rw [List.getElem?_map, List.getElem?_range hi]; rfl
def dRange1 (ms : DAm) : DIm := fun S Q => ms S fun evs S1 => ∃ j, evs = [.val (.int j)] ∧ -(2 ^ 62) ≤ j ∧ j < 2 ^ 62 ∧ Q ⟨[], ups 0 j.toNat⟩ S1
def dRange2 (ms : DAm) : DIm := fun S Q => ms S fun evs S1 => ∃ i j, evs = [.val (.int i), .val (.int j)] ∧ (-(2 ^ 62) ≤ i ∧ i < 2 ^ 62 ∧ -(2 ^ 62) ≤ j ∧ j < 2 ^ 62) ∧ Q ⟨[], ups i (j - i).toNat⟩ S1
theorem valsAt {F : Fr} {H : Hp} {σ : L2.St} {S : DS} : ∀ {xs : List (V × EV)} {ds : List D}, Rel (F.pushs (xs.map sval)) H σ S → xs.map (·.2) = ds.map EV.val → Tops (Zs F σ S) H ds (xs.map (·.1)) := fun {xs ds} R hx => by
  refine R.tops (fun x hm => ?_) ?_
  · have : x.2 ∈ ds.map EV.val := by rw [← hx]; exact List.mem_map_of_mem hm
    obtain ⟨d, _, e⟩ := List.mem_map.mp this
    rw [← e]; trivial
  · rw [hx]
    clear hx
    induction ds with
    | nil => rfl
    | cons d ds ih =>
      show (match cont S (.val d), conts S (ds.map EV.val) with
        | some d, some ds => some (d :: ds)
        | _, _ => none) = _
      rw [ih]; rfl
theorem di_range1 (hg : Gl X "range") (hm : X.mg "range" = none) (ha : DA X G [a] ms) (hs : starEach [a] X.env = [(false, eval a X.env)] := by rfl) : DI X G tg (.Call (.Name "range" p) [a] [] pos) (dRange1 ms) := by
  refine ⟨⟨fun pins s σ H R I q => (pi_range1 hg hm ha.run hs).run pins s σ H R I ?_⟩, fun S P P' k q => ha.mono _ _ _ (fun evs S1 ⟨j, e, e1, e2, p⟩ => ⟨j, e, e1, e2, k _ _ p⟩) q⟩
  obtain ⟨F, S, hG, R, q⟩ := q
  refine ⟨F, S, hG, R, ha.mono _ _ _ (fun evs S1 ⟨j, e, e1, e2, p⟩ xs H1 hx R1 a1 => ?_) q⟩
  subst e
  obtain ⟨v, ev, t⟩ := tops1 (valsAt (ds := [.int j]) R1 hx)
  rw [top_int t] at ev
  exact ⟨j, ev, e1, e2, p [] H1 _ rfl (by simpa [Fr.pushs] using R1.cuts) (by simp) walkR⟩
theorem di_range2 (hg : Gl X "range") (hm : X.mg "range" = none) (ha : DA X G [a, b] ms) (hs : starEach [a, b] X.env = [(false, eval a X.env), (false, eval b X.env)] := by rfl) (hs2 : starEach [b] X.env = [(false, eval b X.env)] := by rfl) :
    DI X G tg (.Call (.Name "range" p) [a, b] [] pos) (dRange2 ms) := by
  refine ⟨⟨fun pins s σ H R I q => (pi_range2 hg hm ha.run hs hs2).run pins s σ H R I ?_⟩, fun S P P' k q => ha.mono _ _ _ (fun evs S1 ⟨i, j, e, e1, p⟩ => ⟨i, j, e, e1, k _ _ p⟩) q⟩
  obtain ⟨F, S, hG, R, q⟩ := q
  refine ⟨F, S, hG, R, ha.mono _ _ _ (fun evs S1 ⟨i, j, e, e1, p⟩ xs H1 hx R1 a1 => ?_) q⟩
  subst e
  obtain ⟨v, w, ev, t, t'⟩ := tops2 (valsAt (ds := [.int i, .int j]) R1 hx)
  rw [top_int t, top_int t'] at ev
  exact ⟨i, j, ev, e1, p [] H1 _ rfl (by simpa [Fr.pushs] using R1.cuts) (by simp) walkR⟩

/-! ### [elt for name in iter if test] -/
def dLcT (gs : List (EV × D)) (i : Nat) (mt : DTm) (me : DM) (vs : List Nat) (Q : EV → DS → Prop) : List D → List D → DS → Prop
  | acc, [], S => holds S gs ∧ Q (.own (.lst acc)) S
  | acc, d :: ds, S => holds S gs ∧ canStore S i ∧ mt (S.set i (some (.val d))) fun b S2 => if b = true then me S2 fun ev S3 => ∃ c S4, asVal S3 ev = some (c, S4) ∧ acc.length < sizeLine ∧ dLcT gs i mt me vs Q (acc ++ [c]) ds (wipeD S4 vs) else dLcT gs i mt me vs Q acc ds (wipeD S2 vs)
def dLc (mi : DIm) (i : Nat) (mt : DTm) (me : DM) (vs : List Nat) : DM := fun S Q => mi S fun it S' => dLcT it.gs i mt me vs (fun ev S'' => Q ev (wipeD S'' vs)) [] it.items (wipeD S' vs)
theorem dLcT_mono {gs : List (EV × D)} {i : Nat} {mt : DTm} {me : DM} {vs : List Nat} (h1 : MonoT mt) (h2 : Mono me) {P P' : EV → DS → Prop} (k : ∀ ev S, P ev S → P' ev S) : ∀ {ds acc : List D} {S : DS}, dLcT gs i mt me vs P acc ds S → dLcT gs i mt me vs P' acc ds S
  | [], _, _, ⟨h, q⟩ => ⟨h, k _ _ q⟩
  | d :: ds, acc, S, ⟨h, hc, q⟩ => ⟨h, hc, h1 _ _ _ (fun b S2 p => by
    cases b with
    | true => rw [if_pos rfl] at p ⊢; exact h2 _ _ _ (fun ev S3 ⟨c, S4, e1, e2, p⟩ => ⟨c, S4, e1, e2, dLcT_mono h1 h2 k p⟩) p
    | false => rw [if_neg (by decide)] at p ⊢; exact dLcT_mono h1 h2 k p) q⟩
theorem dLcT_holds {gs : List (EV × D)} {i : Nat} {mt : DTm} {me : DM} {vs : List Nat} {P : EV → DS → Prop} : ∀ {ds acc : List D} {S : DS}, dLcT gs i mt me vs P acc ds S → holds S gs
  | [], _, _, h => h.1
  | _ :: _, _, _, h => h.1
structure DTs (X : Cx) (G : Gb) (es : List Expr) (mt : DTm) : Prop where
  run : PTs X es (tDT G mt)
  mono : MonoT mt
def dYes : DTm := fun S Q => Q true S
theorem dts_nil : DTs X G [] dYes := ⟨⟨fun pins s σ H Q I h => by
  obtain ⟨F, S, _, R, q⟩ := h
  exact pts_nil.run pins s σ H Q I (q H R)⟩, fun _ _ _ k q => k _ _ q⟩
theorem dts_one {mt : DTm} (h : DT X G c mt) : DTs X G [c] mt := ⟨pts_one h.run, h.mono⟩
theorem holds_val {S S' : DS} {gs : List (EV × D)} (h : holds S gs) (hv : ∀ g ∈ gs, ∃ d, g.1 = .val d) : holds S' gs := fun g hg => by
  obtain ⟨d, e⟩ := hv g hg
  have := h g hg
  obtain ⟨g1, g2⟩ := g
  simp only at e
  subst e
  exact this
theorem Rel.topsIn {F : Fr} {H : Hp} {σ : L2.St} {S : DS} (R : Rel F H σ S) : ∀ {xs : List (V × EV)} {ds : List D} (k : Nat), (∀ (n : Nat) x, xs[n]? = some x → F.T[k + n]? = some (sval x)) → (∀ x ∈ xs, EvAt σ x.2 x.1) → conts S (xs.map (·.2)) = some ds → Tops (Zs F σ S) H ds (xs.map (·.1))
  | [], ds, _, _, _, e => by
    have e : some [] = some ds := e
    cases e
    exact .nil
  | (v, ev) :: xs, ds, k, h, ha, e => by
    rw [List.map_cons] at e
    obtain ⟨d, r, rfl, e1, e2⟩ := conts_cons e
    refine .cons (Rel.topT R (n := k) (by simpa using h 0 (v, ev) rfl) (ha (v, ev) List.mem_cons_self) e1) ?_
    exact Rel.topsIn R (k + 1) (fun n x hx => by rw [show k + 1 + n = k + (n + 1) by omega]; exact h (n + 1) x (by simpa using hx)) (fun x hx => ha x (List.mem_cons_of_mem _ hx)) e2
theorem tLc_of {mi : DIm} {i : Nat} {mt : DTm} {me : DM} {vs : List Nat} (him : ∀ S P P', (∀ it S', P it S' → P' it S') → mi S P → mi S P') (h1 : MonoT mt) (h2 : Mono me) (hi : i ∈ vs) {σ : L2.St} {H : Hp} {Q : VK} (h : tD G (dLc mi i mt me vs) σ H Q) :
    tLc (tDI G mi) (gName i) (tDT G mt) (tD G me) vs σ H Q := by
  obtain ⟨F, S, hG, R, h⟩ := h
  refine ⟨F, S, hG, R, him _ _ _ (fun it S' p xs H1 J hx R' ha w D hD => ?_) h⟩
  -- the guards and the new list
  have ats : ∀ {σ' : L2.St} {H' : Hp} {S' : DS}, Rel (F.pushs (xs.map sval)) H' σ' S' → (∀ x ∈ xs, evPin F x) → holds S' it.gs → ∀ x ∈ xs, EvAt σ' x.2 x.1 := fun R pn h x hm => by
    obtain ⟨d, hd⟩ := held_mem hx h hm
    exact at_pin R.cuts (pn x hm) hd
  have tops : ∀ {σ' : L2.St} {H' : Hp} {S' : DS}, Rel (F.pushs (xs.map sval)) H' σ' S' → (∀ x ∈ xs, evPin F x) → holds S' it.gs → Tops (Zs (F.pushs (xs.map sval)) σ' S') H' (it.gs.map (·.2)) (xs.map (·.1)) := fun R pn h =>
    R.tops0 (ats R pn h) (by rw [hx]; exact conts_held h)
  have Rw : Rel (F.pushs (xs.map sval)) H1 (L2.wipe σ vs) (wipeD S' vs) := R'.wipe vs
  have pn : ∀ x ∈ xs, evPin F x := fun x hm => by
    obtain ⟨d, hd⟩ := held_mem hx (dLcT_holds p) hm
    refine pin_of Rw.cuts (ev := x.2) (v := x.1) ?_ hd
    obtain ⟨v, ev⟩ := x
    cases ev with
    | val c => trivial
    | own c => trivial
    | bor j =>
      have hd : (wipeD S' vs)[j]? = some (some (.io d)) := hd
      have a0 : σ[j]? = some (some v) := ha (v, .bor j) hm
      show (L2.wipe σ vs)[j]? = some (some v)
      rw [wipe_off (wipeD_some hd).2]; exact a0
  have R0 : Rel ((F.pushs (xs.map sval)).push (.ref D, .own (.lst []))) (upd H1 D (.lst [])) (L2.wipe σ vs) (wipeD S' vs) :=
    Rw.pushOwn (same_upd hD) hD (by simp only [OwnAt]; exact ⟨[], upd_same, .nil⟩)
  refine ⟨fun k m H => m = it.items.length - k ∧ k ≤ it.items.length ∧ ∃ acc S', Rel ((F.pushs (xs.map sval)).push (.ref D, .own (.lst acc))) H (L2.wipe σ vs) S' ∧ dLcT it.gs i mt me vs (fun ev S'' => PostE F σ Q ev (wipeD S'' vs)) acc (it.items.drop k) S', ⟨_, rfl, Nat.zero_le _, [], _, R0, by simpa using p⟩, ?_⟩
  rintro k m H2 ⟨rfl, hk, acc, S2, R2, q⟩
  have g2 : ∃ Z, Tops Z H2 (it.gs.map (·.2)) (xs.map (·.1)) := ⟨_, tops R2.pop pn (dLcT_holds q)⟩
  by_cases hlt : k < it.items.length
  · refine .inr ⟨w.walk.goes k H2 hlt g2, fun H => k + 1 ≤ it.items.length ∧ ∃ acc S', Rel ((F.pushs (xs.map sval)).push (.ref D, .own (.lst acc))) H (L2.wipe σ vs) S' ∧ dLcT it.gs i mt me vs (fun ev S'' => PostE F σ Q ev (wipeD S'' vs)) acc (it.items.drop (k + 1)) S',
      fun H' ⟨z, p'⟩ => ⟨it.items.length - (k + 1), by omega, rfl, z, p'⟩, fun x H3 y => ?_⟩
    have topsD : Tops (Zs ((F.pushs (xs.map sval)).push (.ref D, .own (.lst acc))) (L2.wipe σ vs) S2) H2 (it.gs.map (·.2)) (xs.map (·.1)) :=
      R2.topsIn F.T.length (fun n x hx => by
        show (F.T ++ xs.map sval ++ [_])[F.T.length + n]? = _
        have hn : n < xs.length := (List.getElem?_eq_some_iff.mp hx).1
        rw [List.getElem?_append_left (by simp; omega), List.getElem?_append_right (by omega), List.getElem?_map, show F.T.length + n - F.T.length = n by omega, hx]
        rfl) (ats R2.pop pn (dLcT_holds q)) (by rw [hx]; exact conts_held (dLcT_holds q))
    obtain ⟨d, hd, sm, rd⟩ := w.walk.yields k H2 x H3 hlt g2 y _ topsD
    have ed : it.items.drop k = d :: it.items.drop (k + 1) := by
      rw [List.drop_eq_getElem_cons hlt]
      rw [List.getElem?_eq_getElem hlt] at hd
      rw [Option.some.inj hd]
    rw [ed] at q
    obtain ⟨hh, hc, q⟩ := q
    obtain ⟨hc1, hc2⟩ := hc
    have R3 : Rel ((F.pushs (xs.map sval)).push (.ref D, .own (.lst acc))) H3 ((L2.wipe σ vs).set i (some x)) (S2.set i (some (.val d))) :=
      Rel.store (x := (x, .val d)) ((R2.grow sm).pushVal rd) (by rw [← R2.len]; exact hc1) hc2 (by simp)
    refine ⟨wipe_set hi, (F.pushs (xs.map sval)).push (.ref D, .own (.lst acc)), _, hG, R3, h1 _ _ _ (fun b S4 p H4 R4 => ?_) q⟩
    cases b with
    | false =>
      rw [if_neg (by decide)] at p ⊢
      refine ⟨hlt, acc, _, ?_, p⟩
      have := R4.wipe vs
      rwa [wipe_set hi] at this
    | true =>
      rw [if_pos rfl] at p ⊢
      refine ⟨(F.pushs (xs.map sval)).push (.ref D, .own (.lst acc)), S4, hG, R4, h2 _ _ _ (fun ev S5 p yv H5 R5 a5 => ?_) p⟩
      obtain ⟨c, S6, e1, e2, p⟩ := p
      have R6 := R5.asVal a5 e1
      have ry : Rep (Zs ((F.pushs (xs.map sval)).push (.ref D, .own (.lst acc))) ((L2.wipe σ vs).set i (some x)) S6) H5 c yv := (R6.w.val (.inr ((F.pushs (xs.map sval)).push (.ref D, .own (.lst acc))).T.length) yv c (by show (_ ++ [_])[_]? = _; simp)).less fun _ z => zs_push z
      have R7 := R6.pop
      obtain ⟨a, ea, na, ow⟩ := R7.w.mu (.inr (F.pushs (xs.map sval)).T.length) (.ref D) (.own (.lst acc)) (by show (_ ++ [_])[_]? = _; simp) rfl
      cases ea
      simp only [SV.d, OwnAt] at ow
      obtain ⟨ws, ew, rw'⟩ := ow
      have zD : Zs ((F.pushs (xs.map sval)).push (.ref D, .own (.lst acc))) ((L2.wipe σ vs).set i (some x)) S6 D := .inr ⟨.inr (F.pushs (xs.map sval)).T.length, .own (.lst acc), by show (_ ++ [_])[_]? = _; simp, rfl⟩
      have mD : Mut (H5 D) := by rw [ew]; trivial
      have R8 := R7.writeT (o' := .lst []) (d' := .lst (acc ++ [c])) (H' := upd H5 D (.lst (ws ++ [yv]))) trivial upd_off (by
        simp only [OwnAt]
        exact ⟨_, upd_same, (rw'.append (.cons ry .nil)).updM zD mD⟩)
      refine ⟨ws, ew, by rw [← rw'.length]; exact e2, hlt, acc ++ [c], _, ?_, p⟩
      have := R8.wipe vs
      rwa [wipe_set hi] at this
  · have ek : k = it.items.length := by omega
    subst ek
    rw [List.drop_length] at q
    refine .inl ⟨w.walk.stops H2 g2, ?_⟩
    obtain ⟨_, q⟩ := q
    have R3 : Rel (F.push (.ref D, .own (.lst acc))) H2 (L2.wipe σ vs) S2 := Rel.dropMid (xs := xs.map sval) R2
    exact q (.ref D) H2 R3.unwipe trivial
end
end DL
set_option Elab.async false
set_option linter.all false
set_option maxRecDepth 100000
set_option maxHeartbeats 1000000
/-! Layer D: comprehensions as values and stored, parallel stores, isinstance, repr, split, join, dict displays, enumerate. -/
namespace DL
open PySem PySem.Spec PyProof.Rows L2

section
variable {X : Cx} {G : Gb} {tg a b c e elt iter : Expr} {es ifs : List Expr} {ma mb mc me : DM} {ms : DAm} {mi : DIm} {mt : DTm} {pos p p2 spos : Pos} {scope : Scope} {own : List (Str × Nat)}
theorem blk_pg {x : Str} {i : Nat} (hN : X.N.Nodup) (hxi : X.N[i]? = some x) (hx : ∀ (s : Shared) (H : Hp) (C : Addr) (cl : List (Str × Addr)) (fp : List Addr), Loc (X.blk s H scope (compEnvC scope cl C X.env) fp).env.scope x)
    (hf : ∀ (s : Shared) (H : Hp) (C : Addr) (cl : List (Str × Addr)) (fp : List Addr), (X.blk s H scope (compEnvC scope cl C X.env) fp).fn x = true ∨ (X.blk s H scope (compEnvC scope cl C X.env) fp).env.scope.names.lookup x = some .local) :
    ∀ (s : Shared) (H : Hp) (C : Addr) (cl : List (Str × Addr)) (fp : List Addr), PG (X.blk s H scope (compEnvC scope cl C X.env) fp) (.Name x p) (gName i) := fun s H C cl fp => pg_name (X := X.blk s H scope (compEnvC scope cl C X.env) fp) hN hxi (hx s H C cl fp) (hf s H C cl fp)
theorem lc_mono (him : ∀ S P P', (∀ it S', P it S' → P' it S') → mi S P → mi S P') (h1 : MonoT mt) (h2 : Mono me) {i : Nat} {vs : List Nat} : Mono (dLc mi i mt me vs) := fun S P P' k q => him _ _ _ (fun it S' p => dLcT_mono h1 h2 (fun ev S'' z => k _ _ z) p) q
theorem de_lc (i : Nat) {x : Str} (hc : X.calm = true) (hN : X.N.Nodup) (hi : DI X G (.Name x p) iter mi) (ok : BlkOk X.N X.env.scope scope own) (hxi : X.N[i]? = some x) (hmem : i ∈ own.map (·.2))
    (hx : ∀ (s : Shared) (H : Hp) (C : Addr) (cl : List (Str × Addr)) (fp : List Addr), Loc (X.blk s H scope (compEnvC scope cl C X.env) fp).env.scope x)
    (hf : ∀ (s : Shared) (H : Hp) (C : Addr) (cl : List (Str × Addr)) (fp : List Addr), (X.blk s H scope (compEnvC scope cl C X.env) fp).fn x = true ∨ (X.blk s H scope (compEnvC scope cl C X.env) fp).env.scope.names.lookup x = some .local)
    (ht : ∀ (s : Shared) (H : Hp) (C : Addr) (cl : List (Str × Addr)) (fp : List Addr), DTs (X.blk s H scope (compEnvC scope cl C X.env) fp) G ifs mt)
    (he : ∀ (s : Shared) (H : Hp) (C : Addr) (cl : List (Str × Addr)) (fp : List Addr), DE (X.blk s H scope (compEnvC scope cl C X.env) fp) G elt me)
    (hs : ∀ x, foldedSetIterable iter X.env x = pure x := by intro _; rfl) : DE X G (.ListComp elt [⟨.Name x p, iter, ifs, 0⟩] scope pos) (dLc mi i mt me (own.map (·.2))) := by
  have m1 := (ht X.s_0 X.H_0 0 [] []).mono
  have m2 := (he X.s_0 X.H_0 0 [] []).mono
  exact ⟨pe_of (pe_lc hc hN hi.run ok (blk_pg hN hxi hx hf) (fun s H C cl fp => (ht s H C cl fp).run) (fun s H C cl fp => (he s H C cl fp).run) hs) fun σ H Q q => tLc_of hi.mono m1 m2 hmem q, lc_mono hi.mono m1 m2⟩
/-- name = [..], an own list or a value -/
theorem ds_lc (o : Bool) (i j : Nat) {x y : Str} {py : Pos} (hc : X.calm = true) (hN : X.N.Nodup) (hy : X.N[j]? = some y) (hyl : X.env.scope.names.lookup y = some .local)
    (hsw : swapsWith (.ListComp elt [⟨.Name x p, iter, ifs, 0⟩] scope pos) (some (.Name y py)) spos.line X.env = pure true) (hi : DI X G (.Name x p) iter mi) (ok : BlkOk X.N X.env.scope scope own) (hxi : X.N[i]? = some x) (hmem : i ∈ own.map (·.2))
    (hx : ∀ (s : Shared) (H : Hp) (C : Addr) (cl : List (Str × Addr)) (fp : List Addr), Loc (X.blk s H scope (compEnvC scope cl C X.env) fp).env.scope x)
    (hf : ∀ (s : Shared) (H : Hp) (C : Addr) (cl : List (Str × Addr)) (fp : List Addr), (X.blk s H scope (compEnvC scope cl C X.env) fp).fn x = true ∨ (X.blk s H scope (compEnvC scope cl C X.env) fp).env.scope.names.lookup x = some .local)
    (ht : ∀ (s : Shared) (H : Hp) (C : Addr) (cl : List (Str × Addr)) (fp : List Addr), DTs (X.blk s H scope (compEnvC scope cl C X.env) fp) G ifs mt)
    (he : ∀ (s : Shared) (H : Hp) (C : Addr) (cl : List (Str × Addr)) (fp : List Addr), DE (X.blk s H scope (compEnvC scope cl C X.env) fp) G elt me)
    (hs : ∀ x, foldedSetIterable iter X.env x = pure x := by intro _; rfl) : DStm X G (.Assign [.Name y py] (.ListComp elt [⟨.Name x p, iter, ifs, 0⟩] scope pos) spos) (if o = true then dOwn (dLc mi i mt me (own.map (·.2))) j else dAsg (dLc mi i mt me (own.map (·.2))) (dgN j)) := by
  have m1 := (ht X.s_0 X.H_0 0 [] []).mono
  have m2 := (he X.s_0 X.H_0 0 [] []).mono
  have mm : Mono (dLc mi i mt me (own.map (·.2))) := lc_mono hi.mono m1 m2
  have hp := ps_setLc (py := py) (spos := spos) hc hN hy hyl hsw hi.run ok (blk_pg hN hxi hx hf) (fun s H C cl fp => (ht s H C cl fp).run) (fun s H C cl fp => (he s H C cl fp).run) hs
  cases o with
  | true =>
    rw [if_pos rfl]
    refine ⟨ps_of hp fun D σ H q => tLc_of (Q := fun v H1 => gName j v σ H1 D.nx) hi.mono m1 m2 hmem ?_, fun D D' S k q => mm _ _ _ (fun ev S' ⟨d, S2, e, c, p⟩ => ⟨d, S2, e, c, k.nx _ p⟩) q⟩
    obtain ⟨F, S, hG, R, q⟩ := q
    refine ⟨F, S, hG, R, mm _ _ _ (fun ev S' p v H' R' a => ?_) q⟩
    obtain ⟨d, S2, e, ⟨c1, c2⟩, p⟩ := p
    have R2 := R'.asOwn a e
    exact p _ H' (R2.store (by rw [← R2.len]; exact c1) c2 (by simp))
  | false =>
    rw [if_neg (by decide)]
    refine ⟨ps_of hp fun D σ H q => tLc_of (Q := fun v H1 => gName j v σ H1 D.nx) hi.mono m1 m2 hmem ?_, fun D D' S k q => mm _ _ _ (fun ev S' ⟨d, S2, e, c, p⟩ => ⟨d, S2, e, c, k.nx _ p⟩) q⟩
    obtain ⟨F, S, hG, R, q⟩ := q
    refine ⟨F, S, hG, R, mm _ _ _ (fun ev S' p v H' R' a => ?_) q⟩
    obtain ⟨d, S2, e, ⟨c1, c2⟩, p⟩ := p
    have R2 := R'.asVal a e
    exact p _ H' (R2.store (by rw [← R2.len]; exact c1) c2 (by simp))

/-! ### parallel stores -/
def toSV (o : Bool) (S : DS) (ev : EV) : Option (SV × DS) := if o = true then (asOwn S ev).map fun p => (.own p.1, p.2) else (asVal S ev).map fun p => (.val p.1, p.2)
def stQ (o : Bool) (i : Nat) (ev : EV) (S : DS) (Q : DS → Prop) : Prop := ∃ sv S', toSV o S ev = some (sv, S') ∧ canStore S' i ∧ Q (S'.set i (some sv))
theorem stQ_ok {F : Fr} {H : Hp} {σ : L2.St} {S : DS} {v : V} {ev : EV} {o : Bool} {i : Nat} {Q : DS → Prop} (R : Rel (F.push (v, ev.sv)) H σ S) (a : EvAt σ ev v) (q : stQ o i ev S Q) : ∃ S2, Q S2 ∧ Rel F H (σ.set i (some v)) S2 := by
  obtain ⟨sv, S', e, ⟨c1, c2⟩, q⟩ := q
  unfold toSV at e
  cases o with
  | true =>
    rw [if_pos rfl] at e
    obtain ⟨⟨d, S2⟩, e1, e2⟩ := Option.map_eq_some_iff.mp e
    cases e2
    have R2 := R.asOwn a e1
    exact ⟨_, q, R2.store (by rw [← R2.len]; exact c1) c2 (by simp)⟩
  | false =>
    rw [if_neg (by decide)] at e
    obtain ⟨⟨d, S2⟩, e1, e2⟩ := Option.map_eq_some_iff.mp e
    cases e2
    have R2 := R.asVal a e1
    exact ⟨_, q, R2.store (by rw [← R2.len]; exact c1) c2 (by simp)⟩
theorem evAt_set {σ : L2.St} {ev : EV} {v w : V} {j : Nat} (a : EvAt σ ev v) (n : ∀ k, ev = .bor k → k ≠ j) : EvAt (σ.set j (some w)) ev v := by
  cases ev with
  | val d => trivial
  | own d => trivial
  | bor k =>
    have a : σ[k]? = some (some v) := a
    show (σ.set j (some w))[k]? = some (some v)
    rw [List.getElem?_set_ne (Ne.symm (n k rfl))]; exact a
def noB (ev : EV) (j : Nat) : Prop := ∀ k, ev = .bor k → k ≠ j
def dPar2 (i : Nat) (o : Bool) (j : Nat) (o' : Bool) (ms : DAm) : DSm := fun D S => ms S fun evs S1 => ∃ e1 e2, evs = [e1, e2] ∧ noB e1 j ∧ stQ o' j e2 S1 fun S2 => stQ o i e1 S2 D.nx
theorem stQ_mono {o : Bool} {i : Nat} {ev : EV} {S : DS} {Q Q' : DS → Prop} (k : ∀ S, Q S → Q' S) : stQ o i ev S Q → stQ o i ev S Q' := fun ⟨sv, S', e, c, q⟩ => ⟨sv, S', e, c, k _ q⟩
theorem ds_par2 (i : Nat) (o : Bool) (j : Nat) (o' : Bool) {x y : Str} {px py pt : Pos} {kt k2 pt2} (hc : X.calm = true) (hN : X.N.Nodup) (ha : DA X G [a, b] ms) (hi : X.N[i]? = some x := by rfl) (hj : X.N[j]? = some y := by rfl) (hij : i ≠ j := by decide)
    (hx : X.env.scope.names.lookup x = some .local := by rfl) (hy : X.env.scope.names.lookup y = some .local := by rfl)
    (hw : swappedStores [.Tuple [.Name x px, .Name y py] kt pt] (.Tuple [a, b] k2 pt2) X.env = pure (some [x, y]) := by rfl)
    (hs : swapsWithSole [.Tuple [.Name x px, .Name y py] kt pt] (.Tuple [a, b] k2 pt2) pos.line X.env = pure false := by rfl) :
    DStm X G (.Assign [.Tuple [.Name x px, .Name y py] kt pt] (.Tuple [a, b] k2 pt2) pos) (dPar2 i o j o' ms) := by
  refine ⟨ps_of (ps_par hc hN hi hj hij hx hy ha.run hw hs) fun D σ H => ?_, fun D D' S k q => ha.mono _ _ _ (fun evs S1 ⟨e1, e2, e, n, q⟩ => ⟨e1, e2, e, n, stQ_mono (fun _ => stQ_mono k.nx) q⟩) q⟩
  rintro ⟨F, S, hG, R, q⟩
  refine ⟨F, S, hG, R, ha.mono _ _ _ (fun evs S1 ⟨e1, e2, e, n, q⟩ xs H1 hx R1 a1 => ?_) q⟩
  subst e
  match xs, hx with
  | [(v, f1), (w, f2)], hx =>
    simp only [List.map_cons, List.map_nil, List.cons.injEq, and_true] at hx
    rw [hx.1, hx.2] at R1 a1
    have R2 : Rel ((F.push (v, e1.sv)).push (w, e2.sv)) H1 σ S1 := by simpa [Fr.push, Fr.pushs, sval] using R1
    obtain ⟨S2, q, R3⟩ := stQ_ok R2 (a1 (w, e2) (by simp)) q
    obtain ⟨S3, q, R4⟩ := stQ_ok R3 (evAt_set (a1 (v, e1) (by simp)) n) q
    refine ⟨v, w, rfl, q _ H1 ?_⟩
    rw [List.set_comm _ _ hij]
    exact R4
def dPar3 (i : Nat) (o : Bool) (j : Nat) (o' : Bool) (l : Nat) (o'' : Bool) (ms : DAm) : DSm := fun D S => ms S fun evs S1 => ∃ e1 e2 e3, evs = [e1, e2, e3] ∧ noB e1 j ∧ noB e1 l ∧ noB e2 l ∧ stQ o'' l e3 S1 fun S2 => stQ o' j e2 S2 fun S3 => stQ o i e1 S3 D.nx
theorem ds_par3 (i : Nat) (o : Bool) (j : Nat) (o' : Bool) (l : Nat) (o'' : Bool) {x y z : Str} {px py pz pt : Pos} {kt k2 pt2} (hc : X.calm = true) (hN : X.N.Nodup) (ha : DA X G [a, b, c] ms) (hi : X.N[i]? = some x := by rfl) (hj : X.N[j]? = some y := by rfl) (hl : X.N[l]? = some z := by rfl)
    (hij : i ≠ j := by decide) (hil : i ≠ l := by decide) (hjl : j ≠ l := by decide)
    (hx : X.env.scope.names.lookup x = some .local := by rfl) (hy : X.env.scope.names.lookup y = some .local := by rfl) (hz : X.env.scope.names.lookup z = some .local := by rfl)
    (hw : swappedStores [.Tuple [.Name x px, .Name y py, .Name z pz] kt pt] (.Tuple [a, b, c] k2 pt2) X.env = pure (some [x, y, z]) := by rfl)
    (hs : swapsWithSole [.Tuple [.Name x px, .Name y py, .Name z pz] kt pt] (.Tuple [a, b, c] k2 pt2) pos.line X.env = pure false := by rfl) :
    DStm X G (.Assign [.Tuple [.Name x px, .Name y py, .Name z pz] kt pt] (.Tuple [a, b, c] k2 pt2) pos) (dPar3 i o j o' l o'' ms) := by
  refine ⟨ps_of (ps_par3 hc hN hi hj hl hij hil hjl hx hy hz ha.run hw hs) fun D σ H => ?_, fun D D' S k q => ha.mono _ _ _ (fun evs S1 ⟨e1, e2, e3, e, n, n2, n3, q⟩ => ⟨e1, e2, e3, e, n, n2, n3, stQ_mono (fun _ => stQ_mono fun _ => stQ_mono k.nx) q⟩) q⟩
  rintro ⟨F, S, hG, R, q⟩
  refine ⟨F, S, hG, R, ha.mono _ _ _ (fun evs S1 ⟨e1, e2, e3, e, n, n2, n3, q⟩ xs H1 hx R1 a1 => ?_) q⟩
  subst e
  match xs, hx with
  | [(u, f1), (v, f2), (w, f3)], hx =>
    simp only [List.map_cons, List.map_nil, List.cons.injEq, and_true] at hx
    rw [hx.1, hx.2.1, hx.2.2] at R1 a1
    have R2 : Rel (((F.push (u, e1.sv)).push (v, e2.sv)).push (w, e3.sv)) H1 σ S1 := by simpa [Fr.push, Fr.pushs, sval] using R1
    obtain ⟨S2, q, R3⟩ := stQ_ok R2 (a1 (w, e3) (by simp)) q
    obtain ⟨S3, q, R4⟩ := stQ_ok R3 (evAt_set (a1 (v, e2) (by simp)) n3) q
    obtain ⟨S4, q, R5⟩ := stQ_ok R4 (evAt_set (evAt_set (a1 (u, e1) (by simp)) n2) n) q
    refine ⟨u, v, w, rfl, q _ H1 ?_⟩
    have e : ((σ.set i (some u)).set j (some v)).set l (some w) = ((σ.set l (some w)).set j (some v)).set i (some u) := by
      rw [List.set_comm _ _ hjl, List.set_comm _ _ hil, List.set_comm _ _ hij]
    rw [e]
    exact R5

/-! ### isinstance with a built-in type -/
def tyN : D → Option String
  | .non => some "NoneType"
  | .bl _ => some "bool"
  | .int _ => some "int"
  | .str _ => some "str"
  | .tup _ => some "tuple"
  | .lst _ => some "list"
  | .frl _ => some "list"
  | .dic _ _ => some "dict"
  | _ => none
theorem tyN_ok {K : PySem.W.Frag} {Z : Addr → Prop} {H : Hp} {d : D} {v : V} {T : String} (t : Top Z H d v) (e : tyN d = some T) : TyX K H v (.type T) := by
  cases d <;> simp only [tyN] at e <;> cases e
  · rw [top_non t]; exact .base .non
  · rw [top_bl t]; exact .base (.bl _)
  · rw [top_int t]; exact .base (.int _)
  · rw [top_str t]; exact .base (.str _)
  · obtain ⟨a, vs, rfl, r, _⟩ := top_tup t
    rcases r with r | ⟨o, r⟩
    · exact .base (.tup r)
    · exact .fTuple r
  · obtain ⟨a, vs, rfl, r, _⟩ := t
    exact .base (.lst r)
  · obtain ⟨a, vs, o, rfl, r, _⟩ := top_frl t
    exact .base (.frz r)
  · obtain ⟨a, kvs, rfl, r, _⟩ := (by simpa only [Top] using t : ∃ a kvs, v = .ref a ∧ Rd H a (.dK kvs) ∧ _ ∧ Reps Z H _ (kvs.map (·.2)))
    rcases r with r | ⟨o, r⟩
    · exact .base (.dK r)
    · exact .fDict r
def fIsi (T : String) (c : D) : Option EV := (tyN c).bind fun t => (kitB t T).map fun b => .val (.bl b)
def rIsi1 (K : PySem.W.Frag) (T : String) : V → Hp → VK → Prop := fun x H Q => rIsi K [x, .ty T] H Q
theorem und_isi {K : PySem.W.Frag} {T : String} : UnD (rIsi1 K T) (fIsi T) := by
  intro Z H x c ev Q t e q
  obtain ⟨n, e1, e2⟩ := Option.bind_eq_some_iff.mp e
  obtain ⟨b, e3, rfl⟩ := Option.map_eq_some_iff.mp e2
  exact ⟨x, .ty T, .type n, .type T, b, rfl, .ty T, tyN_ok t e1, kit_ty e3, q _ H (Same.refl H) rv_bl⟩
theorem de_isi {x : Str} {T : String} (hgi : Gl X "isinstance") (hmi : X.mg "isinstance" = none) (hg : Gl X x) (hm : X.mg x = none) (hv : bootBuiltins x = some (.type T)) (ha : DE X G a ma) (hn : x ≠ "__name__" := by decide) (hd : (x == ("__debug__" : Str)) = false := by decide)
    (he : starEach [a, .Name x p2] X.env = (false, eval a X.env) :: starEach [.Name x p2] X.env := by rfl) (he2 : starEach [.Name x p2] X.env = (false, eval (.Name x p2) X.env) :: starEach [] X.env := by rfl) (hpl : (backTo pos (starEach [.Name x p2] X.env)).any (·.1) = false := by rfl)
    (hbi : bootBuiltins "isinstance" = some (.builtin "isinstance") := by rfl) : DE X G (.Call (.Name "isinstance" p) [a, .Name x p2] [] pos) (dUn (fIsi T) ma) := by
  have h1 : PA X [a, .Name x p2] (tCons (tD G ma) (tCons (tC (.ty T)) tNil)) := pa_cons ha.run (pa_cons (pe_bltn (v := .ty T) hg hm hv rfl hn hd) pa_nil he2) he
  refine ⟨pe_of (pe_callB call_isi hgi hmi hbi h1 (by decide) (by decide) he hpl) fun σ H Q q => ?_, mono_un ha.mono⟩
  exact tUn_of (und_isi (K := X.K)) ha.mono q

/-! ### repr of lists and tuples -/
def rReprD (K : PySem.W.Frag) : List V → Hp → VK → Prop := fun xs H Q => ∃ (a : Addr) (d : PyData), xs = [.ref a] ∧ Dp K H (.ref a) d ∧ d.showable = true ∧ d.hasDict = false ∧ d.depth ≤ 60 ∧ d.shown.length ≤ sizeLine ∧ Q (.str d.shown) H
theorem call_reprD (hgd : X.A.guards = some []) (hu : X.A.units + 64 < cLine) : CallR X (.builtin "repr") (rReprD X.K) := by
  intro pins s σ H xs us Q I r h
  obtain ⟨a, d, rfl, dp, hs, hd, hz, hsz, q⟩ := h
  obtain rfl := Vals.ref1 r
  obtain ⟨as, rd⟩ := Dp.reads I d _ _ dp rfl
  exact repr_of_reads' rd hs (PyData.noDict_hsm hd) hgd (by omega) (fun _ _ e => e) (fun h' u tk hk => ⟨.str _, H, I.kept (t' := tk) hk, ⟨u, rfl⟩, q⟩) hsz
def isSeq : D → Bool
  | .tup _ => true
  | .lst _ => true
  | .frl _ => true
  | _ => false
def fRepr (d : D) : Option EV := if isSeq d = true ∧ (toP d).canLay0 = true ∧ (toP d).showable = true ∧ (toP d).depth ≤ 60 ∧ (toP d).shown.length ≤ sizeLine then some (.val (.str (toP d).shown)) else none
theorem seq_ref {Z : Addr → Prop} {H : Hp} {d : D} {v : V} (t : Top Z H d v) (h : isSeq d = true) : ∃ a, v = .ref a := by
  cases d <;> simp only [isSeq] at h <;> first | cases h | skip
  · obtain ⟨a, _, e, _⟩ := top_tup t; exact ⟨a, e⟩
  · obtain ⟨a, _, e, _⟩ := t; exact ⟨a, e⟩
  · obtain ⟨a, _, _, e, _⟩ := top_frl t; exact ⟨a, e⟩
theorem lsd_repr {K : PySem.W.Frag} : LsD (rReprD K) (one fRepr) := by
  refine lsd_one fun Z H x c ev Q t e q => ?_
  unfold fRepr at e
  split at e
  · rename_i h
    cases e
    obtain ⟨a, rfl⟩ := seq_ref t h.1
    exact ⟨a, _, rfl, t.dp h.2.1, h.2.2.1, PyData.hasDict_of_canLay _ h.2.1, h.2.2.2.1, h.2.2.2.2, q _ H (Same.refl H) rv_str⟩
  · cases e

/-! ### texts' methods of one argument -/
def StD (r : V → List V → Hp → VK → Prop) (f : Str → D → Option EV) : Prop := ∀ (Z : Addr → Prop) (H : Hp) (z : Str) (y : V) (c : D) (ev : EV) (Q : VK), Top Z H c y → f z c = some ev → (∀ v H', Same H H' → RvAt Z H H' ev v → Q v H') → r (.str z) [y] H Q
def dStr (f : Str → D → Option EV) (mo me : DM) : DM := fun S Q => mo S fun eo S1 => ∃ z, eo = .val (.str z) ∧ me S1 fun ee S2 => ∃ c ev, cont S2 ee = some c ∧ f z c = some ev ∧ Q ev S2
theorem mono_strm {f : Str → D → Option EV} (h1 : Mono ma) (h2 : Mono mb) : Mono (dStr f ma mb) := fun S P P' k h => h1 _ _ _ (fun ea S1 ⟨z, e, q⟩ => ⟨z, e, h2 _ _ _ (fun eb S2 ⟨c, ev, e1, e2, p⟩ => ⟨c, ev, e1, e2, k _ _ p⟩) q⟩) h
theorem tStr_of {r : V → List V → Hp → VK → Prop} {f : Str → D → Option EV} (hd : StD r f) (h1 : Mono ma) (h2 : Mono mb) {σ : L2.St} {H : Hp} {Q : VK} (h : tD G (dStr f ma mb) σ H Q) : tM1 r (tD G ma) (tD G mb) σ H Q := by
  obtain ⟨F, S, hG, R, h⟩ := h
  refine ⟨F, S, hG, R, h1 _ _ _ (fun ea S1 q v1 H1 R1 a1 => ?_) h⟩
  obtain ⟨z, e, q⟩ := q
  subst e
  have hv : v1 = .str z := top_str (R1.top1 (ev := .val (.str z)) trivial rfl)
  subst hv
  refine ⟨⟨z, rfl⟩, F, S1, hG, R1.pop, h2 _ _ _ (fun eb S2 p v2 H2 R2 a2 => ?_) q⟩
  obtain ⟨c, ev, e1, e2, p⟩ := p
  refine hd _ H2 z v2 c ev Q (R2.top1 a2 e1) e2 fun v H' k r => ?_
  obtain ⟨R3, a3⟩ := R2.pop.result k r
  exact p v H' R3 a3
theorem reps_strs {Z : Addr → Prop} {H : Hp} : ∀ ys : List Str, Reps Z H (ys.map D.str) (ys.map V.str)
  | [] => .nil
  | _ :: ys => .cons rep_str (reps_strs ys)
def fSplit (z : Str) : D → Option EV
  | .str b => if (b.length == 0) = false ∧ z.length + 2 ≤ sizeLine then some (.own (.lst ((Txt.split z b).map .str))) else none
  | _ => none
theorem std_split : StD (fun x xs H Q => ∃ a b, x = .str a ∧ xs = [.str b] ∧ (b.length == 0) = false ∧ a.length + 2 ≤ sizeLine ∧ rNewStrs (Txt.split a b) H Q) fSplit := by
  intro Z H z y c ev Q t e q
  unfold fSplit at e
  split at e
  · split at e
    · rename_i h
      cases e
      rw [top_str t]
      exact ⟨z, _, rfl, rfl, h.1, h.2, fun p n => q _ _ (same_upd n) (rv_lst n (reps_strs _))⟩
    · cases e
  · cases e
theorem de_split (ho : DE X G a ma) (he : DE X G e me) (hs : starEach [e] X.env = [(false, eval e X.env)] := by rfl) (hbase : attributeBase a "split" X.env (eval a X.env) = eval a X.env := by rfl) (hline : (p.endLine == pos.line) = true := by rfl) :
    DE X G (.Call (.Attribute a "split" p) [e] [] pos) (dStr fSplit ma me) := ⟨pe_of (pe_split ho.run he.run hs hbase hline) fun _ _ _ => tStr_of std_split ho.mono he.mono, mono_strm ho.mono he.mono⟩
def allStr : List D → Option (List Str)
  | [] => some []
  | .str z :: ds => (allStr ds).map (z :: ·)
  | _ :: _ => none
theorem Reps.strs {Z : Addr → Prop} {H : Hp} : ∀ {ds : List D} {vs : List V} {ys : List Str}, Reps Z H ds vs → allStr ds = some ys → vs = ys.map V.str
  | [], _, _, r, e => by simp only [Reps] at r; subst r; cases e; rfl
  | d :: ds, _, bs, r, e => by
    simp only [Reps] at r
    obtain ⟨v, w, rfl, h1, h2⟩ := r
    cases d <;> simp only [allStr] at e <;> first | cases e | skip
    obtain ⟨b', e1, rfl⟩ := Option.map_eq_some_iff.mp e
    simp only [Rep] at h1
    rw [h1, Reps.strs h2 e1]; rfl
def fJoin (z : Str) (c : D) : Option EV := ((seqL c).orElse fun _ => seqT c).bind fun ds => (allStr ds).bind fun ys => if (ys.map (·.length)).sum + ys.length * z.length ≤ 16777216 then some (.val (.str (Txt.join z ys))) else none
theorem std_join {K : PySem.W.Frag} : StD (fun x xs H Q => ∃ a p, ∃ ys : List Str, x = .str a ∧ xs = [.ref p] ∧ (SqL K H p (ys.map V.str) ∨ SqT K H p (ys.map V.str)) ∧ (ys.map (·.length)).sum + ys.length * a.length ≤ 16777216 ∧ Q (.str (Txt.join a ys)) H) fJoin := by
  intro Z H z y c ev Q t e q
  obtain ⟨ds, e1, e2⟩ := Option.bind_eq_some_iff.mp e
  obtain ⟨ys, e3, e4⟩ := Option.bind_eq_some_iff.mp e2
  split at e4
  · rename_i h
    cases e4
    cases e5 : seqL c with
    | some ds' =>
      rw [e5] at e1
      cases e1
      obtain ⟨a, vs, rfl, r, rs⟩ := top_lst (K := K) t e5
      rw [rs.strs e3] at r
      exact ⟨z, a, ys, rfl, rfl, .inl r, h, q _ H (Same.refl H) rv_str⟩
    | none =>
      rw [e5] at e1
      have e1 : seqT c = some ds := e1
      obtain ⟨a, vs, rfl, r, rs⟩ := top_tp (K := K) t e1
      rw [rs.strs e3] at r
      exact ⟨z, a, ys, rfl, rfl, .inr r, h, q _ H (Same.refl H) rv_str⟩
  · cases e4
theorem de_join (ho : DE X G a ma) (he : DE X G e me) (hs : starEach [e] X.env = [(false, eval e X.env)] := by rfl) (hbase : attributeBase a "join" X.env (eval a X.env) = eval a X.env := by rfl) (hline : (p.endLine == pos.line) = true := by rfl) :
    DE X G (.Call (.Attribute a "join" p) [e] [] pos) (dStr fJoin ma me) := ⟨pe_of (pe_join ho.run he.run hs hbase hline) fun _ _ _ => tStr_of (std_join (K := X.K)) ho.mono he.mono, mono_strm ho.mono he.mono⟩
end
end DL
set_option Elab.async false
set_option linter.all false
set_option maxRecDepth 100000
set_option maxHeartbeats 1000000
/-! Layer D: own classes: attributes, making an instance; defs that change their first argument and may raise. -/
namespace DL
open PySem PySem.Spec PyProof.Rows L2

/-! ### attributes -/
theorem putF_new {f : Str} {v : V} : ∀ {ns : List Str} {vs : List V}, ns.length = vs.length → f ∉ ns → putF f v (ns.zip vs) = (ns ++ [f]).zip (vs ++ [v])
  | [], [], _, _ => rfl
  | [], _ :: _, h, _ => by simp at h
  | _ :: _, [], h, _ => by simp at h
  | n :: ns, w :: vs, h, hf => by
    have h' : ns.length = vs.length := by simpa using h
    simp only [List.mem_cons, not_or] at hf
    show (if n = f then _ else _) = _
    rw [if_neg (fun e => hf.1 e.symm), show putF f v (List.zipWith Prod.mk ns vs) = (ns ++ [f]).zip (vs ++ [v]) from putF_new h' hf.2]
    rfl
def getA (f : Str) : List Str → List D → Option D
  | n :: ns, u :: us => if n = f then some u else getA f ns us
  | _, _ => none
theorem Reps.getA {Z : Addr → Prop} {H : Hp} {f : Str} {d : D} : ∀ {ns : List Str} {us : List D} {vs : List V}, Reps Z H us vs → DL.getA f ns us = some d → ∃ v, (ns.zip vs).lookup f = some v ∧ Rep Z H d v
  | [], _, _, _, e => by cases e
  | n :: ns, [], _, _, e => by cases e
  | n :: ns, u :: us, vs, r, e => by
    simp only [Reps] at r
    obtain ⟨v, w, rfl, r1, r2⟩ := r
    simp only [DL.getA] at e
    rw [List.zip_cons_cons, List.lookup_cons]
    by_cases h : n = f
    · rw [if_pos h] at e
      cases e
      subst h
      simp only [beq_self_eq_true]
      exact ⟨v, rfl, r1⟩
    · rw [if_neg h] at e
      have : (f == n) = false := by simpa using fun z => h z.symm
      rw [this]
      exact Reps.getA r2 e
section
variable {X : Cx} {G : Gb} {a e : Expr} {es : List Expr} {ma me : DM} {ms : DAm} {pos p p' : Pos}
def rFld (K : PySem.W.Frag) (f : Str) : V → Hp → VK → Prop := fun x H1 Q => ∃ a C dx fs v, x = .ref a ∧ H1 a = some (.ins C dx fs) ∧ Cls K C ∧ NoAttr K C f ∧ fs.lookup f = some v ∧ Q v H1
def fAtt (C : Addr) (f : Str) : D → Option EV
  | .obj C' ns us => if C' = C then (getA f ns us).map .val else none
  | _ => none
theorem und_att {K : PySem.W.Frag} {C : Addr} {f : Str} (c : Cls K C) (n : NoAttr K C f) : UnD (rFld K f) (fAtt C f) := by
  intro Z H x d ev Q t e q
  unfold fAtt at e
  split at e
  · split at e
    · rename_i hC
      subst hC
      obtain ⟨u, eu, rfl⟩ := Option.map_eq_some_iff.mp e
      obtain ⟨a, dx, vs, rfl, r, q1⟩ := (by simpa only [Top] using t : ∃ a dx vs, x = .ref a ∧ H a = some (.ins _ dx (_)) ∧ Reps Z H _ vs)
      obtain ⟨v, ev, rv⟩ := q1.getA eu
      exact ⟨a, _, dx, _, v, rfl, r, c, n, ev, q v H (Same.refl H) rv⟩
    · cases e
  · cases e
/-- e.f of an instance of the class at C -/
theorem de_att {C : Addr} {f : Str} (c : Cls X.K C) (n : NoAttr X.K C f) (h : DE X G e me) (hb : attributeBase e f X.env (eval e X.env) = eval e X.env := by rfl) : DE X G (.Attribute e f pos) (dUn (fAtt C f) me) :=
  ⟨pe_of (pe_fld h.run hb) fun σ H Q q => tUn_of (und_att c n) h.mono q, mono_un h.mono⟩
/-- self.f = e -/
def setA (C : Addr) (f : Str) (v : D) : D → Option D
  | .obj C' ns us => if C' = C ∧ ns.length = us.length ∧ ns.length < 1000 ∧ f ∉ ns then some (.obj C' (ns ++ [f]) (us ++ [v])) else none
  | _ => none
def dAtt (i : Nat) (C : Addr) (f : Str) (mv mo : DM) : DSm := fun D S => mv S fun ev S1 => mo S1 fun eo S2 => eo = .bor i ∧ ∃ cv S3 sv d', asVal S2 ev = some (cv, S3) ∧ S3[i]? = some (some sv) ∧ sv.isMut = true ∧ setA C f cv sv.d = some d' ∧ D.nx (S3.set i (some (sv.put d')))
theorem ds_att {i : Nat} {C : Addr} {f : Str} {mo : DM} (c : Cls X.K C) (n : NoAttr X.K C f) (ho : DE X G a mo) (hv : DE X G e me) (hs : swapsWith e (some (.Attribute a f p')) pos.line X.env = pure false := by rfl) : DStm X G (.Assign [.Attribute a f p'] e pos) (dAtt i C f me mo) := by
  refine ⟨ps_of (ps_fld ho.run hv.run hs) fun D σ H => ?_, fun D D' S k q => hv.mono _ _ _ (fun ev S1 p => ho.mono _ _ _ (fun eo S2 ⟨e0, cv, S3, sv, d', e1, e2, e3, e4, p⟩ => ⟨e0, cv, S3, sv, d', e1, e2, e3, e4, k.nx _ p⟩) p) q⟩
  rintro ⟨F, S, hG, R, q⟩
  refine ⟨F, S, hG, R, hv.mono _ _ _ (fun ev S1 p v H1 R1 a1 => ?_) q⟩
  refine ⟨F.push (v, ev.sv), S1, hG, R1, ho.mono _ _ _ (fun eo S2 p x H2 R2 a2 => ?_) p⟩
  obtain ⟨e0, cv, S3, sv, d', e1, e2, e3, e4, pq⟩ := p
  subst e0
  have R3 : Rel (F.push (v, ev.sv)) H2 σ S2 := R2.pop
  have R4 := R3.asVal a1 e1
  have rv : Rep (Zs F σ S3) H2 cv v := (R4.w.val (.inr F.T.length) v cv (by show (F.T ++ [_])[F.T.length]? = _; simp)).less fun _ z => zs_push z
  have R5 := R4.pop
  obtain ⟨b, hb, ow, zb⟩ := R5.mutIn e2 e3
  have a2 : σ[i]? = some (some x) := a2
  rw [hb] at a2; cases a2
  unfold setA at e4
  split at e4
  · rename_i C' ns us hd
    split at e4
    · rename_i hh
      obtain ⟨h1, h2, h3, h4⟩ := hh
      cases e4
      subst h1
      rw [hd] at ow
      simp only [OwnAt] at ow
      obtain ⟨dx, vs, ea, r⟩ := ow
      have hl : ns.length = vs.length := h2.trans r.length
      have m : Mut (H2 b) := by rw [ea]; trivial
      refine ⟨b, C', dx, _, rfl, ea, c, n, ?_, pq σ _ (R5.write (o' := .lst []) e2 hb e3 trivial upd_off ?_)⟩
      · rw [List.length_zip]; omega
      · simp only [OwnAt]
        refine ⟨dx, vs ++ [v], ?_, (r.append (.cons rv .nil)).updM zb m⟩
        rw [upd_same, putF_new hl h4]
    · cases e4
  · cases e4
end

/-! ### defs that change their first argument and may raise: an instance's __init__ -/
abbrev SpC := D → List D → (EV → D → Prop) → (DX → Prop) → Prop
def spC (s : SpC) : Sp := fun vs H Q E => ∃ (Z : Addr → Prop) (a : Addr) (d : D) (ds : List D) (vs' : List V), vs = .ref a :: vs' ∧ (∀ b, Z b → (∃ o, H b = some o) ∧ b ≠ a) ∧ OwnAt (fun b => Z b ∨ b = a) H a d ∧ Reps (fun b => Z b ∨ b = a) H ds vs' ∧
  s d ds (fun r d' => ∀ v H', (∀ b o, H b = some o → b ≠ a → H' b = some o) → RvAt (fun b => Z b ∨ b = a) H H' r v → OwnAt (fun b => (Z b ∨ b = a) ∨ evOwn r v b) H' a d' → Q v H')
    fun x => ∀ cls dd H', (∀ b o, H b = some o → b ≠ a → H' b = some o) → XAt Z H' x cls dd → E cls dd H'
section
variable {P : Program} {w : World} {K : PySem.W.Frag} {mg : Str → Option Value} {base : Heap} {x qual : Str} {params : Arguments} {body : List Stmt} {scope : Scope} {dvs : List V} {kws : List (Str × V)} {f : Addr} {fd : FuncData} {N ps : List Str} {k : Nat}
theorem fnC_ok {s : SpC} (F : FunD K x qual params body scope dvs kws f fd) (S : FnScope N ps scope) (hlen : ∀ d ds Q Y, s d ds Q Y → ds.length + 1 = ps.length)
    (hbody : ∀ (cdv : Value) (A : Around) (outer : List Env) (st : Shared) (H : Hp) (E : XK) (G : Gb) (Y : DX → Prop), BodyCx k (cxOf (L2.CX P w) P w K mg base N qual scope f cdv A outer st H E) G (fun x _ => Y x) →
      ∃ m, DBlk (cxOf (L2.CX P w) P w K mg base N qual scope f cdv A outer st H E) G body m ∧ ∀ d ds Q, s d ds Q Y → m (endsI Q) (startI N d ds)) : FnG P w K mg base (k + 1) f fd ps (spC s) := by
  refine fng_of F S (fun vs H Q E ⟨Z, a, d, ds, vs', e, _, _, r, h⟩ => by rw [e, List.length_cons, ← r.length]; exact hlen d ds _ _ h) fun cdv A outer st H vs Q E hr hg ⟨Z, a, d, ds, vs', e, hz, o, r, h⟩ => ?_
  subst e
  have W : Takes (cxOf (L2.CX P w) P w K mg base N qual scope f cdv A outer st H E) (wD ⟨[], fun b => b = a, Z, H⟩ fun x _ => ∀ cls dd H', (∀ b o, H b = some o → b ≠ a → H' b = some o) → XAt Z H' x cls dd → E cls dd H') := by
    refine (takes_of (E := E) rfl rfl rfl rfl).imp fun cls dd σ H' ⟨F', S', x, hG, R, xa, q⟩ => q cls dd H' (fun c oo e ne => ?_) (xa.grow (fun _ _ e => e) fun c _ z => .inl ?_)
    · have e1 : F'.H0 = H := congrArg Gb.H0 hG
      have e2 : F'.IO = fun b => b = a := congrArg Gb.IO hG
      refine R.w.base c oo (by rw [e1]; exact e) (fun i z => ?_) fun n => absurd (congrArg Gb.N hG) n
      rcases R.iog i c z with h | h
      · rw [e1, e] at h; cases h
      · rw [e2] at h; exact ne h
    · rw [show F'.Z = Z from congrArg Gb.Z hG]; exact z
  obtain ⟨m, hd, hq⟩ := hbody cdv A outer st H E ⟨[], fun b => b = a, Z, H⟩ _ ⟨hr, hg, W, passes_of rfl⟩
  refine ⟨_, hd.run, ⟨[], fun b => b = a, Z, H, fun i => if i = 0 then some a else none, []⟩, startI N d ds, rfl, rel_startI tabs_nil hz o r, hd.mono _ _ _ ⟨?_, ?_, ?_, ?_⟩ (hq d ds _ h)⟩
  · rintro S' ⟨d', e0, q⟩ σ' H' R
    obtain ⟨b, hb, hio⟩ := R.ioAt e0
    obtain ⟨c, hc, ow⟩ := R.slotMut e0 rfl
    rw [hb] at hc; cases hc
    have hio : (if 0 = 0 then some a else none) = some b := hio
    cases hio
    refine q .non H' (fun c o e ne => R.w.base c o e (fun i z => ?_) fun n => absurd rfl n) (rep_non (Z := fun b => Z b ∨ b = a) (H := H')) (ow.grow (fun _ _ e => e) fun c _ z => ?_)
    · have z : (if i = 0 then some a else none) = some c := z
      split at z
      · cases z; exact ne rfl
      · cases z
    · rcases z with (z | z) | z
      · exact .inl z
      · exact .inr ⟨.inl 0, .io d', by rw [z]; exact wof_slot hb e0, rfl⟩
      · exact z.elim
  · rintro ev S' ⟨d', e0, q⟩ v σ' H' R _
    obtain ⟨b, hb, hio⟩ := R.ioAt e0
    obtain ⟨c, hc, ow⟩ := R.slotMut e0 rfl
    rw [hb] at hc; cases hc
    have hio : (if 0 = 0 then some a else none) = some b := hio
    cases hio
    have mA : Mt (Wof [(v, ev.sv)] σ' S') a := ⟨.inl 0, .io d', wof_slot hb e0, rfl⟩
    have zz : ∀ c, (Z c ∨ c = a) → Zs ⟨[], fun b => b = a, Z, H, fun i => if i = 0 then some a else none, [(v, ev.sv)]⟩ σ' S' c := fun c z => z.elim .inl fun e => by rw [e]; exact .inr mA
    have kk : ∀ c o, H c = some o → c ≠ a → H' c = some o := fun c o e ne => R.w.base c o e (fun i z => by
      have z : (if i = 0 then some a else none) = some c := z
      split at z
      · cases z; exact ne rfl
      · cases z) fun n => absurd rfl n
    cases ev with
    | val d2 =>
      refine q v H' kk ((R.w.val (.inr 0) v d2 rfl).less zz) (ow.grow (fun _ _ e => e) fun c _ z => ?_)
      exact z.elim (zz c) fun z => z.elim
    | own d2 =>
      obtain ⟨p, rfl, np, o2⟩ := R.w.mu (.inr 0) v (.own d2) rfl rfl
      refine q _ H' kk ⟨p, rfl, R.w.own (.inr 0) p d2 rfl, o2.grow (fun _ _ e => e) fun c _ z => ?_⟩ (ow.grow (fun _ _ e => e) fun c _ z => ?_)
      · rcases z with z | z
        · exact zz c z
        · exact .inr ⟨.inr 0, .own d2, by rw [z]; rfl, rfl⟩
      · rcases z with z | z
        · exact zz c z
        · have z : V.ref p = V.ref c := z
          cases z
          exact .inr ⟨.inr 0, .own d2, rfl, rfl⟩
    | bor j => exact q.elim
  · exact fun S' q => q.elim
  · exact fun S' q => q.elim
end
end DL
namespace DL
open PySem PySem.Spec PyProof.Rows L2
section
variable {X : Cx} {G : Gb} {C f : Addr} {fd : FuncData} {ps : List Str} {k : Nat} {s : SpC} {Xd : DXm} {x : Str} {p pos : Pos} {e : Expr} {es : List Expr} {ms : DAm}
theorem run_makeG {sp : Sp} {E : L2.St → XK} {pins : List (Addr × Obj)} {σ : L2.St} {H : Hp} {s : Shared} {Q : VK} {us : List Value} {vs : List V} (M : Mk X.K C f) (F : FnG X.prog X.w X.K X.mg X.base k f fd ps sp) (hr : Room (k + 1) X.A) (hgd : X.A.guards = some []) (hb : Binds X.K fd ps [])
    (hx : PassesAt (L2.CX X.prog X.w) X σ (E σ)) (I : Inv X pins σ H s) (r : Vals vs us)
    (h : ∀ x dx, H x = none → H dx = none → dx ≠ x → sp (.ref x :: vs) (upd (upd H dx (.own x)) x (.ins C dx [])) (fun v H2 => v = .non ∧ Q (.ref x) H2) (E σ)) :
    wpAny (model X.prog X.w) X.A (call (.ref C) us) (EP X pins σ Q) X.xe s := by
  have hq := h (s.heap.objs.size + 1) s.heap.objs.size (I.hok.fresh (Nat.le_succ _)) (I.hok.fresh (Nat.le_refl _)) (Nat.ne_of_lt (Nat.lt_succ_self _))
  have I2 := Inv.made (C := C) I
  have r2 : Vals (V.ref (s.heap.objs.size + 1) :: vs) (Value.ref (s.heap.objs.size + 1) :: us) := .cons rfl r
  have hl : (Value.ref (s.heap.objs.size + 1) :: us ++ []).length = ps.length := by
    have e := r2.length
    rw [F.len _ _ _ _ hq] at e
    simpa using e.symm
  have hb' := hb _ (Value.ref (s.heap.objs.size + 1) :: us) I2.kIn hl
  rw [List.append_nil] at hb'
  refine wpAny_call (make_map (f := f) I.kIn M.makes M.init (beq_iff_eq.mp M.fn) (codeAny_mono (F.run _ X.stack _ _ ⟨Value.ref (s.heap.objs.size + 1) :: us, []⟩ (Value.ref (s.heap.objs.size + 1) :: us) _ _ (E σ) (hr.make C us []) hgd
    (I2.env0.make C us []) hb' r2 hq) fun r s' hq' => ?_))
  match r, hq' with
  | .error e, hq' => exact hx pins _ _ e s' I2 hq'
  | .ok (.ret u), hq' =>
    obtain ⟨v, H', I3, rv, ev, q3⟩ := I2.after hq'
    subst ev
    exact ⟨rv, ⟨V.ref (s.heap.objs.size + 1), H', I3, rfl, q3⟩⟩
def dMake (s : SpC) (Xd : DXm) (C : Addr) (ms : DAm) : DM := fun S Q => ms S fun evs S1 => ∃ cs S2, asVals S1 evs = some (cs, S2) ∧ s (.obj C [] []) cs (fun r d' => r = .val .non ∧ Q (.own d') S2) fun x => Xd x S2
def MonoC (s : SpC) : Prop := ∀ d ds Q Q' Y Y', (∀ r c, Q r c → Q' r c) → (∀ x, Y x → Y' x) → s d ds Q Y → s d ds Q' Y'
theorem de_make (M : Mk X.K C f) (F : FnG X.prog X.w X.K X.mg X.base k f fd ps (spC s)) (hmo : MonoC s) (tk : Takes X (wD G Xd)) (hr : Room (k + 1) X.A) (hgd : X.A.guards = some []) (hg : Gl X x) (hm : X.mg x = some (.ref C)) (hb : Binds X.K fd ps [])
    (ha : DA X G (e :: es) ms) (hdb : (x == ("__debug__" : Str)) = false := by decide) (he : starEach (e :: es) X.env = (false, eval e X.env) :: starEach es X.env := by rfl) (hpl : (backTo pos (starEach es X.env)).any (·.1) = false := by rfl) :
    DE X G (.Call (.Name x p) (e :: es) [] pos) (dMake s Xd C ms) := by
  refine ⟨⟨fun pins st σ H Q I h => ?_⟩, fun S P P' kk q => ha.mono _ _ _ (fun evs S1 ⟨cs, S2, e, p⟩ => ⟨cs, S2, e, hmo _ _ _ _ _ _ (fun r d' ⟨z1, z2⟩ => ⟨z1, kk _ _ z2⟩) (fun _ z => z) p⟩) q⟩
  refine wpAny_Call_Name_kw (ld_glob I hg hm ?_ hdb)
  have h2 : tDA G ms σ H fun vs H1 => ∀ x dx, H1 x = none → H1 dx = none → dx ≠ x → spC s (.ref x :: vs) (upd (upd H1 dx (.own x)) x (.ins C dx [])) (fun v H2 => v = .non ∧ Q (.ref x) H2) (WE (wD G Xd) σ) := by
    obtain ⟨F, S, hG, R, q⟩ := h
    refine ⟨F, S, hG, R, ha.mono _ _ _ (fun evs S1 ⟨cs, S2, e, p⟩ xs H1 hx R1 a1 x dx nx ndx ne => ?_) q⟩
    obtain ⟨R2, rs, _⟩ := R1.asVals a1 (by rw [hx]; exact e)
    have sm : Same H1 (upd (upd H1 dx (.own x)) x (.ins C dx [])) := fun b o q => by
      have h1 : b ≠ x := fun z => by rw [z, nx] at q; cases q
      have h2 : b ≠ dx := fun z => by rw [z, ndx] at q; cases q
      rw [upd_ne h1, upd_ne h2]; exact q
    have zx : ∀ b, Zs F σ S2 b → b ≠ x := fun b z h => by
      obtain ⟨o, q⟩ := R2.zdom z
      rw [h, nx] at q; cases q
    refine ⟨Zs F σ S2, x, .obj C [] [], cs, xs.map (·.1), rfl, fun b z => ⟨?_, zx b z⟩, ?_, (rs.grow sm (fun b w z => z.elim id (fun h => by obtain ⟨o, q⟩ := w; rw [h, nx] at q; cases q))), hmo _ _ _ _ _ _ (fun r d' hz v H' kk rv ow => ?_) (fun y z cls dd H' kk xa => ?_) p⟩
    · obtain ⟨o, q⟩ := R2.zdom z
      exact ⟨o, sm _ _ q⟩
    · simp only [OwnAt]
      exact ⟨dx, [], upd_same, .nil⟩
    · obtain ⟨er, z⟩ := hz
      subst er
      have hv : v = .non := by simpa only [RvAt, Rep] using rv
      have sm' : Same H1 H' := fun b o q => kk b o (sm b o q) fun h => by rw [h, nx] at q; cases q
      obtain ⟨R3, a3⟩ := R2.result sm' (ev := .own d') (v := .ref x) ⟨x, rfl, nx, ow.grow (fun _ _ e => e) fun b _ z => .inl z⟩
      exact ⟨hv, z _ H' R3 a3⟩
    · have sm' : Same H1 H' := fun b o q => kk b o (sm b o q) fun h => by rw [h, nx] at q; cases q
      exact ⟨F, S2, y, hG, R2.grow sm', xa, z⟩
  exact PySem.W.callWith_K (h₀ := X.base) I.ok.mod.kin M.kp (thn (ha.run.run pos pins st σ H _ I h2) fun us s1 ⟨vs, H1, I1, r, q⟩ => ⟨I1.kIn, run_makeG (E := fun σ => WE (wD G Xd) σ) M F hr hgd hb (passAt tk σ) I1 r q⟩) he hpl
end
end DL
set_option Elab.async false
set_option linter.all false
set_option maxRecDepth 100000
set_option maxHeartbeats 1000000
/-! Layer D: own exceptions' __init__; try with several 'except x as n'. -/
namespace DL
open PySem PySem.Spec PyProof.Rows L2

section
variable {P : Program} {w : World} {K : PySem.W.Frag} {mg : Str → Option Value} {base : Heap} {x qual : Str} {params : Arguments} {scope : Scope} {dvs : List V} {kws : List (Str × V)} {f : Addr} {fd : FuncData} {N ps : List Str} {k : Nat} {C : Addr}
/-- one field -/
theorem xinit1 {n0 n1 f1 : Str} {p0 p1 p2 q1 : Pos} (F : FunD K x qual params [.Assign [.Attribute (.Name n0 p0) f1 p1] (.Name n1 p2) q1] scope dvs kws f fd) (S : FnScope N ps scope) (hl : ps.length = 2) (T : OexC K C) (a1 : PySem.W.findIn K (.ref C) f1 = some none)
    (h0 : N[0]? = some n0) (h1 : N[1]? = some n1) (hN : 2 ≤ N.length) (v0 : Vis scope n0) (v1 : Vis scope n1) (d0 : (n0 == ("__debug__" : Str)) = false := by decide) (c0 : (n0 == ("__classdict__" : Str)) = false := by decide) (d1 : (n1 == ("__debug__" : Str)) = false := by decide) (c1 : (n1 == ("__classdict__" : Str)) = false := by decide) :
    FnOk P w K mg base CX0 (k + 1) f fd ps (spX C [f1]) := by
  refine F.ok S (fun vs H Q E ⟨a, us, e, hu, _⟩ => by rw [e, hl, List.length_cons, hu]; rfl) fun cdv A outer s H vs Q E hr ⟨a, us, e, hu, ha, h⟩ => ?_
  match us, hu with
  | [y], _ =>
    subst e
    refine ⟨_, pss_one (ps_ost (f := f1) (pe_var (i := 0) h0 v0 d0 c0) (pe_var (i := 1) h1 v1 d1 c1)), ?_⟩
    refine ⟨y, start_get (N := N) rfl, .ref a, start_get (N := N) rfl, a, C, rfl, T, a1, .inl ⟨ha, fun dx n ne => h dx _ n ne ?_ ?_ fun b hb hd => ?_⟩⟩
    · rw [upd_same]
    · rw [upd_ne ne, upd_same]; rfl
    · rw [upd_ne hb, upd_ne hd]
/-- two fields -/
theorem xinit2 {n0 n1 n2 n0' f1 f2 : Str} {p0 p1 p2 q1 p3 p4 p5 q2 : Pos} (F : FunD K x qual params [.Assign [.Attribute (.Name n0 p0) f1 p1] (.Name n1 p2) q1, .Assign [.Attribute (.Name n0 p3) f2 p4] (.Name n2 p5) q2] scope dvs kws f fd) (S : FnScope N ps scope) (hl : ps.length = 3) (T : OexC K C)
    (a1 : PySem.W.findIn K (.ref C) f1 = some none) (a2 : PySem.W.findIn K (.ref C) f2 = some none)
    (h0 : N[0]? = some n0) (h1 : N[1]? = some n1) (h2 : N[2]? = some n2) (v0 : Vis scope n0) (v1 : Vis scope n1) (v2 : Vis scope n2) (d0 : (n0 == ("__debug__" : Str)) = false := by decide) (c0 : (n0 == ("__classdict__" : Str)) = false := by decide) (d1 : (n1 == ("__debug__" : Str)) = false := by decide) (c1 : (n1 == ("__classdict__" : Str)) = false := by decide) (d2 : (n2 == ("__debug__" : Str)) = false := by decide) (c2 : (n2 == ("__classdict__" : Str)) = false := by decide) :
    FnOk P w K mg base CX0 (k + 1) f fd ps (spX C [f1, f2]) := by
  refine F.ok S (fun vs H Q E ⟨a, us, e, hu, _⟩ => by rw [e, hl, List.length_cons, hu]; rfl) fun cdv A outer s H vs Q E hr ⟨a, us, e, hu, ha, h⟩ => ?_
  match us, hu with
  | [y, z], _ =>
    subst e
    refine ⟨_, pss_cons (ps_ost (f := f1) (pe_var (i := 0) h0 v0 d0 c0) (pe_var (i := 1) h1 v1 d1 c1)) (pss_one (ps_ost (f := f2) (pe_var (i := 0) h0 v0 d0 c0) (pe_var (i := 2) h2 v2 d2 c2))), ?_⟩
    refine ⟨y, start_get (N := N) rfl, .ref a, start_get (N := N) rfl, a, C, rfl, T, a1, .inl ⟨ha, fun dx n ne => ?_⟩⟩
    refine ⟨z, start_get (N := N) rfl, .ref a, start_get (N := N) rfl, a, C, rfl, T, a2, .inr ⟨dx, [(f1, y)], by rw [upd_same], by rw [upd_ne ne, upd_same], by simp, h dx _ n ne ?_ ?_ fun b hb hd => ?_⟩⟩
    · rw [upd_ne (Ne.symm ne), upd_same]
    · rw [upd_same]; rfl
    · rw [upd_ne hd, upd_ne hb, upd_ne hd]
end

/-! ### several clauses 'except x as n', the slot of n the same -/
def wManyAs (K : PySem.W.Frag) (i : Nat) (Wout : WX) (D : Ends) : List (Value × (Addr → Value → Option Addr → TS)) → WX
  | [] => Wout
  | (c, ts) :: r => fun cls d σ H => ∃ b, PySem.W.exmOne K cls c = some b ∧
    (b = true → ∀ a, H a = none → i < σ.length → ts a cls d { nx := fun σ' H' => D.nx (σ'.set i none) H', rt := D.rt, bk := fun σ' H' => D.bk (σ'.set i none) H', ct := fun σ' H' => D.ct (σ'.set i none) H' } (σ.set i (some (.ref a))) H) ∧ (b = false → wManyAs K i Wout D r cls d σ H)
inductive HdsAs (X : Cx) (n : Str) : List ExceptHandler → List (Value × (Addr → Value → Option Addr → TS)) → Prop
  | nil : HdsAs X n [] []
  | cons {x : Str} {c : Value} {ts : Addr → Value → Option Addr → TS} {b₀ : Stmt} {suite : List Stmt} {np pos' : Pos} {hds : List ExceptHandler} {l : List (Value × (Addr → Value → Option Addr → TS))} (hc : Names X x c)
      (hsu : ∀ (a : Addr) (oe : Obj) (cls : Value) (d : Option Addr) (pn : List (Addr × Obj)), Zc cls d oe → (∃ vs, oe.data = .fields vs) → PSs (X.suite a ((a, oe) :: pn)) (b₀ :: suite) (ts a cls d)) (r : HdsAs X n hds l) :
      HdsAs X n (.ExceptHandler (some (.Name x np)) (some n) (b₀ :: suite) pos' :: hds) ((c, ts) :: l)
section
variable {X : Cx} {n : Str} {i : Nat} {body : List Stmt} {h₀ : ExceptHandler} {hds : List ExceptHandler} {l : List (Value × (Addr → Value → Option Addr → TS))} {pos : Pos} {tb : WX → TS} {Wout : WX}
theorem ps_try_manyAs (hs : X.stack = X.env :: X.outer) (hf : X.env.frame = some X.env.locals) (hN : X.N.Nodup) (hi : X.N[i]? = some n) (hln : X.env.kindOf n = some .local) (tk : Takes X Wout)
    (hb : ∀ (W : WX) (pn : List (Addr × Obj)) (xe : Value → Shared → Prop), Takes (X.tr pn xe) W → PassesOwn (model X.prog X.w) X.A X.env xe → PSs (X.tr pn xe) body (tb W))
    (hh : HdsAs X n (h₀ :: hds) l) : PS X (.Try body (h₀ :: hds) [] [] pos) (fun D σ H => tb (wManyAs X.K i Wout D l) D σ H) := by
  refine ⟨fun pins s σ H D I h => ?_⟩
  have ok := I.ok
  have hfr : X.A.frames = some (X.env :: X.outer) := by rw [ok.frames, hs]
  have hloc : Loc X.env.scope n := .inl hln
  refine wpAny_Try_except ?_
  refine wpAny_mono ((hb (wManyAs X.K i Wout D l) (X.pn ++ pins) (fun e s₁ => wpAny (model X.prog X.w) X.A (noteFrame e X.env) (fun _ s₂ => wpAny (model X.prog X.w) X.A (setFlight e none) (fun _ s₃ =>
    wpAny (model X.prog X.w) X.A (handleBy e X.env (h₀ :: hds)) (SP X pins D) X.xe s₃) X.xe s₂) X.xe s₁) (fun u s' xx => ?_) PassesOwn.looking).run [] s σ H D (I.toTry _) h) (fun f s1 hsp => ?_) (fun e s1 he => he)
  · -- the catch
    obtain ⟨a, B, sI, pins', σ', H', cls, d, rfl, J', nb, up, sky, na, os, ag, w⟩ := xx
    have J : Inv X pins σ' H' sI := J'.ofTry ok
    have sky' : Sky B (X.env :: X.outer) a (Zc cls d) X.env.locals s'.heap := by rw [← hs]; exact sky
    show wpAny (model X.prog X.w) X.A (noteFrame (.ref a) X.env) _ _ _
    refine Sky.land Zc.steady hfr hf sky' fun h3 fl3 up3 => ?_
    have J3 : Inv X pins σ' H' { s' with heap := h3 } := J.landed nb fl3.1 (up.trans up3) os ag
    obtain ⟨oe3, vs3, he3, hz3, hd3⟩ := fl3.there
    have notFr : ∀ {h : Heap} {o : Obj} {vs : Array Value}, h.FunFrames B (X.env :: X.outer) → h.get? a = some o → o.data = .fields vs → a ∉ frs (X.env :: X.outer) := fun {h o vs} ff e dd hm => by
      obtain ⟨_, o', e', hnf⟩ := ff.mem hm
      rw [e] at e'; cases e'
      exact hnf _ dd
    have nfr := notFr fl3.2.2.1 he3 hd3
    have nL : a ≠ X.env.locals := fun z => nfr (List.mem_filterMap.mpr ⟨X.env, List.mem_cons_self, by rw [hf, z]⟩)
    have nF : a ∉ X.fs := fun hm => by
      obtain ⟨e, he, q⟩ := List.mem_filterMap.mp hm
      exact nfr (List.mem_filterMap.mpr ⟨e, List.mem_cons_of_mem _ he, q⟩)
    have S3 := J3.suite he3 hd3 na nL nF
    have go : ∀ {hds' : List ExceptHandler} {l' : List (Value × (Addr → Value → Option Addr → TS))}, HdsAs X n hds' l' → wManyAs X.K i Wout D l' cls d σ' H' →
        wpAny (model X.prog X.w) X.A (handleBy (.ref a) X.env hds') (SP X pins D) X.xe { s' with heap := h3 } := by
      intro hds' l' hk
      induction hk with
      | nil =>
        intro w
        refine wpAny_handleBy_nil ?_
        obtain ⟨k1, k2, k3, oe, vs, T, oT, ts', he, hz, hd, h1, hr⟩ := id fl3
        unfold PySem.passOn
        refine wpAny_bind (wpAny_field he hd h1 ?_)
        rw [if_neg (show ¬ ((Value.ref T == Value.none) = true) from by simp)]
        have fin : wpAny (model X.prog X.w) X.A (setFlight (.ref a) X.env.frame) (fun _ s4 => wpAny (model X.prog X.w) X.A (throw (.ref a) : Sem Flow) (SP X pins D) X.xe s4) X.xe { s' with heap := h3 } := by
          rw [hf]
          refine HandSPX.setFlight_upZ fl3 fun h4 hh4 up4 => wpAny_throw (tk _ _ ?_)
          exact ⟨a, B, sI, pins, σ', H', cls, d, rfl, J, nb, (up.trans up3).trans up4, .inr (.inr (by rw [hs]; exact hh4)), na, os, ag, w⟩
        first
          | exact wpAny_bind (wpAny_pure (wpAny_bind fin))
          | exact wpAny_bind fin
      | @cons x c ts b₀ suite np pos' hds2 l2 hc hsu r ih =>
        intro w
        obtain ⟨b, hb1, hyes, hno⟩ := w
        refine wpAny_handleBy_cons (codeAny_handlers_test ?_) (by intro q; cases q)
        have LT : PySem.W.Looks (model X.prog X.w) h3 (typeOf (.ref a)) cls := fun A Q E s k q => wpAny_typeOf_ref (k _ _ he3) (by rw [hz3.1]; exact q)
        have LM := PySem.W.exm_one (M := model X.prog X.w) (J3.kIn) LT hb1
        have test : ∀ {Q : Value → Shared → Prop} {E : Value → Shared → Prop}, Q c { s' with heap := h3 } → wpAny (model X.prog X.w) (X.A.mark (some (.ref a))) (eval (.Name x np) X.env) Q E { s' with heap := h3 } := fun {Q E} q => by
          obtain ⟨hg, hdbg, hm | ⟨hm, hv, hnn⟩⟩ := hc
          · exact ld_glob (X := X.suite a ((a, oe3) :: (X.pn ++ pins))) S3 hg hm q hdbg
          · exact ld_blt (X := X.suite a ((a, oe3) :: (X.pn ++ pins))) S3 hg hm hv q hnn hdbg
        refine test (LM.here ?_)
        cases b with
        | true =>
          refine codeAny_handlers_suite_as ?_
          refine HandSPX.lands_againZ fl3 fun h4 fl4 up4 => ?_
          have J4 : Inv X pins σ' H' { s' with heap := h4 } := J.landed nb fl4.1 ((up.trans up3).trans up4) os ag
          obtain ⟨oe4, vs4, he4, hz4, hd4⟩ := fl4.there
          have S4 := J4.suite he4 hd4 na nL nF
          refine store_ok (X := X.suite a ((a, oe4) :: (X.pn ++ pins))) (v := .ref a) S4 hN hi hloc rfl (fun s5 S5 => ?_) (.inr hln)
          refine wpAny_mono ((hsu a oe4 cls d (X.pn ++ pins) hz4 ⟨_, hd4⟩).run [] s5 _ H' _ S5 (hyes rfl a na (by have := (List.getElem?_eq_some_iff.mp hi).1; rw [J'.len]; exact this))) (fun f s6 hsp => ?_) (fun _ _ z => False.elim z)
          have end_ : ∀ {σ6 : L2.St} {H6 : Hp} {Q : Shared → Prop}, Inv (X.suite a ((a, oe4) :: (X.pn ++ pins))) [] σ6 H6 s6 → (∀ s7, Inv X pins (σ6.set i none) H6 s7 → Q s7) →
              wpAny (model X.prog X.w) X.A (do bindName X.env n .none; unbindBehindTheSuite X.env n pos') (fun _ s7 => Q s7) X.xe s6 := fun {σ6 H6 Q} S6 hq => gone_ok (S6.unsuite ok) hN hi hln hq
          cases f with
          | next =>
            obtain ⟨σ6, H6, S6, q6⟩ := hsp
            exact end_ S6 fun s7 J7 => ⟨_, _, J7, q6⟩
          | brk =>
            obtain ⟨σ6, H6, S6, q6⟩ := hsp
            exact end_ S6 fun s7 J7 => ⟨_, _, J7, q6⟩
          | cont =>
            obtain ⟨σ6, H6, S6, q6⟩ := hsp
            exact end_ S6 fun s7 J7 => ⟨_, _, J7, q6⟩
          | ret u =>
            obtain ⟨v6, σ6, H6, S6, r6, q6⟩ := hsp
            exact end_ S6 fun s7 J7 => ⟨_, _, _, J7, r6, q6⟩
        | false =>
          show wpAny _ X.A (handleBy (.ref a) X.env hds2) _ _ _
          exact ih (hno rfl)
    exact go hh w
  · cases f with
    | next =>
      obtain ⟨σ', H', J', q⟩ := hsp
      exact wpAny_execs_nil ⟨σ', H', J'.ofTry ok, q⟩
    | brk =>
      obtain ⟨σ', H', J', q⟩ := hsp
      exact ⟨σ', H', J'.ofTry ok, q⟩
    | cont =>
      obtain ⟨σ', H', J', q⟩ := hsp
      exact ⟨σ', H', J'.ofTry ok, q⟩
    | ret u =>
      obtain ⟨v, σ', H', J', r, q⟩ := hsp
      exact ⟨v, σ', H', J'.ofTry ok, r, q⟩
end
end DL
set_option Elab.async false
set_option linter.all false
set_option maxRecDepth 100000
namespace K89
open PySem PySem.Spec PyProof.Rows L2
def top (i : Nat) : Stmt := PySem.Challenge.pw_climbabout_k89_promises_read.main.body.getD i (.Pass ⟨0, 0, 0, 0⟩)
abbrev s_is_name : Stmt := top 16
abbrev s_is_n : Stmt := top 19
abbrev s_is_z : Stmt := top 20
abbrev s_is_v : Stmt := top 24
abbrev s_fits : Stmt := top 25
abbrev s_limit_of : Stmt := top 26
abbrev s_kind_at : Stmt := top 27
abbrev s_cells_behind : Stmt := top 28
abbrev s__law_pen : Stmt := top 31
abbrev s__law_draw : Stmt := top 32
abbrev s__law_pick : Stmt := top 33
abbrev s__law_is_name : Stmt := top 34
abbrev s__law_names : Stmt := top 35
abbrev s__law_met : Stmt := top 36
abbrev s__law_is_n : Stmt := top 37
abbrev s__law_is_z : Stmt := top 38
abbrev s__law_fits : Stmt := top 39
abbrev s__law_vow_forms : Stmt := top 40
abbrev s__law_vow_due : Stmt := top 41
abbrev s__law_vow_word : Stmt := top 42
abbrev s__law_bent_vow : Stmt := top 43
abbrev s__law_shown : Stmt := top 44
abbrev s_law : Stmt := top 45
abbrev FnP (K : PySem.W.Frag) (x : Str) (st : Stmt) (f : Addr) (fd : FuncData) : Prop := FunD K x x (defArgs st) (defBody st) (defScope st) [] [] f fd
end K89
set_option Elab.async false
set_option linter.all false
set_option maxRecDepth 100000
set_option maxHeartbeats 1000000
/-! Layer D: the rules by short names. -/
namespace DL
open PySem PySem.Spec PyProof.Rows L2
section
variable {X : Cx} {G : Gb} {a b c e : Expr} {es : List Expr} {ma mb mc me : DM} {ms : DAm} {pos p p2 : Pos} {k : Nat}
theorem e_add (ha : DE X G a ma) (hb : DE X G b mb) : DE X G (.BinOp a .Add b pos) (dBin fAdd ma mb) := de_op opr_add opd_add ha hb
theorem e_sub (ha : DE X G a ma) (hb : DE X G b mb) : DE X G (.BinOp a .Sub b pos) (dBin fSub ma mb) := de_op op_sub opd_sub ha hb
theorem e_mul (ha : DE X G a ma) (hb : DE X G b mb) : DE X G (.BinOp a .Mult b pos) (dBin fMul ma mb) := de_op opr_mul opd_mul ha hb
theorem e_div (ha : DE X G a ma) (hb : DE X G b mb) : DE X G (.BinOp a .FloorDiv b pos) (dBin fDiv ma mb) := de_op op_fdiv opd_div ha hb
theorem e_mod (ha : DE X G a ma) (hb : DE X G b mb) : DE X G (.BinOp a .Mod b pos) (dBin fMod ma mb) := de_op op_mod opd_mod ha hb
theorem e_pow (ha : DE X G a ma) (hb : DE X G b mb) : DE X G (.BinOp a .Pow b pos) (dBin fPow ma mb) := de_op op_pow opd_pow ha hb
theorem e_neg (ha : DE X G a ma) : DE X G (.UnaryOp .USub a pos) (dUn fNeg ma) := de_un un_neg und_neg ha
theorem e_lt (ha : DE X G a ma) (hb : DE X G b mb) : DE X G (.Compare a [.Lt] [b] pos) (dBin fLt ma mb) := de_cmp op_lt opd_int2 ha hb (nomark _)
theorem e_le (ha : DE X G a ma) (hb : DE X G b mb) : DE X G (.Compare a [.LtE] [b] pos) (dBin fLe ma mb) := de_cmp op_le opd_int2 ha hb (nomark _)
theorem e_gt (ha : DE X G a ma) (hb : DE X G b mb) : DE X G (.Compare a [.Gt] [b] pos) (dBin fGt ma mb) := de_cmp op_gt opd_int2 ha hb (nomark _)
theorem e_ge (ha : DE X G a ma) (hb : DE X G b mb) : DE X G (.Compare a [.GtE] [b] pos) (dBin fGe ma mb) := de_cmp op_ge opd_int2 ha hb (nomark _)
theorem t_lt (ha : DE X G a ma) (hb : DE X G b mb) : DT X G (.Compare a [.Lt] [b] pos) (dB (dBin fLt ma mb)) := dt_cmp op_lt opd_int2 ha hb (nomark _)
theorem t_le (ha : DE X G a ma) (hb : DE X G b mb) : DT X G (.Compare a [.LtE] [b] pos) (dB (dBin fLe ma mb)) := dt_cmp op_le opd_int2 ha hb (nomark _)
theorem t_gt (ha : DE X G a ma) (hb : DE X G b mb) : DT X G (.Compare a [.Gt] [b] pos) (dB (dBin fGt ma mb)) := dt_cmp op_gt opd_int2 ha hb (nomark _)
theorem t_ge (ha : DE X G a ma) (hb : DE X G b mb) : DT X G (.Compare a [.GtE] [b] pos) (dB (dBin fGe ma mb)) := dt_cmp op_ge opd_int2 ha hb (nomark _)
theorem e_eq (hr : Room k X.A) (ha : DE X G a ma) (hb : DE X G b mb) : DE X G (.Compare a [.Eq] [b] pos) (dBin fEq ma mb) := de_cmp (opr_eq hr) opd_eq ha hb (nomark _)
theorem e_ne (hr : Room k X.A) (ha : DE X G a ma) (hb : DE X G b mb) : DE X G (.Compare a [.NotEq] [b] pos) (dBin fNe ma mb) := de_cmp (opr_ne hr) opd_ne ha hb (nomark _)
theorem t_eq (hr : Room k X.A) (ha : DE X G a ma) (hb : DE X G b mb) : DT X G (.Compare a [.Eq] [b] pos) (dB (dBin fEq ma mb)) := dt_cmp (opr_eq hr) opd_eq ha hb (nomark _)
theorem t_ne (hr : Room k X.A) (ha : DE X G a ma) (hb : DE X G b mb) : DT X G (.Compare a [.NotEq] [b] pos) (dB (dBin fNe ma mb)) := dt_cmp (opr_ne hr) opd_ne ha hb (nomark _)
theorem e_le2 (ha : DE X G a ma) (hb : DE X G b mb) (hc : DE X G c mc) (hm : lastMarks [.LtE, .LtE] [b, c] = false := by with_unfolding_all rfl) : DE X G (.Compare a [.LtE, .LtE] [b, c] pos) (dChain fLe fLe ma mb mc) := de_chain op_le op_le opd_int2 opd_int2 ha hb hc hm
theorem t_le2 (ha : DE X G a ma) (hb : DE X G b mb) (hc : DE X G c mc) (hm : lastMarks [.LtE, .LtE] [b, c] = false := by with_unfolding_all rfl) : DT X G (.Compare a [.LtE, .LtE] [b, c] pos) (dB (dChain fLe fLe ma mb mc)) := dt_chain op_le op_le opd_int2 opd_int2 ha hb hc hm
theorem opr_in (hr : Room k X.A) : OpR X (compareOp .In) (fun x y H Q => (∃ (c : Nat) (z : Str), x = .str ⟨#[c]⟩ ∧ y = .str z ∧ Q (.bl (decide (c ∈ z.cps.toList))) H) ∨ rInD X.K x y H Q) := op_in_sign.or (op_inD (by have := hr.un; omega))
theorem opr_nin (hr : Room k X.A) : OpR X (compareOp .NotIn) (fun x y H Q => (∃ (c : Nat) (z : Str), x = .str ⟨#[c]⟩ ∧ y = .str z ∧ Q (.bl (!decide (c ∈ z.cps.toList))) H) ∨ rNotInD X.K x y H Q) := op_notIn_sign.or (op_notInD (by have := hr.un; omega))
theorem e_in (hr : Room k X.A) (ha : DE X G a ma) (hb : DE X G b mb) (hm : behindInMarks .In b = false := by with_unfolding_all rfl) : DE X G (.Compare a [.In] [b] pos) (dBin (fIn0 false) ma mb) := de_cmp (opr_in hr) opd_in0 ha hb hm
theorem e_nin (hr : Room k X.A) (ha : DE X G a ma) (hb : DE X G b mb) (hm : behindInMarks .NotIn b = false := by with_unfolding_all rfl) : DE X G (.Compare a [.NotIn] [b] pos) (dBin (fIn0 true) ma mb) := de_cmp (opr_nin hr) opd_notIn0 ha hb hm
theorem t_in (hr : Room k X.A) (ha : DE X G a ma) (hb : DE X G b mb) (hm : behindInMarks .In b = false := by with_unfolding_all rfl) : DT X G (.Compare a [.In] [b] pos) (dB (dBin (fIn0 false) ma mb)) := dt_cmp (opr_in hr) opd_in0 ha hb hm
theorem t_nin (hr : Room k X.A) (ha : DE X G a ma) (hb : DE X G b mb) (hm : behindInMarks .NotIn b = false := by with_unfolding_all rfl) : DT X G (.Compare a [.NotIn] [b] pos) (dB (dBin (fIn0 true) ma mb)) := dt_cmp (opr_nin hr) opd_notIn0 ha hb hm
theorem e_isN (ha : DE X G a ma) (hb : DE X G b mb) : DE X G (.Compare a [.Is] [b] pos) (dBin fIsN ma mb) := de_cmp op_isN opd_isN ha hb (nomark _)
theorem e_notN (ha : DE X G a ma) (hb : DE X G b mb) : DE X G (.Compare a [.IsNot] [b] pos) (dBin fNotN ma mb) := de_cmp op_notN opd_notN ha hb (nomark _)
theorem t_isN (ha : DE X G a ma) (hb : DE X G b mb) : DT X G (.Compare a [.Is] [b] pos) (dB (dBin fIsN ma mb)) := dt_cmp op_isN opd_isN ha hb (nomark _)
theorem t_notN (ha : DE X G a ma) (hb : DE X G b mb) : DT X G (.Compare a [.IsNot] [b] pos) (dB (dBin fNotN ma mb)) := dt_cmp op_notN opd_notN ha hb (nomark _)
theorem e_ix (ha : DE X G a ma) (hb : DE X G b mb) (hs : PlainIx b := by intro _ _; rfl) : DE X G (.Subscript a b pos) (dBin fIx ma mb) := de_ix ix_seq opd_ix ha hb hs
theorem e_sl {lo hi : Option Expr} {ml mh : DOm} (he : DE X G e me) (hl : DO X G lo ml) (hh : DO X G hi mh) : DE X G (.Subscript e (.Slice lo hi none p2) pos) (dSl fSl me ml mh) := de_slice slr_seq sld_seq he hl hh
theorem e_len (hm : X.mg "len" = none) (ha : DA X G (e :: []) ms) (hg : Gl X "len" := by rfl) (he : starEach (e :: []) X.env = (false, eval e X.env) :: starEach [] X.env := by rfl) (hpl : (backTo pos (starEach [] X.env)).any (·.1) = false := by rfl) :
    DE X G (.Call (.Name "len" p) (e :: []) [] pos) (dLs (one fLen) ms) := de_callB call_len lsd_len hg hm (by decide +kernel) ha (by decide) (by decide) he hpl
theorem e_all (hc : X.calm = true) (hm : X.mg "all" = none) (ha : DA X G (e :: []) ms) (hg : Gl X "all" := by rfl) (he : starEach (e :: []) X.env = (false, eval e X.env) :: starEach [] X.env := by rfl) (hpl : (backTo pos (starEach [] X.env)).any (·.1) = false := by rfl) :
    DE X G (.Call (.Name "all" p) (e :: []) [] pos) (dLs (one fAll) ms) := de_callB (cr_all hc) lsd_all hg hm (by decide +kernel) ha (by decide) (by decide) he hpl
theorem e_int (hm : X.mg "int" = none) (ha : DA X G (e :: []) ms) (hg : Gl X "int" := by rfl) (he : starEach (e :: []) X.env = (false, eval e X.env) :: starEach [] X.env := by rfl) (hpl : (backTo pos (starEach [] X.env)).any (·.1) = false := by rfl) :
    DE X G (.Call (.Name "int" p) (e :: []) [] pos) (dLs (one fIntOf) ms) := de_callTy callr_int lsd_int hg hm (by decide +kernel) ha (by decide) (by decide) he hpl
theorem e_str (hm : X.mg "str" = none) (ha : DA X G (e :: []) ms) (hg : Gl X "str" := by rfl) (he : starEach (e :: []) X.env = (false, eval e X.env) :: starEach [] X.env := by rfl) (hpl : (backTo pos (starEach [] X.env)).any (·.1) = false := by rfl) :
    DE X G (.Call (.Name "str" p) (e :: []) [] pos) (dLs (one fStrOf) ms) := de_callTy call_str_int lsd_str hg hm (by decide +kernel) ha (by decide) (by decide) he hpl
theorem e_tuple (hm : X.mg "tuple" = none) (ha : DA X G (e :: []) ms) (hg : Gl X "tuple" := by rfl) (he : starEach (e :: []) X.env = (false, eval e X.env) :: starEach [] X.env := by rfl) (hpl : (backTo pos (starEach [] X.env)).any (·.1) = false := by rfl) :
    DE X G (.Call (.Name "tuple" p) (e :: []) [] pos) (dLs (one fTuple) ms) := de_callTy call_tuple_of lsd_tuple hg hm (by decide +kernel) ha (by decide) (by decide) he hpl
theorem e_list (hm : X.mg "list" = none) (ha : DA X G (e :: []) ms) (hg : Gl X "list" := by rfl) (he : starEach (e :: []) X.env = (false, eval e X.env) :: starEach [] X.env := by rfl) (hpl : (backTo pos (starEach [] X.env)).any (·.1) = false := by rfl) :
    DE X G (.Call (.Name "list" p) (e :: []) [] pos) (dLs (one fList) ms) := de_callTy call_list_of lsd_list hg hm (by decide +kernel) ha (by decide) (by decide) he hpl
theorem e_repr (hgd : X.A.guards = some []) (hr : Room k X.A) (hm : X.mg "repr" = none) (ha : DA X G (e :: []) ms) (hg : Gl X "repr" := by rfl) (he : starEach (e :: []) X.env = (false, eval e X.env) :: starEach [] X.env := by rfl) (hpl : (backTo pos (starEach [] X.env)).any (·.1) = false := by rfl) :
    DE X G (.Call (.Name "repr" p) (e :: []) [] pos) (dLs (one fRepr) ms) := de_callB (call_reprD hgd hr.units) lsd_repr hg hm (by decide +kernel) ha (by decide) (by decide) he hpl
theorem e_app {i : Nat} {o : Expr} {mo : DM} {apos : Pos} (ho : DE X G o mo) (ha : DA X G (e :: []) ms) (hbase : attributeBase o "append" X.env (eval o X.env) = eval o X.env := by rfl)
    (hfew : ((backTo pos (starEach (e :: []) X.env)).all (fun x => !x.1) && (backToKw pos (keywordEach [] X.env)).all (fun x => x.1.isSome)
      && decide ((e :: []).length + ([] : List Keyword).length + (if ([] : List Keyword).isEmpty then 0 else 1) < 30)) = true := by rfl)
    (hline : (apos.endLine == pos.line) = true := by rfl) (hs : starEach (e :: []) X.env = (false, eval e X.env) :: starEach [] X.env := by rfl) (hplain : (backTo pos (starEach [] X.env)).any (·.1) = false := by rfl) :
    DE X G (.Call (.Attribute o "append" apos) (e :: []) [] pos) (dMth "list" i fAppend mo ms) := de_mth F.plainAttrs_list F.slot_list_append F.type_list_append mt_append mud_append ho ha hbase hfew hline hs hplain
/-- a global constant that is a text -/
theorem e_gs {x z : Str} {t : Tok} (hm : X.mg x = some (.str z t)) (hg : Gl X x := by rfl) (hd : (x == ("__debug__" : Str)) = false := by decide) : DE X G (.Name x pos) (dC (.str z)) := de_gstr hg hm hd
end
end DL
namespace DL
open PySem PySem.Spec PyProof.Rows L2
def blkB (N : List Str) (sc scope : Scope) (own : List (Str × Nat)) : Bool :=
  decide (scope.kind = .function) && (decide (∀ y ∈ scope.names, scope.names.lookup y.1 = some y.2) && (decide (∀ p ∈ own, N[p.2]? = some p.1) &&
    (decide (∀ y ∈ scope.names, y.2 = .free → sc.names.lookup y.1 = some .cell ∨ sc.names.lookup y.1 = some .free) && decide (∀ y ∈ scope.names, y.2 = .local ∨ y.2 = .cell → y.1 ∈ own.map (·.1) ∨ y.1 ∉ N))))
theorem blk_ok {N : List Str} {sc scope : Scope} {own : List (Str × Nat)} (h : blkB N sc scope own = true) : BlkOk N sc scope own := by
  unfold blkB at h
  simp only [Bool.and_eq_true, decide_eq_true_eq] at h
  exact ⟨h.1, h.2.1, h.2.2.1, h.2.2.2.1, h.2.2.2.2⟩
section
variable {X : Cx} {G : Gb} {elt iter : Expr} {ifs : List Expr} {mi : DIm} {mt : DTm} {me : DM} {pos p spos : Pos} {scope : Scope}
theorem e_lc (own : List (Str × Nat)) (i : Nat) {x : Str} (hc : X.calm = true) (hN : X.N.Nodup) (hi : DI X G (.Name x p) iter mi)
    (ht : ∀ (s : Shared) (H : Hp) (C : Addr) (cl : List (Str × Addr)) (fp : List Addr), DTs (X.blk s H scope (compEnvC scope cl C X.env) fp) G ifs mt)
    (he : ∀ (s : Shared) (H : Hp) (C : Addr) (cl : List (Str × Addr)) (fp : List Addr), DE (X.blk s H scope (compEnvC scope cl C X.env) fp) G elt me)
    (ok : blkB X.N X.env.scope scope own = true := by kernel_rfl) (hxi : X.N[i]? = some x := by rfl) (hmem : i ∈ own.map (·.2) := by decide)
    (hx : ∀ (s : Shared) (H : Hp) (C : Addr) (cl : List (Str × Addr)) (fp : List Addr), Loc (X.blk s H scope (compEnvC scope cl C X.env) fp).env.scope x := by intros; first | exact Or.inl rfl | exact Or.inr rfl)
    (hf : ∀ (s : Shared) (H : Hp) (C : Addr) (cl : List (Str × Addr)) (fp : List Addr), (X.blk s H scope (compEnvC scope cl C X.env) fp).fn x = true ∨ (X.blk s H scope (compEnvC scope cl C X.env) fp).env.scope.names.lookup x = some .local := by intros; first | exact Or.inr rfl | exact Or.inl rfl)
    (hs : ∀ x, foldedSetIterable iter X.env x = pure x := by intro _; rfl) : DE X G (.ListComp elt [⟨.Name x p, iter, ifs, 0⟩] scope pos) (dLc mi i mt me (own.map (·.2))) :=
  de_lc i hc hN hi (blk_ok ok) hxi hmem hx hf ht he hs
theorem s_lc (o : Bool) (own : List (Str × Nat)) (i j : Nat) {x y : Str} {py : Pos} (hc : X.calm = true) (hN : X.N.Nodup) (hi : DI X G (.Name x p) iter mi)
    (ht : ∀ (s : Shared) (H : Hp) (C : Addr) (cl : List (Str × Addr)) (fp : List Addr), DTs (X.blk s H scope (compEnvC scope cl C X.env) fp) G ifs mt)
    (he : ∀ (s : Shared) (H : Hp) (C : Addr) (cl : List (Str × Addr)) (fp : List Addr), DE (X.blk s H scope (compEnvC scope cl C X.env) fp) G elt me)
    (ok : blkB X.N X.env.scope scope own = true := by kernel_rfl) (hy : X.N[j]? = some y := by rfl) (hyl : X.env.scope.names.lookup y = some .local := by rfl) (hk : X.env.scope.kind = .function := by rfl) (hl : (py.line == pos.line) = true := by rfl)
    (hany : (scope.names.any fun (n, k) => n == y && (k == .local || k == .cell)) = false := by rfl)
    (hxi : X.N[i]? = some x := by rfl) (hmem : i ∈ own.map (·.2) := by decide)
    (hx : ∀ (s : Shared) (H : Hp) (C : Addr) (cl : List (Str × Addr)) (fp : List Addr), Loc (X.blk s H scope (compEnvC scope cl C X.env) fp).env.scope x := by intros; first | exact Or.inl rfl | exact Or.inr rfl)
    (hf : ∀ (s : Shared) (H : Hp) (C : Addr) (cl : List (Str × Addr)) (fp : List Addr), (X.blk s H scope (compEnvC scope cl C X.env) fp).fn x = true ∨ (X.blk s H scope (compEnvC scope cl C X.env) fp).env.scope.names.lookup x = some .local := by intros; first | exact Or.inr rfl | exact Or.inl rfl)
    (hs : ∀ x, foldedSetIterable iter X.env x = pure x := by intro _; rfl) : DStm X G (.Assign [.Name y py] (.ListComp elt [⟨.Name x p, iter, ifs, 0⟩] scope pos) spos) (if o = true then dOwn (dLc mi i mt me (own.map (·.2))) j else dAsg (dLc mi i mt me (own.map (·.2))) (dgN j)) :=
  ds_lc o i j hc hN hy hyl (sw_true hk hyl hl hany) hi (blk_ok ok) hxi hmem hx hf ht he hs
end

/-! ### the plain form of a reading: by simp -/
theorem ex_some {α : Type} {a : α} {P : α → Prop} : (∃ c, some a = some c ∧ P c) ↔ P a := ⟨fun ⟨_, e, h⟩ => Option.some.inj e ▸ h, fun h => ⟨a, rfl, h⟩⟩
theorem val_ev {d : D} {P : EV → DS → Prop} {S : DS} : dC d S P = P (.val d) S := rfl
end DL
set_option Elab.async false
set_option linter.all false
set_option maxRecDepth 100000
set_option maxHeartbeats 1000000
/-! Layer D: readings by values: what an expression gives where it changes no slot; steps of statements. -/
namespace DL
open PySem PySem.Spec PyProof.Rows L2
structure Ev (m : DM) (S : DS) (ev : EV) : Prop where
  run : ∀ Q : EV → DS → Prop, Q ev S → m S Q
structure EvT (m : DTm) (S : DS) (b : Bool) : Prop where
  run : ∀ Q : Bool → DS → Prop, Q b S → m S Q
structure EvA (m : DAm) (S : DS) (es : List EV) : Prop where
  run : ∀ Q : List EV → DS → Prop, Q es S → m S Q
structure EvO (m : DOm) (S : DS) (i : Option Int) : Prop where
  run : ∀ Q : Option Int → DS → Prop, Q i S → m S Q
section
variable {ma mb mc m : DM} {ms : DAm} {mt mt' : DTm} {S : DS} {ea eb r : EV} {c d g : D} {x y k : Bool}
theorem ev_c : Ev (dC d) S (.val d) := .mk fun Q h => h
theorem ev_var {i : Nat} (e : S[i]? = some (some (.val d))) : Ev (dVar i) S (.val d) := .mk fun Q h => ⟨_, e, h⟩
theorem ev_own {i : Nat} (e : S[i]? = some (some (.own d))) : Ev (dVar i) S (.bor i) := .mk fun Q h => ⟨_, e, h⟩
theorem ev_io {i : Nat} (e : S[i]? = some (some (.io d))) : Ev (dVar i) S (.bor i) := .mk fun Q h => ⟨_, e, h⟩
theorem ev_bin {f : D → D → Option EV} (h1 : Ev ma S ea) (h2 : Ev mb S eb) (e1 : cont S ea = some c) (e2 : cont S eb = some d) (e : f c d = some r) : Ev (dBin f ma mb) S r := .mk fun Q h => h1.run _ (h2.run _ ⟨c, d, r, e1, e2, e, h⟩)
theorem ev_un {f : D → Option EV} (h1 : Ev ma S ea) (e1 : cont S ea = some c) (e : f c = some r) : Ev (dUn f ma) S r := .mk fun Q h => h1.run _ ⟨c, r, e1, e, h⟩
theorem ev_ls {f : List D → Option EV} {es : List EV} {cs : List D} (h1 : EvA ms S es) (e1 : conts S es = some cs) (e : f cs = some r) : Ev (dLs f ms) S r := .mk fun Q h => h1.run _ ⟨cs, r, e1, e, h⟩
theorem ev_chain {f f' : D → D → Option EV} {ec : EV} (h1 : Ev ma S ea) (h2 : Ev mb S eb) (e1 : cont S ea = some c) (e2 : cont S eb = some d) (e : f c d = some (.val (.bl x))) (h3 : x = true → Ev mc S ec) (e3 : x = true → cont S ec = some g) (e' : x = true → f' d g = some (.val (.bl y))) :
    Ev (dChain f f' ma mb mc) S (.val (.bl (x && y))) := .mk fun Q h => h1.run _ (h2.run _ ⟨c, d, x, e1, e2, e, by
  cases x with
  | true => rw [if_pos rfl]; exact (h3 rfl).run _ ⟨d, g, _, e2, e3 rfl, e' rfl, by simpa using h⟩
  | false => rw [if_neg (by decide)]; simpa using h⟩)
theorem ev_sl {f : D → Option Int → Option Int → Option EV} {ml mh : DOm} {lo hi : Option Int} (h1 : Ev ma S ea) (h2 : EvO ml S lo) (h3 : EvO mh S hi) (e1 : cont S ea = some c) (e : f c lo hi = some r) : Ev (dSl f ma ml mh) S r := .mk fun Q h => h1.run _ (h2.run _ (h3.run _ ⟨c, r, e1, e, h⟩))
theorem evo_no : EvO dNo S none := .mk fun Q h => h
theorem evo_pt {i : Int} (h : Ev m S (.val (.int i))) : EvO (dPt m) S (some i) := .mk fun Q q => h.run _ ⟨i, rfl, q⟩
theorem eva_nil : EvA dNil S [] := .mk fun Q h => h
theorem eva_cons {es : List EV} (h1 : Ev m S ea) (h2 : EvA ms S es) : EvA (dCons m ms) S (ea :: es) := .mk fun Q h => h1.run _ (h2.run _ h)
theorem evt_b (h : Ev m S (.val (.bl k))) : EvT (dB m) S k := .mk fun Q q => h.run _ ⟨k, rfl, q⟩
theorem evt_not (h : EvT mt S x) : EvT (dNot mt) S (!x) := .mk fun Q q => h.run _ q
theorem evt_and (h : EvT mt S x) (h' : x = true → EvT mt' S y) : EvT (dAnd mt mt') S (x && y) := .mk fun Q q => h.run _ (by
  cases x with
  | true => rw [if_pos rfl]; exact (h' rfl).run _ (by simpa using q)
  | false => rw [if_neg (by decide)]; simpa using q)
theorem evt_or (h : EvT mt S x) (h' : x = false → EvT mt' S y) : EvT (dOr mt mt') S (x || y) := .mk fun Q q => h.run _ (by
  cases x with
  | true => rw [if_pos rfl]; simpa using q
  | false => rw [if_neg (by decide)]; exact (h' rfl).run _ (by simpa using q))
theorem ev_orv (h : Ev ma S (.val (.bl x))) (h' : x = false → Ev mb S (.val (.bl y))) : Ev (dOrV ma mb) S (.val (.bl (x || y))) := .mk fun Q q => h.run _ ⟨x, rfl, by
  cases x with
  | true => rw [if_pos rfl]; simpa using q
  | false => rw [if_neg (by decide)]; exact (h' rfl).run _ (by simpa using q)⟩
theorem ev_andv (h : Ev ma S (.val (.bl x))) (h' : x = true → Ev mb S (.val (.bl y))) : Ev (dAndV ma mb) S (.val (.bl (x && y))) := .mk fun Q q => h.run _ ⟨x, rfl, by
  cases x with
  | true => rw [if_pos rfl]; exact (h' rfl).run _ (by simpa using q)
  | false => rw [if_neg (by decide)]; simpa using q⟩
theorem ev_notv (h : Ev ma S (.val (.bl x))) : Ev (dNotV ma) S (.val (.bl (!x))) := .mk fun Q q => h.run _ ⟨x, rfl, q⟩
theorem ev_if (h : EvT mt S x) (h1 : x = true → Ev ma S r) (h2 : x = false → Ev mb S r) : Ev (dIf mt ma mb) S r := .mk fun Q q => h.run _ (by
  cases x with
  | true => rw [if_pos rfl]; exact (h1 rfl).run _ q
  | false => rw [if_neg (by decide)]; exact (h2 rfl).run _ q)
theorem ev_lst {es : List EV} {cs : List D} (h1 : EvA ms S es) (e1 : asVals S es = some (cs, S)) (hl : cs.length ≤ sizeLine) : Ev (dLst ms) S (.own (.lst cs)) := .mk fun Q h => h1.run _ ⟨cs, S, e1, hl, h⟩
theorem ev_tup {es : List EV} {cs : List D} (h1 : EvA ms S es) (e1 : asVals S es = some (cs, S)) (hl : cs.length ≤ sizeLine) : Ev (dTup ms) S (.val (.tup cs)) := .mk fun Q h => h1.run _ ⟨cs, S, e1, hl, h⟩
theorem ev_str {f : Str → D → Option EV} {z : Str} (h1 : Ev ma S (.val (.str z))) (h2 : Ev mb S eb) (e2 : cont S eb = some d) (e : f z d = some r) : Ev (dStr f ma mb) S r := .mk fun Q h => h1.run _ ⟨z, rfl, h2.run _ ⟨d, r, e2, e, h⟩⟩
theorem ev_call {s : Sp0} {Xd : DXm} {dfl : List D} {es : List EV} {cs : List D} (h1 : EvA ms S es) (e1 : asVals S es = some (cs, S)) (h : ∀ Q Y, Q r → s (cs ++ dfl) Q Y) : Ev (dCall s Xd dfl ms) S r := .mk fun Q q => h1.run _ ⟨cs, S, e1, h _ _ q⟩
/-- a comprehension whose parts are plain -/
theorem lcT_pure {gs : List (EV × D)} {i : Nat} {vs : List Nat} {Q : EV → DS → Prop} (hg : holds S gs) (hset : ∀ d, wipeD (S.set i (some (.val d))) vs = S) (hcan : canStore S i) (pt : D → Bool) (gt : D → D) :
    ∀ {ds acc : List D}, (∀ d ∈ ds, EvT mt (S.set i (some (.val d))) (pt d)) → (∀ d ∈ ds, pt d = true → Ev m (S.set i (some (.val d))) (.val (gt d))) → acc.length + ds.length ≤ sizeLine → Q (.own (.lst (acc ++ (ds.filter pt).map gt))) S → dLcT gs i mt m vs Q acc ds S
  | [], acc, _, _, _, q => ⟨hg, by simpa using q⟩
  | d :: ds, acc, ht, he, hl, q => by
    refine ⟨hg, hcan, (ht d List.mem_cons_self).run _ ?_⟩
    cases hp : pt d with
    | true =>
      rw [if_pos rfl]
      refine (he d List.mem_cons_self hp).run _ ⟨gt d, _, rfl, by simp at hl; omega, ?_⟩
      rw [hset]
      refine lcT_pure hg hset hcan pt gt (fun d h => ht d (List.mem_cons_of_mem _ h)) (fun d h => he d (List.mem_cons_of_mem _ h)) (by simp at hl ⊢; omega) ?_
      simpa [List.filter_cons, hp] using q
    | false =>
      rw [if_neg (by decide), hset]
      refine lcT_pure hg hset hcan pt gt (fun d h => ht d (List.mem_cons_of_mem _ h)) (fun d h => he d (List.mem_cons_of_mem _ h)) (by simp at hl ⊢; omega) ?_
      simpa [List.filter_cons, hp] using q
theorem ev_lc {f : D → Option (List D)} {i : Nat} {vs : List Nat} {ds : List D} (h1 : Ev ma S ea) (e1 : asVal S ea = some (c, S)) (e2 : f c = some ds) (hw : wipeD S vs = S) (hset : ∀ d, wipeD (S.set i (some (.val d))) vs = S) (hcan : canStore S i) (pt : D → Bool) (gt : D → D)
    (ht : ∀ d ∈ ds, EvT mt (S.set i (some (.val d))) (pt d)) (he : ∀ d ∈ ds, pt d = true → Ev m (S.set i (some (.val d))) (.val (gt d))) (hl : ds.length ≤ sizeLine) : Ev (dLc (dIt f ma) i mt m vs) S (.own (.lst ((ds.filter pt).map gt))) := .mk fun Q q => h1.run _ ⟨c, S, ds, e1, e2, by
  show dLcT [(.val c, c)] i mt m vs _ [] ds (wipeD S vs)
  rw [hw]
  exact lcT_pure (fun g hg => by rw [List.mem_singleton.mp hg]; rfl) hset hcan pt gt ht he (by simpa using hl) (by show Q _ (wipeD S vs); rw [hw]; simpa using q)⟩
theorem evt_yes : EvT dYes S true := .mk fun Q h => h
/-! ### statements -/
variable {D : DEnds} {m1 m2 : DSm}
theorem st_if {b : Bool} (h : EvT mt S b) (h1 : b = true → m1 D S) (h2 : b = false → m2 D S) : dIfS mt m1 m2 D S := h.run _ (by
  cases b with
  | true => rw [if_pos rfl]; exact h1 rfl
  | false => rw [if_neg (by decide)]; exact h2 rfl)
theorem st_ret (h : Ev m S (.val d)) (q : D.rt (.val d) S) : dRet m D S := h.run _ q
theorem st_retO (h : Ev m S (.own d)) (q : D.rt (.own d) S) : dRet m D S := h.run _ q
theorem st_set {i : Nat} {S2 : DS} (h : Ev m S ea) (e : asVal S ea = some (d, S2)) (hc : canStore S2 i) (q : D.nx (S2.set i (some (.val d)))) : dAsg m (dgN i) D S := h.run _ ⟨d, S2, e, hc, q⟩
theorem st_own {i : Nat} {S2 : DS} (h : Ev m S ea) (e : asOwn S ea = some (d, S2)) (hc : canStore S2 i) (q : D.nx (S2.set i (some (.own d)))) : dOwn m i D S := h.run _ ⟨d, S2, e, hc, q⟩
end
section
variable {m : DM} {mt : DTm} {ms : DAm} {S : DS} {ev r : EV} {b : Bool} {es : List EV} {cs : List D}
/-! ### promises by functions -/
abbrev Out := EV ⊕ DX
def spF (g : List D → Option Out) : Sp0 := fun ds Q Y => match g ds with
  | some (.inl r) => Q r
  | some (.inr x) => Y x
  | none => False
theorem mono_F {g : List D → Option Out} : MonoP (spF g) := fun ds Q Q' Y Y' h1 h2 h => by
  unfold spF at h ⊢
  cases e : g ds with
  | none => rw [e] at h; exact h
  | some o =>
    rw [e] at h
    cases o with
    | inl r => exact h1 r h
    | inr x => exact h2 x h
theorem spF_len {g : List D → Option Out} {n : Nat} (h : ∀ ds o, g ds = some o → ds.length = n) : ∀ ds Q Y, spF g ds Q Y → ds.length = n := fun ds Q Y q => by
  unfold spF at q
  cases e : g ds with
  | none => rw [e] at q; exact q.elim
  | some o => exact h ds o e
theorem ev_callF {g : List D → Option Out} {Xd : DXm} (h1 : EvA ms S es) (e1 : asVals S es = some (cs, S)) (h : g cs = some (.inl r)) : Ev (dCall (spF g) Xd [] ms) S r := ev_call h1 e1 fun Q Y q => by
  unfold spF
  rw [List.append_nil, h]
  exact q
theorem dcall_F {g : List D → Option Out} {Xd : DXm} {o : Out} {Q : EV → DS → Prop} (h1 : EvA ms S es) (e1 : asVals S es = some (cs, S)) (h : g cs = some o) (q : match o with
  | .inl r => Q r S
  | .inr x => Xd x S) : dCall (spF g) Xd [] ms S Q := h1.run _ ⟨cs, S, e1, by
  unfold spF
  rw [List.append_nil, h]
  cases o <;> exact q⟩
def spG (g : D → List D → Option (EV × D)) : Sp1 := fun d ds Q => ∃ r d', g d ds = some (r, d') ∧ Q r d'
theorem mono_G {g : D → List D → Option (EV × D)} : MonoI (spG g) := fun d ds Q Q' h ⟨r, d', e, q⟩ => ⟨r, d', e, h r d' q⟩
/-- a call that changes slot i -/
theorem dcall_G {g : D → List D → Option (EV × D)} {i : Nat} {sv : SV} {d' : D} {Q : EV → DS → Prop} (h1 : EvA ms S (.bor i :: es)) (e1 : asVals S es = some (cs, S)) (e2 : S[i]? = some (some sv)) (e3 : sv.isMut = true) (h : g sv.d cs = some (r, d')) (q : Q r (S.set i (some (sv.put d')))) : dCallI (spG g) i ms S Q :=
  h1.run _ ⟨es, cs, S, sv, rfl, e1, e2, e3, r, d', h, q⟩
end
/-! ### a def by name -/
structure Cal (P : Program) (w : World) (K : PySem.W.Frag) (mg : Str → Option Value) (base : Heap) (k : Nat) (x : Str) (ps : List Str) (sp : Sp) : Prop where
  ex : ∃ f fd, FnG P w K mg base k f fd ps sp ∧ mg x = some (.ref f) ∧ PySem.W.keepIn K (.ref f) = true ∧ Binds K fd ps []
section
variable {X : Cx} {G : Gb} {k j : Nat} {x : Str} {ps : List Str} {p pos : Pos} {e : Expr} {es : List Expr} {ms : DAm} {Xd : DXm}
theorem e_call {s : Sp0} (c : Cal X.prog X.w X.K X.mg X.base k x ps (spP s)) (hmo : MonoP s) (tk : Takes X (wD G Xd)) (hr : Room j X.A) (hgd : X.A.guards = some []) (ha : DA X G (e :: es) ms) (hk : k ≤ j := by decide) (hg : Gl X x := by rfl) (hdb : (x == ("__debug__" : Str)) = false := by decide)
    (he : starEach (e :: es) X.env = (false, eval e X.env) :: starEach es X.env := by rfl) (hpl : (backTo pos (starEach es X.env)).any (·.1) = false := by rfl) : DE X G (.Call (.Name x p) (e :: es) [] pos) (dCall s Xd [] ms) := by
  obtain ⟨f, fd, F, hm, hkp, hb⟩ := c.ex
  exact de_call F hmo tk (hr.mono hk) hgd hg hm hkp hb .nil dfl_nil ha hdb he hpl
theorem e_call0 {s : Sp0} (c : Cal X.prog X.w X.K X.mg X.base k x ps (spP s)) (hmo : MonoP s) (tk : Takes X (wD G Xd)) (hr : Room j X.A) (hgd : X.A.guards = some []) (hk : k ≤ j := by decide) (hg : Gl X x := by rfl) (hdb : (x == ("__debug__" : Str)) = false := by decide) : DE X G (.Call (.Name x p) [] [] pos) (dCall s Xd [] dNil) := by
  obtain ⟨f, fd, F, hm, hkp, hb⟩ := c.ex
  exact de_call0 F hmo tk (hr.mono hk) hgd hg hm hkp hb .nil dfl_nil hdb
theorem e_callI {s : Sp1} (i : Nat) (c : Cal X.prog X.w X.K X.mg X.base k x ps (spI s)) (hmo : MonoI s) (hr : Room j X.A) (hgd : X.A.guards = some []) (ha : DA X G (e :: es) ms) (hk : k ≤ j := by decide) (hg : Gl X x := by rfl) (hdb : (x == ("__debug__" : Str)) = false := by decide)
    (he : starEach (e :: es) X.env = (false, eval e X.env) :: starEach es X.env := by rfl) (hpl : (backTo pos (starEach es X.env)).any (·.1) = false := by rfl) : DE X G (.Call (.Name x p) (e :: es) [] pos) (dCallI s i ms) := by
  obtain ⟨f, fd, F, hm, hkp, hb⟩ := c.ex
  exact de_callI F hmo (hr.mono hk) hgd hg hm hkp hb ha hdb he hpl
end
theorem st_seq {D : DEnds} {m1 m2 : DSm} {S : DS} (h : m1 { D with nx := m2 D } S) : dSeq m1 m2 D S := h
theorem st_nx {D : DEnds} {S : DS} (h : D.nx S) : dNext D S := h
end DL
set_option Elab.async false
set_option linter.all false
set_option maxRecDepth 100000
set_option maxHeartbeats 1000000
/-! Layer D: more steps. -/
namespace DL
open PySem PySem.Spec PyProof.Rows L2
def canB (S : DS) (i : Nat) : Bool := match S[i]? with
  | some (some (.io _)) => false
  | some _ => true
  | none => false
theorem can_of {S : DS} {i : Nat} (h : canB S i = true) : canStore S i := by
  unfold canB at h
  constructor
  · cases e : S[i]? with
    | none => rw [e] at h; cases h
    | some x => exact (List.getElem?_eq_some_iff.mp e).1
  · intro d e
    rw [e] at h
    cases h
section
variable {ma mb mc m : DM} {ms : DAm} {mt mt' : DTm} {S S2 : DS} {ea eb r : EV} {c d g : D} {x y k : Bool} {i : Nat} {vs : List Nat} {f : D → Option (List D)} {ds : List D}
theorem allBl_map (g : D → Bool) : ∀ ds : List D, allBl (ds.map fun d => .bl (g d)) = some (ds.map g)
  | [] => rfl
  | d :: ds => by simp [allBl, allBl_map g ds]
theorem ev_lcE (h1 : Ev ma S ea) (e1 : asVal S ea = some (c, S)) (e2 : f c = some ds) (hw : wipeD S vs = S) (hset : ∀ d, wipeD (S.set i (some (.val d))) vs = S) (hcan : canB S i = true) (gt : D → D)
    (he : ∀ d ∈ ds, Ev m (S.set i (some (.val d))) (.val (gt d))) (hl : ds.length ≤ sizeLine) : Ev (dLc (dIt f ma) i dYes m vs) S (.own (.lst (ds.map gt))) := by
  have := ev_lc (i := i) (vs := vs) (mt := dYes) (m := m) h1 e1 e2 hw hset (can_of hcan) (fun _ => true) gt (fun _ _ => evt_yes) (fun d hd _ => he d hd) hl
  rwa [List.filter_eq_self.mpr (by simp)] at this
theorem ev_lcF (h1 : Ev ma S ea) (e1 : asVal S ea = some (c, S)) (e2 : f c = some ds) (hw : wipeD S vs = S) (hset : ∀ d, wipeD (S.set i (some (.val d))) vs = S) (hcan : canB S i = true) (pt : D → Bool) (gt : D → D)
    (ht : ∀ d ∈ ds, EvT mt (S.set i (some (.val d))) (pt d)) (he : ∀ d ∈ ds, pt d = true → Ev m (S.set i (some (.val d))) (.val (gt d))) (hl : ds.length ≤ sizeLine) : Ev (dLc (dIt f ma) i mt m vs) S (.own (.lst ((ds.filter pt).map gt))) :=
  ev_lc h1 e1 e2 hw hset (can_of hcan) pt gt ht he hl
/-- all([.. for .. in ..]) -/
theorem ev_allc (h1 : Ev ma S ea) (e1 : asVal S ea = some (c, S)) (e2 : f c = some ds) (hw : wipeD S vs = S) (hset : ∀ d, wipeD (S.set i (some (.val d))) vs = S) (hcan : canB S i = true) (gt : D → Bool)
    (he : ∀ d ∈ ds, Ev m (S.set i (some (.val d))) (.val (.bl (gt d)))) (hl : ds.length ≤ sizeLine) : Ev (dLs (one fAll) (dCons (dLc (dIt f ma) i dYes m vs) dNil)) S (.val (.bl (ds.all gt))) := by
  refine ev_ls (eva_cons (ev_lcE h1 e1 e2 hw hset hcan (fun d => .bl (gt d)) he hl) eva_nil) rfl ?_
  show (allBl (ds.map fun d => .bl (gt d))).map (fun bs => EV.val (.bl (bs.all id))) = _
  rw [allBl_map]
  simp
end
/-! ### texts as lists of code points -/
abbrev cs (w : Str) : List Nat := w.cps.toList
theorem cs_len (w : Str) : (cs w).length = w.length := by simp [cs, Str.length]
theorem signs_len (w : Str) : (signs w).length = w.length := by simp [signs, Str.length]
theorem str_ext {x y : Str} (h : cs x = cs y) : x = y := by
  cases x; cases y
  simp only [cs] at h
  congr 1
  exact Array.toList_inj.mp h
theorem signs_mem {w : Str} {d : D} (h : d ∈ signs w) : ∃ c, c ∈ cs w ∧ d = .str ⟨#[c]⟩ := by
  unfold signs at h
  obtain ⟨c, hc, e⟩ := List.mem_map.mp h
  exact ⟨c, hc, e.symm⟩
/-- the sign of a text of one -/
def sgn : D → Nat
  | .str z => (cs z).headD 0
  | _ => 0
theorem sgn_sign (c : Nat) : sgn (.str ⟨#[c]⟩) = c := rfl
theorem signs_all (w : Str) (p : Nat → Bool) : ((signs w).all fun d => p (sgn d)) = (cs w).all p := by
  unfold signs
  rw [List.all_map]
  rfl
theorem signs_filter (w : Str) (p : Nat → Bool) : ((signs w).filter fun d => p (sgn d)) = ((cs w).filter p).map fun c => .str ⟨#[c]⟩ := by
  unfold signs
  rw [List.filter_map]
  rfl
theorem in_sign {c : Nat} {z : Str} : fIn0 false (.str ⟨#[c]⟩) (.str z) = some (.val (.bl (decide (c ∈ cs z)))) := rfl
theorem nin_sign {c : Nat} {z : Str} : fIn0 true (.str ⟨#[c]⟩) (.str z) = some (.val (.bl (!decide (c ∈ cs z)))) := rfl
theorem atI_zero {α : Type} {x : α} {l : List α} : L2.atI (x :: l) 0 = some x := by
  unfold L2.atI ixN
  simp
theorem ix_str0 {z : Str} {c : Nat} {r : List Nat} (h : cs z = c :: r) (hl : z.length ≤ sizeLine) : fIx (.str z) (.int 0) = some (.val (.str ⟨#[c]⟩)) := by
  show (if z.length ≤ sizeLine then (L2.atI z.cps.toList 0).map fun c => EV.val (.str ⟨#[c]⟩) else none) = _
  rw [if_pos hl, show z.cps.toList = c :: r from h, atI_zero]
  rfl
section
variable {ma m : DM} {mt : DTm} {S : DS} {i : Nat} {vs : List Nat}
/-- all([.. for sign in text]) -/
theorem ev_allS {w : Str} (p : Nat → Bool) (h1 : Ev ma S (.val (.str w))) (he : ∀ c, Ev m (S.set i (some (.val (.str ⟨#[c]⟩)))) (.val (.bl (p c)))) (hl : w.length ≤ sizeLine) (hw : wipeD S vs = S := by rfl) (hset : ∀ d, wipeD (S.set i (some (.val d))) vs = S := by intro _; rfl) (hcan : canB S i = true := by rfl) :
    Ev (dLs (one fAll) (dCons (dLc (dIt seqS ma) i dYes m vs) dNil)) S (.val (.bl ((cs w).all p))) := by
  have := ev_allc (vs := vs) (m := m) (f := seqS) (i := i) h1 rfl rfl hw hset hcan (fun d => p (sgn d)) (fun d hd => by
    obtain ⟨c, hc, rfl⟩ := signs_mem hd
    exact he c) (by rw [signs_len]; exact hl)
  rwa [signs_all w p] at this
/-- [.. for sign in text if ..] -/
theorem ev_lcS {w : Str} (p : Nat → Bool) (d : D) (h1 : Ev ma S (.val (.str w))) (ht : ∀ c, EvT mt (S.set i (some (.val (.str ⟨#[c]⟩)))) (p c)) (he : ∀ c, Ev m (S.set i (some (.val (.str ⟨#[c]⟩)))) (.val d)) (hl : w.length ≤ sizeLine) (hw : wipeD S vs = S := by rfl) (hset : ∀ d, wipeD (S.set i (some (.val d))) vs = S := by intro _; rfl) (hcan : canB S i = true := by rfl) :
    Ev (dLc (dIt seqS ma) i mt m vs) S (.own (.lst (((cs w).filter p).map fun _ => d))) := by
  have := ev_lcF (vs := vs) (m := m) (mt := mt) (f := seqS) (i := i) h1 rfl rfl hw hset hcan (fun d => p (sgn d)) (fun _ => d) (fun d hd => by
    obtain ⟨c, hc, rfl⟩ := signs_mem hd
    exact ht c) (fun d hd _ => by
    obtain ⟨c, hc, rfl⟩ := signs_mem hd
    exact he c) (by rw [signs_len]; exact hl)
  rwa [signs_filter w p, List.map_map] at this
theorem eq_nilL {xs : List D} (h : okE (.lst xs) = true) : fEq (.lst xs) (.lst []) = some (.val (.bl xs.isEmpty)) := by
  have h2 : okE (.lst []) = true := by decide
  show (if (okE (.lst xs) && okE (.lst [])) = true then some (PyData.eqv (toP (.lst xs)) (toP (.lst []))) else none).map (fun b => EV.val (.bl b)) = _
  rw [h, h2]
  cases xs with
  | nil => rfl
  | cons x xs => rfl
theorem ne_nilL {xs : List D} (h : okE (.lst xs) = true) : fNe (.lst xs) (.lst []) = some (.val (.bl (!xs.isEmpty))) := by
  have h2 : okE (.lst []) = true := by decide
  show (if (okE (.lst xs) && okE (.lst [])) = true then some (PyData.eqv (toP (.lst xs)) (toP (.lst []))) else none).map (fun b => EV.val (.bl (!b))) = _
  rw [h, h2]
  cases xs with
  | nil => rfl
  | cons x xs => rfl
end
/-! ### promises by relations -/
def spQ (R : List D → Out → Prop) : Sp0 := fun ds Q Y => ∃ o, R ds o ∧ match o with
  | .inl r => Q r
  | .inr x => Y x
theorem mono_Q {R : List D → Out → Prop} : MonoP (spQ R) := fun ds Q Q' Y Y' h1 h2 ⟨o, e, q⟩ => ⟨o, e, by
  cases o with
  | inl r => exact h1 r q
  | inr x => exact h2 x q⟩
theorem spQ_len {R : List D → Out → Prop} {n : Nat} (h : ∀ ds o, R ds o → ds.length = n) : ∀ ds Q Y, spQ R ds Q Y → ds.length = n := fun ds Q Y ⟨o, e, _⟩ => h ds o e
section
variable {ms : DAm} {S : DS} {es : List EV} {ws : List D} {r : EV} {Q : EV → DS → Prop}
theorem ev_callQ {R : List D → Out → Prop} {Xd : DXm} (h1 : EvA ms S es) (e1 : asVals S es = some (ws, S)) (h : R ws (.inl r)) : Ev (dCall (spQ R) Xd [] ms) S r := ev_call h1 e1 fun Q Y q => ⟨.inl r, by rw [List.append_nil]; exact h, q⟩
theorem dcall_Q {R : List D → Out → Prop} {Xd : DXm} {S2 : DS} (o : Out) (h1 : EvA ms S es) (e1 : asVals S es = some (ws, S2)) (h : R ws o) (q : match o with
  | .inl r => Q r S2
  | .inr x => Xd x S2) : dCall (spQ R) Xd [] ms S Q := h1.run _ ⟨ws, S2, e1, o, by rw [List.append_nil]; exact h, by cases o <;> exact q⟩
/-- a def that changes its first argument: what it asks, what it may give -/
def spA (pre : D → List D → Prop) (post : D → List D → EV → D → Prop) : Sp1 := fun d ds Q => pre d ds ∧ ∀ r d', post d ds r d' → Q r d'
theorem mono_A {pre : D → List D → Prop} {post : D → List D → EV → D → Prop} : MonoI (spA pre post) := fun d ds Q Q' h ⟨p, q⟩ => ⟨p, fun r d' z => h r d' (q r d' z)⟩
theorem dcall_A {pre : D → List D → Prop} {post : D → List D → EV → D → Prop} {i : Nat} {sv : SV} {S2 : DS} (h1 : EvA ms S (.bor i :: es)) (e1 : asVals S es = some (ws, S2)) (e2 : S2[i]? = some (some sv)) (e3 : sv.isMut = true) (h : pre sv.d ws)
    (q : ∀ r d', post sv.d ws r d' → Q r (S2.set i (some (sv.put d')))) : dCallI (spA pre post) i ms S Q := h1.run _ ⟨es, ws, S2, sv, rfl, e1, e2, e3, h, q⟩
end
/-! ### steps in a row -/
section
variable {mt : DTm} {m : DM} {m1 m2 m3 : DSm} {D : DEnds} {S S2 : DS} {ea : EV} {d : DL.D} {i : Nat} {b : Bool}
theorem sq_if (h : EvT mt S b) (h1 : b = true → m1 { D with nx := m2 D } S) (h2 : b = false → m2 D S) : dSeq (dIfS mt m1 dNext) m2 D S := st_if h h1 h2
theorem sq_ife (h : EvT mt S b) (h1 : b = true → m1 { D with nx := m2 D } S) (h2 : b = false → m3 { D with nx := m2 D } S) : dSeq (dIfS mt m1 m3) m2 D S := st_if h h1 h2
theorem sq_set (h : Ev m S ea) (e : asVal S ea = some (d, S2)) (hc : canB S2 i = true) (q : m2 D (S2.set i (some (.val d)))) : dSeq (dAsg m (dgN i)) m2 D S := st_set h e (can_of hc) q
theorem sq_own (h : Ev m S ea) (e : asOwn S ea = some (d, S2)) (hc : canB S2 i = true) (q : m2 D (S2.set i (some (.own d)))) : dSeq (dOwn m i) m2 D S := st_own h e (can_of hc) q
theorem sq_lc (h : Ev m S ea) (e : asVal S ea = some (d, S2)) (hc : canB S2 i = true) (q : m2 D (S2.set i (some (.val d)))) : dSeq (if false = true then dOwn m i else dAsg m (dgN i)) m2 D S := st_set h e (can_of hc) q
end
end DL
set_option Elab.async false
set_option linter.all false
set_option maxRecDepth 100000
set_option maxHeartbeats 400000
local macro_rules | `(tactic| walk_at "ev1") => `(tactic| first
  | exact DL.ev_c | exact DL.ev_var rfl | exact DL.ev_own rfl | exact DL.ev_io rfl | exact DL.eva_nil | exact DL.evo_no | exact DL.evt_yes
  | apply DL.eva_cons | apply DL.evo_pt | apply DL.evt_b | apply DL.evt_not | apply DL.evt_and | apply DL.evt_or
  | apply DL.ev_orv | apply DL.ev_andv | apply DL.ev_notv
  | apply DL.ev_bin | apply DL.ev_un | apply DL.ev_ls | apply DL.ev_sl | apply DL.ev_chain
  | apply DL.ev_lst | apply DL.ev_tup | apply DL.ev_str | apply DL.ev_callF
  | exact rfl | exact if_pos (by first | assumption | (simp only [List.length_cons, List.length_nil]; done) | decide) | (intro _))
namespace K89
open PySem PySem.Spec PyProof.Rows L2 DL
/-! ### words, in plain Lean -/
def digs : List Nat := [48, 49, 50, 51, 52, 53, 54, 55, 56, 57]
def isN (w : Str) : Bool := decide (1 ≤ w.length) && (decide (w.length ≤ 6) && ((cs w).all (fun c => decide (c ∈ digs)) && (decide (w = "0") || decide ((cs w).headD 0 ≠ 48))))
theorem digs_eq : cs ("0123456789" : Str) = digs := by decide +kernel
section
variable {P : Program} {w : World} {K : PySem.W.Frag} {mg : Str → Option Value} {base : Heap} {f : Addr} {fd : FuncData}
theorem sc_is_n : FnScope ["word", "sign"] ["word"] (defScope s_is_n) := ⟨rfl, rfl, rfl, by decide +kernel, rfl, by decide +kernel, by decide +kernel⟩
def r_is_n : List D → Out → Prop := fun ds o => ∃ w : Str, ds = [.str w] ∧ w.length ≤ sizeLine ∧ o = .inl (.val (.bl (isN w)))
theorem isN_nil {w : Str} (h : cs w = []) : isN w = false := by
  have : w.length = 0 := by rw [← cs_len, h]; rfl
  simp [isN, this]
theorem one_eq {c : Nat} : (⟨#[c]⟩ : Str) = "0" ↔ c = 48 := by
  constructor
  · intro h
    have := congrArg cs h
    simp only [cs] at this
    have e : cs ("0" : Str) = [48] := by decide +kernel
    simp only [cs] at e
    rw [e] at this
    simpa using this
  · intro h
    subst h
    exact str_ext (by decide +kernel)
theorem ok_is_n {tF : Tok} (F : FnP K "is_n" s_is_n f fd) (g_len : mg "len" = none) (g_all : mg "all" = none) (g_FIGURES : mg "FIGURES" = some (.str "0123456789" tF)) : FnG P w K mg base 2 f fd ["word"] (spP (spQ r_is_n)) := by
  refine fnP_ok F sc_is_n (spQ_len fun ds o ⟨_, e, _⟩ => by rw [e]; rfl) fun cdv A outer st H E G Y B => ?_
  have hr := B.room
  have nd := sc_is_n.nd
  refine ⟨_, (db_cons (ds_if (dt_w (dw_or (dt_not (t_le2 de_int (e_len g_len (da_cons (de_var 0) da_nil)) de_int)) (dw_or1 (dt_not (dt_val (e_all rfl g_all (da_cons (e_lc [("sign", 1)] 1 rfl nd (di_str (de_var 0)) (fun _ _ _ _ _ => dts_nil) (fun _ _ _ _ _ => (e_in hr (de_var 1) (e_gs g_FIGURES)))) da_nil))))))) (db_one (ds_ret de_bl)) db_nil)
    (db_one (ds_ret (de_or (e_eq hr (de_var 0) de_str) (de_one (e_ne hr (e_ix (de_var 0) de_int) de_str)))))), ?_⟩
  rintro ds Q ⟨_, ⟨w, rfl, hw, rfl⟩, q⟩
  apply sq_if
  · apply evt_or
    · repeat' walk_at "ev1"
    · intro _
      apply evt_not
      apply evt_b
      exact ev_allS (fun c => decide (c ∈ digs)) (ev_var rfl) (fun c => by
        repeat' walk_at "ev1") hw
  · intro hb
    have e : isN w = false := by
      unfold isN
      simp only [Bool.or_eq_true, Bool.not_eq_true', Bool.and_eq_false_iff, decide_eq_false_iff_not] at hb
      rcases hb with (hb | hb) | hb
      · rw [decide_eq_false (by omega), Bool.false_and]
      · rw [decide_eq_false (p := w.length ≤ 6) (by omega), Bool.false_and, Bool.and_false]
      · rw [hb, Bool.false_and, Bool.and_false, Bool.and_false]
    rw [e] at q
    exact st_ret ev_c q
  · intro hb
    simp only [Bool.or_eq_false_iff, Bool.not_eq_false', Bool.and_eq_true, decide_eq_true_eq] at hb
    obtain ⟨⟨h1, h2⟩, h3⟩ := hb
    cases hc : cs w with
    | nil =>
      have := cs_len w
      rw [hc] at this
      simp at this
      omega
    | cons c r =>
      have e : isN w = (decide (w = "0") || !decide ((⟨#[c]⟩ : Str) = "0")) := by
        unfold isN
        rw [decide_eq_true (p := 1 ≤ w.length) (by omega), decide_eq_true (p := w.length ≤ 6) (by omega), h3, hc]
        simp only [Bool.true_and, List.headD_cons, one_eq]
        congr 1
        exact decide_not
      rw [e] at q
      apply st_ret
      · apply ev_orv
        · repeat' walk_at "ev1"
        · intro _
          apply ev_bin
          · apply ev_bin
            · exact ev_var rfl
            · exact ev_c
            · rfl
            · rfl
            · exact ix_str0 hc hw
          · exact ev_c
          · rfl
          · rfl
          · rfl
      · exact q
end
end K89
set_option Elab.async false
set_option linter.all false
set_option maxRecDepth 100000
set_option maxHeartbeats 400000
namespace K89
open PySem PySem.Spec PyProof.Rows L2 DL
def isZ (w : Str) : Bool := isN w || (decide (cutS w none (some 1) = "-") && (!decide (w = "-0") && isN (cutS w (some 1) none)))
def r_is_z : List D → Out → Prop := fun ds o => ∃ w : Str, ds = [.str w] ∧ w.length ≤ sizeLine ∧ o = .inl (.val (.bl (isZ w)))
section
variable {P : Program} {w : World} {K : PySem.W.Frag} {mg : Str → Option Value} {base : Heap} {f : Addr} {fd : FuncData}
theorem sc_is_z : FnScope ["word"] ["word"] (defScope s_is_z) := ⟨rfl, rfl, rfl, by decide +kernel, rfl, by decide +kernel, by decide +kernel⟩
theorem ok_is_z (F : FnP K "is_z" s_is_z f fd) (c_is_n : Cal P w K mg base 2 "is_n" ["word"] (spP (spQ r_is_n))) : FnG P w K mg base 3 f fd ["word"] (spP (spQ r_is_z)) := by
  refine fnP_ok F sc_is_z (spQ_len fun ds o ⟨_, e, _⟩ => by rw [e]; rfl) fun cdv A outer st H E G Y B => ?_
  have hr := B.room
  have hgd := B.gd
  have nd := sc_is_z.nd
  refine ⟨_, (db_one (ds_ret (de_or (e_call c_is_n mono_Q takes_no hr hgd (da_cons (de_var 0) da_nil)) (de_one (de_and (e_eq hr (e_sl (de_var 0) do_none (do_some de_int)) de_str) (de_and (e_ne hr (de_var 0) de_str) (de_one (e_call c_is_n mono_Q takes_no hr hgd (da_cons (e_sl (de_var 0) (do_some de_int) do_none) da_nil))))))))), ?_⟩
  rintro ds Q ⟨_, ⟨w, rfl, hw, rfl⟩, q⟩
  apply st_ret
  · apply ev_orv
    · exact ev_callQ (eva_cons (ev_var rfl) eva_nil) rfl ⟨w, rfl, hw, rfl⟩
    · intro _
      apply ev_andv
      · repeat' walk_at "ev1"
      · intro _
        apply ev_andv
        · repeat' walk_at "ev1"
        · intro _
          refine ev_callQ (eva_cons (ev_sl (ev_var rfl) (evo_pt ev_c) evo_no rfl (if_pos hw)) eva_nil) rfl ⟨_, rfl, Nat.le_trans (cutS_length _ _ _) hw, rfl⟩
  · exact q
end
end K89
set_option Elab.async false
set_option linter.all false
set_option maxRecDepth 100000
set_option maxHeartbeats 400000
namespace K89
open PySem PySem.Spec PyProof.Rows L2 DL
/-! ### names -/
def lows : List Nat := cs ("abcdefghijklmnopqrstuvwxyz" : Str)
def isNm (w : Str) : Bool := decide (1 ≤ w.length) && (decide (w.length ≤ 12) && (decide ((cs w).headD 0 ∈ lows) && (cs w).all fun c => decide (c ∈ lows ++ digs)))
def lowS : Str := "abcdefghijklmnopqrstuvwxyz"
def sigS : Str := "abcdefghijklmnopqrstuvwxyz0123456789"
theorem sigS_eq : cs sigS = lows ++ digs := by decide +kernel
/-- is_name of anything that is shown -/
def isNmD : D → Bool
  | .str w => isNm w
  | _ => false
def okNm : D → Prop
  | .str w => w.length ≤ sizeLine
  | d => (tyN d).isSome = true
def r_is_name : List D → Out → Prop := fun ds o => ∃ w : Str, ds = [.str w] ∧ w.length ≤ sizeLine ∧ o = .inl (.val (.bl (isNm w)))
theorem kit_str : kitB "str" "str" = some true := by decide +kernel
theorem isi_str {w : Str} : fIsi "str" (.str w) = some (.val (.bl true)) := by
  show (kitB "str" "str").map (fun b => EV.val (.bl b)) = _
  rw [kit_str]
  rfl
theorem add_str {x y : Str} (h : x.length + y.length ≤ sizeLine) : fAdd (.str x) (.str y) = some (.val (.str (x ++ y))) := if_pos h
theorem all_filter {α : Type} (p : α → Bool) : ∀ l : List α, (l.filter fun c => !p c).isEmpty = l.all p
  | [] => rfl
  | x :: l => by
    cases h : p x with
    | true => simp [List.filter_cons, h, all_filter p l]
    | false => simp [List.filter_cons, h]
theorem isEmpty_map {α β : Type} (g : α → β) (l : List α) : (l.map g).isEmpty = l.isEmpty := by cases l <;> rfl
section
variable {P : Program} {w : World} {K : PySem.W.Frag} {mg : Str → Option Value} {base : Heap} {f : Addr} {fd : FuncData}
theorem sc_is_name : FnScope ["value", "sign"] ["value"] (defScope s_is_name) := ⟨rfl, rfl, rfl, by decide +kernel, rfl, by decide +kernel, by decide +kernel⟩
theorem ok_is_name {t1 t2 : Tok} (F : FnP K "is_name" s_is_name f fd) (g_len : mg "len" = none) (g_all : mg "all" = none) (g_str : mg "str" = none) (g_isinstance : mg "isinstance" = none) (g_SMALL : mg "SMALL" = some (.str lowS t1)) (g_SIGNS : mg "SIGNS" = some (.str sigS t2)) : FnG P w K mg base 2 f fd ["value"] (spP (spQ r_is_name)) := by
  refine fnP_ok F sc_is_name (spQ_len fun ds o ⟨_, e, _⟩ => by rw [e]; rfl) fun cdv A outer st H E G Y B => ?_
  have hr := B.room
  have nd := sc_is_name.nd
  refine ⟨_, (db_cons (ds_if (dt_w (dw_or (dt_not (dt_val (de_isi (T := "str") rfl g_isinstance rfl g_str (by decide +kernel) (de_var 0)))) (dw_or (dt_not (t_le2 de_int (e_len g_len (da_cons (de_var 0) da_nil)) de_int)) (dw_or1 (t_nin hr (e_ix (de_var 0) de_int) (e_gs g_SMALL)))))) (db_one (ds_ret de_bl)) db_nil)
    (db_one (ds_ret (e_all rfl g_all (da_cons (e_lc [("sign", 1)] 1 rfl nd (di_str (de_var 0)) (fun _ _ _ _ _ => dts_nil) (fun _ _ _ _ _ => (e_in hr (de_var 1) (e_gs g_SIGNS)))) da_nil))))), ?_⟩
  rintro ds Q ⟨_, ⟨w, rfl, hw, rfl⟩, q⟩
  have hlen := cs_len w
  apply sq_if
  · apply evt_or
    · apply evt_not
      apply evt_b
      apply ev_un
      · exact ev_var rfl
      · rfl
      · exact isi_str
    · intro _
      apply evt_or
      · repeat' walk_at "ev1"
      · intro hb
        cases hc : cs w with
        | nil =>
          rw [hc] at hlen
          simp at hlen
          simp [← hlen] at hb
        | cons c r =>
          apply evt_b
          apply ev_bin
          · apply ev_bin
            · exact ev_var rfl
            · exact ev_c
            · rfl
            · rfl
            · exact ix_str0 hc hw
          · exact ev_c
          · rfl
          · rfl
          · show _ = some (EV.val (D.bl (!decide ((cs w).headD 0 ∈ lows))))
            rw [hc]
            rfl
  · intro hb
    have e : isNm w = false := by
      unfold isNm
      simp only [Bool.or_eq_true, Bool.not_eq_true', Bool.and_eq_false_iff, decide_eq_false_iff_not] at hb
      rcases hb with hb | ((hb | hb) | hb)
      · cases hb
      · rw [decide_eq_false (by omega), Bool.false_and]
      · rw [decide_eq_false (p := w.length ≤ 12) (by omega), Bool.false_and, Bool.and_false]
      · rw [decide_eq_false hb, Bool.false_and, Bool.and_false, Bool.and_false]
    rw [e] at q
    exact st_ret ev_c q
  · intro hb
    simp only [Bool.or_eq_false_iff, Bool.not_eq_false', Bool.and_eq_true, decide_eq_true_eq] at hb
    have e : isNm w = (cs w).all fun c => decide (c ∈ cs sigS) := by
      unfold isNm
      rw [decide_eq_true (p := 1 ≤ w.length) (by omega), decide_eq_true (p := w.length ≤ 12) (by omega), decide_eq_true hb.2.2, sigS_eq]
      rfl
    rw [e] at q
    apply st_ret
    · exact ev_allS (fun c => decide (c ∈ cs sigS)) (ev_var rfl) (fun c => by
        repeat' walk_at "ev1") hw
    · exact q
end
theorem ones_lay : ∀ xs : List Nat, PyData.canLayAll0 (toPs (xs.map fun _ => D.int 1)) = true ∧ PyData.depthAll (toPs (xs.map fun _ => D.int 1)) = 0
  | [] => ⟨rfl, rfl⟩
  | x :: xs => by
    obtain ⟨h1, h2⟩ := ones_lay xs
    simp only [List.map_cons, toPs, toP, PyData.canLayAll0, PyData.canLay0, PyData.depthAll, PyData.depth]
    exact ⟨by rw [h1]; rfl, by rw [h2]; rfl⟩
theorem okE_ones (xs : List Nat) : okE (.lst (xs.map fun _ => D.int 1)) = true := by
  obtain ⟨h1, h2⟩ := ones_lay xs
  unfold okE SeqAt.shaped
  simp only [toP, PyData.canLay0, PyData.depth, h1, h2]
  rfl
section
variable {P : Program} {w : World} {K : PySem.W.Frag} {mg : Str → Option Value} {base : Heap} {f : Addr} {fd : FuncData}
/-! ### the law's own readings of words -/
theorem sc__law_is_n : FnScope ["word", "sign"] ["word"] (defScope s__law_is_n) := ⟨rfl, rfl, rfl, by decide +kernel, rfl, by decide +kernel, by decide +kernel⟩
theorem ok_law_is_n (F : FnP K "_law_is_n" s__law_is_n f fd) (g_len : mg "len" = none) : FnG P w K mg base 2 f fd ["word"] (spP (spQ r_is_n)) := by
  refine fnP_ok F sc__law_is_n (spQ_len fun ds o ⟨_, e, _⟩ => by rw [e]; rfl) fun cdv A outer st H E G Y B => ?_
  have hr := B.room
  have nd := sc__law_is_n.nd
  refine ⟨_, (db_cons (ds_if (dt_w (dw_or (t_lt (e_len g_len (da_cons (de_var 0) da_nil)) de_int) (dw_or (t_gt (e_len g_len (da_cons (de_var 0) da_nil)) de_int) (dw_or1 (t_ne hr (e_lc [("sign", 1)] 1 rfl nd (di_str (de_var 0)) (fun _ _ _ _ _ => (dts_one (t_nin hr (de_var 1) de_str))) (fun _ _ _ _ _ => de_int)) (de_lst da_nil)))))) (db_one (ds_ret de_bl)) db_nil)
    (db_one (ds_ret (de_or (e_eq hr (de_var 0) de_str) (de_one (e_ne hr (e_ix (de_var 0) de_int) de_str)))))), ?_⟩
  rintro ds Q ⟨_, ⟨w, rfl, hw, rfl⟩, q⟩
  have hlen := cs_len w
  apply sq_if
  · apply evt_or
    · repeat' walk_at "ev1"
    · intro _
      apply evt_or
      · repeat' walk_at "ev1"
      · intro hb
        apply evt_b
        apply ev_bin
        · exact ev_lcS (fun c => !decide (c ∈ cs ("0123456789" : Str))) (.int 1) (ev_var rfl) (fun c => by
            repeat' walk_at "ev1") (fun c => ev_c) hw
        · apply ev_lst
          · exact eva_nil
          · rfl
          · decide
        · rfl
        · rfl
        · exact ne_nilL (okE_ones _)
  · intro hb
    have e : isN w = false := by
      unfold isN
      simp only [Bool.or_eq_true, Bool.not_eq_true', decide_eq_true_eq] at hb
      rcases hb with hb | (hb | hb)
      · rw [decide_eq_false (by omega), Bool.false_and]
      · rw [decide_eq_false (p := w.length ≤ 6) (by omega), Bool.false_and, Bool.and_false]
      · rw [isEmpty_map, all_filter (fun c => decide (c ∈ cs ("0123456789" : Str))), digs_eq] at hb
        rw [hb, Bool.false_and, Bool.and_false, Bool.and_false]
    rw [e] at q
    exact st_ret ev_c q
  · intro hb
    rw [isEmpty_map, all_filter (fun c => decide (c ∈ cs ("0123456789" : Str))), digs_eq] at hb
    simp only [Bool.or_eq_false_iff, Bool.not_eq_false', decide_eq_false_iff_not] at hb
    obtain ⟨h1, h2, h3⟩ := hb
    cases hc : cs w with
    | nil =>
      rw [hc] at hlen
      simp at hlen
      omega
    | cons c r =>
      have e : isN w = (decide (w = "0") || !decide ((⟨#[c]⟩ : Str) = "0")) := by
        unfold isN
        rw [decide_eq_true (p := 1 ≤ w.length) (by omega), decide_eq_true (p := w.length ≤ 6) (by omega), h3, hc]
        simp only [Bool.true_and, List.headD_cons, one_eq]
        congr 1
        exact decide_not
      rw [e] at q
      apply st_ret
      · apply ev_orv
        · repeat' walk_at "ev1"
        · intro _
          apply ev_bin
          · apply ev_bin
            · exact ev_var rfl
            · exact ev_c
            · rfl
            · rfl
            · exact ix_str0 hc hw
          · exact ev_c
          · rfl
          · rfl
          · rfl
      · exact q
theorem sc__law_is_z : FnScope ["word"] ["word"] (defScope s__law_is_z) := ⟨rfl, rfl, rfl, by decide +kernel, rfl, by decide +kernel, by decide +kernel⟩
theorem ok_law_is_z (F : FnP K "_law_is_z" s__law_is_z f fd) (c__law_is_n : Cal P w K mg base 2 "_law_is_n" ["word"] (spP (spQ r_is_n))) : FnG P w K mg base 3 f fd ["word"] (spP (spQ r_is_z)) := by
  refine fnP_ok F sc__law_is_z (spQ_len fun ds o ⟨_, e, _⟩ => by rw [e]; rfl) fun cdv A outer st H E G Y B => ?_
  have hr := B.room
  have hgd := B.gd
  have nd := sc__law_is_z.nd
  refine ⟨_, (db_one (ds_ret (de_or (e_call c__law_is_n mono_Q takes_no hr hgd (da_cons (de_var 0) da_nil)) (de_one (de_and (e_eq hr (e_sl (de_var 0) do_none (do_some de_int)) de_str) (de_and (e_ne hr (de_var 0) de_str) (de_one (e_call c__law_is_n mono_Q takes_no hr hgd (da_cons (e_sl (de_var 0) (do_some de_int) do_none) da_nil))))))))), ?_⟩
  rintro ds Q ⟨_, ⟨w, rfl, hw, rfl⟩, q⟩
  apply st_ret
  · apply ev_orv
    · exact ev_callQ (eva_cons (ev_var rfl) eva_nil) rfl ⟨w, rfl, hw, rfl⟩
    · intro _
      apply ev_andv
      · repeat' walk_at "ev1"
      · intro _
        apply ev_andv
        · repeat' walk_at "ev1"
        · intro _
          refine ev_callQ (eva_cons (ev_sl (ev_var rfl) (evo_pt ev_c) evo_no rfl (if_pos hw)) eva_nil) rfl ⟨_, rfl, Nat.le_trans (cutS_length _ _ _) hw, rfl⟩
  · exact q
theorem sc__law_is_name : FnScope ["thing", "letters", "sign"] ["thing"] (defScope s__law_is_name) := ⟨rfl, rfl, rfl, by decide +kernel, rfl, by decide +kernel, by decide +kernel⟩
theorem ok_law_is_name (F : FnP K "_law_is_name" s__law_is_name f fd) (g_len : mg "len" = none) (g_str : mg "str" = none) (g_isinstance : mg "isinstance" = none) : FnG P w K mg base 2 f fd ["thing"] (spP (spQ r_is_name)) := by
  refine fnP_ok F sc__law_is_name (spQ_len fun ds o ⟨_, e, _⟩ => by rw [e]; rfl) fun cdv A outer st H E G Y B => ?_
  have hr := B.room
  have nd := sc__law_is_name.nd
  refine ⟨_, (db_cons (ds_if (dt_w (dw_or (dt_not (dt_val (de_isi (T := "str") rfl g_isinstance rfl g_str (by decide +kernel) (de_var 0)))) (dw_or (t_lt (e_len g_len (da_cons (de_var 0) da_nil)) de_int) (dw_or1 (t_gt (e_len g_len (da_cons (de_var 0) da_nil)) de_int))))) (db_one (ds_ret de_bl)) db_nil)
    (db_cons (ds_set 1 nd de_str)
    (db_one (ds_ret (de_and (e_in hr (e_ix (de_var 0) de_int) (de_var 1)) (de_one (e_eq hr (e_lc [("sign", 2)] 2 rfl nd (di_str (de_var 0)) (fun _ _ _ _ _ => (dts_one (t_nin hr (de_var 2) (e_add (de_var 1) de_str)))) (fun _ _ _ _ _ => de_int)) (de_lst da_nil)))))))), ?_⟩
  rintro ds Q ⟨_, ⟨w, rfl, hw, rfl⟩, q⟩
  have hlen := cs_len w
  apply sq_if
  · apply evt_or
    · apply evt_not
      apply evt_b
      apply ev_un
      · exact ev_var rfl
      · rfl
      · exact isi_str
    · intro _
      apply evt_or
      · repeat' walk_at "ev1"
      · intro _
        repeat' walk_at "ev1"
  · intro hb
    have e : isNm w = false := by
      unfold isNm
      simp only [Bool.or_eq_true, Bool.not_eq_true', decide_eq_true_eq] at hb
      rcases hb with hb | (hb | hb)
      · cases hb
      · rw [decide_eq_false (by omega), Bool.false_and]
      · rw [decide_eq_false (p := w.length ≤ 12) (by omega), Bool.false_and, Bool.and_false]
    rw [e] at q
    exact st_ret ev_c q
  · intro hb
    simp only [Bool.or_eq_false_iff, Bool.not_eq_false', decide_eq_false_iff_not] at hb
    refine sq_set (ev_c (d := .str lowS)) rfl rfl ?_
    cases hc : cs w with
    | nil =>
      rw [hc] at hlen
      simp at hlen
      omega
    | cons c r =>
      have e : isNm w = (decide (c ∈ cs lowS) && ((cs w).filter fun c => !decide (c ∈ cs sigS)).isEmpty) := by
        unfold isNm
        rw [decide_eq_true (p := 1 ≤ w.length) (by omega), decide_eq_true (p := w.length ≤ 12) (by omega), all_filter (fun c => decide (c ∈ cs sigS)), sigS_eq, hc]
        rfl
      rw [e] at q
      apply st_ret
      · apply ev_andv
        · apply ev_bin
          · apply ev_bin
            · exact ev_var rfl
            · exact ev_c
            · rfl
            · rfl
            · exact ix_str0 hc hw
          · exact ev_var rfl
          · rfl
          · rfl
          · rfl
        · intro _
          apply ev_bin
          · exact ev_lcS (fun c => !decide (c ∈ cs sigS)) (.int 1) (ev_var rfl) (fun c => by
              apply evt_b
              apply ev_bin
              · exact ev_var rfl
              · apply ev_bin
                · exact ev_var rfl
                · exact ev_c
                · rfl
                · rfl
                · exact add_str (by decide +kernel)
              · rfl
              · rfl
              · rw [show lowS ++ ("0123456789" : Str) = sigS by decide +kernel]
                rfl) (fun c => ev_c) hw
          · apply ev_lst
            · exact eva_nil
            · rfl
            · decide
          · rfl
          · rfl
          · rw [eq_nilL (okE_ones _), isEmpty_map]
      · exact q
end
end K89
set_option Elab.async false
set_option linter.all false
set_option maxRecDepth 100000
set_option maxHeartbeats 400000
namespace K89
open PySem PySem.Spec PyProof.Rows L2 DL
/-! ### a text cut at one sign -/
def cut (s : Nat) : List Nat → List Nat → List (List Nat)
  | acc, [] => [acc]
  | acc, c :: r => if c = s then acc :: cut s [] r else cut s (acc ++ [c]) r
theorem spl_cut (s : Nat) : ∀ (l acc : List Nat), TL.spl [s] 0 acc l = cut s acc l
  | [], acc => TL.spl_nil _ _ _
  | c :: r, acc => by
    unfold cut
    by_cases h : c = s
    · rw [if_pos h, TL.spl_hit (by subst h; simp [TL.pre])]
      show acc :: TL.spl [s] 0 [] r = _
      rw [spl_cut s r []]
    · rw [if_neg h, TL.spl_miss (by simp [TL.pre]; exact fun z => h z), spl_cut s r]
theorem cut_ne (s : Nat) : ∀ (l acc : List Nat), cut s acc l ≠ []
  | [], acc => by simp [cut]
  | c :: r, acc => by
    unfold cut
    split
    · simp
    · exact cut_ne s r _
theorem cut_len (s : Nat) : ∀ (l acc : List Nat), (∀ p ∈ cut s acc l, p.length ≤ acc.length + l.length) ∧ (cut s acc l).length ≤ l.length + 1
  | [], acc => by simp [cut]
  | c :: r, acc => by
    unfold cut
    split
    · obtain ⟨h1, h2⟩ := cut_len s r []
      refine ⟨fun p hp => ?_, by simp; omega⟩
      rcases List.mem_cons.mp hp with e | hp
      · rw [e]; simp
      · have := h1 p hp; simp at this ⊢; omega
    · obtain ⟨h1, h2⟩ := cut_len s r (acc ++ [c])
      refine ⟨fun p hp => ?_, by simp; omega⟩
      have := h1 p hp; simp at this ⊢; omega
def txt (l : List Nat) : Str := ⟨l.toArray⟩
theorem cs_txt (l : List Nat) : cs (txt l) = l := rfl
theorem txt_len (l : List Nat) : (txt l).length = l.length := by rw [← cs_len, cs_txt]
def wordsAt (s : Nat) (w : Str) : List Str := (cut s [] (cs w)).map txt
theorem split_words {s : Nat} (hs : s < 256) (w : Str) : Txt.split w ⟨#[s]⟩ = wordsAt s w := by
  refine TL.map_tl_inj ?_
  rw [TL.split_spl _ _ (by simp [TL.tl]) (TL.kind_ok (by simp [hs]))]
  show TL.spl [s] 0 [] (cs w) = _
  rw [spl_cut]
  unfold wordsAt
  rw [List.map_map]
  symm
  exact List.map_id _
theorem words_ne (s : Nat) (w : Str) : wordsAt s w ≠ [] := by
  unfold wordsAt
  simpa using cut_ne s _ _
theorem words_len {s : Nat} {w p : Str} (h : p ∈ wordsAt s w) : p.length ≤ w.length := by
  unfold wordsAt at h
  obtain ⟨l, hl, rfl⟩ := List.mem_map.mp h
  rw [txt_len]
  have := (cut_len s (cs w) []).1 l hl
  rw [cs_len] at this
  simpa using this
theorem words_many (s : Nat) (w : Str) : (wordsAt s w).length ≤ w.length + 1 := by
  unfold wordsAt
  rw [List.length_map, ← cs_len]
  exact (cut_len s _ _).2
/-- a list of texts -/
abbrev txs (ws : List Str) : List D := ws.map .str
theorem txs_mem {ws : List Str} {d : D} (h : d ∈ txs ws) : ∃ w, w ∈ ws ∧ d = .str w := by
  obtain ⟨w, hw, e⟩ := List.mem_map.mp h
  exact ⟨w, hw, e.symm⟩
/-- the text of a text -/
def wrd : D → Str
  | .str w => w
  | _ => ""
theorem txs_all (ws : List Str) (p : Str → Bool) : ((txs ws).all fun d => p (wrd d)) = ws.all p := by
  rw [List.all_map]; rfl
theorem txs_filter (ws : List Str) (p : Str → Bool) : ((txs ws).filter fun d => p (wrd d)) = txs (ws.filter p) := by
  rw [List.filter_map]; rfl
theorem ev_split {ma mb : DM} {S : DS} {w : Str} {s : Nat} (hs : s < 256) (h1 : Ev ma S (.val (.str w))) (h2 : Ev mb S (.val (.str ⟨#[s]⟩))) (hw : w.length + 2 ≤ sizeLine) : Ev (dStr fSplit ma mb) S (.own (.lst (txs (wordsAt s w)))) := by
  refine ev_str h1 h2 rfl ?_
  show (if ((⟨#[s]⟩ : Str).length == 0) = false ∧ w.length + 2 ≤ sizeLine then some (EV.own (.lst ((Txt.split w ⟨#[s]⟩).map .str))) else none) = _
  rw [if_pos ⟨rfl, hw⟩, split_words hs]
theorem slash : ("/" : Str) = ⟨#[47]⟩ := str_ext (by decide +kernel)
theorem space : (" " : Str) = ⟨#[32]⟩ := str_ext (by decide +kernel)
theorem len_lst {xs : List D} : one fLen [.lst xs] = some (.val (.int xs.length)) := rfl
theorem atI_nat {α : Type} {l : List α} {n : Nat} {x : α} (h : l[n]? = some x) : L2.atI l (n : Int) = some x := by
  have hn := (List.getElem?_eq_some_iff.mp h).1
  unfold L2.atI ixN
  rw [if_pos (by omega), if_pos (by omega)]
  exact h
theorem ix_lst {xs : List D} {n : Nat} {d : D} (h : xs[n]? = some d) : fIx (.lst xs) (.int (n : Int)) = some (.val d) := by
  show (L2.atI xs (n : Int)).map EV.val = _
  rw [atI_nat h]; rfl
def isV (w : Str) : Bool := let ps := wordsAt 47 w; !(decide (ps.length > 2) || !ps.all isN) && (decide (ps.length = 1) || !decide (ps[1]? = some ("0" : Str)))
def r_is_v : List D → Out → Prop := fun ds o => ∃ w : Str, ds = [.str w] ∧ w.length ≤ 100000 ∧ o = .inl (.val (.bl (isV w)))
theorem le_line {n : Nat} (h : n ≤ 100000) : n + 2 ≤ sizeLine := by rw [sizeLine_eq]; omega
section
variable {P : Program} {w : World} {K : PySem.W.Frag} {mg : Str → Option Value} {base : Heap} {f : Addr} {fd : FuncData}
theorem sc_is_v : FnScope ["word", "parts", "part"] ["word"] (defScope s_is_v) := ⟨rfl, rfl, rfl, by decide +kernel, rfl, by decide +kernel, by decide +kernel⟩
theorem ok_is_v (F : FnP K "is_v" s_is_v f fd) (g_len : mg "len" = none) (g_all : mg "all" = none) (c_is_n : Cal P w K mg base 2 "is_n" ["word"] (spP (spQ r_is_n))) : FnG P w K mg base 3 f fd ["word"] (spP (spQ r_is_v)) := by
  refine fnP_ok F sc_is_v (spQ_len fun ds o ⟨_, e, _⟩ => by rw [e]; rfl) fun cdv A outer st H E G Y B => ?_
  have hr := B.room
  have hgd := B.gd
  have nd := sc_is_v.nd
  refine ⟨_, (db_cons (ds_set 1 nd (de_split (de_var 0) de_str))
    (db_cons (ds_if (dt_w (dw_or (t_gt (e_len g_len (da_cons (de_var 1) da_nil)) de_int) (dw_or1 (dt_not (dt_val (e_all rfl g_all (da_cons (e_lc [("part", 2)] 2 rfl nd (di_list (de_var 1)) (fun _ _ _ _ _ => dts_nil) (fun _ _ _ _ _ => (e_call c_is_n mono_Q takes_no hr hgd (da_cons (de_var 2) da_nil)))) da_nil))))))) (db_one (ds_ret de_bl)) db_nil)
    (db_one (ds_ret (de_or (e_eq hr (e_len g_len (da_cons (de_var 1) da_nil)) de_int) (de_one (e_ne hr (e_ix (de_var 1) de_int) de_str))))))), ?_⟩
  rintro ds Q ⟨_, ⟨w, rfl, hw, rfl⟩, q⟩
  rw [slash]
  refine sq_set (ev_split (by decide) (ev_var rfl) ev_c (le_line hw)) rfl rfl ?_
  have hne := words_ne 47 w
  unfold isV at q
  have hlen : ∀ p ∈ wordsAt 47 w, p.length ≤ sizeLine := fun p hp => Nat.le_trans (words_len hp) (by have := le_line hw; omega)
  have hmany := words_many 47 w
  generalize wordsAt 47 w = ps at q hne hlen hmany ⊢
  replace q : Q (.val (.bl (!(decide (ps.length > 2) || !ps.all isN) && (decide (ps.length = 1) || !decide (ps[1]? = some ("0" : Str)))))) := q
  apply sq_if (b := decide ((2 : Int) < (txs ps).length) || !ps.all isN)
  · apply evt_or
    · repeat' walk_at "ev1"
    · intro _
      apply evt_not
      apply evt_b
      have := ev_allc (S := (startS ["word", "parts", "part"] [D.str w]).set 1 (some (SV.val (.lst (txs ps))))) (f := seqL) (i := 2) (vs := [2]) (ma := dVar 1) (m := dCall (spQ r_is_n) (fun _ _ => False) [] (dCons (dVar 2) dNil)) (ev_var rfl) rfl rfl rfl (fun _ => rfl) rfl (fun d => isN (wrd d)) (fun d hd => by
        obtain ⟨p, hp, rfl⟩ := txs_mem hd
        exact ev_callQ (eva_cons (ev_var rfl) eva_nil) rfl ⟨p, rfl, hlen p hp, rfl⟩) (by rw [List.length_map]; have := le_line hw; omega)
      rwa [txs_all] at this
  · intro hb
    simp only [List.length_map] at hb
    have e : (!(decide (ps.length > 2) || !ps.all isN) && (decide (ps.length = 1) || !decide (ps[1]? = some ("0" : Str)))) = false := by
      rw [show decide (ps.length > 2) = decide ((2 : Int) < ps.length) by congr 1; exact propext ⟨fun h => by omega, fun h => by omega⟩, hb]
      rfl
    rw [e] at q
    exact st_ret ev_c q
  · intro hb
    simp only [List.length_map] at hb
    rw [show decide (ps.length > 2) = decide ((2 : Int) < ps.length) by congr 1; exact propext ⟨fun h => by omega, fun h => by omega⟩, hb] at q
    simp only [Bool.not_false, Bool.true_and] at q
    have hl : ¬ (2 : Int) < ps.length := by
      simp only [Bool.or_eq_false_iff, decide_eq_false_iff_not] at hb
      exact hb.1
    match ps, hne, hl with
    | [a], _, _ =>
      apply st_ret
      · apply ev_orv (x := true) (y := true)
        · repeat' walk_at "ev1"
        · intro h; cases h
      · exact q
    | [a, b], _, _ =>
      apply st_ret
      · apply ev_orv (x := false) (y := !decide (b = "0"))
        · repeat' walk_at "ev1"
        · intro _
          repeat' walk_at "ev1"
      · show Q _
        simpa using q
    | a :: b :: c :: r, _, hl => exact absurd (by simp; omega) hl
end
end K89
set_option Elab.async false
set_option linter.all false
set_option maxRecDepth 100000
set_option maxHeartbeats 1000000
/-! Layer D: promises that leave a choice; loops with what holds at each turn. -/
namespace DL
open PySem PySem.Spec PyProof.Rows L2
def spN (pre : List D → Prop) (post : List D → Out → Prop) : Sp0 := fun ds Q Y => pre ds ∧ ∀ o, post ds o → match o with
  | .inl r => Q r
  | .inr x => Y x
theorem mono_N {pre : List D → Prop} {post : List D → Out → Prop} : MonoP (spN pre post) := fun ds Q Q' Y Y' h1 h2 ⟨p, q⟩ => ⟨p, fun o z => by
  have := q o z
  cases o with
  | inl r => exact h1 r this
  | inr x => exact h2 x this⟩
theorem spN_len {pre : List D → Prop} {post : List D → Out → Prop} {n : Nat} (h : ∀ ds, pre ds → ds.length = n) : ∀ ds Q Y, spN pre post ds Q Y → ds.length = n := fun ds Q Y ⟨p, _⟩ => h ds p
section
variable {ms : DAm} {S S2 : DS} {es : List EV} {ws : List D} {r : EV} {Q : EV → DS → Prop}
theorem dcall_N {pre : List D → Prop} {post : List D → Out → Prop} {Xd : DXm} (h1 : EvA ms S es) (e1 : asVals S es = some (ws, S2)) (h : pre ws) (q : ∀ o, post ws o → match o with
  | .inl r => Q r S2
  | .inr x => Xd x S2) : dCall (spN pre post) Xd [] ms S Q := h1.run _ ⟨ws, S2, e1, by rw [List.append_nil]; exact h, fun o z => by
    rw [List.append_nil] at z
    have := q o z
    cases o <;> exact this⟩
end
/-! ### loops -/
section
variable {gs : List (EV × D)} {g : DGm} {m : DSm} {E : DEnds}
/-- what holds at each turn: I by the items passed; a turn ends by I, or by a return, an exception -/
theorem turns_inv (hg : ∀ S, holds S gs) (I : List D → DS → Prop) {all : List D} (hend : ∀ S, I all S → E.nx S)
    (step : ∀ (done : List D) (d : D) (rest : List D) (S : DS) (N : DS → Prop), all = done ++ d :: rest → I done S → (∀ S', I (done ++ [d]) S' → N S') → g d S fun S1 => m { E with nx := N, ct := N, bk := E.nx } S1) :
    ∀ (rest done : List D) (S : DS), all = done ++ rest → I done S → dTurns gs g m E rest S
  | [], done, S, e, h => ⟨hg S, hend S (by rw [e, List.append_nil]; exact h)⟩
  | d :: rest, done, S, e, h => ⟨hg S, step done d rest S _ e h fun S' h' => turns_inv hg I hend step rest (done ++ [d]) S' (by rw [e, List.append_assoc]; rfl) h'⟩
theorem holds_one {c : D} {S : DS} : holds S [(.val c, c)] := fun g hg => by rw [List.mem_singleton.mp hg]; rfl
theorem holds_nil {S : DS} : holds S [] := fun g hg => by cases hg
end
end DL
set_option Elab.async false
set_option linter.all false
set_option maxRecDepth 100000
set_option maxHeartbeats 400000
namespace K89
open PySem PySem.Spec PyProof.Rows L2 DL
def fitB (w form : Str) : Bool := if form = "name" then isNm w else if form = "n" then isN w else isV w
def r_fits : List D → Out → Prop := fun ds o => ∃ w form : Str, ds = [.str w, .str form] ∧ w.length ≤ 100000 ∧ o = .inl (.val (.bl (fitB w form)))
section
variable {P : Program} {w : World} {K : PySem.W.Frag} {mg : Str → Option Value} {base : Heap} {f : Addr} {fd : FuncData}
theorem sc_fits : FnScope ["word", "form"] ["word", "form"] (defScope s_fits) := ⟨rfl, rfl, rfl, by decide +kernel, rfl, by decide +kernel, by decide +kernel⟩
theorem le1 {n : Nat} (h : n ≤ 100000) : n ≤ sizeLine := by have := le_line h; omega
theorem ok_fits (F : FnP K "fits" s_fits f fd) (c_is_n : Cal P w K mg base 2 "is_n" ["word"] (spP (spQ r_is_n))) (c_is_name : Cal P w K mg base 2 "is_name" ["value"] (spP (spQ r_is_name))) (c_is_v : Cal P w K mg base 3 "is_v" ["word"] (spP (spQ r_is_v))) : FnG P w K mg base 4 f fd ["word", "form"] (spP (spQ r_fits)) := by
  refine fnP_ok F sc_fits (spQ_len fun ds o ⟨_, _, e, _⟩ => by rw [e]; rfl) fun cdv A outer st H E G Y B => ?_
  have hr := B.room
  have hgd := B.gd
  have nd := sc_fits.nd
  refine ⟨_, (db_cons (ds_if (t_eq hr (de_var 1) de_str) (db_one (ds_ret (e_call c_is_name mono_Q takes_no hr hgd (da_cons (de_var 0) da_nil)))) db_nil)
    (db_one (ds_ret (de_if (t_eq hr (de_var 1) de_str) (e_call c_is_n mono_Q takes_no hr hgd (da_cons (de_var 0) da_nil)) (e_call c_is_v mono_Q takes_no hr hgd (da_cons (de_var 0) da_nil)))))), ?_⟩
  rintro ds Q ⟨_, ⟨w, form, rfl, hw, rfl⟩, q⟩
  have q : Q (.val (.bl (fitB w form))) := q
  unfold fitB at q
  apply sq_if
  · repeat' walk_at "ev1"
  · intro hb
    rw [if_pos (of_decide_eq_true hb)] at q
    apply st_ret
    · exact ev_callQ (eva_cons (ev_var rfl) eva_nil) rfl ⟨w, rfl, le1 hw, rfl⟩
    · exact q
  · intro hb
    rw [if_neg (of_decide_eq_false hb)] at q
    apply st_ret
    · apply ev_if (x := decide (form = "n")) (r := .val (.bl (if form = "n" then isN w else isV w)))
      · repeat' walk_at "ev1"
      · intro h
        rw [if_pos (of_decide_eq_true h)]
        exact ev_callQ (eva_cons (ev_var rfl) eva_nil) rfl ⟨w, rfl, le1 hw, rfl⟩
      · intro h
        rw [if_neg (of_decide_eq_false h)]
        exact ev_callQ (eva_cons (ev_var rfl) eva_nil) rfl ⟨w, rfl, hw, rfl⟩
    · exact q
end
/-! ### int of a word -/
theorem isN_digits {w : Str} (h : isN w = true) : NumText.AllDigits (cs w) ∧ cs w ≠ [] ∧ w.length ≤ 6 := by
  unfold isN at h
  simp only [Bool.and_eq_true, decide_eq_true_eq] at h
  obtain ⟨h1, h2, h3, _⟩ := h
  refine ⟨fun c hc => ?_, fun e => ?_, h2⟩
  · have := List.all_eq_true.mp h3 c hc
    simp only [digs, List.mem_cons, List.mem_nil_iff, or_false, decide_eq_true_eq] at this
    omega
  · have := cs_len w
    rw [e] at this
    simp at this
    omega
theorem int_isN {w : Str} (h : isN w = true) : ∃ n, fIntOf (.str w) = some (.val (.int n)) := by
  obtain ⟨h1, h2, h3⟩ := isN_digits h
  refine ⟨((NumText.digitsVal (cs w) : Nat) : Int), ?_⟩
  show (if w.length ≤ 640 then (PySem.intText? w).map fun n => EV.val (.int n) else none) = _
  rw [if_pos (by omega), PySem.intText_digits h1 h2 (by omega)]
  rfl
theorem cut_free {s : Nat} : ∀ (l acc : List Nat), s ∉ l → cut s acc l = [acc ++ l]
  | [], acc, _ => by simp [cut]
  | c :: r, acc, h => by
    simp only [List.mem_cons, not_or] at h
    unfold cut
    rw [if_neg (fun e => h.1 e.symm), cut_free r _ h.2]
    simp
theorem words_one {s : Nat} {w : Str} (h : s ∉ cs w) : wordsAt s w = [w] := by
  unfold wordsAt
  rw [cut_free _ _ h]
  show [txt (cs w)] = [w]
  congr 1
/-- int of a text as a tree -/
def intD (d : D) : D := match fIntOf d with
  | some (.val x) => x
  | _ => .non
theorem intD_of {w : Str} {n : Int} (h : fIntOf (.str w) = some (.val (.int n))) : intD (.str w) = .int n := by
  unfold intD
  rw [h]
def preLim : List D → Prop := fun ds => ∃ w form : Str, ds = [.str w, .str form] ∧ w.length ≤ 100000 ∧ (form = "name" ∨ (form = "n" ∧ isN w = true) ∨ (form = "v" ∧ isV w = true))
def anyVal : List D → Out → Prop := fun _ o => ∃ d, o = .inl (.val d)
section
variable {P : Program} {w : World} {K : PySem.W.Frag} {mg : Str → Option Value} {base : Heap} {f : Addr} {fd : FuncData}
theorem sc_limit_of : FnScope ["word", "form", "parts", "part"] ["word", "form"] (defScope s_limit_of) := ⟨rfl, rfl, rfl, by decide +kernel, rfl, by decide +kernel, by decide +kernel⟩
theorem ok_limit_of (F : FnP K "limit_of" s_limit_of f fd) (g_int : mg "int" = none) (g_len : mg "len" = none) : FnG P w K mg base 2 f fd ["word", "form"] (spP (spN preLim anyVal)) := by
  refine fnP_ok F sc_limit_of (spN_len fun ds ⟨_, _, e, _⟩ => by rw [e]; rfl) fun cdv A outer st H E G Y B => ?_
  have hr := B.room
  have nd := sc_limit_of.nd
  refine ⟨_, (db_cons (ds_if (t_eq hr (de_var 1) de_str) (db_one (ds_ret de_non)) db_nil)
    (db_cons (s_lc false [("part", 3)] 3 2 rfl nd (di_list (de_split (de_var 0) de_str)) (fun _ _ _ _ _ => dts_nil) (fun _ _ _ _ _ => (e_int g_int (da_cons (de_var 3) da_nil))))
    (db_cons (ds_if (t_eq hr (de_var 1) de_str) (db_one (ds_ret (e_ix (de_var 2) de_int))) db_nil)
    (db_one (ds_ret (de_tup (da_cons (e_ix (de_var 2) de_int) (da_cons (de_if (t_gt (e_len g_len (da_cons (de_var 2) da_nil)) de_int) (e_ix (de_var 2) de_int) de_int) da_nil)))))))), ?_⟩
  rintro ds Q ⟨⟨w, form, rfl, hw, hf⟩, q⟩
  have q : ∀ d, Q (.val d) := fun d => q _ ⟨d, rfl⟩
  apply sq_if
  · repeat' walk_at "ev1"
  · intro hb
    exact st_ret ev_c (q _)
  · intro hb
    have hn : form ≠ "name" := of_decide_eq_false hb
    have hps : wordsAt 47 w ≠ [] ∧ (wordsAt 47 w).length ≤ 100000 ∧ ∀ p ∈ wordsAt 47 w, isN p = true := by
      refine ⟨words_ne _ _, ?_, ?_⟩
      · rcases hf with h | ⟨_, h⟩ | ⟨_, h⟩
        · exact absurd h hn
        · rw [words_one (fun hm => by have := (isN_digits h).1 47 hm; omega)]; simp
        · unfold isV at h
          simp only [Bool.and_eq_true, Bool.not_eq_true', Bool.or_eq_false_iff, decide_eq_false_iff_not] at h
          omega
      · rcases hf with h | ⟨_, h⟩ | ⟨_, h⟩
        · exact absurd h hn
        · rw [words_one (fun hm => by have := (isN_digits h).1 47 hm; omega)]
          intro p hp
          rw [List.mem_singleton.mp hp]; exact h
        · unfold isV at h
          simp only [Bool.and_eq_true, Bool.not_eq_true', Bool.or_eq_false_iff, Bool.not_eq_false'] at h
          exact List.all_eq_true.mp h.1.2
    have hmany := hps.2.1
    rw [slash]
    refine sq_lc (ev_lcE (ev_split (by decide) (ev_var rfl) ev_c (le_line hw)) rfl rfl rfl (fun _ => rfl) rfl intD (fun d hd => ?_) (by rw [List.length_map]; exact le1 hmany)) rfl rfl ?_
    · obtain ⟨p, hp, rfl⟩ := txs_mem hd
      obtain ⟨n, hn⟩ := int_isN (hps.2.2 p hp)
      rw [intD_of hn]
      exact ev_ls (eva_cons (ev_var rfl) eva_nil) rfl hn
    · obtain ⟨hne, -, hall⟩ := hps
      generalize wordsAt 47 w = ps at hne hall hmany ⊢
      match ps, hne with
      | [a], _ =>
        apply sq_if
        · repeat' walk_at "ev1"
        · intro _
          apply st_ret
          · repeat' walk_at "ev1"
          · exact q _
        · intro _
          apply st_ret
          · apply ev_tup
            · apply eva_cons
              · repeat' walk_at "ev1"
              · apply eva_cons
                · apply ev_if (x := false) (r := .val (.int 1))
                  · repeat' walk_at "ev1"
                  · intro h; cases h
                  · intro _; exact ev_c
                · exact eva_nil
            · rfl
            · show 2 ≤ sizeLine; decide
          · exact q _
      | a :: b :: r, _ =>
        apply sq_if
        · repeat' walk_at "ev1"
        · intro _
          apply st_ret
          · apply ev_bin
            · exact ev_var rfl
            · exact ev_c
            · rfl
            · rfl
            · exact ix_lst (n := 0) (d := intD (.str a)) rfl
          · exact q _
        · intro _
          apply st_ret
          · apply ev_tup
            · apply eva_cons
              · apply ev_bin
                · exact ev_var rfl
                · exact ev_c
                · rfl
                · rfl
                · exact ix_lst (n := 0) (d := intD (.str a)) rfl
              · apply eva_cons
                · apply ev_if (x := true) (r := .val (intD (.str b)))
                  · apply evt_b
                    apply ev_bin
                    · repeat' walk_at "ev1"
                    · exact ev_c
                    · rfl
                    · rfl
                    · show some (EV.val (D.bl (decide ((1 : Int) < _)))) = _
                      rw [decide_eq_true (by simp; omega)]
                  · intro _
                    apply ev_bin
                    · exact ev_var rfl
                    · exact ev_c
                    · rfl
                    · rfl
                    · exact ix_lst (n := 1) (d := intD (.str b)) rfl
                  · intro h; cases h
                · exact eva_nil
            · rfl
            · show 2 ≤ sizeLine; decide
          · exact q _
end
end K89
set_option Elab.async false
set_option linter.all false
set_option maxRecDepth 100000
set_option maxHeartbeats 1000000
/-! Layer D: enumerate, over a list, a tuple, a written tuple. -/
namespace DLE
open PySem
open Sem (wp)
theorem meets_enum1 {v : Value} {o : Obj} {H : Heap → Prop} (B : Begins v o H) :
    Meets (Builtin.«enumerate.__new__» ⟨[.type "enumerate", v], []⟩) (fun _ R s => H s.heap ∧ R (.ok (.ret (.ref (s.heap.push o).objs.size))) { s with heap := (s.heap.push o).push { cls := .type "enumerate", data := .fields #[.none, .bool false, .ref s.heap.objs.size, rawInt 0, .none, .none] } }) :=
  .of_wp fun prog w A R s h => by
    obtain ⟨hp, g, d, tk, os⟩ := s
    obtain ⟨h1, h2⟩ := h
    have hsub := sub_enumerate
    have q1 : ∀ {A' : Around} {E : Value → Shared → Prop} {Q : Value → Shared → Prop}, Q (.ref hp.objs.size) ⟨hp.push o, g, d, tk, os⟩ → wpAny (model prog w) A' (pyIter v) Q E ⟨hp, g, d, tk, os⟩ := fun z => B.iter prog w _ _ ⟨hp, g, d, tk, os⟩ _ h1 z
    wp_walk using q1
    refine wpAny_stack_any fun st => wpAny_pure ?_
    split
    · rename_i c _ _ _ _ _
      cases (c == Value.type "enumerate") <;> (wp_walk using q1; exact ⟨_, rfl, h2⟩)
    · wp_walk using q1
      exact ⟨_, rfl, h2⟩
section
variable {prog : Program} {w : World} {A : Around} {E : Value → Shared → Prop} {s : Shared}
theorem enum_made {v : Value} {o : Obj} {H : Heap → Prop} {Q : Value → Shared → Prop} (B : Begins v o H) (h1 : H s.heap)
    (h : ∀ h', IsEnum h' (s.heap.objs.size + 1) s.heap.objs.size 0 .none → h'.get? s.heap.objs.size = some o → h'.objs.size = s.heap.objs.size + 2 → (∀ b u, s.heap.get? b = some u → h'.get? b = some u) → Q (.ref (s.heap.objs.size + 1)) { s with heap := h' }) :
    wpAny (model prog w) A (call (.type "enumerate") [v]) Q E s := by
  refine callType_new F.called_enumerate (by decide) (F.typeCall_enumerate_1 _) (F.newCall_enumerate_1 _) (fun obj => F.args_object_init_2 obj _) F.entry_enumerate_new (meets_enum1 B) ⟨h1, ?_⟩
  have hz : (s.heap.push o).objs.size = s.heap.objs.size + 1 := Heap.size_push ..
  show _ ∧ _
  rw [hz]
  have he : IsEnum ((s.heap.push o).push { cls := .type "enumerate", data := .fields #[.none, .bool false, .ref s.heap.objs.size, rawInt 0, .none, .none] }) (s.heap.objs.size + 1) s.heap.objs.size 0 .none := by
    have z := Heap.get?_push_size (s.heap.push o) (o := { cls := .type "enumerate", data := .fields #[.none, .bool false, .ref s.heap.objs.size, rawInt 0, .none, .none] }) rfl
    rw [hz] at z
    exact z
  exact ⟨⟨_, he, rfl⟩, h _ he (Heap.get?_push_of_some _ (Heap.get?_push_size _ B.free)) (by rw [Heap.size_push, hz]) fun b u z => Heap.get?_push_of_some _ (Heap.get?_push_of_some _ z)⟩
end
end DLE
namespace DL
open PySem PySem.Spec PyProof.Rows L2
/-- the tuple at a, each item in a new pair with its place -/
def Itu (K : PySem.W.Frag) (a : Addr) : It :=
  ⟨fun i H => ∃ (xs : List V) (x : V), SqT K H a xs ∧ xs[i]? = some x, fun i H v H' => ∃ T x, v = .ref T ∧ H T = none ∧ H' = upd H T (.tup [.int (i : Nat), x]) ∧ ∀ xs, SqT K H a xs → xs[i]? = some x, fun i H => ∃ xs : List V, SqT K H a xs ∧ xs.length = i⟩
theorem turn_enumT {P : Program} {w : World} {K : PySem.W.Frag} {elts : List Expr} {kk : Nat} {tpos : Pos} (a e it : Addr) (hai : a ≠ it) (hae : a ≠ e) :
    Turn P w K (.Tuple elts kk tpos) (Itu K a) [e, it] e (fun i h => (∃ old, IsEnum h e it ((i : Nat) : Int) old) ∧ h.IsTupleIter it a i ∧ e ≠ it) where
  mem := List.mem_cons_self
  obj := fun i h st b hb => by
    obtain ⟨⟨old, he⟩, ⟨o, ho, hc, hd⟩, _⟩ := st
    rcases List.mem_cons.mp hb with z | hb
    · subst z; exact ⟨_, he, fun v q => nomatch q⟩
    · rw [List.mem_singleton.mp hb]; exact ⟨o, ho, fun v q => by rw [hd] at q; cases q⟩
  keep := fun i h h' st k => by
    obtain ⟨⟨old, he⟩, hi, hne⟩ := st
    exact ⟨⟨old, k e List.mem_cons_self _ he⟩, hi.at fun o q => k it (List.mem_cons_of_mem _ List.mem_cons_self) o q, hne⟩
  item := by
    intro X hP hw hK hc i pins s σ H E I hf st hg
    subst hP hw hK
    obtain ⟨⟨old, he⟩, hit, hne⟩ := st
    obtain ⟨xs, x, hq, hx⟩ := hg
    obtain ⟨its, rv, p, hz⟩ := I.tuple hq
    obtain ⟨u, hu, ru⟩ := rv.get hx
    have hlt : i < its.toArray.size := by rw [List.size_toArray]; exact (List.getElem?_eq_some_iff.mp hu).1
    have Dr := Draws.tuple (prog := X.prog) (w := X.w) (A := X.A.in1) (I.ok.hd hc) it a hai its.toArray
    have hel : e < s.heap.objs.size := Heap.lt_size he
    have hil : it < s.heap.objs.size := by obtain ⟨_, q, _⟩ := hit; exact Heap.lt_size q
    have hef : e ∉ [it, a] := fun z => (List.mem_cons.mp z).elim hne fun z => hae (List.mem_singleton.mp z).symm
    refine wpAny_pyNext_enum_itemD Dr he ⟨hit, p⟩ hlt hne hef fun x' h' tk hPx ho hst' hT hsz hk => ?_
    have ex : x' = u := by
      have : its.toArray[i]? = some x' := hPx
      rw [List.getElem?_toArray, hu] at this
      exact (Option.some.inj this).symm
    subst ex
    refine ⟨_, rfl, wpAny_letOwnedTupleGo_enum (s := { s with heap := h', toks := tk + 1 }) ho fun h'' he' sb => ?_⟩
    have hT2 : h''.get? s.heap.objs.size = some { cls := .type "tuple", data := .seq #[.int i tk, x'] } := (sb.2 _ (Nat.ne_of_gt hel)).trans hT
    have new : ObjOk X.prog X.w (upd H s.heap.objs.size (.tup [.int (i : Nat), x])) h'' s.heap.objs.size (.tup [.int (i : Nat), x]) :=
      ⟨show 2 ≤ sizeLine by decide, [.int i tk, x'], .cons ⟨_, rfl⟩ (.cons ru .nil), ⟨_, hT2, rfl, _, rfl⟩⟩
    have I1 : Inv X pins σ (upd H s.heap.objs.size (.tup [.int (i : Nat), x])) { s with heap := h'', toks := tk + 1 } :=
      I.turnedNew (ch := [e, it]) (fun b ob hb q => (sb.2 b (fun z => hb (by simp [z]))).trans (hk b ob (fun z => hb (by simp [z])) (fun z => hb (by simp [z])) q)) hf (Nat.le_refl _) new
    refine ⟨.ref s.heap.objs.size, _, I1, rfl, ⟨_, x, rfl, I.hok.fresh (Nat.le_refl _), rfl, fun ys hy => ?_⟩, ⟨⟨x', ?_⟩, hst'.1.at fun o q => (sb.2 it (Ne.symm hne)).trans q, hne⟩, fun b hb => ?_⟩
    · rw [I.tuple_inj hy hq]; exact hx
    · rw [show ((i + 1 : Nat) : Int) = (i : Int) + 1 by omega]; exact he'
    · have hb' : b < s.heap.objs.size := by
        rcases List.mem_cons.mp hb with z | hb
        · rw [z]; exact hel
        · rw [List.mem_singleton.mp hb]; exact hil
      rw [upd_ne (Nat.ne_of_lt hb')]
      exact (hf b hb).1
  done := by
    intro X hP hw hK hc i pins s σ H E I hf st hg
    subst hP hw hK
    obtain ⟨⟨old, he⟩, hit, hne⟩ := st
    obtain ⟨xs, hq, hx⟩ := hg
    obtain ⟨its, rv, p, hz⟩ := I.tuple hq
    obtain ⟨f0, f1, f2, f3, f4, f5⟩ := hf it (List.mem_cons_of_mem _ List.mem_cons_self)
    have Dr := Draws.tuple (prog := X.prog) (w := X.w) (A := X.A.in1) (I.ok.hd hc) it a hai its.toArray
    have hn : its.toArray.size = i := by rw [List.size_toArray, ← rv.length]; exact hx
    exact wpAny_pyNext_enum_endD (i := (i : Nat)) Dr he (by rw [hn]; exact ⟨hit, p⟩) fun h' eb => ⟨rfl, I.turned (t' := s.toks) (fun b o hb q => eb b o hb q) f0 f1 f3 f4 f5⟩
  self := fun A i s Q E st h => let ⟨⟨_, he⟩, _⟩ := st; wpAny_pyIter_enum he h
def iEnumT (K : PySem.W.Frag) (ta : TA) : TI := fun σ H R => ta σ H fun vs H1 => ∃ a xs, vs = [.ref a] ∧ SqT K H1 a xs ∧ R (Itu K a) H1
theorem pi_enumT {X : Cx} {e : Expr} {ta : TA} {p pos tpos : Pos} {elts : List Expr} {kk : Nat} (hg : Gl X "enumerate") (hm : X.mg "enumerate" = none) (ha : PA X [e] ta) (hs : starEach [e] X.env = [(false, eval e X.env)] := by rfl) :
    PI X (.Tuple elts kk tpos) (.Call (.Name "enumerate" p) [e] [] pos) (iEnumT X.K ta) := by
  refine ⟨fun pins s σ H R I h => ?_⟩
  refine Call_ (ld_blt I hg hm boot_enumerate (PyProof.Rows.callWith_type1 (thn (ha.run pos pins s σ H _ I h) fun us s1 ⟨vs, H1, I1, r1, q1⟩ => ?_) hs rfl))
  obtain ⟨a, xs, ex, hq, q⟩ := q1
  subst ex
  obtain rfl := Vals.ref1 r1
  obtain ⟨its, rv, pt, hz⟩ := I1.tuple hq
  have hal : a < s1.heap.objs.size := by obtain ⟨_, z, _⟩ := pt; exact Heap.lt_size z
  refine DLE.enum_made (begins_tuple a its.toArray) pt fun h' he hi hsz hk => wpAny_pyIter_enum he ?_
  have I2 : Inv X pins σ H1 { s1 with heap := h' } := I1.kept (t' := s1.toks) hk
  refine ⟨s1.heap.objs.size + 1, [s1.heap.objs.size + 1, s1.heap.objs.size], _, _, H1, rfl, I2, turn_enumT a (s1.heap.objs.size + 1) s1.heap.objs.size (Nat.ne_of_lt hal) (Nat.ne_of_lt (Nat.lt_succ_of_lt hal)), ⟨⟨.none, he⟩, ⟨_, hi, rfl, rfl⟩, Nat.succ_ne_self _⟩, fun b hb => ?_, q⟩
  have hle : s1.heap.objs.size ≤ b := by
    rcases List.mem_cons.mp hb with z | hb
    · rw [z]; exact Nat.le_add_right _ _
    · rw [List.mem_singleton.mp hb]; exact Nat.le_refl _
  exact I1.fpOk hle (I1.hok.fresh hle)
/-! ### in the layer -/
section
variable {X : Cx} {G : Gb} {e : Expr} {ms : DAm} {p pos tpos : Pos} {elts : List Expr} {kk : Nat}
def pairs : Nat → List D → List D
  | _, [] => []
  | k, d :: ds => .tup [.int (k : Nat), d] :: pairs (k + 1) ds
theorem pairs_get : ∀ {ds : List D} {k i : Nat} {d : D}, ds[i]? = some d → (pairs k ds)[i]? = some (.tup [.int ((k + i : Nat)), d])
  | [], _, _, _, h => by simp at h
  | x :: ds, k, 0, d, h => by simp at h; subst h; rfl
  | x :: ds, k, i + 1, d, h => by
    show (pairs (k + 1) ds)[i]? = _
    rw [pairs_get (by simpa using h), show k + 1 + i = k + (i + 1) by omega]
theorem pairs_len : ∀ {ds : List D} {k : Nat}, (pairs k ds).length = ds.length
  | [], _ => rfl
  | _ :: ds, k => by simp [pairs, pairs_len]
/-- what is gone through, as one value -/
def dEnum (f : D → Option (List D)) (ms : DAm) : DIm := fun S Q => ms S fun evs S1 => ∃ ev c S2 xs, evs = [ev] ∧ asVal S1 ev = some (c, S2) ∧ f c = some xs ∧ Q ⟨[(.val c, c)], pairs 0 xs⟩ S2
theorem mono_enum {f : D → Option (List D)} (h : MonoA ms) : ∀ S P P', (∀ it S', P it S' → P' it S') → dEnum f ms S P → dEnum f ms S P' := fun S P P' k q => h _ _ _ (fun evs S1 ⟨ev, c, S2, xs, e0, e1, e2, p⟩ => ⟨ev, c, S2, xs, e0, e1, e2, k _ _ p⟩) q
theorem rep_pair {Z : Addr → Prop} {H : Hp} {T : Addr} {i : Int} {x : V} {d : D} (n : H T = none) (r : Rep Z H d x) : Rep Z (upd H T (.tup [.int i, x])) (.tup [.int i, d]) (.ref T) := by
  simp only [Rep]
  exact ⟨T, _, rfl, .inl upd_same, .cons rep_int (.cons (r.grow (same_upd n) fun _ _ z => z) .nil)⟩
theorem walkEL {K : PySem.W.Frag} {a : Addr} {c : D} {xs : List D} (e : seqL c = some xs) : WalkD (Ite K a) [.ref a] ⟨[(.val c, c)], pairs 0 xs⟩ := by
  have hl : (⟨[(.val c, c)], pairs 0 xs⟩ : IT).items.length = xs.length := pairs_len
  refine ⟨⟨fun i H hi g => ?_, fun H g => ?_, fun i H x H' hi g y Z t => ?_⟩⟩
  · obtain ⟨Z, t⟩ := g
    obtain ⟨v, ev, t⟩ := tops1 t
    cases ev
    obtain ⟨a', vs, ea, r, q⟩ := top_lst (K := K) t e
    cases ea
    rw [hl] at hi
    exact ⟨vs, vs[i]'(by rw [← q.length]; exact hi), r, by simp⟩
  · obtain ⟨Z, t⟩ := g
    obtain ⟨v, ev, t⟩ := tops1 t
    cases ev
    obtain ⟨a', vs, ea, r, q⟩ := top_lst (K := K) t e
    cases ea
    exact ⟨vs, r, by rw [hl]; exact Nat.le_of_eq q.length.symm⟩
  · obtain ⟨v, ev, t⟩ := tops1 t
    cases ev
    obtain ⟨a', vs, ea, r, q⟩ := top_lst (K := K) t e
    cases ea
    obtain ⟨T, x', ev, n, e', y⟩ := y
    subst ev e'
    obtain ⟨d, hd, rd⟩ := q.get' (y vs r)
    exact ⟨_, pairs_get hd, same_upd n, by rw [Nat.zero_add]; exact rep_pair n rd⟩
theorem walkET {K : PySem.W.Frag} {a : Addr} {c : D} {xs : List D} (e : seqT c = some xs) : WalkD (Itu K a) [.ref a] ⟨[(.val c, c)], pairs 0 xs⟩ := by
  have hl : (⟨[(.val c, c)], pairs 0 xs⟩ : IT).items.length = xs.length := pairs_len
  refine ⟨⟨fun i H hi g => ?_, fun H g => ?_, fun i H x H' hi g y Z t => ?_⟩⟩
  · obtain ⟨Z, t⟩ := g
    obtain ⟨v, ev, t⟩ := tops1 t
    cases ev
    obtain ⟨a', vs, ea, r, q⟩ := top_tp (K := K) t e
    cases ea
    rw [hl] at hi
    exact ⟨vs, vs[i]'(by rw [← q.length]; exact hi), r, by simp⟩
  · obtain ⟨Z, t⟩ := g
    obtain ⟨v, ev, t⟩ := tops1 t
    cases ev
    obtain ⟨a', vs, ea, r, q⟩ := top_tp (K := K) t e
    cases ea
    exact ⟨vs, r, by rw [hl]; exact q.length.symm⟩
  · obtain ⟨v, ev, t⟩ := tops1 t
    cases ev
    obtain ⟨a', vs, ea, r, q⟩ := top_tp (K := K) t e
    cases ea
    obtain ⟨T, x', ev, n, e', y⟩ := y
    subst ev e'
    obtain ⟨d, hd, rd⟩ := q.get' (y vs r)
    exact ⟨_, pairs_get hd, same_upd n, by rw [Nat.zero_add]; exact rep_pair n rd⟩
theorem enum_at {F : Fr} {H1 : Hp} {σ : L2.St} {S1 S2 : DS} {xs : List (V × EV)} {ev : EV} {c : D} (hx : xs.map (·.2) = [ev]) (R1 : Rel (F.pushs (xs.map sval)) H1 σ S1) (a1 : ∀ x ∈ xs, EvAt σ x.2 x.1) (e1 : asVal S1 ev = some (c, S2)) :
    ∃ v, xs.map (·.1) = [v] ∧ Rel (F.push (v, .val c)) H1 σ S2 := by
  match xs, hx with
  | [(v, f1)], hx =>
    simp only [List.map_cons, List.map_nil, List.cons.injEq, and_true] at hx
    subst hx
    refine ⟨v, rfl, Rel.asVal (ev := f1) ?_ (a1 (v, f1) (by simp)) e1⟩
    simpa [Fr.push, Fr.pushs, sval] using R1
theorem di_enum_list (hg : Gl X "enumerate") (hm : X.mg "enumerate" = none) (ha : DA X G [e] ms) (hs : starEach [e] X.env = [(false, eval e X.env)] := by rfl) : DI X G (.Tuple elts kk tpos) (.Call (.Name "enumerate" p) [e] [] pos) (dEnum seqL ms) := by
  refine ⟨⟨fun pins s σ H R I q => (pi_enum hg hm ha.run hs).run pins s σ H R I ?_⟩, mono_enum ha.mono⟩
  obtain ⟨F, S, hG, R, q⟩ := q
  refine ⟨F, S, hG, R, ha.mono _ _ _ (fun evs S1 ⟨ev, c, S2, xs, e0, e1, e2, p⟩ xs' H1 hx R1 a1 => ?_) q⟩
  subst e0
  obtain ⟨v, ev', R2⟩ := enum_at hx R1 a1 e1
  obtain ⟨a, vs, ea, r, _⟩ := top_lst (K := X.K) (one_tops R2) e2
  subst ea
  exact ⟨a, vs, ev', r, p [(.ref a, .val c)] H1 _ rfl (push1 R2) (by simp [EvAt]) (walkEL e2)⟩
theorem di_enum_tup (hg : Gl X "enumerate") (hm : X.mg "enumerate" = none) (ha : DA X G [e] ms) (hs : starEach [e] X.env = [(false, eval e X.env)] := by rfl) : DI X G (.Tuple elts kk tpos) (.Call (.Name "enumerate" p) [e] [] pos) (dEnum seqT ms) := by
  refine ⟨⟨fun pins s σ H R I q => (pi_enumT hg hm ha.run hs).run pins s σ H R I ?_⟩, mono_enum ha.mono⟩
  obtain ⟨F, S, hG, R, q⟩ := q
  refine ⟨F, S, hG, R, ha.mono _ _ _ (fun evs S1 ⟨ev, c, S2, xs, e0, e1, e2, p⟩ xs' H1 hx R1 a1 => ?_) q⟩
  subst e0
  obtain ⟨v, ev', R2⟩ := enum_at hx R1 a1 e1
  obtain ⟨a, vs, ea, r, _⟩ := top_tp (K := X.K) (one_tops R2) e2
  subst ea
  exact ⟨a, vs, ev', r, p [(.ref a, .val c)] H1 _ rfl (push1 R2) (by simp [EvAt]) (walkET e2)⟩
end
end DL
set_option Elab.async false
set_option linter.all false
set_option maxRecDepth 100000
set_option maxHeartbeats 400000
namespace K89
open PySem PySem.Spec PyProof.Rows L2 DL
/-! ### lists of texts, shown -/
theorem txs_lay : ∀ {ws : List Str}, (∀ w ∈ ws, PyData.strOk w = true) → PyData.canLayAll0 (toPs (txs ws)) = true ∧ PyData.depthAll (toPs (txs ws)) = 0
  | [], _ => ⟨rfl, rfl⟩
  | x :: xs, h => by
    obtain ⟨h1, h2⟩ := txs_lay (ws := xs) fun w hw => h w (List.mem_cons_of_mem _ hw)
    simp only [List.map_cons, toPs, toP, PyData.canLayAll0, PyData.canLay0, PyData.depthAll, PyData.depth]
    exact ⟨by rw [h1, h x List.mem_cons_self]; rfl, by rw [h2]; rfl⟩
theorem okE_txs {ws : List Str} (h : ∀ w ∈ ws, PyData.strOk w = true) : okE (.lst (txs ws)) = true := by
  obtain ⟨h1, h2⟩ := txs_lay h
  unfold okE SeqAt.shaped
  simp only [toP, PyData.canLay0, PyData.depth, h1, h2]
  rfl
theorem str_beq (x y : Str) : (x == y) = decide (x = y) := by
  by_cases h : x = y
  · subst h; simp
  · rw [decide_eq_false h]; exact beq_eq_false_iff_ne.mpr h
theorem eqvAll_txs : ∀ {ws vs : List Str}, PyData.eqvAll (toPs (txs ws)) (toPs (txs vs)) = decide (ws = vs)
  | [], [] => rfl
  | [], _ :: _ => rfl
  | _ :: _, [] => rfl
  | x :: xs, y :: ys => by
    simp only [List.map_cons, toPs, toP, PyData.eqvAll, PyData.eqv, eqvAll_txs (ws := xs) (vs := ys), str_beq]
    by_cases h : x = y <;> by_cases h2 : xs = ys <;> simp [h, h2]
theorem eqB_txs {ws vs : List Str} (h : ∀ w ∈ ws, PyData.strOk w = true) (h2 : ∀ w ∈ vs, PyData.strOk w = true) : eqB (.lst (txs ws)) (.lst (txs vs)) = some (decide (ws = vs)) := by
  show (if (okE (.lst (txs ws)) && okE (.lst (txs vs))) = true then some (PyData.eqv (toP (.lst (txs ws))) (toP (.lst (txs vs)))) else none) = _
  rw [okE_txs h, okE_txs h2]
  show some (PyData.eqvAll (toPs (txs ws)) (toPs (txs vs))) = _
  rw [eqvAll_txs]
theorem cut_sub {s : Nat} : ∀ (l acc : List Nat), ∀ p ∈ cut s acc l, ∀ c ∈ p, c ∈ acc ∨ c ∈ l
  | [], acc, p, hp, c, hc => by simp [cut] at hp; subst hp; exact .inl hc
  | d :: r, acc, p, hp, c, hc => by
    unfold cut at hp
    split at hp
    · rcases List.mem_cons.mp hp with e | hp
      · subst e; exact .inl hc
      · rcases cut_sub r [] p hp c hc with h | h
        · cases h
        · exact .inr (List.mem_cons_of_mem _ h)
    · rcases cut_sub r _ p hp c hc with h | h
      · rcases List.mem_append.mp h with h | h
        · exact .inl h
        · rw [List.mem_singleton.mp h]; exact .inr List.mem_cons_self
      · exact .inr (List.mem_cons_of_mem _ h)
theorem strOk_iff {w : Str} : PyData.strOk w = true ↔ ∀ c ∈ cs w, c < 0x110000 := by
  unfold PyData.strOk
  rw [← Array.all_toList, List.all_eq_true]
  exact ⟨fun h c hc => of_decide_eq_true (h c hc), fun h c hc => decide_eq_true (h c hc)⟩
theorem words_sub {s : Nat} {w p : Str} (hp : p ∈ wordsAt s w) : ∀ c ∈ cs p, c ∈ cs w := by
  unfold wordsAt at hp
  obtain ⟨l, hl, rfl⟩ := List.mem_map.mp hp
  intro c hc
  rcases cut_sub _ _ l hl c hc with h | h
  · cases h
  · exact h
theorem strOk_words {s : Nat} {w p : Str} (h : PyData.strOk w = true) (hp : p ∈ wordsAt s w) : PyData.strOk p = true :=
  strOk_iff.mpr fun c hc => strOk_iff.mp h c (words_sub hp c hc)
theorem cutD_one {α : Type} (xs : List α) : DL.cutD xs (some 1) none = xs.drop 1 := by
  unfold DL.cutD
  rw [HT.sIx_none, show (some (1 : Int)) = some ((1 : Nat) : Int) from rfl, HT.sIx_nat]
  cases xs with
  | nil => rfl
  | cons x xs => simp
def lawFit (w form : Str) : Bool := if form = "name" then isNm w else if form = "n" then isN w else if form = "z" then isZ w else if form = "v" then isV w else decide (w = form)
def r_lawFits : List D → Out → Prop := fun ds o => ∃ w form : Str, ds = [.str w, .str form] ∧ w.length ≤ 100000 ∧ PyData.strOk w = true ∧ o = .inl (.val (.bl (lawFit w form)))
theorem isV_law (w : Str) : isV w = (decide (((wordsAt 47 w).length : Int) < 3) && (((wordsAt 47 w).filter fun p => !isN p).isEmpty && !decide ((wordsAt 47 w).drop 1 = [("0" : Str)]))) := by
  unfold isV
  have hne := words_ne 47 w
  rw [all_filter isN]
  generalize wordsAt 47 w = ps at hne
  match ps, hne with
  | [a], _ => simp
  | [a, b], _ =>
    simp
  | a :: b :: c :: r, _ =>
    have h1 : decide ((a :: b :: c :: r).length > 2) = true := decide_eq_true (by simp)
    have h2 : decide ((((a :: b :: c :: r).length : Nat) : Int) < 3) = false := decide_eq_false (by simp; omega)
    simp only [h1, h2]
    simp
section
variable {P : Program} {w : World} {K : PySem.W.Frag} {mg : Str → Option Value} {base : Heap} {f : Addr} {fd : FuncData}
theorem sc__law_fits : FnScope ["word", "form", "parts", "part"] ["word", "form"] (defScope s__law_fits) := ⟨rfl, rfl, rfl, by decide +kernel, rfl, by decide +kernel, by decide +kernel⟩
theorem ok_law_fits (F : FnP K "_law_fits" s__law_fits f fd) (g_len : mg "len" = none) (c__law_is_n : Cal P w K mg base 2 "_law_is_n" ["word"] (spP (spQ r_is_n))) (c__law_is_z : Cal P w K mg base 3 "_law_is_z" ["word"] (spP (spQ r_is_z))) (c__law_is_name : Cal P w K mg base 2 "_law_is_name" ["thing"] (spP (spQ r_is_name))) :
    FnG P w K mg base 4 f fd ["word", "form"] (spP (spQ r_lawFits)) := by
  refine fnP_ok F sc__law_fits (spQ_len fun ds o ⟨_, _, e, _⟩ => by rw [e]; rfl) fun cdv A outer st H E G Y B => ?_
  have hr := B.room
  have hgd := B.gd
  have nd := sc__law_fits.nd
  refine ⟨_, (db_cons (ds_if (t_eq hr (de_var 1) de_str) (db_one (ds_ret (e_call c__law_is_name mono_Q takes_no hr hgd (da_cons (de_var 0) da_nil)))) db_nil)
    (db_cons (ds_if (t_eq hr (de_var 1) de_str) (db_one (ds_ret (e_call c__law_is_n mono_Q takes_no hr hgd (da_cons (de_var 0) da_nil)))) db_nil)
    (db_cons (ds_if (t_eq hr (de_var 1) de_str) (db_one (ds_ret (e_call c__law_is_z mono_Q takes_no hr hgd (da_cons (de_var 0) da_nil)))) db_nil)
    (db_cons (ds_if (t_eq hr (de_var 1) de_str) (db_cons (ds_set 2 nd (de_split (de_var 0) de_str))
    (db_one (ds_ret (de_and (e_lt (e_len g_len (da_cons (de_var 2) da_nil)) de_int) (de_and (e_eq hr (e_lc [("part", 3)] 3 rfl nd (di_list (de_var 2)) (fun _ _ _ _ _ => (dts_one (dt_not (dt_val (e_call c__law_is_n mono_Q takes_no hr hgd (da_cons (de_var 3) da_nil)))))) (fun _ _ _ _ _ => (de_var 3))) (de_lst da_nil)) (de_one (e_ne hr (e_sl (de_var 2) (do_some de_int) do_none) (de_lst (da_cons de_str da_nil))))))))) db_nil)
    (db_one (ds_ret (e_eq hr (de_var 0) (de_var 1)))))))), ?_⟩
  rintro ds Q ⟨_, ⟨w, form, rfl, hw, hok, rfl⟩, q⟩
  have q : Q (.val (.bl (lawFit w form))) := q
  unfold lawFit at q
  apply sq_if
  · repeat' walk_at "ev1"
  · intro hb
    rw [if_pos (of_decide_eq_true hb)] at q
    apply st_ret
    · exact ev_callQ (eva_cons (ev_var rfl) eva_nil) rfl ⟨w, rfl, le1 hw, rfl⟩
    · exact q
  intro hb
  rw [if_neg (of_decide_eq_false hb)] at q
  clear hb
  apply sq_if
  · repeat' walk_at "ev1"
  · intro hb
    rw [if_pos (of_decide_eq_true hb)] at q
    apply st_ret
    · exact ev_callQ (eva_cons (ev_var rfl) eva_nil) rfl ⟨w, rfl, le1 hw, rfl⟩
    · exact q
  intro hb
  rw [if_neg (of_decide_eq_false hb)] at q
  clear hb
  apply sq_if
  · repeat' walk_at "ev1"
  · intro hb
    rw [if_pos (of_decide_eq_true hb)] at q
    apply st_ret
    · exact ev_callQ (eva_cons (ev_var rfl) eva_nil) rfl ⟨w, rfl, le1 hw, rfl⟩
    · exact q
  intro hb
  rw [if_neg (of_decide_eq_false hb)] at q
  clear hb
  apply sq_if
  · repeat' walk_at "ev1"
  · intro hb
    rw [if_pos (of_decide_eq_true hb), isV_law] at q
    rw [slash]
    refine sq_set (ev_split (by decide) (ev_var rfl) ev_c (le_line hw)) rfl rfl ?_
    have hlen : ∀ p ∈ wordsAt 47 w, p.length ≤ sizeLine ∧ PyData.strOk p = true := fun p hp => ⟨Nat.le_trans (words_len hp) (le1 hw), strOk_words hok hp⟩
    have hmany : (wordsAt 47 w).length ≤ sizeLine := Nat.le_trans (words_many 47 w) (by have := le_line hw; omega)
    generalize wordsAt 47 w = ps at q hlen hmany ⊢
    rw [show ps.length = (txs ps).length from (List.length_map _).symm] at q
    apply st_ret
    · apply ev_andv
      · repeat' walk_at "ev1"
      · intro _
        apply ev_andv
        · apply ev_bin
          · exact ev_lcF (c := .lst (txs ps)) (ds := txs ps) (ev_var rfl) rfl rfl rfl (fun _ => rfl) rfl (fun d => !isN (wrd d)) (fun d => d) (fun d hd => by
              obtain ⟨p, hp, rfl⟩ := txs_mem hd
              apply evt_not
              apply evt_b
              exact ev_callQ (eva_cons (ev_var rfl) eva_nil) rfl ⟨p, rfl, (hlen p hp).1, rfl⟩) (fun d hd _ => ev_var rfl) (by rw [List.length_map]; exact hmany)
          · apply ev_lst
            · exact eva_nil
            · rfl
            · decide
          · rfl
          · rfl
          · rw [List.map_id', txs_filter ps fun p => !isN p, eq_nilL (okE_txs fun p hp => (hlen p ((List.mem_filter.mp hp).1)).2), isEmpty_map]
        · intro _
          apply ev_bin
          · exact ev_sl (ev_var rfl) (evo_pt ev_c) evo_no rfl rfl
          · apply ev_lst
            · exact eva_cons ev_c eva_nil
            · rfl
            · show 1 ≤ sizeLine; decide
          · rfl
          · rfl
          · rw [cutD_one, ← List.map_drop]
            show (eqB (.lst (txs (ps.drop 1))) (.lst (txs ["0"]))).map (fun b => EV.val (.bl (!b))) = _
            rw [eqB_txs (fun p hp => (hlen p (List.mem_of_mem_drop hp)).2) (fun p hp => by rw [List.mem_singleton.mp hp]; decide +kernel)]
            rfl
    · exact q
  intro hb
  rw [if_neg (of_decide_eq_false hb)] at q
  apply st_ret
  · repeat' walk_at "ev1"
  · exact q
end
end K89
set_option Elab.async false
set_option linter.all false
set_option maxRecDepth 100000
set_option maxHeartbeats 1000000
/-! Layer D: more steps in a row. -/
namespace DL
open PySem PySem.Spec PyProof.Rows L2
section
variable {ma me : DM} {ms : DAm} {mt : DTm} {m m1 m2 : DSm} {g : DGm} {E : DEnds} {S S1 S2 : DS} {ea ev : EV} {c d : D} {i : Nat} {xs : List D} {f : D → Option (List D)}
theorem sq_for (h : Ev ma S ea) (e : asVal S ea = some (c, S2)) (e2 : f c = some xs) (q : dTurns [(.val c, c)] g m { E with nx := m2 E } xs S2) : dSeq (dFor (dIt f ma) g m) m2 E S := h.run _ ⟨c, S2, xs, e, e2, q⟩
theorem st_for (h : Ev ma S ea) (e : asVal S ea = some (c, S2)) (e2 : f c = some xs) (q : dTurns [(.val c, c)] g m E xs S2) : dFor (dIt f ma) g m E S := h.run _ ⟨c, S2, xs, e, e2, q⟩
theorem sq_enum (h : EvA ms S [ea]) (e : asVal S ea = some (c, S2)) (e2 : f c = some xs) (q : dTurns [(.val c, c)] g m { E with nx := m2 E } (pairs 0 xs) S2) : dSeq (dFor (dEnum f ms) g m) m2 E S := h.run _ ⟨ea, c, S2, xs, rfl, e, e2, q⟩
theorem sq_range1 {j : Int} (h : EvA ms S [.val (.int j)]) (h1 : -(2 ^ 62) ≤ j) (h2 : j < 2 ^ 62) (q : dTurns [] g m { E with nx := m2 E } (ups 0 j.toNat) S) : dSeq (dFor (dRange1 ms) g m) m2 E S := h.run _ ⟨j, rfl, h1, h2, q⟩
theorem st_range1 {j : Int} (h : EvA ms S [.val (.int j)]) (h1 : -(2 ^ 62) ≤ j) (h2 : j < 2 ^ 62) (q : dTurns [] g m E (ups 0 j.toNat) S) : dFor (dRange1 ms) g m E S := h.run _ ⟨j, rfl, h1, h2, q⟩
theorem turns_nil {gs : List (EV × D)} (h : holds S gs) (q : E.nx S) : dTurns gs g m E [] S := ⟨h, q⟩
theorem turns_cons {gs : List (EV × D)} (h : holds S gs) (q : g d S fun S1 => m { E with nx := dTurns gs g m E xs, ct := dTurns gs g m E xs, bk := E.nx } S1) : dTurns gs g m E (d :: xs) S := ⟨h, q⟩
theorem to_name {Q : DS → Prop} (h : canB S i = true) (q : Q (S.set i (some (.val d)))) : dgN i d S Q := ⟨can_of h, q⟩
theorem to_tup {is : List Nat} {ds : List D} {Q : DS → Prop} (hl : ds.length = is.length) (h : canAll S is) (q : Q (putAll is ds S)) : dgTup is (.tup ds) S Q := ⟨ds, rfl, hl, h, q⟩
theorem st_retB (e : S[i]? = some (some (.own d))) (q : E.rt (.own d) (S.set i none)) : dRet (dVar i) E S := (ev_own e).run _ ⟨d, e, q⟩
theorem sq_unpack {is : List Nat} {ds : List D} (h : Ev ma S (.val (.tup ds))) (hl : ds.length = is.length) (hc : canAll S is) (q : m2 E (putAll is ds S)) : dSeq (dAsg ma (dgTup is)) m2 E S := h.run _ ⟨_, _, rfl, to_tup hl hc q⟩
theorem st_iff {b : Bool} (h : EvT mt S b) (h1 : b = true → m1 E S) (h2 : b = false → E.nx S) : dIfS mt m1 dNext E S := st_if h h1 h2
/-- slot i's list gets one more -/
theorem app_run {Q : EV → DS → Prop} (e0 : S[i]? = some (some (.own (.lst xs)))) (h : Ev me S ev) (e : asVal S ev = some (c, S2)) (e2 : S2[i]? = some (some (.own (.lst xs)))) (hl : xs.length < sizeLine) (q : Q (.val .non) (S2.set i (some (.own (.lst (xs ++ [c])))))) : dMth "list" i fAppend (dVar i) (dCons me dNil) S Q := by
  refine (ev_own e0).run _ ⟨rfl, ⟨_, e0, rfl, rfl⟩, h.run _ ?_⟩
  refine ⟨[c], S2, .own (.lst xs), .lst (xs ++ [c]), .non, ?_, e2, rfl, if_pos hl, q⟩
  show (match (some ([], S) : Option (List D × DS)) with
    | some (r, S1) => (match asVal S1 ev with
      | some (d, S') => some (d :: r, S')
      | none => none)
    | none => none) = _
  simp only [e]
theorem sq_app (e0 : S[i]? = some (some (.own (.lst xs)))) (h : Ev me S ev) (e : asVal S ev = some (c, S2)) (e2 : S2[i]? = some (some (.own (.lst xs)))) (hl : xs.length < sizeLine) (q : m2 E (S2.set i (some (.own (.lst (xs ++ [c])))))) :
    dSeq (dDrop (dMth "list" i fAppend (dVar i) (dCons me dNil))) m2 E S := app_run (Q := fun _ S' => m2 E S') e0 h e e2 hl q
theorem st_app (e0 : S[i]? = some (some (.own (.lst xs)))) (h : Ev me S ev) (e : asVal S ev = some (c, S2)) (e2 : S2[i]? = some (some (.own (.lst xs)))) (hl : xs.length < sizeLine) (q : E.nx (S2.set i (some (.own (.lst (xs ++ [c])))))) :
    dDrop (dMth "list" i fAppend (dVar i) (dCons me dNil)) E S := app_run (Q := fun _ S' => E.nx S') e0 h e e2 hl q
end
def upF : Nat → Nat → List D
  | _, 0 => []
  | k, n + 1 => .int (k : Nat) :: upF (k + 1) n
theorem ups_from : ∀ (n k : Nat), ups (k : Nat) n = upF k n
  | 0, k => rfl
  | n + 1, k => by
    unfold ups
    rw [List.range_succ_eq_map, List.map_cons, List.map_map]
    have ih := ups_from n (k + 1)
    unfold ups at ih
    unfold upF
    rw [← ih]
    have e1 : D.int ((k : Nat) + ((0 : Nat) : Int)) = D.int (k : Nat) := by simp
    rw [e1]
    refine congrArg _ (List.map_congr_left fun i _ => ?_)
    show D.int ((k : Nat) + ((i + 1 : Nat) : Int)) = D.int (((k + 1 : Nat) : Int) + (i : Nat))
    congr 1
    omega
theorem ups_zero (n : Nat) : ups 0 n = upF 0 n := ups_from n 0
end DL
set_option Elab.async false
set_option linter.all false
set_option maxRecDepth 100000
set_option maxHeartbeats 1000000
namespace K89
open PySem PySem.Spec PyProof.Rows L2 DL
/-! ### the forms of promises -/
def zs (n : Nat) : List Str := List.replicate n "z"
def base4 : List (List Str) := [["name", "within", "n"], ["name", "beyond", "n"], ["name", "allowed"], ["name", "like", "name"]]
def sized (w : Str) (n : Nat) : List (List Str) := [(["name", w, "free"] : List Str) ++ zs n, (["name", w, "hangs"] : List Str) ++ zs (2 * n), (["name", w, "holds", "n"] : List Str) ++ zs n]
def timed (w : Str) : List (List Str) := ["name", w, "strong", "v"] :: ([2, 3, 4].map (sized w)).flatten
def forms : List (List Str) := base4 ++ timed "now" ++ timed "then"
abbrev txss (l : List (List Str)) : List D := l.map fun f => .lst (txs f)
def r_forms : List D → Out → Prop := fun ds o => ds = [] ∧ o = .inl (.own (.lst (txss forms)))
section
variable {P : Program} {w : World} {K : PySem.W.Frag} {mg : Str → Option Value} {base : Heap} {f : Addr} {fd : FuncData}
theorem sc__law_vow_forms : FnScope ["found", "when", "size"] [] (defScope s__law_vow_forms) := ⟨rfl, rfl, rfl, by decide +kernel, rfl, by decide +kernel, by decide +kernel⟩
theorem mul_z {n : Int} {k : Nat} (h : n = k) (hk : k ≤ 1000) : fMul (.lst [.str "z"]) (.int n) = some (.own (.lst (txs (zs k)))) := by
  subst h
  simp only [fMul]
  rw [if_pos ⟨by omega, by omega, by rw [sizeLine_eq, Int.toNat_natCast, List.length_singleton]; omega⟩]
  have e : ∀ k, (List.replicate k [D.str "z"]).flatten = txs (zs k) := by
    intro k
    induction k with
    | zero => rfl
    | succ k ih => rw [List.replicate_succ, List.flatten_cons, ih]; rfl
  rw [Int.toNat_natCast, e]
theorem add_lst {xs ys : List D} (h : xs.length + ys.length ≤ 100000) : fAdd (.lst xs) (.lst ys) = some (.own (.lst (xs ++ ys))) := if_pos (le1 h)
/-! the stores of a turn -/
def strongD (w : Str) : D := .lst (txs ["name", w, "strong", "v"])
def freeD (w : Str) (n : Nat) : D := .lst (txs ["name", w, "free"] ++ txs (zs n))
def hangsD (w : Str) (n : Nat) : D := .lst (txs ["name", w, "hangs"] ++ txs (zs (2 * n)))
def holdsD (w : Str) (n : Nat) : D := .lst (txs ["name", w, "holds", "n"] ++ txs (zs n))
def inn (w : Str) (n : Nat) (A : List D) : List D := ((A ++ [freeD w n]) ++ [hangsD w n]) ++ [holdsD w n]
def out (w : Str) (A : List D) : List D := inn w 4 (inn w 3 (inn w 2 (A ++ [strongD w])))
abbrev mFree : DSm := dDrop (dMth "list" 0 fAppend (dVar 0) (dCons (dBin fAdd (dLst (dCons (dC (.str "name")) (dCons (dVar 1) (dCons (dC (.str "free")) dNil)))) (dBin fMul (dLst (dCons (dC (.str "z")) dNil)) (dVar 2))) dNil))
abbrev mHangs : DSm := dDrop (dMth "list" 0 fAppend (dVar 0) (dCons (dBin fAdd (dLst (dCons (dC (.str "name")) (dCons (dVar 1) (dCons (dC (.str "hangs")) dNil)))) (dBin fMul (dLst (dCons (dC (.str "z")) dNil)) (dBin fMul (dC (.int 2)) (dVar 2)))) dNil))
abbrev mHolds : DSm := dDrop (dMth "list" 0 fAppend (dVar 0) (dCons (dBin fAdd (dLst (dCons (dC (.str "name")) (dCons (dVar 1) (dCons (dC (.str "holds")) (dCons (dC (.str "n")) dNil))))) (dBin fMul (dLst (dCons (dC (.str "z")) dNil)) (dVar 2))) dNil))
abbrev mInn : DSm := dSeq mFree (dSeq mHangs mHolds)
abbrev m234 : DM := dLst (dCons (dC (.int 2)) (dCons (dC (.int 3)) (dCons (dC (.int 4)) dNil)))
abbrev mOut : DSm := dSeq (dDrop (dMth "list" 0 fAppend (dVar 0) (dCons (dLst (dCons (dC (.str "name")) (dCons (dVar 1) (dCons (dC (.str "strong")) (dCons (dC (.str "v")) dNil))))) dNil))) (dFor (dIt seqL m234) (dgN 2) mInn)
theorem inn_len (w : Str) (n : Nat) (A : List D) : (inn w n A).length = A.length + 3 := by simp [inn]
theorem inn_run {w : Str} {n : Nat} {A : List D} {E : DEnds} (hn : n ≤ 4) (hA : A.length ≤ 100) (q : E.nx [some (.own (.lst (inn w n A))), some (.val (.str w)), some (.val (.int (n : Nat)))]) : mInn E [some (.own (.lst A)), some (.val (.str w)), some (.val (.int (n : Nat)))] := by
  have hz : ∀ k, k ≤ 1000 → (zs k).length ≤ 1000 := fun k h => by simp [zs]; exact h
  have h3 : ∀ (xs : List D), xs.length ≤ 10 → ∀ k, k ≤ 8 → xs.length + (txs (zs k)).length ≤ 100000 := fun xs hx k hk => by
    rw [List.length_map]; simp [zs]; omega
  refine sq_app (c := freeD w n) rfl (ev_bin (ev_lst (cs := txs ["name", w, "free"]) (eva_cons ev_c (eva_cons (ev_var rfl) (eva_cons ev_c eva_nil))) rfl (by show 3 ≤ sizeLine; decide)) (ev_bin (ev_lst (eva_cons ev_c eva_nil) rfl (by decide)) (ev_var rfl) rfl rfl (mul_z rfl (by omega))) rfl rfl (add_lst (h3 _ (by simp) n (by omega)))) rfl rfl (by rw [sizeLine_eq]; omega) ?_
  refine sq_app (c := hangsD w n) rfl (ev_bin (ev_lst (cs := txs ["name", w, "hangs"]) (eva_cons ev_c (eva_cons (ev_var rfl) (eva_cons ev_c eva_nil))) rfl (by show 3 ≤ sizeLine; decide)) (ev_bin (ev_lst (eva_cons ev_c eva_nil) rfl (by decide)) (ev_bin (r := .val (.int ((2 * n : Nat) : Int))) ev_c (ev_var rfl) rfl rfl ?_) rfl rfl (mul_z rfl (by omega))) rfl rfl (add_lst (h3 _ (by simp) (2 * n) (by omega)))) rfl rfl (by rw [sizeLine_eq, List.length_append]; simp; omega) ?_
  · simp only [fMul]
    rw [if_pos (.inl ⟨by omega, by omega⟩)]
    simp
  refine st_app (c := holdsD w n) rfl (ev_bin (ev_lst (cs := txs ["name", w, "holds", "n"]) (eva_cons ev_c (eva_cons (ev_var rfl) (eva_cons ev_c (eva_cons ev_c eva_nil)))) rfl (by show 4 ≤ sizeLine; decide)) (ev_bin (ev_lst (eva_cons ev_c eva_nil) rfl (by decide)) (ev_var rfl) rfl rfl (mul_z rfl (by omega))) rfl rfl (add_lst (h3 _ (by simp) n (by omega)))) rfl rfl (by rw [sizeLine_eq, List.length_append, List.length_append]; simp; omega) ?_
  exact q
theorem out_run {w : Str} {A : List D} {E : DEnds} {x : Option SV} (hx : ∀ d, x ≠ some (.io d)) (hA : A.length ≤ 50) (q : E.nx [some (.own (.lst (out w A))), some (.val (.str w)), some (.val (.int 4))]) : mOut E [some (.own (.lst A)), some (.val (.str w)), x] := by
  refine sq_app (c := strongD w) rfl (ev_lst (cs := txs ["name", w, "strong", "v"]) (eva_cons ev_c (eva_cons (ev_var rfl) (eva_cons ev_c (eva_cons ev_c eva_nil)))) rfl (by show 4 ≤ sizeLine; decide)) rfl rfl (by rw [sizeLine_eq]; omega) ?_
  refine st_for (c := .lst [.int 2, .int 3, .int 4]) (ev_lst (eva_cons ev_c (eva_cons ev_c (eva_cons ev_c eva_nil))) rfl (by show 3 ≤ sizeLine; decide)) rfl rfl ?_
  have hc : canStore (List.set [some (SV.own (D.lst A)), some (SV.val (D.str w)), x] 0 (some (SV.own (D.lst (A ++ [strongD w]))))) 2 := ⟨by simp, fun d e => hx d (by simpa using e)⟩
  refine turns_cons holds_one ⟨hc, ?_⟩
  refine inn_run (n := 2) (A := A ++ [strongD w]) (by decide) (by simp; omega) ?_
  refine turns_cons holds_one (to_name rfl ?_)
  refine inn_run (n := 3) (A := inn w 2 (A ++ [strongD w])) (by decide) (by rw [inn_len]; simp; omega) ?_
  refine turns_cons holds_one (to_name rfl ?_)
  refine inn_run (n := 4) (A := inn w 3 (inn w 2 (A ++ [strongD w]))) (by decide) (by rw [inn_len, inn_len]; simp; omega) ?_
  exact (show holds _ _ ∧ _ from ⟨holds_one, q⟩)
theorem ok_law_vow_forms (F : FnP K "_law_vow_forms" s__law_vow_forms f fd) : FnG P w K mg base 2 f fd [] (spP (spQ r_forms)) := by
  refine fnP_ok F sc__law_vow_forms (spQ_len fun ds o ⟨e, _⟩ => by rw [e]; rfl) fun cdv A outer st H E G Y B => ?_
  have hr := B.room
  have hpo := B.own
  have nd := sc__law_vow_forms.nd
  refine ⟨_, (db_cons (ds_own 0 nd (de_lst (da_cons (de_lst (da_cons de_str (da_cons de_str (da_cons de_str da_nil)))) (da_cons (de_lst (da_cons de_str (da_cons de_str (da_cons de_str da_nil)))) (da_cons (de_lst (da_cons de_str (da_cons de_str da_nil))) (da_cons (de_lst (da_cons de_str (da_cons de_str (da_cons de_str da_nil)))) da_nil))))))
    (db_cons (ds_for hpo rfl (di_list (de_lst (da_cons de_str (da_cons de_str da_nil)))) (dg_name 1 nd) (db_cons (ds_expr (e_app (i := 0) (de_var 0) (da_cons (de_lst (da_cons de_str (da_cons (de_var 1) (da_cons de_str (da_cons de_str da_nil))))) da_nil)))
    (db_one (ds_for hpo rfl (di_list (de_lst (da_cons de_int (da_cons de_int (da_cons de_int da_nil))))) (dg_name 2 nd) (db_cons (ds_expr (e_app (i := 0) (de_var 0) (da_cons (e_add (de_lst (da_cons de_str (da_cons (de_var 1) (da_cons de_str da_nil)))) (e_mul (de_lst (da_cons de_str da_nil)) (de_var 2))) da_nil)))
    (db_cons (ds_expr (e_app (i := 0) (de_var 0) (da_cons (e_add (de_lst (da_cons de_str (da_cons (de_var 1) (da_cons de_str da_nil)))) (e_mul (de_lst (da_cons de_str da_nil)) (e_mul de_int (de_var 2)))) da_nil)))
    (db_one (ds_expr (e_app (i := 0) (de_var 0) (da_cons (e_add (de_lst (da_cons de_str (da_cons (de_var 1) (da_cons de_str (da_cons de_str da_nil))))) (e_mul (de_lst (da_cons de_str da_nil)) (de_var 2))) da_nil))))))))))
    (db_one (ds_ret (de_var 0))))), ?_⟩
  rintro ds Q ⟨_, ⟨rfl, rfl⟩, q⟩
  have q : Q (.own (.lst (txss forms))) := q
  refine sq_own (S2 := startS ["found", "when", "size"] []) (d := .lst (txss base4)) (ev_lst (eva_cons (ev_lst (eva_cons ev_c (eva_cons ev_c (eva_cons ev_c eva_nil))) rfl (by decide)) (eva_cons (ev_lst (eva_cons ev_c (eva_cons ev_c (eva_cons ev_c eva_nil))) rfl (by decide)) (eva_cons (ev_lst (eva_cons ev_c (eva_cons ev_c eva_nil)) rfl (by decide)) (eva_cons (ev_lst (eva_cons ev_c (eva_cons ev_c (eva_cons ev_c eva_nil))) rfl (by decide)) eva_nil)))) rfl (by decide)) rfl rfl ?_
  refine sq_for (c := .lst (txs ["now", "then"])) (ev_lst (eva_cons ev_c (eva_cons ev_c eva_nil)) rfl (by decide)) rfl rfl ?_
  refine turns_cons holds_one (to_name rfl ?_)
  refine out_run (A := txss base4) (by simp) (by decide) ?_
  refine turns_cons holds_one (to_name rfl ?_)
  refine out_run (A := out "now" (txss base4)) (by simp) (by decide) ?_
  refine (show holds _ _ ∧ _ from ⟨holds_one, ?_⟩)
  exact st_retB (E := endsP Q) (i := 0) rfl q
end
end K89
set_option Elab.async false
set_option linter.all false
set_option maxRecDepth 100000
set_option maxHeartbeats 1000000
namespace K89
open PySem PySem.Spec PyProof.Rows L2 DL
/-! ### what is due -/
def keepF (w : Str) (k : Nat) (f : List Str) : Bool := decide (k < f.length) && lawFit w (f.getD k "")
def aliveAt (ws : List Str) : Nat → List (List Str)
  | 0 => forms
  | k + 1 => (aliveAt ws k).filter (keepF (ws.getD k "") k)
def kindOf (f : List Str) : Str := if f.getD 1 "" = "now" ∨ f.getD 1 "" = "then" then f.getD 2 "" else f.getD 1 ""
def toldD (text : Str) (ws : List Str) (f : List Str) : D := .tup [.str "told", .tup [.str text, .str (ws.getD 0 ""), .str (kindOf f), if kindOf f = "like" then .str (ws.getD 2 "") else .non]]
def errD (k : Nat) : D := .tup [.str "text", .int 1, .int (k : Nat)]
def endOf (text : Str) (ws : List Str) : D := match (aliveAt ws ws.length).filter (fun f => decide (f.length = ws.length)) with
  | [] => errD (ws.length + 1)
  | f :: _ => toldD text ws f
/-- from the k-th word on, n words left -/
def dueFrom (text : Str) (ws : List Str) : Nat → Nat → D
  | _, 0 => endOf text ws
  | k, n + 1 => if aliveAt ws (k + 1) = [] then errD (k + 1) else dueFrom text ws (k + 1) n
def dueOf (text : Str) : D := let ws := wordsAt 32 text; dueFrom text ws 0 ws.length
def r_due : List D → Out → Prop := fun ds o => ∃ text : Str, ds = [.str text] ∧ text.length ≤ 100000 ∧ PyData.strOk text = true ∧ o = .inl (.val (dueOf text))
theorem alive_sub (ws : List Str) : ∀ k f, f ∈ aliveAt ws k → f ∈ forms
  | 0, f, h => h
  | k + 1, f, h => alive_sub ws k f (List.mem_filter.mp h).1
theorem alive_len (ws : List Str) : ∀ k, (aliveAt ws k).length ≤ 24
  | 0 => by show forms.length ≤ 24; decide +kernel
  | k + 1 => Nat.le_trans (List.length_filter_le ..) (alive_len ws k)
theorem forms_ok : ∀ f ∈ forms, ∀ w ∈ f, PyData.strOk w = true := by decide +kernel
theorem forms_len : ∀ f ∈ forms, 2 ≤ f.length ∧ f.length ≤ 12 := by decide +kernel
theorem txss_lay : ∀ {l : List (List Str)}, (∀ f ∈ l, ∀ w ∈ f, PyData.strOk w = true) → PyData.canLayAll0 (toPs (txss l)) = true ∧ PyData.depthAll (toPs (txss l)) ≤ 1
  | [], _ => ⟨rfl, by decide⟩
  | x :: xs, h => by
    obtain ⟨h1, h2⟩ := txss_lay (l := xs) fun w hw => h w (List.mem_cons_of_mem _ hw)
    obtain ⟨h3, h4⟩ := txs_lay (h x List.mem_cons_self)
    simp only [List.map_cons, toPs, toP, PyData.canLayAll0, PyData.canLay0, PyData.depthAll, PyData.depth]
    have h1 : PyData.canLayAll0 (toPs (List.map (fun f => D.lst (txs f)) xs)) = true := h1
    have h2 : PyData.depthAll (toPs (List.map (fun f => D.lst (txs f)) xs)) ≤ 1 := h2
    exact ⟨by rw [h1, h3]; rfl, by rw [h4]; omega⟩
theorem okE_txss {l : List (List Str)} (h : ∀ f ∈ l, ∀ w ∈ f, PyData.strOk w = true) : okE (.lst (txss l)) = true := by
  obtain ⟨h1, h2⟩ := txss_lay h
  unfold okE SeqAt.shaped
  simp only [toP, PyData.canLay0, PyData.depth, h1, Bool.true_and]
  exact decide_eq_true (by omega)
theorem txss_mem {l : List (List Str)} {d : D} (h : d ∈ txss l) : ∃ f, f ∈ l ∧ d = .lst (txs f) := by
  obtain ⟨f, hf, e⟩ := List.mem_map.mp h
  exact ⟨f, hf, e.symm⟩
/-- the texts of a list of texts -/
def wds : D → List Str
  | .lst ds => ds.map wrd
  | _ => []
theorem wds_txs (f : List Str) : wds (.lst (txs f)) = f := by
  show (txs f).map wrd = f
  rw [List.map_map]
  exact List.map_id _
theorem txss_filter (l : List (List Str)) (p : List Str → Bool) : (txss l).filter (fun d => p (wds d)) = txss (l.filter p) := by
  rw [List.filter_map]
  congr 1
  apply List.filter_congr
  intro f _
  simp only [Function.comp, wds_txs]
theorem getD_get {α : Type} {l : List α} {k : Nat} {x d : α} (h : l[k]? = some x) : l.getD k d = x := by rw [List.getD_eq_getElem?_getD, h]; rfl
section
variable {P : Program} {w : World} {K : PySem.W.Frag} {mg : Str → Option Value} {base : Heap} {f : Addr} {fd : FuncData}
theorem sc__law_vow_due : FnScope ["text", "words", "alive", "k", "form", "kind"] ["text"] (defScope s__law_vow_due) := ⟨rfl, rfl, rfl, by decide +kernel, rfl, by decide +kernel, by decide +kernel⟩
abbrev duS (text : Str) (ws : List Str) (a : List (List Str)) (x : Option SV) : DS := [some (.val (.str text)), some (.val (.lst (txs ws))), some (.val (.lst (txss a))), x, none, none]
abbrev mAlive : DM := dLc (dIt seqL (dVar 2)) 4 (dAnd (dB (dBin fGt (dLs (one fLen) (dCons (dVar 4) dNil)) (dVar 3))) (dB (dCall (spQ r_lawFits) (fun _ _ => False) [] (dCons (dBin fIx (dVar 1) (dVar 3)) (dCons (dBin fIx (dVar 4) (dVar 3)) dNil))))) (dVar 4) [4]
abbrev mSame : DM := dLc (dIt seqL (dVar 2)) 4 (dB (dBin fEq (dLs (one fLen) (dCons (dVar 4) dNil)) (dLs (one fLen) (dCons (dVar 1) dNil)))) (dVar 4) [4]
abbrev mKind : DM := dIf (dB (dBin (fIn0 false) (dBin fIx (dBin fIx (dVar 2) (dC (.int 0))) (dC (.int 1))) (dLst (dCons (dC (.str "now")) (dCons (dC (.str "then")) dNil))))) (dBin fIx (dBin fIx (dVar 2) (dC (.int 0))) (dC (.int 2))) (dBin fIx (dBin fIx (dVar 2) (dC (.int 0))) (dC (.int 1)))
abbrev mEnd : DSm := dSeq (dIfS (dB (dBin fEq (dVar 2) (dLst dNil))) (dRet (dTup (dCons (dC (.str "text")) (dCons (dC (.int 1)) (dCons (dBin fAdd (dLs (one fLen) (dCons (dVar 1) dNil)) (dC (.int 1))) dNil))))) dNext)
  (dSeq (dAsg mKind (dgN 5)) (dRet (dTup (dCons (dC (.str "told")) (dCons (dTup (dCons (dVar 0) (dCons (dBin fIx (dVar 1) (dC (.int 0))) (dCons (dVar 5) (dCons (dIf (dB (dBin fEq (dVar 5) (dC (.str "like")))) (dBin fIx (dVar 1) (dC (.int 2))) (dC .non)) dNil))))) dNil)))))
theorem ev_alive {text : Str} {ws : List Str} {a : List (List Str)} {k : Nat} (hk : k < ws.length) (hws : ∀ p ∈ ws, p.length ≤ 100000 ∧ PyData.strOk p = true) (ha : a.length ≤ 24) : Ev mAlive (duS text ws a (some (.val (.int (k : Nat))))) (.own (.lst (txss (a.filter (keepF (ws.getD k "") k))))) := by
  have e := ev_lcF (S := duS text ws a (some (.val (.int (k : Nat))))) (vs := [4]) (i := 4) (m := dVar 4) (mt := dAnd (dB (dBin fGt (dLs (one fLen) (dCons (dVar 4) dNil)) (dVar 3))) (dB (dCall (spQ r_lawFits) (fun _ _ => False) [] (dCons (dBin fIx (dVar 1) (dVar 3)) (dCons (dBin fIx (dVar 4) (dVar 3)) dNil)))))
    (c := .lst (txss a)) (ds := txss a) (f := seqL) (ma := dVar 2) (ev_var rfl) rfl rfl rfl (fun _ => rfl) rfl (fun d => keepF (ws.getD k "") k (wds d)) (fun d => d) (fun d hd => by
      obtain ⟨f, hf, rfl⟩ := txss_mem hd
      rw [wds_txs]
      have hw : ws[k]? = some (ws.getD k "") := by rw [List.getD_eq_getElem?_getD, List.getElem?_eq_getElem hk]; rfl
      unfold keepF
      apply evt_and
      · apply evt_b
        apply ev_bin
        · exact ev_ls (eva_cons (ev_var rfl) eva_nil) rfl len_lst
        · exact ev_var rfl
        · rfl
        · rfl
        · show some (EV.val (D.bl (decide (((k : Nat) : Int) < ((txs f).length : Nat))))) = _
          rw [List.length_map]
          congr 4
          exact propext ⟨fun h => by omega, fun h => by omega⟩
      · intro h
        have hkf : k < f.length := of_decide_eq_true h
        have hfk : f[k]? = some (f.getD k "") := by rw [List.getD_eq_getElem?_getD, List.getElem?_eq_getElem hkf]; rfl
        have hm := hws _ (List.mem_of_getElem? hw)
        apply evt_b
        exact ev_callQ (eva_cons (ev_bin (ev_var rfl) (ev_var rfl) rfl rfl (ix_lst (d := .str (ws.getD k "")) (by rw [List.getElem?_map, hw]; rfl))) (eva_cons (ev_bin (ev_var rfl) (ev_var rfl) rfl rfl (ix_lst (d := .str (f.getD k "")) (by rw [List.getElem?_map, hfk]; rfl))) eva_nil)) rfl ⟨_, _, rfl, hm.1, hm.2, rfl⟩)
    (fun d hd _ => ev_var rfl) (by rw [List.length_map, sizeLine_eq]; omega)
  rwa [List.map_id', txss_filter a (keepF (ws.getD k "") k)] at e
theorem forms_timed : ∀ f ∈ forms, (f.getD 1 "" = "now" ∨ f.getD 1 "" = "then") → 3 ≤ f.length := by decide +kernel
theorem forms_like : ∀ f ∈ forms, kindOf f = "like" → 3 ≤ f.length := by decide +kernel
theorem in_two {x a b : Str} (hx : PyData.strOk x = true) (ha : PyData.strOk a = true) (hb : PyData.strOk b = true) : fIn0 false (.str x) (.lst [.str a, .str b]) = some (.val (.bl (decide (x = a ∨ x = b)))) := by
  have h1 : okE (.str x) = true := by
    unfold okE SeqAt.shaped
    simp only [toP, PyData.canLay0, PyData.depth, hx]
    rfl
  have h2 : okE (.lst [.str a, .str b]) = true := okE_txs (ws := [a, b]) fun w hw => by
    rcases List.mem_cons.mp hw with h | hw
    · rw [h]; exact ha
    · rw [List.mem_singleton.mp hw]; exact hb
  show (if (okE (.str x) && okE (.lst [.str a, .str b])) = true then some (EV.val (.bl (if false = true then _ else [D.str a, D.str b].any (fun z => PyData.eqv (toP z) (toP (.str x)))))) else none) = _
  rw [h1, h2]
  simp only [Bool.and_self, if_true, List.any_cons, List.any_nil, toP, PyData.eqv, str_beq, Bool.or_false, Bool.false_eq_true, if_false]
  congr 3
  by_cases h : x = a <;> by_cases h' : x = b <;> simp [h, h', eq_comm]
theorem ev_same {text : Str} {ws : List Str} {a : List (List Str)} {x : Option SV} (hmany : ws.length ≤ 100001) (ha : a.length ≤ 24) : Ev mSame (duS text ws a x) (.own (.lst (txss (a.filter fun f => decide (f.length = ws.length))))) := by
  have e := ev_lcF (S := duS text ws a x) (vs := [4]) (i := 4) (m := dVar 4) (mt := dB (dBin fEq (dLs (one fLen) (dCons (dVar 4) dNil)) (dLs (one fLen) (dCons (dVar 1) dNil))))
    (c := .lst (txss a)) (ds := txss a) (f := seqL) (ma := dVar 2) (ev_var rfl) rfl rfl rfl (fun _ => rfl) rfl (fun d => decide ((wds d).length = ws.length)) (fun d => d) (fun d hd => by
      obtain ⟨f, hf, rfl⟩ := txss_mem hd
      rw [wds_txs]
      apply evt_b
      apply ev_bin
      · exact ev_ls (eva_cons (ev_var rfl) eva_nil) rfl len_lst
      · exact ev_ls (eva_cons (ev_var rfl) eva_nil) rfl len_lst
      · rfl
      · rfl
      · show some (EV.val (D.bl (decide ((((txs f).length : Nat) : Int) = ((txs ws).length : Nat))))) = _
        rw [List.length_map, List.length_map]
        congr 4
        exact propext ⟨fun h => by omega, fun h => by omega⟩)
    (fun d hd _ => ev_var rfl) (by rw [List.length_map, sizeLine_eq]; omega)
  rwa [List.map_id', txss_filter a (fun f => decide (f.length = ws.length))] at e
theorem due_end {text : Str} {ws : List Str} {Q : EV → Prop} {x : Option SV} (hne : ws ≠ []) (hmany : ws.length ≤ 100001) (hx : ∀ d, x ≠ some (.io d)) (q : Q (.val (dueFrom text ws ws.length 0))) :
    dSeq (if false = true then dOwn mSame 2 else dAsg mSame (dgN 2)) mEnd (endsP Q) (duS text ws (aliveAt ws ws.length) x) := by
  have q : Q (.val (endOf text ws)) := q
  unfold endOf at q
  refine sq_lc (ev_same hmany (alive_len ws _)) rfl rfl ?_
  have hsub : ∀ f ∈ (aliveAt ws ws.length).filter (fun f => decide (f.length = ws.length)), f ∈ forms ∧ f.length = ws.length := fun f hf => ⟨alive_sub ws _ f (List.mem_filter.mp hf).1, of_decide_eq_true (List.mem_filter.mp hf).2⟩
  generalize (aliveAt ws ws.length).filter (fun f => decide (f.length = ws.length)) = a at q hsub
  refine sq_if (S := duS text ws a x) (b := a.isEmpty) ?_ ?_ ?_
  · apply evt_b
    apply ev_bin
    · exact ev_var rfl
    · exact ev_lst eva_nil rfl (by decide)
    · rfl
    · rfl
    · rw [eq_nilL (okE_txss fun f hf => forms_ok f (hsub f hf).1), isEmpty_map]
  · intro hb
    rw [List.isEmpty_iff.mp hb] at q
    apply st_ret
    · apply ev_tup
      · exact eva_cons ev_c (eva_cons ev_c (eva_cons (ev_bin (ev_ls (eva_cons (ev_var rfl) eva_nil) rfl len_lst) ev_c rfl rfl rfl) eva_nil))
      · rfl
      · show 3 ≤ sizeLine; decide
    · rw [List.length_map]; exact q
  · intro hb
    cases a with
    | nil => cases hb
    | cons f r =>
      have q : Q (.val (toldD text ws f)) := q
      obtain ⟨hf, hfl⟩ := hsub f List.mem_cons_self
      have hf2 := forms_len f hf
      have g0 : fIx (.lst (txss (f :: r))) (.int 0) = some (.val (.lst (txs f))) := ix_lst (n := 0) rfl
      have g1 : fIx (.lst (txs f)) (.int 1) = some (.val (.str (f.getD 1 ""))) := ix_lst (n := 1) (by rw [List.getElem?_map, List.getD_eq_getElem?_getD, List.getElem?_eq_getElem (by omega)]; rfl)
      have g1' : f[1]? = some (f.getD 1 "") := by rw [List.getD_eq_getElem?_getD, List.getElem?_eq_getElem (by omega)]; rfl
      have hkind : Ev mKind (duS text ws (f :: r) x) (.val (.str (kindOf f))) := by
        unfold kindOf
        apply ev_if (x := decide (f.getD 1 "" = "now" ∨ f.getD 1 "" = "then"))
        · apply evt_b
          apply ev_bin
          · exact ev_bin (ev_bin (ev_var rfl) ev_c rfl rfl g0) ev_c rfl rfl g1
          · exact ev_lst (eva_cons ev_c (eva_cons ev_c eva_nil)) rfl (by decide)
          · rfl
          · rfl
          · exact in_two (forms_ok f hf _ (List.mem_of_getElem? g1')) (by decide +kernel) (by decide +kernel)
        · intro h
          have h := of_decide_eq_true h
          rw [if_pos h]
          have h3 := forms_timed f hf h
          exact ev_bin (ev_bin (ev_var rfl) ev_c rfl rfl g0) ev_c rfl rfl (ix_lst (n := 2) (by rw [List.getElem?_map, List.getD_eq_getElem?_getD, List.getElem?_eq_getElem (by omega)]; rfl))
        · intro h
          rw [if_neg (of_decide_eq_false h)]
          exact ev_bin (ev_bin (ev_var rfl) ev_c rfl rfl g0) ev_c rfl rfl g1
      refine sq_set hkind rfl rfl ?_
      have w0 : ws[0]? = some (ws.getD 0 "") := by
        rw [List.getD_eq_getElem?_getD, List.getElem?_eq_getElem (List.length_pos_iff.mpr hne)]; rfl
      apply st_ret
      · apply ev_tup
        · refine eva_cons ev_c (eva_cons (ev_tup (cs := [.str text, .str (ws.getD 0 ""), .str (kindOf f), if kindOf f = "like" then .str (ws.getD 2 "") else .non]) (eva_cons (ev_var rfl) (eva_cons (ev_bin (ev_var rfl) ev_c rfl rfl (ix_lst (n := 0) (d := .str (ws.getD 0 "")) (by rw [List.getElem?_map, w0]; rfl))) (eva_cons (ev_var rfl) (eva_cons (ev_if (x := decide (kindOf f = "like")) (r := .val (if kindOf f = "like" then .str (ws.getD 2 "") else .non)) ?_ ?_ ?_) eva_nil)))) rfl (by show 4 ≤ sizeLine; decide)) eva_nil)
          · exact evt_b (ev_bin (ev_var rfl) ev_c rfl rfl rfl)
          · intro h
            have h := of_decide_eq_true h
            have h3 := forms_like f hf h
            rw [if_pos h]
            exact ev_bin (ev_var rfl) ev_c rfl rfl (ix_lst (n := 2) (by rw [List.getElem?_map, List.getD_eq_getElem?_getD, List.getElem?_eq_getElem (by omega)]; rfl))
          · intro h
            rw [if_neg (of_decide_eq_false h)]
            exact ev_c
        · rfl
        · show 2 ≤ sizeLine; decide
      · exact q
theorem ok_law_vow_due (F : FnP K "_law_vow_due" s__law_vow_due f fd) (g_len : mg "len" = none) (g_range : mg "range" = none) (g_str : mg "str" = none) (g_isinstance : mg "isinstance" = none) (c__law_vow_forms : Cal P w K mg base 2 "_law_vow_forms" [] (spP (spQ r_forms)))
    (c__law_fits : Cal P w K mg base 4 "_law_fits" ["word", "form"] (spP (spQ r_lawFits))) : FnG P w K mg base 5 f fd ["text"] (spP (spQ r_due)) := by
  refine fnP_ok F sc__law_vow_due (spQ_len fun ds o ⟨_, e, _⟩ => by rw [e]; rfl) fun cdv A outer st H E G Y B => ?_
  have hr := B.room
  have hgd := B.gd
  have hpo := B.own
  have nd := sc__law_vow_due.nd
  refine ⟨_, (db_cons (ds_if (dt_not (dt_val (de_isi (T := "str") rfl g_isinstance rfl g_str (by decide +kernel) (de_var 0)))) (db_one (ds_ret (de_tup (da_cons de_str (da_cons de_int (da_cons de_int da_nil)))))) db_nil)
    (db_cons (ds_asg (de_tup (da_cons (de_split (de_var 0) de_str) (da_cons (e_call0 c__law_vow_forms mono_Q takes_no hr hgd) da_nil))) (dg_tup rfl nd (nms_cons 1 (nms_cons 2 NmsOk.nil))))
    (db_cons (ds_for hpo rfl (di_range1 rfl g_range (da_cons (e_len g_len (da_cons (de_var 1) da_nil)) da_nil)) (dg_name 3 nd) (db_cons (s_lc false [("form", 4)] 4 2 rfl nd (di_list (de_var 2)) (fun _ _ _ _ _ => (dts_one (dt_w (dw_and (t_gt (e_len g_len (da_cons (de_var 4) da_nil)) (de_var 3)) (dw_and1 (dt_val (e_call c__law_fits mono_Q takes_no hr hgd (da_cons (e_ix (de_var 1) (de_var 3)) (da_cons (e_ix (de_var 4) (de_var 3)) da_nil))))))))) (fun _ _ _ _ _ => (de_var 4)))
    (db_one (ds_if (t_eq hr (de_var 2) (de_lst da_nil)) (db_one (ds_ret (de_tup (da_cons de_str (da_cons de_int (da_cons (e_add (de_var 3) de_int) da_nil)))))) db_nil))))
    (db_cons (s_lc false [("form", 4)] 4 2 rfl nd (di_list (de_var 2)) (fun _ _ _ _ _ => (dts_one (t_eq hr (e_len g_len (da_cons (de_var 4) da_nil)) (e_len g_len (da_cons (de_var 1) da_nil))))) (fun _ _ _ _ _ => (de_var 4)))
    (db_cons (ds_if (t_eq hr (de_var 2) (de_lst da_nil)) (db_one (ds_ret (de_tup (da_cons de_str (da_cons de_int (da_cons (e_add (e_len g_len (da_cons (de_var 1) da_nil)) de_int) da_nil)))))) db_nil)
    (db_cons (ds_set 5 nd (de_if (t_in hr (e_ix (e_ix (de_var 2) de_int) de_int) (de_lst (da_cons de_str (da_cons de_str da_nil)))) (e_ix (e_ix (de_var 2) de_int) de_int) (e_ix (e_ix (de_var 2) de_int) de_int)))
    (db_one (ds_ret (de_tup (da_cons de_str (da_cons (de_tup (da_cons (de_var 0) (da_cons (e_ix (de_var 1) de_int) (da_cons (de_var 5) (da_cons (de_if (t_eq hr (de_var 5) de_str) (e_ix (de_var 1) de_int) de_non) da_nil))))) da_nil))))))))))), ?_⟩
  rintro ds Q ⟨_, ⟨text, rfl, hl, hok, rfl⟩, q⟩
  have q : Q (.val (dueOf text)) := q
  unfold dueOf at q
  have hws : ∀ p ∈ wordsAt 32 text, p.length ≤ 100000 ∧ PyData.strOk p = true := fun p hp => ⟨Nat.le_trans (words_len hp) hl, strOk_words hok hp⟩
  have hmany : (wordsAt 32 text).length ≤ 100001 := Nat.le_trans (words_many 32 text) (by omega)
  have hne := words_ne 32 text
  apply sq_if (b := false)
  · apply evt_not (x := true)
    apply evt_b
    exact ev_un (ev_var rfl) rfl isi_str
  · intro h; cases h
  intro _
  rw [space]
  have hS : ∃ S0 : DS, S0 = startS ["text", "words", "alive", "k", "form", "kind"] [.str text] := ⟨_, rfl⟩
  have hs : Ev (dTup (dCons (dStr fSplit (dVar 0) (dC (.str ⟨#[32]⟩))) (dCons (dCall (spQ r_forms) (fun _ _ => False) [] dNil) dNil))) (startS ["text", "words", "alive", "k", "form", "kind"] [.str text]) (.val (.tup [.lst (txs (wordsAt 32 text)), .lst (txss forms)])) :=
    ev_tup (eva_cons (ev_split (by decide) (ev_var rfl) ev_c (le_line hl)) (eva_cons (ev_callQ eva_nil rfl ⟨rfl, rfl⟩) eva_nil)) rfl (by show 2 ≤ sizeLine; decide)
  refine sq_unpack hs rfl ⟨can_of rfl, can_of rfl, trivial⟩ ?_
  generalize wordsAt 32 text = ws at q hws hmany hne ⊢
  refine sq_range1 (S := duS text ws forms none) (j := ((txs ws).length : Nat)) (eva_cons (ev_ls (eva_cons (ev_var rfl) eva_nil) rfl len_lst) eva_nil) (by omega) (by rw [List.length_map]; omega) ?_
  rw [Int.toNat_natCast, ups_zero, List.length_map]
  have main : ∀ (n k : Nat) (x : Option SV), k + n = ws.length → (∀ d, x ≠ some (.io d)) → Q (.val (dueFrom text ws k n)) → dTurns [] (dgN 3) (dSeq (if false = true then dOwn mAlive 2 else dAsg mAlive (dgN 2)) (dIfS (dB (dBin fEq (dVar 2) (dLst dNil))) (dRet (dTup (dCons (dC (.str "text")) (dCons (dC (.int 1)) (dCons (dBin fAdd (dVar 3) (dC (.int 1))) dNil))))) dNext)) { endsP Q with nx := dSeq (if false = true then dOwn mSame 2 else dAsg mSame (dgN 2)) mEnd (endsP Q) } (upF k n) (duS text ws (aliveAt ws k) x) := by
    intro n
    induction n with
    | zero =>
      intro k x hk hx hq
      refine (show holds _ _ ∧ _ from ⟨holds_nil, ?_⟩)
      have hk : k = ws.length := by omega
      subst hk
      exact due_end hne hmany hx hq
    | succ n ih =>
      intro k x hk hx hq
      refine turns_cons holds_nil ⟨⟨by simp, fun d e => hx d (by simpa using e)⟩, ?_⟩
      refine sq_lc (S := duS text ws (aliveAt ws k) (some (.val (.int (k : Nat))))) (ev_alive (by omega) hws (alive_len ws k)) rfl rfl ?_
      have hsub : ∀ f ∈ aliveAt ws (k + 1), ∀ w ∈ f, PyData.strOk w = true := fun f hf => forms_ok f (alive_sub ws _ f hf)
      refine st_iff (S := duS text ws (aliveAt ws (k + 1)) (some (.val (.int (k : Nat))))) (b := (aliveAt ws (k + 1)).isEmpty) ?_ ?_ ?_
      · apply evt_b
        apply ev_bin
        · exact ev_var rfl
        · exact ev_lst eva_nil rfl (by decide)
        · rfl
        · rfl
        · rw [eq_nilL (okE_txss hsub), isEmpty_map]
      · intro hb
        unfold dueFrom at hq
        rw [if_pos (List.isEmpty_iff.mp hb)] at hq
        apply st_ret
        · apply ev_tup
          · refine eva_cons ev_c (eva_cons ev_c (eva_cons (ev_bin (ev_var rfl) ev_c rfl rfl rfl) eva_nil))
          · rfl
          · show 3 ≤ sizeLine; decide
        · exact hq
      · intro hb
        unfold dueFrom at hq
        rw [if_neg (fun h => by rw [h] at hb; cases hb)] at hq
        exact ih (k + 1) _ (by omega) (by simp) hq
  exact main ws.length 0 none (by omega) (by simp) q
end
end K89
set_option Elab.async false
set_option linter.all false
set_option maxRecDepth 100000
set_option maxHeartbeats 1000000
/-! Layer D: a module's constants: dicts with text keys, written tuples. -/
namespace DL
open PySem PySem.Spec PyProof.Rows L2
/-- the dict named x: its keys, each with the address of its value -/
structure CTab (K : PySem.W.Frag) (w : World) (mg : Str → Option Value) (x : Str) (tbl : List (Str × Addr)) : Prop where
  ex : ∃ d es n, mg x = some (.ref d) ∧ KDict K w d es n ∧ ∀ z, PySem.W.nsIn K d z = some ((tbl.lookup z).map Value.ref)
/-- the written tuple at a -/
def KTup (K : PySem.W.Frag) (a : Addr) (ds : List D) : Prop := ∀ (Z : Addr → Prop) (H : Hp), ∃ vs, SqT K H a vs ∧ Reps Z H ds vs
section
variable {X : Cx} {G : Gb} {a b e : Expr} {ma mb me : DM} {ms : DAm} {pos p tpos : Pos} {x : Str} {tbl : List (Str × Addr)} {kt : Addr → Option (List D)}
def fKin (neg : Bool) (tbl : List (Str × Addr)) : D → Option EV
  | .str z => some (.val (.bl (xor neg (tbl.lookup z).isSome)))
  | _ => none
theorem top_ref {Z : Addr → Prop} {H : Hp} {c : Addr} {v : V} (h : Top Z H (.ref c) v) : v = .ref c := by simpa only [Top, Rep] using h
theorem tKin_of {r : R2} {v : V} {f : D → Option EV} (hd : UnD (fun x H Q => r x v H Q) f) (h1 : Mono ma) {σ : L2.St} {H : Hp} {Q : VK} (h : tD G (dUn f ma) σ H Q) : tOp r (tD G ma) (tC v) σ H Q := tUn_of hd h1 h
theorem tKix_of {r : R2} {v : V} {f : D → Option EV} (hd : UnD (fun x H Q => r v x H Q) f) (h1 : Mono ma) {σ : L2.St} {H : Hp} {Q : VK} (h : tD G (dUn f ma) σ H Q) : tOp r (tC v) (tD G ma) σ H Q := tUn_of hd h1 h
theorem t_kin (c : CTab X.K X.w X.mg x tbl) (ha : DE X G a ma) (hg : Gl X x := by rfl) (hm : behindInMarks .In (.Name x p) = false := by with_unfolding_all rfl) (hdb : (x == ("__debug__" : Str)) = false := by decide) : DT X G (.Compare a [.In] [.Name x p] pos) (dB (dUn (fKin false tbl) ma)) := by
  obtain ⟨d, es, n, hmg, kd, hv⟩ := c.ex
  refine ⟨pt_of (pt_cmpR (op_in_kd kd) ha.run (pe_glob (v := .ref d) hg hmg rfl hdb) hm) fun σ H Q q => ?_, mono_b (mono_un ha.mono)⟩
  refine tKin_of (v := .ref d) (fun Z H y c ev Q t e q => ?_) ha.mono (tB_of (mono_un ha.mono) q)
  unfold fKin at e
  split at e
  · cases e
    rw [top_str t]
    refine ⟨_, _, rfl, rfl, hv _, ?_⟩
    have := q (.bl (xor false (tbl.lookup _).isSome)) H (Same.refl H) rv_bl
    simpa using this
  · cases e
theorem t_knin (c : CTab X.K X.w X.mg x tbl) (ha : DE X G a ma) (hg : Gl X x := by rfl) (hm : behindInMarks .NotIn (.Name x p) = false := by with_unfolding_all rfl) (hdb : (x == ("__debug__" : Str)) = false := by decide) : DT X G (.Compare a [.NotIn] [.Name x p] pos) (dB (dUn (fKin true tbl) ma)) := by
  obtain ⟨d, es, n, hmg, kd, hv⟩ := c.ex
  refine ⟨pt_of (pt_cmpR (op_notIn_kd kd) ha.run (pe_glob (v := .ref d) hg hmg rfl hdb) hm) fun σ H Q q => ?_, mono_b (mono_un ha.mono)⟩
  refine tKin_of (v := .ref d) (fun Z H y c ev Q t e q => ?_) ha.mono (tB_of (mono_un ha.mono) q)
  unfold fKin at e
  split at e
  · cases e
    rw [top_str t]
    refine ⟨_, _, rfl, rfl, hv _, ?_⟩
    have := q (.bl (xor true (tbl.lookup _).isSome)) H (Same.refl H) rv_bl
    simpa using this
  · cases e
def fKix (tbl : List (Str × Addr)) : D → Option EV
  | .str z => (tbl.lookup z).map fun a => .val (.ref a)
  | _ => none
theorem e_kix (c : CTab X.K X.w X.mg x tbl) (ha : DE X G a ma) (hg : Gl X x := by rfl) (hs : PlainIx a := by intro _ _; rfl) (hdb : (x == ("__debug__" : Str)) = false := by decide) : DE X G (.Subscript (.Name x p) a pos) (dUn (fKix tbl) ma) := by
  obtain ⟨d, es, n, hmg, kd, hv⟩ := c.ex
  refine ⟨pe_of (pe_ix ix_kdict (pe_glob (v := .ref d) hg hmg rfl hdb) ha.run hs) fun σ H Q q => ?_, mono_un ha.mono⟩
  refine tKix_of (v := .ref d) (fun Z H y c ev Q t e q => ?_) ha.mono q
  unfold fKix at e
  split at e
  · rename_i z
    obtain ⟨b, eb, rfl⟩ := Option.map_eq_some_iff.mp e
    rw [top_str t]
    exact ⟨d, z, .ref b, rfl, rfl, ⟨es, n, .ref b, kd.at_, kd.lit, by rw [hv, eb]; rfl, rfl⟩, q (.ref b) H (Same.refl H) (by simp only [RvAt, Rep])⟩
  · cases e
/-! ### written tuples -/
abbrev KTs (K : PySem.W.Frag) (kt : Addr → Option (List D)) : Prop := ∀ a ds, kt a = some ds → KTup K a ds
def dgTupK (kt : Addr → Option (List D)) (is : List Nat) : DGm := fun d S Q => ∃ a ds, d = .ref a ∧ kt a = some ds ∧ ds.length = is.length ∧ canAll S is ∧ Q (putAll is ds S)
def fIxK (kt : Addr → Option (List D)) : D → D → Option EV
  | .ref a, .int i => (kt a).bind fun ds => (L2.atI ds i).map .val
  | _, _ => none
theorem opd_ixK (h : KTs X.K kt) : OpD (rIx X.K) (fIxK kt) := by
  intro Z H x y c d ev Q t1 t2 e q
  unfold fIxK at e
  split at e
  · obtain ⟨ds, e1, e2⟩ := Option.bind_eq_some_iff.mp e
    obtain ⟨w, e3, rfl⟩ := Option.map_eq_some_iff.mp e2
    obtain ⟨vs, r, rs⟩ := h _ ds e1 Z H
    obtain ⟨v, h1, h2⟩ := rs.atI e3
    rw [top_int t2, top_ref t1]
    exact .inr (.inl ⟨_, vs, _, v, rfl, rfl, r, h1, q _ H (Same.refl H) h2⟩)
  · cases e
theorem e_ixK (h : KTs X.K kt) (ha : DE X G a ma) (hb : DE X G b mb) (hs : PlainIx b := by intro _ _; rfl) : DE X G (.Subscript a b pos) (dBin (fIxK kt) ma mb) := de_ix ix_seq (opd_ixK h) ha hb hs
def fLenK (kt : Addr → Option (List D)) : D → Option EV
  | .ref a => (kt a).map fun ds => .val (.int ds.length)
  | _ => none
theorem lsd_lenK (h : KTs X.K kt) : LsD (fun xs H Q => ∃ x n, xs = [x] ∧ LenV X.K x H n ∧ Q (.int n) H) (one (fLenK kt)) := by
  refine lsd_one fun Z H x c ev Q t e q => ?_
  unfold fLenK at e
  split at e
  · obtain ⟨ds, e1, rfl⟩ := Option.map_eq_some_iff.mp e
    obtain ⟨vs, r, rs⟩ := h _ ds e1 Z H
    rw [top_ref t]
    refine ⟨_, vs.length, rfl, (show LenV X.K (.ref _) H _ from Or.inr ⟨vs, r, rfl⟩), ?_⟩
    rw [← rs.length]
    exact q _ H (Same.refl H) rv_int
  · cases e
theorem e_lenK (h : KTs X.K kt) (hm : X.mg "len" = none) (ha : DA X G (e :: []) ms) (hg : Gl X "len" := by rfl) (he : starEach (e :: []) X.env = (false, eval e X.env) :: starEach [] X.env := by rfl) (hpl : (backTo pos (starEach [] X.env)).any (·.1) = false := by rfl) :
    DE X G (.Call (.Name "len" p) (e :: []) [] pos) (dLs (one (fLenK kt)) ms) := de_callB call_len (lsd_lenK h) hg hm (by decide +kernel) ha (by decide) (by decide) he hpl
/-- t != () -/
def fNeK (kt : Addr → Option (List D)) : D → D → Option EV
  | .ref a, .tup [] => (kt a).bind fun ds => if okE (.tup ds) = true then some (.val (.bl (!ds.isEmpty))) else none
  | _, _ => none
theorem opd_neK (h : KTs X.K kt) : OpD (fun x y H Q => rNe x y H Q ∨ rNeD X.K x y H Q) (fNeK kt) := by
  intro Z H x y c d ev Q t1 t2 e q
  unfold fNeK at e
  split at e
  · obtain ⟨ds, e1, e2⟩ := Option.bind_eq_some_iff.mp e
    split at e2
    · rename_i hok
      cases e2
      obtain ⟨vs, r, rs⟩ := h _ ds e1 Z H
      rw [top_ref t1]
      have hl := okE_lay hok
      have hl' : PyData.canLayAll0 (toPs ds) = true := by simpa only [toP, PyData.canLay0] using hl
      have h2 : okE (.tup []) = true := by decide
      refine .inr ⟨toP (.tup ds), toP (.tup []), ?_, t2.dp (okE_lay h2), hok, h2, ?_⟩
      · simp only [toP]
        exact .tup r (rs.dp hl')
      · have e : PyData.eqv (toP (.tup ds)) (toP (.tup [])) = ds.isEmpty := by cases ds <;> rfl
        rw [e]
        exact q _ H (Same.refl H) rv_bl
    · cases e2
  · cases e
theorem t_neK {k : Nat} (h : KTs X.K kt) (hr : Room k X.A) (ha : DE X G a ma) (hb : DE X G b mb) : DT X G (.Compare a [.NotEq] [b] pos) (dB (dBin (fNeK kt) ma mb)) := dt_cmp (opr_ne hr) (opd_neK h) ha hb (nomark _)
theorem walkEK {a : Addr} {xs : List D} (h : KTup X.K a xs) : WalkD (Itu X.K a) [.ref a] ⟨[(.val (.ref a), .ref a)], pairs 0 xs⟩ := by
  have hl : (⟨[(.val (.ref a), .ref a)], pairs 0 xs⟩ : IT).items.length = xs.length := pairs_len
  refine ⟨⟨fun i H hi g => ?_, fun H g => ?_, fun i H x H' hi g y Z t => ?_⟩⟩
  · obtain ⟨vs, r, q⟩ := h (fun _ => False) H
    rw [hl] at hi
    exact ⟨vs, vs[i]'(by rw [← q.length]; exact hi), r, by simp⟩
  · obtain ⟨vs, r, q⟩ := h (fun _ => False) H
    exact ⟨vs, r, by rw [hl]; exact q.length.symm⟩
  · obtain ⟨vs, r, q⟩ := h Z H
    obtain ⟨T, x', ev, n, e', y⟩ := y
    subst ev e'
    obtain ⟨d, hd, rd⟩ := q.get' (y vs r)
    exact ⟨_, pairs_get hd, same_upd n, by rw [Nat.zero_add]; exact rep_pair n rd⟩
def seqK (kt : Addr → Option (List D)) : D → Option (List D)
  | .ref a => kt a
  | _ => none
theorem di_enumK {elts : List Expr} {kk : Nat} (h : KTs X.K kt) (hg : Gl X "enumerate") (hm : X.mg "enumerate" = none) (ha : DA X G [e] ms) (hs : starEach [e] X.env = [(false, eval e X.env)] := by rfl) : DI X G (.Tuple elts kk tpos) (.Call (.Name "enumerate" p) [e] [] pos) (dEnum (seqK kt) ms) := by
  refine ⟨⟨fun pins s σ H R I q => (pi_enumT hg hm ha.run hs).run pins s σ H R I ?_⟩, mono_enum ha.mono⟩
  obtain ⟨F, S, hG, R, q⟩ := q
  refine ⟨F, S, hG, R, ha.mono _ _ _ (fun evs S1 ⟨ev, c, S2, xs, e0, e1, e2, p⟩ xs' H1 hx R1 a1 => ?_) q⟩
  subst e0
  obtain ⟨v, ev', R2⟩ := enum_at hx R1 a1 e1
  unfold seqK at e2
  split at e2
  · rename_i a
    have hv := top_ref (one_tops R2)
    subst hv
    obtain ⟨vs, r, _⟩ := h a xs e2 (fun _ => False) H1
    exact ⟨a, vs, ev', r, p [(.ref a, .val (.ref a))] H1 _ rfl (push1 R2) (by simp [EvAt]) (walkEK (h a xs e2))⟩
  · cases e2
theorem dg_tupK {es : List Expr} {k : Nat} {is : List Nat} (h : KTs X.K kt) (hc : X.calm = true) (hN : X.N.Nodup) (hm : NmsOk X es is) (hn : (assignEach es X.env).length = is.length := by rfl) (hst : (assignEach es X.env).findIdx? (·.1) = none := by rfl) : DG X G (.Tuple es k pos) (dgTupK kt is) := by
  refine ⟨⟨fun pins s σ H v u Q I r q => (pg_tup hc (pgs_names G hN hm fun _ => rfl) hn hst).run pins s σ H v u Q I r ?_⟩, fun d S P P' k ⟨a, ds, e, e2, l, c, q⟩ => ⟨a, ds, e, e2, l, c, k _ q⟩⟩
  obtain ⟨F, S, d, hG, R, a, ds, rfl, e2, l, c, q⟩ := q
  have hv : v = .ref a := top_ref (one_tops R)
  subst hv
  obtain ⟨vs, r, rs⟩ := h a ds e2 (Zs F σ S) H
  exact ⟨a, vs, rfl, r, by rw [← rs.length, l], F, S, ds, hG, R.pop, rs, l, c, q⟩
theorem sq_unpackK {m2 : DSm} {E : DEnds} {S : DS} {is : List Nat} {a : Addr} {ds : List D} (h : Ev ma S (.val (.ref a))) (hk : kt a = some ds) (hl : ds.length = is.length) (hc : canAll S is) (q : m2 E (putAll is ds S)) : dSeq (dAsg ma (dgTupK kt is)) m2 E S := h.run _ ⟨_, _, rfl, a, ds, rfl, hk, hl, hc, q⟩
end
end DL
set_option Elab.async false
set_option linter.all false
set_option maxRecDepth 100000
set_option maxHeartbeats 1000000
/-! Layer D: own exceptions by name. -/
namespace DL
open PySem PySem.Spec PyProof.Rows L2
structure Exc (P : Program) (w : World) (K : PySem.W.Frag) (mg : Str → Option Value) (base : Heap) (k : Nat) (x : Str) (C : Addr) (ns : List Str) : Prop where
  ex : ∃ fI fd ps, mg x = some (.ref C) ∧ OexC K C ∧ PySem.W.findIn K (.ref C) "__init__" = some (some (.ref fI)) ∧ PySem.W.typeIn K (.ref fI) = some (.type "function") ∧ FnOk P w K mg base CX0 k fI fd ps (spX C ns) ∧ Binds K fd ps []
section
variable {X : Cx} {G : Gb} {Xd : DXm} {e : Expr} {es : List Expr} {ms : DAm} {k j : Nat} {x : Str} {C : Addr} {ns : List Str} {p pos pos' : Pos}
theorem s_raise (c : Exc X.prog X.w X.K X.mg X.base k x C ns) (hc : X.calm = true) (tk : Takes X (wD G Xd)) (hr : Room j X.A) (ha : DA X G (e :: es) ms) (hk : k + 1 ≤ j := by decide) (hg : Gl X x := by rfl)
    (hdb : (x == ("__debug__" : Str)) = false := by decide) (he : starEach (e :: es) X.env = (false, eval e X.env) :: starEach es X.env := by rfl) (hpl : (backTo pos (starEach es X.env)).any (·.1) = false := by rfl) :
    DStm X G (.Raise (some (.Call (.Name x p) (e :: es) [] pos)) none pos') (dRaise Xd C ns ms) := by
  obtain ⟨fI, fd, ps, hm, T, iC, tI, F, hb⟩ := c.ex
  exact ds_raise hc tk T iC tI F (hr.mono hk) hb hg hm ha hdb he hpl
theorem st_raise {D : DEnds} {S S2 : DS} {evs : List EV} {ws : List DL.D} (h : EvA ms S evs) (e : asVals S evs = some (ws, S2)) (hl : ws.length = ns.length) (h2 : ws.length ≤ 1000) (q : Xd ⟨C, ns.reverse, ws.reverse⟩ S2) : dRaise Xd C ns ms D S := h.run _ ⟨ws, S2, e, hl, h2, q⟩
end
/-! ### a text in a tuple of texts -/
def fInT (neg : Bool) : D → D → Option EV
  | .str x, .tup ds => (allStr ds).map fun ys => .val (.bl (xor neg (decide (x ∈ ys))))
  | _, _ => none
theorem inV_strs (x : Str) : ∀ ys : List Str, inV (.str x) (ys.map V.str) = decide (x ∈ ys)
  | [] => rfl
  | y :: ys => by
    have ih := inV_strs x ys
    unfold inV at ih ⊢
    rw [List.map_cons, List.any_cons, ih]
    show ((y == x) || _) = _
    by_cases h : y = x
    · subst h; simp
    · have : (y == x) = false := by simpa using h
      rw [this]
      simp [Ne.symm h]
theorem flat_strs : ∀ ys : List Str, (ys.map V.str).all flatV = true
  | [] => rfl
  | y :: ys => by rw [List.map_cons, List.all_cons, flat_strs ys]; rfl
theorem opd_inT {K : PySem.W.Frag} {neg : Bool} : OpD (rIn K neg) (fInT neg) := by
  intro Z H x y c d ev Q t1 t2 e q
  unfold fInT at e
  split at e
  · obtain ⟨ys, e1, rfl⟩ := Option.map_eq_some_iff.mp e
    obtain ⟨a, vs, rfl, r, rs⟩ := top_tup t2
    rw [rs.strs e1] at r
    rw [top_str t1]
    refine ⟨a, _, rfl, .inr (.inl r), rfl, flat_strs ys, ?_⟩
    rw [inV_strs]
    have := q (.bl (xor neg (decide (_ ∈ ys)))) H (Same.refl H) rv_bl
    cases neg <;> simpa using this
  · cases e
section
variable {X : Cx} {G : Gb} {a b : Expr} {ma mb : DM} {pos : Pos}
theorem t_inT (ha : DE X G a ma) (hb : DE X G b mb) (hm : behindInMarks .In b = false := by with_unfolding_all rfl) : DT X G (.Compare a [.In] [b] pos) (dB (dBin (fInT false) ma mb)) := dt_cmp op_in_seq opd_inT ha hb hm
theorem t_ninT (ha : DE X G a ma) (hb : DE X G b mb) (hm : behindInMarks .NotIn b = false := by with_unfolding_all rfl) : DT X G (.Compare a [.NotIn] [b] pos) (dB (dBin (fInT true) ma mb)) := dt_cmp op_notIn_seq opd_inT ha hb hm
end
end DL
set_option Elab.async false
set_option linter.all false
set_option maxRecDepth 100000
set_option maxHeartbeats 1000000
namespace K89
open PySem PySem.Spec PyProof.Rows L2 DL
/-! ### Vow's reader -/
def plainK : List Str := ["within", "beyond", "allowed", "like"]
def timedK : List Str := ["free", "hangs", "holds", "strong"]
def badX (C : Addr) (line : Int) (col : Int) : DX := ⟨C, ["column", "line"], [.int col, .int line]⟩
def kindAt (ws : List Str) : Int ⊕ Int :=
  if isNm (ws.getD 0 "") = false then .inr 1
  else if ws.length = 1 ∨ (ws.getD 1 "" ∉ plainK ∧ ws.getD 1 "" ≠ "now" ∧ ws.getD 1 "" ≠ "then") then .inr 2
  else if ws.getD 1 "" ∈ plainK then .inl 2
  else if ws.length = 2 ∨ ws.getD 2 "" ∉ timedK then .inr 3
  else .inl 3
def r_kind_at (C : Addr) : List D → Out → Prop := fun ds o => ∃ ws : List Str, ds = [.lst (txs ws)] ∧ ws ≠ [] ∧ (∀ p ∈ ws, p.length ≤ 100000 ∧ PyData.strOk p = true) ∧ o = match kindAt ws with
  | .inl k => .inl (.val (.int k))
  | .inr c => .inr (badX C 1 c)
/-- the keys of a table -/
def keysOf (tbl : List (Str × Addr)) : List Str := tbl.map (·.1)
theorem lookup_isSome : ∀ (tbl : List (Str × Addr)) (z : Str), (tbl.lookup z).isSome = decide (z ∈ keysOf tbl)
  | [], z => rfl
  | (k, a) :: r, z => by
    rw [List.lookup_cons]
    by_cases h : z = k
    · subst h; simp [keysOf]
    · have : (z == k) = false := by simpa using h
      rw [this]
      have ih := lookup_isSome r z
      show (r.lookup z).isSome = _
      rw [ih]
      show decide (z ∈ keysOf r) = decide (z ∈ k :: keysOf r)
      simp [h]
section
variable {P : Program} {w : World} {K : PySem.W.Frag} {mg : Str → Option Value} {base : Heap} {f : Addr} {fd : FuncData} {C : Addr} {tblP tblT : List (Str × Addr)}
theorem sc_kind_at : FnScope ["words"] ["words"] (defScope s_kind_at) := ⟨rfl, rfl, rfl, by decide +kernel, rfl, by decide +kernel, by decide +kernel⟩
theorem getD_some {ws : List Str} {i : Nat} (h : i < ws.length) : ws[i]? = some (ws.getD i "") := by rw [List.getD_eq_getElem?_getD, List.getElem?_eq_getElem h]; rfl
theorem ixw {ws : List Str} {i : Nat} (h : i < ws.length) : fIx (.lst (txs ws)) (.int (i : Nat)) = some (.val (.str (ws.getD i ""))) := ix_lst (by rw [List.getElem?_map, getD_some h]; rfl)
theorem ok_kind_at (hP : keysOf tblP = plainK) (hT : keysOf tblT = timedK) (F : FnP K "kind_at" s_kind_at f fd) (g_len : mg "len" = none) (c_is_name : Cal P w K mg base 2 "is_name" ["value"] (spP (spQ r_is_name))) (k_PLAIN : CTab K w mg "PLAIN" tblP) (k_TIMED : CTab K w mg "TIMED" tblT)
    (c_BadText : Exc P w K mg base 1 "BadText" C ["line", "column"]) : FnG P w K mg base 4 f fd ["words"] (spP (spQ (r_kind_at C))) := by
  refine fnP_ok F sc_kind_at (spQ_len fun ds o ⟨_, e, _⟩ => by rw [e]; rfl) fun cdv A outer st H E G Y B => ?_
  have hr := B.room
  have hgd := B.gd
  have tk := B.tk
  have nd := sc_kind_at.nd
  refine ⟨_, (db_cons (ds_if (dt_not (dt_val (e_call c_is_name mono_Q takes_no hr hgd (da_cons (e_ix (de_var 0) de_int) da_nil)))) (db_one (s_raise c_BadText rfl tk hr (da_cons de_int (da_cons de_int da_nil)))) db_nil)
    (db_cons (ds_if (dt_w (dw_or (t_eq hr (e_len g_len (da_cons (de_var 0) da_nil)) de_int) (dw_or1 (dt_w (dw_and (t_knin k_PLAIN (e_ix (de_var 0) de_int)) (dw_and1 (t_ninT (e_ix (de_var 0) de_int) (de_tup (da_cons de_str (da_cons de_str da_nil)))))))))) (db_one (s_raise c_BadText rfl tk hr (da_cons de_int (da_cons de_int da_nil)))) db_nil)
    (db_cons (ds_if (t_kin k_PLAIN (e_ix (de_var 0) de_int)) (db_one (ds_ret de_int)) db_nil)
    (db_cons (ds_if (dt_w (dw_or (t_eq hr (e_len g_len (da_cons (de_var 0) da_nil)) de_int) (dw_or1 (t_knin k_TIMED (e_ix (de_var 0) de_int))))) (db_one (s_raise c_BadText rfl tk hr (da_cons de_int (da_cons de_int da_nil)))) db_nil)
    (db_one (ds_ret de_int)))))), ?_⟩
  rintro ds Q ⟨_, ⟨ws, rfl, hne, hws, rfl⟩, q⟩
  have hl0 : 0 < ws.length := List.length_pos_iff.mpr hne
  have h0 := hws _ (List.mem_of_getElem? (getD_some hl0))
  have e2 : (decide ((((txs ws).length : Nat) : Int) = 1)) = decide (ws.length = 1) := by
    rw [List.length_map]; congr 1; exact propext ⟨fun h => by omega, fun h => by omega⟩
  have e3 : (decide ((((txs ws).length : Nat) : Int) = 2)) = decide (ws.length = 2) := by
    rw [List.length_map]; congr 1; exact propext ⟨fun h => by omega, fun h => by omega⟩
  unfold kindAt at q
  apply sq_if (b := !isNm (ws.getD 0 ""))
  · apply evt_not
    apply evt_b
    exact ev_callQ (eva_cons (ev_bin (ev_var rfl) ev_c rfl rfl (ixw hl0)) eva_nil) rfl ⟨_, rfl, le1 h0.1, rfl⟩
  · intro hb
    rw [if_pos (by simpa using hb)] at q
    exact st_raise (eva_cons ev_c (eva_cons ev_c eva_nil)) rfl rfl (by decide) q
  intro hb
  rw [if_neg (by simpa using hb)] at q
  clear hb
  apply sq_if (b := decide (ws.length = 1) || (!decide (ws.getD 1 "" ∈ plainK) && !decide (ws.getD 1 "" ∈ (["now", "then"] : List Str))))
  · apply evt_or
    · rw [← e2]
      exact evt_b (ev_bin (ev_ls (eva_cons (ev_var rfl) eva_nil) rfl len_lst) ev_c rfl rfl rfl)
    · intro h
      have h1 : 1 < ws.length := by have := of_decide_eq_false h; omega
      apply evt_and
      · apply evt_b
        refine ev_un (ev_bin (ev_var rfl) ev_c rfl rfl (ixw h1)) rfl ?_
        show some (EV.val (.bl (xor true (tblP.lookup (ws.getD 1 "")).isSome))) = _
        rw [lookup_isSome, hP, Bool.true_xor]
      · intro _
        apply evt_b
        exact ev_bin (ev_bin (ev_var rfl) ev_c rfl rfl (ixw h1)) (ev_tup (eva_cons ev_c (eva_cons ev_c eva_nil)) rfl (by decide)) rfl rfl (by show some (EV.val (.bl (xor true _))) = _; rw [Bool.true_xor])
  · intro hb
    rw [if_pos ?_] at q
    · exact st_raise (eva_cons ev_c (eva_cons ev_c eva_nil)) rfl rfl (by decide) q
    · simpa [and_assoc] using hb
  intro hb
  rw [if_neg (by simpa [and_assoc] using hb)] at q
  have h1 : 1 < ws.length := by
    simp only [Bool.or_eq_false_iff, decide_eq_false_iff_not] at hb
    have := hb.1
    omega
  clear hb
  apply sq_if (b := decide (ws.getD 1 "" ∈ plainK))
  · apply evt_b
    refine ev_un (ev_bin (ev_var rfl) ev_c rfl rfl (ixw h1)) rfl ?_
    show some (EV.val (.bl (xor false (tblP.lookup (ws.getD 1 "")).isSome))) = _
    rw [lookup_isSome, hP, Bool.false_xor]
  · intro hb
    rw [if_pos (of_decide_eq_true hb)] at q
    exact st_ret ev_c q
  intro hb
  rw [if_neg (of_decide_eq_false hb)] at q
  clear hb
  apply sq_if (b := decide (ws.length = 2) || !decide (ws.getD 2 "" ∈ timedK))
  · apply evt_or
    · rw [← e3]
      exact evt_b (ev_bin (ev_ls (eva_cons (ev_var rfl) eva_nil) rfl len_lst) ev_c rfl rfl rfl)
    · intro h
      have h2 : 2 < ws.length := by have := of_decide_eq_false h; omega
      apply evt_b
      refine ev_un (ev_bin (ev_var rfl) ev_c rfl rfl (ixw h2)) rfl ?_
      show some (EV.val (.bl (xor true (tblT.lookup (ws.getD 2 "")).isSome))) = _
      rw [lookup_isSome, hT, Bool.true_xor]
  · intro hb
    rw [if_pos (by simpa using hb)] at q
    exact st_raise (eva_cons ev_c (eva_cons ev_c eva_nil)) rfl rfl (by decide) q
  intro hb
  rw [if_neg (by simpa using hb)] at q
  exact st_ret ev_c q
end
end K89
set_option Elab.async false
set_option linter.all false
set_option maxRecDepth 100000
set_option maxHeartbeats 1000000
/-! Layer D: comprehensions over range. -/
namespace DL
open PySem PySem.Spec PyProof.Rows L2
def natOf : D → Nat
  | .int i => i.toNat
  | _ => 0
theorem ups_map {α : Type} (gt : Nat → α) (n : Nat) : (ups 0 n).map (fun d => gt (natOf d)) = (List.range n).map gt := by
  unfold ups
  rw [List.map_map]
  apply List.map_congr_left
  intro i _
  simp [natOf]
theorem ups_mem {n : Nat} {d : D} (h : d ∈ ups 0 n) : ∃ k : Nat, k < n ∧ d = .int (k : Nat) := by
  unfold ups at h
  obtain ⟨k, hk, e⟩ := List.mem_map.mp h
  exact ⟨k, List.mem_range.mp hk, by rw [← e, Int.zero_add]⟩
section
variable {ms : DAm} {m : DM} {S : DS} {i : Nat} {vs : List Nat} {j : Int}
theorem ev_lcR (h1 : EvA ms S [.val (.int j)]) (hj : -(2 ^ 62) ≤ j) (hj2 : j < 2 ^ 62) (hw : wipeD S vs = S) (hset : ∀ d, wipeD (S.set i (some (.val d))) vs = S) (hcan : canB S i = true) (gt : Nat → D)
    (he : ∀ k : Nat, k < j.toNat → Ev m (S.set i (some (.val (.int (k : Nat))))) (.val (gt k))) (hl : j.toNat ≤ sizeLine) : Ev (dLc (dRange1 ms) i dYes m vs) S (.own (.lst ((List.range j.toNat).map gt))) := Ev.mk fun Q q => h1.run _ ⟨j, rfl, hj, hj2, by
  show dLcT [] i dYes m vs _ [] (ups 0 j.toNat) (wipeD S vs)
  rw [hw]
  refine lcT_pure holds_nil hset (can_of hcan) (fun _ => true) (fun d => gt (natOf d)) (fun _ _ => evt_yes) (fun d hd _ => ?_) (by rw [List.length_nil, show (ups 0 j.toNat).length = j.toNat by simp [ups]]; omega) ?_
  · obtain ⟨k, hk, rfl⟩ := ups_mem hd
    exact he k hk
  · show Q _ (wipeD S vs)
    rw [hw, List.nil_append, List.filter_eq_self.mpr (by simp), ups_map]
    exact q⟩
/-- name = [..], where the block's names stood known -/
theorem sq_lcE {ma : DM} {ea : EV} {c : D} {f : D → Option (List D)} {ds : List D} {S1 : DS} {m2 : DSm} {E : DEnds} {l : Nat} (h1 : Ev ma S ea) (e1 : asVal S ea = some (c, S)) (e2 : f c = some ds) (hw : wipeD S vs = S1) (hw1 : wipeD S1 vs = S1) (hset : ∀ d, wipeD (S1.set i (some (.val d))) vs = S1) (hcan : canB S1 i = true) (gt : D → D)
    (he : ∀ d ∈ ds, Ev m (S1.set i (some (.val d))) (.val (gt d))) (hl : ds.length ≤ sizeLine) (hc : canB S1 l = true) (q : m2 E (S1.set l (some (.val (.lst (ds.map gt)))))) : dSeq (dAsg (dLc (dIt f ma) i dYes m vs) (dgN l)) m2 E S := by
  refine h1.run _ ⟨c, S, ds, e1, e2, ?_⟩
  show dLcT [(.val c, c)] i dYes m vs _ [] ds (wipeD S vs)
  rw [hw]
  refine lcT_pure holds_one hset (can_of hcan) (fun _ => true) gt (fun _ _ => evt_yes) (fun d hd _ => he d hd) (by rw [List.length_nil]; omega) ?_
  rw [List.nil_append, List.filter_eq_self.mpr (by simp)]
  show ∃ d S2, asVal (wipeD S1 vs) (.own (.lst (ds.map gt))) = some (d, S2) ∧ dgN l d S2 _
  rw [hw1]
  exact ⟨_, _, rfl, can_of hc, q⟩
end
end DL
set_option Elab.async false
set_option linter.all false
set_option maxRecDepth 100000
set_option maxHeartbeats 1000000
namespace K89
open PySem PySem.Spec PyProof.Rows L2 DL
/-! ### the cells behind -/
def badFrom (m : Nat) : Nat → List Str → Option Nat
  | _, [] => none
  | k, w :: r => if 4 * m ≤ k ∨ isZ w = false then some k else badFrom m (k + 1) r
def cellsErr (ws : List Str) (b m : Nat) : Option Nat := match badFrom m 0 (ws.drop b) with
  | some k => some (b + k + 1)
  | none => if m = 0 then none else if (ws.drop b).length / m * m ≠ (ws.drop b).length ∨ (ws.drop b).length / m < 2 then some (ws.length + 1) else none
def preCells : List D → Prop := fun ds => ∃ (ws : List Str) (b m : Nat), ds = [.lst (txs ws), .int b, .int m] ∧ b ≤ 100000 ∧ m ≤ 2 ∧ ws.length ≤ 100001 ∧ ∀ p ∈ ws, p.length ≤ 100000 ∧ PyData.strOk p = true
def postCells (C : Addr) : List D → Out → Prop := fun ds o => ∀ (ws : List Str) (b m : Nat), ds = [.lst (txs ws), .int b, .int m] → match cellsErr ws b m with
  | some c => o = .inr (badX C 1 c)
  | none => ∃ d, o = .inl (.val d)
theorem txs_inj : ∀ {a b : List Str}, txs a = txs b → a = b
  | [], [], _ => rfl
  | [], _ :: _, h => by simp at h
  | _ :: _, [], h => by simp at h
  | x :: a, y :: b, h => by
    simp only [List.map_cons, List.cons.injEq, D.str.injEq] at h
    rw [h.1, txs_inj h.2]
theorem cutS_one (w : Str) : cs (cutS w none (some 1)) = (cs w).take 1 := by
  show ((w.cps.toList.drop (HT.sIx w.length 0 none)).take (HT.sIx w.length w.length (some 1) - HT.sIx w.length 0 none)) = _
  rw [HT.sIx_none, show (some (1 : Int)) = some ((1 : Nat) : Int) from rfl, HT.sIx_nat, List.drop_zero, Nat.sub_zero]
  have := cs_len w
  cases hc : cs w with
  | nil => show (cs w).take _ = _; rw [hc]; simp
  | cons c r =>
    have hl : 1 ≤ w.length := by rw [← this, hc]; simp
    rw [Nat.min_eq_left hl]
    show (cs w).take 1 = _
    rw [hc]
theorem cutS_tail (w : Str) : cs (cutS w (some 1) none) = (cs w).drop 1 := by
  show ((w.cps.toList.drop (HT.sIx w.length 0 (some 1))).take (HT.sIx w.length w.length none - HT.sIx w.length 0 (some 1))) = _
  rw [HT.sIx_none, show (some (1 : Int)) = some ((1 : Nat) : Int) from rfl, HT.sIx_nat]
  have := cs_len w
  cases hc : cs w with
  | nil => show ((cs w).drop _).take _ = _; rw [hc]; simp
  | cons c r =>
    have hl : w.length = r.length + 1 := by rw [← this, hc]; simp
    rw [Nat.min_eq_left (by omega)]
    show ((cs w).drop 1).take _ = _
    rw [hc, hl]
    simp
theorem int_isZ {w : Str} (h : isZ w = true) : ∃ n, fIntOf (.str w) = some (.val (.int n)) := by
  unfold isZ at h
  rcases Bool.or_eq_true_iff.mp h with h | h
  · exact int_isN h
  · simp only [Bool.and_eq_true, decide_eq_true_eq, Bool.not_eq_true', decide_eq_false_iff_not] at h
    obtain ⟨h1, h2, h3⟩ := h
    obtain ⟨d1, d2, d3⟩ := isN_digits h3
    have e1 := cutS_one w
    have e2 := cutS_tail w
    rw [h1] at e1
    rw [e2] at d1 d2
    cases hc : cs w with
    | nil => rw [hc] at d2; simp at d2
    | cons c r =>
      rw [hc] at e1 d1 d2
      simp only [List.drop_succ_cons, List.drop_zero] at d1 d2
      have hcc : c = 45 := by
        have e3 : cs ("-" : Str) = [45] := by decide +kernel
        rw [e3] at e1
        simpa using e1.symm
      subst hcc
      have hl : (cutS w (some 1) none).length = r.length := by
        rw [← cs_len, e2, hc]; rfl
      have hw : w.length = r.length + 1 := by rw [← cs_len, hc]; rfl
      refine ⟨-((NumText.digitsVal r : Nat) : Int), ?_⟩
      show (if w.length ≤ 640 then (PySem.intText? w).map fun n => EV.val (.int n) else none) = _
      rw [if_pos (by omega), PySem.intText_neg hc d1 d2 (by omega)]
      rfl
section
variable {P : Program} {w : World} {K : PySem.W.Frag} {mg : Str → Option Value} {base : Heap} {f : Addr} {fd : FuncData} {C : Addr}
theorem sc_cells_behind : FnScope ["words", "begin", "many", "rest", "at", "word", "size", "numbers", "k"] ["words", "begin", "many"] (defScope s_cells_behind) := ⟨rfl, rfl, rfl, by decide +kernel, rfl, by decide +kernel, by decide +kernel⟩
abbrev ceS (ws : List Str) (b m : Nat) (rest : List Str) (x y : Option SV) : DS := [some (.val (.lst (txs ws))), some (.val (.int b)), some (.val (.int m)), some (.val (.lst (txs rest))), x, y, none, none, none]
theorem cutD_from {α : Type} (xs : List α) (b : Nat) : DL.cutD xs (some (b : Int)) none = xs.drop b := by
  unfold DL.cutD
  rw [HT.sIx_none, HT.sIx_nat]
  by_cases h : b ≤ xs.length
  · rw [Nat.min_eq_left h, List.take_of_length_le (by rw [List.length_drop]; omega)]
  · rw [Nat.min_eq_right (by omega), List.drop_eq_nil_of_le (Nat.le_refl _), List.drop_eq_nil_of_le (by omega)]
    simp
theorem ok_cells_behind (F : FnP K "cells_behind" s_cells_behind f fd) (g_len : mg "len" = none) (g_int : mg "int" = none) (g_enumerate : mg "enumerate" = none) (g_range : mg "range" = none) (g_tuple : mg "tuple" = none) (c_is_z : Cal P w K mg base 3 "is_z" ["word"] (spP (spQ r_is_z)))
    (c_BadText : Exc P w K mg base 1 "BadText" C ["line", "column"]) : FnG P w K mg base 4 f fd ["words", "begin", "many"] (spP (spN preCells (postCells C))) := by
  refine fnP_ok F sc_cells_behind (spN_len fun ds ⟨_, _, _, e, _⟩ => by rw [e]; rfl) fun cdv A outer st H E G Y B => ?_
  have hr := B.room
  have hgd := B.gd
  have hpo := B.own
  have tk := B.tk
  have nd := sc_cells_behind.nd
  refine ⟨_, (db_cons (ds_set 3 nd (e_sl (de_var 0) (do_some (de_var 1)) do_none))
    (db_cons (ds_for hpo rfl (di_enum_list rfl g_enumerate (da_cons (de_var 3) da_nil)) (dg_tup rfl nd (nms_cons 4 (nms_cons 5 NmsOk.nil))) (db_one (ds_if (dt_w (dw_or (t_ge (de_var 4) (e_mul de_int (de_var 2))) (dw_or1 (dt_not (dt_val (e_call c_is_z mono_Q takes_no hr hgd (da_cons (de_var 5) da_nil))))))) (db_one (s_raise c_BadText rfl tk hr (da_cons de_int (da_cons (e_add (e_add (de_var 1) (de_var 4)) de_int) da_nil)))) db_nil)))
    (db_cons (ds_if (t_eq hr (de_var 2) de_int) (db_one (ds_ret (de_tup da_nil))) db_nil)
    (db_cons (ds_set 6 nd (e_div (e_len g_len (da_cons (de_var 3) da_nil)) (de_var 2)))
    (db_cons (ds_if (dt_w (dw_or (t_ne hr (e_mul (de_var 6) (de_var 2)) (e_len g_len (da_cons (de_var 3) da_nil))) (dw_or1 (t_lt (de_var 6) de_int)))) (db_one (s_raise c_BadText rfl tk hr (da_cons de_int (da_cons (e_add (e_len g_len (da_cons (de_var 0) da_nil)) de_int) da_nil)))) db_nil)
    (db_cons (ds_set 7 nd (e_lc [("word", 5)] 5 rfl nd (di_list (de_var 3)) (fun _ _ _ _ _ => dts_nil) (fun _ _ _ _ _ => (e_int g_int (da_cons (de_var 5) da_nil)))))
    (db_one (ds_ret (e_tuple g_tuple (da_cons (e_lc [("k", 8)] 8 rfl nd (di_range1 rfl g_range (da_cons (de_var 2) da_nil)) (fun _ _ _ _ _ => dts_nil) (fun _ _ _ _ _ => (e_tuple g_tuple (da_cons (e_sl (de_var 7) (do_some (e_mul (de_var 6) (de_var 8))) (do_some (e_mul (de_var 6) (e_add (de_var 8) de_int)))) da_nil)))) da_nil)))))))))), ?_⟩
  rintro ds Q ⟨⟨ws, b, m, rfl, hb, hm, hlw, hws⟩, q⟩
  have hq : ∀ o : Out, (match cellsErr ws b m with
      | some c => o = .inr (badX C 1 c)
      | none => ∃ d, o = .inl (.val d)) → match o with
      | .inl r => Q r
      | .inr x => Y x := fun o ho => q o fun ws' b' m' e => by
    simp only [List.cons.injEq, D.lst.injEq, D.int.injEq, and_true] at e
    obtain ⟨e1, e2, e3⟩ := e
    have e1 := txs_inj e1
    have e2 : b = b' := by omega
    have e3 : m = m' := by omega
    subst e1 e2 e3
    exact ho
  clear q
  unfold cellsErr at hq
  have hrest : fSl (.lst (txs ws)) (some (b : Int)) none = some (.own (.lst (txs (ws.drop b)))) := by
    show some (EV.own (.lst (DL.cutD (txs ws) (some (b : Int)) none))) = _
    rw [cutD_from, ← List.map_drop]
  refine sq_set (ev_sl (ev_var rfl) (evo_pt (ev_var rfl)) evo_no rfl hrest) rfl rfl ?_
  have hws' : ∀ p ∈ ws.drop b, p.length ≤ 100000 ∧ PyData.strOk p = true := fun p hp => hws p (List.mem_of_mem_drop hp)
  have hlr : (ws.drop b).length ≤ 100001 := by rw [List.length_drop]; omega
  generalize hrs : ws.drop b = rest at hq hws' hlr ⊢
  refine sq_enum (S2 := ceS ws b m rest none none) (c := .lst (txs rest)) (eva_cons (ev_var rfl) eva_nil) rfl rfl ?_
  have main : ∀ (r : List Str) (k : Nat) (x y : Option SV) (E : DEnds), (∀ d, x ≠ some (.io d)) → (∀ d, y ≠ some (.io d)) → k + r.length ≤ 100001 → (∀ p ∈ r, p.length ≤ 100000) →
      (∀ c, badFrom m k r = some c → Y (badX C 1 ((b + c + 1 : Nat) : Int))) → (badFrom m k r = none → (∀ p ∈ r, isZ p = true) → ∀ x y, (∀ d, x ≠ some (.io d)) → (∀ d, y ≠ some (.io d)) → E.nx (ceS ws b m rest x y)) →
      dTurns [(.val (.lst (txs rest)), .lst (txs rest))] (dgTup [4, 5]) (dIfS (dOr (dB (dBin fGe (dVar 4) (dBin fMul (dC (.int 4)) (dVar 2)))) (dNot (dB (dCall (spQ r_is_z) (fun _ _ => False) [] (dCons (dVar 5) dNil))))) (dRaise (fun x _ => Y x) C ["line", "column"] (dCons (dC (.int 1)) (dCons (dBin fAdd (dBin fAdd (dVar 1) (dVar 4)) (dC (.int 1))) dNil))) dNext) E (pairs k (txs r)) (ceS ws b m rest x y) := by
    intro r
    induction r with
    | nil =>
      intro k x y E hx hy _ _ _ he
      exact (show holds _ _ ∧ _ from ⟨holds_one, he rfl (by simp) x y hx hy⟩)
    | cons w r ih =>
      intro k x y E hx hy hk hp hbad he
      have cx : canStore (ceS ws b m rest x y) 4 := ⟨by simp, fun d e => hx d (by simpa using e)⟩
      have cy : canStore (ceS ws b m rest x y) 5 := ⟨by simp, fun d e => hy d (by simpa using e)⟩
      refine turns_cons holds_one (to_tup rfl ⟨cx, cy, trivial⟩ ?_)
      refine st_iff (S := ceS ws b m rest (some (.val (.int (k : Nat)))) (some (.val (.str w)))) (b := decide (((4 : Int) * (m : Nat)) ≤ (k : Nat)) || !isZ w) ?_ ?_ ?_
      · apply evt_or
        · refine evt_b (ev_bin (ev_var rfl) (ev_bin (r := .val (.int ((4 : Int) * (m : Nat)))) ev_c (ev_var rfl) rfl rfl ?_) rfl rfl rfl)
          simp only [fMul]
          rw [if_pos (.inl ⟨by omega, by omega⟩)]
        · intro _
          apply evt_not
          apply evt_b
          exact ev_callQ (eva_cons (ev_var rfl) eva_nil) rfl ⟨w, rfl, le1 (hp w List.mem_cons_self), rfl⟩
      · intro hb'
        have : badFrom m k (w :: r) = some k := by
          unfold badFrom
          rw [if_pos]
          simp only [Bool.or_eq_true, decide_eq_true_eq, Bool.not_eq_true'] at hb'
          exact hb'.imp (fun h => by omega) id
        refine st_raise (ws := [.int 1, .int (((b : Nat) : Int) + (k : Nat) + 1)]) (eva_cons ev_c (eva_cons (ev_bin (ev_bin (ev_var rfl) (ev_var rfl) rfl rfl rfl) ev_c rfl rfl rfl) eva_nil)) rfl rfl (by simp) ?_
        have := hbad k this
        exact this
      · intro hb'
        simp only [Bool.or_eq_false_iff, decide_eq_false_iff_not, Bool.not_eq_false'] at hb'
        have hn : badFrom m k (w :: r) = badFrom m (k + 1) r := by
          conv => lhs; unfold badFrom
          rw [if_neg (fun h => h.elim (fun h => hb'.1 (by omega)) (fun h => by rw [hb'.2] at h; cases h))]
        refine ih (k + 1) _ _ E (by simp) (by simp) (by simp at hk; omega) (fun p h => hp p (List.mem_cons_of_mem _ h)) (fun c h => hbad c (by rw [hn]; exact h)) (fun h hz => he (by rw [hn]; exact h) fun p hpm => ?_)
        rcases List.mem_cons.mp hpm with e | h
        · rw [e]; exact hb'.2
        · exact hz p h
  refine main rest 0 none none _ (by simp) (by simp) (by omega) (fun p h => (hws' p h).1) (fun c h => ?_) fun h hz x y hx hy => ?_
  · rw [h] at hq
    exact hq _ rfl
  rw [h] at hq
  -- behind the loop
  dsimp only
  apply sq_if (S := ceS ws b m rest x y) (b := decide (m = 0))
  · refine evt_b (ev_bin (ev_var rfl) ev_c rfl rfl ?_)
    show some (EV.val (.bl (decide (((m : Nat) : Int) = 0)))) = _
    congr 4
    exact propext ⟨fun h => by omega, fun h => by omega⟩
  · intro hb'
    have hm0 := of_decide_eq_true hb'
    refine st_ret (ev_tup eva_nil rfl (by decide)) ?_
    refine hq (.inl (.val (.tup []))) ?_
    show match (if m = 0 then none else _ : Option Nat) with
      | some c => _
      | none => _
    rw [if_pos hm0]
    exact ⟨_, rfl⟩
  intro hb'
  have hm0 := of_decide_eq_false hb'
  refine sq_set (S2 := ceS ws b m rest x y) (d := .int ((rest.length / m : Nat) : Int)) (ea := .val (.int ((rest.length / m : Nat) : Int))) (ev_bin (ev_ls (eva_cons (ev_var rfl) eva_nil) rfl len_lst) (ev_var rfl) rfl rfl ?_) rfl rfl ?_
  · simp only [fDiv]
    rw [if_pos ⟨by omega, by omega⟩, List.length_map]
    rfl
  generalize hsz : rest.length / m = sz at hq ⊢
  have hsz' : sz ≤ 100001 := by rw [← hsz]; exact Nat.le_trans (Nat.div_le_self ..) hlr
  apply sq_if (b := !decide (sz * m = rest.length) || decide (sz < 2))
  · apply evt_or
    · refine evt_b (ev_bin (r := .val (.bl (!decide (sz * m = rest.length)))) (ev_bin (r := .val (.int ((sz : Nat) * (m : Nat) : Int))) (ev_var rfl) (ev_var rfl) rfl rfl ?_) (ev_ls (eva_cons (ev_var rfl) eva_nil) rfl len_lst) rfl rfl ?_)
      · simp only [fMul]
        rw [if_pos (.inl ⟨by omega, by omega⟩)]
      · show some (EV.val (.bl (!decide (((sz : Nat) : Int) * (m : Nat) = ((txs rest).length : Nat))))) = _
        rw [List.length_map]
        congr 5
        exact propext ⟨fun h => by exact_mod_cast h, fun h => by exact_mod_cast h⟩
    · intro _
      refine evt_b (ev_bin (ev_var rfl) ev_c rfl rfl ?_)
      show some (EV.val (.bl (decide (((sz : Nat) : Int) < 2)))) = _
      congr 4
      exact propext ⟨fun h => by omega, fun h => by omega⟩
  · intro hb2
    refine st_raise (ws := [.int 1, .int (((txs ws).length : Nat) + 1)]) (eva_cons ev_c (eva_cons (ev_bin (ev_ls (eva_cons (ev_var rfl) eva_nil) rfl len_lst) ev_c rfl rfl rfl) eva_nil)) rfl rfl (by simp) ?_
    rw [List.length_map]
    refine hq (.inr (badX C 1 ((ws.length : Nat) + 1))) ?_
    rw [if_neg hm0, if_pos (by simpa using hb2)]
    rfl
  intro hb2
  have hq : ∀ d, Q (.val d) := fun d => hq (.inl (.val d)) (by
    rw [if_neg hm0, if_neg (by simpa using hb2)]
    exact ⟨d, rfl⟩)
  refine sq_lcE (c := .lst (txs rest)) (ds := txs rest) (S1 := (ceS ws b m rest x none).set 6 (some (.val (.int (sz : Nat))))) (ev_var rfl) rfl rfl rfl rfl (fun _ => rfl) rfl intD (fun d hd => ?_) (by rw [List.length_map]; exact Nat.le_trans hlr (by rw [sizeLine_eq]; omega)) rfl ?_
  · obtain ⟨p, hp, rfl⟩ := txs_mem hd
    obtain ⟨n, hn⟩ := int_isZ (hz p hp)
    rw [intD_of hn]
    exact ev_ls (eva_cons (ev_var rfl) eva_nil) rfl hn
  generalize List.map intD (txs rest) = nums
  apply st_ret
  · refine ev_ls (eva_cons (ev_lcR (j := (m : Nat)) (eva_cons (ev_var rfl) eva_nil) (by omega) (by omega) rfl (fun _ => rfl) rfl (fun k => .tup (DL.cutD nums (some (((sz : Nat) : Int) * (k : Nat))) (some (((sz : Nat) : Int) * (((k : Nat) : Int) + 1))))) (fun k hk => ?_) (by rw [Int.toNat_natCast, sizeLine_eq]; omega)) eva_nil) rfl rfl
    have hk : k < m := by simpa using hk
    refine ev_ls (eva_cons (ev_sl (ev_var rfl) (evo_pt (ev_bin (r := .val (.int (((sz : Nat) : Int) * (k : Nat)))) (ev_var rfl) (ev_var rfl) rfl rfl ?_)) (evo_pt (ev_bin (r := .val (.int (((sz : Nat) : Int) * (((k : Nat) : Int) + 1)))) (ev_var rfl) (ev_bin (ev_var rfl) ev_c rfl rfl rfl) rfl rfl ?_)) rfl rfl) eva_nil) rfl rfl
    · simp only [fMul]
      rw [if_pos (.inl ⟨by omega, by omega⟩)]
    · simp only [fMul]
      rw [if_pos (.inl ⟨by omega, by omega⟩)]
  · exact hq _
end
end K89
set_option Elab.async false
set_option linter.all false
set_option maxRecDepth 100000
set_option maxHeartbeats 1000000
/-! Layer D: stores in fields. -/
namespace DL
open PySem PySem.Spec PyProof.Rows L2
section
variable {mv m : DM} {m2 : DSm} {E : DEnds} {S : DS} {i : Nat} {C : Addr} {f : Str} {cv d d' : D} {ev : EV}
theorem att_k {N : DS → Prop} (e0 : S[i]? = some (some (.io d))) (hs : setA C f cv d = some d') (q : N (S.set i (some (.io d')))) : dVar i S fun eo S2 => eo = .bor i ∧ ∃ w S3 sv d', asVal S2 (.val cv) = some (w, S3) ∧ S3[i]? = some (some sv) ∧ sv.isMut = true ∧ setA C f w sv.d = some d' ∧ N (S3.set i (some (sv.put d'))) :=
  (ev_io e0).run _ ⟨rfl, cv, S, .io d, d', rfl, e0, rfl, hs, q⟩
theorem sq_att (h : Ev mv S (.val cv)) (e0 : S[i]? = some (some (.io d))) (hs : setA C f cv d = some d') (q : m2 E (S.set i (some (.io d')))) : dSeq (dAtt i C f mv (dVar i)) m2 E S := h.run _ (att_k (N := m2 E) e0 hs q)
theorem setA_new {ns : List Str} {us : List D} (hl : ns.length = us.length) (h2 : ns.length < 1000) (hf : f ∉ ns) : setA C f cv (.obj C ns us) = some (.obj C (ns ++ [f]) (us ++ [cv])) := if_pos ⟨rfl, hl, h2, hf⟩
end
end DL
set_option Elab.async false
set_option linter.all false
set_option maxRecDepth 100000
set_option maxHeartbeats 1000000
namespace K89
open PySem PySem.Spec PyProof.Rows L2 DL
abbrev s_Vow_init : Stmt := (C8.clsBody (top 29)).getD 0 (.Pass ⟨0, 0, 0, 0⟩)
abbrev s_BadText_init : Stmt := (C8.clsBody (top 4)).getD 0 (.Pass ⟨0, 0, 0, 0⟩)
abbrev MeP (K : PySem.W.Frag) (x q : Str) (st : Stmt) (f : Addr) (fd : FuncData) : Prop := FunD K x q (defArgs st) (defBody st) (defScope st) [] [] f fd
abbrev nVow : List Str := ["self", "text", "words", "behind", "kind", "forms", "many", "at", "form"]
theorem sc_Vow_init : FnScope nVow ["self", "text"] (defScope s_Vow_init) := ⟨rfl, rfl, rfl, by decide +kernel, rfl, by decide +kernel, by decide +kernel⟩
/-! ### the kinds: their forms, how many cells -/
def specOf (kind : Str) : List Str × Nat :=
  if kind = "within" ∨ kind = "beyond" then (["n"], 0) else if kind = "allowed" then ([], 0) else if kind = "like" then (["name"], 0)
  else if kind = "free" then ([], 1) else if kind = "hangs" then ([], 2) else if kind = "holds" then (["n"], 1) else (["v"], 0)
/-- the place of the first word that does not fit -/
def badForm (ws : List Str) (b : Nat) : Nat → List Str → Option Nat
  | _, [] => none
  | k, f :: r => if ws.length ≤ b + k ∨ fitB (ws.getD (b + k) "") f = false then some (b + k + 1) else badForm ws b (k + 1) r
def vowErr (ws : List Str) : Option Nat := match kindAt ws with
  | .inr c => some c.toNat
  | .inl b => match badForm ws b.toNat 0 (specOf (ws.getD (b.toNat - 1) "")).1 with
    | some c => some c
    | none => cellsErr ws (b.toNat + (specOf (ws.getD (b.toNat - 1) "")).1.length) (specOf (ws.getD (b.toNat - 1) "")).2
def vowKind (ws : List Str) : Str := match kindAt ws with
  | .inl b => ws.getD (b.toNat - 1) ""
  | .inr _ => ""
abbrev vowNs : List Str := ["text", "name", "kind", "other", "when", "limit", "column", "cells"]
def vowObj (CV : Addr) (text : Str) (lim col cells : D) : D :=
  let ws := wordsAt 32 text
  .obj CV vowNs [.str text, .str (ws.getD 0 ""), .str (vowKind ws), if vowKind ws = "like" then .str (ws.getD 2 "") else .non, .str (ws.getD 1 ""), lim, col, cells]
end K89
namespace K89
open PySem PySem.Spec PyProof.Rows L2 DL
section
variable {P : Program} {w : World} {K : PySem.W.Frag} {mg : Str → Option Value} {base : Heap} {f : Addr} {fd : FuncData} {C CV : Addr} {tblP tblT : List (Str × Addr)} {kt : Addr → Option (List D)}
/-- self.__init__(x), x shown -/
def preVow (CV : Addr) : D → List D → Prop := fun d ds => d = .obj CV [] [] ∧ ∃ x T, ds = [x] ∧ tyN x = some T ∧ (kitB T "str").isSome = true ∧ ∀ text, x = .str text → text.length ≤ 99999 ∧ PyData.strOk text = true
def postVow (C CV : Addr) : List D → (EV × D) ⊕ DX → Prop := fun ds o => (∀ x T, ds = [x] → tyN x = some T → kitB T "str" = some false → o = .inr (badX C 0 0)) ∧ ∀ text, ds = [.str text] → match vowErr (wordsAt 32 text) with
  | some c => o = .inr (badX C 1 c)
  | none => ∃ lim col cells, o = .inl (.val .non, vowObj CV text lim col cells)
def spVow (C CV : Addr) : SpC := fun d ds Q Y => preVow CV d ds ∧ ∀ o, postVow C CV ds o → match o with
  | .inl (r, d') => Q r d'
  | .inr x => Y x
theorem mono_Vow : MonoC (spVow C CV) := fun d ds Q Q' Y Y' h1 h2 ⟨p, q⟩ => ⟨p, fun o z => by
  have := q o z
  match o, this with
  | .inl (r, d'), this => exact h1 r d' this
  | .inr x, this => exact h2 x this⟩
theorem kit_not : kitB "NoneType" "str" = some false ∧ kitB "bool" "str" = some false ∧ kitB "int" "str" = some false ∧ kitB "tuple" "str" = some false ∧ kitB "list" "str" = some false ∧ kitB "dict" "str" = some false := by decide +kernel
theorem isi_not {x : D} {T : String} (hx : tyN x = some T) (h : ∀ text, x ≠ .str text) : fIsi "str" x = some (.val (.bl false)) ∧ kitB T "str" = some false := by
  obtain ⟨k1, k2, k3, k4, k5, k6⟩ := kit_not
  have key : kitB T "str" = some false := by
    cases x <;> simp only [tyN] at hx <;> cases hx <;> first | assumption | exact absurd rfl (h _)
  refine ⟨?_, key⟩
  unfold fIsi
  rw [hx]
  show (kitB T "str").map (fun b => EV.val (.bl b)) = _
  rw [key]
  rfl
theorem kindAt_ok {ws : List Str} {b : Int} (h : kindAt ws = .inl b) : ∃ n : Nat, b = (n : Nat) ∧ n < ws.length + 1 ∧ ((n = 2 ∧ 2 ≤ ws.length ∧ ws.getD 1 "" ∈ plainK) ∨ (n = 3 ∧ 3 ≤ ws.length ∧ ws.getD 2 "" ∈ timedK)) := by
  unfold kindAt at h
  split at h
  · cases h
  · split at h
    · cases h
    · rename_i h2
      split at h
      · rename_i h3
        cases h
        have : ws.length ≠ 1 := fun e => h2 (.inl e)
        have h1 : 1 < ws.length := by
          by_cases hl : 1 < ws.length
          · exact hl
          · rw [List.getD_eq_getElem?_getD, List.getElem?_eq_none (by omega)] at h3
            exact absurd h3 (by decide)
        exact ⟨2, rfl, by omega, .inl ⟨rfl, by omega, h3⟩⟩
      · split at h
        · cases h
        · rename_i h4
          cases h
          have h5 : ws.getD 2 "" ∈ timedK := by
            by_cases hh : ws.getD 2 "" ∈ timedK
            · exact hh
            · exact absurd (.inr hh) h4
          have h1 : 2 < ws.length := by
            by_cases hl : 2 < ws.length
            · exact hl
            · rw [List.getD_eq_getElem?_getD, List.getElem?_eq_none (by omega)] at h5
              exact absurd h5 (by decide)
          exact ⟨3, rfl, by omega, .inr ⟨rfl, by omega, h5⟩⟩
theorem kindAt_err {ws : List Str} {c : Int} (h : kindAt ws = .inr c) : ((c.toNat : Nat) : Int) = c := by
  unfold kindAt at h
  split at h
  · cases h; rfl
  · split at h
    · cases h; rfl
    · split at h
      · cases h
      · split at h
        · cases h; rfl
        · cases h
theorem spec_small (kind : Str) : ((specOf kind).1 = [] ∨ (specOf kind).1 = [("n" : Str)] ∨ (specOf kind).1 = [("v" : Str)] ∨ (specOf kind).1 = [("name" : Str)]) ∧ (specOf kind).2 ≤ 2 ∧ (kind = "like" → (specOf kind).1 = [("name" : Str)]) := by
  refine ⟨?_, ?_, fun h => by subst h; decide⟩
  · unfold specOf
    repeat' split
    all_goals simp
  · unfold specOf
    repeat' split
    all_goals decide
abbrev voS (d : D) (text : Str) (ws : List Str) (b : Nat) (kind : Str) (t : Addr) (m : Nat) (x y : Option SV) : DS := [some (.io d), some (.val (.str text)), some (.val (.lst (txs ws))), some (.val (.int (b : Nat))), some (.val (.str kind)), some (.val (.ref t)), some (.val (.int (m : Nat))), x, y]
/-- the loop over the forms -/
theorem forms_turns {C : Addr} {d : D} {text : Str} {ws : List Str} {b : Nat} {kind : Str} {t : Addr} {m : Nat} {Y : DX → Prop} {E : DEnds} (hws : ∀ p ∈ ws, p.length ≤ 100000 ∧ PyData.strOk p = true) (hlw : ws.length ≤ 100001) (hb : b ≤ 3) :
    ∀ (fs : List Str) (k : Nat) (x y : Option SV), k + fs.length ≤ 10 → (∀ d, x ≠ some (.io d)) → (∀ d, y ≠ some (.io d)) → (∀ c, badForm ws b k fs = some c → Y (badX C 1 ((c : Nat) : Int))) →
      (badForm ws b k fs = none → ∀ x y, (∀ d, x ≠ some (.io d)) → (∀ d, y ≠ some (.io d)) → E.nx (voS d text ws b kind t m x y)) →
      dTurns [(.val (.ref t), .ref t)] (dgTup [7, 8]) (dIfS (dOr (dB (dBin fGe (dBin fAdd (dVar 3) (dVar 7)) (dLs (one fLen) (dCons (dVar 2) dNil)))) (dNot (dB (dCall (spQ r_fits) (fun _ _ => False) [] (dCons (dBin fIx (dVar 2) (dBin fAdd (dVar 3) (dVar 7))) (dCons (dVar 8) dNil))))))
        (dRaise (fun x _ => Y x) C ["line", "column"] (dCons (dC (.int 1)) (dCons (dBin fAdd (dBin fAdd (dVar 3) (dVar 7)) (dC (.int 1))) dNil))) dNext) E (pairs k (txs fs)) (voS d text ws b kind t m x y)
  | [], k, x, y, _, hx, hy, _, he => (show holds _ _ ∧ _ from ⟨holds_one, he rfl x y hx hy⟩)
  | fm :: fs, k, x, y, hk, hx, hy, hbad, he => by
    have cx : canStore (voS d text ws b kind t m x y) 7 := ⟨by simp, fun d e => hx d (by simpa using e)⟩
    have cy : canStore (voS d text ws b kind t m x y) 8 := ⟨by simp, fun d e => hy d (by simpa using e)⟩
    have ebk : ((b : Nat) : Int) + (k : Nat) = ((b + k : Nat) : Int) := by omega
    refine turns_cons holds_one (to_tup rfl ⟨cx, cy, trivial⟩ ?_)
    refine st_iff (S := voS d text ws b kind t m (some (.val (.int (k : Nat)))) (some (.val (.str fm)))) (b := decide (ws.length ≤ b + k) || !fitB (ws.getD (b + k) "") fm) ?_ ?_ ?_
    · apply evt_or
      · refine evt_b (ev_bin (ev_bin (ev_var rfl) (ev_var rfl) rfl rfl rfl) (ev_ls (eva_cons (ev_var rfl) eva_nil) rfl len_lst) rfl rfl ?_)
        show some (EV.val (.bl (decide (((txs ws).length : Nat) ≤ ((b : Nat) : Int) + (k : Nat))))) = _
        rw [List.length_map]
        congr 4
        exact propext ⟨fun h => by omega, fun h => by omega⟩
      · intro h
        have hlt : b + k < ws.length := by have := of_decide_eq_false h; omega
        have hp := hws _ (List.mem_of_getElem? (getD_some hlt))
        apply evt_not
        apply evt_b
        refine ev_callQ (eva_cons (ev_bin (r := .val (.str (ws.getD (b + k) ""))) (ev_var rfl) (ev_bin (ev_var rfl) (ev_var rfl) rfl rfl rfl) rfl rfl ?_) (eva_cons (ev_var rfl) eva_nil)) rfl ⟨_, _, rfl, hp.1, rfl⟩
        rw [ebk]
        exact ixw hlt
    · intro hb'
      have : badForm ws b k (fm :: fs) = some (b + k + 1) := by
        unfold badForm
        rw [if_pos (by simpa using hb')]
      refine st_raise (ws := [.int 1, .int (((b : Nat) : Int) + (k : Nat) + 1)]) (eva_cons ev_c (eva_cons (ev_bin (ev_bin (ev_var rfl) (ev_var rfl) rfl rfl rfl) ev_c rfl rfl rfl) eva_nil)) rfl rfl (by simp) ?_
      exact hbad _ this
    · intro hb'
      have hn : badForm ws b k (fm :: fs) = badForm ws b (k + 1) fs := by
        conv => lhs; unfold badForm
        rw [if_neg (by simpa using hb')]
      exact forms_turns hws hlw hb fs (k + 1) _ _ (by simp at hk; omega) (by simp) (by simp) (fun c h => hbad c (by rw [hn]; exact h)) (fun h => he (by rw [hn]; exact h))
theorem ok_Vow_init (hP : keysOf tblP = plainK) (hT : keysOf tblT = timedK) (hk : KTs K kt) (hkP : ∀ z a, tblP.lookup z = some a → ∃ t, kt a = some [.ref t, .int (specOf z).2] ∧ kt t = some (txs (specOf z).1)) (hkT : ∀ z a, tblT.lookup z = some a → ∃ t, kt a = some [.ref t, .int (specOf z).2] ∧ kt t = some (txs (specOf z).1))
    (F : MeP K "__init__" "Vow.__init__" s_Vow_init f fd) (g_len : mg "len" = none) (g_str : mg "str" = none) (g_isinstance : mg "isinstance" = none) (g_enumerate : mg "enumerate" = none) (cV : Cls K CV) (nV : ∀ n ∈ vowNs, NoAttr K CV n)
    (c_kind_at : Cal P w K mg base 4 "kind_at" ["words"] (spP (spQ (r_kind_at C)))) (c_fits : Cal P w K mg base 4 "fits" ["word", "form"] (spP (spQ r_fits))) (c_limit_of : Cal P w K mg base 2 "limit_of" ["word", "form"] (spP (spN preLim anyVal)))
    (c_cells_behind : Cal P w K mg base 4 "cells_behind" ["words", "begin", "many"] (spP (spN preCells (postCells C)))) (k_PLAIN : CTab K w mg "PLAIN" tblP) (k_TIMED : CTab K w mg "TIMED" tblT)
    (c_BadText : Exc P w K mg base 1 "BadText" C ["line", "column"]) : FnG P w K mg base 6 f fd ["self", "text"] (spC (spVow C CV)) := by
  refine fnC_ok F sc_Vow_init (fun d ds Q Y ⟨⟨_, _, _, e, _⟩, _⟩ => by rw [e]; rfl) fun cdv A outer st H E G Y B => ?_
  have hr := B.room
  have hgd := B.gd
  have hpo := B.own
  have tk := B.tk
  have nd := sc_Vow_init.nd
  refine ⟨_, (db_cons (ds_if (dt_not (dt_val (de_isi (T := "str") rfl g_isinstance rfl g_str (by decide +kernel) (de_var 1)))) (db_one (s_raise c_BadText rfl tk hr (da_cons de_int (da_cons de_int da_nil)))) db_nil)
    (db_cons (ds_set 2 nd (de_split (de_var 1) de_str))
    (db_cons (ds_set 3 nd (e_call c_kind_at mono_Q tk hr hgd (da_cons (de_var 2) da_nil)))
    (db_cons (ds_set 4 nd (e_ix (de_var 2) (e_sub (de_var 3) de_int)))
    (db_cons (ds_asg (de_if (t_eq hr (de_var 3) de_int) (e_kix k_PLAIN (de_var 4)) (e_kix k_TIMED (de_var 4))) (dg_tupK hk rfl nd (nms_cons 5 (nms_cons 6 NmsOk.nil))))
    (db_cons (ds_for hpo rfl (di_enumK hk rfl g_enumerate (da_cons (de_var 5) da_nil)) (dg_tup rfl nd (nms_cons 7 (nms_cons 8 NmsOk.nil))) (db_one (ds_if (dt_w (dw_or (t_ge (e_add (de_var 3) (de_var 7)) (e_len g_len (da_cons (de_var 2) da_nil))) (dw_or1 (dt_not (dt_val (e_call c_fits mono_Q takes_no hr hgd (da_cons (e_ix (de_var 2) (e_add (de_var 3) (de_var 7))) (da_cons (de_var 8) da_nil)))))))) (db_one (s_raise c_BadText rfl tk hr (da_cons de_int (da_cons (e_add (e_add (de_var 3) (de_var 7)) de_int) da_nil)))) db_nil)))
    (db_cons (ds_att (i := 0) cV (nV "text" (by decide)) (de_var 0) (de_var 1))
    (db_cons (ds_att (i := 0) cV (nV "name" (by decide)) (de_var 0) (e_ix (de_var 2) de_int))
    (db_cons (ds_att (i := 0) cV (nV "kind" (by decide)) (de_var 0) (de_var 4))
    (db_cons (ds_att (i := 0) cV (nV "other" (by decide)) (de_var 0) (de_if (t_eq hr (de_var 4) de_str) (e_ix (de_var 2) de_int) de_non))
    (db_cons (ds_att (i := 0) cV (nV "when" (by decide)) (de_var 0) (e_ix (de_var 2) de_int))
    (db_cons (ds_att (i := 0) cV (nV "limit" (by decide)) (de_var 0) (de_if (t_neK hk hr (de_var 5) (de_tup da_nil)) (e_call c_limit_of mono_N takes_no hr hgd (da_cons (e_ix (de_var 2) (de_var 3)) (da_cons (e_ixK hk (de_var 5) de_int) da_nil))) de_non))
    (db_cons (ds_att (i := 0) cV (nV "column" (by decide)) (de_var 0) (e_add (e_add (de_var 3) (e_lenK hk g_len (da_cons (de_var 5) da_nil))) de_int))
    (db_one (ds_att (i := 0) cV (nV "cells" (by decide)) (de_var 0) (e_call c_cells_behind mono_N tk hr hgd (da_cons (de_var 2) (da_cons (e_add (de_var 3) (e_lenK hk g_len (da_cons (de_var 5) da_nil))) (da_cons (de_var 6) da_nil))))))))))))))))))), ?_⟩
  rintro d ds Q ⟨⟨rfl, x, T, rfl, hx, hkb, htx⟩, q⟩
  by_cases hstr : ∃ text, x = .str text
  case neg =>
    have hne : ∀ text, x ≠ .str text := fun t e => hstr ⟨t, e⟩
    obtain ⟨h1, h2⟩ := isi_not hx hne
    apply sq_if (b := true)
    · exact evt_not (x := false) (evt_b (ev_un (ev_var rfl) rfl h1))
    · intro _
      refine st_raise (ws := [.int 0, .int 0]) (eva_cons ev_c (eva_cons ev_c eva_nil)) rfl rfl (by decide) ?_
      exact q (.inr (badX C 0 0)) ⟨fun x' T' e e1 e2 => rfl, fun text e => absurd (by simpa using e) (hne text)⟩
    · intro h; cases h
  obtain ⟨text, rfl⟩ := hstr
  obtain ⟨hl, hok⟩ := htx text rfl
  have hq : ∀ o : (EV × D) ⊕ DX, (match vowErr (wordsAt 32 text) with
      | some c => o = .inr (badX C 1 c)
      | none => ∃ lim col cells, o = .inl (.val .non, vowObj CV text lim col cells)) → match o with
      | .inl (r, d') => Q r d'
      | .inr x => Y x := fun o ho => q o ⟨(fun x' T' e e1 e2 => by
    simp only [List.cons.injEq, and_true] at e
    subst e
    simp only [tyN, Option.some.injEq] at e1
    subst e1
    rw [kit_str] at e2
    cases e2), (fun text' e => by
    simp only [List.cons.injEq, D.str.injEq, and_true] at e
    subst e
    exact ho)⟩
  clear q
  unfold vowObj at hq
  dsimp only at hq
  apply sq_if (b := false)
  · exact evt_not (x := true) (evt_b (ev_un (ev_var rfl) rfl isi_str))
  · intro h; cases h
  intro _
  rw [space]
  refine sq_set (ev_split (by decide) (ev_var rfl) ev_c (le_line (by omega))) rfl rfl ?_
  have hws : ∀ p ∈ wordsAt 32 text, p.length ≤ 100000 ∧ PyData.strOk p = true := fun p hp => ⟨Nat.le_trans (words_len hp) (by omega), strOk_words hok hp⟩
  have hlw : (wordsAt 32 text).length ≤ 100000 := Nat.le_trans (words_many 32 text) (by omega)
  have hne := words_ne 32 text
  generalize wordsAt 32 text = ws at hq hws hlw hne ⊢
  have hl0 : 0 < ws.length := List.length_pos_iff.mpr hne
  apply st_seq
  cases hka : kindAt ws with
  | inr c =>
    refine dcall_Q (.inr (badX C 1 c)) (eva_cons (ev_var rfl) eva_nil) rfl ⟨ws, rfl, hne, hws, by rw [hka]⟩ ?_
    show Y (badX C 1 c)
    have e : vowErr ws = some c.toNat := by unfold vowErr; rw [hka]
    rw [e] at hq
    have := hq (.inr (badX C 1 ((c.toNat : Nat) : Int))) rfl
    rwa [kindAt_err hka] at this
  | inl b =>
    obtain ⟨n, rfl, hn, hcase⟩ := kindAt_ok hka
    have hvk : vowKind ws = ws.getD (n - 1) "" := by unfold vowKind; rw [hka]; rfl
    have hve : vowErr ws = match badForm ws n 0 (specOf (ws.getD (n - 1) "")).1 with
      | some c => some c
      | none => cellsErr ws (n + (specOf (ws.getD (n - 1) "")).1.length) (specOf (ws.getD (n - 1) "")).2 := by unfold vowErr; rw [hka]; rfl
    rw [hve, hvk] at hq
    have hn23 : 2 ≤ n ∧ n ≤ 3 ∧ n ≤ ws.length := by rcases hcase with ⟨h1, h2, _⟩ | ⟨h1, h2, _⟩ <;> omega
    refine dcall_Q (.inl (.val (.int (n : Nat)))) (eva_cons (ev_var rfl) eva_nil) rfl ⟨ws, rfl, hne, hws, by rw [hka]⟩ ?_
    refine ⟨_, _, rfl, can_of rfl, ?_⟩
    dsimp only
    refine sq_set (S := [some (.io (.obj CV [] [])), some (.val (.str text)), some (.val (.lst (txs ws))), some (.val (.int (n : Nat))), none, none, none, none, none]) (d := .str (ws.getD (n - 1) "")) (ea := .val (.str (ws.getD (n - 1) ""))) (ev_bin (ev_var rfl) (ev_bin (ev_var rfl) ev_c rfl rfl rfl) rfl rfl ?_) rfl rfl ?_
    · have e : ((n : Nat) : Int) - 1 = ((n - 1 : Nat) : Int) := by omega
      show fIx _ (.int (((n : Nat) : Int) - 1)) = _
      rw [e]
      exact ixw (by omega)
    have hsp := spec_small (ws.getD (n - 1) "")
    -- forms, many
    have hfm : ∃ a t, Ev (dIf (dB (dBin fEq (dVar 3) (dC (.int 2)))) (dUn (fKix tblP) (dVar 4)) (dUn (fKix tblT) (dVar 4))) [some (.io (.obj CV [] [])), some (.val (.str text)), some (.val (.lst (txs ws))), some (.val (.int (n : Nat))), some (.val (.str (ws.getD (n - 1) ""))), none, none, none, none] (.val (.ref a)) ∧
        kt a = some [.ref t, .int ((specOf (ws.getD (n - 1) "")).2 : Nat)] ∧ kt t = some (txs (specOf (ws.getD (n - 1) "")).1) := by
      rcases hcase with ⟨h1, _, h2⟩ | ⟨h1, _, h2⟩
      · subst h1
        have : (tblP.lookup (ws.getD 1 "")).isSome = true := by rw [lookup_isSome, hP]; exact decide_eq_true h2
        obtain ⟨a, ha⟩ := Option.isSome_iff_exists.mp this
        obtain ⟨t, e1, e2⟩ := hkP _ a ha
        refine ⟨a, t, ev_if (x := true) (evt_b (ev_bin (ev_var rfl) ev_c rfl rfl rfl)) (fun _ => ev_un (ev_var rfl) rfl ?_) (fun h => by cases h), e1, e2⟩
        show (tblP.lookup (ws.getD 1 "")).map (fun a => EV.val (.ref a)) = _
        rw [ha]; rfl
      · subst h1
        have : (tblT.lookup (ws.getD 2 "")).isSome = true := by rw [lookup_isSome, hT]; exact decide_eq_true h2
        obtain ⟨a, ha⟩ := Option.isSome_iff_exists.mp this
        obtain ⟨t, e1, e2⟩ := hkT _ a ha
        refine ⟨a, t, ev_if (x := false) (evt_b (ev_bin (ev_var rfl) ev_c rfl rfl rfl)) (fun h => by cases h) (fun _ => ev_un (ev_var rfl) rfl ?_), e1, e2⟩
        show (tblT.lookup (ws.getD 2 "")).map (fun a => EV.val (.ref a)) = _
        rw [ha]; rfl
    obtain ⟨a, t, hEv, e1, e2⟩ := hfm
    refine sq_unpackK hEv e1 rfl ⟨can_of rfl, can_of rfl, trivial⟩ ?_
    have hlike : ws.getD (n - 1) "" = "like" → n = 2 := fun h => by
      rcases hcase with ⟨h1, _, _⟩ | ⟨h1, _, h2⟩
      · exact h1
      · subst h1
        rw [show ws.getD 2 "" = "like" from h] at h2
        exact absurd h2 (by decide)
    generalize hkd : ws.getD (n - 1) "" = kind at *
    generalize hfs : (specOf kind).1 = fs at *
    generalize hmm : (specOf kind).2 = m at *
    have hfl : fs.length ≤ 1 := by rcases hsp.1 with h | h | h | h <;> rw [h] <;> simp
    have hm2 : m ≤ 2 := hsp.2.1
    refine sq_enum (S2 := voS (.obj CV [] []) text ws n kind t m none none) (c := .ref t) (xs := txs fs) (eva_cons (ev_var rfl) eva_nil) rfl e2 ?_
    refine forms_turns hws (by omega) (by omega) fs 0 none none (by omega) (by simp) (by simp) (fun c h => ?_) (fun h x y hx hy => ?_)
    · rw [h] at hq
      exact hq _ rfl
    rw [h] at hq
    dsimp only at hq ⊢
    -- what the forms tell
    have hfirst : ∀ f0 r, fs = f0 :: r → n < ws.length ∧ fitB (ws.getD n "") f0 = true := fun f0 r e => by
      rw [e] at h
      unfold badForm at h
      split at h
      · cases h
      · rename_i hh
        simp only [Nat.add_zero, not_or, Bool.not_eq_false] at hh
        exact ⟨by omega, hh.2⟩
    refine sq_att (S := voS (.obj CV [] []) text ws n kind t m x y) (cv := .str text) (ev_var rfl) rfl (setA_new rfl (by decide) (by decide)) ?_
    refine sq_att (cv := .str (ws.getD 0 "")) (ev_bin (ev_var rfl) ev_c rfl rfl (ixw hl0)) rfl (setA_new rfl (by decide) (by decide)) ?_
    refine sq_att (cv := .str kind) (ev_var rfl) rfl (setA_new rfl (by decide) (by decide)) ?_
    refine sq_att (cv := if kind = "like" then .str (ws.getD 2 "") else .non) (ev_if (x := decide (kind = "like")) (evt_b (ev_bin (ev_var rfl) ev_c rfl rfl rfl)) (fun hb => ?_) (fun hb => ?_)) rfl (setA_new rfl (by decide) (by decide)) ?_
    · have hb := of_decide_eq_true hb
      have h2 := hlike hb
      obtain ⟨h3, _⟩ := hfirst "name" [] (hsp.2.2 hb)
      subst h2
      rw [if_pos hb]
      exact ev_bin (ev_var rfl) ev_c rfl rfl (ixw h3)
    · rw [if_neg (of_decide_eq_false hb)]
      exact ev_c
    refine sq_att (cv := .str (ws.getD 1 "")) (ev_bin (ev_var rfl) ev_c rfl rfl (ixw (i := 1) (by omega))) rfl (setA_new rfl (by decide) (by decide)) ?_
    have eln : one (fLenK kt) [.ref t] = some (.val (.int (fs.length : Nat))) := by
      show (kt t).map (fun ds => EV.val (.int ds.length)) = _
      rw [e2]
      show some (EV.val (.int ((txs fs).length : Nat))) = _
      rw [List.length_map]
    have enl : ((n : Nat) : Int) + (fs.length : Nat) = ((n + fs.length : Nat) : Int) := by omega
    have tail : ∀ lim : D, dSeq (dAtt 0 CV "column" (dBin fAdd (dBin fAdd (dVar 3) (dLs (one (fLenK kt)) (dCons (dVar 5) dNil))) (dC (.int 1))) (dVar 0)) (dAtt 0 CV "cells" (dCall (spN preCells (postCells C)) (fun x _ => Y x) [] (dCons (dVar 2) (dCons (dBin fAdd (dVar 3) (dLs (one (fLenK kt)) (dCons (dVar 5) dNil))) (dCons (dVar 6) dNil)))) (dVar 0)) (endsI Q)
        (voS (.obj CV ["text", "name", "kind", "other", "when", "limit"] [.str text, .str (ws.getD 0 ""), .str kind, if kind = "like" then .str (ws.getD 2 "") else .non, .str (ws.getD 1 ""), lim]) text ws n kind t m x y) := by
      intro lim
      refine sq_att (cv := .int (((n : Nat) : Int) + (fs.length : Nat) + 1)) (ev_bin (ev_bin (ev_var rfl) (ev_ls (eva_cons (ev_var rfl) eva_nil) rfl eln) rfl rfl rfl) ev_c rfl rfl rfl) rfl (setA_new rfl (by decide) (by decide)) ?_
      refine dcall_N (ws := [.lst (txs ws), .int ((n + fs.length : Nat) : Int), .int ((m : Nat) : Int)]) (eva_cons (ev_var rfl) (eva_cons (ev_bin (r := .val (.int ((n + fs.length : Nat) : Int))) (ev_var rfl) (ev_ls (eva_cons (ev_var rfl) eva_nil) rfl eln) rfl rfl ?_) (eva_cons (ev_var rfl) eva_nil))) rfl ⟨ws, n + fs.length, m, rfl, by omega, hm2, by omega, hws⟩ ?_
      · show some (EV.val (.int (((n : Nat) : Int) + (fs.length : Nat)))) = _
        rw [enl]
      · intro o ho
        have ho := ho ws (n + fs.length) m rfl
        cases hce : cellsErr ws (n + fs.length) m with
        | some c =>
          rw [hce] at ho hq
          have ho : o = .inr (badX C 1 c) := ho
          subst ho
          exact hq _ rfl
        | none =>
          rw [hce] at ho hq
          obtain ⟨cells, rfl⟩ := ho
          refine att_k rfl (setA_new rfl (by decide) (by decide)) ?_
          exact ⟨_, rfl, hq (.inl (.val .non, _)) ⟨lim, _, cells, rfl⟩⟩
    have hokT : okE (.tup (txs fs)) = true := by rcases hsp.1 with h | h | h | h <;> rw [h] <;> decide +kernel
    apply st_seq
    refine (evt_b (k := !(txs fs).isEmpty) (ev_bin (f := fNeK kt) (ev_var (i := 5) rfl) (ev_tup eva_nil rfl (by decide)) rfl rfl ?_)).run _ ?_
    · show (kt t).bind _ = _
      rw [e2]
      show (if okE (.tup (txs fs)) = true then some (EV.val (.bl (!(txs fs).isEmpty))) else none) = _
      rw [if_pos hokT]
    cases hfe : fs with
    | nil =>
      subst hfe
      exact att_k (cv := .non) rfl (setA_new rfl (by decide) (by decide)) (tail .non)
    | cons f0 r =>
      obtain ⟨hnl, hfit⟩ := hfirst f0 r hfe
      have hp := hws _ (List.mem_of_getElem? (getD_some hnl))
      have hpre : preLim [.str (ws.getD n ""), .str f0] := by
        refine ⟨_, _, rfl, hp.1, ?_⟩
        unfold fitB at hfit
        rcases hsp.1 with h | h | h | h
        · rw [h] at hfe; cases hfe
        · rw [h] at hfe
          cases hfe
          rw [if_neg (by decide), if_pos rfl] at hfit
          exact .inr (.inl ⟨rfl, hfit⟩)
        · rw [h] at hfe
          cases hfe
          rw [if_neg (by decide), if_neg (by decide)] at hfit
          exact .inr (.inr ⟨rfl, hfit⟩)
        · rw [h] at hfe
          cases hfe
          exact .inl rfl
      rw [hfe] at e2
      refine dcall_N (ws := [.str (ws.getD n ""), .str f0]) (eva_cons (ev_bin (ev_var rfl) (ev_var rfl) rfl rfl (ixw hnl)) (eva_cons (ev_bin (r := .val (.str f0)) (ev_var rfl) ev_c rfl rfl ?_) eva_nil)) rfl hpre ?_
      · show (kt t).bind (fun ds => (L2.atI ds 0).map EV.val) = _
        rw [e2]
        show (L2.atI (D.str f0 :: txs r) 0).map EV.val = _
        rw [atI_zero]
        rfl
      · rintro o ⟨lim, rfl⟩
        exact att_k (cv := lim) rfl (setA_new rfl (by decide) (by decide)) (tail lim)
end
end K89
set_option Elab.async false
set_option linter.all false
set_option maxRecDepth 100000
set_option maxHeartbeats 1000000
/-! Layer D: dict displays. -/
namespace DL
open PySem PySem.Spec PyProof.Rows L2
def pairUp {α : Type} : List α → List (α × α)
  | a :: b :: r => (a, b) :: pairUp r
  | _ => []
def PostP (F : Fr) (σ : L2.St) (Q : List (V × V) → Hp → Prop) : List EV → DS → Prop := fun es S' => ∀ (xs : List (V × EV)) H', xs.map (·.2) = es → Rel (F.pushs (xs.map sval)) H' σ S' → (∀ x ∈ xs, EvAt σ x.2 x.1) → Q (pairUp (xs.map (·.1))) H'
structure DPs (X : Cx) (G : Gb) (pos : Pos) (keys : List (Option Expr)) (values : List Expr) (ms : DAm) : Prop where
  run : ∃ trs, PPs X pos keys values trs ∧ ∀ σ H Q, (∃ F S, F.gb = G ∧ Rel F H σ S ∧ ms S (PostP F σ Q)) → tPairs trs σ H Q
  mono : MonoA ms
section
variable {X : Cx} {G : Gb} {pos : Pos} {k v : Expr} {ks : List (Option Expr)} {vs : List Expr} {mk mv : DM} {ms : DAm}
theorem dps_nil : DPs X G pos [] [] dNil := ⟨⟨[], pps_nil, fun σ H Q ⟨F, S, hG, R, q⟩ => q [] H rfl (by simpa [Fr.pushs] using R) (by simp)⟩, mono_nil⟩
theorem dps_cons (hk : DE X G k mk) (hv : DE X G v mv) (hr : DPs X G pos ks vs ms) : DPs X G pos (some k :: ks) (v :: vs) (dCons mk (dCons mv ms)) := by
  obtain ⟨trs, hp, h⟩ := hr.run
  refine ⟨⟨(tD G mk, tD G mv) :: trs, pps_cons hk.run hv.run hp, fun σ H Q => ?_⟩, fun S P P' kk q => hk.mono _ _ _ (fun ev S1 p => hv.mono _ _ _ (fun ev S2 p => hr.mono _ _ _ (fun evs S3 p => kk _ _ p) p) p) q⟩
  rintro ⟨F, S, hG, R, q⟩
  refine ⟨F, S, hG, R, hk.mono _ _ _ (fun e1 S1 p v1 H1 R1 a1 => ?_) q⟩
  refine ⟨F.push (v1, e1.sv), S1, hG, R1, hv.mono _ _ _ (fun e2 S2 p v2 H2 R2 a2 => ?_) p⟩
  refine h σ H2 _ ⟨(F.push (v1, e1.sv)).push (v2, e2.sv), S2, hG, R2, hr.mono _ _ _ (fun evs S3 p xs H3 hx R3 a3 => ?_) p⟩
  have q' := p ((v1, e1) :: (v2, e2) :: xs) H3 (by simp [hx]) (by simpa [Fr.pushs, Fr.push, sval] using R3) (fun x hx => by
    rcases List.mem_cons.mp hx with z | hx
    · rw [z]; exact a1
    · rcases List.mem_cons.mp hx with z | hx
      · rw [z]; exact a2
      · exact a3 x hx)
  simpa [pairUp] using q'
end
/-- keys and values out of k1, v1, k2, v2 .. -/
def kvOf : List D → Option (List Key × List D)
  | [] => some ([], [])
  | k :: u :: r => match keyOf k, kvOf r with
    | some k', some (ks, us) => some (k' :: ks, u :: us)
    | _, _ => none
  | _ => none
theorem merge_app {α : Type} : ∀ {more kvs : List (Key × V)}, ((kvs ++ more).map (·.1)).Nodup → mergeK kvs more = kvs ++ more := by
  intro more
  induction more with
  | nil => intro kvs _; simp [mergeK]
  | cons p more ih =>
    intro kvs h
    have hp : (kvs.any fun kv => decide (kv.1 = p.1)) = false := by
      rw [List.any_eq_false]
      intro q hq e
      have e := of_decide_eq_true e
      rw [List.map_append, List.map_cons, List.nodup_append] at h
      exact h.2.2 _ (List.mem_map_of_mem hq) _ List.mem_cons_self e
    have e1 : mergeK kvs (p :: more) = mergeK (putK kvs p.1 p.2) more := rfl
    rw [e1, show putK kvs p.1 p.2 = kvs ++ [p] by unfold putK; rw [if_neg (by rw [hp]; decide)]]
    rw [ih (by rw [List.append_assoc]; exact h), List.append_assoc]
    rfl
theorem kv_reps {Z : Addr → Prop} {H : Hp} : ∀ {cs : List D} {ws : List V} {ks : List Key} {us : List D}, Reps Z H cs ws → kvOf cs = some (ks, us) → ∃ kvs : List (Key × V), pairUp ws = kvs.map (fun kv => (kV kv.1, kv.2)) ∧ kvs.map (·.1) = ks ∧ Reps Z H us (kvs.map (·.2))
  | [], ws, ks, us, r, e => by
    simp only [Reps] at r
    subst r
    cases e
    exact ⟨[], rfl, rfl, .nil⟩
  | [c], ws, ks, us, r, e => by cases e
  | c :: u :: cs, ws, ks, us, r, e => by
    simp only [Reps] at r
    obtain ⟨v1, w1, rfl, r1, v2, w2, rfl, r2, r3⟩ := r
    unfold kvOf at e
    split at e
    · rename_i k' ks' us' e1 e2
      cases e
      obtain ⟨kvs, h1, h2, h3⟩ := kv_reps r3 e2
      have hv := top_key r1.top e1
      subst hv
      exact ⟨(k', v2) :: kvs, by simp [pairUp, h1], by simp [h2], .cons r2 h3⟩
    · cases e
def dDic (ms : DAm) : DM := fun S Q => ms S fun evs S1 => ∃ cs S2 ks us, asVals S1 evs = some (cs, S2) ∧ kvOf cs = some (ks, us) ∧ ks.Nodup ∧ ks.length ≤ 15 ∧ Q (.own (.dic (ks.map keyD) us)) S2
section
variable {X : Cx} {G : Gb} {pos : Pos} {keys : List (Option Expr)} {values : List Expr} {ms : DAm}
theorem e_dict (h : DPs X G pos keys values ms) (hall : keys.all (·.isSome) = true := by rfl) (hl : keys.length = values.length := by rfl) (h0 : keys ≠ [] := by simp) (h15 : keys.length ≤ 15 := by decide) : DE X G (.Dict keys values pos) (dDic ms) := by
  obtain ⟨trs, hp, hr⟩ := h.run
  refine ⟨pe_of (pe_disp hp hall hl h0 h15) fun σ H Q => ?_, fun S P P' k q => h.mono _ _ _ (fun evs S1 ⟨cs, S2, ks, us, e1, e2, e3, e4, p⟩ => ⟨cs, S2, ks, us, e1, e2, e3, e4, k _ _ p⟩) q⟩
  rintro ⟨F, S, hG, R, q⟩ p hn
  have R0 : Rel (F.push (.ref p, .own (.dic [] []))) (upd H p (.dK [])) σ S := R.pushOwn (same_upd hn) hn (by simp only [OwnAt]; exact ⟨[], upd_same, rfl, .nil⟩)
  refine hr σ _ _ ⟨F.push (.ref p, .own (.dic [] [])), S, hG, R0, h.mono _ _ _ (fun evs S1 ⟨cs, S2, ks, us, e1, e2, e3, e4, q⟩ xs H1 hx R1 a1 => ?_) q⟩
  obtain ⟨R2, rs, _⟩ := R1.asVals a1 (by rw [hx]; exact e1)
  obtain ⟨kvs, h1, h2, h3⟩ := kv_reps rs e2
  obtain ⟨a, ea, na, ow⟩ := R2.w.mu (.inr F.T.length) (.ref p) (.own (.dic [] [])) (by show (_ ++ [_])[_]? = _; simp) rfl
  cases ea
  simp only [SV.d, OwnAt] at ow
  obtain ⟨kvs0, e0, ek, _⟩ := ow
  have hk0 : kvs0 = [] := by cases kvs0 with
    | nil => rfl
    | cons x r => simp at ek
  subst hk0
  refine ⟨e0, kvs, h1, by rw [← List.length_map (f := Prod.fst), h2]; exact e4, ?_⟩
  have hm : mergeK [] kvs = kvs := by
    have := merge_app (α := Nat) (kvs := []) (more := kvs) (by rw [List.nil_append, h2]; exact e3)
    simpa using this
  rw [hm]
  have zD : Zs (F.push (.ref p, .own (.dic [] []))) σ S2 p := .inr ⟨.inr F.T.length, .own (.dic [] []), by show (_ ++ [_])[_]? = _; simp, rfl⟩
  have mD : Mut (H1 p) := by rw [e0]; trivial
  have R3 := R2.writeT (o' := .lst []) (d' := .dic (ks.map keyD) us) (H' := upd H1 p (.dK kvs)) trivial upd_off (by
    simp only [OwnAt]
    exact ⟨kvs, upd_same, by rw [← h2, List.map_map]; rfl, h3.updM zD mD⟩)
  exact q (.ref p) _ R3 trivial
end
end DL
set_option Elab.async false
set_option linter.all false
set_option maxRecDepth 100000
set_option maxHeartbeats 1000000
/-! Layer D: a list that may stand in the written part. -/
namespace DL
open PySem PySem.Spec PyProof.Rows L2
def intsOf : List Value → Option (List Int)
  | [] => some []
  | .int i _ :: r => (intsOf r).map (i :: ·)
  | _ :: _ => none
theorem intsOf_ok : ∀ {us : List Value} {ns : List Int}, intsOf us = some ns → Vals (ns.map V.int) us
  | [], ns, h => by cases h; exact .nil
  | u :: us, ns, h => by
    cases u <;> simp only [intsOf] at h <;> first | cases h | skip
    obtain ⟨r, e, rfl⟩ := Option.map_eq_some_iff.mp h
    exact .cons ⟨_, rfl⟩ (intsOf_ok e)
theorem intsOf_vals : ∀ {us : List Value} {ns : List Int}, Vals (ns.map V.int) us → intsOf us = some ns
  | [], ns, h => by
    cases ns with
    | nil => rfl
    | cons n ns => cases h
  | u :: us, ns, h => by
    cases ns with
    | nil => cases h
    | cons n ns =>
      cases h with
      | cons r t =>
        obtain ⟨t', rfl⟩ := r
        simp only [intsOf, intsOf_vals t]
        rfl
abbrev numsD (ns : List Int) : List D := ns.map .int
/-- the numsD of a written list -/
def kl (K : PySem.W.Frag) (a : Addr) : Option (List D) := match K.lookup a with
  | some ⟨.type "list", none, .seq its _, _⟩ => if its.size ≤ sizeLine then (intsOf its.toList).map numsD else none
  | _ => none
theorem reps_numsD {Z : Addr → Prop} {H : Hp} : ∀ ns : List Int, Reps Z H (numsD ns) (ns.map V.int)
  | [] => .nil
  | _ :: ns => .cons rep_int (reps_numsD ns)
theorem kl_ok {K : PySem.W.Frag} {a : Addr} {ds : List D} (h : kl K a = some ds) (Z : Addr → Prop) (H : Hp) : ∃ vs, SqL K H a vs ∧ Reps Z H ds vs := by
  unfold kl at h
  split at h
  · rename_i its n sl e
    split at h
    · rename_i hz
      obtain ⟨ns, e1, rfl⟩ := Option.map_eq_some_iff.mp h
      exact ⟨ns.map V.int, .inr ⟨_, its, n, e, rfl, rfl, rfl, hz, intsOf_ok e1⟩, reps_numsD ns⟩
    · cases h
  · cases h
def seqLK (K : PySem.W.Frag) : D → Option (List D)
  | .ref a => kl K a
  | .lst xs => some xs
  | .frl xs => some xs
  | _ => none
theorem top_lstK {Z : Addr → Prop} {H : Hp} {K : PySem.W.Frag} {c : D} {xs : List D} {v : V} (t : Top Z H c v) (e : seqLK K c = some xs) : ∃ a vs, v = .ref a ∧ SqL K H a vs ∧ Reps Z H xs vs := by
  cases c <;> simp only [seqLK] at e <;> first | cases e | skip
  · obtain ⟨a, vs, rfl, r, q⟩ := t
    exact ⟨a, vs, rfl, .inl (.inl r), q⟩
  · obtain ⟨a, vs, o, rfl, r, q⟩ := top_frl t
    exact ⟨a, vs, rfl, .inl (.inr ⟨o, r⟩), q⟩
  · rename_i b
    obtain ⟨vs, r, q⟩ := kl_ok e Z H
    exact ⟨b, vs, top_ref t, r, q⟩
theorem walkLK {K : PySem.W.Frag} {a : Addr} {c : D} {xs : List D} (e : seqLK K c = some xs) : WalkD (Itl K a) [.ref a] (itOne c xs) := by
  refine ⟨⟨fun i H hi g => ?_, fun H g => ?_, fun i H x H' hi g y Z t => ?_⟩⟩
  · obtain ⟨Z, t⟩ := g
    obtain ⟨v, ev, t⟩ := tops1 t
    cases ev
    obtain ⟨a', vs, ea, r, q⟩ := top_lstK t e
    cases ea
    have hi : i < xs.length := hi
    exact ⟨vs, vs[i]'(by rw [← q.length]; exact hi), r, by simp⟩
  · obtain ⟨Z, t⟩ := g
    obtain ⟨v, ev, t⟩ := tops1 t
    cases ev
    obtain ⟨a', vs, ea, r, q⟩ := top_lstK t e
    cases ea
    exact ⟨vs, r, Nat.le_of_eq q.length.symm⟩
  · obtain ⟨v, ev, t⟩ := tops1 t
    cases ev
    obtain ⟨a', vs, ea, r, q⟩ := top_lstK t e
    cases ea
    obtain ⟨e', y⟩ := y
    subst e'
    obtain ⟨d, hd, rd⟩ := q.get' (y vs r)
    exact ⟨d, hd, Same.refl _, rd⟩
section
variable {X : Cx} {G : Gb} {tg e : Expr} {me : DM} {ms : DAm} {p pos : Pos}
theorem di_listK (h : DE X G e me) : DI X G tg e (dIt (seqLK X.K) me) := by
  refine ⟨⟨fun pins s σ H R I q => (pi_list h.run).run pins s σ H R I ?_⟩, mono_it h.mono⟩
  obtain ⟨F, S, hG, R, q⟩ := q
  refine ⟨F, S, hG, R, h.mono _ _ _ (fun ev S1 ⟨c, S2, xs, e1, e2, p⟩ v H' R' a' => ?_) q⟩
  have R2 := R'.asVal a' e1
  obtain ⟨a, vs, ea, r, _⟩ := top_lstK (one_tops R2) e2
  subst ea
  exact ⟨a, rfl, ⟨vs, r⟩, p [(.ref a, .val c)] H' _ rfl (push1 R2) (by simp [EvAt]) (walkLK e2)⟩
def fListK (K : PySem.W.Frag) (c : D) : Option EV := (seqLK K c).map fun xs => .own (.lst xs)
theorem lsd_listK {K : PySem.W.Frag} : LsD (fun xs H Q => ∃ p ys, xs = [.ref p] ∧ (SqL K H p ys ∨ SqT K H p ys) ∧ ∀ l, H l = none → Q (.ref l) (upd H l (.lst ys))) (one (fListK K)) := by
  refine lsd_one fun Z H x c ev Q t e q => ?_
  obtain ⟨xs, e1, rfl⟩ := Option.map_eq_some_iff.mp e
  obtain ⟨a, vs, rfl, r, rs⟩ := top_lstK t e1
  exact ⟨a, vs, rfl, .inl r, fun l n => q _ _ (same_upd n) (rv_lst n rs)⟩
theorem e_listK (hm : X.mg "list" = none) (ha : DA X G (e :: []) ms) (hg : Gl X "list" := by rfl) (he : starEach (e :: []) X.env = (false, eval e X.env) :: starEach [] X.env := by rfl) (hpl : (backTo pos (starEach [] X.env)).any (·.1) = false := by rfl) :
    DE X G (.Call (.Name "list" p) (e :: []) [] pos) (dLs (one (fListK X.K)) ms) := de_callTy call_list_of lsd_listK hg hm (by decide +kernel) ha (by decide) (by decide) he hpl
end
end DL
set_option Elab.async false
set_option linter.all false
set_option maxRecDepth 100000
set_option maxHeartbeats 1000000
/-! Layer D: evaluations of dict displays, stores into dicts. -/
namespace DL
open PySem PySem.Spec PyProof.Rows L2
section
variable {ms : DAm} {mv mo mk : DM} {S S2 : DS} {evs : List EV} {ev ek : EV} {m2 : DSm} {E : DEnds} {i : Nat} {cv ck : D} {d' : D} {sv : SV} {f : D → D → D → Option D}
theorem ev_dic {cs us : List D} {ks : List Key} (h : EvA ms S evs) (e : asVals S evs = some (cs, S2)) (es : S2 = S) (e2 : kvOf cs = some (ks, us)) (hnd : ks.Nodup) (hl : ks.length ≤ 15) : Ev (dDic ms) S (.own (.dic (ks.map keyD) us)) :=
  Ev.mk fun Q q => h.run _ ⟨cs, S2, ks, us, e, e2, hnd, hl, by rw [es]; exact q⟩
theorem st_put (h1 : Ev mv S ev) (h2 : Ev mo S (.bor i)) (h3 : Ev mk S ek) (e1 : asVals S [ev, ek] = some ([cv, ck], S2)) (e2 : S2[i]? = some (some sv)) (e3 : sv.isMut = true) (e4 : f sv.d ck cv = some d') (q : E.nx (S2.set i (some (sv.put d')))) : dPut i f mv mo mk E S :=
  h1.run _ (h2.run _ ⟨rfl, h3.run _ ⟨cv, ck, S2, sv, d', e1, e2, e3, e4, q⟩⟩)
theorem sq_put (h1 : Ev mv S ev) (h2 : Ev mo S (.bor i)) (h3 : Ev mk S ek) (e1 : asVals S [ev, ek] = some ([cv, ck], S2)) (e2 : S2[i]? = some (some sv)) (e3 : sv.isMut = true) (e4 : f sv.d ck cv = some d') (q : m2 E (S2.set i (some (sv.put d')))) : dSeq (dPut i f mv mo mk) m2 E S :=
  st_put (E := { E with nx := m2 E }) h1 h2 h3 e1 e2 e3 e4 q
end
end DL
set_option Elab.async false
set_option linter.all false
set_option maxRecDepth 100000
set_option maxHeartbeats 1000000
namespace K89
open PySem PySem.Spec PyProof.Rows L2 DL
/-! ### the pen -/
structure Pen where
  cells : List Int
  at_ : Nat
  digits : Int
  count : Nat
  fold : Int
def penKs : List Key := [.inr "cells", .inr "at", .inr "digits", .inr "count", .inr "fold"]
abbrev penK : List D := [.str "cells", .str "at", .str "digits", .str "count", .str "fold"]
def penD (p : Pen) : D := .dic penK [.lst (numsD p.cells), .int p.at_, .int p.digits, .int p.count, .int p.fold]
structure PenOk (n : Nat) (p : Pen) : Prop where
  dg : 0 ≤ p.digits
  f0 : 0 ≤ p.fold
  f1 : p.fold < 2 ^ 32
  cn : p.count ≤ n
  ln : p.cells.length ≤ 1000
def preP (K : PySem.W.Frag) : List D → Prop := fun ds => ∃ c ns, ds = [c] ∧ seqLK K c = some (numsD ns) ∧ ns.length ≤ 1000
def postP (K : PySem.W.Frag) : List D → Out → Prop := fun ds o => ∃ p, o = .inl (.own (penD p)) ∧ PenOk 0 p
section
variable {P : Program} {w : World} {K : PySem.W.Frag} {mg : Str → Option Value} {base : Heap} {f : Addr} {fd : FuncData}
theorem sc__law_pen : FnScope ["script", "fold", "cell"] ["script"] (defScope s__law_pen) := ⟨rfl, rfl, rfl, by decide +kernel, rfl, by decide +kernel, by decide +kernel⟩
theorem ok_law_pen (F : FnP K "_law_pen" s__law_pen f fd) (g_int : mg "int" = none) (g_list : mg "list" = none) : FnG P w K mg base 2 f fd ["script"] (spP (spN (preP K) (postP K))) := by
  refine fnP_ok F sc__law_pen (spN_len fun ds ⟨_, _, e, _⟩ => by rw [e]; rfl) fun cdv A outer st H E G Y B => ?_
  have hr := B.room
  have hpo := B.own
  have nd := sc__law_pen.nd
  refine ⟨_, (db_cons (ds_set 1 nd de_int)
    (db_cons (ds_for hpo rfl (di_listK (de_var 0)) (dg_name 2 nd) (db_one (ds_set 1 nd (e_mod (e_int g_int (da_cons (e_add (e_mul (de_var 1) de_int) (de_var 2)) da_nil)) de_int))))
    (db_one (ds_ret (e_dict (dps_cons de_str (e_listK g_list (da_cons (de_var 0) da_nil)) (dps_cons de_str de_int (dps_cons de_str de_int (dps_cons de_str de_int (dps_cons de_str (de_var 1) dps_nil)))))))))), ?_⟩
  rintro ds Q ⟨⟨c, ns, rfl, hs, hl⟩, q⟩
  refine sq_set ev_c rfl rfl ?_
  refine sq_for (S2 := [some (.val c), some (.val (.int 1013)), none]) (ev_var rfl) rfl hs ?_
  have main : ∀ (r : List Int) (fo : Int) (x : Option SV), 0 ≤ fo → fo < 2 ^ 32 → (∀ d, x ≠ some (.io d)) → ∀ (E : DEnds), (∀ fo x, 0 ≤ fo → fo < 2 ^ 32 → (∀ d, x ≠ some (.io d)) → E.nx [some (.val c), some (.val (.int fo)), x]) →
      dTurns [(.val c, c)] (dgN 2) (dAsg (dBin fMod (dLs (one fIntOf) (dCons (dBin fAdd (dBin fMul (dVar 1) (dC (.int 59))) (dVar 2)) dNil)) (dC (.int 1000000021))) (dgN 1)) E (numsD r) [some (.val c), some (.val (.int fo)), x] := by
    intro r
    induction r with
    | nil => intro fo x h0 h1 hx E he; exact turns_nil holds_one (he fo x h0 h1 hx)
    | cons n r ih =>
      intro fo x h0 h1 hx E he
      refine turns_cons holds_one ⟨⟨by simp, fun d e => hx d (by simpa using e)⟩, ?_⟩
      refine st_set (S2 := [some (.val c), some (.val (.int fo)), some (.val (.int n))]) (ea := .val (.int ((fo * 59 + n) % 1000000021))) (d := .int ((fo * 59 + n) % 1000000021)) (ev_bin (ev_ls (r := .val (.int (fo * 59 + n))) (eva_cons (ev_bin (r := .val (.int (fo * 59 + n))) (ev_bin (r := .val (.int (fo * 59))) (ev_var rfl) ev_c rfl rfl ?_) (ev_var rfl) rfl rfl rfl) eva_nil) rfl rfl) ev_c rfl rfl ?_) rfl (can_of rfl) ?_
      · simp only [fMul]
        rw [if_pos (.inr ⟨by omega, by omega⟩)]
      · simp only [fMod]
        rw [if_pos (by omega)]
      · exact ih _ _ (by omega) (by omega) (by simp) E he
  refine main ns 1013 none (by omega) (by omega) (by simp) _ fun fo x h0 h1 hx => ?_
  dsimp only
  refine st_retO (d := penD ⟨ns, 0, 0, 0, fo⟩) ?_ ?_
  · refine ev_dic (ks := penKs) (us := [.lst (numsD ns), .int (0 : Nat), .int 0, .int (0 : Nat), .int fo]) (S2 := [some (.val c), some (.val (.int fo)), x]) (eva_cons ev_c (eva_cons (ev_ls (r := .own (.lst (numsD ns))) (eva_cons (ev_var rfl) eva_nil) rfl ?_) (eva_cons ev_c (eva_cons ev_c (eva_cons ev_c (eva_cons ev_c (eva_cons ev_c (eva_cons ev_c (eva_cons ev_c (eva_cons (ev_var rfl) eva_nil)))))))))) rfl rfl rfl (by decide) (by decide)
    show (seqLK K c).map _ = _
    rw [hs]
    rfl
  · exact q _ ⟨_, rfl, ⟨Int.le_refl _, h0, h1, Nat.le_refl _, hl⟩⟩
end
end K89
set_option Elab.async false
set_option linter.all false
set_option maxRecDepth 100000
set_option maxHeartbeats 1000000
namespace K89
open PySem PySem.Spec PyProof.Rows L2 DL
/-! ### a draw -/
def PenAt (k : Nat) (d : D) : Prop := ∃ p, d = penD p ∧ PenOk k p
theorem numsD_inj : ∀ {a b : List Int}, numsD a = numsD b → a = b
  | [], [], _ => rfl
  | [], _ :: _, h => by simp at h
  | _ :: _, [], h => by simp at h
  | x :: a, y :: b, h => by
    simp only [List.map_cons, List.cons.injEq, D.int.injEq] at h
    rw [h.1, numsD_inj h.2]
theorem penD_inj {p q : Pen} (h : penD p = penD q) : p = q := by
  simp only [penD, D.dic.injEq, List.cons.injEq, D.lst.injEq, D.int.injEq, true_and, and_true] at h
  obtain ⟨h1, h2, h3, h4, h5⟩ := h
  have h1 := numsD_inj h1
  cases p; cases q
  simp only at h1 h2 h3 h4 h5
  subst h1 h3 h5
  have h2 := Int.ofNat_inj.mp h2
  have h4 := Int.ofNat_inj.mp h4
  subst h2 h4
  rfl
def budget : Nat := 1000000
def preD : D → List D → Prop := fun d ds => ∃ k n, PenAt k d ∧ k < budget ∧ ds = [.int n] ∧ 1 ≤ n ∧ n ≤ 1000000
def postD : D → List D → EV → D → Prop := fun d ds r d' => ∀ k n, PenAt k d → ds = [.int n] → ∃ v, r = .val (.int v) ∧ 0 ≤ v ∧ v < n ∧ PenAt (k + 1) d'
section
variable {p : Pen} {r : DS} {n : Int}
theorem pen_cells : fDGet (penD p) (.str "cells") = some (.val (.lst (numsD p.cells))) := rfl
theorem pen_at : fDGet (penD p) (.str "at") = some (.val (.int p.at_)) := rfl
theorem pen_digits : fDGet (penD p) (.str "digits") = some (.val (.int p.digits)) := rfl
theorem pen_count : fDGet (penD p) (.str "count") = some (.val (.int p.count)) := rfl
theorem pen_fold : fDGet (penD p) (.str "fold") = some (.val (.int p.fold)) := rfl
theorem put_of {ks us : List D} {c v : D} {k : Key} (h : ks.length < sizeLine) (e : keyOf c = some k) : fSet (.dic ks us) c v = some (putD ks us k v) := by
  show (if ks.length < sizeLine then (keyOf c).map fun k => putD ks us k v else none) = _
  rw [if_pos h, e]; rfl
theorem put_count {c : Nat} {v : Int} (h : v = c) : fSet (penD p) (.str "count") (.int v) = some (penD { p with count := c }) := by subst h; exact put_of (ks := penK) (k := .inr "count") (by decide) rfl
theorem put_at {c : Nat} {v : Int} (h : v = c) : fSet (penD p) (.str "at") (.int v) = some (penD { p with at_ := c }) := by subst h; exact put_of (ks := penK) (k := .inr "at") (by decide) rfl
theorem put_digits {v : Int} : fSet (penD p) (.str "digits") (.int v) = some (penD { p with digits := v }) := put_of (ks := penK) (k := .inr "digits") (by decide) rfl
theorem put_fold {v : Int} : fSet (penD p) (.str "fold") (.int v) = some (penD { p with fold := v }) := put_of (ks := penK) (k := .inr "fold") (by decide) rfl
theorem ev_count : Ev (dBin fDGet (dVar 0) (dC (.str "count"))) (some (.io (penD p)) :: r) (.val (.int p.count)) := ev_bin (ev_io rfl) ev_c rfl rfl pen_count
theorem ev_at : Ev (dBin fDGet (dVar 0) (dC (.str "at"))) (some (.io (penD p)) :: r) (.val (.int p.at_)) := ev_bin (ev_io rfl) ev_c rfl rfl pen_at
theorem ev_digits : Ev (dBin fDGet (dVar 0) (dC (.str "digits"))) (some (.io (penD p)) :: r) (.val (.int p.digits)) := ev_bin (ev_io rfl) ev_c rfl rfl pen_digits
theorem ev_fold : Ev (dBin fDGet (dVar 0) (dC (.str "fold"))) (some (.io (penD p)) :: r) (.val (.int p.fold)) := ev_bin (ev_io rfl) ev_c rfl rfl pen_fold
theorem ev_cells : Ev (dBin fDGet (dVar 0) (dC (.str "cells"))) (some (.io (penD p)) :: r) (.val (.lst (numsD p.cells))) := ev_bin (ev_io rfl) ev_c rfl rfl pen_cells
theorem pow_some {i j : Int} (h : CPow i j) : ∃ T, fPow (.int i) (.int j) = some (.val (.int T)) := ⟨_, if_pos h⟩
theorem mod_some {i j : Int} (h : 0 < j) : ∃ T, fMod (.int i) (.int j) = some (.val (.int T)) := ⟨_, if_pos h⟩
theorem e18 : ∃ T, fPow (.int 10) (.int 18) = some (.val (.int T)) := pow_some ⟨by omega, by omega, by decide⟩
end
section
variable {P : Program} {w : World} {K : PySem.W.Frag} {mg : Str → Option Value} {base : Heap} {f : Addr} {fd : FuncData}
theorem sc__law_draw : FnScope ["pen", "many", "cell", "digit", "blend"] ["pen", "many"] (defScope s__law_draw) := ⟨rfl, rfl, rfl, by decide +kernel, rfl, by decide +kernel, by decide +kernel⟩
theorem ok_law_draw (F : FnP K "_law_draw" s__law_draw f fd) (g_int : mg "int" = none) (g_len : mg "len" = none) : FnG P w K mg base 2 f fd ["pen", "many"] (spI (spA preD postD)) := by
  refine fnI_ok F sc__law_draw (fun d ds Q ⟨⟨_, _, _, _, e, _⟩, _⟩ => by rw [e]; rfl) fun cdv A outer st H E G B => ?_
  have hr := B.room
  have hu := Nat.lt_of_le_of_lt (Nat.add_le_add_left (by decide : 1 ≤ 64) _) hr.units
  have nd := sc__law_draw.nd
  refine ⟨_, (db_cons (ds_put (i := 0) hu (e_add (de_dget hu (de_var 0) de_str (fun _ _ => rfl)) de_int) (de_var 0) de_str)
    (db_cons (ds_if (dt_w (dw_and (t_eq hr (de_dget hu (de_var 0) de_str (fun _ _ => rfl)) de_int) (dw_and1 (t_lt (de_dget hu (de_var 0) de_str (fun _ _ => rfl)) (e_len g_len (da_cons (de_dget hu (de_var 0) de_str (fun _ _ => rfl)) da_nil)))))) (db_cons (ds_set 2 nd (e_ix (de_dget hu (de_var 0) de_str (fun _ _ => rfl)) (de_dget hu (de_var 0) de_str (fun _ _ => rfl))))
    (db_cons (ds_put (i := 0) hu (e_add (de_dget hu (de_var 0) de_str (fun _ _ => rfl)) de_int) (de_var 0) de_str)
    (db_one (ds_if (t_ge (de_var 2) (e_pow de_int de_int)) (db_one (ds_put (i := 0) hu (e_sub (de_var 2) (e_pow de_int de_int)) (de_var 0) de_str)) (db_one (ds_put (i := 0) hu (e_mod (e_int g_int (da_cons (e_add (e_mul (de_dget hu (de_var 0) de_str (fun _ _ => rfl)) de_int) (de_var 2)) da_nil)) de_int) (de_var 0) de_str)))))) db_nil)
    (db_cons (ds_if (t_gt (de_dget hu (de_var 0) de_str (fun _ _ => rfl)) de_int) (db_cons (ds_set 3 nd (e_mod (e_int g_int (da_cons (de_dget hu (de_var 0) de_str (fun _ _ => rfl)) da_nil)) (de_var 1)))
    (db_cons (ds_put (i := 0) hu (e_div (de_dget hu (de_var 0) de_str (fun _ _ => rfl)) (de_var 1)) (de_var 0) de_str)
    (db_one (ds_ret (de_var 3))))) db_nil)
    (db_cons (ds_set 4 nd (e_add (e_add (de_dget hu (de_var 0) de_str (fun _ _ => rfl)) (e_mul (de_dget hu (de_var 0) de_str (fun _ _ => rfl)) de_int)) de_int))
    (db_one (ds_ret (e_mod (e_div (e_int g_int (da_cons (e_mod (e_pow (de_var 4) de_int) de_int) da_nil)) de_int) (de_var 1)))))))), ?_⟩
  rintro d ds Q ⟨⟨k, n, ⟨p, rfl, hp⟩, hk, rfl, hn1, hn2⟩, q⟩
  have hk' : k < 1000000 := hk
  have q : ∀ v p', 0 ≤ v → v < n → 0 ≤ p'.digits → 0 ≤ p'.fold → p'.fold < 2 ^ 32 → p'.count = p.count + 1 → p'.cells = p.cells → Q (.val (.int v)) (penD p') := fun v p' h1 h2 h3 h4 h5 h6 h7 => q _ _ fun k2 n2 ⟨p2, e, hp2⟩ en => by
    have e := penD_inj e
    subst e
    simp only [List.cons.injEq, D.int.injEq, and_true] at en
    subst en
    exact ⟨v, rfl, h1, h2, p', rfl, h3, h4, h5, by have := hp2.cn; omega, by rw [h7]; exact hp2.ln⟩
  obtain ⟨hd, hf0, hf1, hc, hl⟩ := hp
  refine sq_put (S2 := [some (.io (penD p)), some (.val (.int n)), none, none, none]) (cv := .int (p.count + 1)) (ev_bin (r := .val (.int (p.count + 1))) ev_count ev_c rfl rfl rfl) (ev_io rfl) ev_c rfl rfl rfl (put_count (c := p.count + 1) rfl) ?_
  have tail : ∀ (p2 : Pen) (x : Option SV), 0 ≤ p2.digits → 0 ≤ p2.fold → p2.fold < 2 ^ 32 → p2.count = p.count + 1 → p2.cells = p.cells →
      (dSeq (dIfS (dB (dBin fGt (dBin fDGet (dVar 0) (dC (.str "digits"))) (dC (.int 0)))) (dSeq (dAsg (dBin fMod (dLs (one fIntOf) (dCons (dBin fDGet (dVar 0) (dC (.str "digits"))) dNil)) (dVar 1)) (dgN 3)) (dSeq (dPut 0 fSet (dBin fDiv (dBin fDGet (dVar 0) (dC (.str "digits"))) (dVar 1)) (dVar 0) (dC (.str "digits"))) (dRet (dVar 3)))) dNext)
        (dSeq (dAsg (dBin fAdd (dBin fAdd (dBin fDGet (dVar 0) (dC (.str "fold"))) (dBin fMul (dBin fDGet (dVar 0) (dC (.str "count"))) (dC (.int 7877)))) (dC (.int 61))) (dgN 4)) (dRet (dBin fMod (dBin fDiv (dLs (one fIntOf) (dCons (dBin fMod (dBin fPow (dVar 4) (dC (.int 17))) (dC (.int 2305843009213693951))) dNil)) (dC (.int 128))) (dVar 1))))) (endsI Q) [some (.io (penD p2)), some (.val (.int n)), x, none, none] := by
    intro p2 x hd hf0 hf1 hc2 hce
    apply sq_if (b := decide (0 < p2.digits))
    · exact evt_b (ev_bin ev_digits ev_c rfl rfl rfl)
    · intro hb
      have hb := of_decide_eq_true hb
      refine sq_set (ea := .val (.int (p2.digits % n))) (S2 := [some (.io (penD p2)), some (.val (.int n)), x, none, none]) (ev_bin (ev_ls (r := .val (.int p2.digits)) (eva_cons ev_digits eva_nil) rfl rfl) (ev_var rfl) rfl rfl ?_) rfl rfl ?_
      · simp only [fMod]
        rw [if_pos (by omega)]
      refine sq_put (S2 := [some (.io (penD p2)), some (.val (.int n)), x, some (.val (.int (p2.digits % n))), none]) (cv := .int (p2.digits / n)) (ev_bin (r := .val (.int (p2.digits / n))) ev_digits (ev_var rfl) rfl rfl ?_) (ev_io rfl) ev_c rfl rfl rfl put_digits ?_
      · simp only [fDiv]
        rw [if_pos ⟨by omega, by omega⟩]
      refine st_ret (ev_var rfl) ⟨_, rfl, ?_⟩
      exact q _ _ (Int.emod_nonneg _ (by omega)) (Int.emod_lt_of_pos _ (by omega)) (Int.ediv_nonneg hd (by omega)) hf0 hf1 hc2 hce
    intro _
    refine sq_set (ea := .val (.int (p2.fold + p2.count * 7877 + 61))) (S2 := [some (.io (penD p2)), some (.val (.int n)), x, none, none]) (ev_bin (ev_bin (r := .val (.int (p2.fold + p2.count * 7877))) ev_fold (ev_bin (r := .val (.int (p2.count * 7877))) ev_count ev_c rfl rfl ?_) rfl rfl rfl) ev_c rfl rfl rfl) rfl rfl ?_
    · simp only [fMul]
      rw [if_pos (.inr ⟨by omega, by omega⟩)]
    generalize hbl : p2.fold + p2.count * 7877 + 61 = bl
    have hbl1 : 0 ≤ bl ∧ bl < 2 ^ 40 := by omega
    obtain ⟨T, hT⟩ := pow_some (i := bl) (j := 17) ⟨by omega, by omega, by omega⟩
    obtain ⟨U, hU⟩ := mod_some (i := T) (j := 2305843009213693951) (by decide)
    refine st_ret (d := .int (U / 128 % n)) (ev_bin (ev_bin (r := .val (.int (U / 128))) (ev_ls (r := .val (.int U)) (eva_cons (ev_bin (ev_bin (ev_var rfl) ev_c rfl rfl hT) ev_c rfl rfl hU) eva_nil) rfl rfl) ev_c rfl rfl ?_) (ev_var rfl) rfl rfl ?_) ⟨_, rfl, ?_⟩
    · simp only [fDiv]
      rw [if_pos ⟨by omega, by omega⟩]
    · simp only [fMod]
      rw [if_pos (by omega)]
    · exact q _ _ (Int.emod_nonneg _ (by omega)) (Int.emod_lt_of_pos _ (by omega)) hd hf0 hf1 hc2 hce
  apply sq_if (S := [some (.io (penD { p with count := p.count + 1 })), some (.val (.int n)), none, none, none]) (b := decide (p.digits = 0) && decide (((p.at_ : Nat) : Int) < ((numsD p.cells).length : Nat)))
  · apply evt_and
    · exact evt_b (ev_bin ev_digits ev_c rfl rfl rfl)
    · intro _
      exact evt_b (ev_bin ev_at (ev_ls (eva_cons ev_cells eva_nil) rfl len_lst) rfl rfl rfl)
  · intro hb
    simp only [Bool.and_eq_true, decide_eq_true_eq] at hb
    obtain ⟨hb1, hb2⟩ := hb
    rw [List.length_map] at hb2
    have hb2 : p.at_ < p.cells.length := by omega
    obtain ⟨c, hc'⟩ : ∃ c, p.cells[p.at_]? = some c := ⟨_, List.getElem?_eq_getElem hb2⟩
    obtain ⟨T, hT⟩ := e18
    refine sq_set (ea := .val (.int c)) (S2 := [some (.io (penD { p with count := p.count + 1 })), some (.val (.int n)), none, none, none]) (ev_bin ev_cells ev_at rfl rfl (ix_lst (by rw [List.getElem?_map, hc']; rfl))) rfl rfl ?_
    refine sq_put (S2 := [some (.io (penD { p with count := p.count + 1 })), some (.val (.int n)), some (.val (.int c)), none, none]) (cv := .int (p.at_ + 1)) (ev_bin (r := .val (.int (p.at_ + 1))) ev_at ev_c rfl rfl rfl) (ev_io rfl) ev_c rfl rfl rfl (put_at (c := p.at_ + 1) rfl) ?_
    refine st_if (S := [some (.io (penD { p with count := p.count + 1, at_ := p.at_ + 1 })), some (.val (.int n)), some (.val (.int c)), none, none]) (b := decide (T ≤ c)) (evt_b (ev_bin (ev_var rfl) (ev_bin ev_c ev_c rfl rfl hT) rfl rfl rfl)) (fun h => ?_) (fun h => ?_)
    · have h := of_decide_eq_true h
      refine st_put (S2 := [some (.io (penD { p with count := p.count + 1, at_ := p.at_ + 1 })), some (.val (.int n)), some (.val (.int c)), none, none]) (cv := .int (c - T)) (ev_bin (r := .val (.int (c - T))) (ev_var rfl) (ev_bin ev_c ev_c rfl rfl hT) rfl rfl rfl) (ev_io rfl) ev_c rfl rfl rfl put_digits ?_
      exact tail { p with count := p.count + 1, at_ := p.at_ + 1, digits := c - T } _ (by show 0 ≤ c - T; omega) hf0 hf1 rfl rfl
    · refine st_put (S2 := [some (.io (penD { p with count := p.count + 1, at_ := p.at_ + 1 })), some (.val (.int n)), some (.val (.int c)), none, none]) (cv := .int ((p.fold * 69997 + c) % 2147483563)) (ev_bin (r := .val (.int ((p.fold * 69997 + c) % 2147483563))) (ev_ls (r := .val (.int (p.fold * 69997 + c))) (eva_cons (ev_bin (r := .val (.int (p.fold * 69997 + c))) (ev_bin (r := .val (.int (p.fold * 69997))) ev_fold ev_c rfl rfl ?_) (ev_var rfl) rfl rfl rfl) eva_nil) rfl rfl) ev_c rfl rfl ?_) (ev_io rfl) ev_c rfl rfl rfl put_fold ?_
      · simp only [fMul]
        rw [if_pos (.inr ⟨by omega, by omega⟩)]
      · simp only [fMod]
        rw [if_pos (by decide)]
      · exact tail { p with count := p.count + 1, at_ := p.at_ + 1, fold := (p.fold * 69997 + c) % 2147483563 } _ hd (by show 0 ≤ (_ : Int) % _; omega) (by show (_ : Int) % _ < _; omega) rfl rfl
  · intro _
    exact tail { p with count := p.count + 1 } _ hd hf0 hf1 rfl rfl
end
end K89
set_option Elab.async false
set_option linter.all false
set_option maxRecDepth 100000
set_option maxHeartbeats 1000000
namespace K89
open PySem PySem.Spec PyProof.Rows L2 DL
/-! ### a pick -/
theorem natle {n : Nat} (h : n ≤ 1000) : ((n : Nat) : Int) ≤ 1000000 := by omega
/-- m draws later -/
def PenNext (m : Nat) (d d' : D) : Prop := ∀ k, PenAt k d → PenAt (k + m) d'
theorem PenNext.trans {a b : Nat} {d d' d'' : D} (h : PenNext a d d') (h' : PenNext b d' d'') : PenNext (a + b) d d'' := fun k hp => by
  rw [← Nat.add_assoc]; exact h' _ (h _ hp)
theorem PenNext.refl {d : D} : PenNext 0 d d := fun k h => h
def preK : D → List D → Prop := fun d ds => ∃ k xs, PenAt k d ∧ k < budget ∧ ds = [.lst xs] ∧ 1 ≤ xs.length ∧ xs.length ≤ 1000
def postK : D → List D → EV → D → Prop := fun d ds r d' => ∀ xs, ds = [.lst xs] → ∃ x, x ∈ xs ∧ r = .val x ∧ PenNext 1 d d'
theorem PenAt.mono {k k' : Nat} {d : D} (h : PenAt k d) (hk : k ≤ k') : PenAt k' d := by
  obtain ⟨p, rfl, h⟩ := h
  exact ⟨p, rfl, h.dg, h.f0, h.f1, Nat.le_trans h.cn hk, h.ln⟩
section
variable {P : Program} {w : World} {K : PySem.W.Frag} {mg : Str → Option Value} {base : Heap} {f : Addr} {fd : FuncData}
theorem run_draw {ms : DAm} {d : D} {n : Int} {k : Nat} {r : DS} {Q : EV → DS → Prop} {es : List EV} (h : EvA ms (some (.io d) :: r) (.bor 0 :: es)) (e : asVals (some (.io d) :: r) es = some ([.int n], some (.io d) :: r)) (hp : PenAt k d) (hk : k < budget) (h1 : 1 ≤ n) (h2 : n ≤ 1000000)
    (q : ∀ v d', 0 ≤ v → v < n → PenNext 1 d d' → Q (.val (.int v)) (some (.io d') :: r)) : dCallI (spA preD postD) 0 ms (some (.io d) :: r) Q := by
  refine dcall_A h e rfl rfl ⟨k, n, hp, hk, rfl, h1, h2⟩ fun rr d' hpost => ?_
  obtain ⟨v, rfl, hv0, hv1, hp'⟩ := hpost k n hp rfl
  exact q v d' hv0 hv1 fun k2 h2 => let ⟨_, _, _, _, z⟩ := hpost k2 n h2 rfl; z
theorem run_pick {ms : DAm} {d : D} {xs : List D} {k : Nat} {r r2 : DS} {Q : EV → DS → Prop} {es : List EV} (h : EvA ms (some (.io d) :: r) (.bor 0 :: es)) (e : asVals (some (.io d) :: r) es = some ([.lst xs], some (.io d) :: r2)) (hp : PenAt k d) (hk : k < budget) (h1 : 1 ≤ xs.length) (h2 : xs.length ≤ 1000)
    (q : ∀ x d', x ∈ xs → PenNext 1 d d' → Q (.val x) (some (.io d') :: r2)) : dCallI (spA preK postK) 0 ms (some (.io d) :: r) Q := by
  refine dcall_A h e rfl rfl ⟨k, xs, hp, hk, rfl, h1, h2⟩ fun rr d' hpost => ?_
  obtain ⟨x, hx, rfl, hp'⟩ := hpost xs rfl
  exact q x d' hx hp'
theorem run_bin {f : D → D → Option EV} {ma mb : DM} {S : DS} {ea : EV} {Q : EV → DS → Prop} (h : Ev ma S ea) (q : mb S fun eb S2 => ∃ c d ev, cont S2 ea = some c ∧ cont S2 eb = some d ∧ f c d = some ev ∧ Q ev S2) : dBin f ma mb S Q := h.run _ q
theorem sc__law_pick : FnScope ["pen", "some"] ["pen", "some"] (defScope s__law_pick) := ⟨rfl, rfl, rfl, by decide +kernel, rfl, by decide +kernel, by decide +kernel⟩
theorem ok_law_pick (F : FnP K "_law_pick" s__law_pick f fd) (g_len : mg "len" = none) (c__law_draw : Cal P w K mg base 2 "_law_draw" ["pen", "many"] (spI (spA preD postD))) : FnG P w K mg base 3 f fd ["pen", "some"] (spI (spA preK postK)) := by
  refine fnI_ok F sc__law_pick (fun d ds Q ⟨⟨_, _, _, _, e, _⟩, _⟩ => by rw [e]; rfl) fun cdv A outer st H E G B => ?_
  have hr := B.room
  have hgd := B.gd
  refine ⟨_, (db_one (ds_ret (e_ix (de_var 1) (e_callI 0 c__law_draw mono_A hr hgd (da_cons (de_var 0) (da_cons (e_len g_len (da_cons (de_var 1) da_nil)) da_nil)))))), ?_⟩
  rintro d ds Q ⟨⟨k, xs, hp, hk, rfl, h1, h2⟩, q⟩
  refine run_bin (ev_var (d := .lst xs) rfl) (run_draw (eva_cons (ev_io rfl) (eva_cons (ev_ls (eva_cons (ev_var rfl) eva_nil) rfl len_lst) eva_nil)) rfl hp hk (by exact_mod_cast h1) (natle h2) fun v d' hv0 hv1 hp' => ?_)
  obtain ⟨j, rfl⟩ := Int.eq_ofNat_of_zero_le hv0
  have hj : j < xs.length := by omega
  refine ⟨.lst xs, .int (j : Nat), .val xs[j], rfl, rfl, ix_lst (List.getElem?_eq_getElem hj), _, rfl, ?_⟩
  exact q _ _ fun ys e => by
    simp only [List.cons.injEq, D.lst.injEq, and_true] at e
    subst e
    refine ⟨_, List.getElem_mem hj, rfl, hp'⟩
end
end K89
set_option Elab.async false
set_option linter.all false
set_option maxRecDepth 100000
set_option maxHeartbeats 1000000
namespace K89
open PySem PySem.Spec PyProof.Rows L2 DL
/-! ### drawn names -/
theorem cs_app (a b : Str) : cs (a ++ b) = cs a ++ cs b := by
  show (a.cps ++ b.cps).toList = _
  simp
theorem len_app (a b : Str) : (a ++ b).length = a.length + b.length := by rw [← cs_len, ← cs_len, ← cs_len, cs_app, List.length_append]
theorem joinL_nil : ∀ l : List (List Nat), TL.joinL [] l = l.flatten
  | [] => rfl
  | [p] => by simp [TL.joinL]
  | p :: q :: r => by
    have := joinL_nil (q :: r)
    simp [TL.joinL] at this ⊢
    exact this
def sg (c : Nat) : Str := ⟨#[c]⟩
abbrev sgD (l : List Nat) : List D := l.map fun c => .str (sg c)
theorem join_sg (l : List Nat) : cs (Txt.join "" (l.map sg)) = l := by
  rw [TL.join_eq]
  show TL.tl _ = _
  rw [TL.tl_join]
  have : TL.tl ("" : Str) = [] := by decide +kernel
  rw [this, joinL_nil, List.map_map]
  induction l with
  | nil => rfl
  | cons c l ih => rw [List.map_cons, List.flatten_cons, ih]; rfl
theorem allStr_sg : ∀ l : List Nat, allStr (sgD l) = some (l.map sg)
  | [] => rfl
  | c :: l => by
    show (allStr (sgD l)).map _ = _
    rw [allStr_sg l]; rfl
theorem sum_sg : ∀ l : List Nat, ((l.map sg).map (·.length)).sum = l.length
  | [] => rfl
  | c :: l => by
    rw [List.map_cons, List.map_cons, List.sum_cons, sum_sg l, List.length_cons, Nat.add_comm]; rfl
theorem fJoin_sg {l : List Nat} (h : l.length ≤ 100) : fJoin "" (.lst (sgD l)) = some (.val (.str (Txt.join "" (l.map sg)))) := by
  show (some (sgD l)).bind _ = _
  show (allStr (sgD l)).bind _ = _
  rw [allStr_sg]
  show (if ((l.map sg).map (·.length)).sum + (l.map sg).length * ("" : Str).length ≤ 16777216 then _ else _) = _
  rw [if_pos]
  rw [sum_sg, show ("" : Str).length = 0 from rfl]
  omega
theorem sig_len : (cs sigS).length = 36 := by decide +kernel
theorem sig_mem {i : Nat} {c : Nat} (h : (cs sigS)[i]? = some c) : c ∈ lows ++ digs := by rw [← sigS_eq]; exact List.mem_of_getElem? h
theorem sig_low {i : Nat} {c : Nat} (h : (cs sigS)[i]? = some c) (hi : i < 26) : c ∈ lows := by
  have : (cs sigS).take 26 = lows := by decide +kernel
  rw [← this]
  exact List.mem_of_getElem? (i := i) (by rw [List.getElem?_take, if_pos hi]; exact h)
theorem sig_ix {v : Int} (h0 : 0 ≤ v) (h1 : v < 36) : ∃ c, c ∈ lows ++ digs ∧ (v < 26 → c ∈ lows) ∧ fIx (.str sigS) (.int v) = some (.val (.str (sg c))) := by
  obtain ⟨i, rfl⟩ := Int.eq_ofNat_of_zero_le h0
  have hi : i < (cs sigS).length := by rw [sig_len]; omega
  refine ⟨(cs sigS)[i], sig_mem (List.getElem?_eq_getElem hi), fun h => sig_low (List.getElem?_eq_getElem hi) (by omega), ?_⟩
  show (if sigS.length ≤ sizeLine then (L2.atI (cs sigS) (i : Nat)).map fun c => EV.val (.str ⟨#[c]⟩) else none) = _
  rw [if_pos (by rw [← cs_len, sig_len]; decide)]
  have : L2.atI (cs sigS) ((i : Nat) : Int) = some (cs sigS)[i] := by
    exact atI_nat (List.getElem?_eq_getElem hi)
  rw [this]; rfl
theorem isNm_of {w : Str} {c : Nat} {r : List Nat} (h : cs w = c :: r) (h1 : r.length ≤ 11) (hc : c ∈ lows) (ha : ∀ x ∈ r, x ∈ lows ++ digs) : isNm w = true := by
  have hl : w.length = r.length + 1 := by rw [← cs_len, h]; rfl
  unfold isNm
  rw [h, hl]
  simp only [Bool.and_eq_true, List.all_eq_true, List.headD_cons, decide_eq_true_eq]
  refine ⟨by omega, by omega, decide_eq_true hc, fun x hx => ?_⟩
  rcases List.mem_cons.mp hx with e | hx
  · rw [e]; exact List.mem_append_left _ hc
  · exact ha x hx
end K89
set_option Elab.async false
set_option linter.all false
set_option maxRecDepth 100000
set_option maxHeartbeats 1000000
namespace K89
open PySem PySem.Spec PyProof.Rows L2 DL
/-! ### the walk of _law_names -/
section
variable {m m1 m2 ma mb : DM} {ms : DAm} {S : DS} {Q : EV → DS → Prop} {s2 : DSm} {E : DEnds} {i j l : Nat} {o o' o'' : Bool}
theorem sq_asgR (q : m S fun ev S' => ∃ d S2, asVal S' ev = some (d, S2) ∧ canStore S2 i ∧ s2 E (S2.set i (some (.val d)))) : dSeq (dAsg m (dgN i)) s2 E S := q
theorem run_bin2 {f : D → D → Option EV} (q : ma S fun ea S1 => mb S1 fun eb S2 => ∃ c d ev, cont S2 ea = some c ∧ cont S2 eb = some d ∧ f c d = some ev ∧ Q ev S2) : dBin f ma mb S Q := q
theorem run_str {f : Str → D → Option EV} {z : Str} (h : Ev ma S (.val (.str z))) (q : mb S fun ee S2 => ∃ c ev, cont S2 ee = some c ∧ f z c = some ev ∧ Q ev S2) : dStr f ma mb S Q := h.run _ ⟨z, rfl, q⟩
theorem run_lcR {mt : DTm} {vs : List Nat} {j : Int} (h : EvA ms S [.val (.int j)]) (h1 : -(2 ^ 62) ≤ j) (h2 : j < 2 ^ 62) (q : dLcT [] i mt m vs (fun ev S'' => Q ev (wipeD S'' vs)) [] (ups 0 j.toNat) (wipeD S vs)) : dLc (dRange1 ms) i mt m vs S Q := h.run _ ⟨j, rfl, h1, h2, q⟩
theorem run_cons {Q : List EV → DS → Prop} (q : m S fun ev S1 => ms S1 fun evs S2 => Q (ev :: evs) S2) : dCons m ms S Q := q
theorem run_nil {Q : List EV → DS → Prop} (q : Q [] S) : dNil S Q := q
theorem sq_par3R (q : ms S fun evs S1 => ∃ e1 e2 e3, evs = [e1, e2, e3] ∧ noB e1 j ∧ noB e1 l ∧ noB e2 l ∧ stQ o'' l e3 S1 fun S2 => stQ o' j e2 S2 fun S3 => stQ o i e1 S3 (s2 E)) : dSeq (dPar3 i o j o' l o'' ms) s2 E S := q
theorem sq_par2R (q : ms S fun evs S1 => ∃ e1 e2, evs = [e1, e2] ∧ noB e1 j ∧ stQ o' j e2 S1 fun S2 => stQ o i e1 S2 (s2 E)) : dSeq (dPar2 i o j o' ms) s2 E S := q
theorem noB_val {d : D} : noB (.val d) j := fun k h => by cases h
theorem noB_own {d : D} : noB (.own d) j := fun k h => by cases h
theorem stQ_val {d : D} {Q : DS → Prop} (h : canB S i = true) (q : Q (S.set i (some (.val d)))) : stQ false i (.val d) S Q := ⟨_, _, rfl, can_of h, q⟩
theorem stQ_own {d : D} {Q : DS → Prop} (h : canB S i = true) (q : Q (S.set i (some (.own d)))) : stQ true i (.own d) S Q := ⟨_, _, rfl, can_of h, q⟩
end
theorem cs_cut (w : Str) (lo hi : Option Int) : cs (cutS w lo hi) = DL.cutD (cs w) lo hi := by
  have := cs_len w
  show (w.cps.toList.drop (HT.sIx w.length 0 lo)).take (HT.sIx w.length w.length hi - HT.sIx w.length 0 lo) = _
  rw [← this]
  rfl
theorem cutD_to {α : Type} (xs : List α) (b : Nat) : DL.cutD xs none (some (b : Int)) = xs.take b := by
  unfold DL.cutD
  rw [HT.sIx_none, HT.sIx_nat, List.drop_zero, Nat.sub_zero]
  by_cases h : b ≤ xs.length
  · rw [Nat.min_eq_left h]
  · rw [Nat.min_eq_right (by omega), List.take_of_length_le (Nat.le_refl _), List.take_of_length_le (by omega)]
/-- a drawn name: the base with one sign changed, cut off -/
theorem name_ok {b : Str} {c c' : Nat} {l : List Nat} {a t : Nat} (hb : cs b = c :: l) (hl : l.length ≤ 11) (hc : c ∈ lows) (ha : ∀ x ∈ l, x ∈ lows ++ digs) (hat : a ≤ l.length) (hc' : c' ∈ lows ++ digs) (h0 : a = 0 → c' ∈ lows) :
    isNm ((cutS b none (some (a : Int)) ++ sg c') ++ cutS (cutS b (some ((a : Int) + 1)) none) none (some (t : Int))) = true := by
  have e : cs ((cutS b none (some (a : Int)) ++ sg c') ++ cutS (cutS b (some ((a : Int) + 1)) none) none (some (t : Int))) = (c :: l).take a ++ [c'] ++ ((c :: l).drop (a + 1)).take t := by
    rw [cs_app, cs_app, cs_cut, cs_cut, cs_cut, cutD_to, cutD_to, show ((a : Int) + 1) = ((a + 1 : Nat) : Int) from rfl, cutD_from, hb]
    rfl
  have hr : ∀ x ∈ ((c :: l).drop (a + 1)).take t, x ∈ lows ++ digs := fun x hx => by
    have hx := List.mem_of_mem_drop (List.mem_of_mem_take hx)
    rcases List.mem_cons.mp hx with h | h
    · rw [h]; exact List.mem_append_left _ hc
    · exact ha x h
  have hrl : (((c :: l).drop (a + 1)).take t).length ≤ l.length - a := by
    rw [List.length_take, List.length_drop, List.length_cons]; omega
  cases a with
  | zero =>
    refine isNm_of (c := c') (r := ((c :: l).drop (0 + 1)).take t) (by rw [e]; rfl) (by omega) (h0 rfl) hr
  | succ a =>
    refine isNm_of (c := c) (r := l.take a ++ [c'] ++ ((c :: l).drop (a + 1 + 1)).take t) (by rw [e]; rfl) ?_ hc fun x hx => ?_
    · rw [List.length_append, List.length_append, List.length_take, List.length_singleton]; omega
    · rcases List.mem_append.mp hx with hx | hx
      · rcases List.mem_append.mp hx with hx | hx
        · exact ha x (List.mem_of_mem_take hx)
        · rw [List.mem_singleton.mp hx]; exact hc'
      · exact hr x hx
end K89
set_option Elab.async false
set_option linter.all false
set_option maxRecDepth 100000
set_option maxHeartbeats 1000000
namespace K89
open PySem PySem.Spec PyProof.Rows L2 DL
abbrev nS (d : D) (many size : Int) : DS := [some (.io d), some (.val (.int many)), some (.val (.str sigS)), some (.val (.int size)), none, none, none, none, none, none, none, none]
abbrev mSig (n : Int) : DM := dBin fIx (dVar 2) (dCallI (spA preD postD) 0 (dCons (dVar 0) (dCons (dC (.int n)) dNil)))
theorem PenNext.le {a b : Nat} {d d' : D} (h : PenNext a d d') (hab : a ≤ b) : PenNext b d d' := fun k hp => (h k hp).mono (by omega)
theorem PenNext.then1 {a : Nat} {d d' d'' : D} (h : PenNext a d d') (h' : PenNext 1 d' d'') : PenNext (a + 1) d d'' := h.trans h'
theorem yesR {A : DS → Prop} {B : DS → Prop} {S : DS} (q : A S) : dYes S fun b S2 => if b = true then A S2 else B S2 := by
  show (if true = true then A S else B S)
  rw [if_pos rfl]; exact q
theorem comp_signs {many size : Int} {k0 : Nat} {d0 : D} (hp0 : PenAt k0 d0) (hk : k0 + 30 < budget) {Q : EV → DS → Prop} : ∀ (ds : List D) (m : Nat) (d : D) (acc : List Nat), PenNext m d0 d → m + ds.length ≤ 20 → acc.length + ds.length ≤ 100 → (∀ c ∈ acc, c ∈ lows ++ digs) →
    (∀ d' l, l.length = acc.length + ds.length → (∀ c ∈ l, c ∈ lows ++ digs) → PenNext (m + ds.length) d0 d' → Q (.own (.lst (sgD l))) (nS d' many size)) → dLcT [] 5 dYes (mSig 36) [5] Q (sgD acc) ds (nS d many size)
  | [], m, d, acc, hn, hm, ha, hc, q => ⟨holds_nil, q d acc rfl hc hn⟩
  | x :: ds, m, d, acc, hn, hm, ha, hc, q => by
    rw [List.length_cons] at hm ha
    refine ⟨holds_nil, can_of rfl, ?_⟩
    refine yesR (run_bin (ev_var (d := .str sigS) rfl) (run_draw (k := k0 + m) (eva_cons (ev_io rfl) (eva_cons ev_c eva_nil)) rfl (hn k0 hp0) (by omega) (by omega) (by omega) fun v d' h0 h1 hn' => ?_))
    obtain ⟨c, hc', _, hix⟩ := sig_ix h0 h1
    refine ⟨_, _, _, rfl, rfl, hix, _, _, rfl, by rw [List.length_map, sizeLine_eq]; omega, ?_⟩
    have := comp_signs (many := many) (size := size) hp0 hk (Q := Q) ds (m + 1) d' (acc ++ [c]) (hn.then1 hn') (by omega) (by rw [List.length_append, List.length_singleton]; omega) (fun z hz => by
      rcases List.mem_append.mp hz with h | h
      · exact hc z h
      · rw [List.mem_singleton.mp h]; exact hc') (fun d'' l hl hls hn'' => q d'' l (by rw [hl, List.length_append, List.length_singleton, List.length_cons]; omega) hls (by rw [List.length_cons, show m + (ds.length + 1) = m + 1 + ds.length by omega]; exact hn''))
    rw [show sgD (acc ++ [c]) = sgD acc ++ [.str (sg c)] by simp] at this
    exact this
theorem run_ev {m : DM} {S : DS} {ev : EV} {Q : EV → DS → Prop} (h : Ev m S ev) (q : Q ev S) : m S Q := h.run _ q
def preN : D → List D → Prop := fun d ds => ∃ k many, PenAt k d ∧ k + 30 < budget ∧ ds = [.int many] ∧ 0 ≤ many ∧ many ≤ 1000
def postN : D → List D → EV → D → Prop := fun d ds r d' => ∀ many : Int, ds = [.int many] → ∃ ws : List Str, r = .own (.lst (txs ws)) ∧ ws.length = many.toNat ∧ (∀ w ∈ ws, isNm w = true) ∧ PenNext 20 d d'
section
variable {P : Program} {w : World} {K : PySem.W.Frag} {mg : Str → Option Value} {base : Heap} {f : Addr} {fd : FuncData}
theorem sc__law_names : FnScope ["pen", "many", "signs", "size", "base", "k", "at", "first", "cut", "by", "found", "sign"] ["pen", "many"] (defScope s__law_names) := ⟨rfl, rfl, rfl, by decide +kernel, rfl, by decide +kernel, by decide +kernel⟩
abbrev nL (d : D) (many size : Int) (b : Str) (a : Nat) (first cut by_ : Int) (ws : List Str) (x5 x11 : Option SV) : DS := [some (.io d), some (.val (.int many)), some (.val (.str sigS)), some (.val (.int size)), some (.val (.str b)), x5, some (.val (.int a)), some (.val (.int first)), some (.val (.int cut)), some (.val (.int by_)), some (.own (.lst (txs ws))), x11]
theorem sl_str {z : Str} {lo hi : Option Int} (h : z.length ≤ sizeLine) : fSl (.str z) lo hi = some (.val (.str (cutS z lo hi))) := if_pos h
theorem can_b11 {d : D} {many size : Int} {b : Str} {a : Nat} {vf vc y : Int} {ws : List Str} {x5 x11 : Option SV} (h : ∀ d, x11 ≠ some (.io d)) : canB (nL d many size b a vf vc y ws x5 x11) 11 = true := by
  unfold canB
  simp only [List.getElem?_cons_succ, List.getElem?_cons_zero]
abbrev mNames : DSm := dSeq (dAsg (dBin fIx (dVar 2) (dBin fMod (dLs (one fIntOf) (dCons (dBin fAdd (dVar 7) (dBin fMul (dVar 9) (dVar 5))) dNil)) (dIf (dB (dBin fEq (dVar 6) (dC (.int 0)))) (dC (.int 26)) (dC (.int 36))))) (dgN 11)) (dDrop (dMth "list" 10 fAppend (dVar 10) (dCons (dBin fAdd (dBin fAdd (dSl fSl (dVar 4) dNo (dPt (dVar 6))) (dVar 11)) (dSl fSl (dSl fSl (dVar 4) (dPt (dBin fAdd (dVar 6) (dC (.int 1)))) dNo) dNo (dPt (dIf (dB (dBin fGt (dVar 8) (dC (.int 0)))) (dC (.int 12)) (dBin fMod (dVar 5) (dC (.int 3))))))) dNil)))
theorem names_loop {d : D} {many size : Int} {b : Str} {c : Nat} {l : List Nat} {a : Nat} {vf vc y : Int} (hb : cs b = c :: l) (hl : l.length ≤ 11) (hc : c ∈ lows) (hls : ∀ x ∈ l, x ∈ lows ++ digs) (hat : a ≤ l.length) (hvf : 0 ≤ vf) (hy0 : 0 ≤ y) (hy1 : y ≤ 25) :
    ∀ (n kk : Nat) (ws : List Str) (x5 x11 : Option SV) (E : DEnds), (∀ d, x5 ≠ some (.io d)) → (∀ d, x11 ≠ some (.io d)) → kk + n ≤ 1000 → ws.length = kk → (∀ w ∈ ws, isNm w = true) → (∀ ws x5 x11, ws.length = kk + n → (∀ w ∈ ws, isNm w = true) → E.nx (nL d many size b a vf vc y ws x5 x11)) → dTurns [] (dgN 5) mNames E (upF kk n) (nL d many size b a vf vc y ws x5 x11)
  | 0, kk, ws, x5, x11, E, h5, h11, hk, hw, hn, q => turns_nil holds_nil (q ws x5 x11 hw hn)
  | n + 1, kk, ws, x5, x11, E, h5, h11, hk, hw, hn, q => by
    have hlen : b.length = l.length + 1 := by rw [← cs_len, hb]; rfl
    refine turns_cons holds_nil ⟨⟨by simp, fun d e => h5 d (by simpa using e)⟩, ?_⟩
    obtain ⟨M, hM0, hM1, hM2, hM⟩ : ∃ M : Int, 0 < M ∧ M ≤ 36 ∧ (a = 0 → M ≤ 26) ∧ Ev (dIf (dB (dBin fEq (dVar 6) (dC (.int 0)))) (dC (.int 26)) (dC (.int 36))) (nL d many size b a vf vc y ws (some (.val (.int (kk : Nat)))) x11) (.val (.int M)) := by
      have ht : EvT (dB (dBin fEq (dVar 6) (dC (.int 0)))) (nL d many size b a vf vc y ws (some (.val (.int (kk : Nat)))) x11) (decide (((a : Nat) : Int) = 0)) := evt_b (ev_bin (ev_var rfl) ev_c rfl rfl rfl)
      by_cases h0 : a = 0
      · exact ⟨26, by omega, by omega, fun _ => Int.le_refl _, ev_if ht (fun _ => ev_c) (fun h => absurd (of_decide_eq_false h) (by omega))⟩
      · exact ⟨36, by omega, by omega, fun h => absurd h h0, ev_if ht (fun h => absurd (of_decide_eq_true h) (by omega)) (fun _ => ev_c)⟩
    obtain ⟨c', hc', hlow, hix⟩ := sig_ix (v := (vf + y * (kk : Nat)) % M) (Int.emod_nonneg _ (by omega)) (by have := Int.emod_lt_of_pos (vf + y * (kk : Nat)) hM0; omega)
    have h0 : a = 0 → c' ∈ lows := fun h => hlow (by have := Int.emod_lt_of_pos (vf + y * (kk : Nat)) hM0; have := hM2 h; omega)
    refine sq_set (S := nL d many size b a vf vc y ws (some (.val (.int (kk : Nat)))) x11) (S2 := nL d many size b a vf vc y ws (some (.val (.int (kk : Nat)))) x11) (ea := .val (.str (sg c'))) (d := .str (sg c')) (ev_bin (ev_var rfl) (ev_bin (r := .val (.int ((vf + y * (kk : Nat)) % M))) (ev_ls (r := .val (.int (vf + y * (kk : Nat)))) (eva_cons (ev_bin (r := .val (.int (vf + y * (kk : Nat)))) (ev_var rfl) (ev_bin (r := .val (.int (y * (kk : Nat)))) (ev_var rfl) (ev_var rfl) rfl rfl ?_) rfl rfl rfl) eva_nil) rfl rfl) hM rfl rfl ?_) rfl rfl hix) rfl ?_ ?_
    · simp only [fMul]
      rw [if_pos (.inl ⟨by omega, by omega⟩)]
    · simp only [fMod]
      rw [if_pos hM0]
    · exact can_b11 h11
    have hcut : ∃ t : Nat, t ≤ 12 ∧ Ev (dIf (dB (dBin fGt (dVar 8) (dC (.int 0)))) (dC (.int 12)) (dBin fMod (dVar 5) (dC (.int 3)))) (nL d many size b a vf vc y ws (some (.val (.int (kk : Nat)))) (some (.val (.str (sg c'))))) (.val (.int (t : Nat))) := by
      have ht : EvT (dB (dBin fGt (dVar 8) (dC (.int 0)))) (nL d many size b a vf vc y ws (some (.val (.int (kk : Nat)))) (some (.val (.str (sg c'))))) (decide (0 < vc)) := evt_b (ev_bin (ev_var rfl) ev_c rfl rfl rfl)
      by_cases h0 : 0 < vc
      · exact ⟨12, Nat.le_refl _, ev_if ht (fun _ => ev_c) (fun h => absurd h0 (of_decide_eq_false h))⟩
      · refine ⟨kk % 3, by omega, ev_if ht (fun h => absurd (of_decide_eq_true h) h0) (fun _ => ev_bin (ev_var rfl) ev_c rfl rfl ?_)⟩
        simp only [fMod]
        rw [if_pos (by omega)]
        rfl
    obtain ⟨t, ht, hcut⟩ := hcut
    have hnm := name_ok (t := t) hb hl hc hls hat hc' h0
    have l1 : (cutS b none (some (a : Int))).length ≤ 12 := by
      rw [← cs_len, cs_cut, cutD_to, List.length_take, hb, List.length_cons]; omega
    have l2 : (cutS b (some ((a : Int) + 1)) none).length ≤ 12 := by
      rw [← cs_len, cs_cut, show ((a : Int) + 1) = ((a + 1 : Nat) : Int) from rfl, cutD_from, List.length_drop, hb, List.length_cons]; omega
    have l3 : (cutS (cutS b (some ((a : Int) + 1)) none) none (some (t : Int))).length ≤ 12 := by
      rw [← cs_len, cs_cut, cutD_to, List.length_take]; omega
    have l4 : (sg c').length = 1 := rfl
    refine st_app (c := .str ((cutS b none (some (a : Int)) ++ sg c') ++ cutS (cutS b (some ((a : Int) + 1)) none) none (some (t : Int)))) (S2 := nL d many size b a vf vc y ws (some (.val (.int (kk : Nat)))) (some (.val (.str (sg c'))))) rfl (ev_bin (r := .val (.str ((cutS b none (some (a : Int)) ++ sg c') ++ cutS (cutS b (some ((a : Int) + 1)) none) none (some (t : Int))))) (ev_bin (r := .val (.str (cutS b none (some (a : Int)) ++ sg c'))) (ev_sl (ev_var rfl) evo_no (evo_pt (ev_var rfl)) rfl (sl_str (by rw [hlen, sizeLine_eq]; omega))) (ev_var rfl) rfl rfl (if_pos (by rw [l4, sizeLine_eq]; omega))) (ev_sl (ev_sl (ev_var rfl) (evo_pt (ev_bin (r := .val (.int ((a : Int) + 1))) (ev_var rfl) ev_c rfl rfl rfl)) evo_no rfl (sl_str (by rw [hlen, sizeLine_eq]; omega))) evo_no (evo_pt hcut) rfl (sl_str (by rw [sizeLine_eq]; omega))) rfl rfl (if_pos (by rw [len_app, l4, sizeLine_eq]; omega))) rfl rfl (by rw [List.length_map, sizeLine_eq]; omega) ?_
    have := names_loop (d := d) (many := many) (size := size) (vc := vc) hb hl hc hls hat hvf hy0 hy1 n (kk + 1) (ws ++ [(cutS b none (some (a : Int)) ++ sg c') ++ cutS (cutS b (some ((a : Int) + 1)) none) none (some (t : Int))]) (some (.val (.int (kk : Nat)))) (some (.val (.str (sg c')))) E (by simp) (by simp) (by omega) (by rw [List.length_append, hw]; rfl) (fun w hw' => by
      rcases List.mem_append.mp hw' with h | h
      · exact hn w h
      · rw [List.mem_singleton.mp h]; exact hnm) (fun ws x5 x11 h1 h2 => q ws x5 x11 (by omega) h2)
    generalize hW : (cutS b none (some (a : Int)) ++ sg c') ++ cutS (cutS b (some ((a : Int) + 1)) none) none (some (t : Int)) = W at this ⊢
    have e : nL d many size b a vf vc y (ws ++ [W]) (some (.val (.int (kk : Nat)))) (some (.val (.str (sg c')))) = List.set (nL d many size b a vf vc y ws (some (.val (.int (kk : Nat)))) (some (.val (.str (sg c'))))) 10 (some (.own (.lst (txs ws ++ [.str W])))) := by
      have e1 : txs (ws ++ [W]) = txs ws ++ [.str W] := by simp
      show nL d many size b a vf vc y (ws ++ [W]) _ _ = _
      unfold nL
      rw [e1]
      rfl
    rw [e] at this
    exact this
theorem ok_law_names (F : FnP K "_law_names" s__law_names f fd) (g_int : mg "int" = none) (g_range : mg "range" = none) (c__law_draw : Cal P w K mg base 2 "_law_draw" ["pen", "many"] (spI (spA preD postD))) (c__law_pick : Cal P w K mg base 3 "_law_pick" ["pen", "some"] (spI (spA preK postK))) :
    FnG P w K mg base 4 f fd ["pen", "many"] (spI (spA preN postN)) := by
  refine fnI_ok F sc__law_names (fun d ds Q ⟨⟨_, _, _, _, e, _⟩, _⟩ => by rw [e]; rfl) fun cdv A outer st H E G B => ?_
  have hr := B.room
  have hgd := B.gd
  have hpo := B.own
  have nd := sc__law_names.nd
  refine ⟨_, (db_cons (ds_set 2 nd de_str)
    (db_cons (ds_set 3 nd (e_add de_int (e_callI 0 c__law_draw mono_A hr hgd (da_cons (de_var 0) (da_cons de_int da_nil)))))
    (db_cons (ds_set 4 nd (e_add (e_ix (de_var 2) (e_callI 0 c__law_draw mono_A hr hgd (da_cons (de_var 0) (da_cons de_int da_nil)))) (de_join de_str (e_lc [("k", 5)] 5 rfl nd (di_range1 rfl g_range (da_cons (e_sub (de_var 3) de_int) da_nil)) (fun _ _ _ _ _ => dts_nil) (fun _ _ _ _ _ => (e_ix (de_var 2) (e_callI 0 c__law_draw mono_A hr hgd (da_cons (de_var 0) (da_cons de_int da_nil)))))))))
    (db_cons (ds_par3 6 false 7 false 8 false rfl nd (da_cons (e_callI 0 c__law_draw mono_A hr hgd (da_cons (de_var 0) (da_cons (de_var 3) da_nil))) (da_cons (e_callI 0 c__law_draw mono_A hr hgd (da_cons (de_var 0) (da_cons de_int da_nil))) (da_cons (e_callI 0 c__law_draw mono_A hr hgd (da_cons (de_var 0) (da_cons de_int da_nil))) da_nil))))
    (db_cons (ds_par2 9 false 10 true rfl nd (da_cons (e_callI 0 c__law_pick mono_A hr hgd (da_cons (de_var 0) (da_cons (de_lst (da_cons de_int (da_cons de_int (da_cons de_int (da_cons de_int (da_cons de_int (da_cons de_int (da_cons de_int (da_cons de_int da_nil))))))))) da_nil))) (da_cons (de_lst da_nil) da_nil)))
    (db_cons (ds_for hpo rfl (di_range1 rfl g_range (da_cons (de_var 1) da_nil)) (dg_name 5 nd) (db_cons (ds_set 11 nd (e_ix (de_var 2) (e_mod (e_int g_int (da_cons (e_add (de_var 7) (e_mul (de_var 9) (de_var 5))) da_nil)) (de_if (t_eq hr (de_var 6) de_int) de_int de_int))))
    (db_one (ds_expr (e_app (i := 10) (de_var 10) (da_cons (e_add (e_add (e_sl (de_var 4) do_none (do_some (de_var 6))) (de_var 11)) (e_sl (e_sl (de_var 4) (do_some (e_add (de_var 6) de_int)) do_none) do_none (do_some (de_if (t_gt (de_var 8) de_int) de_int (e_mod (de_var 5) de_int))))) da_nil))))))
    (db_one (ds_ret (de_var 10))))))))), ?_⟩
  rintro d ds Q ⟨⟨k, many, hp, hk, rfl, hm0, hm1⟩, q⟩
  refine sq_set ev_c rfl rfl ?_
  refine sq_asgR (run_bin ev_c (run_draw (eva_cons (ev_io rfl) (eva_cons ev_c eva_nil)) rfl hp (by omega) (by omega) (by omega) fun v1 d1 hv0 hv1 hn1 => ?_))
  refine ⟨_, _, _, rfl, rfl, rfl, _, _, rfl, can_of rfl, ?_⟩
  refine sq_asgR (run_bin2 (run_bin (ev_var (d := .str sigS) rfl) (run_draw (eva_cons (ev_io rfl) (eva_cons ev_c eva_nil)) rfl (hn1 k hp) (by omega) (by omega) (by omega) fun v2 d2 hv20 hv21 hn2 => ?_)))
  obtain ⟨c0, _, hlow, hix⟩ := sig_ix hv20 (by omega)
  have hc0 := hlow hv21
  refine ⟨_, _, _, rfl, rfl, hix, ?_⟩
  refine run_str ev_c (run_lcR (j := 1 + v1 - 1) (eva_cons (ev_bin (ev_var rfl) ev_c rfl rfl rfl) eva_nil) (by omega) (by omega) ?_)
  have hul : (ups 0 (1 + v1 - 1).toNat).length = v1.toNat := by
    unfold ups
    rw [List.length_map, List.length_range]; omega
  refine comp_signs (many := many) (size := 1 + v1) hp hk (ups 0 (1 + v1 - 1).toNat) 2 d2 [] (hn1.then1 hn2) (by rw [hul]; omega) (by rw [hul, List.length_nil]; omega) (by simp) fun d3 l hl hls hn3 => ?_
  rw [hul, List.length_nil, Nat.zero_add] at hl
  rw [hul] at hn3
  have hn3 : PenNext 13 d d3 := hn3.le (by omega)
  have hl11 : l.length ≤ 11 := by omega
  have hb : cs (sg c0 ++ Txt.join "" (l.map sg)) = c0 :: l := by rw [cs_app, join_sg]; rfl
  have hbl : (sg c0 ++ Txt.join "" (l.map sg)).length = l.length + 1 := by rw [← cs_len, hb]; rfl
  have hadd : fAdd (.str (sg c0)) (.str (Txt.join "" (l.map sg))) = some (.val (.str (sg c0 ++ Txt.join "" (l.map sg)))) := by
    refine if_pos ?_
    rw [← len_app, hbl, sizeLine_eq]; omega
  refine ⟨_, _, rfl, fJoin_sg (by omega), _, _, _, rfl, rfl, hadd, _, _, rfl, can_of rfl, ?_⟩
  generalize (sg c0 ++ Txt.join "" (l.map sg)) = b at hb hbl ⊢
  refine sq_par3R (run_cons (run_draw (n := 1 + v1) (eva_cons (ev_io rfl) (eva_cons (ev_var rfl) eva_nil)) rfl (hn3 k hp) (by omega) (by omega) (by omega) fun va d4 hva0 hva1 hn4 =>
    run_cons (run_draw (eva_cons (ev_io rfl) (eva_cons ev_c eva_nil)) rfl ((hn3.then1 hn4) k hp) (by omega) (by omega) (by omega) fun vf d5 hvf0 hvf1 hn5 =>
    run_cons (run_draw (eva_cons (ev_io rfl) (eva_cons ev_c eva_nil)) rfl (((hn3.then1 hn4).then1 hn5) k hp) (by omega) (by omega) (by omega) fun vc d6 hvc0 hvc1 hn6 =>
    run_nil ⟨_, _, _, rfl, noB_val, noB_val, noB_val, stQ_val rfl (stQ_val rfl (stQ_val rfl ?_))⟩))))
  have hn6 := ((hn3.then1 hn4).then1 hn5).then1 hn6
  refine sq_par2R (run_cons (run_pick (xs := [.int 1, .int 5, .int 7, .int 11, .int 17, .int 19, .int 23, .int 25]) (eva_cons (ev_io rfl) (eva_cons (ev_lst (eva_cons ev_c (eva_cons ev_c (eva_cons ev_c (eva_cons ev_c (eva_cons ev_c (eva_cons ev_c (eva_cons ev_c (eva_cons ev_c eva_nil)))))))) rfl (by decide)) eva_nil)) rfl (hn6 k hp) (by omega) (by decide) (by decide) fun x d7 hx hn7 =>
    run_cons (run_ev (ev_lst eva_nil rfl (by decide)) (run_nil ⟨_, _, rfl, noB_val, stQ_own rfl (stQ_val rfl ?_)⟩))))
  have hn7 := hn6.then1 hn7
  obtain ⟨y, rfl, hy0, hy1⟩ : ∃ y : Int, x = .int y ∧ 0 ≤ y ∧ y ≤ 25 := by
    simp only [List.mem_cons, List.not_mem_nil, or_false] at hx
    rcases hx with h | h | h | h | h | h | h | h <;> exact ⟨_, h, by omega, by omega⟩
  obtain ⟨a, rfl⟩ := Int.eq_ofNat_of_zero_le hva0
  have ha : a ≤ l.length := by omega
  refine sq_range1 (S := nL d7 many (1 + v1) b a vf vc y [] none none) (eva_cons (ev_var rfl) eva_nil) (by omega) (by omega) ?_
  rw [ups_zero]
  refine names_loop (c := c0) (l := l) hb hl11 hc0 hls ha hvf0 hy0 hy1 many.toNat 0 [] none none _ (by simp) (by simp) (by omega) rfl (by simp) fun ws x5 x11 hwl hws => ?_
  rw [Nat.zero_add] at hwl
  refine st_retB rfl ⟨_, rfl, q _ _ fun many' e => ?_⟩
  simp only [List.cons.injEq, D.int.injEq, and_true] at e
  subst e
  exact ⟨ws, rfl, hwl, hws, hn7.le (by omega)⟩
end
end K89
set_option Elab.async false
set_option linter.all false
set_option maxRecDepth 100000
set_option maxHeartbeats 1000000
namespace K89
open PySem PySem.Spec PyProof.Rows L2 DL
/-! ### drawn numbers -/
def numS (n : Nat) : Str := Str.ofString (toString ((n : Nat) : Int))
theorem cs_num (n : Nat) : cs (numS n) = (Nat.toDigits 10 n).map Char.toNat := PySem.W.KIN.signs_num n
theorem fStr_num {n : Nat} (h : n < 1000001) : fStrOf (.int (n : Nat)) = some (.val (.str (numS n))) := by
  refine if_pos ?_
  have : ((n : Nat) : Int).natAbs = n := rfl
  rw [this]
  by_cases h0 : n = 0
  · subst h0; decide
  · exact Nat.lt_of_lt_of_le ((Nat.log2_lt (k := 20) h0).mpr (by omega)) (by decide)
theorem head_ne : ∀ (n : Nat), 0 < n → (Nat.toDigits 10 n).headD '1' ≠ '0' := by
  intro n
  induction n using Nat.strongRecOn with
  | ind n ih =>
    intro h
    rw [Nat.toDigits_eq_if (by decide)]
    split
    · rename_i h9
      have : ∀ k : Fin 10, 0 < k.val → [k.val.digitChar].headD '1' ≠ '0' := by decide
      exact this ⟨n, h9⟩ h
    · rename_i h9
      have := ih (n / 10) (by omega) (by omega)
      cases hd : Nat.toDigits 10 (n / 10) with
      | nil => have := Nat.length_toDigits_pos (b := 10) (n := n / 10); rw [hd] at this; simp at this
      | cons c r => rw [hd] at this; exact this
theorem isN_num {n : Nat} (h : n < 1000000) : isN (numS n) = true := by
  have hl : (numS n).length = (Nat.toDigits 10 n).length := by rw [← cs_len, cs_num, List.length_map]
  have h1 := Nat.length_toDigits_pos (b := 10) (n := n)
  have h2 := PySem.toDigits_len_pow (b := 10) (k := 6) (n := n) (by decide) (by decide) (by omega)
  have hd : ∀ c ∈ cs (numS n), c ∈ digs := fun c hc => by
    rw [cs_num] at hc
    obtain ⟨ch, hch, rfl⟩ := List.mem_map.mp hc
    have := Nat.isDigit_of_mem_toDigits (by decide) (by decide) hch
    have h3 : 48 ≤ ch.toNat ∧ ch.toNat ≤ 57 := by
      simp only [Char.isDigit, Bool.and_eq_true, decide_eq_true_eq] at this
      exact ⟨this.1, this.2⟩
    have : ∀ k : Nat, 48 ≤ k → k ≤ 57 → k ∈ digs := by
      intro k a b
      unfold digs
      simp only [List.mem_cons, List.not_mem_nil, or_false]
      omega
    exact this _ h3.1 h3.2
  unfold isN
  rw [hl]
  simp only [Bool.and_eq_true, Bool.or_eq_true, decide_eq_true_eq, List.all_eq_true]
  refine ⟨h1, h2, fun c hc => by simpa using hd c hc, ?_⟩
  by_cases h0 : n = 0
  · subst h0; exact .inl (by decide +kernel)
  · refine .inr ?_
    have := head_ne n (by omega)
    rw [cs_num]
    cases hdg : Nat.toDigits 10 n with
    | nil => rw [hdg] at h1; simp at h1
    | cons c r =>
      rw [hdg] at this
      intro e
      refine this ?_
      have e : c.toNat = 48 := e
      show c = '0'
      exact Char.toNat_inj.mp e
end K89
set_option Elab.async false
set_option linter.all false
set_option maxRecDepth 100000
set_option maxHeartbeats 1000000
namespace K89
open PySem PySem.Spec PyProof.Rows L2 DL
/-! ### drawn words fit their forms -/
def plainS (w : Str) : Prop := w.length ≤ 20 ∧ ∀ c ∈ cs w, 33 ≤ c ∧ c < 127
theorem isN_mem {w : Str} (h : isN w = true) : w.length ≤ 6 ∧ ∀ c ∈ cs w, c ∈ digs := by
  unfold isN at h
  simp only [Bool.and_eq_true, decide_eq_true_eq, List.all_eq_true] at h
  exact ⟨h.2.1, fun c hc => by simpa using h.2.2.1 c hc⟩
theorem digs_lt {c : Nat} (h : c ∈ digs) : 48 ≤ c ∧ c < 58 := by
  unfold digs at h
  simp only [List.mem_cons, List.not_mem_nil, or_false] at h
  omega
theorem lows_lt {c : Nat} (h : c ∈ lows) : 97 ≤ c ∧ c < 123 := by
  have : ∀ c ∈ lows, 97 ≤ c ∧ c < 123 := by decide +kernel
  exact this c h
theorem isN_plain {w : Str} (h : isN w = true) : plainS w := ⟨by have := (isN_mem h).1; omega, fun c hc => by have := digs_lt ((isN_mem h).2 c hc); omega⟩
theorem isNm_plain {w : Str} (h : isNm w = true) : plainS w := by
  unfold isNm at h
  simp only [Bool.and_eq_true, decide_eq_true_eq, List.all_eq_true] at h
  refine ⟨by omega, fun c hc => ?_⟩
  have := h.2.2.2 c hc
  rcases List.mem_append.mp this with h | h
  · have := lows_lt h; omega
  · have := digs_lt h; omega
theorem cs_minus : cs ("-" : Str) = [45] := by decide +kernel
theorem cs_slash : cs ("/" : Str) = [47] := by decide +kernel
theorem isZ_neg {w : Str} (h : isN w = true) (h0 : w ≠ "0") : isZ ("-" ++ w) = true := by
  have e : cs ("-" ++ w) = 45 :: cs w := by rw [cs_app, cs_minus]; rfl
  unfold isZ
  have e1 : cutS ("-" ++ w) none (some 1) = "-" := str_ext (by rw [cutS_one, e, cs_minus]; rfl)
  have e2 : cutS ("-" ++ w) (some 1) none = w := str_ext (by rw [cutS_tail, e]; rfl)
  have e3 : ("-" ++ w : Str) ≠ "-0" := fun h => h0 (by
    have := congrArg cs h
    rw [e, show cs ("-0" : Str) = [45, 48] by decide +kernel] at this
    refine str_ext ?_
    rw [show cs ("0" : Str) = [48] by decide +kernel]
    exact (List.cons.inj this).2)
  rw [e1, e2, h, decide_eq_false e3]
  simp
theorem words_of {a : Str} (h : ∀ c ∈ cs a, c ≠ 47) : wordsAt 47 a = [a] := by
  rw [← split_words (by decide)]
  have := TL.split_join (y := (⟨#[47]⟩ : Str)) (s := 47) (S := []) rfl (by simp) (parts := [a]) (by simp) (fun p hp hc => by
    rw [List.mem_singleton.mp hp] at hc
    exact h _ hc rfl)
  exact this
theorem words_two {a b : Str} (h : ∀ c ∈ cs a, c ≠ 47) (h' : ∀ c ∈ cs b, c ≠ 47) : wordsAt 47 (a ++ "/" ++ b) = [a, b] := by
  rw [← split_words (by decide)]
  have := TL.split_join (y := (⟨#[47]⟩ : Str)) (s := 47) (S := []) rfl (by simp) (parts := [a, b]) (by simp) (fun p hp hc => by
    simp only [List.mem_cons, List.not_mem_nil, or_false] at hp
    rcases hp with rfl | rfl
    · exact h _ hc rfl
    · exact h' _ hc rfl)
  exact this
theorem isN_no47 {w : Str} (h : isN w = true) : ∀ c ∈ cs w, c ≠ 47 := fun c hc => by have := digs_lt ((isN_mem h).2 c hc); omega
theorem isV_num {a : Str} (h : isN a = true) : isV a = true := by
  unfold isV
  rw [words_of (isN_no47 h)]
  simp [h]
theorem isV_frac {a b : Str} (h : isN a = true) (h' : isN b = true) (h0 : b ≠ "0") : isV (a ++ "/" ++ b) = true := by
  unfold isV
  rw [words_two (isN_no47 h) (isN_no47 h')]
  simp [h, h', h0]
theorem num_ne {n : Nat} (h : 0 < n) : numS n ≠ "0" := fun e => by
  have e := congrArg cs e
  rw [cs_num, show cs ("0" : Str) = [48] by decide +kernel] at e
  have := head_ne n h
  cases hd : Nat.toDigits 10 n with
  | nil => rw [hd] at e; cases e
  | cons c r =>
    rw [hd] at e this
    simp only [List.map_cons, List.cons.injEq] at e
    exact this (Char.toNat_inj.mp e.1)
end K89
set_option Elab.async false
set_option linter.all false
set_option maxRecDepth 100000
set_option maxHeartbeats 1000000
namespace K89
open PySem PySem.Spec PyProof.Rows L2 DL
/-! ### a word of a form -/
def preW : D → List D → Prop := fun d ds => ∃ k form, PenAt k d ∧ k + 60 < budget ∧ ds = [.str form] ∧ plainS form
def postW : D → List D → EV → D → Prop := fun d ds r d' => ∀ form, ds = [.str form] → ∃ w, r = .val (.str w) ∧ lawFit w form = true ∧ plainS w ∧ PenNext 30 d d'
section
variable {P : Program} {w : World} {K : PySem.W.Frag} {mg : Str → Option Value} {base : Heap} {f : Addr} {fd : FuncData}
theorem run_names {ms : DAm} {d : D} {many : Int} {k : Nat} {r : DS} {Q : EV → DS → Prop} {es : List EV} (h : EvA ms (some (.io d) :: r) (.bor 0 :: es)) (e : asVals (some (.io d) :: r) es = some ([.int many], some (.io d) :: r)) (hp : PenAt k d) (hk : k + 30 < budget) (h1 : 0 ≤ many) (h2 : many ≤ 1000)
    (q : ∀ ws d', ws.length = many.toNat → (∀ w ∈ ws, isNm w = true) → PenNext 20 d d' → Q (.own (.lst (txs ws))) (some (.io d') :: r)) : dCallI (spA preN postN) 0 ms (some (.io d) :: r) Q := by
  refine dcall_A h e rfl rfl ⟨k, many, hp, hk, rfl, h1, h2⟩ fun rr d' hpost => ?_
  obtain ⟨ws, rfl, hl, hn, hp'⟩ := hpost many rfl
  exact q ws d' hl hn hp'
theorem run_call2 {s : Sp1} {i : Nat} {ms : DAm} {S : DS} {Q : EV → DS → Prop} (q : ms S fun evs S1 => ∃ es cs S2 sv, evs = .bor i :: es ∧ asVals S1 es = some (cs, S2) ∧ S2[i]? = some (some sv) ∧ sv.isMut = true ∧ s sv.d cs fun r d' => Q r (S2.set i (some (sv.put d')))) : dCallI s i ms S Q := q
theorem run_ls {f : List D → Option EV} {ms : DAm} {S : DS} {Q : EV → DS → Prop} (q : ms S fun evs S1 => ∃ cs ev, conts S1 evs = some cs ∧ f cs = some ev ∧ Q ev S1) : dLs f ms S Q := q
theorem run_lst {ms : DAm} {S : DS} {Q : EV → DS → Prop} (q : ms S fun evs S1 => ∃ cs S2, asVals S1 evs = some (cs, S2) ∧ cs.length ≤ sizeLine ∧ Q (.own (.lst cs)) S2) : dLst ms S Q := q
theorem sc__law_vow_word : FnScope ["pen", "form", "number"] ["pen", "form"] (defScope s__law_vow_word) := ⟨rfl, rfl, rfl, by decide +kernel, rfl, by decide +kernel, by decide +kernel⟩
theorem ok_law_vow_word (F : FnP K "_law_vow_word" s__law_vow_word f fd) (g_str : mg "str" = none) (c__law_draw : Cal P w K mg base 2 "_law_draw" ["pen", "many"] (spI (spA preD postD))) (c__law_pick : Cal P w K mg base 3 "_law_pick" ["pen", "some"] (spI (spA preK postK))) (c__law_names : Cal P w K mg base 4 "_law_names" ["pen", "many"] (spI (spA preN postN))) :
    FnG P w K mg base 5 f fd ["pen", "form"] (spI (spA preW postW)) := by
  refine fnI_ok F sc__law_vow_word (fun d ds Q ⟨⟨_, _, _, _, e, _⟩, _⟩ => by rw [e]; rfl) fun cdv A outer st H E G B => ?_
  have hr := B.room
  have hgd := B.gd
  have nd := sc__law_vow_word.nd
  refine ⟨_, (db_cons (ds_if (t_eq hr (de_var 1) de_str) (db_one (ds_ret (e_ix (e_callI 0 c__law_names mono_A hr hgd (da_cons (de_var 0) (da_cons de_int da_nil))) de_int))) db_nil)
    (db_cons (ds_set 2 nd (e_str g_str (da_cons (e_callI 0 c__law_pick mono_A hr hgd (da_cons (de_var 0) (da_cons (de_lst (da_cons de_int (da_cons de_int (da_cons de_int (da_cons de_int (da_cons de_int (da_cons (e_callI 0 c__law_draw mono_A hr hgd (da_cons (de_var 0) (da_cons de_int da_nil))) da_nil))))))) da_nil))) da_nil)))
    (db_cons (ds_if (t_eq hr (de_var 1) de_str) (db_one (ds_ret (de_var 2))) db_nil)
    (db_cons (ds_if (t_eq hr (de_var 1) de_str) (db_one (ds_ret (e_callI 0 c__law_pick mono_A hr hgd (da_cons (de_var 0) (da_cons (de_lst (da_cons (de_var 2) (da_cons (de_if (t_ne hr (de_var 2) de_str) (e_add de_str (de_var 2)) de_str) da_nil))) da_nil))))) db_nil)
    (db_cons (ds_if (t_eq hr (de_var 1) de_str) (db_one (ds_ret (e_callI 0 c__law_pick mono_A hr hgd (da_cons (de_var 0) (da_cons (de_lst (da_cons (de_var 2) (da_cons (e_add (e_add (de_var 2) de_str) (e_str g_str (da_cons (e_add de_int (e_callI 0 c__law_draw mono_A hr hgd (da_cons (de_var 0) (da_cons de_int da_nil)))) da_nil))) da_nil))) da_nil))))) db_nil)
    (db_one (ds_ret (de_var 1)))))))), ?_⟩
  rintro d ds Q ⟨⟨k, form, hp, hk, rfl, hf⟩, q⟩
  have q : ∀ w d', lawFit w form = true → plainS w → PenNext 30 d d' → Q (.val (.str w)) d' := fun w d' h1 h2 h3 => q _ _ fun form' e => by
    simp only [List.cons.injEq, D.str.injEq, and_true] at e
    subst e
    exact ⟨w, rfl, h1, h2, h3⟩
  apply sq_if (b := decide (form = "name"))
  · exact evt_b (ev_bin (ev_var rfl) ev_c rfl rfl rfl)
  · intro hb
    have hb := of_decide_eq_true hb
    refine run_bin2 (run_names (eva_cons (ev_io rfl) (eva_cons ev_c eva_nil)) rfl hp (by omega) (by omega) (by omega) fun ws d' hl hn hp' => run_ev ev_c ?_)
    match ws, hl with
    | [w], _ =>
      refine ⟨_, _, _, rfl, rfl, ix_lst (n := 0) rfl, _, rfl, q w d' ?_ (isNm_plain (hn w (by simp))) (hp'.le (by omega))⟩
      unfold lawFit
      rw [if_pos hb]
      exact hn w (by simp)
  intro hb
  have hb1 := of_decide_eq_false hb
  have hm5 : (budget : Nat) = 1000000 := rfl
  refine sq_asgR (run_ls (run_cons (run_call2 (run_cons (run_ev (ev_io rfl) (run_cons (run_lst ?_)))))))
  refine run_cons (run_ev ev_c ?_)
  refine run_cons (run_ev ev_c ?_)
  refine run_cons (run_ev ev_c ?_)
  refine run_cons (run_ev ev_c ?_)
  refine run_cons (run_ev ev_c ?_)
  refine run_cons (run_draw (eva_cons (ev_io rfl) (eva_cons ev_c eva_nil)) rfl hp (by omega) (by omega) (by omega) fun v d1 hv0 hv1 hn1 => ?_)
  refine run_nil ⟨[.int 0, .int 1, .int 7, .int 10, .int 999999, .int v], _, rfl, le1 (by simp), ?_⟩
  refine run_nil ⟨_, _, _, _, rfl, rfl, rfl, rfl, ⟨k + 1, _, hn1 k hp, by omega, rfl, by simp, by simp⟩, fun rr d2 hpost => ?_⟩
  obtain ⟨x, hx, rfl, hn2⟩ := hpost _ rfl
  have hn2 := hn1.then1 hn2
  obtain ⟨n, rfl, hn⟩ : ∃ n : Nat, x = .int n ∧ n < 1000000 := by
    obtain ⟨j, rfl⟩ := Int.eq_ofNat_of_zero_le hv0
    simp only [List.mem_cons, List.not_mem_nil, or_false] at hx
    rcases hx with h | h | h | h | h | h
    · exact ⟨0, h, by omega⟩
    · exact ⟨1, h, by omega⟩
    · exact ⟨7, h, by omega⟩
    · exact ⟨10, h, by omega⟩
    · exact ⟨999999, h, by omega⟩
    · exact ⟨j, h, by omega⟩
  refine run_nil ⟨_, _, rfl, fStr_num (by omega), _, _, rfl, can_of rfl, ?_⟩
  have hN := isN_num hn
  have hP := isN_plain hN
  generalize hnum : numS n = num at hN hP ⊢
  have hst : ∀ x : D, List.set [some (.io d2), some (.val (.str form)), none] 2 (some (.val x)) = [some (.io d2), some (.val (.str form)), some (SV.val x)] := fun _ => rfl
  apply sq_if (S := [some (.io d2), some (.val (.str form)), some (.val (.str num))]) (b := decide (form = "n"))
  · exact evt_b (ev_bin (ev_var rfl) ev_c rfl rfl rfl)
  · intro hb
    refine st_ret (ev_var rfl) ⟨_, rfl, q num d2 ?_ hP (hn2.le (by omega))⟩
    unfold lawFit
    rw [if_neg hb1, if_pos (of_decide_eq_true hb)]; exact hN
  intro hb
  have hb2 := of_decide_eq_false hb
  apply sq_if (S := [some (.io d2), some (.val (.str form)), some (.val (.str num))]) (b := decide (form = "z"))
  · exact evt_b (ev_bin (ev_var rfl) ev_c rfl rfl rfl)
  · intro hb
    have hzN : isZ num = true := by unfold isZ; rw [hN]; rfl
    obtain ⟨y, hy1, hy2, hy⟩ : ∃ y, isZ y = true ∧ plainS y ∧ Ev (dIf (dB (dBin fNe (dVar 2) (dC (.str "0")))) (dBin fAdd (dC (.str "-")) (dVar 2)) (dC (.str "0"))) [some (.io d2), some (.val (.str form)), some (.val (.str num))] (.val (.str y)) := by
      have ht : EvT (dB (dBin fNe (dVar 2) (dC (.str "0")))) [some (.io d2), some (.val (.str form)), some (.val (.str num))] (!decide (num = "0")) := evt_b (ev_bin (ev_var rfl) ev_c rfl rfl rfl)
      by_cases h0 : num = "0"
      · refine ⟨"0", by decide +kernel, ⟨by decide, by decide +kernel⟩, ev_if ht (fun h => ?_) (fun _ => ev_c)⟩
        rw [decide_eq_true h0] at h; cases h
      · have hl : ("-" ++ num : Str).length ≤ 7 := by rw [len_app]; have := (isN_mem hN).1; have : ("-" : Str).length = 1 := rfl; omega
        refine ⟨"-" ++ num, isZ_neg hN h0, ⟨by omega, fun c hc => ?_⟩, ev_if ht (fun _ => ev_bin ev_c (ev_var rfl) rfl rfl (if_pos ?_)) (fun h => ?_)⟩
        · rw [cs_app, cs_minus] at hc
          rcases List.mem_append.mp hc with h | h
          · rw [List.mem_singleton.mp h]; omega
          · exact hP.2 c h
        · rw [← len_app, sizeLine_eq]; omega
        · rw [decide_eq_false h0] at h; cases h
    refine run_pick (xs := [.str num, .str y]) (eva_cons (ev_io rfl) (eva_cons (ev_lst (eva_cons (ev_var rfl) (eva_cons hy eva_nil)) rfl (le1 (by simp))) eva_nil)) rfl (hn2 k hp) (by omega) (by simp) (by simp) fun x d3 hx hn3 => ?_
    have hn3 := hn2.then1 hn3
    have hfit : ∀ z, isZ z = true → lawFit z form = true := fun z hz => by
      unfold lawFit
      rw [if_neg hb1, if_neg hb2, if_pos (of_decide_eq_true hb)]; exact hz
    simp only [List.mem_cons, List.not_mem_nil, or_false] at hx
    rcases hx with rfl | rfl
    · exact ⟨_, rfl, q num d3 (hfit _ hzN) hP (hn3.le (by omega))⟩
    · exact ⟨_, rfl, q y d3 (hfit _ hy1) hy2 (hn3.le (by omega))⟩
  intro hb
  have hb3 := of_decide_eq_false hb
  apply sq_if (S := [some (.io d2), some (.val (.str form)), some (.val (.str num))]) (b := decide (form = "v"))
  · exact evt_b (ev_bin (ev_var rfl) ev_c rfl rfl rfl)
  · intro hb
    have hfit : ∀ z, isV z = true → lawFit z form = true := fun z hz => by
      unfold lawFit
      rw [if_neg hb1, if_neg hb2, if_neg hb3, if_pos (of_decide_eq_true hb)]; exact hz
    have l1 := (isN_mem hN).1
    have ls : ("/" : Str).length = 1 := rfl
    refine run_call2 (run_cons (run_ev (ev_io rfl) (run_cons (run_lst ?_))))
    refine run_cons (run_ev (ev_var rfl) ?_)
    have hsl : fAdd (.str num) (.str "/") = some (.val (.str (num ++ "/"))) := if_pos (by rw [ls, sizeLine_eq]; omega)
    refine run_cons (run_bin2 (run_ev (ev_bin (ev_var rfl) ev_c rfl rfl hsl) ?_))
    refine run_ls (run_cons (run_bin ev_c ?_))
    refine run_draw (eva_cons (ev_io rfl) (eva_cons ev_c eva_nil)) rfl (hn2 k hp) (by omega) (by omega) (by omega) fun v3 d3 hv30 hv31 hn3 => ?_
    obtain ⟨j, rfl⟩ := Int.eq_ofNat_of_zero_le hv30
    have hn3 := hn2.then1 hn3
    have hM := isN_num (n := j + 1) (by omega)
    have hMP := isN_plain hM
    have l2 := (isN_mem hM).1
    have hz : fStrOf (.int (1 + (j : Nat))) = some (.val (.str (numS (j + 1)))) := by
      rw [show (1 + ((j : Nat) : Int)) = ((j + 1 : Nat) : Int) by omega]
      exact fStr_num (by omega)
    refine ⟨_, _, _, rfl, rfl, rfl, run_nil ⟨_, _, rfl, hz, _, _, .val (.str (num ++ "/" ++ numS (j + 1))), rfl, rfl, if_pos (by rw [len_app, ls, sizeLine_eq]; omega), ?_⟩⟩
    refine run_nil ⟨[.str num, .str (num ++ "/" ++ numS (j + 1))], _, rfl, le1 (by simp), ?_⟩
    refine run_nil ⟨_, _, _, _, rfl, rfl, rfl, rfl, ⟨k + 3, _, hn3 k hp, by omega, rfl, by simp, by simp⟩, fun rr d4 hpost => ?_⟩
    obtain ⟨x, hx, rfl, hn4⟩ := hpost _ rfl
    have hn4 := hn3.then1 hn4
    simp only [List.mem_cons, List.not_mem_nil, or_false] at hx
    rcases hx with rfl | rfl
    · exact ⟨_, rfl, q num d4 (hfit _ (isV_num hN)) hP (hn4.le (by omega))⟩
    · refine ⟨_, rfl, q _ d4 (hfit _ (isV_frac hN hM (num_ne (by omega)))) ⟨by rw [len_app, len_app, ls]; omega, fun c hc => ?_⟩ (hn4.le (by omega))⟩
      rw [cs_app, cs_app, cs_slash] at hc
      rcases List.mem_append.mp hc with h | h
      · rcases List.mem_append.mp h with h | h
        · exact hP.2 c h
        · rw [List.mem_singleton.mp h]; omega
      · exact hMP.2 c h
  intro hb
  have hb4 := of_decide_eq_false hb
  refine st_ret (ev_var rfl) ⟨_, rfl, q form d2 ?_ hf (hn2.le (by omega))⟩
  unfold lawFit
  rw [if_neg hb1, if_neg hb2, if_neg hb3, if_neg hb4]
  exact decide_eq_true rfl
end
end K89
set_option Elab.async false
set_option linter.all false
set_option maxRecDepth 100000
set_option maxHeartbeats 1000000
namespace K89
open PySem PySem.Spec PyProof.Rows L2 DL
/-! ### bent texts -/
def tot (ws : List Str) : Nat := (ws.map (·.length)).sum + ws.length
theorem cut_tot (s : Nat) : ∀ (l acc : List Nat), ((cut s acc l).map (·.length)).sum + (cut s acc l).length = acc.length + l.length + 1
  | [], acc => by simp [cut]
  | c :: l, acc => by
    unfold cut
    split
    · have := cut_tot s l []
      simp only [List.map_cons, List.sum_cons, List.length_cons, List.length_nil] at this ⊢
      omega
    · have := cut_tot s l (acc ++ [c])
      rw [this]
      simp only [List.length_append, List.length_cons, List.length_nil]
      omega
theorem words_tot (s : Nat) (w : Str) : tot (wordsAt s w) = w.length + 1 := by
  unfold tot wordsAt
  have := cut_tot s (cs w) []
  rw [List.map_map, List.length_map]
  rw [show ((fun x => x.length) ∘ txt) = fun (l : List Nat) => l.length from funext fun l => txt_len l]
  rw [this, cs_len]; simp
theorem tot_app (a b : List Str) : tot (a ++ b) = tot a + tot b := by
  unfold tot
  rw [List.map_append, List.sum_append, List.length_append]; omega
theorem tot_take_drop (n : Nat) (ws : List Str) : tot (ws.take n) + tot (ws.drop n) = tot ws := by
  rw [← tot_app, List.take_append_drop]
theorem tot_one (w : Str) : tot [w] = w.length + 1 := by simp [tot]
theorem len_tot (ws : List Str) : ws.length ≤ tot ws := by unfold tot; omega
theorem mem_tot {ws : List Str} {w : Str} (h : w ∈ ws) : w.length + 1 ≤ tot ws := by
  obtain ⟨a, b, rfl⟩ := List.append_of_mem h
  rw [tot_app, show w :: b = [w] ++ b from rfl, tot_app, tot_one]; omega
end K89
set_option Elab.async false
set_option linter.all false
set_option maxRecDepth 100000
set_option maxHeartbeats 1000000
namespace K89
open PySem PySem.Spec PyProof.Rows L2 DL
def someA : List Str := ["", "now", "then", "free", "hangs", "holds", "strong", "within", "beyond", "allowed", "like", "a", "A"]
def someB : List Str := ["1a", "0", "00", "-0", "-5", "3/2", "3/0", "0/5", "1/2/3", "/2", "3/", "-1/2", "1000000", "-1000000"]
def someC : List Str := ["a\n",
  "abcdefghijkl", "abcdefghijklm",
  "1_0", "+5", "5.0", "x y"]
def okW (w : Str) : Prop := ∀ c ∈ cs w, c < 256
theorem some_ok : ∀ w ∈ someA ++ someB ++ someC, w.length ≤ 13 ∧ ∀ c ∈ cs w, c < 256 := by decide +kernel
def textOk (N : Nat) (t : Str) : Prop := t.length ≤ N ∧ okW t
theorem okW_str {w : Str} (h : okW w) : PyData.strOk w = true := by
  unfold PyData.strOk
  rw [Array.all_eq_true_iff_forall_mem]
  intro c hc
  have := h c (by simpa [cs] using hc)
  exact decide_eq_true (by omega)
theorem join_len (ws : List Str) : (Txt.join " " ws).length ≤ tot ws := by
  show (PySem.Builtin.Str.glued " " ws).length ≤ _
  rw [PySem.size_glued, show (" " : Str).length = 1 from rfl]
  unfold tot; omega
theorem joinL_mem {s : List Nat} : ∀ {l : List (List Nat)} {c : Nat}, c ∈ TL.joinL s l → c ∈ s ∨ ∃ p ∈ l, c ∈ p
  | [], c, h => by simp [TL.joinL] at h
  | [p], c, h => by simp [TL.joinL] at h; exact .inr ⟨p, by simp, h⟩
  | p :: q :: r, c, h => by
    simp only [TL.joinL, List.mem_append] at h
    rcases h with h | h | h
    · exact .inr ⟨p, by simp, h⟩
    · exact .inl h
    · rcases joinL_mem h with h | ⟨p', h1, h2⟩
      · exact .inl h
      · exact .inr ⟨p', List.mem_cons_of_mem _ h1, h2⟩
theorem join_ok {ws : List Str} (h : ∀ w ∈ ws, okW w) : okW (Txt.join " " ws) := fun c hc => by
  rw [TL.join_eq] at hc
  have hc : c ∈ TL.tl ((" " : Str).join ws) := hc
  rw [TL.tl_join] at hc
  rcases joinL_mem hc with hc | ⟨p, hp, hc⟩
  · have : ∀ c ∈ TL.tl (" " : Str), c < 256 := by decide +kernel
    exact this c hc
  · obtain ⟨w, hw, rfl⟩ := List.mem_map.mp hp
    exact h w hw c hc
end K89
set_option Elab.async false
set_option linter.all false
set_option maxRecDepth 100000
set_option maxHeartbeats 1000000
namespace K89
open PySem PySem.Spec PyProof.Rows L2 DL
def preB : D → List D → Prop := fun d ds => ∃ k t, PenAt k d ∧ k + 30 < budget ∧ ds = [.str t] ∧ t.length ≤ 10000 ∧ okW t
def postB : D → List D → EV → D → Prop := fun d ds r d' => ∀ t, ds = [.str t] → ∃ t', r = .val (.str t') ∧ t'.length ≤ 2 * t.length + 50 ∧ okW t' ∧ PenNext 5 d d'
section
variable {P : Program} {w : World} {K : PySem.W.Frag} {mg : Str → Option Value} {base : Heap} {f : Addr} {fd : FuncData}
theorem sc__law_bent_vow : FnScope ["pen", "text", "words", "k", "way", "some", "odd"] ["pen", "text"] (defScope s__law_bent_vow) := ⟨rfl, rfl, rfl, by decide +kernel, rfl, by decide +kernel, by decide +kernel⟩
abbrev bS (d : D) (t : Str) (ws : List Str) (k way : Int) (odd : Str) : DS := [some (.io d), some (.val (.str t)), some (.own (.lst (txs ws))), some (.val (.int k)), some (.val (.int way)), some (.val (.lst (txs (someA ++ someB ++ someC)))), some (.val (.str odd))]
theorem fAdd_txs {a b : List Str} (h : a.length + b.length ≤ 100000) : fAdd (.lst (txs a)) (.lst (txs b)) = some (.own (.lst (txs (a ++ b)))) := by
  rw [add_lst (by rw [List.length_map, List.length_map]; exact h)]
  simp
theorem fJoin_txs {ws : List Str} (h : tot ws ≤ 100000) : fJoin " " (.lst (txs ws)) = some (.val (.str (Txt.join " " ws))) := by
  have e : ∀ l : List Str, allStr (txs l) = some l := by
    intro l
    induction l with
    | nil => rfl
    | cons x l ih =>
      show (allStr (txs l)).map _ = _
      rw [ih]; rfl
  show (allStr (txs ws)).bind _ = _
  rw [e]
  show (if (ws.map (·.length)).sum + ws.length * (" " : Str).length ≤ 16777216 then _ else _) = _
  rw [if_pos]
  rw [show (" " : Str).length = 1 from rfl]
  unfold tot at h; omega
theorem ok_law_bent_vow (F : FnP K "_law_bent_vow" s__law_bent_vow f fd) (g_len : mg "len" = none) (c__law_draw : Cal P w K mg base 2 "_law_draw" ["pen", "many"] (spI (spA preD postD))) (c__law_pick : Cal P w K mg base 3 "_law_pick" ["pen", "some"] (spI (spA preK postK))) :
    FnG P w K mg base 4 f fd ["pen", "text"] (spI (spA preB postB)) := by
  refine fnI_ok F sc__law_bent_vow (fun d ds Q ⟨⟨_, _, _, _, e, _⟩, _⟩ => by rw [e]; rfl) fun cdv A outer st H E G B => ?_
  have hr := B.room
  have hgd := B.gd
  have hu := Nat.lt_of_le_of_lt (Nat.add_le_add_left (by decide : 1 ≤ 64) _) hr.units
  have nd := sc__law_bent_vow.nd
  refine ⟨_, (db_cons (ds_own 2 nd (de_split (de_var 1) de_str))
    (db_cons (ds_par2 3 false 4 false rfl nd (da_cons (e_callI 0 c__law_draw mono_A hr hgd (da_cons (de_var 0) (da_cons (e_len g_len (da_cons (de_var 2) da_nil)) da_nil))) (da_cons (e_callI 0 c__law_draw mono_A hr hgd (da_cons (de_var 0) (da_cons de_int da_nil))) da_nil)))
    (db_cons (ds_set 5 nd (de_lst (da_cons de_str (da_cons de_str (da_cons de_str (da_cons de_str (da_cons de_str (da_cons de_str (da_cons de_str (da_cons de_str (da_cons de_str (da_cons de_str (da_cons de_str (da_cons de_str (da_cons de_str da_nil)))))))))))))))
    (db_cons (ds_set 5 nd (e_add (de_var 5) (de_lst (da_cons de_str (da_cons de_str (da_cons de_str (da_cons de_str (da_cons de_str (da_cons de_str (da_cons de_str (da_cons de_str (da_cons de_str (da_cons de_str (da_cons de_str (da_cons de_str (da_cons de_str (da_cons de_str da_nil)))))))))))))))))
    (db_cons (ds_set 5 nd (e_add (de_var 5) (de_lst (da_cons de_str (da_cons de_str (da_cons de_str (da_cons de_str (da_cons de_str (da_cons de_str (da_cons de_str da_nil))))))))))
    (db_cons (ds_set 6 nd (e_callI 0 c__law_pick mono_A hr hgd (da_cons (de_var 0) (da_cons (de_var 5) da_nil))))
    (db_cons (ds_if (t_lt (de_var 4) de_int) (db_one (ds_put (i := 2) hu (de_var 6) (de_var 2) (de_var 3))) (db_one (ds_if (t_eq hr (de_var 4) de_int) (db_one (ds_own 2 nd (e_add (e_sl (de_var 2) do_none (do_some (de_var 3))) (e_sl (de_var 2) (do_some (e_add (de_var 3) de_int)) do_none)))) (db_one (ds_if (t_eq hr (de_var 4) de_int) (db_one (ds_own 2 nd (e_add (e_add (e_sl (de_var 2) do_none (do_some (de_var 3))) (de_lst (da_cons (e_callI 0 c__law_pick mono_A hr hgd (da_cons (de_var 0) (da_cons (de_lst (da_cons (de_var 6) (da_cons (e_ix (de_var 2) (de_var 3)) da_nil))) da_nil))) da_nil))) (e_sl (de_var 2) (do_some (de_var 3)) do_none)))) (db_one (ds_if (t_eq hr (de_var 4) de_int) (db_one (ds_own 2 nd (e_add (de_var 2) (de_lst (da_cons (e_callI 0 c__law_pick mono_A hr hgd (da_cons (de_var 0) (da_cons (de_lst (da_cons (de_var 6) (da_cons (e_ix (de_var 2) (e_neg de_int)) (da_cons de_str da_nil)))) da_nil))) da_nil))))) (db_one (ds_own 2 nd (e_sl (de_var 2) do_none (do_some (de_var 3))))))))))))
    (db_one (ds_ret (de_join de_str (de_var 2))))))))))), ?_⟩
  rintro d ds Q ⟨⟨k, t, hp, hk, rfl, hl, ht⟩, q⟩
  have q : ∀ t' d', t'.length ≤ 2 * t.length + 50 → okW t' → PenNext 5 d d' → Q (.val (.str t')) d' := fun t' d' h1 h2 h3 => q _ _ fun t2 e => by
    simp only [List.cons.injEq, D.str.injEq, and_true] at e
    subst e
    exact ⟨t', rfl, h1, h2, h3⟩
  have hm5 : (budget : Nat) = 1000000 := rfl
  refine sq_own (ev_split (s := 32) (by decide) (ev_var rfl) ev_c (le_line (by omega))) rfl rfl ?_
  have htot := words_tot 32 t
  have hne := words_ne 32 t
  have hok : ∀ w ∈ wordsAt 32 t, okW w := fun w hw c hc => ht c (words_sub hw c hc)
  generalize wordsAt 32 t = ws at htot hne hok ⊢
  have hlt := len_tot ws
  have hpos : 0 < ws.length := List.length_pos_iff.mpr hne
  refine sq_par2R (run_cons (run_draw (n := ((txs ws).length : Nat)) (eva_cons (ev_io rfl) (eva_cons (ev_ls (eva_cons (ev_own rfl) eva_nil) rfl len_lst) eva_nil)) rfl hp (by omega) (by rw [List.length_map]; omega) (by rw [List.length_map]; omega) fun vk d1 hk0 hk1 hn1 =>
    run_cons (run_draw (eva_cons (ev_io rfl) (eva_cons ev_c eva_nil)) rfl (hn1 k hp) (by omega) (by omega) (by omega) fun vw d2 hw0 hw1 hn2 =>
    run_nil ⟨_, _, rfl, noB_val, stQ_val rfl (stQ_val rfl ?_)⟩)))
  have hn2 := hn1.then1 hn2
  refine sq_set (ev_lst (cs := txs someA) (eva_cons ev_c (eva_cons ev_c (eva_cons ev_c (eva_cons ev_c (eva_cons ev_c (eva_cons ev_c (eva_cons ev_c (eva_cons ev_c (eva_cons ev_c (eva_cons ev_c (eva_cons ev_c (eva_cons ev_c (eva_cons ev_c (eva_nil)))))))))))))) rfl (le1 (by decide))) rfl rfl ?_
  refine sq_set (ev_bin (ev_var rfl) (ev_lst (cs := txs someB) (eva_cons ev_c (eva_cons ev_c (eva_cons ev_c (eva_cons ev_c (eva_cons ev_c (eva_cons ev_c (eva_cons ev_c (eva_cons ev_c (eva_cons ev_c (eva_cons ev_c (eva_cons ev_c (eva_cons ev_c (eva_cons ev_c (eva_cons ev_c (eva_nil))))))))))))))) rfl (le1 (by decide))) rfl rfl (fAdd_txs (by decide))) rfl rfl ?_
  refine sq_set (ev_bin (ev_var rfl) (ev_lst (cs := txs someC) (eva_cons ev_c (eva_cons ev_c (eva_cons ev_c (eva_cons ev_c (eva_cons ev_c (eva_cons ev_c (eva_cons ev_c (eva_nil)))))))) rfl (le1 (by decide))) rfl rfl (fAdd_txs (by decide))) rfl rfl ?_
  refine sq_asgR (run_pick (xs := txs (someA ++ someB ++ someC)) (eva_cons (ev_io rfl) (eva_cons (ev_var rfl) eva_nil)) rfl (hn2 k hp) (by omega) (by decide) (by decide) fun x d3 hx hn3 => ⟨_, _, rfl, can_of rfl, ?_⟩)
  have hn3 := hn2.then1 hn3
  obtain ⟨odd, hodd, rfl⟩ := txs_mem hx
  have ho := some_ok odd hodd
  obtain ⟨j, rfl⟩ := Int.eq_ofNat_of_zero_le hk0
  rw [List.length_map] at hk1
  have hj : j < ws.length := by omega
  have fin : ∀ (ws' : List Str) (d' : D), tot ws' ≤ 2 * tot ws + 20 → (∀ w ∈ ws', okW w) → PenNext 4 d d' → dRet (dStr fJoin (dC (.str " ")) (dVar 2)) (endsI Q) (bS d' t ws' j vw odd) := fun ws' d' h1 h2 h3 =>
    st_ret (ev_str ev_c (ev_own rfl) rfl (fJoin_txs (by omega))) ⟨_, rfl, q _ d' (by have := join_len ws'; omega) (join_ok h2) (h3.le (by omega))⟩
  have htd := tot_take_drop j ws
  have hwj : ws[j]? = some (ws.getD j "") := getD_some hj
  have hwm : ws.getD j "" ∈ ws := List.mem_of_getElem? hwj
  have hsl1 : ∀ l : List Str, fSl (.lst (txs l)) none (some ((j : Nat) : Int)) = some (.own (.lst (txs (l.take j)))) := fun l => by
    show some (EV.own (.lst (DL.cutD (txs l) none (some ((j : Nat) : Int))))) = _
    rw [cutD_to, ← List.map_take]
  have hsl2 : ∀ (l : List Str) (b : Nat), fSl (.lst (txs l)) (some (b : Int)) none = some (.own (.lst (txs (l.drop b)))) := fun l b => by
    show some (EV.own (.lst (DL.cutD (txs l) (some (b : Int)) none))) = _
    rw [cutD_from, ← List.map_drop]
  have okT : ∀ (n : Nat) w, w ∈ ws.take n → okW w := fun n w h => hok w (List.mem_of_mem_take h)
  have okD : ∀ (n : Nat) w, w ∈ ws.drop n → okW w := fun n w h => hok w (List.mem_of_mem_drop h)
  have oko : okW odd := ho.2
  have hlo := ho.1
  have hdj1 : tot (ws.drop (j + 1)) ≤ tot (ws.drop j) := by
    have := tot_take_drop 1 (ws.drop j)
    rw [List.drop_drop] at this; omega
  have hn3' : PenNext 4 d d3 := hn3.le (by omega)
  show dSeq (dIfS _ _ _) _ (endsI Q) (bS d3 t ws j vw odd)
  refine sq_ife (b := decide (vw < 3)) (evt_b (ev_bin (ev_var rfl) ev_c rfl rfl rfl)) (fun _ => ?_) (fun _ => ?_)
  · show dSeq (dPut 2 fSet (dVar 6) (dVar 2) (dVar 3)) (dRet (dStr fJoin (dC (.str " ")) (dVar 2))) (endsI Q) (bS d3 t ws j vw odd)
    refine sq_put (S2 := bS d3 t ws j vw odd) (ev_var rfl) (ev_own rfl) (ev_var rfl) rfl rfl rfl (d' := .lst (txs (ws.set j odd))) ?_ ?_
    · show (L2.ixN (txs ws).length (j : Int)).map (fun i => D.lst ((txs ws).set i (.str odd))) = _
      unfold L2.ixN
      rw [if_pos (by omega), if_pos (by rw [List.length_map]; omega)]
      show some (D.lst ((ws.map D.str).set j (.str odd))) = some (D.lst ((ws.set j odd).map D.str))
      rw [List.map_set]
    · refine fin (ws.set j odd) d3 ?_ ?_ hn3'
      · rw [List.set_eq_take_append_cons_drop, if_pos hj, tot_app, show odd :: ws.drop (j + 1) = [odd] ++ ws.drop (j + 1) from rfl, tot_app, tot_one]; omega
      · intro w hw
        rcases List.mem_or_eq_of_mem_set hw with h | h
        · exact hok w h
        · rw [h]; exact oko
  refine st_if (b := decide (vw = 3)) (evt_b (ev_bin (ev_var rfl) ev_c rfl rfl rfl)) (fun _ => ?_) (fun _ => ?_)
  · refine st_own (ev_bin (ev_sl (ev_own rfl) evo_no (evo_pt (ev_var rfl)) rfl (hsl1 ws)) (ev_sl (ev_own rfl) (evo_pt (ev_bin (ev_var rfl) ev_c rfl rfl rfl)) evo_no rfl (hsl2 ws (j + 1))) rfl rfl (fAdd_txs ?_)) rfl (can_of rfl) (fin (ws.take j ++ ws.drop (j + 1)) d3 ?_ ?_ hn3')
    · rw [List.length_take, List.length_drop]; omega
    · rw [tot_app]; omega
    · intro w hw
      exact (List.mem_append.mp hw).elim (okT _ w) (okD _ w)
  refine st_if (b := decide (vw = 4)) (evt_b (ev_bin (ev_var rfl) ev_c rfl rfl rfl)) (fun _ => ?_) (fun _ => ?_)
  · refine run_bin2 (run_bin (ev_sl (ev_own rfl) evo_no (evo_pt (ev_var rfl)) rfl (hsl1 ws)) (run_lst (run_cons ?_)))
    refine run_pick (xs := [.str odd, .str (ws.getD j "")]) (eva_cons (ev_io rfl) (eva_cons (ev_lst (eva_cons (ev_var rfl) (eva_cons (ev_bin (ev_own rfl) (ev_var rfl) rfl rfl (ix_lst (d := .str (ws.getD j "")) (by rw [List.getElem?_map, hwj]; rfl))) eva_nil)) rfl (le1 (by simp))) eva_nil)) rfl (hn3 k hp) (by omega) (by simp) (by simp) fun x d4 hx hn4 => ?_
    have hn4 := hn3.then1 hn4
    obtain ⟨y, rfl, hy1, hy2⟩ : ∃ y, x = .str y ∧ okW y ∧ y.length ≤ tot ws + 13 := by
      simp only [List.mem_cons, List.not_mem_nil, or_false] at hx
      rcases hx with h | h
      · exact ⟨_, h, oko, by omega⟩
      · exact ⟨_, h, hok _ hwm, by have := mem_tot hwm; omega⟩
    refine run_nil ⟨_, _, rfl, le1 (by simp), _, _, _, rfl, rfl, fAdd_txs (a := ws.take j) (b := [y]) ?_, ?_⟩
    · rw [List.length_take]; simp; omega
    refine run_ev (ev_sl (ev_own rfl) (evo_pt (ev_var rfl)) evo_no rfl (hsl2 ws j)) ⟨_, _, _, rfl, rfl, fAdd_txs ?_, ?_⟩
    · simp; omega
    refine ⟨_, _, rfl, can_of rfl, fin (ws.take j ++ [y] ++ ws.drop j) d4 ?_ ?_ (hn4.le (by omega))⟩
    · rw [tot_app, tot_app, tot_one]; omega
    · intro w hw
      rcases List.mem_append.mp hw with h | h
      · rcases List.mem_append.mp h with h | h
        · exact okT _ w h
        · rw [List.mem_singleton.mp h]; exact hy1
      · exact okD _ w h
  refine st_if (b := decide (vw = 5)) (evt_b (ev_bin (ev_var rfl) ev_c rfl rfl rfl)) (fun _ => ?_) (fun _ => ?_)
  · have hlast : ws[ws.length - 1]? = some (ws.getD (ws.length - 1) "") := getD_some (by omega)
    have hlm : ws.getD (ws.length - 1) "" ∈ ws := List.mem_of_getElem? hlast
    refine run_bin (ev_own rfl) (run_lst (run_cons ?_))
    refine run_pick (xs := [.str odd, .str (ws.getD (ws.length - 1) ""), .str "1"]) (eva_cons (ev_io rfl) (eva_cons (ev_lst (eva_cons (ev_var rfl) (eva_cons (ev_bin (r := .val (.str (ws.getD (ws.length - 1) ""))) (ev_own rfl) (ev_un (r := .val (.int (-1))) ev_c rfl rfl) rfl rfl ?_) (eva_cons ev_c eva_nil))) rfl (le1 (by simp))) eva_nil)) rfl (hn3 k hp) (by omega) (by simp) (by simp) fun x d4 hx hn4 => ?_
    · show (L2.atI (txs ws) (-1)).map EV.val = _
      unfold L2.atI L2.ixN
      rw [if_neg (by omega), if_pos (by rw [List.length_map]; omega)]
      show ((txs ws)[((-1 : Int) + ((txs ws).length : Nat)).toNat]?).map EV.val = _
      rw [List.length_map, show ((-1 : Int) + (ws.length : Nat)).toNat = ws.length - 1 by omega, List.getElem?_map, hlast]
      rfl
    have hn4 := hn3.then1 hn4
    obtain ⟨y, rfl, hy1, hy2⟩ : ∃ y, x = .str y ∧ okW y ∧ y.length ≤ tot ws + 13 := by
      simp only [List.mem_cons, List.not_mem_nil, or_false] at hx
      rcases hx with h | h | h
      · exact ⟨_, h, oko, by omega⟩
      · exact ⟨_, h, hok _ hlm, by have := mem_tot hlm; omega⟩
      · exact ⟨_, h, by unfold okW; decide +kernel, by have : ("1" : Str).length = 1 := rfl; omega⟩
    refine run_nil ⟨_, _, rfl, le1 (by simp), _, _, _, rfl, rfl, fAdd_txs (a := ws) (b := [y]) ?_, ?_⟩
    · simp; omega
    refine ⟨_, _, rfl, can_of rfl, fin (ws ++ [y]) d4 ?_ ?_ (hn4.le (by omega))⟩
    · rw [tot_app, tot_one]; omega
    · intro w hw
      rcases List.mem_append.mp hw with h | h
      · exact hok w h
      · rw [List.mem_singleton.mp h]; exact hy1
  · refine st_own (ev_sl (ev_own rfl) evo_no (evo_pt (ev_var rfl)) rfl (hsl1 ws)) rfl (can_of rfl) (fin (ws.take j) d3 ?_ (okT _) hn3')
    omega
end
end K89
set_option Elab.async false
set_option linter.all false
set_option maxRecDepth 100000
set_option maxHeartbeats 1000000
/-! Layer D: heaps that grow but for the tables of code; isinstance of an own class. -/
namespace DL
open PySem PySem.Spec PyProof.Rows L2
/-- all but the tables stays, nothing goes away -/
structure SameN (N : List (Addr × Str)) (H H' : Hp) : Prop where
  k : ∀ a o, H a = some o → (N ≠ [] → ∀ ps, o ≠ .tbl ps) → H' a = some o
  d : ∀ a o, H a = some o → ∃ o', H' a = some o'
theorem SameN.refl {N : List (Addr × Str)} {H : Hp} : SameN N H H := ⟨fun _ _ e _ => e, fun _ o e => ⟨o, e⟩⟩
theorem SameN.of {N : List (Addr × Str)} {H H' : Hp} (k : Same H H') : SameN N H H' := ⟨fun _ _ e _ => k _ _ e, fun _ o e => ⟨o, k _ _ e⟩⟩
theorem SameN.trans {N : List (Addr × Str)} {H H1 H' : Hp} (a : SameN N H H1) (b : SameN N H1 H') : SameN N H H' := ⟨fun c o e n => b.k _ _ (a.k _ _ e n) n, fun c o e => let ⟨o', q⟩ := a.d c o e; b.d c o' q⟩
section
variable {N : List (Addr × Str)} {Z Z' : Addr → Prop} {H H' : Hp}
theorem RdA.growK {a : Addr} {u : HO} (h : RdA Z H a u) (k : ∀ a o, H a = some o → (N ≠ [] → ∀ ps, o ≠ .tbl ps) → H' a = some o) (zz : ∀ a, (∃ o, H a = some o) → Z' a → Z a) (nu : ∀ ps, u ≠ .tbl ps) : RdA Z' H' a u := by
  rcases h with ⟨h, z⟩ | ⟨o, h⟩
  · exact .inl ⟨k _ _ h fun _ => nu, fun q => z (zz _ ⟨_, h⟩ q)⟩
  · exact .inr ⟨o, k _ _ h fun _ _ => nofun⟩
mutual
theorem Rep.growK (k : ∀ a o, H a = some o → (N ≠ [] → ∀ ps, o ≠ .tbl ps) → H' a = some o) (zz : ∀ a, (∃ o, H a = some o) → Z' a → Z a) : ∀ {d : D} {v : V}, Rep Z H d v → Rep Z' H' d v
  | .non, _, h => by simp only [Rep] at h ⊢; exact h
  | .bl _, _, h => by simp only [Rep] at h ⊢; exact h
  | .int _, _, h => by simp only [Rep] at h ⊢; exact h
  | .str _, _, h => by simp only [Rep] at h ⊢; exact h
  | .ref _, _, h => by simp only [Rep] at h ⊢; exact h
  | .tup ds, _, h => by
    simp only [Rep] at h ⊢
    obtain ⟨a, vs, e, r, q⟩ := h
    exact ⟨a, vs, e, r.elim (fun r => .inl (k _ _ r fun _ _ => nofun)) (fun ⟨o, r⟩ => .inr ⟨o, k _ _ r fun _ _ => nofun⟩), Reps.growK k zz q⟩
  | .lst ds, _, h => by
    simp only [Rep] at h ⊢
    obtain ⟨a, vs, e, ⟨r, z⟩, q⟩ := h
    exact ⟨a, vs, e, ⟨k _ _ r fun _ _ => nofun, fun w => z (zz _ ⟨_, r⟩ w)⟩, Reps.growK k zz q⟩
  | .frl ds, _, h => by
    simp only [Rep] at h ⊢
    obtain ⟨a, vs, o, e, r, q⟩ := h
    exact ⟨a, vs, o, e, k _ _ r fun _ _ => nofun, Reps.growK k zz q⟩
  | .dic ks us, _, h => by
    simp only [Rep] at h ⊢
    obtain ⟨a, kvs, e, r, e2, q⟩ := h
    exact ⟨a, kvs, e, r.growK k zz fun _ => nofun, e2, Reps.growK k zz q⟩
  | .obj C ns us, _, h => by
    simp only [Rep] at h ⊢
    obtain ⟨a, dx, vs, e, ⟨r, z⟩, q⟩ := h
    exact ⟨a, dx, vs, e, ⟨k _ _ r fun _ _ => nofun, fun w => z (zz _ ⟨_, r⟩ w)⟩, Reps.growK k zz q⟩
theorem Reps.growK (k : ∀ a o, H a = some o → (N ≠ [] → ∀ ps, o ≠ .tbl ps) → H' a = some o) (zz : ∀ a, (∃ o, H a = some o) → Z' a → Z a) : ∀ {ds : List D} {vs : List V}, Reps Z H ds vs → Reps Z' H' ds vs
  | [], _, h => by simp only [Reps] at h ⊢; exact h
  | d :: ds, _, h => by
    simp only [Reps] at h ⊢
    obtain ⟨v, r, e, h1, h2⟩ := h
    exact ⟨v, r, e, Rep.growK k zz h1, Reps.growK k zz h2⟩
end
theorem OwnAt.growK {a : Addr} {d : D} (h : OwnAt Z H a d) (k : ∀ a o, H a = some o → (N ≠ [] → ∀ ps, o ≠ .tbl ps) → H' a = some o) (zz : ∀ a, (∃ o, H a = some o) → Z' a → Z a) : OwnAt Z' H' a d := by
  cases d <;> simp only [OwnAt] at h ⊢
  · obtain ⟨vs, e, q⟩ := h; exact ⟨vs, k _ _ e fun _ _ => nofun, q.growK k zz⟩
  · obtain ⟨kvs, e, e2, q⟩ := h; exact ⟨kvs, k _ _ e fun _ _ => nofun, e2, q.growK k zz⟩
  · obtain ⟨dx, vs, e, q⟩ := h; exact ⟨dx, vs, k _ _ e fun _ _ => nofun, q.growK k zz⟩
theorem XAt.growK {x : DX} {cls : Value} {d : Option Addr} (h : XAt Z H x cls d) (k : ∀ a o, H a = some o → (N ≠ [] → ∀ ps, o ≠ .tbl ps) → H' a = some o) (zz : ∀ a, (∃ o, H a = some o) → Z' a → Z a) : XAt Z' H' x cls d := by
  obtain ⟨e, h⟩ := h
  exact ⟨e, h.elim .inl fun ⟨a, vs, e1, e2, e3, r⟩ => .inr ⟨a, vs, e1, k _ _ e2 fun _ _ => nofun, e3, r.growK k zz⟩⟩
theorem RelW.growK {H0 : Hp} {io : Nat → Option Addr} {w : Wd} (R : RelW N Z H0 io H w) (k : ∀ a o, H a = some o → (N ≠ [] → ∀ ps, o ≠ .tbl ps) → H' a = some o) (dt : ∀ a ps, H0 a = some (.tbl ps) → ∃ o', H' a = some o') (t : LamX.Tabs N H') : RelW N Z H0 io H' w := by
  have zz : ∀ {Z : Addr → Prop} (a : Addr), (∃ o, H a = some o) → Z a → Z a := fun _ _ q => q
  refine ⟨fun p v d e => (R.val p v d e).growK k zz, fun p v sv e m => ?_, R.inj, R.own, R.ioo, fun a o e n nt => k _ _ (R.base a o e n nt) nt, fun a o e => ?_, t, R.zdom, fun i b e => let ⟨o, q, n⟩ := R.ioin i b e; ⟨o, k _ _ q fun _ => n, n⟩⟩
  · obtain ⟨a, ea, na, o⟩ := R.mu p v sv e m
    exact ⟨a, ea, na, o.growK k zz⟩
  · by_cases ht : ∃ ps, o = .tbl ps
    · obtain ⟨ps, rfl⟩ := ht; exact dt _ _ e
    · have ht : ∀ ps, o ≠ .tbl ps := fun ps z => ht ⟨ps, z⟩
      by_cases ni : ∃ i, io i = some a
      · obtain ⟨i, hi⟩ := ni
        obtain ⟨o', q, n⟩ := R.ioin i a hi
        exact ⟨o', k _ _ q fun _ => n⟩
      · exact ⟨o, k _ _ (R.base a o e (fun i z => ni ⟨i, z⟩) fun _ => ht) fun _ => ht⟩
theorem RelW.growN {H0 : Hp} {io : Nat → Option Addr} {w : Wd} (R : RelW N Z H0 io H w) (k : SameN N H H') (t : LamX.Tabs N H') : RelW N Z H0 io H' w :=
  R.growK k.k (fun a ps e => let ⟨o', q⟩ := R.dom a _ e; k.d _ _ q) t
end
section
variable {F : Fr} {H H' : Hp} {σ : L2.St} {S : DS}
theorem Rel.growK (R : Rel F H σ S) (k : ∀ a o, H a = some o → (F.N ≠ [] → ∀ ps, o ≠ .tbl ps) → H' a = some o) (dt : ∀ a ps, F.H0 a = some (.tbl ps) → ∃ o', H' a = some o') (t : LamX.Tabs F.N H') : Rel F H' σ S := ⟨R.len, R.has, R.iog, R.w.growK k dt t⟩
theorem Rel.growN (R : Rel F H σ S) (k : SameN F.N H H') (t : LamX.Tabs F.N H') : Rel F H' σ S := ⟨R.len, R.has, R.iog, R.w.growN k t⟩
theorem Rel.resultN (R : Rel F H σ S) (k : SameN F.N H H') (t : LamX.Tabs F.N H') {ev : EV} {v : V} (r : RvAt (Zs F σ S) H H' ev v) : Rel (F.push (v, ev.sv)) H' σ S ∧ EvAt σ ev v := by
  cases ev with
  | val d => exact ⟨(R.growN k t).pushVal (show Rep _ _ _ _ from r), trivial⟩
  | own d =>
    obtain ⟨a, rfl, n, o⟩ := r
    -- first all but the new thing, then it
    have k1 : SameN F.N H (fun b => if b = a then none else H' b) := ⟨fun b u e nt => by
      have hb : b ≠ a := fun z => by rw [z, n] at e; cases e
      show (if b = a then none else H' b) = some u
      rw [if_neg hb]; exact k.k _ _ e nt, fun b u e => by
      have hb : b ≠ a := fun z => by rw [z, n] at e; cases e
      show ∃ o', (if b = a then none else H' b) = some o'
      rw [if_neg hb]; exact k.d _ _ e⟩
    have t1 : LamX.Tabs F.N (fun b => if b = a then none else H' b) := fun p hp => by
      obtain ⟨ps, h1, h2, h3⟩ := t p hp
      obtain ⟨ps0, h10, _, _⟩ := R.w.tab p hp
      have hm : ∀ c q, H' c = some (LamX.CodeO c q) → c ≠ a := fun c q e z => by
        unfold LamX.CodeO at e
        rw [z] at e
        cases d <;> simp only [OwnAt] at o
        · obtain ⟨vs, e2, _⟩ := o; rw [e] at e2; cases e2
        · obtain ⟨vs, e2, _⟩ := o; rw [e] at e2; cases e2
        · obtain ⟨dx, vs, e2, _⟩ := o; rw [e] at e2; cases e2
      refine ⟨ps, ?_, h2, fun pos cv hc => ?_⟩
      · show (if p.1 = a then none else H' p.1) = _
        rw [if_neg (fun z => by rw [z, n] at h10; cases h10)]; exact h1
      · obtain ⟨c, e1, e2⟩ := h3 pos cv hc
        refine ⟨c, e1, ?_⟩
        show (if c = a then none else H' c) = _
        rw [if_neg (hm c _ e2)]; exact e2
    have k2 : Same (fun b => if b = a then none else H' b) H' := fun b u e => by
      have e : (if b = a then none else H' b) = some u := e
      split at e
      · cases e
      · exact e
    exact ⟨(R.growN k1 t1).pushOwn k2 (if_pos rfl) o, trivial⟩
  | bor i => exact r.elim
end

/-! ### isinstance of an own class -/
structure OwnC (K : PySem.W.Frag) (C : Addr) : Prop where
  cl : Cls K C
  ha : PySem.W.findIn K (.ref C) "__class__" = some (some (.builtin "object.__class__"))
  hn : PySem.W.specialIn K (.builtin "object.__class__") "__get__" = some (some (.builtin "getset_descriptor.__get__"))
  ht : PySem.W.takesIn K (.builtin "object.__class__") = some true
  hm : PySem.W.mroIn K C (.type "object") = some true
section
variable {X : Cx} {G : Gb} {a : Expr} {ma : DM} {pos p p2 : Pos}
def fIsiC (C : Addr) : D → Option EV
  | .obj C' _ _ => if C' = C then some (.val (.bl true)) else none
  | _ => none
def rIsiC (K : PySem.W.Frag) (C : Addr) : V → Hp → VK → Prop := fun x H Q => rIsi K [x, .ref C] H Q
theorem und_isiC {K : PySem.W.Frag} {C : Addr} (o : OwnC K C) : UnD (rIsiC K C) (fIsiC C) := by
  intro Z H x d ev Q t e q
  unfold fIsiC at e
  split at e
  · split at e
    · rename_i hC
      subst hC
      cases e
      obtain ⟨b, dx, vs, rfl, r, _⟩ := (by simpa only [Top] using t : ∃ b dx vs, x = .ref b ∧ H b = some (.ins _ dx (_)) ∧ Reps Z H _ vs)
      exact ⟨.ref b, .ref _, .ref _, .ref _, true, rfl, .own _, .base (.ins r o.cl o.ha o.hn o.ht o.hm), if_pos (by simp), q _ H (Same.refl H) rv_bl⟩
    · cases e
  · cases e
theorem de_isiC {x : Str} {C : Addr} (o : OwnC X.K C) (hmi : X.mg "isinstance" = none) (hm : X.mg x = some (.ref C)) (ha : DE X G a ma) (hgi : Gl X "isinstance" := by rfl) (hg : Gl X x := by rfl) (hd : (x == ("__debug__" : Str)) = false := by decide)
    (he : starEach [a, .Name x p2] X.env = (false, eval a X.env) :: starEach [.Name x p2] X.env := by rfl) (he2 : starEach [.Name x p2] X.env = (false, eval (.Name x p2) X.env) :: starEach [] X.env := by rfl) (hpl : (backTo pos (starEach [.Name x p2] X.env)).any (·.1) = false := by rfl)
    (hbi : bootBuiltins "isinstance" = some (.builtin "isinstance") := by rfl) : DE X G (.Call (.Name "isinstance" p) [a, .Name x p2] [] pos) (dUn (fIsiC C) ma) := by
  have h1 : PA X [a, .Name x p2] (tCons (tD G ma) (tCons (tC (.ref C)) tNil)) := pa_cons ha.run (pa_cons (pe_glob (v := .ref C) hg hm rfl hd) pa_nil he2) he
  refine ⟨pe_of (pe_callB call_isi hgi hmi hbi h1 (by decide) (by decide) he hpl) fun σ H Q q => ?_, mono_un ha.mono⟩
  exact tUn_of (und_isiC o) ha.mono q
end
end DL
set_option Elab.async false
set_option linter.all false
set_option maxRecDepth 100000
set_option maxHeartbeats 1000000
/-! Layer D: a lambda without parameters, handed to a def that calls it. -/
namespace DL
open PySem PySem.Spec PyProof.Rows L2 LamX
/-- the code object of the def at f -/
def codeAt (K : PySem.W.Frag) (f : Addr) : Addr := match K.lookup f with
  | some ⟨_, _, .func fd, _⟩ => (match fd.code with
    | .ref c => c
    | _ => 0)
  | _ => 0
section
variable {P : Program} {w : World} {K : PySem.W.Frag} {mg : Str → Option Value} {base : Heap} {x qual : Str} {params : Arguments} {body : List Stmt} {scope : Scope} {dvs : List V} {kws : List (Str × V)} {f : Addr} {fd : FuncData} {N ps : List Str} {k : Nat} {sp : Sp}
/-- a def's promise, its code object known -/
theorem fngL_of (F : FunD K x qual params body scope dvs kws f fd) (S : FnScope N ps scope) (len : ∀ vs H Q E, sp vs H Q E → vs.length = ps.length)
    (hbody : ∀ (A : Around) (outer : List Env) (s : Shared) (H : Hp) (vs : List V) (Q : VK) (E : XK), Room k (A.deeper (envOfC qual scope s.heap.objs.size f (.ref (codeAt K f)))) → A.guards = some [] → sp vs H Q E →
      ∃ t, PSs (cxOf (L2.CX P w) P w K mg base N qual scope f (.ref (codeAt K f)) A outer s H E) body t ∧ t { nx := fun _ H' => Q .non H', rt := Q } (start N vs) H) : FnG P w K mg base (k + 1) f fd ps sp := by
  obtain ⟨oc, od, dV, kV, doc, pm, an, cdv, ct, osl, rfl, lk, hcd, _, _⟩ := F.ex
  have hc : cdv = .ref (codeAt K f) := by
    cases cdv with
    | ref c => unfold codeAt; rw [lk]
    | _ => cases hcd
  rw [hc] at hcd lk ⊢
  exact ⟨len, fun A outer s H args us vs Q E hr hg e0 hb r hsp => run_ofS lk hcd S hr e0 hb r (len _ _ _ _ hsp) fun hr' => hbody A outer s H vs Q E hr' hg hsp⟩
end
section
variable {X : Cx} {pins : List (Addr × Obj)} {σ : L2.St} {H : Hp} {s : Shared}
/-- the got lambda is called: in the def that got it, entered at s -/
theorem act_lam {CXg : CXT} {Eg : XK} {Ng : List Str} {qg a : Str} {sg scope : Scope} {g f c' : Addr} {cdg pm ctv : Value} {params : Arguments} {body : Expr} {k i : Nat} {pn : List (Addr × Obj)} {xe : Value → Shared → Prop} {W : WX} {E : XK} {tb : TE} {p1 p2 : Pos}
    (I : Inv X pins σ H s) (L : LamS X.env.scope scope) (hf : s.heap.get? f = some (PySem.W.kla_obj "<lambda>" (X.env.qual ++ "<lambda>") params body scope (cloFrom X.env.cells scope.names []) pm c' ctv)) (hn : H f = none) (nf : f ∉ frs X.stack)
    (hbind : bindArgs (PySem.W.kla_fn "<lambda>" (X.env.qual ++ "<lambda>") params body scope (cloFrom X.env.cells scope.names []) pm (.ref c') ctv) ⟨[], []⟩ = pure [])
    (tk : Takes ((cxOf CXg X.prog X.w X.K X.mg X.base Ng qg sg g cdg X.A X.stack s H Eg).tr pn xe) W) (hW : ∀ cls d σ' H', E cls d H' → W cls d σ' H') (hr : Room (k + 1) (X.A.deeper (envOfC qg sg s.heap.objs.size g cdg)))
    (hbody : ∀ (outer : List Env) (s' : Shared) (H' : Hp), Room k ((X.A.deeper (envOfC qg sg s.heap.objs.size g cdg)).deeper (lamEnv X scope s'.heap.objs.size f c')) → PE (lamCx X (X.A.deeper (envOfC qg sg s.heap.objs.size g cdg)) outer s' H' E scope f c') body tb)
    (hN : Ng[i]? = some a) (hv : Vis sg a) (hd : (a == ("__debug__" : Str)) = false) (hcd : (a == ("__classdict__" : Str)) = false) :
    PE ((cxOf CXg X.prog X.w X.K X.mg X.base Ng qg sg g cdg X.A X.stack s H Eg).tr pn xe) (.Call (.Name a p1) [] [] p2)
      (fun τ J Q => τ[i]? = some (some (.ref f)) ∧ J c' = some (CodeO c' (X.env.qual ++ "<lambda>")) ∧ tb σ J Q) := by
  refine ⟨fun pins2 s2 τ J Q I2 ⟨hs, hc, ht⟩ => wpAny_Call_Name_kw (thn ((pe_var (pos := p1) (i := i) hN hv hd hcd).run pins2 s2 τ J (fun v J1 => v = .ref f ∧ J1 = J) I2 ⟨.ref f, hs, rfl, rfl⟩) ?_)⟩
  rintro u s1 ⟨v, J1, I1, r1, rfl, rfl⟩
  have eu : u = Value.ref f := r1
  subst eu
  have there : s1.heap.get? f = some (PySem.W.kla_obj "<lambda>" (X.env.qual ++ "<lambda>") params body scope (cloFrom X.env.cells scope.names []) pm c' ctv) := I1.base.keep f _ hf hn nf fun z => nomatch (show f ∈ ([] : List Addr) from z)
  have un : Un (frs X.stack) [] H J1 s.heap s1.heap := I1.base
  obtain ⟨⟨oc, vs, t, hoc, hdc, hvc⟩, _, _⟩ := I1.hok c' _ hc
  refine PySem.W.callWith_F0 ⟨_, _, _, _, there⟩ ?_
  have main : codeAny (model X.prog X.w) (X.A.deeper (envOfC qg sg s.heap.objs.size g cdg)) (.call (.ref f) ⟨[], []⟩) (CR (L2.CX X.prog X.w) (envOfC qg sg s.heap.objs.size g cdg :: X.stack) X.prog X.w J1 s1 Q E) s1 := by
    refine PySem.W.kla_callFunE hr.depth there rfl L.co L.gen rfl ⟨c', oc, vs, t, rfl, hoc, hdc, hvc⟩ ?_
    rw [hbind]
    refine wpAny_pure (wpAny_newFunctionEnv (fun y hy => (L.own y hy).2) (fun y hy => absurd hy (by simp)) (fun h₁ hns hsb => ⟨I1.nolimit.fresh _ hsb, ?_⟩) L.kind)
    have kp : ∀ b o, s1.heap.get? b = some o → h₁.get? b = some o := fun b o e => hsb.extBut b o (Nat.ne_of_lt (Heap.lt_size e)) (Heap.get?_push_of_some _ e)
    have start : Inv (lamCx X (X.A.deeper (envOfC qg sg s.heap.objs.size g cdg)) (envOfC qg sg s.heap.objs.size g cdg :: X.stack) s1 J1 E scope f c') [] σ J1 { s1 with heap := h₁, toks := s1.toks + ([] : List (Str × Value)).length } := lam_start2 I L I1.env0 hr.hd un hns kp
    refine PySem.W.kla_codeExpr (wpAny_mono ((hbody _ s1 J1 (hr.deeper _)).run [] _ _ J1 Q start ht) ?_ fun e s' hq => hq)
    rintro v s' ⟨w', J', I3, rv, q⟩
    exact ⟨w', J', I3.os, I3.bare, I3.base, I3.hok, rv, q⟩
  refine wpAny_call (codeAny_mono main fun r s' hq => ?_)
  match r, hq with
  | .error e, hq => exact passes_call tk hW pins2 τ J1 s1 e s' I1 hq
  | .ok (.ret u), hq => exact I1.after hq
end
section
variable {X : Cx}
/-- the wish behind the making of a lambda -/
def tLamG (T : List (Addr × Str)) (H0 : Hp) (TT : (XK → Hp → VK → Prop) → Hp → VK → Prop) (t : XK → TE) : TE := fun σ H Q => Tabs T H ∧ ∀ H1, (∀ a o, H a = some o → (T ≠ [] → ∀ ps, o ≠ .tbl ps) → H1 a = some o) → (∀ a ps, H0 a = some (.tbl ps) → ∃ o', H1 a = some o') → Tabs T H1 → TT (fun E H' Q' => t E σ H' Q') H1 Q
/-- what is asked of the def x that gets the lambda by its parameter a -/
structure LamTo (X : Cx) (x a : Str) (Ng : List Str) (sg : Scope) (g : Addr) (bg : List Stmt) (T : List (Addr × Str)) (TT : (XK → Hp → VK → Prop) → Hp → VK → Prop) (k : Nat) : Prop where
  ex : ∃ (pg : Arguments) (dV kV doc pm cdv ct oc : Value) (an od : Option Addr) (osl : Array (Option Value)) (c P : Addr), X.mg x = some (.ref g) ∧ PySem.W.keepIn X.K (.ref g) = true ∧
    X.K.lookup g = some ⟨oc, od, .func (PySem.W.fnOf x x pg bg sg dV kV doc pm an cdv ct), osl⟩ ∧ PySem.W.codeIn X.K cdv x = true ∧ L2.Binds X.K (PySem.W.fnOf x x pg bg sg dV kV doc pm an cdv ct) [a] [] ∧
    GivesTo X Ng x sg g cdv bg a (X.env.qual ++ "<lambda>") TT ∧ TabB X.base X.mg c P ∧ X.env.code = .ref c ∧ (P, X.env.qual ++ "<lambda>") ∈ T ∧ ∀ p ∈ T, p.1 = P → p.2 = X.env.qual ++ "<lambda>"
theorem pe_lamG {T : List (Addr × Str)} {TT : (XK → Hp → VK → Prop) → Hp → VK → Prop} {x a : Str} {g : Addr} {k : Nat} {bg : List Stmt} {sg scope : Scope} {Ng : List Str} {params : Arguments} {body : Expr} {t : XK → TE} {p lpos pos : Pos}
    (C : LamTo X x a Ng sg g bg T TT k) (hg : Gl X x) (Sg : FnScope Ng [a] sg) (hNg : Ng[0]? = some a) (hva : Vis sg a) (hr : Room (k + 2) X.A) (hgd : X.A.guards = some []) (L : LamS X.env.scope scope) (hdef : defaultsOf params X.env = ([], []))
    (hbind : ∀ (q : Str) (cl : List (Str × Addr)) (pm cv ctv : Value), bindArgs (PySem.W.kla_fn "<lambda>" q params body scope cl pm cv ctv) ⟨[], []⟩ = pure [])
    (hbody : ∀ (A : Around) (outer : List Env) (s : Shared) (H : Hp) (E : XK) (f c' : Addr), Room k (A.deeper (lamEnv X scope s.heap.objs.size f c')) → A.guards = some [] → PE (lamCx X A outer s H E scope f c') body (t E))
    (hdb : (x == ("__debug__" : Str)) = false) (hd : (a == ("__debug__" : Str)) = false) (hcd : (a == ("__classdict__" : Str)) = false) :
    PE X (.Call (.Name x p) [.Lambda params body scope lpos] [] pos) (tLamG T X.H_0 TT t) := by
  obtain ⟨pg, dV, kV, doc, pm, cdv, ct, oc, an, od, osl, c, P, hm, hk, lk, hcg, hb, hG, TB, hcode, hmT, hu⟩ := C.ex
  refine ⟨fun pins s σ H Q I ⟨hT, h⟩ => wpAny_Call_Name_kw (ld_glob I hg hm ?_ hdb)⟩
  refine PySem.W.callWith_K (h₀ := X.base) I.ok.mod.kin hk ?_ (by rfl) (by rfl)
  refine Calls.spliced_cons (lam_make2 I TB hcode hmT hu hT hdef (L.has I.ok) fun f c' pm' ctv H1 s' I1 eN T1 hf hfn hfr hco => ?_)
  refine Calls.spliced_nil ⟨I1.kIn, ?_⟩
  have k1 : ∀ b o, H b = some o → (T ≠ [] → ∀ ps, o ≠ .tbl ps) → H1 b = some o := fun b o e nt => eN b o e (nt fun z => by rw [z] at hmT; cases hmT)
  have d1 : ∀ b ps, X.H_0 b = some (.tbl ps) → ∃ o', H1 b = some o' := fun b ps e => let ⟨_, q⟩ := I1.base.tbls b ps e; ⟨_, q⟩
  have main : codeAny (model X.prog X.w) X.A (.call (.ref g) ⟨[.ref f], []⟩) (CR C8.CX0 X.stack X.prog X.w H1 s' Q C8.E0) s' := by
    refine run_ofS (N := Ng) (ps := [a]) (us := [.ref f]) (vs := [.ref f]) lk hcg Sg hr I1.env0 (hb s' [.ref f] I1.kIn rfl) (.cons rfl .nil) rfl fun hr' => ?_
    obtain ⟨t', ht', hq'⟩ := hG f c' s' H1 Q (fun E H' Q' => t E σ H' Q') (fun W pn xe E p1 p2 tk hW => act_lam (i := 0) I1 L hf hfn hfr (hbind _ _ _ _ _) tk hW hr' (fun outer s2 H2 hr2 => hbody _ outer s2 H2 E f c' hr2 hgd) hNg hva hd hcd) hco (h H1 k1 d1 T1)
    exact ⟨t', ht'.nox, hq'⟩
  refine wpAny_call (codeAny_mono main fun r s2 hq => ?_)
  match r, hq with
  | .error e, hq => exact (show False from hq).elim
  | .ok (.ret u), hq => exact I1.after hq
end
end DL
set_option Elab.async false
set_option linter.all false
set_option maxRecDepth 100000
set_option maxHeartbeats 1000000
/-! Layer D: lambdas by data; defs that make lambdas. -/
namespace DL
open PySem PySem.Spec PyProof.Rows L2 LamX
/-- what is wished of an exception in a lambda's body -/
def XdE (G : Gb) (E : XK) : DXm := fun x S => ∀ (F : Fr) (σ : L2.St) (H : Hp) (cls : Value) (d : Option Addr), F.gb = G → Rel F H σ S → XAt (Zs F σ S) H x cls d → E cls d H
/-- the slots that hold values -/
def valsOf (S : DS) : DS := S.map fun o => match o with
  | some (.val d) => some (.val d)
  | _ => none
theorem valsOf_get {S : DS} {i : Nat} {sv : SV} (h : (valsOf S)[i]? = some (some sv)) : ∃ d, sv = .val d ∧ S[i]? = some (some (.val d)) := by
  unfold valsOf at h
  rw [List.getElem?_map] at h
  cases e : S[i]? with
  | none => rw [e] at h; cases h
  | some o =>
    rw [e] at h
    cases o with
    | none => cases h
    | some s =>
      cases s with
      | val d => cases h; exact ⟨d, rfl, rfl⟩
      | _ => cases h
/-- the frame of a lambda's body: the maker's names, its values alone -/
def lamF (F : Fr) (σ : L2.St) (S : DS) (H : Hp) : Fr := ⟨F.N, fun _ => False, Zs F σ S, H, fun _ => none, []⟩
section
variable {F F' : Fr} {H H' : Hp} {σ σ' : L2.St} {S S' : DS}
theorem rel_lam (R : Rel F H σ S) : Rel (lamF F σ S H) H σ (valsOf S) := by
  have cell : ∀ p v sv, Wof [] σ (valsOf S) p = some (v, sv) → ∃ d, sv = .val d ∧ Rep (Zs F σ S) H d v := fun p v sv e => by
    cases p with
    | inl i =>
      obtain ⟨h1, h2⟩ := of_wof e
      obtain ⟨d, rfl, h3⟩ := valsOf_get h2
      exact ⟨d, rfl, R.w.val _ v d (wof_slot h1 h3)⟩
    | inr j => have e' : ([] : List (V × SV))[j]? = some (v, sv) := e; simp at e'
  have nomut : ∀ a, ¬ Mt (Wof [] σ (valsOf S)) a := fun a ⟨p, sv, e, m⟩ => by
    obtain ⟨d, h, _⟩ := cell p _ sv e
    subst h; cases m
  refine ⟨by simp [valsOf, R.len], fun i sv e => ?_, fun i a e => (nomatch e), ⟨fun p v d e => ?_, fun p v sv e m => ?_, fun p q a sv sv' e e' m m' => ?_, fun p a d e => ?_, fun p a d e => ?_, fun a o e _ _ => e, fun a o e => ⟨o, e⟩, R.w.tab, fun a z => ⟨R.zdom z, fun _ => nofun⟩, fun i b e => (nomatch e)⟩⟩
  · obtain ⟨d, rfl, h⟩ := valsOf_get e
    exact R.has i _ h
  · obtain ⟨d', h, q⟩ := cell p v _ e
    cases h
    exact q.less fun a z => z.elim id fun m => (nomut a m).elim
  · obtain ⟨d', h, q⟩ := cell p v _ e
    subst h; cases m
  · obtain ⟨d', h, q⟩ := cell p _ _ e
    subst h; cases m
  · obtain ⟨d', h, q⟩ := cell p _ _ e
    cases h
  · obtain ⟨d', h, q⟩ := cell p _ _ e
    cases h
/-- behind a lambda's body: what stood stands -/
theorem lam_back (R' : Rel F' H' σ' S') (hG : F'.gb = (lamF F σ S H).gb) : SameN F.N H H' ∧ Tabs F.N H' ∧ ∀ a, Zs F σ S a → Zs F' σ' S' a := by
  have e1 : F'.N = F.N := congrArg Gb.N hG
  have e2 : F'.H0 = H := congrArg Gb.H0 hG
  have e3 : F'.IO = fun _ => False := congrArg Gb.IO hG
  have e4 : F'.Z = Zs F σ S := congrArg Gb.Z hG
  have t := R'.w.tab
  rw [e1] at t
  refine ⟨⟨fun a o e nt => R'.w.base a o (by rw [e2]; exact e) (fun i q => ?_) (by rw [e1]; exact nt), fun a o e => R'.w.dom a o (by rw [e2]; exact e)⟩, t, fun a z => .inl (by rw [e4]; exact z)⟩
  rcases R'.iog i a q with h | h
  · rw [e2, e] at h; cases h
  · rw [e3] at h; exact h
/-- a new tuple of values -/
theorem tup_back (R : Rel F H' σ S) {p : Addr} {ds : List D} {vs : List V} (np : H' p = none) (r : Reps (Zs F σ S) H' ds vs) : Rel (F.push (.ref p, .val (.tup ds))) (upd H' p (.tup vs)) σ S := by
  refine (R.grow (same_upd np)).pushVal ?_
  simp only [Rep]
  exact ⟨p, vs, rfl, .inl upd_same, r.grow (same_upd np) fun _ _ z => z⟩
/-- a new list of values -/
theorem lst_back (R : Rel F H' σ S) {p : Addr} {ds : List D} {vs : List V} (np : H' p = none) (r : Reps (Zs F σ S) H' ds vs) : Rel (F.push (.ref p, .own (.lst ds))) (upd H' p (.lst vs)) σ S := by
  refine R.pushOwn (same_upd np) np ?_
  simp only [OwnAt]
  refine ⟨vs, upd_same, r.grow (same_upd np) fun a w z => z.elim id fun h => ?_⟩
  obtain ⟨o, q⟩ := w
  rw [h, np] at q; cases q
end
def MonoX (me : DXm → DM) : Prop := ∀ Xd Xd' S P P', (∀ x S, Xd x S → Xd' x S) → (∀ ev S, P ev S → P' ev S) → me Xd S P → me Xd' S P'
section
variable {X : Cx} {G : Gb}
theorem de_lam {TT : (XK → Hp → VK → Prop) → Hp → VK → Prop} {x a : Str} {g : Addr} {k : Nat} {bg : List Stmt} {sg scope : Scope} {Ng : List Str} {params : Arguments} {body : Expr} {dc : DM} {me : DXm → DM} {p lpos pos : Pos}
    (C : LamTo X x a Ng sg g bg G.N TT k) (hH : G.H0 = X.H_0) (hr : Room (k + 2) X.A) (hgd : X.A.guards = some []) (Sg : FnScope Ng [a] sg) (mono : Mono dc)
    (hb : ∀ (A : Around) (outer : List Env) (s : Shared) (H : Hp) (E : XK) (f c' : Addr) (G' : Gb) (Xd : DXm), Room k (lamCx X A outer s H E scope f c').A → (lamCx X A outer s H E scope f c').A.guards = some [] → G'.N = G.N → Takes (lamCx X A outer s H E scope f c') (wD G' Xd) → DE (lamCx X A outer s H E scope f c') G' body (me Xd))
    (conv : ∀ (F : Fr) (S : DS) (H1 : Hp) (σ : L2.St) (Q : VK), F.gb = G → Rel F H1 σ S → dc S (PostE F σ Q) → TT (fun E H' Q' => ∃ G' : Gb, G'.N = G.N ∧ tD G' (me (XdE G' E)) σ H' Q') H1 Q)
    (hg : Gl X x := by rfl) (hNg : Ng[0]? = some a := by rfl) (hva : Vis sg a := by first | exact Or.inl rfl | exact Or.inr (Or.inl rfl) | exact Or.inr (Or.inr rfl)) (L : LamS X.env.scope scope := by exact lamS_by (by kernel_rfl)) (hdef : defaultsOf params X.env = ([], []) := by rfl)
    (hbind : ∀ (q : Str) (cl : List (Str × Addr)) (pm cv ctv : Value), bindArgs (PySem.W.kla_fn "<lambda>" q params body scope cl pm cv ctv) ⟨[], []⟩ = pure [] := by intros; rfl)
    (hdb : (x == ("__debug__" : Str)) = false := by decide) (hd : (a == ("__debug__" : Str)) = false := by decide) (hcd : (a == ("__classdict__" : Str)) = false := by decide) :
    DE X G (.Call (.Name x p) [.Lambda params body scope lpos] [] pos) dc := by
  refine ⟨pe_of (pe_lamG (t := fun E σ H Q => ∃ G' : Gb, G'.N = G.N ∧ tD G' (me (XdE G' E)) σ H Q) C hg Sg hNg hva hr hgd L hdef hbind (fun A outer s H E f c' hr' hg' => ⟨fun pins s' σ H' Q I ⟨G', hn, q⟩ => ?_⟩) hdb hd hcd) fun σ H Q => ?_, mono⟩
  · refine (hb A outer s H E f c' G' (XdE G' E) hr' hg' hn ?_).run.run pins s' σ H' Q I q
    refine (takes_of (E := E) rfl rfl rfl rfl).imp fun cls d τ J => ?_
    rintro ⟨F, S, x, hG, R, xa, q⟩
    exact q F τ J cls d hG R xa
  · rintro ⟨F, S, hG, R, q⟩
    have eN : F.N = G.N := congrArg Gb.N hG
    have eH : F.H0 = X.H_0 := (congrArg Gb.H0 hG).trans hH
    have t := R.w.tab
    rw [eN] at t
    refine ⟨t, fun H1 k1 d1 t1 => conv F S H1 σ Q hG (R.growK (by rw [eN]; exact k1) (by rw [eH]; exact d1) (by rw [eN]; exact t1)) q⟩
end

/-! ### defs that make lambdas -/
/-- a def that changes nothing but the tables -/
def spL (N : List (Addr × Str)) (s : Sp0) : Sp := fun vs H Q E => Tabs N H ∧ ∃ (Z : Addr → Prop) (ds : List D), (∀ a, Z a → ∃ o, H a = some o) ∧ Reps Z H ds vs ∧
  s ds (fun r => ∀ v H', SameN N H H' → Tabs N H' → RvAt Z H H' r v → Q v H') fun x => ∀ cls dd H', SameN N H H' → Tabs N H' → XAt Z H' x cls dd → E cls dd H'
section
variable {P : Program} {w : World} {K : PySem.W.Frag} {mg : Str → Option Value} {base : Heap} {x qual : Str} {params : Arguments} {body : List Stmt} {scope : Scope} {dvs : List V} {kws : List (Str × V)} {f : Addr} {fd : FuncData} {N ps : List Str} {k : Nat} {Nt : List (Addr × Str)}
theorem fnL_ok {s : Sp0} (F : FunD K x qual params body scope dvs kws f fd) (S : FnScope N ps scope) (hlen : ∀ ds Q Y, s ds Q Y → ds.length = ps.length)
    (hbody : ∀ (A : Around) (outer : List Env) (st : Shared) (H : Hp) (E : XK) (G : Gb) (Y : DX → Prop), G.N = Nt → G.H0 = H → BodyCx k (cxOf (L2.CX P w) P w K mg base N qual scope f (.ref (codeAt K f)) A outer st H E) G (fun x _ => Y x) →
      ∃ m, DBlk (cxOf (L2.CX P w) P w K mg base N qual scope f (.ref (codeAt K f)) A outer st H E) G body m ∧ ∀ ds Q, s ds Q Y → m (endsP Q) (startS N ds)) : FnG P w K mg base (k + 1) f fd ps (spL Nt s) := by
  refine fngL_of F S (fun vs H Q E ⟨_, Z, ds, _, r, h⟩ => r.length.symm.trans (hlen ds _ _ h)) fun A outer st H vs Q E hr hg ⟨ht, Z, ds, hz, r, h⟩ => ?_
  have back : ∀ {F' : Fr} {H' : Hp} {σ : L2.St} {S' : DS}, F'.gb = ⟨Nt, fun _ => False, Z, H⟩ → Rel F' H' σ S' → SameN Nt H H' ∧ Tabs Nt H' := fun {F' H' σ S'} hG R => by
    have e1 : F'.N = Nt := congrArg Gb.N hG
    have e2 : F'.H0 = H := congrArg Gb.H0 hG
    have e3 : F'.IO = fun _ => False := congrArg Gb.IO hG
    have t := R.w.tab
    rw [e1] at t
    refine ⟨⟨fun a o e nt => R.w.base a o (by rw [e2]; exact e) (fun i q => ?_) (by rw [e1]; exact nt), fun a o e => R.w.dom a o (by rw [e2]; exact e)⟩, t⟩
    rcases R.iog i a q with h | h
    · rw [e2, e] at h; cases h
    · rw [e3] at h; exact h
  have W : Takes (cxOf (L2.CX P w) P w K mg base N qual scope f (.ref (codeAt K f)) A outer st H E) (wD ⟨Nt, fun _ => False, Z, H⟩ fun x _ => ∀ cls dd H', SameN Nt H H' → Tabs Nt H' → XAt Z H' x cls dd → E cls dd H') := by
    refine (takes_of (E := E) rfl rfl rfl rfl).imp fun cls d σ H' ⟨F', S', x, hG, R, xa, q⟩ => ?_
    obtain ⟨b1, b2⟩ := back hG R
    exact q cls d H' b1 b2 (xa.grow (fun _ _ e => e) fun a _ z => .inl (by rw [show F'.Z = Z from congrArg Gb.Z hG]; exact z))
  obtain ⟨m, hd, hq⟩ := hbody A outer st H E ⟨Nt, fun _ => False, Z, H⟩ _ rfl rfl ⟨hr, hg, W, passes_of rfl⟩
  refine ⟨_, hd.run, ⟨Nt, fun _ => False, Z, H, fun _ => none, []⟩, startS N ds, rfl, rel_start ht hz r, hd.mono _ _ _ ⟨?_, ?_, ?_, ?_⟩ (hq ds _ h)⟩
  · intro S' q σ' H' R
    obtain ⟨b1, b2⟩ := back rfl R
    exact q .non H' b1 b2 (rep_non (Z := Z) (H := H'))
  · intro ev S' q v σ' H' R _
    obtain ⟨b1, b2⟩ := back rfl R.pop
    cases ev with
    | val d => exact q v H' b1 b2 ((R.w.val (.inr 0) v d rfl).less fun a z => .inl z)
    | own d =>
      obtain ⟨a, rfl, na, o⟩ := R.w.mu (.inr 0) v (.own d) rfl rfl
      exact q _ H' b1 b2 ⟨a, rfl, R.w.own (.inr 0) a d rfl, o.grow (fun _ _ e => e) fun b _ z => z.elim .inl fun e => .inr ⟨.inr 0, .own d, by rw [e]; rfl, rfl⟩⟩
    | bor j => exact q.elim
  · exact fun S' q => q.elim
  · exact fun S' q => q.elim
end
end DL
set_option Elab.async false
set_option linter.all false
set_option maxRecDepth 100000
set_option maxHeartbeats 1000000
namespace K89
open PySem PySem.Spec PyProof.Rows L2 DL
/-! ### what a vow shows -/
def shownD (text : Str) : D := let ws := wordsAt 32 text; .tup [.str text, .str (ws.getD 0 ""), .str (vowKind ws), if vowKind ws = "like" then .str (ws.getD 2 "") else .non]
def r_shown (CV : Addr) : List D → Out → Prop := fun ds o => ∃ text lim col cells, ds = [vowObj CV text lim col cells] ∧ o = .inl (.val (shownD text))
section
variable {P : Program} {w : World} {K : PySem.W.Frag} {mg : Str → Option Value} {base : Heap} {f : Addr} {fd : FuncData} {CV : Addr}
theorem sc__law_shown : FnScope ["vow"] ["vow"] (defScope s__law_shown) := ⟨rfl, rfl, rfl, by decide +kernel, rfl, by decide +kernel, by decide +kernel⟩
theorem ok_law_shown (F : FnP K "_law_shown" s__law_shown f fd) (g_isinstance : mg "isinstance" = none) (g_Vow : mg "Vow" = some (.ref CV)) (oV : OwnC K CV) (nV : ∀ n ∈ vowNs, NoAttr K CV n) : FnG P w K mg base 2 f fd ["vow"] (spP (spQ (r_shown CV))) := by
  refine fnP_ok F sc__law_shown (spQ_len fun ds o ⟨_, _, _, _, e, _⟩ => by rw [e]; rfl) fun cdv A outer st H E G Y B => ?_
  have hr := B.room
  have nd := sc__law_shown.nd
  refine ⟨_, (db_cons (ds_if (dt_not (dt_val (de_isiC oV g_isinstance g_Vow (de_var 0)))) (db_one (ds_ret de_non)) db_nil)
    (db_one (ds_ret (de_tup (da_cons (de_att oV.cl (nV "text" (by decide)) (de_var 0)) (da_cons (de_att oV.cl (nV "name" (by decide)) (de_var 0)) (da_cons (de_att oV.cl (nV "kind" (by decide)) (de_var 0)) (da_cons (de_att oV.cl (nV "other" (by decide)) (de_var 0)) da_nil)))))))), ?_⟩
  rintro ds Q ⟨o, ⟨text, lim, col, cells, rfl, rfl⟩, q⟩
  have hat : ∀ n d, getA n vowNs [.str text, .str ((wordsAt 32 text).getD 0 ""), .str (vowKind (wordsAt 32 text)), if vowKind (wordsAt 32 text) = "like" then .str ((wordsAt 32 text).getD 2 "") else .non, .str ((wordsAt 32 text).getD 1 ""), lim, col, cells] = some d → Ev (dUn (fAtt CV n) (dVar 0)) [some (.val (vowObj CV text lim col cells))] (.val d) := fun n d h => by
    refine ev_un (ev_var rfl) rfl ?_
    show (if CV = CV then (getA n vowNs _).map EV.val else none) = _
    rw [if_pos rfl, h]; rfl
  refine sq_if (b := false) (evt_not (x := true) (evt_b (ev_un (ev_var rfl) rfl (if_pos rfl)))) (fun h => by cases h) (fun _ => ?_)
  exact st_ret (ev_tup (eva_cons (hat _ _ rfl) (eva_cons (hat _ _ rfl) (eva_cons (hat _ _ rfl) (eva_cons (hat _ _ rfl) eva_nil)))) rfl (le1 (by simp))) q
end
/-! ### what a call meets -/
/-- the wish: told, or a wrong text -/
def TMet (CB : Addr) : (XK → Hp → VK → Prop) → Hp → VK → Prop := fun tl H Q =>
  tl (fun cls d H' => cls = .ref CB ∧ ∃ (dd : Addr) (c l : V), d = some dd ∧ H' dd = some (.xd [("column", c), ("line", l)]) ∧ ∀ p, H' p = none → Q (.ref p) (upd H' p (.tup [.str "text", l, c]))) H
    fun v H' => ([V.str "told", v] : List V).length ≤ sizeLine ∧ ∀ p, H' p = none → Q (.ref p) (upd H' p (.tup [.str "told", v]))
structure MetC (X : Cx) (CB : Addr) : Prop where
  cs : ∀ n ∈ (["BadText", "BadName", "NoName", "TakenName", "BadNumber", "BadLand", "NotThere", "BadArrangement", "Unlike", "NotKept", "NothingToUndo", "NothingToRedo"] : List Str), ∃ c : Addr, X.mg n = some (.ref c)
  bt : X.mg "BadText" = some (.ref CB)
  xf : XfC X.K CB
  fl : PySem.W.findIn X.K (.ref CB) "line" = some none
  fc : PySem.W.findIn X.K (.ref CB) "column" = some none
  ex : PySem.W.exmOne X.K (.ref CB) (.ref CB) = some true
section
open LamX
variable {X : Cx} {CB : Addr}
theorem sc__law_met : FnScope ["call", "e"] ["call"] (defScope s__law_met) := ⟨rfl, rfl, rfl, by decide +kernel, rfl, by decide +kernel, by decide +kernel⟩
/-- a suite that is never reached -/
def tDead : Addr → Value → Option Addr → TS := fun _ _ _ _ _ _ => False
theorem hds_dead {X : Cx} {n x : Str} {c : Value} {b₀ : Stmt} {suite : List Stmt} {np pos' : Pos} {hds : List ExceptHandler} {l : List (Value × (Addr → Value → Option Addr → TS))} (hc : Names X x c) (r : HdsAs X n hds l) : HdsAs X n (.ExceptHandler (some (.Name x np)) (some n) (b₀ :: suite) pos' :: hds) ((c, tDead) :: l) :=
  .cons hc (fun _ _ _ _ _ _ _ => ⟨fun _ _ _ _ _ _ h => h.elim⟩) r
theorem met_gives {g : Addr} {cdg : Value} {q : Str} (C : MetC X CB) : GivesTo X ["call", "e"] "_law_met" (defScope s__law_met) g cdg (defBody s__law_met) "call" q (TMet CB) := by
  intro f c' s H Q tl act hc h
  obtain ⟨c2, m2⟩ := C.cs "BadName" (by decide)
  obtain ⟨c3, m3⟩ := C.cs "NoName" (by decide)
  obtain ⟨c4, m4⟩ := C.cs "TakenName" (by decide)
  obtain ⟨c5, m5⟩ := C.cs "BadNumber" (by decide)
  obtain ⟨c6, m6⟩ := C.cs "BadLand" (by decide)
  obtain ⟨c7, m7⟩ := C.cs "NotThere" (by decide)
  obtain ⟨c8, m8⟩ := C.cs "BadArrangement" (by decide)
  obtain ⟨c9, m9⟩ := C.cs "Unlike" (by decide)
  obtain ⟨c10, m10⟩ := C.cs "NotKept" (by decide)
  obtain ⟨c11, m11⟩ := C.cs "NothingToUndo" (by decide)
  obtain ⟨c12, m12⟩ := C.cs "NothingToRedo" (by decide)
  refine ⟨_, pss_one (ps_try_manyAs (X := (cxOf C8.CX0 X.prog X.w X.K X.mg X.base ["call", "e"] "_law_met" (defScope s__law_met) g cdg X.A X.stack s H C8.E0).nox) (i := 1) (n := "e")
    (tb := fun W D σ H => ∃ Ech : XK, (∀ cls d σ' H', Ech cls d H' → W cls d σ' H') ∧ σ[0]? = some (some (.ref f)) ∧ H c' = some (CodeO c' q) ∧ tl Ech H fun v H' => ([V.str "told", v] : List V).length ≤ sizeLine ∧ ∀ p, H' p = none → D.rt (.ref p) (upd H' p (.tup [.str "told", v])))
    rfl rfl sc__law_met.nd rfl rfl L2.takes0 (fun W pn xe tk _ => ⟨fun pins s' σ H' D I h' => ?_⟩)
    (.cons (c := .ref CB) ⟨rfl, by decide, .inl C.bt⟩ (fun a oe cls d pn hz hf => pss_one (ps_ret (pe_tup (pa_cons pe_str (pa_cons (pe_xf C.xf C.fl hz hf (pe_var (i := 1) rfl (.inl rfl))) (pa_cons (pe_xf C.xf C.fc hz hf (pe_var (i := 1) rfl (.inl rfl))) pa_nil))))))
    (hds_dead (c := .ref c2) ⟨rfl, by decide, .inl m2⟩ (hds_dead (c := .ref c3) ⟨rfl, by decide, .inl m3⟩ (hds_dead (c := .ref c4) ⟨rfl, by decide, .inl m4⟩ (hds_dead (c := .ref c5) ⟨rfl, by decide, .inl m5⟩ (hds_dead (c := .ref c6) ⟨rfl, by decide, .inl m6⟩ (hds_dead (c := .ref c7) ⟨rfl, by decide, .inl m7⟩
    (hds_dead (c := .ref c8) ⟨rfl, by decide, .inl m8⟩ (hds_dead (c := .ref c9) ⟨rfl, by decide, .inl m9⟩ (hds_dead (c := .ref c10) ⟨rfl, by decide, .inl m10⟩ (hds_dead (c := .ref c11) ⟨rfl, by decide, .inl m11⟩ (hds_dead (c := .ref c12) ⟨rfl, by decide, .inl m12⟩ .nil))))))))))))), ?_⟩
  · obtain ⟨Ech, hW, h1, h2, h3⟩ := h'
    have hp := act W pn xe Ech ⟨168, 24, 168, 28⟩ ⟨168, 24, 168, 30⟩ tk hW
    have hq := pss_one (ps_ret (pos := ⟨168, 8, 168, 31⟩) (pe_tup (x1 := 0) (pos := ⟨168, 15, 168, 31⟩) (pa_cons (pe_str (x := "told") (j := 0) (pos := ⟨168, 16, 168, 22⟩)) (pa_cons hp pa_nil))))
    exact hq.run pins s' σ H' D I ⟨h1, h2, h3⟩
  · refine ⟨_, fun cls d σ' H' hE => ⟨true, ?_, fun _ a na hi => ?_, nofun⟩, start_get (vs := [V.ref f]) (i := 0) rfl, hc, h⟩
    · obtain ⟨rfl, _⟩ := hE
      exact C.ex
    · obtain ⟨rfl, dd, c, l, rfl, hd, hq⟩ := hE
      have e1 : (σ'.set 1 (some (V.ref a)))[1]? = some (some (V.ref a)) := by simp [hi]
      exact ⟨_, e1, rfl, rfl, dd, _, l, rfl, hd, rfl, _, e1, rfl, rfl, dd, _, c, rfl, hd, rfl, by rw [sizeLine_eq]; simp, hq⟩
end
end K89
namespace K89
open PySem PySem.Spec PyProof.Rows L2 DL LamX
section
variable {X : Cx} {CB : Addr} {G : Gb}
theorem sizeP : ([V.str "told", V.non] : List V).length ≤ sizeLine := by rw [sizeLine_eq]; simp
def dMet (CB : Addr) (me : DXm → DM) : DM := fun S Q => me (fun x _ => x.C = CB ∧ ∃ c l, x.ns = (["column", "line"] : List Str) ∧ x.us = [c, l] ∧ Q (.val (.tup [.str "text", l, c])) S) (valsOf S) fun ev S1 => ∃ d S2, asVal S1 ev = some (d, S2) ∧ Q (.val (.tup [.str "told", d])) S
theorem mono_met {me : DXm → DM} (m : MonoX me) : Mono (dMet CB me) := fun S P P' k q => m _ _ _ _ _ (fun x _ ⟨e, c, l, e1, e2, z⟩ => ⟨e, c, l, e1, e2, k _ _ z⟩) (fun ev S1 ⟨d, S2, e, z⟩ => ⟨d, S2, e, k _ _ z⟩) q
theorem met_conv {me : DXm → DM} (m : MonoX me) : ∀ (F : Fr) (S : DS) (H1 : Hp) (σ : L2.St) (Q : VK), F.gb = G → Rel F H1 σ S → dMet CB me S (PostE F σ Q) → TMet CB (fun E H' Q' => ∃ G' : Gb, G'.N = G.N ∧ tD G' (me (XdE G' E)) σ H' Q') H1 Q := by
  intro F S H1 σ Q hG R q
  refine ⟨(lamF F σ S H1).gb, (show F.N = G.N from congrArg Gb.N hG), lamF F σ S H1, valsOf S, rfl, rel_lam R, m _ _ _ _ _ (fun x S2 z => ?_) (fun ev S1 z => ?_) q⟩
  · obtain ⟨eC, c, l, e1, e2, z⟩ := z
    intro F' σ' H' cls d hG' R' xa
    obtain ⟨k, t, zz⟩ := lam_back R' hG'
    obtain ⟨ec, xa⟩ := xa
    rw [eC] at ec
    rw [e1, e2] at xa
    rcases xa with ⟨h, _⟩ | ⟨a, vs, ed, ea, hl, r⟩
    · cases h
    · simp only [Reps] at r
      obtain ⟨v1, r1, rfl, q1, v2, r2, rfl, q2, rfl⟩ := r
      refine ⟨ec, a, v1, v2, ed, ea, fun p np => ?_⟩
      have R2 := R.growN k t
      have rr : Reps (Zs F σ S) H' [.str "text", l, c] [.str "text", v2, v1] := .cons (by simp only [Rep]) (.cons (q2.less zz) (.cons (q1.less zz) .nil))
      exact z _ _ (tup_back R2 np rr) trivial
  · obtain ⟨d, S2, e, z⟩ := z
    intro v H' R' a'
    obtain ⟨k, t, zz⟩ := lam_back R'.pop rfl
    have R3 := R'.asVal a' e
    have rv : Rep (Zs (lamF F σ S H1) σ S2) H' d v := (R3.w.val (.inr (lamF F σ S H1).T.length) v d (by show (_ ++ [_])[_]? = _; simp)).less fun _ z => zs_push z
    have rv : Rep (Zs F σ S) H' d v := rv.less fun _ z => .inl z
    refine ⟨by rw [sizeLine_eq]; simp, fun p np => z _ _ (tup_back (R.growN k t) np (.cons (by simp only [Rep]) (.cons rv .nil))) trivial⟩
/-- the facts of _law_met and of the def that makes the lambda -/
theorem met_to {g : Addr} {fd : FuncData} {k : Nat} {c P : Addr} {T : List (Addr × Str)} (F : FnP X.K "_law_met" s__law_met g fd) (C : MetC X CB) (hm : X.mg "_law_met" = some (.ref g)) (hk : PySem.W.keepIn X.K (.ref g) = true) (hb : L2.Binds X.K fd ["call"] [])
    (TB : TabB X.base X.mg c P) (hc : X.env.code = .ref c) (hT : (P, X.env.qual ++ "<lambda>") ∈ T) (hu : ∀ p ∈ T, p.1 = P → p.2 = X.env.qual ++ "<lambda>") : LamTo X "_law_met" "call" ["call", "e"] (defScope s__law_met) g (defBody s__law_met) T (TMet CB) k := by
  obtain ⟨oc, od, dV, kV, doc, pm, an, cdv, ct, osl, rfl, lk, hcd, _, _⟩ := F.ex
  exact ⟨_, _, _, _, _, _, _, _, _, _, _, c, P, hm, hk, lk, hcd, hb, met_gives C, TB, hc, hT, hu⟩
end
end K89
set_option Elab.async false
set_option linter.all false
set_option maxRecDepth 100000
set_option maxHeartbeats 1000000
namespace K89
open PySem PySem.Spec PyProof.Rows L2 DL
/-! ### the plain law: Vow's reader finds what is due -/
def sizes : Nat → List Nat
  | 0 => [0]
  | 1 => [2, 3, 4]
  | _ => [4, 6, 8]
def fam (pre : List Str) (m j : Nat) : List (List Str) := ((sizes m).filter fun s => decide (j ≤ s)).map fun s => pre ++ zs s
def lits : List Str := ["within", "beyond", "allowed", "like", "now", "then", "strong", "free", "hangs", "holds"]
theorem fit_lit {w x : Str} (h : x ∈ lits) : lawFit w x = decide (w = x) := by
  have : ∀ x ∈ lits, x ≠ "name" ∧ x ≠ "n" ∧ x ≠ "z" ∧ x ≠ "v" := by decide +kernel
  obtain ⟨h1, h2, h3, h4⟩ := this x h
  unfold lawFit
  rw [if_neg h1, if_neg h2, if_neg h3, if_neg h4]
theorem fit_z {w : Str} : lawFit w "z" = isZ w := by
  unfold lawFit
  rw [if_neg (by decide), if_neg (by decide), if_pos rfl]
theorem fit_g {w g : Str} (h : g ∈ (["name", "n", "v"] : List Str)) : lawFit w g = fitB w g := by
  simp only [List.mem_cons, List.not_mem_nil, or_false] at h
  unfold lawFit fitB
  rcases h with rfl | rfl | rfl
  · rw [if_pos rfl, if_pos rfl]
  · rw [if_neg (by decide), if_pos rfl, if_neg (by decide), if_pos rfl]
  · rw [if_neg (by decide), if_neg (by decide), if_neg (by decide), if_pos rfl, if_neg (by decide), if_neg (by decide)]
theorem zs_get {s j : Nat} (h : j < s) : (zs s).getD j "" = "z" := by
  unfold zs
  rw [List.getD_eq_getElem?_getD, List.getElem?_replicate, if_pos h]; rfl
theorem keep_z {w : Str} {pre : List Str} {s j : Nat} : keepF w (pre.length + j) (pre ++ zs s) = (decide (j < s) && isZ w) := by
  unfold keepF
  have hl : (pre ++ zs s).length = pre.length + s := by simp [zs]
  rw [hl]
  by_cases h : j < s
  · rw [decide_eq_true h, decide_eq_true (by omega), List.getD_eq_getElem?_getD, List.getElem?_append_right (by omega), show pre.length + j - pre.length = j by omega, ← List.getD_eq_getElem?_getD, zs_get h, fit_z]
  · rw [decide_eq_false h, decide_eq_false (by omega)]; rfl
theorem fam_next {w : Str} {pre : List Str} {m j : Nat} : (fam pre m j).filter (keepF w (pre.length + j)) = if isZ w = true then fam pre m (j + 1) else [] := by
  unfold fam
  rw [List.filter_map, List.filter_filter]
  by_cases hz : isZ w = true
  · rw [if_pos hz]
    congr 1
    refine List.filter_congr fun s _ => ?_
    show (keepF w (pre.length + j) (pre ++ zs s) && decide (j ≤ s)) = decide (j + 1 ≤ s)
    rw [keep_z, hz]
    by_cases h : j < s
    · rw [decide_eq_true h, decide_eq_true (show j ≤ s by omega), decide_eq_true (show j + 1 ≤ s by omega)]; rfl
    · rw [decide_eq_false h, decide_eq_false (show ¬ j + 1 ≤ s by omega)]; rfl
  · rw [if_neg hz]
    have : ((sizes m).filter fun s => (keepF w (pre.length + j) ∘ fun s => pre ++ zs s) s && decide (j ≤ s)) = [] := by
      refine List.filter_eq_nil_iff.mpr fun s _ => ?_
      show ¬ (keepF w (pre.length + j) (pre ++ zs s) && decide (j ≤ s)) = true
      rw [keep_z, Bool.not_eq_true _ |>.mp hz]; simp
    rw [this]; rfl
theorem fam_nil {pre : List Str} {m j : Nat} (hm : m ≤ 2) : fam pre m j = [] ↔ 4 * m < j := by
  unfold fam
  rw [List.map_eq_nil_iff, List.filter_eq_nil_iff]
  match m, hm with
  | 0, _ => simp [sizes]
  | 1, _ => simp [sizes]; omega
  | 2, _ => simp [sizes]; omega
theorem fam_end {pre : List Str} {m j : Nat} (hm : m ≤ 2) (hj : j ≤ 4 * m) : (fam pre m j).filter (fun f => decide (f.length = pre.length + j)) = if m = 0 ∨ (j / m * m = j ∧ 2 ≤ j / m) then [pre ++ zs j] else [] := by
  unfold fam
  rw [List.filter_map, List.filter_filter]
  have e : ((sizes m).filter fun s => ((fun f : List Str => decide (f.length = pre.length + j)) ∘ fun s => pre ++ zs s) s && decide (j ≤ s)) = (sizes m).filter fun s => decide (s = j) := by
    refine List.filter_congr fun s _ => ?_
    show (decide ((pre ++ zs s).length = pre.length + j) && decide (j ≤ s)) = decide (s = j)
    rw [show (pre ++ zs s).length = pre.length + s by simp [zs]]
    by_cases h : s = j
    · subst h; simp
    · rw [decide_eq_false (show ¬ pre.length + s = pre.length + j by omega), decide_eq_false h]; rfl
  rw [e]
  match m, hm with
  | 0, _ =>
    have : j = 0 := by omega
    subst this
    rw [if_pos (.inl rfl)]; rfl
  | 1, _ =>
    have : j = 0 ∨ j = 1 ∨ j = 2 ∨ j = 3 ∨ j = 4 := by omega
    rcases this with rfl | rfl | rfl | rfl | rfl <;> rfl
  | 2, _ =>
    have : j = 0 ∨ j = 1 ∨ j = 2 ∨ j = 3 ∨ j = 4 ∨ j = 5 ∨ j = 6 ∨ j = 7 ∨ j = 8 := by omega
    rcases this with rfl | rfl | rfl | rfl | rfl | rfl | rfl | rfl | rfl <;> rfl
/-- what is due from the cells on -/
theorem due_cells {text : Str} {ws pre : List Str} {m : Nat} (hm : m ≤ 2) : ∀ (n j : Nat), j ≤ 4 * m → aliveAt ws (pre.length + j) = fam pre m j → pre.length + j + n = ws.length →
    dueFrom text ws (pre.length + j) n = match badFrom m j (ws.drop (pre.length + j)) with
      | some k => errD (pre.length + k + 1)
      | none => if m = 0 ∨ ((ws.length - pre.length) / m * m = ws.length - pre.length ∧ 2 ≤ (ws.length - pre.length) / m) then toldD text ws (pre ++ zs (ws.length - pre.length)) else errD (ws.length + 1)
  | 0, j, hj, ha, hl => by
    rw [List.drop_eq_nil_of_le (by omega)]
    show endOf text ws = _
    unfold endOf
    have hl' : ws.length = pre.length + j := by omega
    rw [hl', ha, fam_end hm hj, show pre.length + j - pre.length = j by omega]
    show _ = if _ then _ else _
    split
    · rename_i h
      split at h
      · cases h
      · rename_i hh; rw [if_neg hh]
    · rename_i f r h
      split at h
      · rename_i hh
        cases h
        rw [if_pos hh]
      · cases h
  | n + 1, j, hj, ha, hl => by
    have hlt : pre.length + j < ws.length := by omega
    have ed : ws.drop (pre.length + j) = ws.getD (pre.length + j) "" :: ws.drop (pre.length + j + 1) := by
      rw [List.drop_eq_getElem_cons hlt]
      congr 1
      rw [List.getD_eq_getElem?_getD, List.getElem?_eq_getElem hlt]; rfl
    have e1 : aliveAt ws (pre.length + j + 1) = if isZ (ws.getD (pre.length + j) "") = true then fam pre m (j + 1) else [] := by
      show (aliveAt ws (pre.length + j)).filter (keepF (ws.getD (pre.length + j) "") (pre.length + j)) = _
      rw [ha, fam_next]
    rw [ed]
    show (if aliveAt ws (pre.length + j + 1) = [] then errD (pre.length + j + 1) else dueFrom text ws (pre.length + j + 1) n) = match (if 4 * m ≤ j ∨ isZ (ws.getD (pre.length + j) "") = false then some j else badFrom m (j + 1) (ws.drop (pre.length + j + 1))) with
      | some k => errD (pre.length + k + 1)
      | none => _
    by_cases hz : isZ (ws.getD (pre.length + j) "") = true
    · rw [e1, if_pos hz]
      by_cases h4 : 4 * m ≤ j
      · rw [if_pos ((fam_nil hm).mpr (by omega)), if_pos (.inl h4)]
      · rw [if_neg (fun z => by have := (fam_nil hm).mp z; omega), if_neg (by rw [hz]; simp; omega)]
        have := due_cells (text := text) hm n (j + 1) (by omega) (by rw [show pre.length + (j + 1) = pre.length + j + 1 by omega, e1, if_pos hz]) (by omega)
        exact this
    · rw [e1, if_neg hz, if_pos rfl, if_pos (.inr (by simpa using hz))]
end K89
set_option Elab.async false
set_option linter.all false
set_option maxRecDepth 100000
set_option maxHeartbeats 1000000
namespace K89
open PySem PySem.Spec PyProof.Rows L2 DL
theorem due_cells0 {text : Str} {ws pre : List Str} {m : Nat} (hm : m ≤ 2) (ha : aliveAt ws pre.length = fam pre m 0) (hl : pre.length ≤ ws.length) :
    dueFrom text ws pre.length (ws.length - pre.length) = match cellsErr ws pre.length m with
      | some c => errD c
      | none => toldD text ws (pre ++ zs (ws.length - pre.length)) := by
  have := due_cells (text := text) hm (ws.length - pre.length) 0 (by omega) ha (by omega)
  rw [Nat.add_zero] at this
  rw [this]
  unfold cellsErr
  rw [List.length_drop]
  cases badFrom m 0 (ws.drop pre.length) with
  | some k => rfl
  | none =>
    show (if _ then _ else _) = match (if m = 0 then none else if _ then _ else _) with
      | some c => errD c
      | none => _
    by_cases h0 : m = 0
    · rw [if_pos (.inl h0), if_pos h0]
    · rw [if_neg h0]
      by_cases h : (ws.length - pre.length) / m * m = ws.length - pre.length ∧ 2 ≤ (ws.length - pre.length) / m
      · rw [if_pos (.inr h), if_neg (by omega)]
      · rw [if_neg (by intro z; exact z.elim h0 h), if_pos (by omega)]
theorem due_kind {text : Str} {ws pre fs : List Str} {m : Nat} (hfs : fs = [] ∨ ∃ g ∈ (["name", "n", "v"] : List Str), fs = [g]) (hm : m ≤ 2) (ha : aliveAt ws pre.length = fam (pre ++ fs) m 0) (hl : pre.length ≤ ws.length) :
    dueFrom text ws pre.length (ws.length - pre.length) = match badForm ws pre.length 0 fs with
      | some c => errD c
      | none => match cellsErr ws (pre.length + fs.length) m with
        | some c => errD c
        | none => toldD text ws (pre ++ fs ++ zs (ws.length - (pre.length + fs.length))) := by
  rcases hfs with rfl | ⟨g, hg, rfl⟩
  · rw [List.append_nil] at ha
    have := due_cells0 (text := text) hm ha hl
    rw [this, List.append_nil]; rfl
  · have hlen : (pre ++ [g]).length = pre.length + 1 := by simp
    show _ = match (if ws.length ≤ pre.length + 0 ∨ fitB (ws.getD (pre.length + 0) "") g = false then some (pre.length + 0 + 1) else none) with
      | some c => errD c
      | none => _
    simp only [Nat.add_zero]
    by_cases hlt : ws.length ≤ pre.length
    · rw [if_pos (.inl hlt), show ws.length - pre.length = 0 by omega]
      show endOf text ws = _
      unfold endOf
      have e : ws.length = pre.length := by omega
      rw [e, ha]
      have : (fam (pre ++ [g]) m 0).filter (fun f => decide (f.length = pre.length)) = [] := by
        refine List.filter_eq_nil_iff.mpr fun f hf => ?_
        obtain ⟨s, _, rfl⟩ := List.mem_map.mp hf
        simp
      rw [this]
    · obtain ⟨k, hk⟩ : ∃ k, ws.length - pre.length = k + 1 := ⟨ws.length - pre.length - 1, by omega⟩
      have e1 : aliveAt ws (pre.length + 1) = if lawFit (ws.getD pre.length "") g = true then fam (pre ++ [g]) m 0 else [] := by
        show (aliveAt ws pre.length).filter (keepF (ws.getD pre.length "") pre.length) = _
        rw [ha]
        have key : ∀ f ∈ fam (pre ++ [g]) m 0, keepF (ws.getD pre.length "") pre.length f = lawFit (ws.getD pre.length "") g := fun f hf => by
          obtain ⟨s, _, rfl⟩ := List.mem_map.mp hf
          unfold keepF
          have eg : (pre ++ [g] ++ zs s).getD pre.length "" = g := by
            rw [List.append_assoc, List.getD_eq_getElem?_getD, List.getElem?_append_right (Nat.le_refl _), Nat.sub_self]; rfl
          rw [eg, decide_eq_true (by simp)]; rfl
        rw [List.filter_congr key]
        cases lawFit (ws.getD pre.length "") g <;> simp
      rw [hk]
      show (if aliveAt ws (pre.length + 1) = [] then errD (pre.length + 1) else dueFrom text ws (pre.length + 1) k) = _
      rw [e1, fit_g hg]
      by_cases hf : fitB (ws.getD pre.length "") g = true
      · rw [if_pos hf, if_neg (fun z => by have := (fam_nil hm).mp z; omega), if_neg (by rw [hf]; simp; omega)]
        have := due_cells0 (text := text) (ws := ws) (pre := pre ++ [g]) hm (by rw [hlen, e1, fit_g hg, if_pos hf]) (by rw [hlen]; omega)
        rw [hlen, show ws.length - (pre.length + 1) = k by omega] at this
        rw [this]
        show _ = match cellsErr ws (pre.length + 1) m with
          | some c => errD c
          | none => toldD text ws (pre ++ [g] ++ zs (ws.length - (pre.length + 1)))
        rw [show ws.length - (pre.length + 1) = k by omega]
      · rw [if_neg hf, if_pos rfl, if_pos (.inr (by simpa using hf))]
theorem second : ∀ f ∈ forms, 1 < f.length ∧ f.getD 1 "" ∈ (["within", "beyond", "allowed", "like", "now", "then"] : List Str) ∧ f.getD 0 "" = "name" := by decide +kernel
theorem third (when : Str) (h : when = "now" ∨ when = "then") : ∀ f ∈ timed when, 2 < f.length ∧ f.getD 2 "" ∈ (["strong", "free", "hangs", "holds"] : List Str) := by
  rcases h with rfl | rfl <;> decide +kernel
theorem alive1 {ws : List Str} : aliveAt ws 1 = if isNm (ws.getD 0 "") = true then forms else [] := by
  show forms.filter (keepF (ws.getD 0 "") 0) = _
  have : ∀ f ∈ forms, keepF (ws.getD 0 "") 0 f = isNm (ws.getD 0 "") := fun f hf => by
    obtain ⟨h1, _, h2⟩ := second f hf
    unfold keepF
    rw [h2, decide_eq_true (by omega)]
    show (true && lawFit _ "name") = _
    unfold lawFit
    rw [if_pos rfl]; rfl
  rw [List.filter_congr this]
  cases isNm (ws.getD 0 "") <;> simp
theorem alive2 {ws : List Str} (h : isNm (ws.getD 0 "") = true) : aliveAt ws 2 = forms.filter fun f => decide (ws.getD 1 "" = f.getD 1 "") := by
  show (aliveAt ws 1).filter (keepF (ws.getD 1 "") 1) = _
  rw [alive1, if_pos h]
  refine List.filter_congr fun f hf => ?_
  obtain ⟨h1, h2, _⟩ := second f hf
  unfold keepF
  have sub : ∀ x ∈ (["within", "beyond", "allowed", "like", "now", "then"] : List Str), x ∈ lits := by decide +kernel
  rw [decide_eq_true h1, fit_lit (sub _ h2)]; rfl
theorem alive3 {ws : List Str} {when : Str} (h : when = "now" ∨ when = "then") (h2 : aliveAt ws 2 = timed when) : aliveAt ws 3 = (timed when).filter fun f => decide (ws.getD 2 "" = f.getD 2 "") := by
  show (aliveAt ws 2).filter (keepF (ws.getD 2 "") 2) = _
  rw [h2]
  refine List.filter_congr fun f hf => ?_
  obtain ⟨h1, h2⟩ := third when h f hf
  unfold keepF
  have sub : ∀ x ∈ (["strong", "free", "hangs", "holds"] : List Str), x ∈ lits := by decide +kernel
  rw [decide_eq_true h1, fit_lit (sub _ h2)]; rfl
/-- a form's own words: what is told -/
theorem told_of {text : Str} {ws f : List Str} (h : kindOf f = vowKind ws) : toldD text ws f = .tup [.str "told", .tup [.str text, .str (ws.getD 0 ""), .str (vowKind ws), if vowKind ws = "like" then .str (ws.getD 2 "") else .non]] := by
  unfold toldD
  rw [h]
theorem due_step {text : Str} {ws : List Str} {k n : Nat} (h : aliveAt ws (k + 1) ≠ []) : dueFrom text ws k (n + 1) = dueFrom text ws (k + 1) n := if_neg h
theorem due_stop {text : Str} {ws : List Str} {k n : Nat} (h : aliveAt ws (k + 1) = []) : dueFrom text ws k (n + 1) = errD (k + 1) := if_pos h
theorem due_short {text : Str} {ws : List Str} {k : Nat} (hk : k = ws.length) (h : ∀ f ∈ aliveAt ws k, f.length ≠ k) : dueFrom text ws k 0 = errD (ws.length + 1) := by
  show endOf text ws = _
  unfold endOf
  have : (aliveAt ws ws.length).filter (fun f => decide (f.length = ws.length)) = [] := List.filter_eq_nil_iff.mpr fun f hf => by
    rw [← hk] at hf
    have := h f hf
    rw [← hk]; simpa using this
  rw [this]
theorem due_eq (text : Str) (ws : List Str) (hne : ws ≠ []) : dueFrom text ws 0 ws.length = match vowErr ws with
    | some c => errD c
    | none => .tup [.str "told", .tup [.str text, .str (ws.getD 0 ""), .str (vowKind ws), if vowKind ws = "like" then .str (ws.getD 2 "") else .non]] := by
  have hpos : 0 < ws.length := List.length_pos_iff.mpr hne
  obtain ⟨n, hn⟩ : ∃ n, ws.length = n + 1 := ⟨ws.length - 1, by omega⟩
  by_cases hnm : isNm (ws.getD 0 "") = true
  rotate_left
  · have hk : kindAt ws = .inr 1 := if_pos (by simpa using hnm)
    have hv : vowErr ws = some 1 := by unfold vowErr; rw [hk]; rfl
    rw [hv, hn]
    exact due_stop (by rw [alive1, if_neg hnm])
  have a1 : aliveAt ws 1 ≠ [] := by rw [alive1, if_pos hnm]; decide +kernel
  rw [show dueFrom text ws 0 ws.length = dueFrom text ws 1 (ws.length - 1) by rw [hn]; exact due_step a1]
  by_cases h1 : ws.length = 1
  · have hk : kindAt ws = .inr 2 := by
      unfold kindAt
      rw [if_neg (by rw [hnm]; decide), if_pos (.inl h1)]
    have hv : vowErr ws = some 2 := by unfold vowErr; rw [hk]; rfl
    rw [hv, h1]
    rw [due_short h1.symm (fun f hf => by
      rw [alive1, if_pos hnm] at hf
      have := (second f hf).1
      omega), h1]
  obtain ⟨n, hn⟩ : ∃ n, ws.length = n + 2 := ⟨ws.length - 2, by omega⟩
  -- a kind behind two words
  have plain : ∀ (k g : Str) (fs : List Str), ws.getD 1 "" = k → k ∈ plainK → specOf k = (fs, 0) → (fs = [] ∨ ∃ g ∈ (["name", "n", "v"] : List Str), fs = [g]) → (forms.filter fun f => decide (k = f.getD 1 "")) = fam (([("name" : Str), k]) ++ fs) 0 0 → (∀ t, kindOf (([("name" : Str), k]) ++ fs ++ t) = k) →
      dueFrom text ws 1 (ws.length - 1) = match vowErr ws with
        | some c => errD c
        | none => .tup [.str "told", .tup [.str text, .str (ws.getD 0 ""), .str (vowKind ws), if vowKind ws = "like" then .str (ws.getD 2 "") else .non]] := by
    intro k g fs e1 hp hs hfs hal hkind
    have a2 : aliveAt ws 2 = fam (([("name" : Str), k]) ++ fs) 0 0 := by rw [alive2 hnm, e1, hal]
    have hk : kindAt ws = .inl 2 := by
      unfold kindAt
      rw [if_neg (by rw [hnm]; decide), if_neg (by rw [e1]; intro z; exact z.elim h1 fun z => z.1 hp), if_pos (by rw [e1]; exact hp)]
    have hvk : vowKind ws = k := by unfold vowKind; rw [hk]; exact e1
    have hv : vowErr ws = match badForm ws 2 0 fs with
        | some c => some c
        | none => cellsErr ws (2 + fs.length) 0 := by
      unfold vowErr
      rw [hk]
      show (match badForm ws 2 0 (specOf (ws.getD 1 "")).1 with
        | some c => some c
        | none => cellsErr ws (2 + (specOf (ws.getD 1 "")).1.length) (specOf (ws.getD 1 "")).2) = _
      rw [e1, hs]
    rw [show dueFrom text ws 1 (ws.length - 1) = dueFrom text ws 2 (ws.length - 2) by
      rw [hn]
      exact due_step (by rw [a2]; intro z; have := (fam_nil (by omega)).mp z; omega)]
    have := due_kind (text := text) (ws := ws) (pre := [("name" : Str), k]) hfs (m := 0) (by omega) a2 (by show 2 ≤ ws.length; omega)
    have this : dueFrom text ws 2 (ws.length - 2) = match badForm ws 2 0 fs with
      | some c => errD c
      | none => match cellsErr ws (2 + fs.length) 0 with
        | some c => errD c
        | none => toldD text ws (([("name" : Str), k]) ++ fs ++ zs (ws.length - (2 + fs.length))) := this
    rw [this, hv]
    cases badForm ws 2 0 fs with
    | some c => rfl
    | none =>
      show (match cellsErr ws (2 + fs.length) 0 with
        | some c => errD c
        | none => _) = match cellsErr ws (2 + fs.length) 0 with
        | some c => errD c
        | none => _
      cases cellsErr ws (2 + fs.length) 0 with
      | some c => rfl
      | none => exact told_of (by rw [hvk]; exact hkind _)
  by_cases w1 : ws.getD 1 "" = "within"
  · exact plain "within" "n" ["n"] w1 (by decide +kernel) (by decide +kernel) (.inr ⟨"n", by decide, rfl⟩) (by decide +kernel) (fun t => by rfl)
  by_cases w2 : ws.getD 1 "" = "beyond"
  · exact plain "beyond" "n" ["n"] w2 (by decide +kernel) (by decide +kernel) (.inr ⟨"n", by decide, rfl⟩) (by decide +kernel) (fun t => by rfl)
  by_cases w3 : ws.getD 1 "" = "allowed"
  · exact plain "allowed" "n" [] w3 (by decide +kernel) (by decide +kernel) (.inl rfl) (by decide +kernel) (fun t => by rfl)
  by_cases w4 : ws.getD 1 "" = "like"
  · exact plain "like" "n" ["name"] w4 (by decide +kernel) (by decide +kernel) (.inr ⟨"name", by decide, rfl⟩) (by decide +kernel) (fun t => by rfl)
  have np : ws.getD 1 "" ∉ plainK := by
    unfold plainK
    simp only [List.mem_cons, List.not_mem_nil, or_false]
    rintro (h | h | h | h) <;> contradiction
  by_cases hw : ws.getD 1 "" = "now" ∨ ws.getD 1 "" = "then"
  rotate_left
  · have hk : kindAt ws = .inr 2 := by
      unfold kindAt
      rw [if_neg (by rw [hnm]; decide), if_pos (.inr ⟨np, fun z => hw (.inl z), fun z => hw (.inr z)⟩)]
    have hv : vowErr ws = some 2 := by unfold vowErr; rw [hk]; rfl
    rw [hv, hn]
    refine due_stop ?_
    rw [alive2 hnm]
    refine List.filter_eq_nil_iff.mpr fun f hf => ?_
    obtain ⟨_, h2, _⟩ := second f hf
    simp only [decide_eq_true_eq]
    intro z
    rw [← z] at h2
    simp only [List.mem_cons, List.not_mem_nil, or_false] at h2
    rcases h2 with h | h | h | h | h | h
    · exact w1 h
    · exact w2 h
    · exact w3 h
    · exact w4 h
    · exact hw (.inl h)
    · exact hw (.inr h)
  generalize hwh : ws.getD 1 "" = when at *
  have a2 : aliveAt ws 2 = timed when := by
    rw [alive2 hnm, hwh]
    rcases hw with rfl | rfl <;> decide +kernel
  have a2n : aliveAt ws 2 ≠ [] := by
    rw [a2]; unfold timed; simp
  rw [show dueFrom text ws 1 (ws.length - 1) = dueFrom text ws 2 (ws.length - 2) by rw [hn]; exact due_step a2n]
  by_cases h2 : ws.length = 2
  · have hk : kindAt ws = .inr 3 := by
      unfold kindAt
      rw [if_neg (by rw [hnm]; decide), if_neg (by rw [hwh]; intro z; rcases z with z | ⟨_, z1, z2⟩; exact h1 z; exact hw.elim z1 z2), if_neg (by rw [hwh]; exact np), if_pos (.inl h2)]
    have hv : vowErr ws = some 3 := by unfold vowErr; rw [hk]; rfl
    rw [hv, h2]
    rw [due_short h2.symm (fun f hf => by
      rw [a2] at hf
      have := (third when hw f hf).1
      omega), h2]
  obtain ⟨n, hn⟩ : ∃ n, ws.length = n + 3 := ⟨ws.length - 3, by omega⟩
  have a3 := alive3 hw a2
  have timedK_ : ∀ (k : Str) (fs : List Str) (m : Nat), ws.getD 2 "" = k → k ∈ timedK → specOf k = (fs, m) → m ≤ 2 → (fs = [] ∨ ∃ g ∈ (["name", "n", "v"] : List Str), fs = [g]) → ((timed when).filter fun f => decide (k = f.getD 2 "")) = fam (([("name" : Str), when, k]) ++ fs) m 0 →
      dueFrom text ws 2 (ws.length - 2) = match vowErr ws with
        | some c => errD c
        | none => .tup [.str "told", .tup [.str text, .str (ws.getD 0 ""), .str (vowKind ws), if vowKind ws = "like" then .str (ws.getD 2 "") else .non]] := by
    intro k fs m e1 hp hs hm hfs hal
    have a3' : aliveAt ws 3 = fam (([("name" : Str), when, k]) ++ fs) m 0 := by rw [a3, e1, hal]
    have hk : kindAt ws = .inl 3 := by
      unfold kindAt
      rw [if_neg (by rw [hnm]; decide), if_neg (by rw [hwh]; intro z; rcases z with z | ⟨_, z1, z2⟩; exact h1 z; exact hw.elim z1 z2), if_neg (by rw [hwh]; exact np), if_neg (by rw [e1]; intro z; exact z.elim h2 fun z => z hp)]
    have hvk : vowKind ws = k := by unfold vowKind; rw [hk]; exact e1
    have hv : vowErr ws = match badForm ws 3 0 fs with
        | some c => some c
        | none => cellsErr ws (3 + fs.length) m := by
      unfold vowErr
      rw [hk]
      show (match badForm ws 3 0 (specOf (ws.getD 2 "")).1 with
        | some c => some c
        | none => cellsErr ws (3 + (specOf (ws.getD 2 "")).1.length) (specOf (ws.getD 2 "")).2) = _
      rw [e1, hs]
    rw [show dueFrom text ws 2 (ws.length - 2) = dueFrom text ws 3 (ws.length - 3) by
      rw [hn]
      exact due_step (by rw [a3']; intro z; have := (fam_nil hm).mp z; omega)]
    have := due_kind (text := text) (ws := ws) (pre := [("name" : Str), when, k]) hfs hm a3' (by show 3 ≤ ws.length; omega)
    have this : dueFrom text ws 3 (ws.length - 3) = match badForm ws 3 0 fs with
      | some c => errD c
      | none => match cellsErr ws (3 + fs.length) m with
        | some c => errD c
        | none => toldD text ws (([("name" : Str), when, k]) ++ fs ++ zs (ws.length - (3 + fs.length))) := this
    rw [this, hv]
    cases badForm ws 3 0 fs with
    | some c => rfl
    | none =>
      show (match cellsErr ws (3 + fs.length) m with
        | some c => errD c
        | none => _) = match cellsErr ws (3 + fs.length) m with
        | some c => errD c
        | none => _
      cases cellsErr ws (3 + fs.length) m with
      | some c => rfl
      | none =>
        refine told_of ?_
        rw [hvk]
        show (if when = "now" ∨ when = "then" then k else when) = k
        rw [if_pos hw]
  by_cases k1 : ws.getD 2 "" = "strong"
  · exact timedK_ "strong" ["v"] 0 k1 (by decide +kernel) (by decide +kernel) (by omega) (.inr ⟨"v", by decide, rfl⟩) (by rcases hw with rfl | rfl <;> decide +kernel)
  by_cases k2 : ws.getD 2 "" = "free"
  · exact timedK_ "free" [] 1 k2 (by decide +kernel) (by decide +kernel) (by omega) (.inl rfl) (by rcases hw with rfl | rfl <;> decide +kernel)
  by_cases k3 : ws.getD 2 "" = "hangs"
  · exact timedK_ "hangs" [] 2 k3 (by decide +kernel) (by decide +kernel) (by omega) (.inl rfl) (by rcases hw with rfl | rfl <;> decide +kernel)
  by_cases k4 : ws.getD 2 "" = "holds"
  · exact timedK_ "holds" ["n"] 1 k4 (by decide +kernel) (by decide +kernel) (by omega) (.inr ⟨"n", by decide, rfl⟩) (by rcases hw with rfl | rfl <;> decide +kernel)
  have nt : ws.getD 2 "" ∉ timedK := by
    unfold timedK
    simp only [List.mem_cons, List.not_mem_nil, or_false]
    rintro (h | h | h | h) <;> contradiction
  have hk : kindAt ws = .inr 3 := by
    unfold kindAt
    rw [if_neg (by rw [hnm]; decide), if_neg (by rw [hwh]; intro z; rcases z with z | ⟨_, z1, z2⟩; exact h1 z; exact hw.elim z1 z2), if_neg (by rw [hwh]; exact np), if_pos (.inr nt)]
  have hv : vowErr ws = some 3 := by unfold vowErr; rw [hk]; rfl
  rw [hv, hn]
  refine due_stop ?_
  rw [a3]
  refine List.filter_eq_nil_iff.mpr fun f hf => ?_
  obtain ⟨_, h2⟩ := third when hw f hf
  simp only [decide_eq_true_eq]
  intro z
  rw [← z] at h2
  simp only [List.mem_cons, List.not_mem_nil, or_false] at h2
  rcases h2 with h | h | h | h <;> contradiction
end K89
set_option Elab.async false
set_option linter.all false
set_option maxRecDepth 100000
set_option maxHeartbeats 2000000
namespace K89
open PySem PySem.Spec PyProof.Rows L2 DL LamX
abbrev nLaw : List Str := ["script", "pen", "forms", "lap", "form", "text", "one", "again", "due", "told", "other"]
theorem sc_law : FnScope nLaw ["script"] (defScope s_law) := ⟨rfl, rfl, rfl, by decide +kernel, rfl, by decide +kernel, by decide +kernel⟩
/-- the name of the lambdas' code -/
def qLam : Str := (envOfC "law" (defScope s_law) 0 0 .none).qual ++ "<lambda>"
def preL (K : PySem.W.Frag) : List D → Prop := fun ds => ∃ c ns, ds = [c] ∧ seqLK K c = some (numsD ns) ∧ ns.length ≤ 1000
def postL : List D → Out → Prop := fun _ o => o = .inl (.val (.bl true))
structure VowC (P : Program) (w : World) (K : PySem.W.Frag) (mg : Str → Option Value) (base : Heap) (CB CV : Addr) : Prop where
  ex : ∃ fI fd, Mk K CV fI ∧ FnG P w K mg base 6 fI fd ["self", "text"] (spC (spVow CB CV)) ∧ mg "Vow" = some (.ref CV) ∧ Binds K fd ["self", "text"] []
structure MetT (K : PySem.W.Frag) (mg : Str → Option Value) (g : Addr) : Prop where
  ex : ∃ fd, FnP K "_law_met" s__law_met g fd ∧ mg "_law_met" = some (.ref g) ∧ PySem.W.keepIn K (.ref g) = true ∧ L2.Binds K fd ["call"] []
section
variable {X : Cx} {G : Gb} {CB CV : Addr} {ms : DAm} {Xd : DXm} {e : Expr} {p pos : Pos} {k : Nat}
theorem e_vow (c : VowC X.prog X.w X.K X.mg X.base CB CV) (tk : Takes X (wD G Xd)) (hr : Room k X.A) (hgd : X.A.guards = some []) (ha : DA X G [e] ms) (hk : 7 ≤ k := by decide) (hg : Gl X "Vow" := by rfl)
    (he : starEach (e :: []) X.env = (false, eval e X.env) :: starEach [] X.env := by rfl) (hpl : (backTo pos (starEach [] X.env)).any (·.1) = false := by rfl) : DE X G (.Call (.Name "Vow" p) [e] [] pos) (dMake (spVow CB CV) Xd CV ms) := by
  obtain ⟨fI, fd, M, F, hm, hb⟩ := c.ex
  exact de_make M F mono_Vow tk (hr.mono hk) hgd hg hm hb ha (by decide) he hpl
end
def meShown (CB CV : Addr) (Xd : DXm) : DM := dCall (spQ (r_shown CV)) Xd [] (dCons (dMake (spVow CB CV) Xd CV (dCons (dVar 5) dNil)) dNil)
def meVow (CB CV : Addr) (Xd : DXm) : DM := dMake (spVow CB CV) Xd CV (dCons (dVar 10) dNil)
theorem monoX_shown {CB CV : Addr} : MonoX (meShown CB CV) := fun Xd Xd' S P P' h1 h2 q => by
  obtain ⟨sv, e, q⟩ := q
  refine ⟨sv, e, ?_⟩
  have mk : ∀ (Q Q' : EV → DS → Prop), (∀ ev S, Q ev S → Q' ev S) → ∀ evs S1, (∃ cs S2, asVals S1 evs = some (cs, S2) ∧ spVow CB CV (.obj CV [] []) cs (fun r d' => r = .val .non ∧ Q (.own d') S2) fun x => Xd x S2) → (∃ cs S2, asVals S1 evs = some (cs, S2) ∧ spVow CB CV (.obj CV [] []) cs (fun r d' => r = .val .non ∧ Q' (.own d') S2) fun x => Xd' x S2) := fun Q Q' hq evs S1 ⟨cs, S2, e, p⟩ => ⟨cs, S2, e, mono_Vow _ _ _ _ _ _ (fun r d ⟨z1, z2⟩ => ⟨z1, hq _ _ z2⟩) (fun x z => h1 x _ z) p⟩
  have fin : ∀ ev S1, (∃ cs S2, asVals S1 [ev] = some (cs, S2) ∧ spQ (r_shown CV) (cs ++ []) (fun r => P r S2) fun x => Xd x S2) → (∃ cs S2, asVals S1 [ev] = some (cs, S2) ∧ spQ (r_shown CV) (cs ++ []) (fun r => P' r S2) fun x => Xd' x S2) := fun ev S1 ⟨cs, S2, e, p⟩ => ⟨cs, S2, e, mono_Q _ _ _ _ _ (fun r z => h2 _ _ z) (fun x z => h1 x _ z) p⟩
  cases sv with
  | val d => exact mk _ _ (fun ev S1 z => fin ev S1 z) _ _ q
  | own d => exact mk _ _ (fun ev S1 z => fin ev S1 z) _ _ q
  | io d => exact mk _ _ (fun ev S1 z => fin ev S1 z) _ _ q
  | any => exact q.elim
theorem monoX_vow {CB CV : Addr} : MonoX (meVow CB CV) := fun Xd Xd' S P P' h1 h2 q => by
  obtain ⟨sv, e, q⟩ := q
  refine ⟨sv, e, ?_⟩
  have mk : ∀ evs S1, (∃ cs S2, asVals S1 evs = some (cs, S2) ∧ spVow CB CV (.obj CV [] []) cs (fun r d' => r = .val .non ∧ P (.own d') S2) fun x => Xd x S2) → (∃ cs S2, asVals S1 evs = some (cs, S2) ∧ spVow CB CV (.obj CV [] []) cs (fun r d' => r = .val .non ∧ P' (.own d') S2) fun x => Xd' x S2) := fun evs S1 ⟨cs, S2, e, p⟩ => ⟨cs, S2, e, mono_Vow _ _ _ _ _ _ (fun r d ⟨z1, z2⟩ => ⟨z1, h2 _ _ z2⟩) (fun x z => h1 x _ z) p⟩
  cases sv with
  | val d => exact mk _ _ q
  | own d => exact mk _ _ q
  | io d => exact mk _ _ q
  | any => exact q.elim
end K89
set_option Elab.async false
set_option linter.all false
set_option maxRecDepth 100000
set_option maxHeartbeats 1000000
/-! Layer D: repr of trees of small numbers and texts. -/
namespace DL
open PySem PySem.Spec PyProof.Rows L2
mutual
/-- what repr shows without trouble -/
def okR : D → Bool
  | .non => true
  | .bl _ => true
  | .int i => decide (i.natAbs < 10 ^ 20)
  | .str x => PyData.strOk x
  | .tup ds => okRs ds
  | .lst ds => okRs ds
  | .frl ds => okRs ds
  | _ => false
def okRs : List D → Bool
  | [] => true
  | d :: ds => okR d && okRs ds
end
mutual
def bulkR : D → Nat
  | .str x => x.length
  | .tup ds => bulkRs ds
  | .lst ds => bulkRs ds
  | .frl ds => bulkRs ds
  | _ => 0
def bulkRs : List D → Nat
  | [] => 0
  | d :: ds => bulkR d + 1 + bulkRs ds
end
mutual
def deepR : D → Nat
  | .tup ds => deepRs ds + 1
  | .lst ds => deepRs ds + 1
  | .frl ds => deepRs ds + 1
  | _ => 0
def deepRs : List D → Nat
  | [] => 0
  | d :: ds => max (deepR d) (deepRs ds)
end
theorem nat_log {n : Nat} (h : n < 10 ^ 20) : n.log2 < 1920 := by
  by_cases h0 : n = 0
  · subst h0; decide
  · exact (Nat.log2_lt h0).mpr (Nat.lt_of_lt_of_le h (Nat.le_trans (by decide : 10 ^ 20 ≤ 2 ^ 67) (Nat.pow_le_pow_right (by decide) (by decide))))
theorem shown_int {i : Int} (h : i.natAbs < 10 ^ 20) : (PyData.shown (.int i)).length ≤ 24 := by
  show (Str.ofString (toString i)).length ≤ 24
  rw [PySem.ofString_length]
  have := int_text_length_le10 (a := i) (k := 20) (by decide) h
  omega
mutual
theorem okR_all : ∀ {d : D}, okR d = true → (toP d).canLay0 = true ∧ (toP d).showable = true ∧ (toP d).leavesShort 24 = true ∧ (toP d).bulk = bulkR d ∧ (toP d).depth = deepR d
  | .non, _ => by simp [toP, PyData.canLay0, PyData.showable, PyData.leavesShort, PyData.bulk, PyData.depth, bulkR, deepR]
  | .bl _, _ => by simp [toP, PyData.canLay0, PyData.showable, PyData.leavesShort, PyData.bulk, PyData.depth, bulkR, deepR]
  | .int i, h => by
    have h : i.natAbs < 10 ^ 20 := by simpa only [okR, decide_eq_true_eq] using h
    have h1 := shown_int h
    have h2 := nat_log h
    simp only [toP, PyData.canLay0, PyData.showable, PyData.leavesShort, PyData.bulk, PyData.depth, bulkR, deepR, decide_eq_true_eq, true_and, and_true]
    exact ⟨h2, h1⟩
  | .str x, h => by
    have h : PyData.strOk x = true := by simpa only [okR] using h
    simp only [toP, PyData.canLay0, PyData.showable, PyData.leavesShort, PyData.bulk, PyData.depth, bulkR, deepR, true_and, and_true, List.all_eq_true, decide_eq_true_eq]
    refine ⟨h, fun c hc => ?_, rfl⟩
    unfold PyData.strOk at h
    rw [Array.all_eq_true_iff_forall_mem] at h
    have h2 : c < 0x110000 := by simpa using h c (by simpa using hc)
    exact Nat.lt_trans h2 (by decide)
  | .tup ds, h => by
    have := okRs_all (by simpa only [okR] using h : okRs ds = true)
    simp only [toP, PyData.canLay0, PyData.showable, PyData.leavesShort, PyData.bulk, PyData.depth, bulkR, deepR]
    exact ⟨this.1, this.2.1, this.2.2.1, this.2.2.2.1, by rw [this.2.2.2.2]⟩
  | .lst ds, h => by
    have := okRs_all (by simpa only [okR] using h : okRs ds = true)
    simp only [toP, PyData.canLay0, PyData.showable, PyData.leavesShort, PyData.bulk, PyData.depth, bulkR, deepR]
    exact ⟨this.1, this.2.1, this.2.2.1, this.2.2.2.1, by rw [this.2.2.2.2]⟩
  | .frl ds, h => by
    have := okRs_all (by simpa only [okR] using h : okRs ds = true)
    simp only [toP, PyData.canLay0, PyData.showable, PyData.leavesShort, PyData.bulk, PyData.depth, bulkR, deepR]
    exact ⟨this.1, this.2.1, this.2.2.1, this.2.2.2.1, by rw [this.2.2.2.2]⟩
  | .dic _ _, h => by simp [okR] at h
  | .obj _ _ _, h => by simp [okR] at h
  | .ref _, h => by simp [okR] at h
theorem okRs_all : ∀ {ds : List D}, okRs ds = true → PyData.canLayAll0 (toPs ds) = true ∧ PyData.showableAll (toPs ds) = true ∧ PyData.leavesShortAll 24 (toPs ds) = true ∧ PyData.bulkAll (toPs ds) = bulkRs ds ∧ PyData.depthAll (toPs ds) = deepRs ds
  | [], _ => by simp [toPs, PyData.canLayAll0, PyData.showableAll, PyData.leavesShortAll, PyData.bulkAll, PyData.depthAll, bulkRs, deepRs]
  | d :: ds, h => by
    have h' : okR d = true ∧ okRs ds = true := by simpa only [okRs, Bool.and_eq_true] using h
    have h1 := okR_all h'.1
    have h2 := okRs_all h'.2
    simp only [toPs, PyData.canLayAll0, PyData.showableAll, PyData.leavesShortAll, PyData.bulkAll, PyData.depthAll, bulkRs, deepRs]
    rw [h1.1, h1.2.1, h1.2.2.1, h1.2.2.2.1, h1.2.2.2.2, h2.1, h2.2.1, h2.2.2.1, h2.2.2.2.1, h2.2.2.2.2]
    simp
end
theorem repr_ok {d : D} (hs : isSeq d = true) (h : okR d = true) (hd : deepR d ≤ 60) (hb : bulkR d ≤ 600000) : fRepr d = some (.val (.str (toP d).shown)) := by
  obtain ⟨h1, h2, h3, h4, h5⟩ := okR_all h
  unfold fRepr
  refine if_pos ⟨hs, h1, h2, by rw [h5]; exact hd, ?_⟩
  have := PyData.shown_le_bulk 24 (by decide) (toP d) h3
  rw [h4] at this
  rw [sizeLine_eq]
  omega
end DL
set_option Elab.async false
set_option linter.all false
set_option maxRecDepth 100000
set_option maxHeartbeats 1000000
namespace K89
open PySem PySem.Spec PyProof.Rows L2 DL
/-! ### what is due can be shown -/
theorem okW_empty : okW "" := by unfold okW; decide +kernel
theorem getD_ok {ws : List Str} {n : Nat} (h : ∀ w ∈ ws, w.length ≤ n ∧ okW w) (i : Nat) : (ws.getD i "").length ≤ n ∧ okW (ws.getD i "") := by
  by_cases hi : i < ws.length
  · exact h _ (List.mem_of_getElem? (getD_some hi))
  · rw [List.getD_eq_getElem?_getD, List.getElem?_eq_none_iff.mpr (by omega)]
    exact ⟨Nat.zero_le _, okW_empty⟩
structure ShowOk (d : D) : Prop where
  sq : isSeq d = true
  ok : okR d = true
  dp : deepR d ≤ 60
  bk : bulkR d ≤ 600000
theorem ShowOk.repr {d : D} (h : ShowOk d) : fRepr d = some (.val (.str (toP d).shown)) := repr_ok h.sq h.ok h.dp h.bk
theorem err_ok {j : Nat} (h : j ≤ 1000000) : ShowOk (errD j) := by
  refine ⟨rfl, ?_, ?_, ?_⟩
  · unfold errD
    simp only [okR, okRs, Bool.and_eq_true, decide_eq_true_eq, and_true]
    exact ⟨by decide +kernel, by decide, by omega⟩
  · unfold errD; simp [deepR, deepRs]
  · unfold errD
    have : ("text" : Str).length = 4 := by decide
    simp [bulkR, bulkRs, this]
theorem kinds_ok : ∀ f ∈ forms, (kindOf f).length ≤ 20 ∧ PyData.strOk (kindOf f) = true := by decide +kernel
theorem told_ok {text : Str} {ws f : List Str} (ht : text.length ≤ 100000 ∧ okW text) (h : ∀ w ∈ ws, w.length ≤ 100000 ∧ okW w) (hf : f ∈ forms) : ShowOk (toldD text ws f) := by
  obtain ⟨k1, k2⟩ := kinds_ok f hf
  have h0 := getD_ok h 0
  have h2 := getD_ok h 2
  have h3 : ("told" : Str).length = 4 := by decide
  have h4 : PyData.strOk ("told" : Str) = true := by decide +kernel
  unfold toldD
  by_cases hl : kindOf f = "like"
  · rw [if_pos hl]
    refine ⟨rfl, ?_, ?_, ?_⟩
    · simp only [okR, okRs, h4, okW_str ht.2, okW_str h0.2, okW_str h2.2, k2, Bool.and_self]
    · simp [deepR, deepRs]
    · simp only [bulkR, bulkRs]; omega
  · rw [if_neg hl]
    refine ⟨rfl, ?_, ?_, ?_⟩
    · simp only [okR, okRs, h4, okW_str ht.2, okW_str h0.2, k2, Bool.and_self]
    · simp [deepR, deepRs]
    · simp only [bulkR, bulkRs]; omega
theorem due_ok {text : Str} {ws : List Str} (ht : text.length ≤ 100000 ∧ okW text) (h : ∀ w ∈ ws, w.length ≤ 100000 ∧ okW w) (hl : ws.length ≤ 100001) : ∀ (n k : Nat), k + n = ws.length → ShowOk (dueFrom text ws k n)
  | 0, k, e => by
    show ShowOk (endOf text ws)
    unfold endOf
    split
    · exact err_ok (by omega)
    · rename_i f r hf
      have : f ∈ (aliveAt ws ws.length).filter (fun f => decide (f.length = ws.length)) := by rw [hf]; exact List.mem_cons_self
      exact told_ok ht h (alive_sub ws _ f (List.mem_filter.mp this).1)
  | n + 1, k, e => by
    show ShowOk (if aliveAt ws (k + 1) = [] then errD (k + 1) else dueFrom text ws (k + 1) n)
    split
    · exact err_ok (by omega)
    · exact due_ok ht h hl n (k + 1) (by omega)
theorem words_ok {text : Str} (ht : text.length ≤ 100000 ∧ okW text) : (∀ w ∈ wordsAt 32 text, w.length ≤ 100000 ∧ okW w) ∧ (wordsAt 32 text).length ≤ 100001 := by
  have htot := words_tot 32 text
  refine ⟨fun w hw => ⟨?_, fun c hc => ht.2 c (words_sub hw c hc)⟩, ?_⟩
  · have := mem_tot hw; omega
  · have := len_tot (wordsAt 32 text); omega
theorem dueOf_ok {text : Str} (ht : text.length ≤ 100000 ∧ okW text) : ShowOk (dueOf text) := by
  obtain ⟨h1, h2⟩ := words_ok ht
  exact due_ok ht h1 h2 _ 0 (by omega)
/-- what is due, by Vow's own reader -/
theorem dueOf_eq (text : Str) : dueOf text = match vowErr (wordsAt 32 text) with
    | some c => errD c
    | none => .tup [.str "told", shownD text] := due_eq text _ (words_ne 32 text)
theorem shown_ok {text : Str} (ht : text.length ≤ 100000 ∧ okW text) (h : vowErr (wordsAt 32 text) = none) : ShowOk (shownD text) := by
  have hd := dueOf_ok ht
  rw [dueOf_eq, h] at hd
  have h1 := hd.ok
  have h2 := hd.dp
  have h3 := hd.bk
  simp only [okR, okRs, Bool.and_eq_true, and_true] at h1
  simp only [deepR, deepRs] at h2
  simp only [bulkR, bulkRs] at h3
  exact ⟨rfl, h1.2, by omega, by omega⟩
/-! ### drawn texts are promises -/
theorem alive_mem {ws f : List Str} (hf : f ∈ forms) (h : ∀ i, i < f.length → lawFit (ws.getD i "") (f.getD i "") = true) : ∀ k, k ≤ f.length → f ∈ aliveAt ws k
  | 0, _ => hf
  | k + 1, hk => List.mem_filter.mpr ⟨alive_mem hf h k (by omega), by
    unfold keepF
    rw [decide_eq_true (by omega), h k (by omega)]; rfl⟩
theorem due_told {text : Str} {ws f : List Str} (hf : f ∈ forms) (h : ∀ i, i < f.length → lawFit (ws.getD i "") (f.getD i "") = true) (hl : ws.length = f.length) : ∀ (n k : Nat), k + n = ws.length → ∃ f', dueFrom text ws k n = toldD text ws f'
  | 0, k, e => by
    show ∃ f', endOf text ws = _
    unfold endOf
    have hm : f ∈ (aliveAt ws ws.length).filter (fun f => decide (f.length = ws.length)) := List.mem_filter.mpr ⟨alive_mem hf h _ (by omega), decide_eq_true hl.symm⟩
    split
    · rename_i h0; rw [h0] at hm; cases hm
    · rename_i f' r _; exact ⟨f', rfl⟩
  | n + 1, k, e => by
    have hm := alive_mem hf h (k + 1) (by omega)
    rw [due_step (fun z => by rw [z] at hm; cases hm)]
    exact due_told hf h hl n (k + 1) (by omega)
theorem drawn_none {ws f : List Str} (hf : f ∈ forms) (h : ∀ i, i < f.length → lawFit (ws.getD i "") (f.getD i "") = true) (hl : ws.length = f.length) (hne : ws ≠ []) : vowErr ws = none := by
  obtain ⟨f', e⟩ := due_told (text := "") hf h hl ws.length 0 (by omega)
  rw [due_eq "" ws hne] at e
  cases hv : vowErr ws with
  | none => rfl
  | some c =>
    rw [hv] at e
    unfold errD toldD at e
    simp only [D.tup.injEq, List.cons.injEq, D.str.injEq] at e
    exact absurd e.1 (by decide)
theorem words_join {ws : List Str} (hne : ws ≠ []) (h : ∀ w ∈ ws, plainS w) : wordsAt 32 (Txt.join " " ws) = ws := by
  rw [← split_words (by decide)]
  have := TL.split_join (y := (⟨#[32]⟩ : Str)) (s := 32) (S := []) rfl (by simp) (parts := ws) hne (fun p hp hc => by
    have := (h p hp).2 32 hc
    omega)
  rw [show (" " : Str) = ⟨#[32]⟩ from space]
  exact this
end K89
set_option Elab.async false
set_option linter.all false
set_option maxRecDepth 100000
set_option maxHeartbeats 2000000
namespace K89
open PySem PySem.Spec PyProof.Rows L2 DL LamX
abbrev lS (c d : D) (x3 x4 x5 x7 x8 x9 x10 : Option SV) : DS := [some (.val c), some (.own d), some (.val (.lst (txss forms))), x3, x4, x5, none, x7, x8, x9, x10]
def nio (x : Option SV) : Prop := ∀ d, x ≠ some (.io d)
theorem nio_none : nio none := fun _ => nofun
theorem nio_val {d : D} : nio (some (.val d)) := fun _ => nofun
section
variable {CB CV : Addr} {S : DS} {text : Str} {Xd : DXm} {m : DM} {Q : EV → DS → Prop}
theorem run_lcL {f : D → Option (List D)} {ma : DM} {mt : DTm} {ea : EV} {c : D} {ds : List D} {S2 : DS} {i : Nat} {vs : List Nat} (h : Ev ma S ea) (e : asVal S ea = some (c, S2)) (e2 : f c = some ds) (q : dLcT [(.val c, c)] i mt m vs (fun ev S'' => Q ev (wipeD S'' vs)) [] ds (wipeD S2 vs)) : dLc (dIt f ma) i mt m vs S Q := h.run _ ⟨c, S2, ds, e, e2, q⟩
theorem kit_ss : kitB "str" "str" = some true := by decide +kernel
/-- Vow(text) -/
theorem vow_run (hm : Ev m S (.val (.str text))) (ht : text.length ≤ 99999 ∧ PyData.strOk text = true) (q : match vowErr (wordsAt 32 text) with
    | some c => Xd (badX CB 1 c) S
    | none => ∀ lim col cells, Q (.own (vowObj CV text lim col cells)) S) : dMake (spVow CB CV) Xd CV (dCons m dNil) S Q := by
  refine run_cons (run_ev hm (run_nil ⟨[.str text], S, rfl, ⟨rfl, _, "str", rfl, rfl, by rw [kit_ss]; rfl, fun t e => by cases e; exact ht⟩, fun o ho => ?_⟩))
  have ho := ho.2 text rfl
  cases hv : vowErr (wordsAt 32 text) with
  | some c =>
    rw [hv] at ho q
    have ho : o = .inr (badX CB 1 c) := ho
    subst ho
    exact q
  | none =>
    rw [hv] at ho q
    obtain ⟨lim, col, cells, rfl⟩ := ho
    exact ⟨rfl, q lim col cells⟩
/-- Vow(x), x no text -/
theorem vow_not {x : D} {T : String} (hm : Ev m S (.val x)) (hT : tyN x = some T) (hk : kitB T "str" = some false) (hx : ∀ t, x ≠ .str t) (q : Xd (badX CB 0 0) S) : dMake (spVow CB CV) Xd CV (dCons m dNil) S Q := by
  refine run_cons (run_ev hm (run_nil ⟨[x], S, rfl, ⟨rfl, _, T, rfl, hT, by rw [hk]; rfl, fun t e => absurd e (hx t)⟩, fun o ho => ?_⟩))
  have ho := ho.1 x T rfl hT hk
  subst ho
  exact q
theorem run_shown {S1 : DS} {lim col cells : D} (q : Q (.val (shownD text)) S1) : (∃ cs S2, asVals S1 [.own (vowObj CV text lim col cells)] = some (cs, S2) ∧ spQ (r_shown CV) (cs ++ []) (fun r => Q r S2) fun x => Xd x S2) :=
  ⟨_, _, rfl, .inl (.val (shownD text)), ⟨text, lim, col, cells, rfl, rfl⟩, q⟩
theorem run_dcall {s : Sp0} {ms : DAm} (q : ms S fun evs S1 => ∃ cs S2, asVals S1 evs = some (cs, S2) ∧ s (cs ++ []) (fun r => Q r S2) fun x => Xd x S2) : dCall s Xd [] ms S Q := q
theorem run_met {me : DXm → DM} (q : me (fun x _ => x.C = CB ∧ ∃ c l, x.ns = (["column", "line"] : List Str) ∧ x.us = [c, l] ∧ Q (.val (.tup [.str "text", l, c])) S) (valsOf S) fun ev S1 => ∃ d S2, asVal S1 ev = some (d, S2) ∧ Q (.val (.tup [.str "told", d])) S) : dMet CB me S Q := q
/-- _law_shown(Vow(text)), text a promise -/
theorem ev_shown (h5 : S[5]? = some (some (.val (.str text)))) (ht : text.length ≤ 99999 ∧ PyData.strOk text = true) (hv : vowErr (wordsAt 32 text) = none) : Ev (meShown CB CV Xd) S (.val (shownD text)) := .mk fun Q q => by
  show dCall (spQ (r_shown CV)) Xd [] (dCons (dMake (spVow CB CV) Xd CV (dCons (dVar 5) dNil)) dNil) S Q
  refine run_dcall (run_cons (vow_run (ev_var h5) ht ?_))
  rw [hv]
  exact fun lim col cells => run_shown q
/-- .. as it is met -/
theorem met_shown (h5 : S[5]? = some (some (.val (.str text)))) (ht : text.length ≤ 99999 ∧ PyData.strOk text = true) : Ev (dMet CB (meShown CB CV)) S (.val (dueOf text)) := .mk fun Q q => by
  have h5' : (valsOf S)[5]? = some (some (.val (.str text))) := by
    unfold valsOf
    rw [List.getElem?_map, h5]; rfl
  rw [dueOf_eq] at q
  refine run_met (run_dcall (run_cons (vow_run (ev_var h5') ht ?_)))
  cases hv : vowErr (wordsAt 32 text) with
  | some c =>
    rw [hv] at q
    exact ⟨rfl, _, _, rfl, rfl, q⟩
  | none =>
    rw [hv] at q
    exact fun lim col cells => run_shown ⟨_, _, rfl, q⟩
theorem met_vow {x : D} {T : String} (h10 : S[10]? = some (some (.val x))) (hT : tyN x = some T) (hk : kitB T "str" = some false) (hx : ∀ t, x ≠ .str t) : Ev (dMet CB (meVow CB CV)) S (.val (.tup [.str "text", .int 0, .int 0])) := .mk fun Q q => by
  have h10' : (valsOf S)[10]? = some (some (.val x)) := by
    unfold valsOf
    rw [List.getElem?_map, h10]; rfl
  refine run_met ?_
  exact vow_not (ev_var h10') hT hk hx ⟨rfl, _, _, rfl, rfl, q⟩
/-- repr(a) != repr(b) of the same -/
theorem evt_same {ms ms' : DAm} {d : D} (h : EvA ms S [.val d]) (h' : EvA ms' S [.val d]) (hd : ShowOk d) : EvT (dB (dBin fNe (dLs (one fRepr) ms) (dLs (one fRepr) ms'))) S false := by
  have e : (!decide ((toP d).shown = (toP d).shown)) = false := by simp
  rw [← e]
  exact evt_b (ev_bin (ev_ls h rfl hd.repr) (ev_ls h' rfl hd.repr) rfl rfl rfl)
end
theorem for_range1R {ms : DAm} {g : DGm} {m : DSm} {E : DEnds} {S : DS} (q : ms S fun evs S1 => ∃ j, evs = [.val (.int j)] ∧ -(2 ^ 62) ≤ j ∧ j < 2 ^ 62 ∧ dTurns [] g m E (ups 0 j.toNat) S1) : dFor (dRange1 ms) g m E S := q
theorem stQ_can {d : D} {i : Nat} {S : DS} {Q : DS → Prop} (h : canStore S i) (q : Q (S.set i (some (.val d)))) : stQ false i (.val d) S Q := ⟨_, _, rfl, h, q⟩
/-- the words of a drawn text -/
theorem comp_words {c d0 : D} {k0 : Nat} (hp0 : PenAt k0 d0) (hk : k0 + 600 < budget) {x3 x4 x5 x7 x8 x9 x10 : Option SV} {fd : D} {Q : EV → DS → Prop} : ∀ (fs : List Str) (m : Nat) (d : D) (acc : List Str), PenNext m d0 d → m + 30 * fs.length ≤ 500 → acc.length + fs.length ≤ 100 → (∀ f ∈ fs, plainS f) → (∀ w ∈ acc, plainS w) →
    (∀ d' l, l.length = fs.length → (∀ i, i < fs.length → lawFit (l.getD i "") (fs.getD i "") = true) → (∀ w ∈ acc ++ l, plainS w) → PenNext (m + 30 * fs.length) d0 d' → Q (.own (.lst (txs (acc ++ l)))) (lS c d' x3 x4 x5 x7 x8 x9 x10)) →
    dLcT [(.val fd, fd)] 6 dYes (dCallI (spA preW postW) 1 (dCons (dVar 1) (dCons (dVar 6) dNil))) [6] Q (txs acc) (txs fs) (lS c d x3 x4 x5 x7 x8 x9 x10)
  | [], m, d, acc, hn, hm, ha, hf, hc, q => ⟨holds_one, by
    have := q d [] rfl (fun i hi => absurd hi (by simp)) (by simpa using hc) (by simpa using hn)
    simpa using this⟩
  | f :: fs, m, d, acc, hn, hm, ha, hf, hc, q => by
    rw [List.length_cons] at hm ha
    refine ⟨holds_one, can_of rfl, ?_⟩
    have hm5 : (budget : Nat) = 1000000 := rfl
    refine yesR (dcall_A (ws := [.str f]) (eva_cons (ev_own rfl) (eva_cons (ev_var rfl) eva_nil)) rfl rfl rfl ⟨k0 + m, f, hn k0 hp0, by omega, rfl, hf f List.mem_cons_self⟩ fun rr d1 hpost => ?_)
    obtain ⟨w, rfl, hw1, hw2, hn1⟩ := hpost f rfl
    refine ⟨_, _, rfl, by rw [List.length_map, sizeLine_eq]; omega, ?_⟩
    have := comp_words (c := c) (x3 := x3) (x4 := x4) (x5 := x5) (x7 := x7) (x8 := x8) (x9 := x9) (x10 := x10) (fd := fd) hp0 hk (Q := Q) fs (m + 30) d1 (acc ++ [w]) (hn.trans hn1) (by omega) (by rw [List.length_append, List.length_singleton]; omega) (fun g hg => hf g (List.mem_cons_of_mem _ hg)) (fun z hz => by
      rcases List.mem_append.mp hz with h | h
      · exact hc z h
      · rw [List.mem_singleton.mp h]; exact hw2) (fun d' l hl hfit hpl hn' => ?_)
    · rw [show txs (acc ++ [w]) = txs acc ++ [.str w] by simp] at this
      exact this
    · have := q d' (w :: l) (by simp [hl]) (fun i hi => by
        cases i with
        | zero => exact hw1
        | succ i => exact hfit i (by simpa using hi)) (by simpa using hpl) (by rw [List.length_cons, show m + 30 * (fs.length + 1) = m + 30 + 30 * fs.length by omega]; exact hn')
      simpa using this
def others : List D := [.non, .int 7, .bl true, .tup [], .lst [.str "a allowed"], .tup [.str "a", .str "allowed"], .dic [.str "a"] [.int 1]]
theorem others_no {x : D} (h : x ∈ others) : ∃ T, tyN x = some T ∧ kitB T "str" = some false ∧ ∀ t, x ≠ .str t := by
  obtain ⟨k1, k2, k3, k4, k5, k6⟩ := kit_not
  unfold others at h
  simp only [List.mem_cons, List.not_mem_nil, or_false] at h
  rcases h with rfl | rfl | rfl | rfl | rfl | rfl | rfl
  · exact ⟨_, rfl, k1, fun _ => nofun⟩
  · exact ⟨_, rfl, k3, fun _ => nofun⟩
  · exact ⟨_, rfl, k2, fun _ => nofun⟩
  · exact ⟨_, rfl, k4, fun _ => nofun⟩
  · exact ⟨_, rfl, k5, fun _ => nofun⟩
  · exact ⟨_, rfl, k4, fun _ => nofun⟩
  · exact ⟨_, rfl, k6, fun _ => nofun⟩
theorem zero_ok : ShowOk (.tup [.str "text", .int 0, .int 0]) := ⟨rfl, by decide +kernel, by decide +kernel, by decide +kernel⟩
theorem forms_plain : ∀ f ∈ forms, f.length ≤ 11 ∧ 0 < f.length ∧ ∀ w ∈ f, w.length ≤ 20 ∧ ∀ c ∈ cs w, 33 ≤ c ∧ c < 127 := by decide +kernel
theorem plain_tot : ∀ {ws : List Str}, (∀ w ∈ ws, plainS w) → tot ws ≤ 21 * ws.length
  | [], _ => by simp [tot]
  | w :: ws, h => by
    have h1 := (h w List.mem_cons_self).1
    have h2 := plain_tot (ws := ws) fun z hz => h z (List.mem_cons_of_mem _ hz)
    rw [show w :: ws = [w] ++ ws from rfl, tot_app, tot_one, List.length_append, List.length_singleton]
    omega
section
variable {P : Program} {w : World} {K : PySem.W.Frag} {mg : Str → Option Value} {base : Heap} {f : Addr} {fd : FuncData} {CB CV g tP : Addr}
theorem ok_law (F : FnP K "law" s_law f fd) (g_len : mg "len" = none) (g_range : mg "range" = none) (g_repr : mg "repr" = none) (TB : TabB base mg (codeAt K f) tP)
    (c__law_pen : Cal P w K mg base 2 "_law_pen" ["script"] (spP (spN (preP K) (postP K)))) (c__law_draw : Cal P w K mg base 2 "_law_draw" ["pen", "many"] (spI (spA preD postD))) (c__law_pick : Cal P w K mg base 3 "_law_pick" ["pen", "some"] (spI (spA preK postK)))
    (c__law_vow_forms : Cal P w K mg base 2 "_law_vow_forms" [] (spP (spQ r_forms))) (c__law_vow_word : Cal P w K mg base 5 "_law_vow_word" ["pen", "form"] (spI (spA preW postW))) (c__law_bent_vow : Cal P w K mg base 4 "_law_bent_vow" ["pen", "text"] (spI (spA preB postB)))
    (c__law_vow_due : Cal P w K mg base 5 "_law_vow_due" ["text"] (spP (spQ r_due))) (c__law_shown : Cal P w K mg base 2 "_law_shown" ["vow"] (spP (spQ (r_shown CV)))) (cVow : VowC P w K mg base CB CV) (cMet : MetT K mg g)
    (cC : ∀ n ∈ (["BadText", "BadName", "NoName", "TakenName", "BadNumber", "BadLand", "NotThere", "BadArrangement", "Unlike", "NotKept", "NothingToUndo", "NothingToRedo"] : List Str), ∃ c : Addr, mg n = some (.ref c)) (cB : mg "BadText" = some (.ref CB)) (xf : XfC K CB)
    (fl : PySem.W.findIn K (.ref CB) "line" = some none) (fc : PySem.W.findIn K (.ref CB) "column" = some none) (ex : PySem.W.exmOne K (.ref CB) (.ref CB) = some true) :
    FnG P w K mg base 10 f fd ["script"] (spL [(tP, qLam)] (spN (preL K) postL)) := by
  refine fnL_ok F sc_law (spN_len fun ds ⟨_, _, e, _⟩ => by rw [e]; rfl) fun A outer st H E G Y hN hH B => ?_
  have hr := B.room
  have hgd := B.gd
  have hpo := B.own
  have nd := sc_law.nd
  have mC : MetC (cxOf (L2.CX P w) P w K mg base nLaw "law" (defScope s_law) f (.ref (codeAt K f)) A outer st H E) CB := ⟨cC, cB, xf, fl, fc, ex⟩
  have to : LamTo (cxOf (L2.CX P w) P w K mg base nLaw "law" (defScope s_law) f (.ref (codeAt K f)) A outer st H E) "_law_met" "call" ["call", "e"] (defScope s__law_met) g (defBody s__law_met) G.N (TMet CB) 7 := by
    obtain ⟨fdm, Fm, m1, m2, m3⟩ := cMet.ex
    rw [hN]
    exact met_to Fm mC m1 m2 m3 TB rfl (List.mem_singleton.mpr rfl) (fun p hp _ => by rw [List.mem_singleton.mp hp]; rfl)
  refine ⟨_, (db_cons (ds_own 1 nd (e_call c__law_pen mono_N takes_no hr hgd (da_cons (de_var 0) da_nil)))
    (db_cons (ds_set 2 nd (e_call0 c__law_vow_forms mono_Q takes_no hr hgd))
    (db_cons (ds_for hpo rfl (di_range1 rfl g_range (da_cons de_int da_nil)) (dg_name 3 nd) (db_cons (ds_set 4 nd (e_ix (de_var 2) (e_callI 1 c__law_draw mono_A hr hgd (da_cons (de_var 1) (da_cons (e_len g_len (da_cons (de_var 2) da_nil)) da_nil)))))
    (db_cons (ds_set 5 nd (de_join de_str (e_lc [("one", 6)] 6 rfl nd (di_list (de_var 4)) (fun _ _ _ _ _ => dts_nil) (fun _ _ _ _ _ => (e_callI 1 c__law_vow_word mono_A hr hgd (da_cons (de_var 1) (da_cons (de_var 6) da_nil)))))))
    (db_cons (ds_if (t_ne hr (e_repr hgd hr g_repr (da_cons (e_call c__law_shown mono_Q takes_no hr hgd (da_cons (e_vow cVow takes_no hr hgd (da_cons (de_var 5) da_nil)) da_nil)) da_nil)) (e_repr hgd hr g_repr (da_cons (e_ix (e_call c__law_vow_due mono_Q takes_no hr hgd (da_cons (de_var 5) da_nil)) de_int) da_nil))) (db_one (ds_ret de_bl)) db_nil)
    (db_one (ds_for hpo rfl (di_range1 rfl g_range (da_cons (e_add de_int (e_callI 1 c__law_draw mono_A hr hgd (da_cons (de_var 1) (da_cons de_int da_nil)))) da_nil)) (dg_name 7 nd) (db_cons (ds_set 5 nd (e_callI 1 c__law_bent_vow mono_A hr hgd (da_cons (de_var 1) (da_cons (de_var 5) da_nil))))
    (db_cons (ds_par2 8 false 9 false rfl nd (da_cons (e_call c__law_vow_due mono_Q takes_no hr hgd (da_cons (de_var 5) da_nil)) (da_cons (de_lam (me := meShown CB CV) to hH hr hgd sc__law_met (mono_met monoX_shown) (fun A outer s H E f c' G' Xd hr' hg' _ tk => e_call c__law_shown mono_Q tk hr' hg' (da_cons (e_vow cVow tk hr' hg' (da_cons (de_var 5) da_nil)) da_nil)) (met_conv monoX_shown)) da_nil)))
    (db_one (ds_if (t_ne hr (e_repr hgd hr g_repr (da_cons (de_var 9) da_nil)) (e_repr hgd hr g_repr (da_cons (de_var 8) da_nil))) (db_one (ds_ret de_bl)) db_nil))))))))))
    (db_cons (ds_set 10 nd (e_callI 1 c__law_pick mono_A hr hgd (da_cons (de_var 1) (da_cons (de_lst (da_cons de_non (da_cons de_int (da_cons de_bl (da_cons (de_tup da_nil) (da_cons (de_lst (da_cons de_str da_nil)) (da_cons (de_tup (da_cons de_str (da_cons de_str da_nil))) (da_cons (e_dict (dps_cons de_str de_int dps_nil)) da_nil)))))))) da_nil))))
    (db_one (ds_ret (e_eq hr (e_repr hgd hr g_repr (da_cons (de_lam (me := meVow CB CV) to hH hr hgd sc__law_met (mono_met monoX_vow) (fun A outer s H E f c' G' Xd hr' hg' _ tk => e_vow cVow tk hr' hg' (da_cons (de_var 10) da_nil)) (met_conv monoX_vow)) da_nil)) (e_repr hgd hr g_repr (da_cons (de_tup (da_cons de_str (da_cons de_int (da_cons de_int da_nil)))) da_nil))))))))), ?_⟩
  rintro ds Q ⟨⟨c, ns, rfl, hs, hl⟩, q⟩
  have q : Q (.val (.bl true)) := q (.inl (.val (.bl true))) rfl
  have hm5 : (budget : Nat) = 1000000 := rfl
  refine dcall_N (ws := [c]) (eva_cons (ev_var rfl) eva_nil) rfl ⟨c, ns, rfl, hs, hl⟩ fun o ho => ?_
  obtain ⟨p, rfl, hp⟩ := ho
  refine ⟨_, _, rfl, can_of rfl, ?_⟩
  have hp0 : PenAt 0 (penD p) := ⟨p, rfl, hp⟩
  generalize penD p = d0 at hp0 ⊢
  refine sq_set (S2 := [some (.val c), some (.own d0), none, none, none, none, none, none, none, none, none]) (ev_callQ eva_nil rfl ⟨rfl, rfl⟩) rfl rfl ?_
  refine sq_range1 (j := 24) (eva_cons ev_c eva_nil) (by omega) (by omega) ?_
  refine turns_inv (fun _ => holds_nil) (fun done S => ∃ d x3 x4 x5 x7 x8 x9, S = lS c d x3 x4 x5 x7 x8 x9 none ∧ (nio x3 ∧ nio x4 ∧ nio x5 ∧ nio x7 ∧ nio x8 ∧ nio x9) ∧ PenAt (1000 * done.length) d) ?_ ?_ (ups 0 24) [] _ rfl ⟨d0, none, none, none, none, none, none, rfl, ⟨nio_none, nio_none, nio_none, nio_none, nio_none, nio_none⟩, hp0⟩
  · rintro S ⟨d, x3, x4, x5, x7, x8, x9, rfl, -, hp⟩
    have hp : PenAt (1000 * 24) d := by simpa [ups] using hp
    dsimp only
    refine sq_asgR (dcall_A (ws := [.lst others]) (eva_cons (ev_own rfl) (eva_cons (ev_lst (cs := others) (eva_cons ev_c (eva_cons ev_c (eva_cons ev_c (eva_cons (ev_tup eva_nil rfl (le1 (by decide))) (eva_cons (ev_lst (eva_cons ev_c eva_nil) rfl (le1 (by decide))) (eva_cons (ev_tup (eva_cons ev_c (eva_cons ev_c eva_nil)) rfl (le1 (by decide)))
      (eva_cons (ev_dic (ks := [.inr "a"]) (us := [.int 1]) (eva_cons ev_c (eva_cons ev_c eva_nil)) rfl rfl rfl (by decide) (by decide)) eva_nil))))))) rfl (le1 (by decide))) eva_nil)) rfl rfl rfl ⟨1000 * 24, others, hp, by omega, rfl, by decide, by decide⟩ fun rr d1 hpost => ?_)
    obtain ⟨x, hx, rfl, hn⟩ := hpost _ rfl
    obtain ⟨T, hT, hk, hne⟩ := others_no hx
    refine ⟨_, _, rfl, can_of rfl, ?_⟩
    refine st_ret (d := .bl (decide ((toP (.tup [.str "text", .int 0, .int 0])).shown = (toP (.tup [.str "text", .int 0, .int 0])).shown))) (ev_bin (ev_ls (eva_cons (met_vow (x := x) rfl hT hk hne) eva_nil) rfl zero_ok.repr) (ev_ls (eva_cons (ev_tup (eva_cons ev_c (eva_cons ev_c (eva_cons ev_c eva_nil))) rfl (le1 (by decide))) eva_nil) rfl zero_ok.repr) rfl rfl rfl) ?_
    rw [decide_eq_true rfl]
    exact q
  · rintro done it rest S N hall ⟨d, x3, x4, x5, x7, x8, x9, rfl, ⟨n3, n4, n5, n7, n8, n9⟩, hp⟩ hN
    have hlen : done.length < 24 := by
      have := congrArg List.length hall
      simp [ups] at this
      omega
    generalize hkk : 1000 * done.length = kk at hp
    refine ⟨⟨by simp, fun d e => n3 d (by simpa using e)⟩, ?_⟩
    show dSeq (dAsg _ (dgN 4)) _ _ (lS c d (some (.val it)) x4 x5 x7 x8 x9 none)
    have elen : one fLen [.lst (txss forms)] = some (.val (.int 24)) := by
      show some (EV.val (.int ((txss forms).length : Nat))) = _
      rw [List.length_map, show forms.length = 24 by decide +kernel]; rfl
    refine sq_asgR (run_bin (ev_var rfl) (dcall_A (ws := [.int 24]) (eva_cons (ev_own rfl) (eva_cons (ev_ls (eva_cons (ev_var rfl) eva_nil) rfl elen) eva_nil)) rfl rfl rfl ⟨kk, 24, hp, by omega, rfl, by omega, by omega⟩ fun rr d1 hpost => ?_))
    obtain ⟨v, rfl, hv0, hv1, hp1⟩ := hpost kk 24 hp rfl
    obtain ⟨j, rfl⟩ := Int.eq_ofNat_of_zero_le hv0
    have hj : j < forms.length := by rw [show forms.length = 24 by decide +kernel]; omega
    obtain ⟨f, hf⟩ : ∃ f, forms[j]? = some f := ⟨_, List.getElem?_eq_getElem hj⟩
    have hfm : f ∈ forms := List.mem_of_getElem? hf
    obtain ⟨f1, f2, f3⟩ := forms_plain f hfm
    have hfn : f ≠ [] := fun z => by rw [z] at f2; exact absurd f2 (by simp)
    refine ⟨_, _, _, rfl, rfl, ix_lst (n := j) (d := .lst (txs f)) (by rw [List.getElem?_map, hf]; rfl), _, _, rfl, ⟨by simp, fun d e => n4 d (by simpa using e)⟩, ?_⟩
    show dSeq (dAsg _ (dgN 5)) _ _ (lS c d1 (some (.val it)) (some (.val (.lst (txs f)))) x5 x7 x8 x9 none)
    refine sq_asgR (run_str ev_c (run_lcL (ev_var rfl) rfl (ds := txs f) rfl (comp_words hp1 (by omega) f 0 d1 [] PenNext.refl (by omega) (by simp; omega) f3 (by simp) fun d2 ws hl hfit hpl hn => ?_)))
    have hpl : ∀ w ∈ ws, plainS w := by simpa using hpl
    have htot := plain_tot hpl
    refine ⟨_, _, rfl, fJoin_txs (ws := ws) (by omega), _, _, rfl, ⟨(show 5 < 11 by omega), fun d e => n5 d (Option.some.inj e)⟩, ?_⟩
    have hwne : ws ≠ [] := fun z => by rw [z] at hl; simp at hl; omega
    have hwj := words_join hwne hpl
    have hv : vowErr (wordsAt 32 (Txt.join " " ws)) = none := by rw [hwj]; exact drawn_none hfm hfit hl hwne
    have hlt := join_len ws
    have hok : okW (Txt.join " " ws) := join_ok fun w hw c hc => by have := (hpl w hw).2 c hc; omega
    have hp2 := hn (kk + 1) hp1
    generalize Txt.join " " ws = text at hv hlt hok ⊢
    have htx : text.length ≤ 250 := by omega
    have hd : dueOf text = .tup [.str "told", shownD text] := by rw [dueOf_eq, hv]
    have hst := okW_str hok
    show dSeq (dIfS _ _ dNext) _ _ (lS c d2 (some (.val it)) (some (.val (.lst (txs f)))) (some (.val (.str text))) x7 x8 x9 none)
    refine sq_if (b := false) (evt_same (d := shownD text) (eva_cons (ev_shown (text := text) rfl ⟨by omega, hst⟩ hv) eva_nil) (eva_cons (ev_bin (ev_callQ (r := .val (.tup [.str "told", shownD text])) (eva_cons (ev_var rfl) eva_nil) rfl ⟨text, rfl, by omega, hst, by rw [hd]⟩) ev_c rfl rfl rfl) eva_nil) (shown_ok ⟨by omega, hok⟩ hv)) (fun h => by cases h) (fun _ => ?_)
    refine for_range1R (run_cons (run_bin ev_c (dcall_A (ws := [.int 2]) (eva_cons (ev_own rfl) (eva_cons ev_c eva_nil)) rfl rfl rfl ⟨_, 2, hp2, by omega, rfl, by omega, by omega⟩ fun rr d3 hpost => ?_)))
    obtain ⟨v2, rfl, hv20, hv21, hp3⟩ := hpost _ 2 hp2 rfl
    generalize hk3 : kk + 1 + (0 + 30 * f.length) + 1 = kk3 at hp3
    refine ⟨_, _, _, rfl, rfl, rfl, run_nil ⟨_, rfl, by omega, by omega, ?_⟩⟩
    refine turns_inv (fun _ => holds_nil) (fun done S => ∃ d t x7 x8 x9, S = lS c d (some (.val it)) (some (.val (.lst (txs f)))) (some (.val (.str t))) x7 x8 x9 none ∧ (nio x7 ∧ nio x8 ∧ nio x9) ∧ (t : Str).length + 50 ≤ 300 * 2 ^ done.length ∧ okW t ∧ PenAt (kk3 + 5 * done.length) d) ?_ ?_ (ups 0 (1 + v2).toNat) [] _ rfl ⟨d3, text, x7, x8, x9, rfl, ⟨n7, n8, n9⟩, by simp; omega, hok, hp3⟩
    · rintro S ⟨d, t, x7, x8, x9, rfl, ⟨n7, n8, n9⟩, _, _, hp⟩
      have hlen2 : (ups 0 (1 + v2).toNat).length ≤ 2 := by simp [ups]; omega
      exact hN _ ⟨d, _, _, _, x7, x8, x9, rfl, ⟨nio_val, nio_val, nio_val, n7, n8, n9⟩, hp.mono (by
        rw [List.length_append (as := done), List.length_singleton]
        have e2 : ([] ++ ups 0 (1 + v2).toNat : List D).length = (ups 0 (1 + v2).toNat).length := rfl
        omega)⟩
    · rintro done2 it2 rest2 S N2 hall2 ⟨d, t, x7, x8, x9, rfl, ⟨n7, n8, n9⟩, ht, hokt, hp⟩ hN2
      have hlen2 : done2.length < 2 := by
        have := congrArg List.length hall2
        simp [ups] at this
        omega
      have hpw : 2 ^ done2.length ≤ 2 := by
        have : done2.length = 0 ∨ done2.length = 1 := by omega
        rcases this with h | h <;> rw [h] <;> decide
      refine ⟨⟨by simp, fun d e => n7 d (by simpa using e)⟩, ?_⟩
      show dSeq (dAsg _ (dgN 5)) _ _ (lS c d (some (.val it)) (some (.val (.lst (txs f)))) (some (.val (.str t))) (some (.val it2)) x8 x9 none)
      refine sq_asgR (dcall_A (ws := [.str t]) (eva_cons (ev_own rfl) (eva_cons (ev_var rfl) eva_nil)) rfl rfl rfl ⟨_, t, hp, by omega, rfl, by omega, hokt⟩ fun rr d' hpost => ?_)
      obtain ⟨t', rfl, hl', hok', hn'⟩ := hpost t rfl
      have hst' := okW_str hok'
      refine ⟨_, _, rfl, can_of rfl, ?_⟩
      show dSeq (dPar2 8 false 9 false _) _ _ (lS c d' (some (.val it)) (some (.val (.lst (txs f)))) (some (.val (.str t'))) (some (.val it2)) x8 x9 none)
      refine sq_par2R (run_cons (run_ev (ev_callQ (r := .val (dueOf t')) (eva_cons (ev_var rfl) eva_nil) rfl ⟨t', rfl, by omega, hst', rfl⟩) (run_cons (run_ev (met_shown (text := t') rfl ⟨by omega, hst'⟩) (run_nil ⟨_, _, rfl, noB_val, ?_⟩)))))
      refine stQ_can ⟨(show 9 < 11 by omega), fun d e => n9 d (Option.some.inj e)⟩ (stQ_can ⟨(show 8 < 11 by omega), fun d e => n8 d (Option.some.inj e)⟩ ?_)
      refine st_if (b := false) (evt_same (d := dueOf t') (eva_cons (ev_var rfl) eva_nil) (eva_cons (ev_var rfl) eva_nil) (dueOf_ok ⟨by omega, hok'⟩)) (fun h => by cases h) (fun _ => ?_)
      refine hN2 _ ⟨d', t', _, _, _, rfl, ⟨nio_val, nio_val, nio_val⟩, ?_, hok', ?_⟩
      · rw [List.length_append, List.length_singleton, Nat.pow_succ]; omega
      · rw [List.length_append, List.length_singleton, show kk3 + 5 * (done2.length + 1) = kk3 + 5 * done2.length + 5 by omega]
        exact hn' _ hp
end
end K89
set_option Elab.async false
set_option linter.all false
set_option maxRecDepth 100000
set_option maxHeartbeats 2000000
/-! Layer D: the end of a law whose promise asks that no guard runs. -/
namespace DL
open PySem PySem.Spec PyProof.Rows L2 LamX
section
variable {P : Program} {w : World} {K : PySem.W.Frag} {mg mb : Str → Option Value} {k : Nat} {fa a : Addr} {cs : List (Addr × Addr)} {fd : FuncData} {x : Str} {sp : Sp} {s₁ : Shared} {vs : List Value} {ns : List Int}
abbrev scriptO (vs : List Value) : Obj := { cls := .type "list", data := .seq vs.toArray }
abbrev emptyO : Obj := { cls := .none, data := .fields #[] }
/-- what is tracked at the start: the tables, and the script where it is no part of K -/
def startH (K : PySem.W.Frag) (cs : List (Addr × Addr)) (a : Addr) (vs : List Value) (ns : List Int) : Hp := fun b =>
  if b ∈ cs.map (·.2) then some (.tbl #[]) else if b = a ∧ K.lookup a = none then some (.frz (scriptO vs) (.lst (ns.map V.int))) else none
theorem startH_cases {b : Addr} {u : HO} (h : startH K cs a vs ns b = some u) : (b ∈ cs.map (·.2) ∧ u = .tbl #[]) ∨ (b = a ∧ K.lookup a = none ∧ u = .frz (scriptO vs) (.lst (ns.map V.int))) := by
  unfold startH at h
  split at h
  · rename_i hb; cases h; exact .inl ⟨hb, rfl⟩
  · split at h
    · rename_i hb; cases h; exact .inr ⟨hb.1, hb.2, rfl⟩
    · cases h
theorem law_callG (KX : K.In s₁.heap) (hns : s₁.heap.Ns mainGlobals mg) (hb : s₁.heap.Ns builtinsNs mb) (hbb : ∀ x : Str, x ≠ "__name__" → mb x = bootBuiltins x) (hlim : s₁.heap.NoLimit) (hg : s₁.gens = #[])
    (hT : ∀ p ∈ cs, s₁.heap.get? p.2 = some emptyO) (nT : ∀ p ∈ cs, K.lookup p.2 = none) (C : ∀ p ∈ cs, PySem.W.CodeHd s₁.heap p.1 p.2)
    (hbm : ∃ (bm : Addr) (ob : Obj), mg "__builtins__" = some (.ref bm) ∧ bm ≠ builtinsNs ∧ s₁.heap.get? bm = some ob ∧ ob.cls = .type "module" ∧ ob.dict = some builtinsNs ∧ ob.data = .plain)
    (ha : s₁.heap.get? a = some (scriptO vs)) (hi : IntsAre vs ns) (hl : ns.length ≤ sizeLine) (hr : Room k callerA)
    (F : ∀ base : Heap, K.In base → base.Ns mainGlobals mg → (∀ p ∈ cs, TabB base mg p.1 p.2) → FnG P w K mg base k fa fd [x] sp) (hbind : ∀ (s : Shared) (u : Value), BindsTo s fd ⟨[u], []⟩ [(x, u)])
    (hsp : ∀ H : Hp, (∀ p ∈ cs, H p.2 = some (.tbl #[])) → SqL K H a (ns.map V.int) → sp [.ref a] H (fun v _ => v = .bl true) fun _ _ _ => False) :
    codeAny (model P w) callerA (.call (.ref fa) ⟨[.ref a], []⟩) (fun r s' => r = .ok (.ret (.bool true)) ∧ OldK s₁.heap s'.heap ∧ s'.os = s₁.os ∧ AllBare s'.gens) s₁ := by
  have rv := vals_ints hi
  have lv : vs.length = ns.length := hi.length
  have tab : ∀ {b : Addr}, b ∈ cs.map (·.2) → s₁.heap.get? b = some emptyO ∧ K.lookup b = none ∧ ∃ p ∈ cs, p.2 = b := fun {b} hb => by
    obtain ⟨p, hp, rfl⟩ := List.mem_map.mp hb
    exact ⟨hT p hp, nT p hp, p, hp, rfl⟩
  have inT : ∀ p ∈ cs, p.2 ∈ cs.map (·.2) := fun p hp => List.mem_map.mpr ⟨p, hp, rfl⟩
  have aNot : a ∉ cs.map (·.2) := fun z => by
    have q := (tab z).1
    rw [ha] at q
    exact nomatch congrArg Obj.data (Option.some.inj q)
  have HT : ∀ p ∈ cs, startH K cs a vs ns p.2 = some (.tbl #[]) := fun p hp => if_pos (inT p hp)
  have hok : HOk P w (startH K cs a vs ns) s₁.heap := fun b u z => by
    rcases startH_cases z with ⟨h1, rfl⟩ | ⟨rfl, _, rfl⟩
    · exact (tab h1).1
    · exact ⟨ha, by rw [List.length_map]; exact hl, vs, _, rv, ha⟩
  have HS : SqL K (startH K cs a vs ns) a (ns.map V.int) := by
    cases hk : K.lookup a with
    | none => exact .inl (.inr ⟨scriptO vs, by unfold startH; rw [if_neg aNot, if_pos ⟨rfl, hk⟩]⟩)
    | some o =>
      have e := KX a o hk
      rw [ha] at e
      cases e
      exact .inr ⟨_, vs.toArray, _, hk, rfl, rfl, rfl, by rw [List.size_toArray, lv]; exact hl, by simpa using rv⟩
  -- what the base holds: all but the tracked
  have free : ∀ {b : Addr} {o : Obj}, s₁.heap.get? b = some o → (∀ ws n, o.data ≠ .seq ws n) → o.data ≠ .fields #[] → startH K cs a vs ns b = none := fun {b o} e h1 h2 => by
    cases q : startH K cs a vs ns b with
    | none => rfl
    | some u =>
      rcases startH_cases q with ⟨h3, _⟩ | ⟨h3, _⟩
      · rw [(tab h3).1] at e; cases e; exact (h2 rfl).elim
      · rw [h3, ha] at e; cases e; exact (h1 _ _ rfl).elim
  have inB : ∀ {b : Addr} {o : Obj}, s₁.heap.get? b = some o → startH K cs a vs ns b = none → (hidT s₁.heap (startH K cs a vs ns)).get? b = some o := fun e n => hidT_get e n
  have dictB : ∀ {b : Addr} {m : Str → Option Value}, s₁.heap.Ns b m → (hidT s₁.heap (startH K cs a vs ns)).Ns b m := fun {b m} ⟨o, es, ep, e, d, r⟩ =>
    ⟨o, es, ep, inB e (free e (fun _ _ z => by rw [d] at z; cases z) fun z => by rw [d] at z; cases z), d, r⟩
  have KB : K.In (hidT s₁.heap (startH K cs a vs ns)) := fun b o e => inB (KX b o e) (by
    cases q : startH K cs a vs ns b with
    | none => rfl
    | some u =>
      rcases startH_cases q with ⟨h3, _⟩ | ⟨h3, h4, _⟩
      · rw [(tab h3).2.1] at e; cases e
      · rw [h3, h4] at e; cases e)
  have MB : L2.Mod K mg (hidT s₁.heap (startH K cs a vs ns)) := ⟨KB, dictB hns, ⟨mb, dictB hb, hbb⟩, let ⟨mc, h1, h2⟩ := hlim; ⟨mc, dictB h1, h2⟩⟩
  have TB : ∀ p ∈ cs, TabB (hidT s₁.heap (startH K cs a vs ns)) mg p.1 p.2 := fun p hp => by
    refine ⟨?_, ?_, fun z => ?_⟩
    · obtain ⟨o, us, file, tf, flags, tg, inF, text, tt, e1, r1, r2, r3, r⟩ := C p hp
      refine ⟨o, us, file, tf, flags, tg, inF, text, tt, inB e1 (free e1 (fun _ _ z => by rw [r2] at z; cases z) fun z => ?_), r1, r2, r3, r⟩
      rw [r2] at z
      cases z
      simp at r3
    · obtain ⟨bm, ob, b1, b2, b3, b4, b5, b6⟩ := hbm
      refine ⟨bm, ob, b1, b2, fun q => ?_, fun q => ?_, inB b3 (free b3 (fun _ _ z => by rw [b6] at z; cases z) fun z => by rw [b6] at z; cases z), b4, b5, b6⟩
      · obtain ⟨o, es, ep, e, hd, _⟩ := hns
        rw [q, e] at b3; cases b3
        rw [hd] at b6; cases b6
      · rw [q, hT p hp] at b3; cases b3; cases b6
    · obtain ⟨o, es, ep, e, hd, _⟩ := hns
      rw [z, hT p hp] at e
      cases e; cases hd
  have e0 : Env0 P w K mg (hidT s₁.heap (startH K cs a vs ns)) callerA [] s₁ (startH K cs a vs ns) := ⟨rfl, MB, fun b o e => of_hidT e, Nat.le_of_eq (hidT_size _ _), trivial, fun b hb => absurd (show b ∈ ([] : List Addr) from hb) (by simp), hok, .of_eq hg⟩
  refine codeAny_mono ((F _ KB (dictB hns) TB).run callerA [] s₁ _ ⟨[.ref a], []⟩ [.ref a] [.ref a] _ _ hr rfl e0 (hbind s₁ (.ref a)) (.cons rfl .nil) (hsp _ HT HS)) fun r s' h => ?_
  match r, h with
  | .error e, h => obtain ⟨_, _, _, _, _, _, _, _, _, _, _, _, z⟩ := h; exact z.elim
  | .ok (.ret u), h =>
    obtain ⟨v, H', os, bare, un, hok', r', q⟩ := h
    have q : v = .bl true := q
    subst q
    have r' : u = Value.bool true := r'
    subst r'
    have kept : ∀ b o, b ∉ cs.map (·.2) → s₁.heap.get? b = some o → s'.heap.get? b = some o := fun b o nb e => by
      cases q : startH K cs a vs ns b with
      | none => exact un.keep b o e q (by intro z; exact absurd (show b ∈ ([] : List Addr) from z) (by simp)) (by simp)
      | some u =>
        rcases startH_cases q with ⟨h3, _⟩ | ⟨rfl, _, rfl⟩
        · exact absurd h3 nb
        · have z := hok' _ _ (un.frzs _ _ _ q)
          rw [ha] at e; cases e
          exact z.1
    refine ⟨rfl, ⟨fun b o e => ?_, fun b o e => ?_⟩, os, bare⟩
    · by_cases hb : b ∈ cs.map (·.2)
      · obtain ⟨t1, _, p, hp, rfl⟩ := tab hb
        obtain ⟨more, z⟩ := un.tbls p.2 #[] (HT p hp)
        have hm : s'.heap.get? p.2 = some { cls := .none, data := .fields (#[] ++ more) } := hok' p.2 _ z
        rw [t1] at e
        cases e
        exact .inr (.inl ⟨((C p hp).tab (hT p hp)).isCodeTable, rfl, #[], more, rfl, hm⟩)
      · exact .inl (kept b o hb e)
    · by_cases hb : b ∈ cs.map (·.2)
      · obtain ⟨_, _, p, hp, rfl⟩ := tab hb
        obtain ⟨more, z⟩ := un.tbls p.2 #[] (HT p hp)
        exact ⟨_, hok' p.2 _ z⟩
      · exact ⟨o, kept b o hb e⟩
end
/-- what is known of the law's promise at the head's heap h -/
def LawAtG (l : PySem.W.OpenLaw) (w : World) (K : PySem.W.Frag) (k n : Nat) (x : Str) (mg : Str → Option Value) (fa : Addr) (h : Heap) : Prop :=
  ∃ (fd : FuncData) (cs : List (Addr × Addr)) (sp : Sp), (∀ p ∈ cs, h.get? p.2 = some emptyO ∧ K.lookup p.2 = none ∧ PySem.W.CodeHd h p.1 p.2) ∧ (∀ (s : Shared) (u : Value), BindsTo s fd ⟨[u], []⟩ [(x, u)]) ∧
    (∀ (H : Hp) (a : Addr) (ns : List Int), ns.length ≤ n → (∀ z ∈ ns, Builtin.Int.intBits z ≤ 1048576) → (∀ p ∈ cs, H p.2 = some (.tbl #[])) → SqL K H a (ns.map V.int) → sp [.ref a] H (fun v _ => v = .bl true) fun _ _ _ => False) ∧
    ∀ base : Heap, K.In base → base.Ns mainGlobals mg → (∀ p ∈ cs, TabB base mg p.1 p.2) → FnG l.prog w K mg base k fa fd [x] sp
theorem walk_ofG {l : PySem.W.OpenLaw} {n k : Nat} {q : Program} {loose : List Str} {XP : (Str → Option Value) → Heap → Prop} {YP : World → Heap → Prop} {d : DefRec} {x : Str}
    (hn : l.most = some n) (hn2 : n ≤ sizeLine) (hdf : d.params.defaults = []) (hr : Room k callerA)
    (F : ∀ (w : World) (mg : Str → Option Value) (fa : Addr) (h : Heap), YP w h → h.Ns mainGlobals mg → mg d.name = some (.ref fa) → ∃ K : PySem.W.Frag, K.In h ∧ LawAtG l w K k n x mg fa h) :
    PySem.W.WalkO q loose XP YP l.row.toRowW d [] (fun f vs => PySem.call f vs) := by
  refine Att.attach_callB hn hdf fun w s₀ s₁ mg mb fa o pm cd doc a vs ns G Y ho hd hcd hmg hobj hints hlen hbits hg => ?_
  obtain ⟨K, KX, fd, cs, sp, hc, hb, hsp, hF⟩ := F w mg fa _ Y G.T.g hmg
  exact law_callG KX G.T.g G.T.b G.T.builtins G.T.nolimit hg (fun p hp => (hc p hp).1) (fun p hp => (hc p hp).2.1) (fun p hp => (hc p hp).2.2) G.T.bmain hobj hints (Nat.le_trans hlen hn2) hr hF hb fun H hH hS => hsp H a ns hlen hbits hH hS
end DL
set_option Elab.async false
set_option linter.all false
set_option maxRecDepth 100000
set_option maxHeartbeats 2000000
/-! Layer D: facts of the head: tables of written tuples, own exceptions, own classes. -/
namespace DL
open PySem PySem.Spec PyProof.Rows L2
/-! ### tables with text keys -/
/-- the address of the value at a key -/
def tabV (K : PySem.W.Frag) (d : Addr) (z : Str) : Addr := match PySem.W.nsIn K d z with
  | some (some (.ref a)) => a
  | _ => 0
def tblOf (K : PySem.W.Frag) (d : Addr) (ks : List Str) : List (Str × Addr) := ks.map fun z => (z, tabV K d z)
def tabB (K : PySem.W.Frag) (d : Addr) (ks : List Str) : Bool := ks.all fun z => decide (PySem.W.nsIn K d z = some (some (.ref (tabV K d z))))
theorem find_keys {P : Params} : ∀ {es : List DictEntry} {ks : List Str}, es.map He.keyOf = He.keysIn P ks → (∀ z, z ∉ ks → es.find? (·.key.isStr z) = none) ∧ es.any (·.refKey) = false
  | [], ks, h => ⟨fun z _ => rfl, rfl⟩
  | e :: es, [], h => by cases h
  | e :: es, k :: ks, h => by
    have h1 : He.keyOf e :: es.map He.keyOf = some (k, PyData.keyHash P k) :: He.keysIn P ks := h
    injection h1 with h2 h3
    obtain ⟨i1, i2⟩ := find_keys h3
    unfold He.keyOf at h2
    split at h2
    · rename_i x t q
      have h4 := (Prod.mk.inj (Option.some.inj h2)).1
      subst h4
      refine ⟨fun z hz => ?_, ?_⟩
      · simp only [List.mem_cons, not_or] at hz
        rw [List.find?_cons, q]
        have : (Value.str x t).isStr z = false := by
          show (x == z) = false
          simpa using fun e => hz.1 e.symm
        rw [this]
        exact i1 z hz.2
      · rw [List.any_cons, i2]
        unfold DictEntry.refKey
        rw [q]; rfl
    · cases h2
theorem lookup_map {f : Str → Addr} : ∀ {ks : List Str} {z : Str}, (ks.map fun z => (z, f z)).lookup z = if z ∈ ks then some (f z) else none
  | [], z => by simp
  | k :: ks, z => by
    rw [List.map_cons, List.lookup_cons]
    by_cases h : z = k
    · subst h; simp
    · have : (z == k) = false := by simpa using h
      rw [this]
      show (ks.map fun z => (z, f z)).lookup z = _
      rw [lookup_map]
      simp [h]
theorem ctab_of {K : PySem.W.Frag} {w : World} {mg : Str → Option Value} {x : Str} {d : Addr} {ks : List Str} (hm : mg x = some (.ref d)) (h : He.dicW K d = some (He.keysIn w.params ks)) (hb : tabB K d ks = true) : CTab K w mg x (tblOf K d ks) := by
  obtain ⟨es, n, kd⟩ := He.dicW_ok h
  refine ⟨d, es, n, hm, kd, fun z => ?_⟩
  unfold tblOf
  rw [lookup_map]
  by_cases hz : z ∈ ks
  · rw [if_pos hz]
    exact of_decide_eq_true (List.all_eq_true.mp hb z hz)
  · rw [if_neg hz]
    unfold He.dicW at h
    unfold PySem.W.nsIn
    cases q : K.lookup d with
    | none => rw [q] at h; cases h
    | some o =>
      obtain ⟨oc, od, dt, osl⟩ := o
      rw [q] at h
      cases oc with
      | type c =>
        cases od with
        | none =>
          cases dt with
          | dict es n =>
            have h1 : (match decide (c = "dict") && (osl.isEmpty && !(d == sysModules)) with
              | true => some (es.toList.map He.keyOf)
              | false => none) = some (He.keysIn w.params ks) := h
            split at h1
            · obtain ⟨i1, i2⟩ := find_keys (Option.some.inj h1)
              show (match es.toList.find? (·.key.isStr z) with
                | some e => some (some e.val)
                | none => if es.toList.any (·.refKey) then none else some none) = _
              rw [i1 z hz, i2]; rfl
            · cases h1
          | _ => cases h
        | some a => cases dt <;> cases h
      | _ => cases od <;> cases dt <;> cases h
/-! ### written tuples -/
/-- a written tuple's items -/
def itsOf (K : PySem.W.Frag) (a : Addr) : Option (List Value) := match K.lookup a with
  | some ⟨.type c, _, .seq its _, _⟩ => if c = "tuple" ∧ its.size ≤ 1000 then some its.toList else none
  | _ => none
def decV : Value → Option D
  | .ref a => some (.ref a)
  | .int i _ => some (.int i)
  | .str x _ => some (.str x)
  | .none => some .non
  | .bool b => some (.bl b)
  | _ => none
def decVs : List Value → Option (List D)
  | [] => some []
  | v :: vs => match decV v, decVs vs with
    | some d, some ds => some (d :: ds)
    | _, _ => none
def ktOf (K : PySem.W.Frag) (a : Addr) : Option (List D) := (itsOf K a).bind decVs
theorem decV_ok {u : Value} {d : D} (h : decV u = some d) : ∃ v, L2.RelV v u ∧ ∀ Z H, Rep Z H d v := by
  unfold decV at h
  split at h
  · cases h; exact ⟨.ref _, rfl, fun _ _ => by simp only [Rep]⟩
  · cases h; exact ⟨.int _, ⟨_, rfl⟩, fun _ _ => by simp only [Rep]⟩
  · cases h; exact ⟨.str _, ⟨_, rfl⟩, fun _ _ => by simp only [Rep]⟩
  · cases h; exact ⟨.non, rfl, fun _ _ => by simp only [Rep]⟩
  · cases h; exact ⟨.bl _, rfl, fun _ _ => by simp only [Rep]⟩
  · cases h
theorem decVs_ok : ∀ {us : List Value} {ds : List D}, decVs us = some ds → ∃ vs, Vals vs us ∧ ∀ Z H, Reps Z H ds vs
  | [], ds, h => by cases h; exact ⟨[], .nil, fun _ _ => .nil⟩
  | u :: us, ds, h => by
    unfold decVs at h
    split at h
    · rename_i d r e1 e2
      cases h
      obtain ⟨v, h1, h2⟩ := decV_ok e1
      obtain ⟨vs, h3, h4⟩ := decVs_ok e2
      exact ⟨v :: vs, .cons h1 h3, fun Z H => .cons (h2 Z H) (h4 Z H)⟩
    · cases h
theorem kts_of (K : PySem.W.Frag) : KTs K (ktOf K) := by
  intro a ds h Z H
  obtain ⟨us, e1, e2⟩ := Option.bind_eq_some_iff.mp h
  obtain ⟨vs, h1, h2⟩ := decVs_ok e2
  refine ⟨vs, ?_, h2 Z H⟩
  unfold itsOf at e1
  split at e1
  · rename_i c od its n sl q
    split at e1
    · rename_i hc
      cases e1
      exact .inr ⟨_, its, n, q, congrArg Value.type hc.1, rfl, Nat.le_trans hc.2 (by rw [sizeLine_eq]; omega), h1⟩
    · cases e1
  · cases e1
/-! ### own exceptions, own classes -/
def oexB (K : PySem.W.Frag) (C : Addr) : Bool := (match K.lookup C with
  | some ⟨.type "type", _, .cls cd, sl⟩ => (match cd.mro, sl.toList with
    | .ref C' :: bm, [_, _, _, _, some (.builtin n), _] => decide (C' = C) && (decide (n = "ValueError.__new__") && (!cd.hasDel && (cd.hasDict && PySem.HandSPX.refsVE bm)))
    | _, _ => false)
  | _ => false) && (decide (PySem.W.findIn K (.ref C) "__setattr__" = some (some (.builtin "object.__setattr__"))) && (decide (PySem.W.subIn K (.ref C) (.type "BaseException") = some true) && (decide (PySem.W.typeIn K (.ref C) = some (.type "type")) && PySem.W.keepIn K (.ref C))))
theorem oexB_ok {K : PySem.W.Frag} {C : Addr} (h : oexB K C = true) : OexC K C := by
  unfold oexB at h
  simp only [Bool.and_eq_true, decide_eq_true_eq] at h
  obtain ⟨q, h1, h2, h3, h4⟩ := h
  refine ⟨?_, h1, h2, h3, h4⟩
  split at q
  · rename_i dd cd sl ho
    split at q
    · rename_i C' bm k0 k1 k2 k3 n k5 hm hs
      simp only [Bool.and_eq_true, decide_eq_true_eq, Bool.not_eq_true'] at q
      obtain ⟨rfl, rfl, hdel, hd, ht⟩ := q
      obtain ⟨nm, bs, mro, ns, qn, hdc, sn, sub, ab, col, del⟩ := cd
      dsimp only at hm hdel hd
      subst hm hdel hd
      have hsl : sl = #[k0, k1, k2, k3, some (.builtin "ValueError.__new__"), k5] := by
        obtain ⟨l⟩ := sl
        simp only at hs
        rw [hs]
      subst hsl
      exact ⟨nm, qn, ns, bs, bm, sn, sub, ab, col, dd, k0, k1, k2, k3, k5, ho, ht⟩
    · cases q
  · cases q
def ownB (K : PySem.W.Frag) (C : Addr) : Bool := decide (PySem.W.findIn K (.ref C) "__class__" = some (some (.builtin "object.__class__"))) && (decide (PySem.W.specialIn K (.builtin "object.__class__") "__get__" = some (some (.builtin "getset_descriptor.__get__"))) &&
  (decide (PySem.W.takesIn K (.builtin "object.__class__") = some true) && decide (PySem.W.mroIn K C (.type "object") = some true)))
theorem ownB_ok {K : PySem.W.Frag} {C : Addr} (c : Cls K C) (h : ownB K C = true) : OwnC K C := by
  unfold ownB at h
  simp only [Bool.and_eq_true, decide_eq_true_eq] at h
  exact ⟨c, h.1, h.2.1, h.2.2.1, h.2.2.2⟩
end DL
set_option Elab.async false
set_option linter.all false
set_option maxRecDepth 100000
set_option maxHeartbeats 1000000
namespace K89
open PySem PySem.Spec PyProof.Rows L2 DL
/-! ### the written tuples of the kinds -/
def refIt : List Value → Option (Addr × Nat)
  | [.ref t, .int m _] => if 0 ≤ m then some (t, m.toNat) else none
  | _ => none
def strsOf : List Value → Option (List Str)
  | [] => some []
  | .str x _ :: vs => (strsOf vs).map (x :: ·)
  | _ => none
def rowB (K : PySem.W.Frag) (d : Addr) (z : Str) : Bool := match (itsOf K (tabV K d z)).bind refIt with
  | some (t, m) => decide (m = (specOf z).2) && decide ((itsOf K t).bind strsOf = some (specOf z).1)
  | none => false
theorem strsOf_dec : ∀ {vs : List Value} {l : List Str}, strsOf vs = some l → decVs vs = some (txs l)
  | [], l, h => by cases h; rfl
  | v :: vs, l, h => by
    unfold strsOf at h
    split at h
    · rename_i h0; cases h0
    · rename_i x t r h0
      cases h0
      obtain ⟨l', e, rfl⟩ := Option.map_eq_some_iff.mp h
      unfold decVs
      rw [show decV (.str x t) = some (.str x) from rfl, strsOf_dec e]; rfl
    · cases h
theorem rowB_ok {K : PySem.W.Frag} {d : Addr} {ks : List Str} (h : ks.all (rowB K d) = true) : ∀ z a, (tblOf K d ks).lookup z = some a → ∃ t, ktOf K a = some [.ref t, .int (specOf z).2] ∧ ktOf K t = some (txs (specOf z).1) := fun z a e => by
  unfold tblOf at e
  rw [lookup_map] at e
  by_cases hz : z ∈ ks
  · rw [if_pos hz] at e
    cases e
    have h := List.all_eq_true.mp h z hz
    unfold rowB at h
    split at h
    · rename_i t m h1
      simp only [Bool.and_eq_true, decide_eq_true_eq] at h
      obtain ⟨rfl, h3⟩ := h
      obtain ⟨us, e1, e2⟩ := Option.bind_eq_some_iff.mp h1
      obtain ⟨us2, e3, e4⟩ := Option.bind_eq_some_iff.mp h3
      refine ⟨t, ?_, ?_⟩
      · unfold ktOf
        rw [e1]
        unfold refIt at e2
        split at e2
        · rename_i t' m' k'
          split at e2
          · rename_i h0
            obtain ⟨e5, e6⟩ := Prod.mk.inj (Option.some.inj e2)
            subst e5
            show decVs [.ref t', .int m' k'] = _
            rw [← e6, show ((m'.toNat : Nat) : Int) = m' by omega]
            rfl
          · cases e2
        · cases e2
      · unfold ktOf
        rw [e3]
        exact strsOf_dec e4
    · cases h
  · rw [if_neg hz] at e; cases e
end K89
set_option Elab.async false
set_option linter.all false
set_option maxRecDepth 100000
set_option maxHeartbeats 0
namespace K89
open PySem PySem.Spec PyProof.Rows L2 DL
/-! ### the head: facts by names, the run -/
def d_is_name : He.DefD := ⟨("is_name", none), "is_name", "is_name", defArgs s_is_name, defBody s_is_name, defScope s_is_name, [], []⟩
def d_is_n : He.DefD := ⟨("is_n", none), "is_n", "is_n", defArgs s_is_n, defBody s_is_n, defScope s_is_n, [], []⟩
def d_is_z : He.DefD := ⟨("is_z", none), "is_z", "is_z", defArgs s_is_z, defBody s_is_z, defScope s_is_z, [], []⟩
def d_is_v : He.DefD := ⟨("is_v", none), "is_v", "is_v", defArgs s_is_v, defBody s_is_v, defScope s_is_v, [], []⟩
def d_fits : He.DefD := ⟨("fits", none), "fits", "fits", defArgs s_fits, defBody s_fits, defScope s_fits, [], []⟩
def d_limit_of : He.DefD := ⟨("limit_of", none), "limit_of", "limit_of", defArgs s_limit_of, defBody s_limit_of, defScope s_limit_of, [], []⟩
def d_kind_at : He.DefD := ⟨("kind_at", none), "kind_at", "kind_at", defArgs s_kind_at, defBody s_kind_at, defScope s_kind_at, [], []⟩
def d_cells_behind : He.DefD := ⟨("cells_behind", none), "cells_behind", "cells_behind", defArgs s_cells_behind, defBody s_cells_behind, defScope s_cells_behind, [], []⟩
def d__law_pen : He.DefD := ⟨("_law_pen", none), "_law_pen", "_law_pen", defArgs s__law_pen, defBody s__law_pen, defScope s__law_pen, [], []⟩
def d__law_draw : He.DefD := ⟨("_law_draw", none), "_law_draw", "_law_draw", defArgs s__law_draw, defBody s__law_draw, defScope s__law_draw, [], []⟩
def d__law_pick : He.DefD := ⟨("_law_pick", none), "_law_pick", "_law_pick", defArgs s__law_pick, defBody s__law_pick, defScope s__law_pick, [], []⟩
def d__law_is_name : He.DefD := ⟨("_law_is_name", none), "_law_is_name", "_law_is_name", defArgs s__law_is_name, defBody s__law_is_name, defScope s__law_is_name, [], []⟩
def d__law_names : He.DefD := ⟨("_law_names", none), "_law_names", "_law_names", defArgs s__law_names, defBody s__law_names, defScope s__law_names, [], []⟩
def d__law_met : He.DefD := ⟨("_law_met", none), "_law_met", "_law_met", defArgs s__law_met, defBody s__law_met, defScope s__law_met, [], []⟩
def d__law_is_n : He.DefD := ⟨("_law_is_n", none), "_law_is_n", "_law_is_n", defArgs s__law_is_n, defBody s__law_is_n, defScope s__law_is_n, [], []⟩
def d__law_is_z : He.DefD := ⟨("_law_is_z", none), "_law_is_z", "_law_is_z", defArgs s__law_is_z, defBody s__law_is_z, defScope s__law_is_z, [], []⟩
def d__law_fits : He.DefD := ⟨("_law_fits", none), "_law_fits", "_law_fits", defArgs s__law_fits, defBody s__law_fits, defScope s__law_fits, [], []⟩
def d__law_vow_forms : He.DefD := ⟨("_law_vow_forms", none), "_law_vow_forms", "_law_vow_forms", defArgs s__law_vow_forms, defBody s__law_vow_forms, defScope s__law_vow_forms, [], []⟩
def d__law_vow_due : He.DefD := ⟨("_law_vow_due", none), "_law_vow_due", "_law_vow_due", defArgs s__law_vow_due, defBody s__law_vow_due, defScope s__law_vow_due, [], []⟩
def d__law_vow_word : He.DefD := ⟨("_law_vow_word", none), "_law_vow_word", "_law_vow_word", defArgs s__law_vow_word, defBody s__law_vow_word, defScope s__law_vow_word, [], []⟩
def d__law_bent_vow : He.DefD := ⟨("_law_bent_vow", none), "_law_bent_vow", "_law_bent_vow", defArgs s__law_bent_vow, defBody s__law_bent_vow, defScope s__law_bent_vow, [], []⟩
def d__law_shown : He.DefD := ⟨("_law_shown", none), "_law_shown", "_law_shown", defArgs s__law_shown, defBody s__law_shown, defScope s__law_shown, [], []⟩
def d_law : He.DefD := ⟨("law", none), "law", "law", defArgs s_law, defBody s_law, defScope s_law, [], []⟩
def d_Vow_init : He.DefD := ⟨("Vow", some "__init__"), "__init__", "Vow.__init__", defArgs s_Vow_init, defBody s_Vow_init, defScope s_Vow_init, [], []⟩
def d_BadText_init : He.DefD := ⟨("BadText", some "__init__"), "__init__", "BadText.__init__", defArgs s_BadText_init, defBody s_BadText_init, defScope s_BadText_init, [], []⟩
def fn : List He.DefD := [d_is_name, d_is_n, d_is_z, d_is_v, d_fits, d_limit_of, d_kind_at, d_cells_behind, d__law_pen, d__law_draw, d__law_pick, d__law_is_name, d__law_names, d__law_met, d__law_is_n, d__law_is_z, d__law_fits, d__law_vow_forms, d__law_vow_due, d__law_vow_word, d__law_bent_vow, d__law_shown, d_law, d_Vow_init, d_BadText_init]
def fa : List He.Fa := ([.glo "is_name", .glo "is_n", .glo "is_z", .glo "is_v", .glo "fits", .glo "limit_of", .glo "kind_at", .glo "cells_behind", .glo "_law_pen", .glo "_law_draw", .glo "_law_pick", .glo "_law_is_name", .glo "_law_names", .glo "_law_met", .glo "_law_is_n", .glo "_law_is_z", .glo "_law_fits", .glo "_law_vow_forms", .glo "_law_vow_due", .glo "_law_vow_word", .glo "_law_bent_vow", .glo "_law_shown", .glo "law", .glo "ClimbError", .glo "BadText", .glo "BadNumber", .glo "BadName", .glo "BadLand", .glo "BadArrangement", .glo "TakenName"] : List He.Fa) ++ ([.glo "NotThere", .glo "Unlike", .glo "NotKept", .glo "NoName", .glo "NothingToUndo", .glo "NothingToRedo", .glo "Vow", .glo "PLAIN", .glo "TIMED", .free "len", .free "all", .free "int", .free "str", .free "isinstance", .free "enumerate", .free "range", .free "tuple", .free "list", .free "repr", .str "FIGURES" "0123456789", .str "SMALL" lowS, .str "SIGNS" sigS, .cls "Vow", .mkr "Vow", .noat "Vow" "text", .noat "Vow" "name", .noat "Vow" "kind", .noat "Vow" "other", .noat "Vow" "when", .noat "Vow" "limit"] : List He.Fa) ++ ([.noat "Vow" "column", .noat "Vow" "cells", .noat "BadText" "line", .noat "BadText" "column", .exm "BadText" "BadText" true, .meth "BadText" "__init__"] : List He.Fa)
def ts : List He.Tab := [(fun K => He.ga K "PLAIN", plainK), (fun K => He.ga K "TIMED", timedK)]
def tf : List He.Defn := [("law", none)]
def ex (K : PySem.W.Frag) : Bool := oexB K (He.ga K "BadText") && (xfB K (He.ga K "BadText") && (ownB K (He.ga K "Vow") && (tabB K (He.ga K "PLAIN") plainK && (tabB K (He.ga K "TIMED") timedK && (plainK.all (rowB K (He.ga K "PLAIN")) && timedK.all (rowB K (He.ga K "TIMED")))))))
abbrev R : PySem.W.OpenRow := PySem.W.OpenLaw.row PySem.Challenge.rw_climbabout_k89_promises_read
abbrev hk : PySem.W.Hook := He.hookX 4 fa fn ts tf ex
def ob (s : PySem.W.SharedT) : He.AlX := He.obsX 4 fa fn ts tf ex (HandSHeadRun.getT s)
theorem ob_eq (s : PySem.W.SharedT) : ob s = hk.obs s.abs := He.obsX_eq (HandSHeadRun.getT_eq s)
def loose : List PySem.Str := (["SMALL", "SIGNS", "ClimbError", "BadText", "BadNumber", "BadName", "BadLand", "BadArrangement", "TakenName", "NotThere", "Unlike", "NotKept", "NoName", "NothingToUndo", "NothingToRedo", "is_name", "FIGURES", "is_n", "is_z", "PLAIN", "TIMED", "is_v", "fits", "limit_of", "kind_at", "cells_behind", "Vow", "_law_pen", "_law_draw", "_law_pick"] : List PySem.Str) ++ (["_law_is_name", "_law_names", "_law_met", "_law_is_n", "_law_is_z", "_law_fits", "_law_vow_forms", "_law_vow_due", "_law_vow_word", "_law_bent_vow", "_law_shown"] : List PySem.Str)
theorem run (w : World) : HandSHeadRun.RunEq R (PySem.W.view R.prog [45]) hk ob 12000 loose w :=
  PySem.W.byRow2 "special-get-raises" (P := fun w => HandSHeadRun.RunEq R (PySem.W.view R.prog [45]) hk ob 12000 loose w) (fun w => by intro os; kernel_rfl) (fun w => by intro os; kernel_rfl) w
end K89
set_option Elab.async false
set_option linter.all false
set_option maxRecDepth 100000
set_option maxHeartbeats 4000000
namespace K89
open PySem PySem.Spec PyProof.Rows L2 DL LamX
theorem cal_of {P : Program} {w : World} {K : PySem.W.Frag} {mg : Str → Option Value} {base : Heap} {k : Nat} {x : Str} {st : Stmt} {ps : List Str} {sp : Sp} {f : Addr} {fd : FuncData} (F : FnP K x st f fd) (hm : mg x = some (.ref f)) (hb : Binds K fd ps []) (G : FnG P w K mg base k f fd ps sp) : Cal P w K mg base k x ps sp := ⟨f, fd, G, hm, F.kp, hb⟩
theorem tab_at {fa : List He.Fa} {fn : List He.DefD} {ts : List He.Tab} {w : World} {K : PySem.W.Frag} (c : He.SaysT fa fn ts w K) (i : Nat) {t : He.Tab} (h : ts[i]? = some t) : He.dicW K (t.1 K) = some (He.keysIn w.params t.2) := by
  have e : ts.map (fun t => He.dicW K (t.1 K)) = ts.map fun t => some (He.keysIn w.params t.2) := congrArg (fun z : He.AlT => z.2) c
  have e2 : (ts.map fun t => He.dicW K (t.1 K))[i]? = (ts.map fun t => some (He.keysIn w.params t.2))[i]? := by rw [e]
  rw [List.getElem?_map, List.getElem?_map, h] at e2
  exact Option.some.inj e2
section
variable {P : Program} {w : World} {K : PySem.W.Frag} {mg : Str → Option Value} {base h : Heap}
theorem facts (X : K.In base) (N : base.Ns mainGlobals mg) (c : He.SaysX fa fn ts tf ex w h K) (TB : TabB base mg (He.cT K ("law", none)).1 (He.cT K ("law", none)).2) {fd_law : FuncData} (F_law : FnP K "law" s_law (He.ga K "law") fd_law) :
    FnG P w K mg base 10 (He.ga K "law") fd_law ["script"] (spL [((He.cT K ("law", none)).2, qLam)] (spN (preL K) postL)) := by
  have cd := c.t.d
  obtain ⟨fd_is_name, F_is_name⟩ := cd.def_ 0 (d := d_is_name) rfl
  have F_is_name : FnP K "is_name" s_is_name (He.ga K "is_name") fd_is_name := F_is_name
  have b_is_name : Binds K fd_is_name ["value"] [] := FunD.bindsN F_is_name fun _ _ _ _ _ _ us hl => match us, hl with | [_], _ => rfl
  have m_is_name : mg "is_name" = some (.ref (He.ga K "is_name")) := He.glo_ok X N (cd.fact 0 (f := .glo "is_name") rfl)
  obtain ⟨fd_is_n, F_is_n⟩ := cd.def_ 1 (d := d_is_n) rfl
  have F_is_n : FnP K "is_n" s_is_n (He.ga K "is_n") fd_is_n := F_is_n
  have b_is_n : Binds K fd_is_n ["word"] [] := FunD.bindsN F_is_n fun _ _ _ _ _ _ us hl => match us, hl with | [_], _ => rfl
  have m_is_n : mg "is_n" = some (.ref (He.ga K "is_n")) := He.glo_ok X N (cd.fact 1 (f := .glo "is_n") rfl)
  obtain ⟨fd_is_z, F_is_z⟩ := cd.def_ 2 (d := d_is_z) rfl
  have F_is_z : FnP K "is_z" s_is_z (He.ga K "is_z") fd_is_z := F_is_z
  have b_is_z : Binds K fd_is_z ["word"] [] := FunD.bindsN F_is_z fun _ _ _ _ _ _ us hl => match us, hl with | [_], _ => rfl
  have m_is_z : mg "is_z" = some (.ref (He.ga K "is_z")) := He.glo_ok X N (cd.fact 2 (f := .glo "is_z") rfl)
  obtain ⟨fd_is_v, F_is_v⟩ := cd.def_ 3 (d := d_is_v) rfl
  have F_is_v : FnP K "is_v" s_is_v (He.ga K "is_v") fd_is_v := F_is_v
  have b_is_v : Binds K fd_is_v ["word"] [] := FunD.bindsN F_is_v fun _ _ _ _ _ _ us hl => match us, hl with | [_], _ => rfl
  have m_is_v : mg "is_v" = some (.ref (He.ga K "is_v")) := He.glo_ok X N (cd.fact 3 (f := .glo "is_v") rfl)
  obtain ⟨fd_fits, F_fits⟩ := cd.def_ 4 (d := d_fits) rfl
  have F_fits : FnP K "fits" s_fits (He.ga K "fits") fd_fits := F_fits
  have b_fits : Binds K fd_fits ["word", "form"] [] := FunD.bindsN F_fits fun _ _ _ _ _ _ us hl => match us, hl with | [_, _], _ => rfl
  have m_fits : mg "fits" = some (.ref (He.ga K "fits")) := He.glo_ok X N (cd.fact 4 (f := .glo "fits") rfl)
  obtain ⟨fd_limit_of, F_limit_of⟩ := cd.def_ 5 (d := d_limit_of) rfl
  have F_limit_of : FnP K "limit_of" s_limit_of (He.ga K "limit_of") fd_limit_of := F_limit_of
  have b_limit_of : Binds K fd_limit_of ["word", "form"] [] := FunD.bindsN F_limit_of fun _ _ _ _ _ _ us hl => match us, hl with | [_, _], _ => rfl
  have m_limit_of : mg "limit_of" = some (.ref (He.ga K "limit_of")) := He.glo_ok X N (cd.fact 5 (f := .glo "limit_of") rfl)
  obtain ⟨fd_kind_at, F_kind_at⟩ := cd.def_ 6 (d := d_kind_at) rfl
  have F_kind_at : FnP K "kind_at" s_kind_at (He.ga K "kind_at") fd_kind_at := F_kind_at
  have b_kind_at : Binds K fd_kind_at ["words"] [] := FunD.bindsN F_kind_at fun _ _ _ _ _ _ us hl => match us, hl with | [_], _ => rfl
  have m_kind_at : mg "kind_at" = some (.ref (He.ga K "kind_at")) := He.glo_ok X N (cd.fact 6 (f := .glo "kind_at") rfl)
  obtain ⟨fd_cells_behind, F_cells_behind⟩ := cd.def_ 7 (d := d_cells_behind) rfl
  have F_cells_behind : FnP K "cells_behind" s_cells_behind (He.ga K "cells_behind") fd_cells_behind := F_cells_behind
  have b_cells_behind : Binds K fd_cells_behind ["words", "begin", "many"] [] := FunD.bindsN F_cells_behind fun _ _ _ _ _ _ us hl => match us, hl with | [_, _, _], _ => rfl
  have m_cells_behind : mg "cells_behind" = some (.ref (He.ga K "cells_behind")) := He.glo_ok X N (cd.fact 7 (f := .glo "cells_behind") rfl)
  obtain ⟨fd__law_pen, F__law_pen⟩ := cd.def_ 8 (d := d__law_pen) rfl
  have F__law_pen : FnP K "_law_pen" s__law_pen (He.ga K "_law_pen") fd__law_pen := F__law_pen
  have b__law_pen : Binds K fd__law_pen ["script"] [] := FunD.bindsN F__law_pen fun _ _ _ _ _ _ us hl => match us, hl with | [_], _ => rfl
  have m__law_pen : mg "_law_pen" = some (.ref (He.ga K "_law_pen")) := He.glo_ok X N (cd.fact 8 (f := .glo "_law_pen") rfl)
  obtain ⟨fd__law_draw, F__law_draw⟩ := cd.def_ 9 (d := d__law_draw) rfl
  have F__law_draw : FnP K "_law_draw" s__law_draw (He.ga K "_law_draw") fd__law_draw := F__law_draw
  have b__law_draw : Binds K fd__law_draw ["pen", "many"] [] := FunD.bindsN F__law_draw fun _ _ _ _ _ _ us hl => match us, hl with | [_, _], _ => rfl
  have m__law_draw : mg "_law_draw" = some (.ref (He.ga K "_law_draw")) := He.glo_ok X N (cd.fact 9 (f := .glo "_law_draw") rfl)
  obtain ⟨fd__law_pick, F__law_pick⟩ := cd.def_ 10 (d := d__law_pick) rfl
  have F__law_pick : FnP K "_law_pick" s__law_pick (He.ga K "_law_pick") fd__law_pick := F__law_pick
  have b__law_pick : Binds K fd__law_pick ["pen", "some"] [] := FunD.bindsN F__law_pick fun _ _ _ _ _ _ us hl => match us, hl with | [_, _], _ => rfl
  have m__law_pick : mg "_law_pick" = some (.ref (He.ga K "_law_pick")) := He.glo_ok X N (cd.fact 10 (f := .glo "_law_pick") rfl)
  obtain ⟨fd__law_is_name, F__law_is_name⟩ := cd.def_ 11 (d := d__law_is_name) rfl
  have F__law_is_name : FnP K "_law_is_name" s__law_is_name (He.ga K "_law_is_name") fd__law_is_name := F__law_is_name
  have b__law_is_name : Binds K fd__law_is_name ["thing"] [] := FunD.bindsN F__law_is_name fun _ _ _ _ _ _ us hl => match us, hl with | [_], _ => rfl
  have m__law_is_name : mg "_law_is_name" = some (.ref (He.ga K "_law_is_name")) := He.glo_ok X N (cd.fact 11 (f := .glo "_law_is_name") rfl)
  obtain ⟨fd__law_names, F__law_names⟩ := cd.def_ 12 (d := d__law_names) rfl
  have F__law_names : FnP K "_law_names" s__law_names (He.ga K "_law_names") fd__law_names := F__law_names
  have b__law_names : Binds K fd__law_names ["pen", "many"] [] := FunD.bindsN F__law_names fun _ _ _ _ _ _ us hl => match us, hl with | [_, _], _ => rfl
  have m__law_names : mg "_law_names" = some (.ref (He.ga K "_law_names")) := He.glo_ok X N (cd.fact 12 (f := .glo "_law_names") rfl)
  obtain ⟨fd__law_met, F__law_met⟩ := cd.def_ 13 (d := d__law_met) rfl
  have F__law_met : FnP K "_law_met" s__law_met (He.ga K "_law_met") fd__law_met := F__law_met
  have b__law_met : Binds K fd__law_met ["call"] [] := FunD.bindsN F__law_met fun _ _ _ _ _ _ us hl => match us, hl with | [_], _ => rfl
  have m__law_met : mg "_law_met" = some (.ref (He.ga K "_law_met")) := He.glo_ok X N (cd.fact 13 (f := .glo "_law_met") rfl)
  obtain ⟨fd__law_is_n, F__law_is_n⟩ := cd.def_ 14 (d := d__law_is_n) rfl
  have F__law_is_n : FnP K "_law_is_n" s__law_is_n (He.ga K "_law_is_n") fd__law_is_n := F__law_is_n
  have b__law_is_n : Binds K fd__law_is_n ["word"] [] := FunD.bindsN F__law_is_n fun _ _ _ _ _ _ us hl => match us, hl with | [_], _ => rfl
  have m__law_is_n : mg "_law_is_n" = some (.ref (He.ga K "_law_is_n")) := He.glo_ok X N (cd.fact 14 (f := .glo "_law_is_n") rfl)
  obtain ⟨fd__law_is_z, F__law_is_z⟩ := cd.def_ 15 (d := d__law_is_z) rfl
  have F__law_is_z : FnP K "_law_is_z" s__law_is_z (He.ga K "_law_is_z") fd__law_is_z := F__law_is_z
  have b__law_is_z : Binds K fd__law_is_z ["word"] [] := FunD.bindsN F__law_is_z fun _ _ _ _ _ _ us hl => match us, hl with | [_], _ => rfl
  have m__law_is_z : mg "_law_is_z" = some (.ref (He.ga K "_law_is_z")) := He.glo_ok X N (cd.fact 15 (f := .glo "_law_is_z") rfl)
  obtain ⟨fd__law_fits, F__law_fits⟩ := cd.def_ 16 (d := d__law_fits) rfl
  have F__law_fits : FnP K "_law_fits" s__law_fits (He.ga K "_law_fits") fd__law_fits := F__law_fits
  have b__law_fits : Binds K fd__law_fits ["word", "form"] [] := FunD.bindsN F__law_fits fun _ _ _ _ _ _ us hl => match us, hl with | [_, _], _ => rfl
  have m__law_fits : mg "_law_fits" = some (.ref (He.ga K "_law_fits")) := He.glo_ok X N (cd.fact 16 (f := .glo "_law_fits") rfl)
  obtain ⟨fd__law_vow_forms, F__law_vow_forms⟩ := cd.def_ 17 (d := d__law_vow_forms) rfl
  have F__law_vow_forms : FnP K "_law_vow_forms" s__law_vow_forms (He.ga K "_law_vow_forms") fd__law_vow_forms := F__law_vow_forms
  have b__law_vow_forms : Binds K fd__law_vow_forms [] [] := FunD.bindsN F__law_vow_forms fun _ _ _ _ _ _ us hl => match us, hl with | [], _ => rfl
  have m__law_vow_forms : mg "_law_vow_forms" = some (.ref (He.ga K "_law_vow_forms")) := He.glo_ok X N (cd.fact 17 (f := .glo "_law_vow_forms") rfl)
  obtain ⟨fd__law_vow_due, F__law_vow_due⟩ := cd.def_ 18 (d := d__law_vow_due) rfl
  have F__law_vow_due : FnP K "_law_vow_due" s__law_vow_due (He.ga K "_law_vow_due") fd__law_vow_due := F__law_vow_due
  have b__law_vow_due : Binds K fd__law_vow_due ["text"] [] := FunD.bindsN F__law_vow_due fun _ _ _ _ _ _ us hl => match us, hl with | [_], _ => rfl
  have m__law_vow_due : mg "_law_vow_due" = some (.ref (He.ga K "_law_vow_due")) := He.glo_ok X N (cd.fact 18 (f := .glo "_law_vow_due") rfl)
  obtain ⟨fd__law_vow_word, F__law_vow_word⟩ := cd.def_ 19 (d := d__law_vow_word) rfl
  have F__law_vow_word : FnP K "_law_vow_word" s__law_vow_word (He.ga K "_law_vow_word") fd__law_vow_word := F__law_vow_word
  have b__law_vow_word : Binds K fd__law_vow_word ["pen", "form"] [] := FunD.bindsN F__law_vow_word fun _ _ _ _ _ _ us hl => match us, hl with | [_, _], _ => rfl
  have m__law_vow_word : mg "_law_vow_word" = some (.ref (He.ga K "_law_vow_word")) := He.glo_ok X N (cd.fact 19 (f := .glo "_law_vow_word") rfl)
  obtain ⟨fd__law_bent_vow, F__law_bent_vow⟩ := cd.def_ 20 (d := d__law_bent_vow) rfl
  have F__law_bent_vow : FnP K "_law_bent_vow" s__law_bent_vow (He.ga K "_law_bent_vow") fd__law_bent_vow := F__law_bent_vow
  have b__law_bent_vow : Binds K fd__law_bent_vow ["pen", "text"] [] := FunD.bindsN F__law_bent_vow fun _ _ _ _ _ _ us hl => match us, hl with | [_, _], _ => rfl
  have m__law_bent_vow : mg "_law_bent_vow" = some (.ref (He.ga K "_law_bent_vow")) := He.glo_ok X N (cd.fact 20 (f := .glo "_law_bent_vow") rfl)
  obtain ⟨fd__law_shown, F__law_shown⟩ := cd.def_ 21 (d := d__law_shown) rfl
  have F__law_shown : FnP K "_law_shown" s__law_shown (He.ga K "_law_shown") fd__law_shown := F__law_shown
  have b__law_shown : Binds K fd__law_shown ["vow"] [] := FunD.bindsN F__law_shown fun _ _ _ _ _ _ us hl => match us, hl with | [_], _ => rfl
  have m__law_shown : mg "_law_shown" = some (.ref (He.ga K "_law_shown")) := He.glo_ok X N (cd.fact 21 (f := .glo "_law_shown") rfl)
  have b_law : Binds K fd_law ["script"] [] := FunD.bindsN F_law fun _ _ _ _ _ _ us hl => match us, hl with | [_], _ => rfl
  have m_law : mg "law" = some (.ref (He.ga K "law")) := He.glo_ok X N (cd.fact 22 (f := .glo "law") rfl)
  obtain ⟨fd_Vow, F_Vow⟩ := cd.def_ 23 (d := d_Vow_init) rfl
  have b_Vow : Binds K fd_Vow ["self", "text"] [] := FunD.bindsN F_Vow fun _ _ _ _ _ _ us hl => match us, hl with | [_, _], _ => rfl
  obtain ⟨fd_BadText, F_BadText⟩ := cd.def_ 24 (d := d_BadText_init) rfl
  have b_BadText : Binds K fd_BadText ["self", "line", "column"] [] := FunD.bindsN F_BadText fun _ _ _ _ _ _ us hl => match us, hl with | [_, _, _], _ => rfl
  have m_BadText : mg "BadText" = some (.ref (He.ga K "BadText")) := He.glo_ok X N (cd.fact 24 (f := .glo "BadText") rfl)
  have m_BadName : mg "BadName" = some (.ref (He.ga K "BadName")) := He.glo_ok X N (cd.fact 26 (f := .glo "BadName") rfl)
  have m_NoName : mg "NoName" = some (.ref (He.ga K "NoName")) := He.glo_ok X N (cd.fact 33 (f := .glo "NoName") rfl)
  have m_TakenName : mg "TakenName" = some (.ref (He.ga K "TakenName")) := He.glo_ok X N (cd.fact 29 (f := .glo "TakenName") rfl)
  have m_BadNumber : mg "BadNumber" = some (.ref (He.ga K "BadNumber")) := He.glo_ok X N (cd.fact 25 (f := .glo "BadNumber") rfl)
  have m_BadLand : mg "BadLand" = some (.ref (He.ga K "BadLand")) := He.glo_ok X N (cd.fact 27 (f := .glo "BadLand") rfl)
  have m_NotThere : mg "NotThere" = some (.ref (He.ga K "NotThere")) := He.glo_ok X N (cd.fact 30 (f := .glo "NotThere") rfl)
  have m_BadArrangement : mg "BadArrangement" = some (.ref (He.ga K "BadArrangement")) := He.glo_ok X N (cd.fact 28 (f := .glo "BadArrangement") rfl)
  have m_Unlike : mg "Unlike" = some (.ref (He.ga K "Unlike")) := He.glo_ok X N (cd.fact 31 (f := .glo "Unlike") rfl)
  have m_NotKept : mg "NotKept" = some (.ref (He.ga K "NotKept")) := He.glo_ok X N (cd.fact 32 (f := .glo "NotKept") rfl)
  have m_NothingToUndo : mg "NothingToUndo" = some (.ref (He.ga K "NothingToUndo")) := He.glo_ok X N (cd.fact 34 (f := .glo "NothingToUndo") rfl)
  have m_NothingToRedo : mg "NothingToRedo" = some (.ref (He.ga K "NothingToRedo")) := He.glo_ok X N (cd.fact 35 (f := .glo "NothingToRedo") rfl)
  have m_Vow : mg "Vow" = some (.ref (He.ga K "Vow")) := He.glo_ok X N (cd.fact 36 (f := .glo "Vow") rfl)
  have m_PLAIN : mg "PLAIN" = some (.ref (He.ga K "PLAIN")) := He.glo_ok X N (cd.fact 37 (f := .glo "PLAIN") rfl)
  have m_TIMED : mg "TIMED" = some (.ref (He.ga K "TIMED")) := He.glo_ok X N (cd.fact 38 (f := .glo "TIMED") rfl)
  have g_len : mg "len" = none := He.free_ok X N (cd.fact 39 (f := .free "len") rfl)
  have g_all : mg "all" = none := He.free_ok X N (cd.fact 40 (f := .free "all") rfl)
  have g_int : mg "int" = none := He.free_ok X N (cd.fact 41 (f := .free "int") rfl)
  have g_str : mg "str" = none := He.free_ok X N (cd.fact 42 (f := .free "str") rfl)
  have g_isinstance : mg "isinstance" = none := He.free_ok X N (cd.fact 43 (f := .free "isinstance") rfl)
  have g_enumerate : mg "enumerate" = none := He.free_ok X N (cd.fact 44 (f := .free "enumerate") rfl)
  have g_range : mg "range" = none := He.free_ok X N (cd.fact 45 (f := .free "range") rfl)
  have g_tuple : mg "tuple" = none := He.free_ok X N (cd.fact 46 (f := .free "tuple") rfl)
  have g_list : mg "list" = none := He.free_ok X N (cd.fact 47 (f := .free "list") rfl)
  have g_repr : mg "repr" = none := He.free_ok X N (cd.fact 48 (f := .free "repr") rfl)
  obtain ⟨t_FIGURES, g_FIGURES⟩ := He.str_ok X N (cd.fact 49 (f := .str "FIGURES" "0123456789") rfl)
  obtain ⟨t_SMALL, g_SMALL⟩ := He.str_ok X N (cd.fact 50 (f := .str "SMALL" lowS) rfl)
  obtain ⟨t_SIGNS, g_SIGNS⟩ := He.str_ok X N (cd.fact 51 (f := .str "SIGNS" sigS) rfl)
  have cV : Cls K (He.ga K "Vow") := He.cls_ok (cd.fact 52 (f := .cls "Vow") rfl)
  have kV : Mk K (He.ga K "Vow") (He.ma K (He.ga K "Vow") "__init__") := He.mkr_ok (cd.fact 53 (f := .mkr "Vow") rfl)
  have nV : ∀ n ∈ vowNs, NoAttr K (He.ga K "Vow") n := fun n hn => by
    simp only [List.mem_cons, List.not_mem_nil, or_false] at hn
    rcases hn with rfl | rfl | rfl | rfl | rfl | rfl | rfl | rfl
    · exact He.noat_ok (cd.fact 54 (f := .noat "Vow" "text") rfl)
    · exact He.noat_ok (cd.fact 55 (f := .noat "Vow" "name") rfl)
    · exact He.noat_ok (cd.fact 56 (f := .noat "Vow" "kind") rfl)
    · exact He.noat_ok (cd.fact 57 (f := .noat "Vow" "other") rfl)
    · exact He.noat_ok (cd.fact 58 (f := .noat "Vow" "when") rfl)
    · exact He.noat_ok (cd.fact 59 (f := .noat "Vow" "limit") rfl)
    · exact He.noat_ok (cd.fact 60 (f := .noat "Vow" "column") rfl)
    · exact He.noat_ok (cd.fact 61 (f := .noat "Vow" "cells") rfl)
  have fl : PySem.W.findIn K (.ref (He.ga K "BadText")) "line" = some none := He.noat_ok (cd.fact 62 (f := .noat "BadText" "line") rfl)
  have fc : PySem.W.findIn K (.ref (He.ga K "BadText")) "column" = some none := He.noat_ok (cd.fact 63 (f := .noat "BadText" "column") rfl)
  have exm : PySem.W.exmOne K (.ref (He.ga K "BadText")) (.ref (He.ga K "BadText")) = some true := He.exm_ok (cd.fact 64 (f := .exm "BadText" "BadText" true) rfl)
  have mB := He.meth_ok (cd.fact 65 (f := .meth "BadText" "__init__") rfl)
  have hex := c.more
  unfold ex at hex
  simp only [Bool.and_eq_true] at hex
  obtain ⟨x1, x2, x3, x4, x5, x6, x7⟩ := hex
  have oB := oexB_ok x1
  have xfB := xfB_ok x2
  have oV := ownB_ok cV x3
  have tP : He.dicW K (He.ga K "PLAIN") = some (He.keysIn w.params plainK) := (tab_at c.t 0 rfl)
  have tT : He.dicW K (He.ga K "TIMED") = some (He.keysIn w.params timedK) := (tab_at c.t 1 rfl)
  have k_PLAIN := ctab_of (w := w) m_PLAIN tP x4
  have k_TIMED := ctab_of (w := w) m_TIMED tT x5
  have keys : ∀ (d : Addr) (ks : List Str), keysOf (tblOf K d ks) = ks := fun d ks => by unfold keysOf tblOf; rw [List.map_map]; exact List.map_id' _
  have cBad : Exc P w K mg base 1 "BadText" (He.ga K "BadText") ["line", "column"] := ⟨_, fd_BadText, ["self", "line", "column"], m_BadText, oB, mB.at_, beq_iff_eq.mp mB.fn, xinit2 (n0' := "self") F_BadText (N := ["self", "line", "column"]) ⟨rfl, rfl, rfl, by decide +kernel, rfl, by decide +kernel, by decide +kernel⟩ rfl oB fl fc rfl rfl rfl (.inl rfl) (.inl rfl) (.inl rfl), b_BadText⟩
  have c_is_name := cal_of F_is_name m_is_name b_is_name (ok_is_name (P := P) (w := w) (base := base) F_is_name g_len g_all g_str g_isinstance g_SMALL g_SIGNS)
  have c_is_n := cal_of F_is_n m_is_n b_is_n (ok_is_n (P := P) (w := w) (base := base) F_is_n g_len g_all g_FIGURES)
  have c_is_z := cal_of F_is_z m_is_z b_is_z (ok_is_z F_is_z c_is_n)
  have c_is_v := cal_of F_is_v m_is_v b_is_v (ok_is_v F_is_v g_len g_all c_is_n)
  have c_fits := cal_of F_fits m_fits b_fits (ok_fits F_fits c_is_n c_is_name c_is_v)
  have c_limit_of := cal_of F_limit_of m_limit_of b_limit_of (ok_limit_of (P := P) (w := w) (base := base) F_limit_of g_int g_len)
  have c_kind_at := cal_of F_kind_at m_kind_at b_kind_at (ok_kind_at (keys _ _) (keys _ _) F_kind_at g_len c_is_name k_PLAIN k_TIMED cBad)
  have c_cells_behind := cal_of F_cells_behind m_cells_behind b_cells_behind (ok_cells_behind F_cells_behind g_len g_int g_enumerate g_range g_tuple c_is_z cBad)
  have cVow : VowC P w K mg base (He.ga K "BadText") (He.ga K "Vow") := ⟨_, _, kV, ok_Vow_init (keys _ _) (keys _ _) (kts_of K) (rowB_ok x6) (rowB_ok x7) F_Vow g_len g_str g_isinstance g_enumerate cV nV c_kind_at c_fits c_limit_of c_cells_behind k_PLAIN k_TIMED cBad, m_Vow, b_Vow⟩
  have c__law_pen := cal_of F__law_pen m__law_pen b__law_pen (ok_law_pen (P := P) (w := w) (base := base) F__law_pen g_int g_list)
  have c__law_draw := cal_of F__law_draw m__law_draw b__law_draw (ok_law_draw (P := P) (w := w) (base := base) F__law_draw g_int g_len)
  have c__law_pick := cal_of F__law_pick m__law_pick b__law_pick (ok_law_pick F__law_pick g_len c__law_draw)
  have c__law_names := cal_of F__law_names m__law_names b__law_names (ok_law_names F__law_names g_int g_range c__law_draw c__law_pick)
  have c__law_is_name := cal_of F__law_is_name m__law_is_name b__law_is_name (ok_law_is_name (P := P) (w := w) (base := base) F__law_is_name g_len g_str g_isinstance)
  have c__law_is_n := cal_of F__law_is_n m__law_is_n b__law_is_n (ok_law_is_n (P := P) (w := w) (base := base) F__law_is_n g_len)
  have c__law_is_z := cal_of F__law_is_z m__law_is_z b__law_is_z (ok_law_is_z F__law_is_z c__law_is_n)
  have c__law_fits := cal_of F__law_fits m__law_fits b__law_fits (ok_law_fits F__law_fits g_len c__law_is_n c__law_is_z c__law_is_name)
  have c__law_vow_forms := cal_of F__law_vow_forms m__law_vow_forms b__law_vow_forms (ok_law_vow_forms (P := P) (w := w) (mg := mg) (base := base) F__law_vow_forms)
  have c__law_vow_due := cal_of F__law_vow_due m__law_vow_due b__law_vow_due (ok_law_vow_due F__law_vow_due g_len g_range g_str g_isinstance c__law_vow_forms c__law_fits)
  have c__law_vow_word := cal_of F__law_vow_word m__law_vow_word b__law_vow_word (ok_law_vow_word F__law_vow_word g_str c__law_draw c__law_pick c__law_names)
  have c__law_bent_vow := cal_of F__law_bent_vow m__law_bent_vow b__law_bent_vow (ok_law_bent_vow F__law_bent_vow g_len c__law_draw c__law_pick)
  have c__law_shown := cal_of F__law_shown m__law_shown b__law_shown (ok_law_shown (P := P) (w := w) (base := base) F__law_shown g_isinstance m_Vow oV nV)
  have cMet : MetT K mg (He.ga K "_law_met") := ⟨_, F__law_met, m__law_met, F__law_met.kp, b__law_met⟩
  have cC : ∀ n ∈ (["BadText", "BadName", "NoName", "TakenName", "BadNumber", "BadLand", "NotThere", "BadArrangement", "Unlike", "NotKept", "NothingToUndo", "NothingToRedo"] : List Str), ∃ c : Addr, mg n = some (.ref c) := fun n hn => by
    simp only [List.mem_cons, List.not_mem_nil, or_false] at hn
    rcases hn with rfl | rfl | rfl | rfl | rfl | rfl | rfl | rfl | rfl | rfl | rfl | rfl
    · exact ⟨_, m_BadText⟩
    · exact ⟨_, m_BadName⟩
    · exact ⟨_, m_NoName⟩
    · exact ⟨_, m_TakenName⟩
    · exact ⟨_, m_BadNumber⟩
    · exact ⟨_, m_BadLand⟩
    · exact ⟨_, m_NotThere⟩
    · exact ⟨_, m_BadArrangement⟩
    · exact ⟨_, m_Unlike⟩
    · exact ⟨_, m_NotKept⟩
    · exact ⟨_, m_NothingToUndo⟩
    · exact ⟨_, m_NothingToRedo⟩
  exact ok_law F_law g_len g_range g_repr TB c__law_pen c__law_draw c__law_pick c__law_vow_forms c__law_vow_word c__law_bent_vow c__law_vow_due c__law_shown cVow cMet cC m_BadText xfB fl fc exm
end
end K89
set_option Elab.async false
set_option linter.all false
set_option maxRecDepth 100000
set_option maxHeartbeats 0
namespace K89
open PySem PySem.Spec PyProof.Rows L2 DL LamX
/-- the script as a tree -/
theorem script_d {K : PySem.W.Frag} {H : Hp} {a : Addr} {ns : List Int} (h : SqL K H a (ns.map V.int)) : ∃ c, seqLK K c = some (numsD ns) ∧ Rep (fun _ => False) H c (.ref a) := by
  rcases h with (h | ⟨o, h⟩) | ⟨o, its, n, h1, h2, h3, h4, h5, h6⟩
  · exact ⟨.lst (numsD ns), rfl, by simp only [Rep]; exact ⟨a, _, rfl, ⟨h, id⟩, reps_numsD ns⟩⟩
  · exact ⟨.frl (numsD ns), rfl, by simp only [Rep]; exact ⟨a, _, o, rfl, h, reps_numsD ns⟩⟩
  · refine ⟨.ref a, ?_, by simp only [Rep]⟩
    obtain ⟨oc, od, dt, sl⟩ := o
    dsimp only at h2 h3 h4
    subst h2 h3 h4
    show kl K a = _
    unfold kl
    rw [h1]
    show (if its.size ≤ sizeLine then (intsOf its.toList).map numsD else none) = _
    rw [if_pos h5, intsOf_vals h6]; rfl
theorem law_at (w : World) (mg : Str → Option Value) (fa : Addr) (h : Heap) (Y : hk.says w h) (G : h.Ns mainGlobals mg) (hmg : mg ("law" : Str) = some (.ref fa)) : ∃ K : PySem.W.Frag, K.In h ∧ LawAtG PySem.Challenge.rw_climbabout_k89_promises_read w K 10 63 "script" mg fa h := by
  obtain ⟨K, KX, c⟩ := Y
  refine ⟨K, KX, ?_⟩
  have e := hmg.symm.trans (He.glo_ok KX G (c.t.d.fact 22 (f := .glo "law") rfl))
  cases e
  have hmem : (("law", none) : He.Defn) ∈ tf := List.mem_singleton.mpr rfl
  have hcd : ∀ p ∈ [He.cT K ("law", none)], h.get? p.2 = some emptyO ∧ K.lookup p.2 = none ∧ PySem.W.CodeHd h p.1 p.2 := fun p hp => by
    rw [List.mem_singleton.mp hp]
    exact ⟨c.empty _ hmem, c.out _ hmem, PySem.W.codeHd_of_K KX (c.hd _ hmem)⟩
  obtain ⟨fdl, Fl⟩ := c.t.d.def_ 22 (d := d_law) rfl
  have hb := FunD.bindsA (ps := ["script"]) Fl fun _ _ _ _ _ _ us hl => match us, hl with | [_], _ => rfl
  refine ⟨fdl, [He.cT K ("law", none)], spL [((He.cT K ("law", none)).2, qLam)] (spN (preL K) postL), hcd, fun s v => hb s [v] rfl, fun H a ns hl _ hT hS => ?_, fun base hK hN hTB => ?_⟩
  · obtain ⟨c', e1, e2⟩ := script_d hS
    refine ⟨fun p hp => ?_, fun _ => False, [c'], fun _ z => z.elim, .cons e2 .nil, ⟨c', ns, rfl, e1, by omega⟩, fun o ho => ?_⟩
    · rw [List.mem_singleton.mp hp]
      exact LamX.TabS.nil (hT _ (List.mem_singleton.mpr rfl))
    · have ho : o = .inl (.val (.bl true)) := ho
      subst ho
      intro v H' _ _ hv
      have hv : Rep (fun _ => False) H' (.bl true) v := hv
      simpa only [Rep] using hv
  · exact facts (P := PySem.Challenge.rw_climbabout_k89_promises_read.prog) (w := w) hK hN c (hTB _ (List.mem_singleton.mpr rfl)) Fl
end K89
open PySem PySem.W PySem.Calls PyProof.Rows
theorem PySem.Challenge.cw_climbabout_k89_promises_read_holds : PySem.Challenge.rw_climbabout_k89_promises_read.Holds := by
  w_on; o_law
  refine HandSHeadRun.head_any (r := OpenLaw.row PySem.Challenge.rw_climbabout_k89_promises_read) (q := view (OpenLaw.row PySem.Challenge.rw_climbabout_k89_promises_read).prog [45]) (H := K89.hk) (ob := K89.ob) (M := 12000) (loose := K89.loose) (d := HandSHeadRun.topDef (OpenLaw.row PySem.Challenge.rw_climbabout_k89_promises_read).prog 45) (kwd := []) K89.ob_eq
    (by kernel_rfl) (fun s => by kernel_rfl) K89.run (by kernel_rfl) (by kernel_rfl) (by kernel_rfl) (by rfl) (by first | assumption | decide +kernel) (by decide +kernel) ⟨rfl, rfl, rfl, rfl, rfl, by decide +kernel⟩ ?hw ?hc
  case hw => w_witness2
  case hc =>
    refine DL.walk_ofG (l := PySem.Challenge.rw_climbabout_k89_promises_read) (n := 63) (k := 10) (x := "script") rfl (by decide) (by kernel_rfl) ⟨rfl, by decide, by decide⟩ ?F
    intro w mg fa h Y G hmg0
    refine K89.law_at w mg fa h Y G ?_
    have e : (HandSHeadRun.topDef (OpenLaw.row PySem.Challenge.rw_climbabout_k89_promises_read).prog 45).name = ("law" : PySem.Str) := by kernel_rfl
    rw [← e]
    exact hmg0
