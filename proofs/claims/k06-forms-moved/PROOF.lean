import PyProof.Rows.All
import Wide.All
import OpenK.AllK
import Wide.FinOn
import HandS.ForMost
import HandS.ForExc
import HandS.ExcInit
import HandS.Property
import KE.KAssignIn
import HandS.Rev
import HandS.Zip
import HandS.Wide
import HandS.Gcd
import HandS.RaiseMore
import HandS.Defaults
import HandS.ExcField
import HandS.ExcIs
import HandS.ExcOwn
import KE.KExcIs
import KE.RegKIsAll
import HandS.Flow
import HandS.SortInts
import HandS.IsInst
import HandS.WideBits
import HandS.ExcBuiltin
import PyProof.P3Eq
import HandS.TupAny
import PySem.Challenge.RW_exactrasters_k06_forms_moved
set_option Elab.async false
set_option linter.all false
set_option maxRecDepth 100000
/-! The data layer: Python values as plain data over the hand layer. -/
namespace Px
open PySem PySem.Spec PyProof.Rows L2

/-- frozen data -/
inductive D where
  | non | bl (b : Bool) | int (i : Int) | str (x : Str) | tup (l : List D) | lst (l : List D) | ins (c : Nat) (l : List D)
  /-- a list that is read alone -/
  | scr (l : List D)
/-- an owned tree; x: nothing is known -/
inductive O where
  | x | d (x : D) | lst (l : List O) | ins (c : Nat) (l : List O)
/-- what a slot holds -/
inductive SV where
  | d (x : D) | own (r : Nat)
  /-- the exception that an except suite holds -/
  | pin
abbrev Sto := List (Option SV)
abbrev Sg := L2.St
abbrev Hs := List O
inductive Ex (α : Type) where
  | ok (a : α) (ρ : Hs) | rs (c : Nat) (l : List D) (ρ : Hs) | stuck
inductive Out where
  | nx (δ : Sto) (ρ : Hs) | bk (δ : Sto) (ρ : Hs) | ct (δ : Sto) (ρ : Hs) | rt (v : SV) (ρ : Hs) | rs (c : Nat) (l : List D) (δ : Sto) (ρ : Hs) | stuck

/-- the world: the written part, the classes' addresses, their fields in order -/
structure Wb where
  K : PySem.W.Frag
  cl : Nat → Addr
  lay : Nat → List Str
/-- .. and the exception in hand -/
structure Wd extends Wb where
  pin : V → Hp → Prop
  pinM : ∀ v Z Z', L2.Same Z Z' → pin v Z → pin v Z'
instance : Coe Wd Wb := ⟨Wd.toWb⟩

mutual
inductive Dat (W : Wb) (Z : Hp) : V → D → Prop
  | non : Dat W Z .non .non
  | bl (b : Bool) : Dat W Z (.bl b) (.bl b)
  | int (i : Int) : Dat W Z (.int i) (.int i)
  | str (x : Str) : Dat W Z (.str x) (.str x)
  | tup {a : Addr} {vs : List V} {l : List D} : SqT W.K Z a vs → DatL W Z vs l → Dat W Z (.ref a) (.tup l)
  | lst {a : Addr} {vs : List V} {l : List D} : Z a = some (.lst vs) → DatL W Z vs l → Dat W Z (.ref a) (.lst l)
  | scr {a : Addr} {vs : List V} {l : List D} : SqL W.K Z a vs → DatL W Z vs l → Dat W Z (.ref a) (.scr l)
  | ins {a dx : Addr} {c : Nat} {kvs : List (Str × V)} {l : List D} : Z a = some (.ins (W.cl c) dx kvs) → kvs.map (·.1) = (W.lay c).take l.length → DatL W Z (kvs.map (·.2)) l → Dat W Z (.ref a) (.ins c l)
inductive DatL (W : Wb) (Z : Hp) : List V → List D → Prop
  | nil : DatL W Z [] []
  | cons {v : V} {d : D} {vs : List V} {ds : List D} : Dat W Z v d → DatL W Z vs ds → DatL W Z (v :: vs) (d :: ds)
end

theorem Same.seqT {K : PySem.W.Frag} {H H' : Hp} {a : Addr} {xs : List V} (e : Same H H') (h : SqT K H a xs) : SqT K H' a xs := by
  rcases h with (h | ⟨o, h⟩) | h
  · exact .inl (.inl (e _ _ h))
  · exact .inl (.inr ⟨o, e _ _ h⟩)
  · exact .inr h

mutual
theorem Dat.mono {W : Wb} {Z Z' : Hp} (s : Same Z Z') : ∀ {v : V} {d : D}, Dat W Z v d → Dat W Z' v d
  | _, _, .non => .non
  | _, _, .bl b => .bl b
  | _, _, .int i => .int i
  | _, _, .str x => .str x
  | _, _, .tup h l => .tup (Same.seqT s h) (DatL.mono s l)
  | _, _, .lst h l => .lst (s _ _ h) (DatL.mono s l)
  | _, _, .scr h l => .scr (s.seq h) (DatL.mono s l)
  | _, _, .ins h k l => .ins (s _ _ h) k (DatL.mono s l)
theorem DatL.mono {W : Wb} {Z Z' : Hp} (s : Same Z Z') : ∀ {vs : List V} {ds : List D}, DatL W Z vs ds → DatL W Z' vs ds
  | _, _, .nil => .nil
  | _, _, .cons h t => .cons (Dat.mono s h) (DatL.mono s t)
end
theorem DatL.length {W : Wb} {Z : Hp} : ∀ {vs : List V} {ds : List D}, DatL W Z vs ds → vs.length = ds.length
  | _, _, .nil => rfl
  | _, _, .cons _ t => by rw [List.length_cons, List.length_cons, DatL.length t]
theorem DatL.get {W : Wb} {Z : Hp} : ∀ {vs : List V} {ds : List D} {i : Nat} {d : D}, DatL W Z vs ds → ds[i]? = some d → ∃ v, vs[i]? = some v ∧ Dat W Z v d
  | _, _, _, _, .nil, e => by simp at e
  | _, _, 0, _, .cons h _, e => by simp at e; subst e; exact ⟨_, rfl, h⟩
  | _, _, i + 1, d, .cons _ t, e => by
    obtain ⟨v, h1, h2⟩ := DatL.get (i := i) (d := d) t (by simpa using e)
    exact ⟨v, by simpa using h1, h2⟩
theorem DatL.append {W : Wb} {Z : Hp} : ∀ {vs us : List V} {ds es : List D}, DatL W Z vs ds → DatL W Z us es → DatL W Z (vs ++ us) (ds ++ es)
  | _, _, _, _, .nil, s => s
  | _, _, _, _, .cons h t, s => .cons h (DatL.append t s)

mutual
/-- v is the value of the owned tree; the addresses that it owns -/
inductive Own (W : Wb) (Z H : Hp) : V → O → List Addr → Prop
  | x (v : V) : Own W Z H v .x []
  | d {v : V} {x : D} : Dat W Z v x → Own W Z H v (.d x) []
  | lst {a : Addr} {vs : List V} {l : List O} {fp : List Addr} : Z a = none → H a = some (.lst vs) → OwnL W Z H vs l fp → a ∉ fp → Own W Z H (.ref a) (.lst l) (a :: fp)
  | ins {a dx : Addr} {c : Nat} {kvs : List (Str × V)} {l : List O} {fp : List Addr} : Z a = none → H a = some (.ins (W.cl c) dx kvs) → kvs.map (·.1) = (W.lay c).take l.length → OwnL W Z H (kvs.map (·.2)) l fp → a ∉ fp →
      Own W Z H (.ref a) (.ins c l) (a :: fp)
inductive OwnL (W : Wb) (Z H : Hp) : List V → List O → List Addr → Prop
  | nil : OwnL W Z H [] [] []
  | cons {v : V} {o : O} {vs : List V} {os : List O} {fp fq : List Addr} : Own W Z H v o fp → OwnL W Z H vs os fq → (∀ a ∈ fp, a ∉ fq) → OwnL W Z H (v :: vs) (o :: os) (fp ++ fq)
end
mutual
/-- an owned tree stays where its own cells stay -/
theorem Own.keep {W : Wb} {Z H Z' H' : Hp} (s : Same Z Z') : ∀ {v : V} {o : O} {fp : List Addr}, Own W Z H v o fp → (∀ a ∈ fp, Z' a = none ∧ H' a = H a) → Own W Z' H' v o fp
  | _, _, _, .x v, _ => .x v
  | _, _, _, .d h, _ => .d (h.mono s)
  | _, _, _, .lst h1 h2 h3 h4, k => .lst (k _ (List.mem_cons_self ..)).1 ((k _ (List.mem_cons_self ..)).2.trans h2) (OwnL.keep s h3 fun a ha => k a (List.mem_cons_of_mem _ ha)) h4
  | _, _, _, .ins h1 h2 h5 h3 h4, k => .ins (k _ (List.mem_cons_self ..)).1 ((k _ (List.mem_cons_self ..)).2.trans h2) h5 (OwnL.keep s h3 fun a ha => k a (List.mem_cons_of_mem _ ha)) h4
theorem OwnL.keep {W : Wb} {Z H Z' H' : Hp} (s : Same Z Z') : ∀ {vs : List V} {os : List O} {fp : List Addr}, OwnL W Z H vs os fp → (∀ a ∈ fp, Z' a = none ∧ H' a = H a) → OwnL W Z' H' vs os fp
  | _, _, _, .nil, _ => .nil
  | _, _, _, .cons h t dj, k => .cons (Own.keep s h fun a ha => k a (List.mem_append_left _ ha)) (OwnL.keep s t fun a ha => k a (List.mem_append_right _ ha)) dj
end
mutual
theorem Own.there {W : Wb} {Z H : Hp} : ∀ {v : V} {o : O} {fp : List Addr}, Own W Z H v o fp → ∀ a ∈ fp, Z a = none ∧ H a ≠ none
  | _, _, _, .x _, a, ha => by cases ha
  | _, _, _, .d _, a, ha => by cases ha
  | _, _, _, .lst h1 h2 h3 h4, a, ha => by
    rcases List.mem_cons.mp ha with rfl | ha
    · exact ⟨h1, by rw [h2]; exact fun z => nomatch z⟩
    · exact OwnL.there h3 a ha
  | _, _, _, .ins h1 h2 h5 h3 h4, a, ha => by
    rcases List.mem_cons.mp ha with rfl | ha
    · exact ⟨h1, by rw [h2]; exact fun z => nomatch z⟩
    · exact OwnL.there h3 a ha
theorem OwnL.there {W : Wb} {Z H : Hp} : ∀ {vs : List V} {os : List O} {fp : List Addr}, OwnL W Z H vs os fp → ∀ a ∈ fp, Z a = none ∧ H a ≠ none
  | _, _, _, .nil, a, ha => by cases ha
  | _, _, _, .cons h t _, a, ha => by
    rcases List.mem_append.mp ha with ha | ha
    · exact Own.there h a ha
    · exact OwnL.there t a ha
end
theorem OwnL.length {W : Wb} {Z H : Hp} : ∀ {vs : List V} {os : List O} {fp : List Addr}, OwnL W Z H vs os fp → vs.length = os.length
  | _, _, _, .nil => rfl
  | _, _, _, .cons _ t _ => by rw [List.length_cons, List.length_cons, OwnL.length t]

/-! ### an owned tree without holes, as data -/
mutual
def O.toD : O → Option D
  | .x => none
  | .d y => some y
  | .lst l => (O.toDs l).map .lst
  | .ins c l => (O.toDs l).map (.ins c)
def O.toDs : List O → Option (List D)
  | [] => some []
  | o :: os => do
    let x ← O.toD o
    let xs ← O.toDs os
    some (x :: xs)
end
theorem toDs_length : ∀ {os : List O} {ds : List D}, O.toDs os = some ds → os.length = ds.length
  | [], _, h => by simp only [O.toDs, Option.some.injEq] at h; subst h; rfl
  | o :: os, ds, h => by
    simp only [O.toDs, Option.bind_eq_bind, Option.bind_eq_some_iff, Option.some.injEq] at h
    obtain ⟨x, _, xs, h2, rfl⟩ := h
    rw [List.length_cons, List.length_cons, toDs_length h2]
mutual
/-- as it stands now it may be read as data -/
theorem Own.dat {W : Wb} {Z H : Hp} (s : Same Z H) : ∀ {v : V} {o : O} {fp : List Addr} {x : D}, Own W Z H v o fp → o.toD = some x → Dat W H v x
  | _, _, _, _, .x _, e => by simp [O.toD] at e
  | _, _, _, _, .d h, e => by
    simp only [O.toD, Option.some.injEq] at e
    subst e
    exact h.mono s
  | _, _, _, _, .lst h1 h2 h3 h4, e => by
    simp only [O.toD, Option.map_eq_some_iff] at e
    obtain ⟨l, e, rfl⟩ := e
    exact .lst h2 (OwnL.dat s h3 e)
  | _, _, _, _, .ins h1 h2 h5 h3 h4, e => by
    simp only [O.toD, Option.map_eq_some_iff] at e
    obtain ⟨l, e, rfl⟩ := e
    exact .ins h2 (by rw [h5, toDs_length e]) (OwnL.dat s h3 e)
theorem OwnL.dat {W : Wb} {Z H : Hp} (s : Same Z H) : ∀ {vs : List V} {os : List O} {fp : List Addr} {xs : List D}, OwnL W Z H vs os fp → O.toDs os = some xs → DatL W H vs xs
  | _, _, _, _, .nil, e => by
    simp only [O.toDs, Option.some.injEq] at e
    subst e
    exact .nil
  | _, _, _, _, .cons h t _, e => by
    simp only [O.toDs, Option.bind_eq_bind, Option.bind_eq_some_iff, Option.some.injEq] at e
    obtain ⟨x, e1, xs, e2, rfl⟩ := e
    exact .cons (Own.dat s h e1) (OwnL.dat s t e2)
end
/-- the heap of frozen things, with the cells at fp -/
def frz (Z H : Hp) (fp : List Addr) : Hp := fun b => if b ∈ fp then H b else Z b
theorem frz_same {Z H : Hp} {fp : List Addr} (h : ∀ a ∈ fp, Z a = none) : Same Z (frz Z H fp) := fun b o e => by
  unfold frz
  by_cases hb : b ∈ fp
  · rw [h b hb] at e; cases e
  · rw [if_neg hb]; exact e
theorem frz_le {Z H : Hp} {fp : List Addr} (s : Same Z H) : Same (frz Z H fp) H := fun b o e => by
  unfold frz at e
  by_cases hb : b ∈ fp
  · rw [if_pos hb] at e; exact e
  · rw [if_neg hb] at e; exact s b o e
theorem frz_sub {Z H : Hp} {fp fq : List Addr} (h : ∀ a ∈ fp, a ∈ fq) (z : ∀ a ∈ fq, Z a = none) : Same (frz Z H fp) (frz Z H fq) := fun b o e => by
  unfold frz at e ⊢
  by_cases hb : b ∈ fp
  · rw [if_pos hb] at e; rw [if_pos (h b hb)]; exact e
  · rw [if_neg hb] at e
    by_cases hq : b ∈ fq
    · rw [z b hq] at e; cases e
    · rw [if_neg hq]; exact e
mutual
theorem Own.freeze {W : Wb} {Z H : Hp} : ∀ {v : V} {o : O} {fp : List Addr} {x : D}, Own W Z H v o fp → o.toD = some x → Dat W (frz Z H fp) v x
  | _, _, _, _, .x _, e => by simp [O.toD] at e
  | _, _, _, _, .d h, e => by
    simp only [O.toD, Option.some.injEq] at e
    subst e
    exact h.mono (frz_same (by simp))
  | _, _, _, _, .lst (a := a) (fp := fp) h1 h2 h3 h4, e => by
    simp only [O.toD, Option.map_eq_some_iff] at e
    obtain ⟨l, e, rfl⟩ := e
    refine .lst ?_ ((OwnL.freeze h3 e).mono (frz_sub (fun b hb => List.mem_cons_of_mem _ hb) fun b hb => ?_))
    · unfold frz; rw [if_pos (List.mem_cons_self ..)]; exact h2
    · rcases List.mem_cons.mp hb with rfl | hb
      · exact h1
      · exact (OwnL.there h3 b hb).1
  | _, _, _, _, .ins (a := a) (dx := dx) (fp := fp) h1 h2 h5 h3 h4, e => by
    simp only [O.toD, Option.map_eq_some_iff] at e
    obtain ⟨l, e, rfl⟩ := e
    refine .ins (dx := dx) ?_ (by rw [h5, toDs_length e]) ((OwnL.freeze h3 e).mono (frz_sub (fun b hb => List.mem_cons_of_mem _ hb) fun b hb => ?_))
    · unfold frz; rw [if_pos (List.mem_cons_self ..)]; exact h2
    · rcases List.mem_cons.mp hb with rfl | hb
      · exact h1
      · exact (OwnL.there h3 b hb).1
theorem OwnL.freeze {W : Wb} {Z H : Hp} : ∀ {vs : List V} {os : List O} {fp : List Addr} {xs : List D}, OwnL W Z H vs os fp → O.toDs os = some xs → DatL W (frz Z H fp) vs xs
  | _, _, _, _, .nil, e => by
    simp only [O.toDs, Option.some.injEq] at e
    subst e
    exact .nil
  | _, _, _, _, .cons (fp := fp) (fq := fq) h t dj, e => by
    simp only [O.toDs, Option.bind_eq_bind, Option.bind_eq_some_iff, Option.some.injEq] at e
    obtain ⟨x, e1, xs, e2, rfl⟩ := e
    have z : ∀ a ∈ fp ++ fq, Z a = none := fun a ha => (List.mem_append.mp ha).elim (fun q => (Own.there h a q).1) fun q => (OwnL.there t a q).1
    exact .cons ((Own.freeze h e1).mono (frz_sub (fun b hb => List.mem_append_left _ hb) z)) ((OwnL.freeze t e2).mono (frz_sub (fun b hb => List.mem_append_right _ hb) z))
end

/-! ### the state -/
/-- the roots as they stand -/
structure Hk (W : Wb) (Z H : Hp) (α : List V) (ρ : Hs) (fp : List Addr) : Prop where
  le : Same Z H
  own : OwnL W Z H α ρ fp
/-- from one state to the next -/
structure Step (Z H : Hp) (fp : List Addr) (Z' H' : Hp) (fp' : List Addr) : Prop where
  z : Same Z Z'
  nz : ∀ b, Z' b ≠ none → Z b ≠ none ∨ H b = none ∨ b ∈ fp
  fr : ∀ b, H b ≠ none → b ∉ fp → H' b = H b
  st : ∀ b, H b ≠ none → H' b ≠ none
  fp : ∀ b ∈ fp', b ∈ fp ∨ H b = none
theorem Step.refl (Z H : Hp) (fp : List Addr) : Step Z H fp Z H fp := ⟨Same.refl _, fun _ h => .inl h, fun _ _ _ => rfl, fun _ h => h, fun _ h => .inl h⟩
theorem Step.trans {Z H Z1 H1 Z2 H2 : Hp} {fp fp1 fp2 : List Addr} (a : Step Z H fp Z1 H1 fp1) (b : Step Z1 H1 fp1 Z2 H2 fp2) : Step Z H fp Z2 H2 fp2 where
  z := a.z.trans b.z
  nz := fun c h => (b.nz c h).elim (fun q => a.nz c q) fun q => .inr (q.elim (fun q => .inl (Classical.byContradiction fun n => a.st c n q)) fun q => (a.fp c q).elim .inr .inl)
  fr := fun c h n => by
    have e := a.fr c h n
    rw [← e]
    exact b.fr c (a.st c h) fun q => (a.fp c q).elim n h
  st := fun c h => b.st c (a.st c h)
  fp := fun c h => (b.fp c h).elim (fun q => a.fp c q) fun q => .inr (Classical.byContradiction fun n => a.st c n q)

inductive Val (W : Wd) (Z : Hp) (α : List V) : V → SV → Prop
  | d {v : V} {x : D} : Dat W Z v x → Val W Z α v (.d x)
  | own {v : V} {r : Nat} : α[r]? = some v → Val W Z α v (.own r)
  | pin {v : V} : W.pin v Z → Val W Z α v .pin
theorem Val.mono {W : Wd} {Z Z' : Hp} {α α' : List V} {v : V} {x : SV} (s : Same Z Z') (p : α <+: α') (h : Val W Z α v x) : Val W Z' α' v x := by
  cases h with
  | d h => exact .d (h.mono s)
  | pin h => exact .pin (W.pinM _ _ _ s h)
  | own h =>
    obtain ⟨t, rfl⟩ := p
    refine .own ?_
    obtain ⟨h1, h2⟩ := List.getElem?_eq_some_iff.mp h
    rw [List.getElem?_append_left h1, h]
/-- the slots -/
structure Loc (W : Wd) (Z : Hp) (α : List V) (σ : Sg) (δ : Sto) : Prop where
  len : σ.length = δ.length
  get : ∀ (i : Nat) (x : SV), δ[i]? = some (some x) → ∃ v, σ[i]? = some (some v) ∧ Val W Z α v x
theorem Loc.mono {W : Wd} {Z Z' : Hp} {α α' : List V} {σ : Sg} {δ : Sto} (s : Same Z Z') (p : α <+: α') (h : Loc W Z α σ δ) : Loc W Z' α' σ δ :=
  ⟨h.len, fun i x e => by
    obtain ⟨v, e1, r⟩ := h.get i x e
    exact ⟨v, e1, r.mono s p⟩⟩
theorem Loc.set {W : Wd} {Z : Hp} {α : List V} {σ : Sg} {δ : Sto} (h : Loc W Z α σ δ) {i : Nat} {v : V} {x : SV} (r : Val W Z α v x) : Loc W Z α (σ.set i (some v)) (δ.set i (some x)) := by
  refine ⟨by simp [h.len], fun j y e => ?_⟩
  by_cases hj : i = j
  · subst hj
    rw [List.getElem?_set_self'] at e
    rw [List.getElem?_set_self']
    cases q : δ[i]? with
    | none => rw [q] at e; cases e
    | some z =>
      rw [q] at e
      have hl : i < σ.length := by rw [h.len]; exact (List.getElem?_eq_some_iff.mp q).1
      rw [List.getElem?_eq_getElem hl]
      have e' : some x = some y := Option.some.inj e
      cases e'
      exact ⟨v, rfl, r⟩
  · rw [List.getElem?_set_ne hj] at e ⊢
    exact h.get j y e
end Px

namespace Px
open PySem PySem.Spec PyProof.Rows L2

/-! ### results -/
def Ex.bind {α β : Type} (a : Ex α) (k : α → Hs → Ex β) : Ex β := match a with
  | .ok x ρ => k x ρ
  | .rs c l ρ => .rs c l ρ
  | .stuck => .stuck
def Ex.out {α : Type} (a : Ex α) (δ : Sto) (k : α → Hs → Out) : Out := match a with
  | .ok x ρ => k x ρ
  | .rs c l ρ => .rs c l δ ρ
  | .stuck => .stuck
/-- what an exception's own dict holds -/
def ExD (W : Wd) (Z : Hp) (c : Nat) (l : List D) (d : Option Addr) : Prop :=
  (l = [] ∧ d = none) ∨ ∃ a kvs, d = some a ∧ Z a = some (.xd kvs) ∧ kvs.map (·.1) = W.lay c ∧ DatL W Z (kvs.map (·.2)) l

def Goes (W : Wd) (w : WX) (σ : Sg) {A B : Type} (R : Hp → List V → B → A → Prop) (Z : Hp) (α : List V) (fp : List Addr) (H : Hp) (r : Ex A) (Q : B → Hp → Prop) : Prop := match r with
  | .ok x ρ => ∀ Z' α' H' fp' v, Step Z H fp Z' H' fp' → α <+: α' → Hk W Z' H' α' ρ fp' → R Z' α' v x → Q v H'
  | .rs c l ρ => ∀ Z' α' H' fp' d, Step Z H fp Z' H' fp' → α <+: α' → Hk W Z' H' α' ρ fp' → ExD W Z' c l d → w (.ref (W.cl c)) d σ H'
  | .stuck => False
section
variable {W : Wd} {w : WX} {σ : Sg} {A B A' B' : Type} {R : Hp → List V → B → A → Prop} {R' : Hp → List V → B' → A' → Prop} {Z Z1 H H1 : Hp} {α α1 : List V} {fp fp1 : List Addr} {r : Ex A}
theorem Goes.shift {Q : B → Hp → Prop} (g : Goes W w σ R Z α fp H r Q) (s : Step Z H fp Z1 H1 fp1) (p : α <+: α1) : Goes W w σ R Z1 α1 fp1 H1 r Q := by
  cases r with
  | ok x ρ => exact fun Z' α' H' fp' v s' p' hk r => g Z' α' H' fp' v (s.trans s') (p.trans p') hk r
  | rs c l ρ => exact fun Z' α' H' fp' d s' p' hk r => g Z' α' H' fp' d (s.trans s') (p.trans p') hk r
  | stuck => exact g
theorem Goes.mono {Q Q' : B → Hp → Prop} (g : Goes W w σ R Z α fp H r Q) (h : ∀ v H', Q v H' → Q' v H') : Goes W w σ R Z α fp H r Q' := by
  cases r with
  | ok x ρ => exact fun Z' α' H' fp' v s' p' hk r => h _ _ (g Z' α' H' fp' v s' p' hk r)
  | rs c l ρ => exact g
  | stuck => exact g
/-- the first part has gone -/
theorem Goes.bind {k : A → Hs → Ex A'} {Q : B' → Hp → Prop} (g : Goes W w σ R' Z α fp H (r.bind k) Q) :
    Goes W w σ R Z α fp H r fun v H1 => ∃ Z1 α1 ρ1 fp1 x, Step Z H fp Z1 H1 fp1 ∧ α <+: α1 ∧ Hk W Z1 H1 α1 ρ1 fp1 ∧ R Z1 α1 v x ∧ r = .ok x ρ1 ∧ Goes W w σ R' Z1 α1 fp1 H1 (k x ρ1) Q := by
  cases r with
  | ok x ρ => exact fun Z' α' H' fp' v s' p' hk r => ⟨Z', α', ρ, fp', x, s', p', hk, r, rfl, g.shift s' p'⟩
  | rs c l ρ => exact g
  | stuck => exact g
theorem Goes.done {x : A} {ρ : Hs} {v : B} {Q : B → Hp → Prop} (g : Goes W w σ R Z α fp H (.ok x ρ) Q) (hk : Hk W Z H α ρ fp) (r : R Z α v x) : Q v H :=
  g Z α H fp v (Step.refl _ _ _) (List.prefix_refl _) hk r
theorem Goes.give {x : A} {ρ : Hs} {v : B} {Q : B → Hp → Prop} (g : Goes W w σ R Z α fp H (.ok x ρ) Q) (s : Step Z H fp Z1 H1 fp1) (p : α <+: α1) (hk : Hk W Z1 H1 α1 ρ fp1) (r : R Z1 α1 v x) : Q v H1 :=
  g Z1 α1 H1 fp1 v s p hk r
end

/-! ### expressions -/
abbrev EF := Sto → Hs → Ex SV
abbrev AF := Sto → Hs → Ex (List SV)
abbrev BF := Sto → Hs → Ex Bool
inductive ValL (W : Wd) (Z : Hp) (α : List V) : List V → List SV → Prop
  | nil : ValL W Z α [] []
  | cons {v : V} {x : SV} {vs : List V} {xs : List SV} : Val W Z α v x → ValL W Z α vs xs → ValL W Z α (v :: vs) (x :: xs)
theorem ValL.mono {W : Wd} {Z Z' : Hp} {α α' : List V} (s : Same Z Z') (p : α <+: α') : ∀ {vs : List V} {xs : List SV}, ValL W Z α vs xs → ValL W Z' α' vs xs
  | _, _, .nil => .nil
  | _, _, .cons h t => .cons (h.mono s p) (ValL.mono s p t)
theorem ValL.length {W : Wd} {Z : Hp} {α : List V} : ∀ {vs : List V} {xs : List SV}, ValL W Z α vs xs → vs.length = xs.length
  | _, _, .nil => rfl
  | _, _, .cons _ t => by rw [List.length_cons, List.length_cons, t.length]
def RB : Hp → List V → Bool → Bool → Prop := fun _ _ b c => b = c

def tE (W : Wd) (w : WX) (f : EF) : TE := fun σ H Q => ∃ Z α ρ δ fp, Hk W Z H α ρ fp ∧ Loc W Z α σ δ ∧ Goes W w σ (Val W) Z α fp H (f δ ρ) Q
def tAr (W : Wd) (w : WX) (f : AF) : TA := fun σ H Q => ∃ Z α ρ δ fp, Hk W Z H α ρ fp ∧ Loc W Z α σ δ ∧ Goes W w σ (ValL W) Z α fp H (f δ ρ) Q
def tBo (W : Wd) (w : WX) (f : BF) : TT := fun σ H Q => ∃ Z α ρ δ fp, Hk W Z H α ρ fp ∧ Loc W Z α σ δ ∧ Goes W w σ RB Z α fp H (f δ ρ) Q
def DE (X : Cx) (W : Wd) (w : WX) (f : EF) (e : Expr) : Prop := PE X e (tE W w f)
def DA (X : Cx) (W : Wd) (w : WX) (f : AF) (es : List Expr) : Prop := PA X es (tAr W w f)
def DT (X : Cx) (W : Wd) (w : WX) (f : BF) (e : Expr) : Prop := PT X e (tBo W w f)
theorem wkE {X : Cx} {e : Expr} {t u : TE} (h : PE X e t) (k : ∀ σ H Q, u σ H Q → t σ H Q) : PE X e u := ⟨fun pins s σ H Q I q => h.run pins s σ H Q I (k σ H Q q)⟩
theorem wkT {X : Cx} {e : Expr} {t u : TT} (h : PT X e t) (k : ∀ σ H Q, u σ H Q → t σ H Q) : PT X e u := ⟨fun pins s σ H Q I q => h.run pins s σ H Q I (k σ H Q q)⟩
theorem wkA {X : Cx} {es : List Expr} {t u : TA} (h : PA X es t) (k : ∀ σ H Q, u σ H Q → t σ H Q) : PA X es u := ⟨fun pos pins s σ H Q I q => h.run pos pins s σ H Q I (k σ H Q q)⟩
theorem wkS {X : Cx} {e : Stmt} {t u : TS} (h : PS X e t) (k : ∀ D σ H, u D σ H → t D σ H) : PS X e u := ⟨fun pins s σ H D I q => h.run pins s σ H D I (k D σ H q)⟩
theorem wkSs {X : Cx} {e : List Stmt} {t u : TS} (h : PSs X e t) (k : ∀ D σ H, u D σ H → t D σ H) : PSs X e u := ⟨fun pins s σ H D I q => h.run pins s σ H D I (k D σ H q)⟩

section
variable {X : Cx} {W : Wd} {w : WX} {a b : Expr} {fa fb : EF} {pos : Pos}

/-- the name in slot i -/
def eVar (i : Nat) : EF := fun δ ρ => match δ[i]? with
  | some (some x) => .ok x ρ
  | _ => .stuck
theorem de_var {i : Nat} {e : Expr} (h : PE X e (tVar i)) : DE X W w (eVar i) e := wkE h fun σ H Q ⟨Z, α, ρ, δ, fp, hk, loc, g⟩ => by
  unfold eVar at g
  split at g
  · rename_i x hx
    obtain ⟨v, e1, r⟩ := loc.get i x hx
    exact ⟨v, e1, g.done hk r⟩
  · exact g.elim
/-- a constant -/
def eC (d : D) : EF := fun _ ρ => .ok (.d d) ρ
theorem de_c {e : Expr} {v : V} {d : D} (h : PE X e (tC v)) (hd : ∀ Z, Dat W Z v d) : DE X W w (eC d) e := wkE h fun σ H Q ⟨Z, α, ρ, δ, fp, hk, loc, g⟩ => g.done hk (.d (hd Z))

/-! what a value shows -/
def SV.view (ρ : Hs) : SV → Option D
  | .d x => some x
  | .own r => (ρ[r]?).bind O.toD
  | .pin => none
theorem OwnL.get {Z H : Hp} : ∀ {vs : List V} {os : List O} {fp : List Addr} {i : Nat} {o : O}, OwnL W Z H vs os fp → os[i]? = some o → ∃ v fo, vs[i]? = some v ∧ Own W Z H v o fo ∧ ∀ a ∈ fo, a ∈ fp
  | _, _, _, _, _, .nil, e => by simp at e
  | _, _, _, 0, _, .cons h t dj, e => by
    simp at e; subst e
    exact ⟨_, _, rfl, h, fun a ha => List.mem_append_left _ ha⟩
  | _, _, _, i + 1, o, .cons h t dj, e => by
    obtain ⟨v, fo, h1, h2, h3⟩ := OwnL.get (i := i) (o := o) t (by simpa using e)
    exact ⟨v, fo, by simpa using h1, h2, fun a ha => List.mem_append_right _ (h3 a ha)⟩
theorem Val.view {Z H : Hp} {α : List V} {ρ : Hs} {fp : List Addr} {v : V} {x : SV} {d : D} (hk : Hk W Z H α ρ fp) (h : Val W Z α v x) (e : x.view ρ = some d) : Dat W H v d := by
  cases h with
  | d h =>
    simp only [SV.view, Option.some.injEq] at e
    subst e
    exact h.mono hk.le
  | pin h => simp [SV.view] at e
  | own h =>
    simp only [SV.view, Option.bind_eq_some_iff] at e
    obtain ⟨o, e1, e2⟩ := e
    obtain ⟨v', fo, h1, h2, _⟩ := hk.own.get e1
    rw [h] at h1; cases h1
    exact h2.dat hk.le e2

/-- a scalar: the same in any heap -/
def D.scal : D → Bool
  | .non | .bl _ | .int _ | .str _ => true
  | _ => false
theorem Dat.scal {Z Z' : Hp} {v : V} {d : D} (h : Dat W Z v d) (s : d.scal = true) : Dat W Z' v d := by
  cases h with
  | non => exact .non
  | bl b => exact .bl b
  | int i => exact .int i
  | str x => exact .str x
  | tup _ _ => cases s
  | lst _ _ => cases s
  | scr _ _ => cases s
  | ins _ _ _ => cases s

/-- an operation of two values that are looked at -/
def e2 (g : D → D → Option D) (fa fb : EF) : EF := fun δ ρ => (fa δ ρ).bind fun x ρ1 => (fb δ ρ1).bind fun y ρ2 =>
  match x.view ρ2, y.view ρ2 with
  | some p, some q => match g p q with
    | some d => .ok (.d d) ρ2
    | none => .stuck
  | _, _ => .stuck
/-- the rule of the layer serves the function -/
def Serves2 (W : Wd) (r : R2) (g : D → D → Option D) : Prop := ∀ (H : Hp) (v u : V) (p q d : D) (Q : VK), Dat W H v p → Dat W H u q → g p q = some d → (∀ z, (∀ Z, Dat W Z z d) → Q z H) → r v u H Q
theorem de_two {r : R2} {g : D → D → Option D} (sv : Serves2 W r g) {e : Expr} (h : ∀ {ta tb : TE}, PE X a ta → PE X b tb → PE X e (tOp r ta tb)) (ha : DE X W w fa a) (hb : DE X W w fb b) : DE X W w (e2 g fa fb) e :=
  wkE (h ha hb) fun σ H Q ⟨Z, α, ρ, δ, fp, hk, loc, g0⟩ => by
    refine ⟨Z, α, ρ, δ, fp, hk, loc, (Goes.bind (R := Val W) g0).mono fun v H1 ⟨Z1, α1, ρ1, fp1, x, s1, p1, hk1, rv, _, g1⟩ => ?_⟩
    refine ⟨Z1, α1, ρ1, δ, fp1, hk1, loc.mono s1.z p1, (Goes.bind (R := Val W) g1).mono fun u H2 ⟨Z2, α2, ρ2, fp2, y, s2, p2, hk2, ru, _, g2⟩ => ?_⟩
    split at g2
    · rename_i p q ep eq
      split at g2
      · rename_i d ed
        exact sv H2 v u p q d Q (Val.view hk2 (rv.mono s2.z p2) ep) (Val.view hk2 ru eq) ed fun z hz => g2.done hk2 (.d (hz _))
      · exact g2.elim
    · exact g2.elim
def e1 (g : D → Option D) (fa : EF) : EF := fun δ ρ => (fa δ ρ).bind fun x ρ1 =>
  match x.view ρ1 with
  | some p => match g p with
    | some d => .ok (.d d) ρ1
    | none => .stuck
  | none => .stuck
def Serves1 (W : Wd) (r : V → Hp → VK → Prop) (g : D → Option D) : Prop := ∀ (H : Hp) (v : V) (p d : D) (Q : VK), Dat W H v p → g p = some d → (∀ z, (∀ Z, Dat W Z z d) → Q z H) → r v H Q
theorem de_one {r : V → Hp → VK → Prop} {g : D → Option D} (sv : Serves1 W r g) {e : Expr} (h : ∀ {ta : TE}, PE X a ta → PE X e (tUn r ta)) (ha : DE X W w fa a) : DE X W w (e1 g fa) e :=
  wkE (h ha) fun σ H Q ⟨Z, α, ρ, δ, fp, hk, loc, g0⟩ => by
    refine ⟨Z, α, ρ, δ, fp, hk, loc, (Goes.bind (R := Val W) g0).mono fun v H1 ⟨Z1, α1, ρ1, fp1, x, s1, p1, hk1, rv, _, g1⟩ => ?_⟩
    split at g1
    · rename_i p ep
      split at g1
      · rename_i d ed
        exact sv H1 v p d Q (Val.view hk1 rv ep) ed fun z hz => g1.done hk1 (.d (hz _))
      · exact g1.elim
    · exact g1.elim

/-! tests -/
def bOf (fa : EF) : BF := fun δ ρ => (fa δ ρ).bind fun x ρ1 => match x with
  | .d (.bl b) => .ok b ρ1
  | _ => .stuck
theorem dt_val (ha : DE X W w fa a) (h : ∀ {t : TE}, PE X a t → PT X a (tB t)) : DT X W w (bOf fa) a := wkT (h ha) fun σ H Q ⟨Z, α, ρ, δ, fp, hk, loc, g0⟩ => by
  refine ⟨Z, α, ρ, δ, fp, hk, loc, (Goes.bind (R := Val W) g0).mono fun v H1 ⟨Z1, α1, ρ1, fp1, x, s1, p1, hk1, rv, _, g1⟩ => ?_⟩
  split at g1
  · rename_i b
    cases rv with
    | d h =>
      cases h with
      | bl => exact ⟨_, rfl, g1.done hk1 rfl⟩
  · exact g1.elim
def bNot (f : BF) : BF := fun δ ρ => (f δ ρ).bind fun b ρ1 => .ok (!b) ρ1
def bAnd (f g : BF) : BF := fun δ ρ => (f δ ρ).bind fun b ρ1 => if b then g δ ρ1 else .ok false ρ1
def bOr (f g : BF) : BF := fun δ ρ => (f δ ρ).bind fun b ρ1 => if b then .ok true ρ1 else g δ ρ1
theorem dt_not {f : BF} (h : DT X W w f a) : DT X W w (bNot f) (.UnaryOp .Not a pos) := wkT (pt_not h) fun σ H Q ⟨Z, α, ρ, δ, fp, hk, loc, g0⟩ => by
  refine ⟨Z, α, ρ, δ, fp, hk, loc, (Goes.bind (R := RB) g0).mono fun v H1 ⟨Z1, α1, ρ1, fp1, x, s1, p1, hk1, rv, _, g1⟩ => ?_⟩
  cases rv
  exact g1.done hk1 rfl

def DW (X : Cx) (W : Wd) (w : WX) (f : BF) (e : Expr) : Prop := PW X e (tBo W w f)
theorem wkW {X : Cx} {e : Expr} {t u : TT} (h : PW X e t) (k : ∀ σ H Q, u σ H Q → t σ H Q) : PW X e u := ⟨fun wh pins s σ H Q I q => h.run wh pins s σ H Q I (k σ H Q q)⟩
theorem dw_and1 {f : BF} (h : DT X W w f a) : DW X W w f (.BoolOp .And [a] pos) := pw_and1 h
theorem dw_or1 {f : BF} (h : DT X W w f a) : DW X W w f (.BoolOp .Or [a] pos) := pw_or1 h
theorem dt_w {f : BF} (h : DW X W w f a) : DT X W w f a := h.pt
theorem dw_and {f g : BF} {rest : List Expr} (h : DT X W w f a) (k : DW X W w g (.BoolOp .And (b :: rest) pos)) : DW X W w (bAnd f g) (.BoolOp .And (a :: b :: rest) pos) := wkW (pw_and h k) fun σ H Q ⟨Z, α, ρ, δ, fp, hk, loc, g0⟩ => by
  refine ⟨Z, α, ρ, δ, fp, hk, loc, (Goes.bind (R := RB) g0).mono fun v H1 ⟨Z1, α1, ρ1, fp1, x, s1, p1, hk1, rv, _, g1⟩ => ?_⟩
  cases rv
  cases v with
  | true => exact iteT ⟨Z1, α1, ρ1, δ, fp1, hk1, loc.mono s1.z p1, g1⟩
  | false => exact iteF (g1.done hk1 rfl)
theorem dw_or {f g : BF} {rest : List Expr} (h : DT X W w f a) (k : DW X W w g (.BoolOp .Or (b :: rest) pos)) : DW X W w (bOr f g) (.BoolOp .Or (a :: b :: rest) pos) := wkW (pw_or h k) fun σ H Q ⟨Z, α, ρ, δ, fp, hk, loc, g0⟩ => by
  refine ⟨Z, α, ρ, δ, fp, hk, loc, (Goes.bind (R := RB) g0).mono fun v H1 ⟨Z1, α1, ρ1, fp1, x, s1, p1, hk1, rv, _, g1⟩ => ?_⟩
  cases rv
  cases v with
  | true => exact iteT (g1.done hk1 rfl)
  | false => exact iteF ⟨Z1, α1, ρ1, δ, fp1, hk1, loc.mono s1.z p1, g1⟩
/-- and, or, not as values (of truth values) -/
def eAnd (f g : EF) : EF := fun δ ρ => (f δ ρ).bind fun x ρ1 => match x with
  | .d (.bl true) => g δ ρ1
  | .d (.bl false) => .ok (.d (.bl false)) ρ1
  | _ => .stuck
def eOr (f g : EF) : EF := fun δ ρ => (f δ ρ).bind fun x ρ1 => match x with
  | .d (.bl true) => .ok (.d (.bl true)) ρ1
  | .d (.bl false) => g δ ρ1
  | _ => .stuck
def eNot (f : EF) : EF := fun δ ρ => (f δ ρ).bind fun x ρ1 => match x with
  | .d (.bl b) => .ok (.d (.bl (!b))) ρ1
  | _ => .stuck
theorem de_one1 {op : BoolOp} (h : DE X W w fa a) : DE X W w fa (.BoolOp op [a] pos) := pe_one h
theorem Val.bl {Z : Hp} {α : List V} {v : V} {b : Bool} (h : Val W Z α v (.d (.bl b))) : v = .bl b := by
  cases h with
  | d h => cases h; rfl
theorem Val.int {Z : Hp} {α : List V} {v : V} {b : Int} (h : Val W Z α v (.d (.int b))) : v = .int b := by
  cases h with
  | d h => cases h; rfl
theorem de_and {rest : List Expr} (h : DE X W w fa a) (k : DE X W w fb (.BoolOp .And (b :: rest) pos)) : DE X W w (eAnd fa fb) (.BoolOp .And (a :: b :: rest) pos) := wkE (pe_and h k) fun σ H Q ⟨Z, α, ρ, δ, fp, hk, loc, g0⟩ => by
  refine ⟨Z, α, ρ, δ, fp, hk, loc, (Goes.bind (R := Val W) g0).mono fun v H1 ⟨Z1, α1, ρ1, fp1, x, s1, p1, hk1, rv, _, g1⟩ => ?_⟩
  split at g1
  · cases rv.bl
    exact ⟨true, rfl, iteT ⟨Z1, α1, ρ1, δ, fp1, hk1, loc.mono s1.z p1, g1⟩⟩
  · cases rv.bl
    exact ⟨false, rfl, iteF (g1.done hk1 (.d (.bl _)))⟩
  · exact g1.elim
theorem de_or {rest : List Expr} (h : DE X W w fa a) (k : DE X W w fb (.BoolOp .Or (b :: rest) pos)) : DE X W w (eOr fa fb) (.BoolOp .Or (a :: b :: rest) pos) := wkE (pe_or h k) fun σ H Q ⟨Z, α, ρ, δ, fp, hk, loc, g0⟩ => by
  refine ⟨Z, α, ρ, δ, fp, hk, loc, (Goes.bind (R := Val W) g0).mono fun v H1 ⟨Z1, α1, ρ1, fp1, x, s1, p1, hk1, rv, _, g1⟩ => ?_⟩
  split at g1
  · cases rv.bl
    exact ⟨true, rfl, iteT (g1.done hk1 (.d (.bl _)))⟩
  · cases rv.bl
    exact ⟨false, rfl, iteF ⟨Z1, α1, ρ1, δ, fp1, hk1, loc.mono s1.z p1, g1⟩⟩
  · exact g1.elim
theorem de_not (h : DE X W w fa a) : DE X W w (eNot fa) (.UnaryOp .Not a pos) := wkE (pe_not h) fun σ H Q ⟨Z, α, ρ, δ, fp, hk, loc, g0⟩ => by
  refine ⟨Z, α, ρ, δ, fp, hk, loc, (Goes.bind (R := Val W) g0).mono fun v H1 ⟨Z1, α1, ρ1, fp1, x, s1, p1, hk1, rv, _, g1⟩ => ?_⟩
  split at g1
  · cases rv.bl
    exact ⟨_, rfl, g1.done hk1 (.d (.bl _))⟩
  · exact g1.elim
def eIf (f : BF) (g h : EF) : EF := fun δ ρ => (f δ ρ).bind fun b ρ1 => if b then g δ ρ1 else h δ ρ1
theorem de_if {c : Expr} {f : BF} (h : DT X W w f c) (ha : DE X W w fa a) (hb : DE X W w fb b) : DE X W w (eIf f fa fb) (.IfExp c a b pos) := wkE (pe_ifExp h ha hb) fun σ H Q ⟨Z, α, ρ, δ, fp, hk, loc, g0⟩ => by
  refine ⟨Z, α, ρ, δ, fp, hk, loc, (Goes.bind (R := RB) g0).mono fun v H1 ⟨Z1, α1, ρ1, fp1, x, s1, p1, hk1, rv, _, g1⟩ => ?_⟩
  cases rv
  cases v with
  | true => exact iteT ⟨Z1, α1, ρ1, δ, fp1, hk1, loc.mono s1.z p1, g1⟩
  | false => exact iteF ⟨Z1, α1, ρ1, δ, fp1, hk1, loc.mono s1.z p1, g1⟩
/-- arguments -/
def aNil : AF := fun _ ρ => .ok [] ρ
def aCons (f : EF) (g : AF) : AF := fun δ ρ => (f δ ρ).bind fun x ρ1 => (g δ ρ1).bind fun xs ρ2 => .ok (x :: xs) ρ2
theorem da_nil : DA X W w aNil [] := wkA pa_nil fun σ H Q ⟨Z, α, ρ, δ, fp, hk, loc, g0⟩ => g0.done hk .nil
theorem da_cons {es : List Expr} {g : AF} (h : DE X W w fa a) (k : DA X W w g es) (hs : starEach (a :: es) X.env = (false, eval a X.env) :: starEach es X.env := by rfl) : DA X W w (aCons fa g) (a :: es) := wkA (pa_cons h k hs) fun σ H Q ⟨Z, α, ρ, δ, fp, hk, loc, g0⟩ => by
  refine ⟨Z, α, ρ, δ, fp, hk, loc, (Goes.bind (R := Val W) g0).mono fun v H1 ⟨Z1, α1, ρ1, fp1, x, s1, p1, hk1, rv, _, g1⟩ => ?_⟩
  refine ⟨Z1, α1, ρ1, δ, fp1, hk1, loc.mono s1.z p1, (Goes.bind (R := ValL W) g1).mono fun vs H2 ⟨Z2, α2, ρ2, fp2, xs, s2, p2, hk2, rvs, _, g2⟩ => ?_⟩
  exact g2.done hk2 (.cons (rv.mono s2.z p2) rvs)
end

/-! ### new frozen things -/
section
variable {W : Wd} {Z H : Hp} {α : List V} {ρ : Hs} {fp : List Addr}
theorem Hk.free {p : Addr} (hk : Hk W Z H α ρ fp) (hp : H p = none) : Z p = none ∧ p ∉ fp := by
  refine ⟨hk.le.free hp, fun h => (hk.own.there p h).2 hp⟩
/-- a new thing, frozen -/
theorem Hk.fresh {p : Addr} {o : HO} (hk : Hk W Z H α ρ fp) (hp : H p = none) : Step Z H fp (upd Z p o) (upd H p o) fp ∧ Hk W (upd Z p o) (upd H p o) α ρ fp := by
  obtain ⟨zp, np⟩ := hk.free hp
  have sz : Same Z (upd Z p o) := fun b u e => by
    rw [upd_ne (ne_of_none e zp)]
    exact e
  refine ⟨⟨sz, fun b h => ?_, fun b h _ => upd_ne fun e => h (by rw [e]; exact hp), fun b h => ?_, fun b h => .inl h⟩, ⟨fun b u e => ?_, hk.own.keep sz fun a ha => ?_⟩⟩
  · by_cases hb : b = p
    · exact .inr (.inl (by rw [hb]; exact hp))
    · rw [upd_ne hb] at h
      exact .inl h
  · rw [upd_ne fun e => h (by rw [e]; exact hp)]
    exact h
  · by_cases hb : b = p
    · subst hb
      rw [upd_same] at e ⊢
      exact e
    · rw [upd_ne hb] at e ⊢
      exact hk.le b u e
  · have hap : a ≠ p := fun e => np (by rw [← e]; exact ha)
    exact ⟨by rw [upd_ne hap]; exact (hk.own.there a ha).1, upd_ne hap⟩
/-- the values of slots as data -/
def SV.ds : List SV → Option (List D)
  | [] => some []
  | .d x :: r => (SV.ds r).map (x :: ·)
  | _ => none
theorem ValL.ds : ∀ {vs : List V} {xs : List SV} {ds : List D}, ValL W Z α vs xs → SV.ds xs = some ds → DatL W Z vs ds
  | _, _, _, .nil, e => by
    simp only [SV.ds, Option.some.injEq] at e
    subst e
    exact .nil
  | _, _, _, .cons (x := .d x) h t, e => by
    simp only [SV.ds, Option.map_eq_some_iff] at e
    obtain ⟨l, e, rfl⟩ := e
    cases h with
    | d h => exact .cons h (ValL.ds t e)
  | _, _, _, .cons (x := .own r) h t, e => by simp [SV.ds] at e
  | _, _, _, .cons (x := .pin) h t, e => by simp [SV.ds] at e
end
end Px

namespace Px
open PySem PySem.Spec PyProof.Rows L2

/-! ### defs, called where no repr is under way -/
structure FnG (P : Program) (w : World) (K : PySem.W.Frag) (mg : Str → Option Value) (base : Heap) (k : Nat) (f : Addr) (fd : FuncData) (ps : List Str) (sp : Sp) : Prop where
  len : ∀ vs H Q E, sp vs H Q E → vs.length = ps.length
  run : ∀ (A : Around) (fs : List Env) (s : Shared) (H : Hp) (args : Args) (us : List Value) (vs : List V) (Q : VK) (E : XK),
    A.guards = some [] → Room k A → Env0 P w K mg base A fs s H → BindsTo s fd args (ps.zip us) → Vals vs us → sp vs H Q E →
    codeAny (model P w) A (.call (.ref f) args) (CR (L2.CX P w) fs P w H s Q E) s
section
variable {X : Cx} {k : Nat} {f C : Addr} {fd : FuncData} {ps : List Str} {sp : Sp} {dvs : List V} {ds : List Value} {E : Sg → XK} {x m : Str} {p pos apos : Pos} {e o : Expr} {es : List Expr} {ta : TE} {t : TA}
theorem runG {pins : List (Addr × Obj)} {σ : Sg} {H : Hp} {s : Shared} {Q : VK} {us : List Value} {vs : List V} (F : FnG X.prog X.w X.K X.mg X.base k f fd ps sp)
    (gd : X.A.guards = some []) (hr : Room k X.A) (hb : Binds X.K fd ps ds) (hd : Vals dvs ds) (hx : PassesAt (L2.CX X.prog X.w) X σ (E σ))
    (I : Inv X pins σ H s) (r : Vals vs us) (h : sp (vs ++ dvs) H Q (E σ)) : wpAny (model X.prog X.w) X.A (call (.ref f) us) (EP X pins σ Q) X.xe s := by
  have r2 := r.append hd
  have hl : (us ++ ds).length = ps.length := r2.length.symm.trans (F.len _ _ _ _ h)
  refine wpAny_call (codeAny_mono (F.run X.A X.stack s H ⟨us, []⟩ _ _ Q (E σ) gd hr I.env0 (hb s us I.kIn hl) r2 h) fun r s' hq => ?_)
  match r, hq with
  | .error e, hq => exact hx pins H s e s' I hq
  | .ok (.ret u), hq => exact I.after hq
  | .ok .next, hq => exact hq.elim
  | .ok .brk, hq => exact hq.elim
  | .ok .cont, hq => exact hq.elim
def tCalG (sp : Sp) (dvs : List V) (E : Sg → XK) (t : TA) : TE := fun σ H Q => t σ H fun vs H1 => sp (vs ++ dvs) H1 Q (E σ)
theorem pe_callG (F : FnG X.prog X.w X.K X.mg X.base k f fd ps sp) (gd : X.A.guards = some []) (hr : Room k X.A) (hg : Gl X x) (hm : X.mg x = some (.ref f))
    (hk : PySem.W.keepIn X.K (.ref f) = true) (hb : Binds X.K fd ps ds) (hd : Vals dvs ds) (hx : ∀ σ, PassesAt (L2.CX X.prog X.w) X σ (E σ))
    (ha : PA X (e :: es) t) (hdb : (x == ("__debug__" : Str)) = false := by decide)
    (he : starEach (e :: es) X.env = (false, eval e X.env) :: starEach es X.env := by rfl)
    (hpl : (backTo pos (starEach es X.env)).any (·.1) = false := by rfl) : PE X (.Call (.Name x p) (e :: es) [] pos) (tCalG sp dvs E t) :=
  ⟨fun pins s σ H Q I h => wpAny_Call_Name_kw (ld_glob I hg hm (PySem.W.callWith_K (h₀ := X.base) I.ok.mod.kin hk
    (thn (ha.run pos pins s σ H _ I h) fun us s1 ⟨vs, H1, I1, r, q⟩ => ⟨I1.kIn, runG F gd hr hb hd (hx σ) I1 r q⟩) he hpl) hdb)⟩
theorem pe_callG0 (F : FnG X.prog X.w X.K X.mg X.base k f fd ps sp) (gd : X.A.guards = some []) (hr : Room k X.A) (hg : Gl X x) (hm : X.mg x = some (.ref f))
    (hk : PySem.W.keepIn X.K (.ref f) = true) (hb : Binds X.K fd ps ds) (hd : Vals dvs ds) (hx : ∀ σ, PassesAt (L2.CX X.prog X.w) X σ (E σ))
    (hdb : (x == ("__debug__" : Str)) = false := by decide) : PE X (.Call (.Name x p) [] [] pos) (tCalG sp dvs E tNil) :=
  ⟨fun pins s σ H Q I h => wpAny_Call_Name_kw (ld_glob I hg hm (PySem.W.callWith_K0 I.kIn hk (runG (us := []) F gd hr hb hd (hx σ) I .nil h)) hdb)⟩
def tMetG (C : Addr) (m : Str) (sp : Sp) (dvs : List V) (E : Sg → XK) (ta : TE) (t : TA) : TE := fun σ H Q => ta σ H fun x H1 => ∃ a dx fs, x = .ref a ∧ H1 a = some (.ins C dx fs) ∧ fs.lookup m = none ∧
  t σ H1 fun vs H2 => sp (x :: (vs ++ dvs)) H2 Q (E σ)
theorem pe_methG {pl : Sem Bool} (he : PE X o ta) (c : Cls X.K C) (hm : Meth X.K C m f) (F : FnG X.prog X.w X.K X.mg X.base k f fd ps sp) (gd : X.A.guards = some []) (hr : Room k X.A)
    (hb : Binds X.K fd ps ds) (hd : Vals dvs ds) (hx : ∀ σ, PassesAt (L2.CX X.prog X.w) X σ (E σ)) (ha : PA X (e :: es) t)
    (hst : starEach (e :: es) X.env = (false, eval e X.env) :: starEach es X.env := by rfl)
    (hpl : (backTo pos (starEach es X.env)).any (·.1) = false := by rfl)
    (ht : eval (.Call (.Attribute o m apos) (e :: es) [] pos) X.env = (do let ov ← eval o X.env
                                                                          standAt apos.atName
                                                                          let (f, first) ← holding [ov] (getMethod ov m pl)
                                                                          callWith pos f first (backTo pos (starEach (e :: es) X.env)) (backToKw pos (keywordEach [] X.env))) := by rfl) :
    PE X (.Call (.Attribute o m apos) (e :: es) [] pos) (tMetG C m sp dvs E ta t) := by
  refine ⟨fun pins s σ H Q I h => PySem.W.methodCall_KW (pl := pl) (thn (he.run pins s σ H _ I h) fun u s1 ⟨x, H1, I1, rx, a, dx, fs, ex, ea, l, q⟩ => ?_) ht⟩
  subst ex
  have eu : u = Value.ref a := rx
  subst eu
  exact getmeth_ok I1 ea c hm l (PySem.W.callWith_K (first := [.ref a]) (h₀ := X.base) I.ok.mod.kin hm.kp
    (thn (ha.run pos pins s1 σ H1 _ I1 q) fun us s2 ⟨vs, H2, I2, r, q2⟩ => ⟨I2.kIn, runG (us := .ref a :: us) (vs := .ref a :: vs) F gd hr hb hd (hx σ) I2 (.cons rfl r) q2⟩) hst hpl)
theorem pe_methG0 {pl : Sem Bool} (he : PE X o ta) (c : Cls X.K C) (hm : Meth X.K C m f) (F : FnG X.prog X.w X.K X.mg X.base k f fd ps sp) (gd : X.A.guards = some []) (hr : Room k X.A)
    (hb : Binds X.K fd ps ds) (hd : Vals dvs ds) (hx : ∀ σ, PassesAt (L2.CX X.prog X.w) X σ (E σ))
    (ht : eval (.Call (.Attribute o m apos) [] [] pos) X.env = (do let ov ← eval o X.env
                                                                   standAt apos.atName
                                                                   let (f, first) ← holding [ov] (getMethod ov m pl)
                                                                   callWith pos f first (backTo pos (starEach [] X.env)) (backToKw pos (keywordEach [] X.env))) := by rfl) :
    PE X (.Call (.Attribute o m apos) [] [] pos) (tMetG C m sp dvs E ta tNil) := by
  refine ⟨fun pins s σ H Q I h => PySem.W.methodCall_KW (pl := pl) (thn (he.run pins s σ H _ I h) fun u s1 ⟨x, H1, I1, rx, a, dx, fs, ex, ea, l, q⟩ => ?_) ht⟩
  subst ex
  have eu : u = Value.ref a := rx
  subst eu
  exact getmeth_ok I1 ea c hm l (PySem.W.callWith_K0 (first := [.ref a]) I1.kIn hm.kp (runG (us := [.ref a]) (vs := [.ref a]) F gd hr hb hd (hx σ) I1 (.cons rfl .nil) q))
/-- C(..) -/
def tMakG (C : Addr) (sp : Sp) (dvs : List V) (E : Sg → XK) (t : TA) : TE := fun σ H Q => t σ H fun vs H1 => ∀ x dx, H1 x = none → H1 dx = none → dx ≠ x →
  sp (.ref x :: (vs ++ dvs)) (upd (upd H1 dx (.own x)) x (.ins C dx [])) (fun v H2 => v = .non ∧ Q (.ref x) H2) (E σ)
theorem under_guards {A : Around} (gd : A.guards = some []) (us : List Value) (kw : List (Str × Value)) : (A.under (.builtin "type.__call__" ⟨us, kw⟩)).guards = some [] := by
  have e : (Code.builtin "type.__call__" ⟨us, kw⟩).isGuard = false := by
    show guardIds.contains "type.__call__" = false
    decide +kernel
  simp [Around.under, Code.guards, e, gd, pushGuards]
theorem makG {pins : List (Addr × Obj)} {σ : Sg} {H : Hp} {s : Shared} {Q : VK} {us : List Value} {vs : List V} (M : Mk X.K C f) (F : FnG X.prog X.w X.K X.mg X.base k f fd ps sp)
    (gd : X.A.guards = some []) (hr : Room (k + 1) X.A) (hb : Binds X.K fd ps ds) (hd : Vals dvs ds)
    (hx : ∀ σ, PassesAt (L2.CX X.prog X.w) X σ (E σ)) (I : Inv X pins σ H s) (r : Vals vs us)
    (h : ∀ x dx, H x = none → H dx = none → dx ≠ x → sp (.ref x :: (vs ++ dvs)) (upd (upd H dx (.own x)) x (.ins C dx [])) (fun v H2 => v = .non ∧ Q (.ref x) H2) (E σ)) :
    wpAny (model X.prog X.w) X.A (call (.ref C) us) (EP X pins σ Q) X.xe s := by
  have hq := h (s.heap.objs.size + 1) s.heap.objs.size (I.hok.fresh (Nat.le_succ _)) (I.hok.fresh (Nat.le_refl _)) (Nat.ne_of_lt (Nat.lt_succ_self _))
  have I2 := Inv.made (C := C) I
  have r2 : Vals (V.ref (s.heap.objs.size + 1) :: (vs ++ dvs)) (Value.ref (s.heap.objs.size + 1) :: (us ++ ds)) := .cons rfl (r.append hd)
  have hl : (Value.ref (s.heap.objs.size + 1) :: us ++ ds).length = ps.length := r2.length.symm.trans (F.len _ _ _ _ hq)
  refine wpAny_call (make_map (f := f) I.kIn M.makes M.init (beq_iff_eq.mp M.fn) (codeAny_mono (F.run _ X.stack _ _ ⟨Value.ref (s.heap.objs.size + 1) :: us, []⟩ _ _ _ _ (under_guards gd _ _)
    (hr.make C us []) (I2.env0.make C us []) (hb _ (Value.ref (s.heap.objs.size + 1) :: us) I2.kIn hl) r2 hq) fun r s' hq' => ?_))
  match r, hq' with
  | .error e, hq' => exact hx σ pins _ _ e s' I2 hq'
  | .ok (.ret u), hq' =>
    obtain ⟨v, H', I3, rv, ev, q3⟩ := I2.after hq'
    subst ev
    exact ⟨rv, ⟨V.ref (s.heap.objs.size + 1), H', I3, rfl, q3⟩⟩
  | .ok .next, hq' => exact hq'.elim
  | .ok .brk, hq' => exact hq'.elim
  | .ok .cont, hq' => exact hq'.elim
theorem pe_makeG (M : Mk X.K C f) (F : FnG X.prog X.w X.K X.mg X.base k f fd ps sp) (gd : X.A.guards = some []) (hr : Room (k + 1) X.A) (hg : Gl X x) (hm : X.mg x = some (.ref C))
    (hb : Binds X.K fd ps ds) (hd : Vals dvs ds) (hx : ∀ σ, PassesAt (L2.CX X.prog X.w) X σ (E σ))
    (ha : PA X (e :: es) t) (hdb : (x == ("__debug__" : Str)) = false := by decide)
    (he : starEach (e :: es) X.env = (false, eval e X.env) :: starEach es X.env := by rfl)
    (hpl : (backTo pos (starEach es X.env)).any (·.1) = false := by rfl) : PE X (.Call (.Name x p) (e :: es) [] pos) (tMakG C sp dvs E t) :=
  ⟨fun pins s σ H Q I h => wpAny_Call_Name_kw (ld_glob I hg hm (PySem.W.callWith_K (h₀ := X.base) I.ok.mod.kin M.kp
    (thn (ha.run pos pins s σ H _ I h) fun us s1 ⟨vs, H1, I1, r, q⟩ => ⟨I1.kIn, makG M F gd hr hb hd hx I1 r q⟩) he hpl) hdb)⟩
/-- o.f, a property -/
def tPrG (C : Addr) (sp : Sp) (E : Sg → XK) (ta : TE) : TE := fun σ H Q => ta σ H fun x H1 => ∃ a dx fs, x = .ref a ∧ H1 a = some (.ins C dx fs) ∧ sp [.ref a] H1 Q (E σ)
theorem getpropG {pins : List (Addr × Obj)} {σ : Sg} {H : Hp} {s : Shared} {Q : VK} {b : Bool} {a dx g q0 : Addr} {fs : List (Str × V)} {n : Str} {E0 : XK} {E' : Value → Shared → Prop} (I : Inv X pins σ H s) (ea : H a = some (.ins C dx fs))
    (c : Cls X.K C) (hp : PropOf X.K C n q0 g) (F : FnG X.prog X.w X.K X.mg X.base k g fd ps sp) (gd : X.A.guards = some []) (hr : Room (k + 1) X.A) (hb : Binds X.K fd ps [])
    (hE : ∀ c d H, ¬ E0 c d H) (h : sp [.ref a] H Q E0) :
    wpAny (model X.prog X.w) X.A (getAttr (.ref a) n b) (EP X pins σ Q) E' s := by
  obtain ⟨mA, O, _, _, _, _⟩ := ins_get I.hok ea
  obtain ⟨od, J, _⟩ := O.look
  obtain ⟨rest, hrec⟩ := hp.rec_
  have I1 := I.tok (s.toks + 1)
  have hl : ([Value.ref a] ++ []).length = ps.length := (F.len _ _ _ _ h)
  have hc : (PySem.W.clsIn X.K C).isSome = true := by
    obtain ⟨cd, hc, _⟩ := PySem.W.any_some c.hd
    rw [hc]; rfl
  refine PySem.W.get_bind I.kIn J (PySem.W.plainGet_of (c.get n)).1 (PySem.W.findObj_data hc hp.at_ hp.get hp.tak) (PySem.W.plainGet_of (c.get n)).2 (wpAny_call (PySem.W.prop_get (s := { s with toks := s.toks + 1 }) I.kIn hrec ?_))
  refine codeAny_mono (F.run X.A.in1 X.stack { s with toks := s.toks + 1 } H ⟨[.ref a], []⟩ [.ref a] [.ref a] Q E0 gd hr.in1 I1.env0.in1 (hb _ [.ref a] I1.kIn hl) (.cons rfl .nil) h) fun r s' hq => ?_
  match r, hq with
  | .error e, hq =>
    obtain ⟨_, _, _, _, _, _, _, _, _, _, _, _, z⟩ := hq
    exact (hE _ _ _ z).elim
  | .ok (.ret u), hq =>
    obtain ⟨v, H', I3, rv, q3⟩ := I1.after hq
    show wpAny _ _ (handedOut u) _ _ _
    rw [PySem.W.handedOut_of (handed_of rv)]
    exact wpAny_pure ⟨v, H', I3, rv, q3⟩
  | .ok .next, hq => exact hq.elim
  | .ok .brk, hq => exact hq.elim
  | .ok .cont, hq => exact hq.elim
def tProG (C : Addr) (sp : Sp) (ta : TE) : TE := fun σ H Q => ta σ H fun x H1 => ∃ a dx fs, x = .ref a ∧ H1 a = some (.ins C dx fs) ∧ sp [.ref a] H1 Q fun _ _ _ => False
theorem pe_propG {n : Str} {q0 g : Addr} (he : PE X e ta) (c : Cls X.K C) (hp : PropOf X.K C n q0 g) (F : FnG X.prog X.w X.K X.mg X.base k g fd ps sp) (gd : X.A.guards = some []) (hr : Room (k + 1) X.A)
    (hb : Binds X.K fd ps []) (hab : attributeBase e n X.env (eval e X.env) = eval e X.env) : PE X (.Attribute e n pos) (tProG C sp ta) :=
  ⟨fun pins s σ H Q I h => attr_of hab (thn (he.run pins s σ H _ I h) fun u s1 ⟨x, H1, I1, rx, a, dx, fs, ex, ea, q⟩ => by
    subst ex
    have eu : u = Value.ref a := rx
    subst eu
    exact getpropG I1 ea c hp F gd hr hb (fun _ _ _ z => z) q)⟩
end

/-- a def of the text as it stands; its defaults are left open -/
structure FunX (K : PySem.W.Frag) (x qual : Str) (st : Stmt) (f : Addr) (fd : FuncData) : Prop where
  ex : ∃ (oc : Value) (od : Option Addr) (dV kV doc pm : Value) (an : Option Addr) (cdv ct : Value) (osl : Array (Option Value)),
    fd = PySem.W.fnOf x qual (defArgs st) (defBody st) (defScope st) dV kV doc pm an cdv ct ∧ K.lookup f = some ⟨oc, od, .func fd, osl⟩ ∧ PySem.W.codeIn K cdv qual = true
theorem Fun.x {K : PySem.W.Frag} {x qual : Str} {st : Stmt} {f : Addr} {fd : FuncData} (F : Fun K x qual st f fd) : FunX K x qual st f fd := by
  obtain ⟨oc, od, kV, doc, pm, an, cdv, ct, osl, e1, e2, e3⟩ := F.ex
  exact ⟨oc, od, .none, kV, doc, pm, an, cdv, ct, osl, e1, e2, e3⟩
/-- a def of the text, by its body -/
theorem fnG_of {P : Program} {w : World} {K : PySem.W.Frag} {mg : Str → Option Value} {base : Heap} {x qual : Str} {st : Stmt} {f : Addr} {fd : FuncData} {N ps : List Str} {k : Nat} {sp : Sp} (F : FunX K x qual st f fd) (S : FnScope N ps (defScope st)) (len : ∀ vs H Q E, sp vs H Q E → vs.length = ps.length)
    (hbody : ∀ (cdv : Value) (A : Around) (fs : List Env) (s : Shared) (H : Hp) (E : XK), (A.deeper (envOfC qual (defScope st) s.heap.objs.size f cdv)).guards = some [] → Room k (A.deeper (envOfC qual (defScope st) s.heap.objs.size f cdv)) →
      ∃ t, PSs (cxOf (L2.CX P w) P w K mg base N qual (defScope st) f cdv A fs s H E) (defBody st) t ∧ ∀ (vs : List V) (Q : VK), sp vs H Q E → t { nx := fun _ H' => Q .non H', rt := Q } (start N vs) H) :
    FnG P w K mg base (k + 1) f fd ps sp := by
  obtain ⟨oc, od, dV, kV, doc, pm, an, cdv, ct, osl, rfl, lk, hcd⟩ := F.ex
  have S' := S
  refine ⟨len, fun A fs s H args us vs Q E gd hr e0 hb r hsp => ?_⟩
  have hl := len _ _ _ _ hsp
  have KX : K.In s.heap := e0.mod.kin.keeps fun b o e => (e0.bs b o e).1
  have lim : s.heap.NoLimit := e0.mod.nolimit.keeps fun b o e => (e0.bs b o e).1
  refine codeAny_call_function hr.depth (KX _ _ lk) rfl S.co S.gen rfl (PySem.W.codeRec_of KX hcd) (hb _ _ _ _ (wpAny_newFunctionEnv_cells S.kind (fun ⟨n, v⟩ hy => ?_) fun env he s1 x => ?_))
  · rcases S.par n (List.of_mem_zip hy).1 with q | q
    · exact .inl q
    · exact .inr ⟨q, PySem.W.cellsFrom_some _ _ _ (.inl q)⟩
  subst he
  refine ⟨lim.keeps x.toInCall.keep, codeAny_func ?_⟩
  obtain ⟨t, ht, hq⟩ := hbody cdv A fs s H E gd (hr.deeper _)
  have I := inv_start (CX := L2.CX P w) (f := f) (qual := qual) (cd := cdv) (E := E) S hr.hd e0 hl r x
  refine wpAny_mono (ht.run [] s1 (start N vs) H _ I (hq vs Q hsp)) (fun fl s' hs => ?_) fun e s' hs => hs
  match fl, hs with
  | .ret u, ⟨v, σ', H', J, rv, q⟩ => exact ⟨v, H', J.os, J.bare, J.base, J.hok, rv, q⟩
  | .next, ⟨σ', H', J, q⟩ => exact ⟨.non, H', J.os, J.bare, J.base, J.hok, rfl, q⟩
  | .brk, ⟨_, _, _, q⟩ => exact q.elim
  | .cont, ⟨_, _, _, q⟩ => exact q.elim
end Px

namespace Px
open PySem PySem.Spec PyProof.Rows L2

/-! ### statements -/
abbrev SF := Sto → Hs → Out
def GoesS (W : Wd) (w : WX) (Z : Hp) (α : List V) (fp : List Addr) (H : Hp) (D : Ends) (r : Out) : Prop := match r with
  | .nx δ ρ => ∀ Z' α' σ' H' fp', Step Z H fp Z' H' fp' → α <+: α' → Hk W Z' H' α' ρ fp' → Loc W Z' α' σ' δ → D.nx σ' H'
  | .bk δ ρ => ∀ Z' α' σ' H' fp', Step Z H fp Z' H' fp' → α <+: α' → Hk W Z' H' α' ρ fp' → Loc W Z' α' σ' δ → D.bk σ' H'
  | .ct δ ρ => ∀ Z' α' σ' H' fp', Step Z H fp Z' H' fp' → α <+: α' → Hk W Z' H' α' ρ fp' → Loc W Z' α' σ' δ → D.ct σ' H'
  | .rt x ρ => ∀ Z' α' v H' fp', Step Z H fp Z' H' fp' → α <+: α' → Hk W Z' H' α' ρ fp' → Val W Z' α' v x → D.rt v H'
  | .rs c l δ ρ => ∀ Z' α' σ' H' fp' d, Step Z H fp Z' H' fp' → α <+: α' → Hk W Z' H' α' ρ fp' → Loc W Z' α' σ' δ → ExD W Z' c l d → w (.ref (W.cl c)) d σ' H'
  | .stuck => False
def tS (W : Wd) (w : WX) (f : SF) : TS := fun D σ H => ∃ Z α ρ δ fp, Hk W Z H α ρ fp ∧ Loc W Z α σ δ ∧ GoesS W w Z α fp H D (f δ ρ)
def DS (X : Cx) (W : Wd) (w : WX) (f : SF) (st : Stmt) : Prop := PS X st (tS W w f)
def DSs (X : Cx) (W : Wd) (w : WX) (f : SF) (st : List Stmt) : Prop := PSs X st (tS W w f)
section
variable {W : Wd} {w : WX} {σ : Sg} {A B : Type} {R : Hp → List V → B → A → Prop} {Z Z1 H H1 : Hp} {α α1 : List V} {fp fp1 : List Addr} {D D' : Ends} {r : Out}
theorem GoesS.shift (g : GoesS W w Z α fp H D r) (s : Step Z H fp Z1 H1 fp1) (p : α <+: α1) : GoesS W w Z1 α1 fp1 H1 D r := by
  cases r with
  | nx δ ρ => exact fun Z' α' σ' H' fp' s' p' hk l => g Z' α' σ' H' fp' (s.trans s') (p.trans p') hk l
  | bk δ ρ => exact fun Z' α' σ' H' fp' s' p' hk l => g Z' α' σ' H' fp' (s.trans s') (p.trans p') hk l
  | ct δ ρ => exact fun Z' α' σ' H' fp' s' p' hk l => g Z' α' σ' H' fp' (s.trans s') (p.trans p') hk l
  | rt x ρ => exact fun Z' α' v H' fp' s' p' hk l => g Z' α' v H' fp' (s.trans s') (p.trans p') hk l
  | rs c l δ ρ => exact fun Z' α' σ' H' fp' d s' p' hk l => g Z' α' σ' H' fp' d (s.trans s') (p.trans p') hk l
  | stuck => exact g
/-- the value of a part has come -/
theorem GoesS.of {r : Ex A} {δ : Sto} {ρ : Hs} {k : A → Hs → Out} (hk : Hk W Z H α ρ fp) (loc : Loc W Z α σ δ) (g : GoesS W w Z α fp H D (r.out δ k)) :
    Goes W w σ R Z α fp H r fun v H1 => ∃ Z1 α1 ρ1 fp1 x, Step Z H fp Z1 H1 fp1 ∧ α <+: α1 ∧ Hk W Z1 H1 α1 ρ1 fp1 ∧ Loc W Z1 α1 σ δ ∧ R Z1 α1 v x ∧ r = .ok x ρ1 ∧ GoesS W w Z1 α1 fp1 H1 D (k x ρ1) := by
  cases r with
  | ok x ρ => exact fun Z' α' H' fp' v s' p' hk r => ⟨Z', α', ρ, fp', x, s', p', hk, loc.mono s'.z p', r, rfl, g.shift s' p'⟩
  | rs c l ρ => exact fun Z' α' H' fp' d s' p' hk r => g Z' α' σ H' fp' d s' p' hk (loc.mono s'.z p') r
  | stuck => exact g
theorem GoesS.next {δ : Sto} {ρ : Hs} (g : GoesS W w Z α fp H D (.nx δ ρ)) (hk : Hk W Z H α ρ fp) (loc : Loc W Z α σ δ) : D.nx σ H :=
  g Z α σ H fp (Step.refl _ _ _) (List.prefix_refl _) hk loc
end

section
variable {X : Cx} {W : Wd} {w : WX} {st : Stmt} {rest : List Stmt} {f g : SF} {fa : EF} {a : Expr} {pos : Pos}
def sNext : SF := fun δ ρ => .nx δ ρ
def sSeq (f g : SF) : SF := fun δ ρ => match f δ ρ with
  | .nx δ1 ρ1 => g δ1 ρ1
  | r => r
theorem dss_nil : DSs X W w sNext [] := wkSs pss_nil fun D σ H ⟨Z, α, ρ, δ, fp, hk, loc, g0⟩ => g0.next hk loc
theorem dss_one (h : DS X W w f st) : DSs X W w f [st] := pss_one h
theorem dss_cons (h : DS X W w f st) (k : DSs X W w g rest) : DSs X W w (sSeq f g) (st :: rest) := wkSs (pss_cons h k) fun D σ H ⟨Z, α, ρ, δ, fp, hk, loc, g0⟩ => by
  refine ⟨Z, α, ρ, δ, fp, hk, loc, ?_⟩
  unfold sSeq at g0
  cases e : f δ ρ with
  | nx δ1 ρ1 =>
    rw [e] at g0
    exact fun Z' α' σ' H' fp' s' p' hk' l' => ⟨Z', α', ρ1, δ1, fp', hk', l', g0.shift s' p'⟩
  | bk δ1 ρ1 => rw [e] at g0; exact g0
  | ct δ1 ρ1 => rw [e] at g0; exact g0
  | rt x ρ1 => rw [e] at g0; exact g0
  | rs c l δ1 ρ1 => rw [e] at g0; exact g0
  | stuck => rw [e] at g0; exact g0
def sBreak : SF := fun δ ρ => .bk δ ρ
def sCont : SF := fun δ ρ => .ct δ ρ
theorem ds_pass : DS X W w sNext (.Pass pos) := wkS ps_pass fun D σ H ⟨Z, α, ρ, δ, fp, hk, loc, g0⟩ => g0.next hk loc
theorem ds_break : DS X W w sBreak (.Break pos) := wkS ps_break fun D σ H ⟨Z, α, ρ, δ, fp, hk, loc, g0⟩ => g0 Z α σ H fp (Step.refl _ _ _) (List.prefix_refl _) hk loc
theorem ds_cont : DS X W w sCont (.Continue pos) := wkS ps_continue fun D σ H ⟨Z, α, ρ, δ, fp, hk, loc, g0⟩ => g0 Z α σ H fp (Step.refl _ _ _) (List.prefix_refl _) hk loc
theorem ds_doc {x j pos'} : DS X W w sNext (.Expr (.Constant (.str x) j pos) pos') := wkS ps_doc fun D σ H ⟨Z, α, ρ, δ, fp, hk, loc, g0⟩ => g0.next hk loc
/-- a statement that is never come to -/
def sStuck : SF := fun _ _ => .stuck
theorem ds_never : DS X W w sStuck st := wkS ps_never fun D σ H ⟨Z, α, ρ, δ, fp, hk, loc, g0⟩ => g0
def eStuck : EF := fun _ _ => .stuck
def sExpr (f : EF) : SF := fun δ ρ => (f δ ρ).out δ fun _ ρ1 => .nx δ ρ1
theorem ds_expr (h : DE X W w fa a) (hs : swapsWith a none pos.line X.env = pure false := by rfl) : DS X W w (sExpr fa) (.Expr a pos) := wkS (ps_expr h hs) fun D σ H ⟨Z, α, ρ, δ, fp, hk, loc, g0⟩ =>
  ⟨Z, α, ρ, δ, fp, hk, loc, (GoesS.of (R := Val W) hk loc g0).mono fun v H1 ⟨Z1, α1, ρ1, fp1, x, s1, p1, hk1, loc1, rv, _, g1⟩ => g1.next hk1 loc1⟩
def sRet (f : EF) : SF := fun δ ρ => (f δ ρ).out δ fun x ρ1 => .rt x ρ1
theorem ds_ret (h : DE X W w fa a) : DS X W w (sRet fa) (.Return (some a) pos) := wkS (ps_ret h) fun D σ H ⟨Z, α, ρ, δ, fp, hk, loc, g0⟩ =>
  ⟨Z, α, ρ, δ, fp, hk, loc, (GoesS.of (R := Val W) hk loc g0).mono fun v H1 ⟨Z1, α1, ρ1, fp1, x, s1, p1, hk1, loc1, rv, _, g1⟩ => g1 Z1 α1 v H1 fp1 (Step.refl _ _ _) (List.prefix_refl _) hk1 rv⟩
def sRetN : SF := fun _ ρ => .rt (.d .non) ρ
theorem ds_retN : DS X W w sRetN (.Return none pos) := wkS ps_retN fun D σ H ⟨Z, α, ρ, δ, fp, hk, loc, g0⟩ => g0 Z α .non H fp (Step.refl _ _ _) (List.prefix_refl _) hk (.d .non)
def sIf (f : BF) (g h : SF) : SF := fun δ ρ => (f δ ρ).out δ fun b ρ1 => if b then g δ ρ1 else h δ ρ1
theorem ds_if {c : Expr} {a b : List Stmt} {f : BF} {g h : SF} (hc : DT X W w f c) (ha : DSs X W w g a) (hb : DSs X W w h b) : DS X W w (sIf f g h) (.If c a b pos) := wkS (ps_if hc ha hb) fun D σ H ⟨Z, α, ρ, δ, fp, hk, loc, g0⟩ =>
  ⟨Z, α, ρ, δ, fp, hk, loc, (GoesS.of (R := RB) hk loc g0).mono fun v H1 ⟨Z1, α1, ρ1, fp1, x, s1, p1, hk1, loc1, rv, _, g1⟩ => by
    cases rv
    cases v with
    | true => exact iteT ⟨Z1, α1, ρ1, δ, fp1, hk1, loc1, g1⟩
    | false => exact iteF ⟨Z1, α1, ρ1, δ, fp1, hk1, loc1, g1⟩⟩

/-! targets: they take a value and change slots (and roots) -/
abbrev GF := SV → Sto → Hs → Option (Sto × Hs)
def tGo (W : Wd) (f : GF) : TG := fun v σ H Q => ∃ Z α ρ δ fp x, Hk W Z H α ρ fp ∧ Loc W Z α σ δ ∧ Val W Z α v x ∧ ∃ δ1 ρ1, f x δ ρ = some (δ1, ρ1) ∧
  ∀ Z' α' σ' H' fp', Step Z H fp Z' H' fp' → α <+: α' → Hk W Z' H' α' ρ1 fp' → Loc W Z' α' σ' δ1 → Q σ' H'
def DG (X : Cx) (W : Wd) (f : GF) (tg : Expr) : Prop := PG X tg (tGo W f)
theorem wkG {tg : Expr} {t u : TG} (h : PG X tg t) (k : ∀ v σ H Q, u v σ H Q → t v σ H Q) : PG X tg u := ⟨fun pins s σ H v uu Q I r q => h.run pins s σ H v uu Q I r (k v σ H Q q)⟩
def gSet (i : Nat) : GF := fun x δ ρ => some (δ.set i (some x), ρ)
theorem dg_name {i : Nat} {x : Str} (hN : X.N.Nodup) (hi : X.N[i]? = some x) (hx : L2.Loc X.env.scope x) (hf : X.fn x = true ∨ X.env.scope.names.lookup x = some .local) : DG X W (gSet i) (.Name x pos) :=
  wkG (pg_name hN hi hx hf) fun v σ H Q ⟨Z, α, ρ, δ, fp, x, hk, loc, rv, δ1, ρ1, e, q⟩ => by
    cases e
    exact q Z α _ H fp (Step.refl _ _ _) (List.prefix_refl _) hk (loc.set rv)
def sAsg (f : EF) (g : GF) : SF := fun δ ρ => (f δ ρ).out δ fun x ρ1 => match g x δ ρ1 with
  | some (δ1, ρ2) => .nx δ1 ρ2
  | none => .stuck
theorem GoesS.asg {Z H : Hp} {α : List V} {fp : List Addr} {ρ : Hs} {σ : Sg} {δ : Sto} {D : Ends} {gf : GF} {v : V} {x : SV} (hk : Hk W Z H α ρ fp) (loc : Loc W Z α σ δ) (rv : Val W Z α v x)
    (g : GoesS W w Z α fp H D (match gf x δ ρ with | some (δ1, ρ2) => .nx δ1 ρ2 | none => .stuck)) : tGo W gf v σ H D.nx := by
  split at g
  · rename_i δ1 ρ2 e
    exact ⟨Z, α, ρ, δ, fp, x, hk, loc, rv, δ1, ρ2, e, fun Z' α' σ' H' fp' s' p' hk' l' => g Z' α' σ' H' fp' s' p' hk' l'⟩
  · exact g.elim
theorem ds_asg {tg : Expr} {gf : GF} (h : DE X W w fa a) (hg : DG X W gf tg) (hs : swapsWithSole [tg] a pos.line X.env = pure false := by rfl) (hw : swappedStores [tg] a X.env = pure none := by rfl)
    (h1 : (assignEach [tg] X.env).map (·.2) = [assign tg X.env] := by rfl) : DS X W w (sAsg fa gf) (.Assign [tg] a pos) := wkS (ps_asg h hg hs hw h1) fun D σ H ⟨Z, α, ρ, δ, fp, hk, loc, g0⟩ =>
  ⟨Z, α, ρ, δ, fp, hk, loc, (GoesS.of (R := Val W) hk loc g0).mono fun v H1 ⟨Z1, α1, ρ1, fp1, x, s1, p1, hk1, loc1, rv, _, g1⟩ => GoesS.asg hk1 loc1 rv g1⟩
def sSet (i : Nat) (f : EF) : SF := fun δ ρ => (f δ ρ).out δ fun x ρ1 => .nx (δ.set i (some x)) ρ1
theorem ds_set {i : Nat} {x : Str} {pos' : Pos} (hN : X.N.Nodup) (hi : X.N[i]? = some x) (hx : L2.Loc X.env.scope x) (h : DE X W w fa a) (hf : X.fn x = true ∨ X.env.scope.names.lookup x = some .local)
    (hs : swapsWith a (some (.Name x pos')) pos.line X.env = pure false := by rfl) : DS X W w (sSet i fa) (.Assign [.Name x pos'] a pos) := wkS (ps_set hN hi hx h hs hf) fun D σ H ⟨Z, α, ρ, δ, fp, hk, loc, g0⟩ =>
  ⟨Z, α, ρ, δ, fp, hk, loc, (GoesS.of (R := Val W) hk loc g0).mono fun v H1 ⟨Z1, α1, ρ1, fp1, x, s1, p1, hk1, loc1, rv, _, g1⟩ => g1.next hk1 (loc1.set rv)⟩
end

/-! ### functions -/
abbrev DF := List SV → Hs → Ex SV
def spD (W : Wd) (p : Nat) (F : DF) : Sp := fun vs H Q E => ∃ Z α ρ fp xs, Hk W Z H α ρ fp ∧ ValL W Z α vs xs ∧ xs.length = p ∧ Goes W (fun c d _ H' => E c d H') [] (Val W) Z α fp H (F xs ρ) Q
structure FnD (P : Program) (w : World) (K : PySem.W.Frag) (mg : Str → Option Value) (base : Heap) (W : Wd) (k : Nat) (f : Addr) (fd : FuncData) (ps : List Str) (F : DF) : Prop where
  g : FnG P w K mg base k f fd ps (spD W ps.length F)
  ar : ∀ xs ρ, xs.length ≠ ps.length → F xs ρ = .stuck
/-- what a def leaves: its own roots are dropped, but for the one that it hands back -/
def cutR (n : Nat) (x : SV) (ρ : Hs) : Ex SV := match x with
  | .pin => .stuck
  | .d y => .ok (.d y) (ρ.take n)
  | .own r => if r < n then .ok (.own r) (ρ.take n) else match ρ[r]? with
    | some o => .ok (.own n) (ρ.take n ++ [o])
    | none => .stuck
def Out.fin (n : Nat) (r : Out) : Ex SV := match r with
  | .nx _ ρ1 => .ok (.d .non) (ρ1.take n)
  | .rt x ρ1 => cutR n x ρ1
  | .rs c l _ ρ1 => .rs c l (ρ1.take n)
  | _ => .stuck
def funOf (p m : Nat) (f : SF) : DF := fun xs ρ => if xs.length = p then (f (xs.map some ++ List.replicate (m - xs.length) none) ρ).fin ρ.length else .stuck
section
variable {W : Wd} {Z H : Hp}
theorem OwnL.take : ∀ {vs : List V} {os : List O} {fp : List Addr} (n : Nat), OwnL W Z H vs os fp → ∃ fq, OwnL W Z H (vs.take n) (os.take n) fq ∧ ∀ a ∈ fq, a ∈ fp
  | _, _, _, 0, _ => ⟨[], .nil, fun _ h => by cases h⟩
  | _, _, _, n + 1, .nil => ⟨[], .nil, fun _ h => by cases h⟩
  | _, _, _, n + 1, .cons h t dj => by
    obtain ⟨fq, h1, h2⟩ := OwnL.take n t
    exact ⟨_, .cons h h1 fun a ha hq => dj a ha (h2 a hq), fun a ha => (List.mem_append.mp ha).elim (fun q => List.mem_append_left _ q) fun q => List.mem_append_right _ (h2 a q)⟩
theorem OwnL.snoc : ∀ {vs : List V} {os : List O} {fp fo : List Addr} {v : V} {o : O}, OwnL W Z H vs os fp → Own W Z H v o fo → (∀ a ∈ fp, a ∉ fo) → ∃ fq, OwnL W Z H (vs ++ [v]) (os ++ [o]) fq ∧ ∀ a ∈ fq, a ∈ fp ∨ a ∈ fo
  | _, _, _, fo, v, o, .nil, k, _ => ⟨fo ++ [], .cons k .nil (fun _ _ h => by cases h), fun a ha => by rw [List.append_nil] at ha; exact .inr ha⟩
  | _, _, _, fo, v, o, .cons h t dj, k, d => by
    obtain ⟨fq, h1, h2⟩ := OwnL.snoc t k fun a ha => d a (List.mem_append_right _ ha)
    refine ⟨_, .cons h h1 fun a ha hq => (h2 a hq).elim (dj a ha) (d a (List.mem_append_left _ ha)), fun a ha => ?_⟩
    rcases List.mem_append.mp ha with q | q
    · exact .inl (List.mem_append_left _ q)
    · exact (h2 a q).imp (fun z => List.mem_append_right _ z) id
/-- one root behind the first n, kept beside them -/
theorem OwnL.pick : ∀ {vs : List V} {os : List O} {fp : List Addr} (n r : Nat) {o : O}, OwnL W Z H vs os fp → n ≤ r → os[r]? = some o →
    ∃ v fq fo, vs[r]? = some v ∧ OwnL W Z H (vs.take n) (os.take n) fq ∧ Own W Z H v o fo ∧ (∀ a ∈ fq, a ∉ fo) ∧ (∀ a ∈ fq, a ∈ fp) ∧ ∀ a ∈ fo, a ∈ fp
  | _, _, _, _, _, _, .nil, _, e => by simp at e
  | _, _, _, 0, r, o, t, _, e => by
    obtain ⟨v, fo, h1, h2, h3⟩ := OwnL.get t e
    exact ⟨v, [], fo, h1, .nil, h2, (fun _ h => by cases h), (fun _ h => by cases h), h3⟩
  | _, _, _, n + 1, 0, _, .cons h t dj, hn, e => by omega
  | _, _, _, n + 1, r + 1, o, .cons h t dj, hn, e => by
    obtain ⟨v, fq, fo, h1, h2, h3, h4, h5, h6⟩ := OwnL.pick n r (o := o) t (by omega) (by simpa using e)
    refine ⟨v, _, fo, by simpa using h1, .cons h h2 fun a ha hq => dj a ha (h5 a hq), h3, fun a ha hq => ?_, fun a ha => ?_, fun a ha => List.mem_append_right _ (h6 a ha)⟩
    · rcases List.mem_append.mp ha with z | z
      · exact dj a z (h6 a hq)
      · exact h4 a z hq
    · exact (List.mem_append.mp ha).elim (fun q => List.mem_append_left _ q) fun q => List.mem_append_right _ (h5 a q)
theorem take_of_prefix {α α' : List V} (p : α <+: α') : α'.take α.length = α := by
  obtain ⟨t, rfl⟩ := p
  exact List.take_left'  rfl
theorem Goes.cut {w : WX} {Z' H' : Hp} {α α' : List V} {ρ ρ1 : Hs} {fp fp1 : List Addr} {v : V} {x : SV} {Q : VK} {σ : Sg} (hk : Hk W Z H α ρ fp) (s : Step Z H fp Z' H' fp1) (p : α <+: α') (hk1 : Hk W Z' H' α' ρ1 fp1)
    (rv : Val W Z' α' v x) (g : Goes W w σ (Val W) Z α fp H (cutR ρ.length x ρ1) Q) : Q v H' := by
  have en : ρ.length = α.length := hk.own.length.symm
  have key : ∀ y, Val W Z' α v y → Goes W w σ (Val W) Z α fp H (.ok y (ρ1.take ρ.length)) Q → Q v H' := fun y ry g => by
    obtain ⟨fq, h1, h2⟩ := hk1.own.take ρ.length
    rw [en, take_of_prefix p, ← en] at h1
    exact g Z' α H' fq v ⟨s.z, s.nz, s.fr, s.st, fun a ha => s.fp a (h2 a ha)⟩ (List.prefix_refl _) ⟨hk1.le, h1⟩ ry
  cases rv with
  | pin h => exact g.elim
  | @d y h => exact key (.d y) (.d h) g
  | @own r h =>
    unfold cutR at g
    dsimp only at g
    split at g
    · rename_i hr
      refine key (.own r) (.own ?_) g
      obtain ⟨t, rfl⟩ := p
      rw [List.getElem?_append_left (by omega)] at h
      exact h
    · rename_i hr
      split at g
      · rename_i o ho
        obtain ⟨v', fq, fo, h1, h2, h3, h4, h5, h6⟩ := hk1.own.pick ρ.length r (by omega) ho
        rw [h] at h1; cases h1
        rw [en, take_of_prefix p, ← en] at h2
        obtain ⟨fz, h7, h8⟩ := h2.snoc h3 h4
        refine g Z' (α ++ [v]) H' fz v ⟨s.z, s.nz, s.fr, s.st, fun a ha => s.fp a ((h8 a ha).elim (h5 a) (h6 a))⟩ (List.prefix_append _ _) ⟨hk1.le, h7⟩ (.own ?_)
        rw [en, List.getElem?_append_right (Nat.le_refl _), Nat.sub_self]
        rfl
      · exact g.elim
theorem start_loc {α : List V} {N : List Str} {vs : List V} {xs : List SV} (r : ValL W Z α vs xs) (h : vs.length ≤ N.length) : Loc W Z α (L2.start N vs) (xs.map some ++ List.replicate (N.length - xs.length) none) := by
  have e := r.length
  refine ⟨by simp [L2.start, e], fun i x hx => ?_⟩
  have hi : i < xs.length := by
    by_cases hi : i < xs.length
    · exact hi
    · rw [List.getElem?_append_right (by simp; omega), List.getElem?_replicate] at hx
      split at hx <;> cases hx
  rw [List.getElem?_append_left (by simpa using hi), List.getElem?_map] at hx
  have e2 : xs[i]? = some x := by
    cases q : xs[i]? with
    | none => rw [q] at hx; cases hx
    | some z => rw [q] at hx; cases hx; rfl
  have get : ∀ {vs : List V} {xs : List SV} {i : Nat}, ValL W Z α vs xs → xs[i]? = some x → ∃ v, vs[i]? = some v ∧ Val W Z α v x := by
    intro vs xs i r
    induction r generalizing i with
    | nil => intro e; simp at e
    | cons h t ih =>
      cases i with
      | zero => intro e; simp at e; subst e; exact ⟨_, rfl, h⟩
      | succ i => intro e; obtain ⟨v, h1, h2⟩ := ih (i := i) (by simpa using e); exact ⟨v, by simpa using h1, h2⟩
  obtain ⟨v, h1, h2⟩ := get r e2
  refine ⟨v, ?_, h2⟩
  unfold L2.start
  rw [List.getElem?_append_left (by rw [List.length_map]; omega), List.getElem?_map, h1]
  rfl
end
/-- what every rule of a call asks of where it stands -/
structure Here (X : Cx) (w : WX) (j : Nat) : Prop where
  gd : X.A.guards = some []
  hr : Room j X.A
  tk : Takes X w
/-- what == and repr ask of where they stand -/
structure HereU (X : Cx) : Prop where
  gd : X.A.guards = some []
  un : X.A.units + 64 < cLine
theorem Here.u {X : Cx} {w : WX} {j : Nat} (h : Here X w j) : HereU X := ⟨h.gd, h.hr.units⟩
theorem fnD_of {P : Program} {w : World} {K : PySem.W.Frag} {mg : Str → Option Value} {base : Heap} {W : Wd} {x qual : Str} {st : Stmt} {f : Addr} {fd : FuncData} {N ps : List Str} {k : Nat} {fb : SF} (F : FunX K x qual st f fd) (S : FnScope N ps (defScope st))
    (hbody : ∀ (cdv : Value) (A : Around) (fs : List Env) (s : Shared) (H : Hp) (E : XK), Here (cxOf (L2.CX P w) P w K mg base N qual (defScope st) f cdv A fs s H E) (fun c d _ H' => E c d H') k →
      PassesOwn (model P w) (A.deeper (envOfC qual (defScope st) s.heap.objs.size f cdv)) (envOfC qual (defScope st) s.heap.objs.size f cdv) (cxOf (L2.CX P w) P w K mg base N qual (defScope st) f cdv A fs s H E).xe →
      DSs (cxOf (L2.CX P w) P w K mg base N qual (defScope st) f cdv A fs s H E) W (fun c d _ H' => E c d H') fb (defBody st)) :
    FnD P w K mg base W (k + 1) f fd ps (funOf ps.length N.length fb) := by
  refine ⟨?_, fun xs ρ h => if_neg h⟩
  refine fnG_of F S (fun vs H Q E ⟨Z, α, ρ, fp, xs, hk, r, e, g⟩ => r.length.trans e) fun cdv A fs s H E gd hr => ?_
  refine ⟨_, hbody cdv A fs s H E ⟨gd, hr, takes_of rfl rfl rfl rfl⟩ (passes_of rfl), ?_⟩
  rintro vs Q ⟨Z, α, ρ, fp, xs, hk, r, e, g⟩
  have hl : vs.length ≤ N.length := by
    have h1 := congrArg List.length S.pre
    rw [List.length_take] at h1
    rw [r.length, e]
    omega
  refine ⟨Z, α, ρ, _, fp, hk, start_loc r hl, ?_⟩
  unfold funOf at g
  rw [if_pos e] at g
  have en : ρ.length = α.length := hk.own.length.symm
  have cutHk : ∀ {Z' H' : Hp} {α' : List V} {ρ1 : Hs} {fp1 : List Addr}, Step Z H fp Z' H' fp1 → α <+: α' → Hk W Z' H' α' ρ1 fp1 → ∃ fq, Step Z H fp Z' H' fq ∧ Hk W Z' H' α (ρ1.take ρ.length) fq := by
    intro Z' H' α' ρ1 fp1 s p hk1
    obtain ⟨fq, h1, h2⟩ := hk1.own.take ρ.length
    rw [en, take_of_prefix p, ← en] at h1
    exact ⟨fq, ⟨s.z, s.nz, s.fr, s.st, fun a ha => s.fp a (h2 a ha)⟩, hk1.le, h1⟩
  cases e1 : fb (xs.map some ++ List.replicate (N.length - xs.length) none) ρ with
  | nx δ1 ρ1 =>
    rw [e1] at g
    intro Z' α' σ' H' fp' s p hk1 _
    obtain ⟨fq, s2, hk2⟩ := cutHk s p hk1
    exact g Z' α H' fq .non s2 (List.prefix_refl _) hk2 (.d .non)
  | rt y ρ1 =>
    rw [e1] at g
    intro Z' α' v H' fp' s p hk1 rv
    exact g.cut hk s p hk1 rv
  | rs c l δ1 ρ1 =>
    rw [e1] at g
    intro Z' α' σ' H' fp' d s p hk1 _ hd
    obtain ⟨fq, s2, hk2⟩ := cutHk s p hk1
    exact g Z' α H' fq d s2 (List.prefix_refl _) hk2 hd
  | bk δ1 ρ1 => rw [e1] at g; exact g.elim
  | ct δ1 ρ1 => rw [e1] at g; exact g.elim
  | stuck => rw [e1] at g; exact g.elim
end Px

namespace Px
open PySem PySem.Spec PyProof.Rows L2

/-! ### roots changed -/
section
variable {W : Wd} {Z H : Hp}
/-- root r, and what becomes of the roots when it is changed -/
theorem OwnL.at : ∀ {vs : List V} {os : List O} {fp : List Addr} {r : Nat} {o : O}, OwnL W Z H vs os fp → os[r]? = some o →
    ∃ v fo, vs[r]? = some v ∧ Own W Z H v o fo ∧ (∀ a ∈ fo, a ∈ fp) ∧
      ∀ (H' : Hp) (v' : V) (o' : O) (fo' : List Addr), (∀ b ∈ fp, b ∉ fo → H' b = H b) → Own W Z H' v' o' fo' → (∀ b ∈ fo', b ∈ fo ∨ b ∉ fp) →
        ∃ fp', OwnL W Z H' (vs.set r v') (os.set r o') fp' ∧ ∀ b ∈ fp', b ∈ fp ∨ b ∈ fo'
  | _, _, _, _, _, .nil, e => by simp at e
  | _, _, _, 0, _, .cons (fp := fp) (fq := fq) h t dj, e => by
    simp at e; subst e
    refine ⟨_, fp, rfl, h, fun a ha => List.mem_append_left _ ha, fun H' v' o' fo' hH hO hf => ?_⟩
    have nq : ∀ a ∈ fq, a ∉ fp := fun a ha hp => dj a hp ha
    refine ⟨fo' ++ fq, .cons hO (t.keep (Same.refl _) fun a ha => ⟨(t.there a ha).1, hH a (List.mem_append_right _ ha) (nq a ha)⟩) fun a ha hq => ?_, fun b hb => ?_⟩
    · rcases hf a ha with z | z
      · exact dj a z hq
      · exact z (List.mem_append_right _ hq)
    · exact (List.mem_append.mp hb).elim (fun z => .inr z) fun z => .inl (List.mem_append_right _ z)
  | _, _, _, r + 1, o, .cons (fp := fp) (fq := fq) h t dj, e => by
    obtain ⟨v, fo, h1, h2, h3, h4⟩ := OwnL.at (r := r) (o := o) t (by simpa using e)
    refine ⟨v, fo, by simpa using h1, h2, fun a ha => List.mem_append_right _ (h3 a ha), fun H' v' o' fo' hH hO hf => ?_⟩
    have np : ∀ a ∈ fp, a ∉ fo := fun a ha hp => dj a ha (h3 a hp)
    obtain ⟨fq', h5, h6⟩ := h4 H' v' o' fo' (fun b hb hn => hH b (List.mem_append_right _ hb) hn) hO fun b hb => (hf b hb).imp id fun z hq => z (List.mem_append_right _ hq)
    refine ⟨fp ++ fq', .cons (h.keep (Same.refl _) fun a ha => ⟨(h.there a ha).1, hH a (List.mem_append_left _ ha) (np a ha)⟩) h5 fun a ha hq => ?_, fun b hb => ?_⟩
    · rcases h6 a hq with z | z
      · exact dj a ha z
      · rcases hf a z with y | y
        · exact np a ha y
        · exact y (List.mem_append_left _ ha)
    · rcases List.mem_append.mp hb with z | z
      · exact .inl (List.mem_append_left _ z)
      · exact (h6 b z).imp (fun y => List.mem_append_right _ y) id
theorem set_self {α : Type} {l : List α} {i : Nat} {x : α} (h : l[i]? = some x) : l.set i x = l := by
  apply List.ext_getElem?
  intro j
  by_cases hj : i = j
  · subst hj
    rw [List.getElem?_set_self' , h]; rfl
  · rw [List.getElem?_set_ne hj]
/-- a root's cells are written -/
theorem Hk.write {α : List V} {ρ : Hs} {fp : List Addr} {r : Nat} {o : O} (hk : Hk W Z H α ρ fp) (e : ρ[r]? = some o) :
    ∃ v fo, α[r]? = some v ∧ Own W Z H v o fo ∧ ∀ (H' : Hp) (o' : O) (fo' : List Addr), (∀ b, b ∉ fo → H' b = H b) → (∀ b ∈ fo, H' b ≠ none) → Own W Z H' v o' fo' → (∀ b ∈ fo', b ∈ fo) →
      ∃ fp', Step Z H fp Z H' fp' ∧ Hk W Z H' α (ρ.set r o') fp' := by
  obtain ⟨v, fo, h1, h2, h3, h4⟩ := hk.own.at e
  refine ⟨v, fo, h1, h2, fun H' o' fo' hH hN hO hf => ?_⟩
  obtain ⟨fp', h5, h6⟩ := h4 H' v o' fo' (fun b _ hn => hH b hn) hO fun b hb => .inl (hf b hb)
  rw [set_self h1] at h5
  refine ⟨fp', ⟨Same.refl _, fun b h => .inl h, fun b h hn => hH b fun z => hn (h3 b z), fun b h => ?_, fun b hb => .inl ((h6 b hb).elim id fun z => h3 b (hf b z))⟩, ⟨fun b u q => ?_, h5⟩⟩
  · by_cases hb : b ∈ fo
    · exact hN b hb
    · rw [hH b hb]; exact h
  · rw [hH b fun z => ?_]
    · exact hk.le b u q
    · rw [(h2.there b z).1] at q; cases q
/-- a new root -/
theorem Hk.newRoot {α : List V} {ρ : Hs} {fp : List Addr} {p : Addr} {ho : HO} {o : O} (hk : Hk W Z H α ρ fp) (hp : H p = none) (hO : Own W Z (upd H p ho) (.ref p) o [p]) :
    ∃ fp', Step Z H fp Z (upd H p ho) fp' ∧ α <+: α ++ [.ref p] ∧ Hk W Z (upd H p ho) (α ++ [.ref p]) (ρ ++ [o]) fp' := by
  obtain ⟨zp, np⟩ := hk.free hp
  have ne : ∀ a ∈ fp, a ≠ p := fun a ha q => np (by rw [← q]; exact ha)
  have own1 := hk.own.keep (H' := upd H p ho) (Same.refl Z) fun a ha => ⟨(hk.own.there a ha).1, upd_ne (ne a ha)⟩
  obtain ⟨fq, h1, h2⟩ := own1.snoc hO fun a ha q => ne a ha (by simpa using q)
  refine ⟨fq, ⟨Same.refl _, fun b h => .inl h, fun b h _ => upd_ne fun q => h (by rw [q]; exact hp), fun b h => ?_, fun b hb => (h2 b hb).imp id fun q => by
    have q' : b = p := by simpa using q
    rw [q']; exact hp⟩, List.prefix_append _ _, ⟨fun b u q => ?_, h1⟩⟩
  · by_cases hb : b = p
    · rw [hb, upd_same]; exact fun z => nomatch z
    · rw [upd_ne hb]; exact h
  · have hb : b ≠ p := fun z => by rw [z, zp] at q; cases q
    rw [upd_ne hb]
    exact hk.le b u q
theorem DatL.ownL : ∀ {vs : List V} {ds : List D}, DatL W Z vs ds → OwnL W Z H vs (ds.map O.d) []
  | _, _, .nil => .nil
  | _, _, .cons h t => by
    have := OwnL.cons (Own.d (H := H) h) (DatL.ownL t) (by simp)
    simpa using this
theorem OwnL.snocD : ∀ {vs : List V} {os : List O} {fp : List Addr} {v : V} {d : D}, OwnL W Z H vs os fp → Dat W Z v d → OwnL W Z H (vs ++ [v]) (os ++ [.d d]) fp
  | _, _, _, _, _, .nil, k => by
    have := OwnL.cons (Own.d (H := H) k) (OwnL.nil) (by simp)
    simpa using this
  | _, _, _, _, _, .cons h t dj, k => .cons h (OwnL.snocD t k) dj
/-- a frozen child put at a place -/
theorem OwnL.setD : ∀ {vs : List V} {os : List O} {fp : List Addr} {v : V} {d : D} (k : Nat), OwnL W Z H vs os fp → Dat W Z v d → ∃ fq, OwnL W Z H (vs.set k v) (os.set k (.d d)) fq ∧ ∀ a ∈ fq, a ∈ fp
  | _, _, _, _, _, _, .nil, k => ⟨[], .nil, fun _ h => h⟩
  | _, _, _, _, _, 0, .cons h t dj, k => ⟨_, .cons (.d k) t (by simp), fun a ha => List.mem_append_right _ (by simpa using ha)⟩
  | _, _, _, _, _, i + 1, .cons h t dj, k => by
    obtain ⟨fq, h1, h2⟩ := OwnL.setD i t k
    exact ⟨_, .cons h h1 fun a ha hq => dj a ha (h2 a hq), fun a ha => (List.mem_append.mp ha).elim (fun q => List.mem_append_left _ q) fun q => List.mem_append_right _ (h2 a q)⟩
theorem OwnL.erase : ∀ {vs : List V} {os : List O} {fp : List Addr} (k : Nat), OwnL W Z H vs os fp → ∃ fq, OwnL W Z H (vs.eraseIdx k) (os.eraseIdx k) fq ∧ ∀ a ∈ fq, a ∈ fp
  | _, _, _, _, .nil => ⟨[], .nil, fun _ h => h⟩
  | _, _, _, 0, .cons h t dj => ⟨_, t, fun a ha => List.mem_append_right _ ha⟩
  | _, _, _, i + 1, .cons h t dj => by
    obtain ⟨fq, h1, h2⟩ := OwnL.erase i t
    exact ⟨_, .cons h h1 fun a ha hq => dj a ha (h2 a hq), fun a ha => (List.mem_append.mp ha).elim (fun q => List.mem_append_left _ q) fun q => List.mem_append_right _ (h2 a q)⟩
end

/-! ### calls -/
section
variable {X : Cx} {W : Wd} {w : WX} {k : Nat} {f : Addr} {fd : FuncData} {ps : List Str} {F : DF} {dvs : List V} {dds : List D} {ds : List Value} {x m : Str} {p pos apos : Pos} {e o : Expr} {es : List Expr} {fo : EF} {g : AF}
theorem ValL.app {Z : Hp} {α : List V} {vs us : List V} {xs ys : List SV} (h : ValL W Z α vs xs) (k : ValL W Z α us ys) : ValL W Z α (vs ++ us) (xs ++ ys) := by
  induction h with
  | nil => exact k
  | cons h _ ih => exact .cons h ih
theorem DatL.valL {Z : Hp} {α : List V} : ∀ {vs : List V} {ds : List D}, DatL W Z vs ds → ValL W Z α vs (ds.map SV.d)
  | _, _, .nil => .nil
  | _, _, .cons h t => .cons (.d h) t.valL
theorem Goes.w_eq {w' : WX} {σ σ' : Sg} {A B : Type} {R : Hp → List V → B → A → Prop} {Z H : Hp} {α : List V} {fp : List Addr} {r : Ex A} {Q : B → Hp → Prop} (g : Goes W w σ R Z α fp H r Q) (h : ∀ c d H, w c d σ H → w' c d σ' H) : Goes W w' σ' R Z α fp H r Q := by
  cases r with
  | ok x ρ => exact g
  | rs c l ρ => exact fun Z' α' H' fp' d s p hk hd => h _ _ _ (g Z' α' H' fp' d s p hk hd)
  | stuck => exact g
theorem FnD.sp {P : Program} {wd : World} {K : PySem.W.Frag} {mg : Str → Option Value} {base : Heap} (Fn : FnD P wd K mg base W k f fd ps F) {Z H : Hp} {α : List V} {ρ : Hs} {fp : List Addr} {σ : Sg} {vs : List V} {xs : List SV} {Q : VK} (hk : Hk W Z H α ρ fp) (r : ValL W Z α vs xs)
    (g : Goes W w σ (Val W) Z α fp H (F xs ρ) Q) : spD W ps.length F vs H Q (WE w σ) := by
  refine ⟨Z, α, ρ, fp, xs, hk, r, Classical.byContradiction fun n => ?_, g.w_eq fun _ _ _ h => h⟩
  rw [Fn.ar xs ρ n] at g
  exact g
def eCall (F : DF) (g : AF) (dds : List D) : EF := fun δ ρ => (g δ ρ).bind fun xs ρ1 => F (xs ++ dds.map SV.d) ρ1
theorem de_call {j : Nat} (Fn : FnD X.prog X.w X.K X.mg X.base W k f fd ps F) (h : Here X w j) (hj : k ≤ j) (hg : Gl X x) (hm : X.mg x = some (.ref f)) (hk : PySem.W.keepIn X.K (.ref f) = true) (hb : Binds X.K fd ps ds) (hd : Vals dvs ds) (hdd : ∀ Z, DatL W Z dvs dds)
    (ha : DA X W w g (e :: es)) (hdb : (x == ("__debug__" : Str)) = false := by decide) (he : starEach (e :: es) X.env = (false, eval e X.env) :: starEach es X.env := by rfl)
    (hpl : (backTo pos (starEach es X.env)).any (·.1) = false := by rfl) : DE X W w (eCall F g dds) (.Call (.Name x p) (e :: es) [] pos) :=
  wkE (pe_callG Fn.g h.gd (h.hr.mono hj) hg hm hk hb hd (fun σ => passAt h.tk σ) ha hdb he hpl) fun σ H Q ⟨Z, α, ρ, δ, fp, hk, loc, g0⟩ =>
    ⟨Z, α, ρ, δ, fp, hk, loc, (Goes.bind (R := ValL W) g0).mono fun vs H1 ⟨Z1, α1, ρ1, fp1, xs, s1, p1, hk1, rv, _, g1⟩ => Fn.sp hk1 (rv.app (hdd Z1).valL) g1⟩
theorem de_call0 {j : Nat} (Fn : FnD X.prog X.w X.K X.mg X.base W k f fd ps F) (h : Here X w j) (hj : k ≤ j) (hg : Gl X x) (hm : X.mg x = some (.ref f)) (hk : PySem.W.keepIn X.K (.ref f) = true) (hb : Binds X.K fd ps ds) (hd : Vals dvs ds) (hdd : ∀ Z, DatL W Z dvs dds)
    (hdb : (x == ("__debug__" : Str)) = false := by decide) : DE X W w (eCall F aNil dds) (.Call (.Name x p) [] [] pos) :=
  wkE (pe_callG0 Fn.g h.gd (h.hr.mono hj) hg hm hk hb hd (fun σ => passAt h.tk σ) hdb) fun σ H Q ⟨Z, α, ρ, δ, fp, hk, loc, g0⟩ => Fn.sp hk (hdd Z).valL g0
/-! instances -/
/-- what is known of a class -/
structure ClsD (W : Wb) (c : Nat) : Prop where
  cls : Cls W.K (W.cl c)
  nd : (W.lay c).Nodup
  no : ∀ n ∈ W.lay c, NoAttr W.K (W.cl c) n
  sm : (W.lay c).length < 1000
def insOf (ρ : Hs) : SV → Option Nat
  | .d (.ins c _) => some c
  | .own r => match ρ[r]? with
    | some (.ins c _) => some c
    | _ => none
  | _ => none
theorem Val.ins {Z H : Hp} {α : List V} {ρ : Hs} {fp : List Addr} {v : V} {x : SV} {c : Nat} (hk : Hk W Z H α ρ fp) (r : Val W Z α v x) (e : insOf ρ x = some c) : ∃ a dx kvs n, v = .ref a ∧ H a = some (.ins (W.cl c) dx kvs) ∧ kvs.map (·.1) = (W.lay c).take n := by
  cases r with
  | d h =>
    cases h with
    | ins h1 h2 h3 =>
      simp only [insOf, Option.some.injEq] at e
      subst e
      exact ⟨_, _, _, _, rfl, hk.le _ _ h1, h2⟩
    | _ => cases e
  | pin h => cases e
  | @own r h =>
    simp only [insOf] at e
    split at e
    · rename_i c' l' q
      cases e
      obtain ⟨v', fo, h1, h2, _⟩ := hk.own.get q
      rw [h] at h1; cases h1
      cases h2 with
      | ins h3 h4 h5 h6 h7 => exact ⟨_, _, _, _, rfl, h4, h5⟩
    · cases e
theorem lookup_none {l : List (Str × V)} {n : Str} (h : n ∉ l.map (·.1)) : l.lookup n = none := by
  induction l with
  | nil => rfl
  | cons p l ih =>
    obtain ⟨g, v⟩ := p
    rw [List.map_cons, List.mem_cons, not_or] at h
    rw [List.lookup_cons, show (n == g) = false from beq_eq_false_iff_ne.mpr h.1]
    exact ih h.2
def eMeth (c : Nat) (F : DF) (fo : EF) (g : AF) (dds : List D) : EF := fun δ ρ => (fo δ ρ).bind fun x ρ1 => match insOf ρ1 x with
  | some c' => if c' = c then (g δ ρ1).bind fun xs ρ2 => F (x :: (xs ++ dds.map SV.d)) ρ2 else .stuck
  | none => .stuck
theorem meth_go {σ : Sg} {H : Hp} {Q : VK} {c : Nat} {t : TA} (C : ClsD W c) (hK : W.K = X.K) (hn : m ∉ W.lay c) (Fn : FnD X.prog X.w X.K X.mg X.base W k f fd ps F) (hdd : ∀ Z, DatL W Z dvs dds) (ht : ∀ {σ H Q}, tAr W w g σ H Q → t σ H Q) (h : tE W w (eMeth c F fo g dds) σ H Q) :
    tMetG (W.cl c) m (spD W ps.length F) dvs (WE w) (tE W w fo) t σ H Q := by
  obtain ⟨Z, α, ρ, δ, fp, hk, loc, g0⟩ := h
  refine ⟨Z, α, ρ, δ, fp, hk, loc, (Goes.bind (R := Val W) g0).mono fun v H1 ⟨Z1, α1, ρ1, fp1, x, s1, p1, hk1, rv, _, g1⟩ => ?_⟩
  split at g1
  · rename_i c' ec
    split at g1
    · rename_i h0
      subst h0
      obtain ⟨a, dx, kvs, n, rfl, ha, hkv⟩ := rv.ins hk1 ec
      refine ⟨a, dx, kvs, rfl, ha, lookup_none fun z => hn ?_, ht ⟨Z1, α1, ρ1, δ, fp1, hk1, loc.mono s1.z p1, (Goes.bind (R := ValL W) g1).mono fun vs H2 ⟨Z2, α2, ρ2, fp2, xs, s2, p2, hk2, rvs, _, g2⟩ => ?_⟩⟩
      · rw [hkv] at z
        exact List.mem_of_mem_take z
      · exact Fn.sp hk2 (.cons (rv.mono s2.z p2) (rvs.app (hdd Z2).valL)) g2
    · exact g1.elim
  · exact g1.elim
theorem de_meth {j c : Nat} {pl : Sem Bool} (C : ClsD W c) (hK : W.K = X.K) (hn : m ∉ W.lay c) (Fn : FnD X.prog X.w X.K X.mg X.base W k f fd ps F) (h : Here X w j) (hj : k ≤ j) (he : DE X W w fo o) (hm : Meth X.K (W.cl c) m f) (hb : Binds X.K fd ps ds) (hd : Vals dvs ds) (hdd : ∀ Z, DatL W Z dvs dds) (ha : DA X W w g (e :: es))
    (hst : starEach (e :: es) X.env = (false, eval e X.env) :: starEach es X.env := by rfl)
    (hpl : (backTo pos (starEach es X.env)).any (·.1) = false := by rfl)
    (ht : eval (.Call (.Attribute o m apos) (e :: es) [] pos) X.env = (do let ov ← eval o X.env
                                                                          standAt apos.atName
                                                                          let (f, first) ← holding [ov] (getMethod ov m pl)
                                                                          callWith pos f first (backTo pos (starEach (e :: es) X.env)) (backToKw pos (keywordEach [] X.env))) := by rfl) :
    DE X W w (eMeth c F fo g dds) (.Call (.Attribute o m apos) (e :: es) [] pos) :=
  wkE (pe_methG he (hK ▸ C.cls) hm Fn.g h.gd (h.hr.mono hj) hb hd (fun σ => passAt h.tk σ) ha hst hpl ht) fun σ H Q q => meth_go C hK hn Fn hdd (fun z => z) q
theorem de_meth0 {j c : Nat} {pl : Sem Bool} (C : ClsD W c) (hK : W.K = X.K) (hn : m ∉ W.lay c) (Fn : FnD X.prog X.w X.K X.mg X.base W k f fd ps F) (h : Here X w j) (hj : k ≤ j) (he : DE X W w fo o) (hm : Meth X.K (W.cl c) m f) (hb : Binds X.K fd ps ds) (hd : Vals dvs ds) (hdd : ∀ Z, DatL W Z dvs dds)
    (ht : eval (.Call (.Attribute o m apos) [] [] pos) X.env = (do let ov ← eval o X.env
                                                                   standAt apos.atName
                                                                   let (f, first) ← holding [ov] (getMethod ov m pl)
                                                                   callWith pos f first (backTo pos (starEach [] X.env)) (backToKw pos (keywordEach [] X.env))) := by rfl) :
    DE X W w (eMeth c F fo aNil dds) (.Call (.Attribute o m apos) [] [] pos) :=
  wkE (pe_methG0 he (hK ▸ C.cls) hm Fn.g h.gd (h.hr.mono hj) hb hd (fun σ => passAt h.tk σ) ht) fun σ H Q q => meth_go C hK hn Fn hdd (fun {σ H Q} ⟨Z, α, ρ, δ, fp, hk, loc, g0⟩ => g0.done hk .nil) q
/-- a property that raises nothing -/
def eProp (c : Nat) (F : DF) (fo : EF) : EF := fun δ ρ => (fo δ ρ).bind fun x ρ1 => match insOf ρ1 x with
  | some c' => if c' = c then match F [x] ρ1 with
      | .ok y ρ2 => .ok y ρ2
      | _ => .stuck
    else .stuck
  | none => .stuck
theorem de_prop {j c : Nat} {n : Str} {q0 : Addr} (C : ClsD W c) (hK : W.K = X.K) (Fn : FnD X.prog X.w X.K X.mg X.base W k f fd ps F) (h : Here X w j) (hj : k + 1 ≤ j) (he : DE X W w fo o) (hp : PropOf X.K (W.cl c) n q0 f) (hb : Binds X.K fd ps [])
    (hab : attributeBase o n X.env (eval o X.env) = eval o X.env) : DE X W w (eProp c F fo) (.Attribute o n pos) :=
  wkE (pe_propG he (hK ▸ C.cls) hp Fn.g h.gd (h.hr.mono hj) hb hab) fun σ H Q ⟨Z, α, ρ, δ, fp, hk, loc, g0⟩ => by
    refine ⟨Z, α, ρ, δ, fp, hk, loc, (Goes.bind (R := Val W) g0).mono fun v H1 ⟨Z1, α1, ρ1, fp1, x, s1, p1, hk1, rv, _, g1⟩ => ?_⟩
    split at g1
    · rename_i c' ec
      split at g1
      · rename_i h0
        subst h0
        obtain ⟨a, dx, kvs, nn, rfl, ha, hkv⟩ := rv.ins hk1 ec
        refine ⟨a, dx, kvs, rfl, ha, ?_⟩
        cases eF : F [x] ρ1 with
        | ok y ρ2 =>
          rw [eF] at g1
          have g2 : Goes W (fun _ _ _ _ => False) σ (Val W) Z1 α1 fp1 H1 (F [x] ρ1) Q := by rw [eF]; exact g1
          obtain ⟨Z', α', ρ', fp', xs, a1, a2, a3, a4⟩ := Fn.sp hk1 (.cons rv .nil) g2
          exact ⟨Z', α', ρ', fp', xs, a1, a2, a3, a4⟩
        | rs c2 l2 ρ2 => rw [eF] at g1; exact g1.elim
        | stuck => rw [eF] at g1; exact g1.elim
      · exact g1.elim
    · exact g1.elim
/-- C(..): a new root -/
def eMake (c : Nat) (F : DF) (g : AF) (dds : List D) : EF := fun δ ρ => (g δ ρ).bind fun xs ρ1 => match F (.own ρ1.length :: (xs ++ dds.map SV.d)) (ρ1 ++ [.ins c []]) with
  | .ok (.d .non) ρ2 => .ok (.own ρ1.length) ρ2
  | .rs c' l ρ2 => .rs c' l (ρ2.take ρ1.length)
  | _ => .stuck
theorem de_make {j c : Nat} (C : ClsD W c) (M : Mk X.K (W.cl c) f) (Fn : FnD X.prog X.w X.K X.mg X.base W k f fd ps F) (h : Here X w j) (hj : k + 1 ≤ j) (hg : Gl X x) (hm : X.mg x = some (.ref (W.cl c))) (hb : Binds X.K fd ps ds) (hd : Vals dvs ds) (hdd : ∀ Z, DatL W Z dvs dds)
    (ha : DA X W w g (e :: es)) (hdb : (x == ("__debug__" : Str)) = false := by decide) (he : starEach (e :: es) X.env = (false, eval e X.env) :: starEach es X.env := by rfl)
    (hpl : (backTo pos (starEach es X.env)).any (·.1) = false := by rfl) : DE X W w (eMake c F g dds) (.Call (.Name x p) (e :: es) [] pos) :=
  wkE (pe_makeG M Fn.g h.gd (h.hr.mono hj) hg hm hb hd (fun σ => passAt h.tk σ) ha hdb he hpl) fun σ H Q ⟨Z, α, ρ, δ, fp, hk, loc, g0⟩ => by
    refine ⟨Z, α, ρ, δ, fp, hk, loc, (Goes.bind (R := ValL W) g0).mono fun vs H1 ⟨Z1, α1, ρ1, fp1, xs, s1, p1, hk1, rv, _, g1⟩ a dx na ndx nex => ?_⟩
    -- the instance's own dict is frozen, the instance a new root
    obtain ⟨st1, hk2⟩ := hk1.fresh (o := .own a) ndx
    have na2 : upd H1 dx (.own a) a = none := by rw [upd_ne fun q => nex q.symm]; exact na
    have zn := hk2.free na2
    obtain ⟨fp3, st2, pf, hk3⟩ := hk2.newRoot (ho := .ins (W.cl c) dx []) (o := .ins c []) na2 (by
      have := Own.ins (W := W) (Z := upd Z1 dx (.own a)) (H := upd (upd H1 dx (.own a)) a (.ins (W.cl c) dx [])) (a := a) (dx := dx) (c := c) (kvs := []) (l := []) zn.1 upd_same (by simp) .nil (by simp)
      exact this)
    have stp := st1.trans st2
    have en : ρ1.length = α1.length := hk1.own.length.symm
    refine Fn.sp (w := w) (σ := σ) hk3 (.cons (.own (r := ρ1.length) (by rw [en, List.getElem?_append_right (Nat.le_refl _), Nat.sub_self]; rfl)) ((rv.mono st1.z pf).app (hdd _).valL)) ?_
    cases eF : F (.own ρ1.length :: (xs ++ dds.map SV.d)) (ρ1 ++ [.ins c []]) with
    | ok y ρ2 =>
      rw [eF] at g1
      cases y with
      | own r => exact g1.elim
      | pin => exact g1.elim
      | d y =>
        cases y with
        | non =>
          intro Z' α' H' fp' v s' p' hk' rv'
          have ev : v = .non := by
            cases rv' with
            | d h => cases h; rfl
          refine ⟨ev, g1 Z' α' H' fp' (.ref a) (stp.trans s') (pf.trans p') hk' (.own ?_)⟩
          obtain ⟨t, rfl⟩ := p'
          rw [en, List.getElem?_append_left (by simp), List.getElem?_append_right (Nat.le_refl _), Nat.sub_self]
          rfl
        | bl _ => exact g1.elim
        | int _ => exact g1.elim
        | str _ => exact g1.elim
        | tup _ => exact g1.elim
        | lst _ => exact g1.elim
        | ins _ _ => exact g1.elim
        | scr _ => exact g1.elim
    | rs c2 l2 ρ2 =>
      rw [eF] at g1
      intro Z' α' H' fp' d s' p' hk' hd'
      obtain ⟨fq, h1, h2⟩ := hk'.own.take ρ1.length
      have pp : α1 <+: α' := pf.trans p'
      rw [en, take_of_prefix pp, ← en] at h1
      have s3 := stp.trans s'
      exact g1 Z' α1 H' fq d ⟨s3.z, s3.nz, s3.fr, s3.st, fun b hb => s3.fp b (h2 b hb)⟩ (List.prefix_refl _) ⟨hk'.le, h1⟩ hd'
    | stuck => rw [eF] at g1; exact g1.elim
/-- what was made just now is frozen -/
def eFz (f : EF) : EF := fun δ ρ => (f δ ρ).bind fun x ρ1 => match x with
  | .pin => .stuck
  | .d y => .ok (.d y) ρ1
  | .own r => if ρ.length ≤ r ∧ r + 1 = ρ1.length then match (ρ1[r]?).bind O.toD with
      | some d => .ok (.d d) (ρ1.take r)
      | none => .stuck
    else .stuck
theorem Goes.bind0 {σ : Sg} {A B A' B' : Type} {R : Hp → List V → B → A → Prop} {R' : Hp → List V → B' → A' → Prop} {Z H : Hp} {α : List V} {fp : List Addr} {r : Ex A} {k : A → Hs → Ex A'} {Q : B' → Hp → Prop} (g : Goes W w σ R' Z α fp H (r.bind k) Q) :
    Goes W w σ R Z α fp H r fun v H1 => ∃ Z1 α1 ρ1 fp1 x, Step Z H fp Z1 H1 fp1 ∧ α <+: α1 ∧ Hk W Z1 H1 α1 ρ1 fp1 ∧ R Z1 α1 v x ∧ r = .ok x ρ1 ∧ Goes W w σ R' Z α fp H (k x ρ1) Q := by
  cases r with
  | ok x ρ => exact fun Z' α' H' fp' v s' p' hk r => ⟨Z', α', ρ, fp', x, s', p', hk, r, rfl, g⟩
  | rs c l ρ => exact g
  | stuck => exact g
theorem prefix_take {α α1 : List V} {r : Nat} (p : α <+: α1) (h : α.length ≤ r) : α <+: α1.take r := by
  obtain ⟨t, rfl⟩ := p
  rw [List.take_append, List.take_of_length_le h]
  exact List.prefix_append _ _
/-- the youngest root is frozen and dropped -/
theorem Hk.freeze {Z1 H1 : Hp} {α1 : List V} {ρ1 : Hs} {fp1 : List Addr} {r : Nat} {v : V} {d : D} (hk1 : Hk W Z1 H1 α1 ρ1 fp1) (h : α1[r]? = some v) (ed : (ρ1[r]?).bind O.toD = some d) :
    ∃ Z2 fq, Step Z1 H1 fp1 Z2 H1 fq ∧ Hk W Z2 H1 (α1.take r) (ρ1.take r) fq ∧ Dat W Z2 v d := by
  obtain ⟨o, ho, eo⟩ := Option.bind_eq_some_iff.mp ed
  obtain ⟨v', fq, fo', h1, h2, h3, h4, h5, h6⟩ := hk1.own.pick r r (Nat.le_refl _) ho
  rw [h] at h1; cases h1
  have zn : ∀ a ∈ fo', Z1 a = none := fun a ha => (h3.there a ha).1
  refine ⟨frz Z1 H1 fo', fq, ⟨frz_same zn, fun b hb => ?_, fun _ _ _ => rfl, fun _ hb => hb, fun b hb => .inl (h5 b hb)⟩, ⟨frz_le hk1.le, h2.keep (frz_same zn) fun a ha => ⟨?_, rfl⟩⟩, h3.freeze eo⟩
  · unfold frz at hb
    by_cases hm : b ∈ fo'
    · exact .inr (.inr (h6 b hm))
    · rw [if_neg hm] at hb
      exact .inl hb
  · unfold frz
    rw [if_neg (h4 a ha)]
    exact (h2.there a ha).1
theorem de_fz {a : Expr} (h : DE X W w fo a) : DE X W w (eFz fo) a := wkE h fun σ H Q ⟨Z, α, ρ, δ, fp, hk, loc, g0⟩ => by
  refine ⟨Z, α, ρ, δ, fp, hk, loc, (Goes.bind0 (R := Val W) g0).mono fun v H1 ⟨Z1, α1, ρ1, fp1, x, s1, p1, hk1, rv, _, g1⟩ => ?_⟩
  cases rv with
  | d h => exact g1.give s1 p1 hk1 (.d h)
  | pin h => exact g1.elim
  | @own r h =>
    dsimp only at g1
    split at g1
    · rename_i hr
      split at g1
      · rename_i d ed
        obtain ⟨Z2, fq, s2, hk2, hd⟩ := hk1.freeze h ed
        exact g1.give (s1.trans s2) (prefix_take p1 (by have := hk.own.length; omega)) hk2 (.d hd)
      · exact g1.elim
    · exact g1.elim
end
end Px

namespace Px
open PySem PySem.Spec PyProof.Rows L2

/-! ### lists and tuples -/
def SZ : Nat := 1000000
theorem sz_line {n : Nat} (h : n ≤ SZ) : n ≤ sizeLine := by
  rw [sizeLine_eq]
  unfold SZ at h
  omega
/-- a new list: owned, or frozen -/
def mkL (own : Bool) (l : List D) (ρ : Hs) : Ex SV := if own then .ok (.own ρ.length) (ρ ++ [.lst (l.map O.d)]) else .ok (.d (.lst l)) ρ
section
variable {W : Wd} {w : WX} {σ : Sg} {Z H : Hp} {α : List V} {ρ : Hs} {fp : List Addr} {vs : List V} {l : List D} {p : Addr} {Q : VK} {own : Bool}
theorem Goes.list (g : Goes W w σ (Val W) Z α fp H (mkL own l ρ) Q) (hk : Hk W Z H α ρ fp) (r : DatL W Z vs l) (hp : H p = none) : Q (.ref p) (upd H p (.lst vs)) := by
  cases own with
  | true =>
    obtain ⟨fp', s, pf, hk'⟩ := hk.newRoot (ho := .lst vs) (o := .lst (l.map O.d)) hp (.lst (hk.free hp).1 upd_same r.ownL (by simp))
    refine g.give s pf hk' (.own ?_)
    rw [hk.own.length.symm, List.getElem?_append_right (Nat.le_refl _), Nat.sub_self]
    rfl
  | false =>
    obtain ⟨s, hk'⟩ := hk.fresh (o := .lst vs) hp
    exact g.give s (List.prefix_refl _) hk' (.d (.lst upd_same (r.mono s.z)))
theorem Goes.tup (g : Goes W w σ (Val W) Z α fp H (.ok (.d (.tup l)) ρ) Q) (hk : Hk W Z H α ρ fp) (r : DatL W Z vs l) (hp : H p = none) : Q (.ref p) (upd H p (.tup vs)) := by
  obtain ⟨s, hk'⟩ := hk.fresh (o := .tup vs) hp
  exact g.give s (List.prefix_refl _) hk' (.d (.tup (.inl (.inl upd_same)) (r.mono s.z)))
end

/-! what may be read item by item -/
def O.flat : List O → Option (List D)
  | [] => some []
  | .d y :: r => (O.flat r).map (y :: ·)
  | _ => none
theorem OwnL.flat {W : Wd} {Z H : Hp} : ∀ {vs : List V} {os : List O} {fp : List Addr} {l : List D}, OwnL W Z H vs os fp → O.flat os = some l → DatL W Z vs l
  | _, _, _, _, .nil, e => by
    simp only [O.flat, Option.some.injEq] at e
    subst e
    exact .nil
  | _, .d x :: os, _, _, .cons h t dj, e => by
    simp only [O.flat, Option.map_eq_some_iff] at e
    obtain ⟨l, e, rfl⟩ := e
    cases h with
    | d h => exact .cons h (OwnL.flat t e)
  | _, .x :: os, _, _, .cons h t dj, e => by simp [O.flat] at e
  | _, .lst _ :: os, _, _, .cons h t dj, e => by simp [O.flat] at e
  | _, .ins _ _ :: os, _, _, .cons h t dj, e => by simp [O.flat] at e
def seqL (ρ : Hs) : SV → Option (List D)
  | .d (.lst l) => some l
  | .d (.scr l) => some l
  | .own r => match ρ[r]? with
    | some (.lst os) => O.flat os
    | _ => none
  | _ => none
def seqT : SV → Option (List D)
  | .d (.tup l) => some l
  | _ => none
/-- list or tuple -/
def seqA (ρ : Hs) (x : SV) : Option (List D) := match seqT x with
  | some l => some l
  | none => seqL ρ x
/-- how many items -/
def lenO (ρ : Hs) : SV → Option Nat
  | .d (.lst l) => some l.length
  | .d (.scr l) => some l.length
  | .d (.tup l) => some l.length
  | .own r => match ρ[r]? with
    | some (.lst os) => some os.length
    | _ => none
  | _ => none
section
variable {W : Wd} {Z H : Hp} {α : List V} {ρ : Hs} {fp : List Addr} {v : V} {x : SV} {l : List D}
theorem Val.seqL (hk : Hk W Z H α ρ fp) (r : Val W Z α v x) (e : seqL ρ x = some l) : ∃ a vs, v = .ref a ∧ SqL W.K H a vs ∧ DatL W Z vs l := by
  cases r with
  | d h =>
    cases h with
    | lst h1 h2 =>
      simp only [Px.seqL, Option.some.injEq] at e
      subst e
      exact ⟨_, _, rfl, .inl (.inl (hk.le _ _ h1)), h2⟩
    | scr h1 h2 =>
      simp only [Px.seqL, Option.some.injEq] at e
      subst e
      exact ⟨_, _, rfl, hk.le.seq h1, h2⟩
    | _ => cases e
  | pin h => cases e
  | @own r h =>
    simp only [Px.seqL] at e
    split at e
    · rename_i os q
      obtain ⟨v', fo, h1, h2, _⟩ := hk.own.get q
      rw [h] at h1; cases h1
      cases h2 with
      | lst h3 h4 h5 h6 => exact ⟨_, _, rfl, .inl (.inl h4), h5.flat e⟩
    · cases e
theorem Val.seqT (hk : Hk W Z H α ρ fp) (r : Val W Z α v x) (e : seqT x = some l) : ∃ a vs, v = .ref a ∧ SqT W.K H a vs ∧ DatL W Z vs l := by
  cases r with
  | d h =>
    cases h with
    | tup h1 h2 =>
      simp only [Px.seqT, Option.some.injEq] at e
      subst e
      exact ⟨_, _, rfl, Same.seqT hk.le h1, h2⟩
    | _ => cases e
  | own h => cases e
  | pin h => cases e
theorem Val.seqA (hk : Hk W Z H α ρ fp) (r : Val W Z α v x) (e : seqA ρ x = some l) : ∃ a vs, v = .ref a ∧ (SqL W.K H a vs ∨ SqT W.K H a vs) ∧ DatL W Z vs l := by
  unfold Px.seqA at e
  split at e
  · rename_i l' q
    cases e
    obtain ⟨a, vs, h1, h2, h3⟩ := r.seqT hk q
    exact ⟨a, vs, h1, .inr h2, h3⟩
  · obtain ⟨a, vs, h1, h2, h3⟩ := r.seqL hk e
    exact ⟨a, vs, h1, .inl h2, h3⟩
theorem Val.lenO {n : Nat} (hk : Hk W Z H α ρ fp) (r : Val W Z α v x) (e : lenO ρ x = some n) : ∃ a vs, v = .ref a ∧ (SqL W.K H a vs ∨ SqT W.K H a vs) ∧ vs.length = n := by
  cases r with
  | d h =>
    cases h with
    | lst h1 h2 =>
      simp only [Px.lenO, Option.some.injEq] at e
      exact ⟨_, _, rfl, .inl (.inl (.inl (hk.le _ _ h1))), h2.length.trans e⟩
    | scr h1 h2 =>
      simp only [Px.lenO, Option.some.injEq] at e
      exact ⟨_, _, rfl, .inl (hk.le.seq h1), h2.length.trans e⟩
    | tup h1 h2 =>
      simp only [Px.lenO, Option.some.injEq] at e
      exact ⟨_, _, rfl, .inr (Same.seqT hk.le h1), h2.length.trans e⟩
    | _ => cases e
  | pin h => cases e
  | @own r h =>
    simp only [Px.lenO] at e
    split at e
    · rename_i os q
      obtain ⟨v', fo, h1, h2, _⟩ := hk.own.get q
      rw [h] at h1; cases h1
      cases h2 with
      | lst h3 h4 h5 h6 => exact ⟨_, _, rfl, .inl (.inl (.inl h4)), h5.length.trans (by simpa using e)⟩
    · cases e
theorem DatL.atI {vs : List V} {i : Int} {d : D} (h : DatL W Z vs l) (e : atI l i = some d) : ∃ v, atI vs i = some v ∧ Dat W Z v d := by
  unfold L2.atI at e ⊢
  rw [h.length]
  cases q : ixN l.length i with
  | none => rw [q] at e; cases e
  | some j =>
    rw [q] at e
    exact h.get e
theorem DatL.take : ∀ {vs : List V} {l : List D} (n : Nat), DatL W Z vs l → DatL W Z (vs.take n) (l.take n)
  | _, _, 0, _ => .nil
  | _, _, _ + 1, .nil => .nil
  | _, _, n + 1, .cons h t => .cons h (DatL.take n t)
theorem DatL.drop : ∀ {vs : List V} {l : List D} (n : Nat), DatL W Z vs l → DatL W Z (vs.drop n) (l.drop n)
  | _, _, 0, h => h
  | _, _, _ + 1, .nil => .nil
  | _, _, n + 1, .cons _ t => DatL.drop n t
theorem DatL.reverse {vs : List V} {l : List D} (h : DatL W Z vs l) : DatL W Z vs.reverse l.reverse := by
  induction h using DatL.rec (motive_1 := fun _ _ _ => True) with
  | nil => exact .nil
  | cons h t _ ih => rw [List.reverse_cons, List.reverse_cons]; exact ih.append (.cons h .nil)
  | _ => trivial
/-- xs[lo:hi] -/
def cutD {β : Type} (xs : List β) (lo hi : Option Int) : List β := (xs.drop (HT.sIx xs.length 0 lo)).take (HT.sIx xs.length xs.length hi - HT.sIx xs.length 0 lo)
theorem DatL.cut {vs : List V} (h : DatL W Z vs l) (lo hi : Option Int) : DatL W Z (cutV vs lo hi) (cutD l lo hi) := by
  unfold cutV cutD
  rw [h.length]
  exact (h.drop _).take _
end

section
variable {X : Cx} {W : Wd} {w : WX} {a b : Expr} {fa fb : EF} {es : List Expr} {g : AF} {pos : Pos} {own : Bool}
def eLst (own : Bool) (g : AF) : EF := fun δ ρ => (g δ ρ).bind fun xs ρ1 => match SV.ds xs with
  | some l => if l.length ≤ SZ then mkL own l ρ1 else .stuck
  | none => .stuck
def eTup (g : AF) : EF := fun δ ρ => (g δ ρ).bind fun xs ρ1 => match SV.ds xs with
  | some l => if l.length ≤ SZ then .ok (.d (.tup l)) ρ1 else .stuck
  | none => .stuck
theorem de_lst (own : Bool) (h : DA X W w g es) : DE X W w (eLst own g) (.List es pos) := wkE (pe_lst h) fun σ H Q ⟨Z, α, ρ, δ, fp, hk, loc, g0⟩ => by
  refine ⟨Z, α, ρ, δ, fp, hk, loc, (Goes.bind (R := ValL W) g0).mono fun vs H1 ⟨Z1, α1, ρ1, fp1, xs, s1, p1, hk1, rv, _, g1⟩ => ?_⟩
  split at g1
  · rename_i l e
    split at g1
    · rename_i hz
      have r := rv.ds e
      exact ⟨sz_line (by rw [r.length]; exact hz), fun p hp => g1.list hk1 r hp⟩
    · exact g1.elim
  · exact g1.elim
theorem de_tup {x1} (h : DA X W w g es) : DE X W w (eTup g) (.Tuple es x1 pos) := wkE (pe_tup h) fun σ H Q ⟨Z, α, ρ, δ, fp, hk, loc, g0⟩ => by
  refine ⟨Z, α, ρ, δ, fp, hk, loc, (Goes.bind (R := ValL W) g0).mono fun vs H1 ⟨Z1, α1, ρ1, fp1, xs, s1, p1, hk1, rv, _, g1⟩ => ?_⟩
  split at g1
  · rename_i l e
    split at g1
    · rename_i hz
      have r := rv.ds e
      exact ⟨sz_line (by rw [r.length]; exact hz), fun p hp => g1.tup hk1 r hp⟩
    · exact g1.elim
  · exact g1.elim
/-- a[b] of a list or a tuple -/
def eIx (fa fb : EF) : EF := fun δ ρ => (fa δ ρ).bind fun x ρ1 => (fb δ ρ1).bind fun y ρ2 => match seqA ρ2 x, y with
  | some l, .d (.int i) => match atI l i with
    | some d => .ok (.d d) ρ2
    | none => .stuck
  | _, _ => .stuck
theorem de_ix (hK : W.K = X.K) (ha : DE X W w fa a) (hb : DE X W w fb b) (hs : PlainIx b) : DE X W w (eIx fa fb) (.Subscript a b pos) := wkE (pe_ix ix_seq ha hb hs) fun σ H Q ⟨Z, α, ρ, δ, fp, hk, loc, g0⟩ => by
  refine ⟨Z, α, ρ, δ, fp, hk, loc, (Goes.bind (R := Val W) g0).mono fun v H1 ⟨Z1, α1, ρ1, fp1, x, s1, p1, hk1, rv, _, g1⟩ => ?_⟩
  refine ⟨Z1, α1, ρ1, δ, fp1, hk1, loc.mono s1.z p1, (Goes.bind (R := Val W) g1).mono fun u H2 ⟨Z2, α2, ρ2, fp2, y, s2, p2, hk2, ru, _, g2⟩ => ?_⟩
  split at g2
  · rename_i l i e _
    cases ru.int
    split at g2
    · rename_i d ed
      obtain ⟨q, vs, rfl, hq, hd⟩ := (rv.mono s2.z p2).seqA hk2 e
      obtain ⟨z, hz, hd⟩ := hd.atI ed
      rw [hK] at hq
      rcases hq with hq | hq
      · exact .inl ⟨q, vs, i, z, rfl, rfl, hq, hz, g2.done hk2 (.d hd)⟩
      · exact .inr (.inl ⟨q, vs, i, z, rfl, rfl, hq, hz, g2.done hk2 (.d hd)⟩)
    · exact g2.elim
  · exact g2.elim
/-! slices -/
def tO (W : Wd) (w : WX) (f : Sto → Hs → Ex (Option Int)) : TO := fun σ H Q => ∃ Z α ρ δ fp, Hk W Z H α ρ fp ∧ Loc W Z α σ δ ∧ Goes W w σ (fun _ _ (b c : Option Int) => b = c) Z α fp H (f δ ρ) Q
def DO (X : Cx) (W : Wd) (w : WX) (f : Sto → Hs → Ex (Option Int)) (e : Option Expr) : Prop := PO X e (tO W w f)
theorem wkO {e : Option Expr} {t u : TO} (h : PO X e t) (k : ∀ σ H Q, u σ H Q → t σ H Q) : PO X e u := ⟨fun pins s σ H Q I q => h.run pins s σ H Q I (k σ H Q q)⟩
def oNo : Sto → Hs → Ex (Option Int) := fun _ ρ => .ok none ρ
def oSome (fa : EF) : Sto → Hs → Ex (Option Int) := fun δ ρ => (fa δ ρ).bind fun x ρ1 => match x with
  | .d (.int i) => .ok (some i) ρ1
  | _ => .stuck
theorem do_no : DO X W w oNo none := wkO po_none fun σ H Q ⟨Z, α, ρ, δ, fp, hk, loc, g0⟩ => g0.done hk rfl
theorem do_some (h : DE X W w fa a) : DO X W w (oSome fa) (some a) := wkO (po_some h) fun σ H Q ⟨Z, α, ρ, δ, fp, hk, loc, g0⟩ => by
  refine ⟨Z, α, ρ, δ, fp, hk, loc, (Goes.bind (R := Val W) g0).mono fun v H1 ⟨Z1, α1, ρ1, fp1, x, s1, p1, hk1, rv, _, g1⟩ => ?_⟩
  split at g1
  · cases rv.int
    exact ⟨_, rfl, g1.done hk1 rfl⟩
  · exact g1.elim
def eSlL (own : Bool) (fa : EF) (lo hi : Sto → Hs → Ex (Option Int)) : EF := fun δ ρ => (fa δ ρ).bind fun x ρ1 => (lo δ ρ1).bind fun i ρ2 => (hi δ ρ2).bind fun j ρ3 => match seqL ρ3 x with
  | some l => mkL own (cutD l i j) ρ3
  | none => .stuck
theorem de_slL {lo hi : Option Expr} {fl fh : Sto → Hs → Ex (Option Int)} {p2 : Pos} (own : Bool) (hK : W.K = X.K) (ha : DE X W w fa a) (hl : DO X W w fl lo) (hh : DO X W w fh hi) : DE X W w (eSlL own fa fl fh) (.Subscript a (.Slice lo hi none p2) pos) :=
  wkE (pe_slice sl_list ha hl hh) fun σ H Q ⟨Z, α, ρ, δ, fp, hk, loc, g0⟩ => by
    refine ⟨Z, α, ρ, δ, fp, hk, loc, (Goes.bind (R := Val W) g0).mono fun v H1 ⟨Z1, α1, ρ1, fp1, x, s1, p1, hk1, rv, _, g1⟩ => ?_⟩
    refine ⟨Z1, α1, ρ1, δ, fp1, hk1, loc.mono s1.z p1, (Goes.bind (R := fun _ _ (b c : Option Int) => b = c) g1).mono fun i H2 ⟨Z2, α2, ρ2, fp2, i', s2, p2, hk2, ri, _, g2⟩ => ?_⟩
    refine ⟨Z2, α2, ρ2, δ, fp2, hk2, (loc.mono s1.z p1).mono s2.z p2, (Goes.bind (R := fun _ _ (b c : Option Int) => b = c) g2).mono fun j H3 ⟨Z3, α3, ρ3, fp3, j', s3, p3, hk3, rj, _, g3⟩ => ?_⟩
    cases ri; cases rj
    split at g3
    · rename_i l e
      obtain ⟨q, vs, rfl, hq, hd⟩ := ((rv.mono s2.z p2).mono s3.z p3).seqL hk3 e
      rw [hK] at hq
      exact ⟨q, vs, rfl, hq, fun p hp => g3.list hk3 (hd.cut _ _) hp⟩
    · exact g3.elim
def eSlT (fa : EF) (lo hi : Sto → Hs → Ex (Option Int)) : EF := fun δ ρ => (fa δ ρ).bind fun x ρ1 => (lo δ ρ1).bind fun i ρ2 => (hi δ ρ2).bind fun j ρ3 => match seqT x with
  | some l => if HT.sIx l.length 0 i = 0 ∧ HT.sIx l.length l.length j = l.length then .stuck else .ok (.d (.tup (cutD l i j))) ρ3
  | none => .stuck
theorem de_slT {lo hi : Option Expr} {fl fh : Sto → Hs → Ex (Option Int)} {p2 : Pos} (hK : W.K = X.K) (ha : DE X W w fa a) (hl : DO X W w fl lo) (hh : DO X W w fh hi) : DE X W w (eSlT fa fl fh) (.Subscript a (.Slice lo hi none p2) pos) :=
  wkE (pe_slice sl_tup ha hl hh) fun σ H Q ⟨Z, α, ρ, δ, fp, hk, loc, g0⟩ => by
    refine ⟨Z, α, ρ, δ, fp, hk, loc, (Goes.bind (R := Val W) g0).mono fun v H1 ⟨Z1, α1, ρ1, fp1, x, s1, p1, hk1, rv, _, g1⟩ => ?_⟩
    refine ⟨Z1, α1, ρ1, δ, fp1, hk1, loc.mono s1.z p1, (Goes.bind (R := fun _ _ (b c : Option Int) => b = c) g1).mono fun i H2 ⟨Z2, α2, ρ2, fp2, i', s2, p2, hk2, ri, _, g2⟩ => ?_⟩
    refine ⟨Z2, α2, ρ2, δ, fp2, hk2, (loc.mono s1.z p1).mono s2.z p2, (Goes.bind (R := fun _ _ (b c : Option Int) => b = c) g2).mono fun j H3 ⟨Z3, α3, ρ3, fp3, j', s3, p3, hk3, rj, _, g3⟩ => ?_⟩
    cases ri; cases rj
    split at g3
    · rename_i l e
      obtain ⟨q, vs, rfl, hq, hd⟩ := ((rv.mono s2.z p2).mono s3.z p3).seqT hk3 e
      rw [hK] at hq
      split at g3
      · exact g3.elim
      · rename_i hn
        exact ⟨q, vs, rfl, hq, by rw [hd.length]; exact hn, fun p hp => g3.tup hk3 (hd.cut _ _) hp⟩
    · exact g3.elim
/-! calls of built-ins by name -/
def eB (g : AF) (k : List SV → Hs → Ex SV) : EF := fun δ ρ => (g δ ρ).bind k
/-- the layer's rule of the call serves k -/
def ServesB (W : Wd) (r : List V → Hp → VK → Prop) (k : List SV → Hs → Ex SV) : Prop := ∀ (w : WX) (σ : Sg) (Z H : Hp) (α : List V) (ρ : Hs) (fp : List Addr) (vs : List V) (xs : List SV) (Q : VK),
  Hk W Z H α ρ fp → ValL W Z α vs xs → Goes W w σ (Val W) Z α fp H (k xs ρ) Q → r vs H Q
theorem de_B {r : List V → Hp → VK → Prop} {k : List SV → Hs → Ex SV} {e : Expr} (sv : ServesB W r k) (h : ∀ {t : TA}, PA X es t → PE X e (tCB r t)) (ha : DA X W w g es) : DE X W w (eB g k) e := wkE (h ha) fun σ H Q ⟨Z, α, ρ, δ, fp, hk, loc, g0⟩ => by
  refine ⟨Z, α, ρ, δ, fp, hk, loc, (Goes.bind (R := ValL W) g0).mono fun vs H1 ⟨Z1, α1, ρ1, fp1, xs, s1, p1, hk1, rv, _, g1⟩ => ?_⟩
  exact sv w σ Z1 H1 α1 ρ1 fp1 vs xs Q hk1 rv g1
def kLen (xs : List SV) (ρ : Hs) : Ex SV := match xs with
  | [x] => match lenO ρ x with
    | some n => .ok (.d (.int n)) ρ
    | none => .stuck
  | _ => .stuck
theorem ValL.one {Z : Hp} {α : List V} {vs : List V} {x : SV} (h : ValL W Z α vs [x]) : ∃ v, vs = [v] ∧ Val W Z α v x := by
  cases h with
  | cons h t => cases t; exact ⟨_, rfl, h⟩
theorem ValL.two {Z : Hp} {α : List V} {vs : List V} {x y : SV} (h : ValL W Z α vs [x, y]) : ∃ v u, vs = [v, u] ∧ Val W Z α v x ∧ Val W Z α u y := by
  cases h with
  | cons h t =>
    obtain ⟨u, rfl, k⟩ := t.one
    exact ⟨_, _, rfl, h, k⟩
theorem sv_len (hK : W.K = X.K) : ServesB W (fun xs H Q => ∃ p ys, xs = [V.ref p] ∧ (SqL X.K H p ys ∨ SqT X.K H p ys) ∧ Q (.int ys.length) H) kLen := by
  intro w σ Z H α ρ fp vs xs Q hk rv g
  unfold kLen at g
  split at g
  · rename_i x
    split at g
    · rename_i n e
      obtain ⟨v, rfl, r⟩ := rv.one
      obtain ⟨a, ys, rfl, h1, h2⟩ := r.lenO hk e
      rw [hK] at h1
      exact ⟨a, ys, rfl, h1, by rw [h2]; exact g.done hk (.d (.int _))⟩
    · exact g.elim
  · exact g.elim
def kTuple (xs : List SV) (ρ : Hs) : Ex SV := match xs with
  | [x] => match seqA ρ x with
    | some l => .ok (.d (.tup l)) ρ
    | none => .stuck
  | _ => .stuck
theorem sv_tuple (hK : W.K = X.K) : ServesB W (fun xs H Q => ∃ p ys, xs = [V.ref p] ∧ ((SqL X.K H p ys ∧ ∀ l, H l = none → Q (.ref l) (upd H l (.tup ys))) ∨ (SqT X.K H p ys ∧ Q (.ref p) H))) kTuple := by
  intro w σ Z H α ρ fp vs xs Q hk rv g
  unfold kTuple at g
  split at g
  · rename_i x
    split at g
    · rename_i l e
      obtain ⟨v, rfl, r⟩ := rv.one
      unfold Px.seqA at e
      split at e
      · rename_i l' q
        cases e
        have rr := r
        obtain ⟨a, ys, rfl, h1, h2⟩ := r.seqT hk q
        rw [hK] at h1
        refine ⟨a, ys, rfl, .inr ⟨h1, g.done hk ?_⟩⟩
        cases x with
        | d y =>
          cases y with
          | tup l2 =>
            simp only [Px.seqT, Option.some.injEq] at q
            subst q
            exact rr
          | _ => simp [Px.seqT] at q
        | own r => simp [Px.seqT] at q
        | pin => simp [Px.seqT] at q
      · obtain ⟨a, ys, rfl, h1, h2⟩ := r.seqL hk e
        rw [hK] at h1
        exact ⟨a, ys, rfl, .inl ⟨h1, fun p hp => g.tup hk h2 hp⟩⟩
    · exact g.elim
  · exact g.elim
def kList (own : Bool) (xs : List SV) (ρ : Hs) : Ex SV := match xs with
  | [x] => match seqA ρ x with
    | some l => mkL own l ρ
    | none => .stuck
  | _ => .stuck
theorem sv_list (own : Bool) (hK : W.K = X.K) : ServesB W (fun xs H Q => ∃ p ys, xs = [V.ref p] ∧ (SqL X.K H p ys ∨ SqT X.K H p ys) ∧ ∀ l, H l = none → Q (.ref l) (upd H l (.lst ys))) (kList own) := by
  intro w σ Z H α ρ fp vs xs Q hk rv g
  unfold kList at g
  split at g
  · rename_i x
    split at g
    · rename_i l e
      obtain ⟨v, rfl, r⟩ := rv.one
      obtain ⟨a, ys, rfl, h1, h2⟩ := r.seqA hk e
      rw [hK] at h1
      exact ⟨a, ys, rfl, h1, fun p hp => g.list hk h2 hp⟩
    · exact g.elim
  · exact g.elim
/-- built-ins over values that are looked at -/
def kOf (f : List D → Option D) (xs : List SV) (ρ : Hs) : Ex SV := match xs.mapM (SV.view ρ) with
  | some ds => match f ds with
    | some d => .ok (.d d) ρ
    | none => .stuck
  | none => .stuck
end
end Px

namespace Px
open PySem PySem.Spec PyProof.Rows L2

/-! ### attributes -/
section
variable {L : List Str} {kvs : List (Str × V)} {n k : Nat} {f : Str} {v : V}
theorem kv_lookup : ∀ {L : List Str} {kvs : List (Str × V)} {n k : Nat} {f : Str} {v : V}, kvs.map (·.1) = L.take n → L.Nodup → L[k]? = some f → (kvs.map (·.2))[k]? = some v → kvs.lookup f = some v
  | [], [], n, k, f, v, h, nd, hk, hv => by simp at hk
  | [], p :: kvs, n, k, f, v, h, nd, hk, hv => by simp at hk
  | g :: L, [], n, k, f, v, h, nd, hk, hv => by simp at hv
  | g :: L, (a, b) :: kvs, n, k, f, v, h, nd, hk, hv => by
    cases n with
    | zero => simp at h
    | succ n =>
      rw [List.map_cons, List.take_succ_cons, List.cons.injEq] at h
      obtain ⟨h1, h2⟩ := h
      have h1 : a = g := h1
      subst h1
      obtain ⟨n1, n2⟩ := List.nodup_cons.mp nd
      cases k with
      | zero =>
        simp at hk hv
        subst hk hv
        rw [List.lookup_cons, beq_self_eq_true]
      | succ k =>
        have hk' : L[k]? = some f := by simpa using hk
        have hv' : (kvs.map (·.2))[k]? = some v := by simpa using hv
        have ne : f ≠ a := fun z => n1 (by rw [← z]; exact List.mem_of_getElem? hk')
        rw [List.lookup_cons, show (f == a) = false from beq_eq_false_iff_ne.mpr ne]
        exact kv_lookup h2 n2 hk' hv'
theorem kv_set : ∀ {L : List Str} {kvs : List (Str × V)} {n k : Nat} {f : Str} {v : V}, kvs.map (·.1) = L.take n → L.Nodup → L[k]? = some f → k < kvs.length →
    (putF f v kvs).map (·.1) = kvs.map (·.1) ∧ (putF f v kvs).map (·.2) = (kvs.map (·.2)).set k v
  | L, [], n, k, f, v, h, nd, hk, hv => by simp at hv
  | [], p :: kvs, n, k, f, v, h, nd, hk, hv => by simp at hk
  | g :: L, (a, b) :: kvs, n, k, f, v, h, nd, hk, hv => by
    cases n with
    | zero => simp at h
    | succ n =>
      rw [List.map_cons, List.take_succ_cons, List.cons.injEq] at h
      obtain ⟨h1, h2⟩ := h
      have h1 : a = g := h1
      subst h1
      obtain ⟨n1, n2⟩ := List.nodup_cons.mp nd
      cases k with
      | zero =>
        simp at hk
        subst hk
        unfold putF
        rw [if_pos rfl]
        exact ⟨rfl, rfl⟩
      | succ k =>
        have hk' : L[k]? = some f := by simpa using hk
        have ne : ¬ a = f := fun z => n1 (by rw [z]; exact List.mem_of_getElem? hk')
        unfold putF
        rw [if_neg ne]
        obtain ⟨i1, i2⟩ := kv_set (v := v) h2 n2 hk' (by simpa using hv)
        exact ⟨by rw [List.map_cons, List.map_cons, i1], by rw [List.map_cons, List.map_cons, i2]; rfl⟩
theorem kv_new : ∀ {L : List Str} {kvs : List (Str × V)} {f : Str} {v : V}, kvs.map (·.1) = L.take kvs.length → L.Nodup → L[kvs.length]? = some f →
    (putF f v kvs).map (·.1) = L.take (kvs.length + 1) ∧ (putF f v kvs).map (·.2) = kvs.map (·.2) ++ [v] ∧ (putF f v kvs).length = kvs.length + 1
  | L, [], f, v, h, nd, hk => by
    cases L with
    | nil => simp at hk
    | cons g L =>
      simp at hk
      subst hk
      exact ⟨rfl, rfl, rfl⟩
  | [], p :: kvs, f, v, h, nd, hk => by simp at hk
  | g :: L, (a, b) :: kvs, f, v, h, nd, hk => by
    rw [List.map_cons, List.length_cons, List.take_succ_cons, List.cons.injEq] at h
    obtain ⟨h1, h2⟩ := h
    have h1 : a = g := h1
    subst h1
    obtain ⟨n1, n2⟩ := List.nodup_cons.mp nd
    have hk' : L[kvs.length]? = some f := by simpa using hk
    have ne : ¬ a = f := fun z => n1 (by rw [z]; exact List.mem_of_getElem? hk')
    unfold putF
    rw [if_neg ne]
    obtain ⟨i1, i2, i3⟩ := kv_new (v := v) h2 n2 hk'
    exact ⟨by rw [List.map_cons, i1, List.length_cons, List.take_succ_cons], by rw [List.map_cons, i2]; rfl, by rw [List.length_cons, i3, List.length_cons]⟩
end

def fldOf (ρ : Hs) (c k : Nat) : SV → Option D
  | .d (.ins c' l) => if c' = c then l[k]? else none
  | .own r => match ρ[r]? with
    | some (.ins c' l) => if c' = c then match l[k]? with
        | some (.d y) => some y
        | _ => none
      else none
    | _ => none
  | _ => none
/-- the object's root with field k changed to y (or made) -/
def putOf (ρ : Hs) (c k : Nat) (y : D) : SV → Option Hs
  | .own r => match ρ[r]? with
    | some (.ins c' l) => if c' = c ∧ k ≤ l.length then some (ρ.set r (.ins c (if k < l.length then l.set k (.d y) else l ++ [.d y]))) else none
    | _ => none
  | _ => none
section
variable {W : Wd} {Z H : Hp} {α : List V} {ρ : Hs} {fp : List Addr} {v : V} {x : SV} {c k : Nat} {f : Str}
theorem Val.fld {y : D} (C : ClsD W c) (hf : (W.lay c)[k]? = some f) (hk : Hk W Z H α ρ fp) (r : Val W Z α v x) (e : fldOf ρ c k x = some y) : ∃ a dx kvs u, v = .ref a ∧ H a = some (.ins (W.cl c) dx kvs) ∧ kvs.lookup f = some u ∧ Dat W Z u y := by
  cases r with
  | d h =>
    cases h with
    | @ins _ _ c' _ _ h1 h2 h3 =>
      simp only [fldOf] at e
      split at e
      · rename_i hc
        subst hc
        obtain ⟨u, hu, du⟩ := h3.get e
        exact ⟨_, _, _, u, rfl, hk.le _ _ h1, kv_lookup h2 C.nd hf hu, du⟩
      · cases e
    | _ => cases e
  | pin h => cases e
  | @own r h =>
    simp only [fldOf] at e
    split at e
    · rename_i c' l' q
      split at e
      · rename_i hc
        subst hc
        split at e
        · rename_i y' hy
          cases e
          obtain ⟨v', fo, h1, h2, _⟩ := hk.own.get q
          rw [h] at h1; cases h1
          cases h2 with
          | ins h3 h4 h5 h6 h7 =>
            obtain ⟨u, fu, hu, du, _⟩ := h6.get hy
            cases du with
            | d du => exact ⟨_, _, _, u, rfl, h4, kv_lookup h5 C.nd hf hu, du⟩
        · cases e
      · cases e
    · cases e
theorem Val.put {y : D} {u : V} {ρ' : Hs} (C : ClsD W c) (hf : (W.lay c)[k]? = some f) (hk : Hk W Z H α ρ fp) (r : Val W Z α v x) (ru : Dat W Z u y) (e : putOf ρ c k y x = some ρ') :
    ∃ a dx kvs, v = .ref a ∧ H a = some (.ins (W.cl c) dx kvs) ∧ kvs.length < 1000 ∧ ∃ fp', Step Z H fp Z (upd H a (.ins (W.cl c) dx (putF f u kvs))) fp' ∧ Hk W Z (upd H a (.ins (W.cl c) dx (putF f u kvs))) α ρ' fp' := by
  cases r with
  | d h => simp [putOf] at e
  | pin h => cases e
  | @own r h =>
    simp only [putOf] at e
    split at e
    · rename_i c' l' q
      split at e
      · rename_i hc
        obtain ⟨hc, hl⟩ := hc
        subst hc
        cases e
        obtain ⟨v', fo, h1, h2, wr⟩ := hk.write q
        rw [h] at h1; cases h1
        cases h2 with
        | @ins a dx _ kvs _ fq h3 h4 h5 h6 h7 =>
          have len : kvs.length = l'.length := by
            have := h6.length
            rwa [List.length_map] at this
          have lenL : kvs.length ≤ (W.lay c').length := by
            have := congrArg List.length h5
            rw [List.length_map, List.length_take] at this
            omega
          have sm : kvs.length < 1000 := Nat.lt_of_le_of_lt lenL C.sm
          have keep6 : ∀ o, OwnL W Z (upd H a o) (kvs.map (·.2)) l' fq := fun o => h6.keep (Same.refl _) fun b hb => ⟨(h6.there b hb).1, upd_ne fun z => h7 (by rw [← z]; exact hb)⟩
          have nn : ∀ o, ∀ b ∈ a :: fq, upd H a o b ≠ none := fun o b hb => by
            by_cases hba : b = a
            · rw [hba, upd_same]; exact fun z => nomatch z
            · rw [upd_ne hba]
              exact ((Own.ins h3 h4 h5 h6 h7).there b hb).2
          refine ⟨a, dx, kvs, rfl, h4, sm, ?_⟩
          by_cases hlt : k < l'.length
          · obtain ⟨i1, i2⟩ := kv_set (v := u) h5 C.nd hf (by omega)
            obtain ⟨fz, h8, h9⟩ := (keep6 (.ins (W.cl c') dx (putF f u kvs))).setD k ru
            rw [if_pos hlt]
            refine wr _ _ (a :: fz) (fun b hb => upd_ne fun z => hb (by rw [z]; exact List.mem_cons_self ..)) (nn _) (.ins h3 upd_same (by rw [i1, h5, List.length_set]) (by rw [i2]; exact h8) fun z => h7 (h9 a z)) fun b hb => ?_
            rcases List.mem_cons.mp hb with z | z
            · exact List.mem_cons.mpr (.inl z)
            · exact List.mem_cons_of_mem _ (h9 b z)
          · have hkl : k = kvs.length := by omega
            subst hkl
            obtain ⟨i1, i2, i3⟩ := kv_new (v := u) (by rw [h5, len]) C.nd hf
            rw [if_neg hlt]
            refine wr _ _ (a :: fq) (fun b hb => upd_ne fun z => hb (by rw [z]; exact List.mem_cons_self ..)) (nn _) (.ins h3 upd_same (by rw [i1, List.length_append, len]; rfl) (by rw [i2]; exact (keep6 _).snocD ru) h7) fun b hb => hb
      · cases e
    · cases e
end

section
variable {X : Cx} {W : Wd} {w : WX} {o a b : Expr} {fo fa fb : EF} {es : List Expr} {g : AF} {pos pos' tpos : Pos} {c k : Nat} {f : Str}
def eFld (c k : Nat) (fo : EF) : EF := fun δ ρ => (fo δ ρ).bind fun x ρ1 => match fldOf ρ1 c k x with
  | some y => .ok (.d y) ρ1
  | none => .stuck
theorem de_fld (C : ClsD W c) (hK : W.K = X.K) (hf : (W.lay c)[k]? = some f) (h : DE X W w fo o) (hb : attributeBase o f X.env (eval o X.env) = eval o X.env) : DE X W w (eFld c k fo) (.Attribute o f pos) :=
  wkE (pe_fld h hb) fun σ H Q ⟨Z, α, ρ, δ, fp, hk, loc, g0⟩ => by
    refine ⟨Z, α, ρ, δ, fp, hk, loc, (Goes.bind (R := Val W) g0).mono fun v H1 ⟨Z1, α1, ρ1, fp1, x, s1, p1, hk1, rv, _, g1⟩ => ?_⟩
    split at g1
    · rename_i y e
      obtain ⟨q, dx, kvs, u, rfl, h1, h2, h3⟩ := rv.fld C hf hk1 e
      exact ⟨q, _, dx, kvs, u, rfl, h1, hK ▸ C.cls, hK ▸ C.no f (List.mem_of_getElem? hf), h2, g1.done hk1 (.d h3)⟩
    · exact g1.elim
def sFld (c k : Nat) (fo fv : EF) : SF := fun δ ρ => (fv δ ρ).out δ fun y ρ1 => (fo δ ρ1).out δ fun x ρ2 => match y with
  | .d d => match putOf ρ2 c k d x with
    | some ρ3 => .nx δ ρ3
    | none => .stuck
  | _ => .stuck
theorem ds_fld (C : ClsD W c) (hK : W.K = X.K) (hf : (W.lay c)[k]? = some f) (h : DE X W w fo o) (hv : DE X W w fa a) (hs : swapsWith a (some (.Attribute o f pos')) pos.line X.env = pure false) : DS X W w (sFld c k fo fa) (.Assign [.Attribute o f pos'] a pos) :=
  wkS (ps_fld h hv hs) fun D σ H ⟨Z, α, ρ, δ, fp, hk, loc, g0⟩ => by
    refine ⟨Z, α, ρ, δ, fp, hk, loc, (GoesS.of (R := Val W) hk loc g0).mono fun u H1 ⟨Z1, α1, ρ1, fp1, y, s1, p1, hk1, loc1, ry, _, g1⟩ => ?_⟩
    refine ⟨Z1, α1, ρ1, δ, fp1, hk1, loc1, (GoesS.of (R := Val W) hk1 loc1 g1).mono fun v H2 ⟨Z2, α2, ρ2, fp2, x, s2, p2, hk2, loc2, rx, _, g2⟩ => ?_⟩
    split at g2
    · rename_i d
      split at g2
      · rename_i ρ3 e
        cases ry with
        | d ry =>
          obtain ⟨q, dx, kvs, rfl, h1, h2, fp', st, hk'⟩ := rx.put C hf hk2 (ry.mono s2.z) e
          exact ⟨q, _, dx, kvs, rfl, h1, hK ▸ C.cls, hK ▸ C.no f (List.mem_of_getElem? hf), h2, g2 Z2 α2 σ _ fp' st (List.prefix_refl _) hk' loc2⟩
      · exact g2.elim
    · exact g2.elim
/-- o.f op= e on scalars -/
def sFldAug (c k : Nat) (fo fv : EF) (gg : D → D → Option D) : SF := fun δ ρ => (fo δ ρ).out δ fun x ρ1 => match fldOf ρ1 c k x with
  | some z => (fv δ ρ1).out δ fun y ρ2 => match y with
    | .d d => match gg z d with
      | some t => match putOf ρ2 c k t x with
        | some ρ3 => .nx δ ρ3
        | none => .stuck
      | none => .stuck
    | _ => .stuck
  | none => .stuck
theorem ds_fldaug {op : Operator} {rd : R2} {gg : D → D → Option D} (C : ClsD W c) (hK : W.K = X.K) (hf : (W.lay c)[k]? = some f) (hop : InOp X op rd) (sv : Serves2 W rd gg) (h : DE X W w fo o) (hv : DE X W w fa a) : DS X W w (sFldAug c k fo fa gg) (.AugAssign (.Attribute o f tpos) op a pos) :=
  wkS (ps_fldaug h hv hop) fun D σ H ⟨Z, α, ρ, δ, fp, hk, loc, g0⟩ => by
    refine ⟨Z, α, ρ, δ, fp, hk, loc, (GoesS.of (R := Val W) hk loc g0).mono fun u H1 ⟨Z1, α1, ρ1, fp1, x, s1, p1, hk1, loc1, rx, _, g1⟩ => ?_⟩
    split at g1
    · rename_i z e
      obtain ⟨q, dx, kvs, zz, rfl, h1, h2, h3⟩ := rx.fld C hf hk1 e
      refine ⟨q, _, dx, kvs, zz, rfl, h1, hK ▸ C.cls, hK ▸ C.no f (List.mem_of_getElem? hf), h2, ?_⟩
      refine ⟨Z1, α1, ρ1, δ, fp1, hk1, loc1, (GoesS.of (R := Val W) hk1 loc1 g1).mono fun v H2 ⟨Z2, α2, ρ2, fp2, y, s2, p2, hk2, loc2, ry, _, g2⟩ => ?_⟩
      split at g2
      · rename_i d _
        split at g2
        · rename_i t et
          split at g2
          · rename_i ρ3 ep
            cases ry with
            | d ry =>
              refine sv H2 zz v z d t _ ((h3.mono s2.z).mono hk2.le) (ry.mono hk2.le) et fun tv ht => ?_
              obtain ⟨q', dx', kvs', eq, h4, h5, fp', st, hk'⟩ := (rx.mono s2.z p2).put C hf hk2 (ht Z2) ep
              cases eq
              exact ⟨dx', kvs', h4, h5, g2 Z2 α2 σ _ fp' st (List.prefix_refl _) hk' loc2⟩
          · exact g2.elim
        · exact g2.elim
      · exact g2.elim
    · exact g1.elim
/-- an attribute as a target -/
def gFldT (K : PySem.W.Frag) (ta : TE) (f : Str) : TG := fun y σ H Q => ta σ H fun x H2 => ∃ a C dx fs, x = .ref a ∧ H2 a = some (.ins C dx fs) ∧ Cls K C ∧ NoAttr K C f ∧ fs.length < 1000 ∧ Q σ (upd H2 a (.ins C dx (putF f y fs)))
theorem pg_fldT {ta : TE} (ha : PE X o ta) : PG X (.Attribute o f pos) (gFldT X.K ta f) := by
  refine ⟨fun pins s σ H v u Q I r h => ?_⟩
  rw [PySem.assign_Attribute]
  refine wpAny_bind (wpAny_holding (thn (ha.run pins s σ H _ I h) fun ov s2 ⟨x, H2, I2, rx, a, C, dx, fs, ex, ea, c, n, l, q2⟩ => ?_))
  subst ex
  have eu : ov = Value.ref a := rx
  subst eu
  refine wpAny_bind (wpAny_standAt (wpAny_bind (wpAny_holding (setattr_ok I2 ea c n l r fun s3 I3 => ?_))))
  exact wpAny_release ⟨σ, _, I3, q2⟩
def gFld (c k i : Nat) : GF := fun y δ ρ => match y, δ[i]? with
  | .d d, some (some x) => (putOf ρ c k d x).map fun ρ1 => (δ, ρ1)
  | _, _ => none
theorem dg_fld {i : Nat} (C : ClsD W c) (hK : W.K = X.K) (hf : (W.lay c)[k]? = some f) (h : PE X o (tVar i)) : DG X W (gFld c k i) (.Attribute o f pos) :=
  wkG (pg_fldT h) fun v σ H Q ⟨Z, α, ρ, δ, fp, x, hk, loc, rv, δ1, ρ1, e, q⟩ => by
    unfold gFld at e
    split at e
    · rename_i d y hy
      simp only [Option.map_eq_some_iff, Prod.mk.injEq] at e
      obtain ⟨ρ2, e, rfl, rfl⟩ := e
      obtain ⟨z, hz, rz⟩ := loc.get i y hy
      cases rv with
      | d rv =>
        obtain ⟨a, dx, kvs, rfl, h1, h2, fp', st, hk'⟩ := rz.put C hf hk rv e
        exact ⟨.ref a, hz, a, _, dx, kvs, rfl, h1, hK ▸ C.cls, hK ▸ C.no f (List.mem_of_getElem? hf), h2, q Z α σ _ fp' st (List.prefix_refl _) hk' loc⟩
    · cases e
end
end Px

namespace Px
open PySem PySem.Spec PyProof.Rows L2

/-! ### what is walked -/
/-- new frozen things alone -/
structure Ext (Z H Z' H' : Hp) : Prop where
  z : Same Z Z'
  le : Same Z' H'
  nz : ∀ b, Z' b ≠ none → Z b ≠ none ∨ H b = none
  h : ∀ b, H b ≠ none → H' b = H b
theorem Ext.refl {Z H : Hp} (s : Same Z H) : Ext Z H Z H := ⟨Same.refl _, s, fun _ h => .inl h, fun _ _ => rfl⟩
theorem Ext.new {Z H : Hp} {p : Addr} {o : HO} (s : Same Z H) (hp : H p = none) : Ext Z H (upd Z p o) (upd H p o) := by
  have zp := s.free hp
  refine ⟨fun b u e => by rw [upd_ne (ne_of_none e zp)]; exact e, fun b u e => ?_, fun b h => ?_, fun b h => upd_ne fun z => h (by rw [z]; exact hp)⟩
  · by_cases hb : b = p
    · subst hb; rw [upd_same] at e ⊢; exact e
    · rw [upd_ne hb] at e ⊢; exact s b u e
  · by_cases hb : b = p
    · exact .inr (by rw [hb]; exact hp)
    · rw [upd_ne hb] at h; exact .inl h
theorem Ext.step {W : Wd} {Z H Z' H' : Hp} {α : List V} {ρ : Hs} {fp : List Addr} (e : Ext Z H Z' H') (hk : Hk W Z H α ρ fp) : Step Z H fp Z' H' fp ∧ Hk W Z' H' α ρ fp := by
  refine ⟨⟨e.z, fun b h => (e.nz b h).imp id .inl, fun b h _ => e.h b h, fun b h => by rw [e.h b h]; exact h, fun b h => .inl h⟩, ⟨e.le, hk.own.keep e.z fun a ha => ?_⟩⟩
  obtain ⟨h1, h2⟩ := hk.own.there a ha
  refine ⟨Classical.byContradiction fun n => ?_, e.h a h2⟩
  rcases e.nz a n with z | z
  · exact z h1
  · exact h2 z
/-- the walk yields these, one after the other -/
def ItOk (W : Wd) (Z : Hp) (J : It) (ds : List D) : Prop := ∀ Z1 H, Same Z Z1 → Same Z1 H → ∀ i,
  (∀ d, ds[i]? = some d → J.go i H ∧ ∀ x H', J.yld i H x H' → ∃ Z', Ext Z1 H Z' H' ∧ Dat W Z' x d) ∧ (ds[i]? = none → J.stop i H)
abbrev IF := Sto → Hs → Ex (List D)
def tIt (W : Wd) (w : WX) (f : IF) : TI := fun σ H R => ∃ Z α ρ δ fp, Hk W Z H α ρ fp ∧ Loc W Z α σ δ ∧ Goes W w σ (fun Z' _ J ds => ItOk W Z' J ds) Z α fp H (f δ ρ) R
def DI (X : Cx) (W : Wd) (w : WX) (f : IF) (tg iter : Expr) : Prop := PI X tg iter (tIt W w f)
theorem wkI {X : Cx} {tg iter : Expr} {t u : TI} (h : PI X tg iter t) (k : ∀ σ H R, u σ H R → t σ H R) : PI X tg iter u := ⟨fun pins s σ H R I q => h.run pins s σ H R I (k σ H R q)⟩
theorem ItOk.list {W : Wd} {Z : Hp} {a : Addr} {vs : List V} {ds : List D} (h : SqL W.K Z a vs) (hd : DatL W Z vs ds)
    (inj : ∀ {H : Hp} {ys : List V}, Same Z H → True) : ItOk W Z (Itl W.K a) ds := by
  intro Z1 H s1 s2 i
  have hq := (s1.trans s2).seq h
  refine ⟨fun d e => ?_, fun e => ?_⟩
  · obtain ⟨v, hv, hd⟩ := hd.get e
    refine ⟨⟨vs, v, hq, hv⟩, fun x H' y => ?_⟩
    obtain ⟨e1, y⟩ := y
    subst e1
    have e2 := (y vs hq).symm.trans hv
    cases e2
    exact ⟨Z1, Ext.refl s2, hd.mono s1⟩
  · refine ⟨vs, hq, ?_⟩
    rw [hd.length]
    exact List.getElem?_eq_none_iff.mp e
theorem ItOk.tup {W : Wd} {Z : Hp} {a : Addr} {vs : List V} {ds : List D} (h : SqT W.K Z a vs) (hd : DatL W Z vs ds) : ItOk W Z (Itt W.K a) ds := by
  intro Z1 H s1 s2 i
  have hq := Same.seqT (s1.trans s2) h
  refine ⟨fun d e => ?_, fun e => ?_⟩
  · obtain ⟨v, hv, hd⟩ := hd.get e
    refine ⟨⟨vs, v, hq, hv⟩, fun x H' y => ?_⟩
    obtain ⟨e1, y⟩ := y
    subst e1
    have e2 := (y vs hq).symm.trans hv
    cases e2
    exact ⟨Z1, Ext.refl s2, hd.mono s1⟩
  · refine ⟨vs, hq, ?_⟩
    rw [hd.length]
    exact List.getElem?_eq_none_iff.mp e
/-- frozen sequences -/
def frzL : SV → Option (List D)
  | .d (.lst l) => some l
  | .d (.scr l) => some l
  | _ => none
theorem Val.frzL {W : Wd} {Z : Hp} {α : List V} {v : V} {x : SV} {l : List D} (r : Val W Z α v x) (e : frzL x = some l) : ∃ a vs, v = .ref a ∧ SqL W.K Z a vs ∧ DatL W Z vs l := by
  cases r with
  | d h =>
    cases h with
    | lst h1 h2 =>
      simp only [Px.frzL, Option.some.injEq] at e
      subst e
      exact ⟨_, _, rfl, .inl (.inl h1), h2⟩
    | scr h1 h2 =>
      simp only [Px.frzL, Option.some.injEq] at e
      subst e
      exact ⟨_, _, rfl, h1, h2⟩
    | _ => cases e
  | own h => cases e
  | pin h => cases e
theorem Val.frzT {W : Wd} {Z : Hp} {α : List V} {v : V} {x : SV} {l : List D} (r : Val W Z α v x) (e : Px.seqT x = some l) : ∃ a vs, v = .ref a ∧ SqT W.K Z a vs ∧ DatL W Z vs l := by
  cases r with
  | d h =>
    cases h with
    | tup h1 h2 =>
      simp only [Px.seqT, Option.some.injEq] at e
      subst e
      exact ⟨_, _, rfl, h1, h2⟩
    | _ => cases e
  | own h => cases e
  | pin h => cases e

section
variable {X : Cx} {W : Wd} {w : WX} {tg a b : Expr} {fa fb : EF} {g : AF} {pos p : Pos}
/-- over a list or a tuple -/
theorem pi_seq {t : TE} (h : PE X a t) : PI X tg a (fun σ H R => t σ H fun x H1 => ∃ q, x = .ref q ∧ (((∃ xs, SqL X.K H1 q xs) ∧ R (Itl X.K q) H1) ∨ ((∃ xs, SqT X.K H1 q xs) ∧ R (Itt X.K q) H1))) := by
  refine ⟨fun pins s σ H R I hw => thn (h.run pins s σ H _ I hw) fun v s1 ⟨x, H1, I1, r1, q, e, q1⟩ => ?_⟩
  subst e
  cases r1
  have fpk : ∀ c, c ∈ [s1.heap.objs.size] → FpOk X pins H1 c := fun c hc => by
    have ec : c = s1.heap.objs.size := by simpa using hc
    subst ec
    exact I1.fpOk (Nat.le_refl _) (I1.hok.fresh (Nat.le_refl _))
  rcases q1 with ⟨⟨xs, hq⟩, q1⟩ | ⟨⟨xs, hq⟩, q1⟩
  · obtain ⟨its, rv, pl, hz⟩ := I1.list hq
    exact wpAny_pyIter_list pl.isList ⟨s1.heap.objs.size, [s1.heap.objs.size], _, _, H1, rfl, I1.kept (t' := s1.toks) (fun b o e => Heap.get?_push_of_some _ e), turn_list q _, ⟨_, Heap.get?_push_size _ rfl, rfl, rfl⟩, fpk, q1⟩
  · obtain ⟨its, rv, pl, hz⟩ := I1.tuple hq
    exact wpAny_pyIter_tuple (show s1.heap.IsTuple q its.toArray from pl) ⟨s1.heap.objs.size, [s1.heap.objs.size], _, _, H1, rfl, I1.kept (t' := s1.toks) (fun b o e => Heap.get?_push_of_some _ e), turn_tuple q _, ⟨_, Heap.get?_push_size _ rfl, rfl, rfl⟩, fpk, q1⟩
def iSeq (fa : EF) : IF := fun δ ρ => (fa δ ρ).bind fun x ρ1 => match frzL x with
  | some l => .ok l ρ1
  | none => match seqT x with
    | some l => .ok l ρ1
    | none => .stuck
theorem di_seq (hK : W.K = X.K) (h : DE X W w fa a) : DI X W w (iSeq fa) tg a := wkI (pi_seq h) fun σ H R ⟨Z, α, ρ, δ, fp, hk, loc, g0⟩ => by
  refine ⟨Z, α, ρ, δ, fp, hk, loc, (Goes.bind (R := Val W) g0).mono fun v H1 ⟨Z1, α1, ρ1, fp1, x, s1, p1, hk1, rv, _, g1⟩ => ?_⟩
  split at g1
  · rename_i l e
    obtain ⟨q, vs, rfl, h1, h2⟩ := rv.frzL e
    exact ⟨q, rfl, .inl ⟨⟨vs, hK ▸ hk1.le.seq h1⟩, hK ▸ g1.done hk1 (ItOk.list h1 h2 fun _ => trivial)⟩⟩
  · split at g1
    · rename_i l e
      obtain ⟨q, vs, rfl, h1, h2⟩ := rv.frzT e
      exact ⟨q, rfl, .inr ⟨⟨vs, hK ▸ Same.seqT hk1.le h1⟩, hK ▸ g1.done hk1 (ItOk.tup h1 h2)⟩⟩
    · exact g1.elim
/-! ranges -/
def ups (lo : Int) : Nat → List D
  | 0 => []
  | n + 1 => .int lo :: ups (lo + 1) n
theorem ups_get : ∀ (n : Nat) (lo : Int) (i : Nat), (ups lo n)[i]? = if i < n then some (.int (lo + i)) else none
  | 0, lo, i => by simp [ups]
  | n + 1, lo, 0 => by simp [ups]
  | n + 1, lo, i + 1 => by
    rw [ups, List.getElem?_cons_succ, ups_get n (lo + 1) i]
    have e : lo + 1 + (i : Int) = lo + ((i + 1 : Nat) : Int) := by omega
    rw [e]
    by_cases h : i < n
    · rw [if_pos h, if_pos (by omega)]
    · rw [if_neg h, if_neg (by omega)]
def downs (lo : Int) : Nat → List D
  | 0 => []
  | n + 1 => .int lo :: downs (lo - 1) n
theorem downs_get : ∀ (n : Nat) (lo : Int) (i : Nat), (downs lo n)[i]? = if i < n then some (.int (lo - i)) else none
  | 0, lo, i => by simp [downs]
  | n + 1, lo, 0 => by simp [downs]
  | n + 1, lo, i + 1 => by
    rw [downs, List.getElem?_cons_succ, downs_get n (lo - 1) i]
    have e : lo - 1 - (i : Int) = lo - ((i + 1 : Nat) : Int) := by omega
    rw [e]
    by_cases h : i < n
    · rw [if_pos h, if_pos (by omega)]
    · rw [if_neg h, if_neg (by omega)]
theorem ItOk.ups {Z : Hp} (lo : Int) (n : Nat) : ItOk W Z (Itr lo n) (ups lo n) := by
  intro Z1 H s1 s2 i
  rw [ups_get]
  by_cases h : i < n
  · rw [if_pos h]
    refine ⟨fun d e => ?_, fun e => nomatch e⟩
    cases e
    refine ⟨h, fun x H' y => ?_⟩
    obtain ⟨e1, e2⟩ := y
    subst e1 e2
    exact ⟨Z1, Ext.refl s2, .int _⟩
  · rw [if_neg h]
    exact ⟨(fun d e => by cases e), fun _ => Nat.le_of_not_lt h⟩
def RG (i : Int) : Prop := -1000000000000000 ≤ i ∧ i ≤ 1000000000000000
instance (i : Int) : Decidable (RG i) := inferInstanceAs (Decidable (_ ∧ _))
def iRange1 (g : AF) : IF := fun δ ρ => (g δ ρ).bind fun xs ρ1 => match xs with
  | [.d (.int j)] => if RG j then .ok (ups 0 j.toNat) ρ1 else .stuck
  | _ => .stuck
def iRange2 (g : AF) : IF := fun δ ρ => (g δ ρ).bind fun xs ρ1 => match xs with
  | [.d (.int i), .d (.int j)] => if RG i ∧ RG j then .ok (ups i (j - i).toNat) ρ1 else .stuck
  | _ => .stuck
theorem ValL.i1 {Z : Hp} {α : List V} {vs : List V} {i : Int} (h : ValL W Z α vs [.d (.int i)]) : vs = [.int i] := by
  obtain ⟨v, rfl, k⟩ := h.one
  rw [k.int]
theorem ValL.i2 {Z : Hp} {α : List V} {vs : List V} {i j : Int} (h : ValL W Z α vs [.d (.int i), .d (.int j)]) : vs = [.int i, .int j] := by
  obtain ⟨v, u, rfl, h1, k⟩ := h.two
  rw [h1.int, k.int]
theorem di_range1 (hg : Gl X "range") (hm : X.mg "range" = none) (ha : DA X W w g [a]) (hs : starEach [a] X.env = [(false, eval a X.env)] := by rfl) : DI X W w (iRange1 g) tg (.Call (.Name "range" p) [a] [] pos) :=
  wkI (pi_range1 hg hm ha hs) fun σ H R ⟨Z, α, ρ, δ, fp, hk, loc, g0⟩ => by
    refine ⟨Z, α, ρ, δ, fp, hk, loc, (Goes.bind (R := ValL W) g0).mono fun v H1 ⟨Z1, α1, ρ1, fp1, x, s1, p1, hk1, rv, _, g1⟩ => ?_⟩
    split at g1
    · rename_i j _
      split at g1
      · rename_i hj
        obtain ⟨h1, h2⟩ := hj
        exact ⟨j, rv.i1, by omega, by omega, g1.done hk1 (ItOk.ups _ _)⟩
      · exact g1.elim
    · exact g1.elim
theorem di_range2 (hg : Gl X "range") (hm : X.mg "range" = none) (ha : DA X W w g [a, b]) (hs : starEach [a, b] X.env = [(false, eval a X.env), (false, eval b X.env)] := by rfl) (hs2 : starEach [b] X.env = [(false, eval b X.env)] := by rfl) :
    DI X W w (iRange2 g) tg (.Call (.Name "range" p) [a, b] [] pos) := wkI (pi_range2 hg hm ha hs hs2) fun σ H R ⟨Z, α, ρ, δ, fp, hk, loc, g0⟩ => by
    refine ⟨Z, α, ρ, δ, fp, hk, loc, (Goes.bind (R := ValL W) g0).mono fun v H1 ⟨Z1, α1, ρ1, fp1, x, s1, p1, hk1, rv, _, g1⟩ => ?_⟩
    split at g1
    · rename_i i j _
      split at g1
      · rename_i hj
        obtain ⟨⟨h1, h2⟩, h3, h4⟩ := hj
        exact ⟨i, j, rv.i2, ⟨by omega, by omega, by omega, by omega⟩, g1.done hk1 (ItOk.ups _ _)⟩
      · exact g1.elim
    · exact g1.elim
/-- range(i, j, -1) -/
def iRangeD (g : AF) : IF := fun δ ρ => (g δ ρ).bind fun xs ρ1 => match xs with
  | [.d (.int i), .d (.int j), .d (.int c)] => if c = -1 ∧ RG i ∧ RG j then .ok (downs i (i - j).toNat) ρ1 else .stuck
  | _ => .stuck
theorem di_rangeD {c : Expr} (hg : Gl X "range") (hm : X.mg "range" = none) (ha : DA X W w g [a, b, c])
    (h : ∀ {ta : TA}, PA X [a, b, c] ta → PI X tg (.Call (.Name "range" p) [a, b, c] [] pos) (iRng3 ta)) : DI X W w (iRangeD g) tg (.Call (.Name "range" p) [a, b, c] [] pos) := wkI (h ha) fun σ H R ⟨Z, α, ρ, δ, fp, hk, loc, g0⟩ => by
    refine ⟨Z, α, ρ, δ, fp, hk, loc, (Goes.bind (R := ValL W) g0).mono fun v H1 ⟨Z1, α1, ρ1, fp1, x, s1, p1, hk1, rv, _, g1⟩ => ?_⟩
    split at g1
    · rename_i i j c _
      split at g1
      · rename_i hj
        obtain ⟨rfl, ⟨h1, h2⟩, h3, h4⟩ := hj
        have ev : v = [.int i, .int j, .int (-1)] := by
          cases rv with
          | cons r1 t =>
            obtain ⟨v2, v3, rfl, r2, r3⟩ := t.two
            rw [r1.int, r2.int, r3.int]
        refine ⟨i, j, -1, (i - j).toNat, ev, RgC.neg (by omega) (by omega) (by omega) (by omega), g1.done hk1 ?_⟩
        intro Z2 H2 s2 s3 k
        rw [downs_get]
        by_cases hk : k < (i - j).toNat
        · rw [if_pos hk]
          refine ⟨fun d e => ?_, fun e => nomatch e⟩
          cases e
          refine ⟨hk, fun x H' y => ?_⟩
          obtain ⟨e1, e2⟩ := y
          subst e1 e2
          refine ⟨Z2, Ext.refl s3, ?_⟩
          have e : i + (k : Int) * -1 = i - k := by omega
          rw [e]
          exact .int _
        · rw [if_neg hk]
          exact ⟨(fun d e => by cases e), fun _ => Nat.le_of_not_lt hk⟩
      · exact g1.elim
    · exact g1.elim
/-- reversed(list or tuple) -/
def iRev (fa : EF) : IF := fun δ ρ => (fa δ ρ).bind fun x ρ1 => match frzL x with
  | some l => .ok l.reverse ρ1
  | none => match seqT x with
    | some l => .ok l.reverse ρ1
    | none => .stuck
theorem rev_get {β : Type} {l : List β} {i : Nat} {d : β} (h : l.reverse[i]? = some d) : i < l.length ∧ l[l.length - 1 - i]? = some d := by
  have hi : i < l.length := by
    have := (List.getElem?_eq_some_iff.mp h).1
    simpa using this
  rw [List.getElem?_reverse hi] at h
  exact ⟨hi, h⟩
theorem di_rev (hK : W.K = X.K) (hg : Gl X "reversed") (hm : X.mg "reversed" = none) (ha : DE X W w fa a) (hs : starEach [a] X.env = (false, eval a X.env) :: starEach [] X.env := by rfl) :
    DI X W w (iRev fa) tg (.Call (.Name "reversed" p) [a] [] pos) := wkI (RT.pi_revA hg hm ha hs) fun σ H R ⟨Z, α, ρ, δ, fp, hk, loc, g0⟩ => by
  refine ⟨Z, α, ρ, δ, fp, hk, loc, (Goes.bind (R := Val W) g0).mono fun v H1 ⟨Z1, α1, ρ1, fp1, x, s1, p1, hk1, rv, _, g1⟩ => ?_⟩
  split at g1
  · rename_i l e
    obtain ⟨q, vs, rfl, h1, h2⟩ := rv.frzL e
    refine ⟨q, vs, rfl, .inl ⟨hK ▸ hk1.le.seq h1, hK ▸ g1.done hk1 ?_⟩⟩
    intro Z2 H2 s2 s3 i
    have hq := (s2.trans s3).seq h1
    refine ⟨fun d e => ?_, fun e => ?_⟩
    · obtain ⟨hi, e⟩ := rev_get e
      obtain ⟨u, hu, hd⟩ := h2.get e
      rw [← h2.length] at hi hu
      refine ⟨⟨hi, vs, u, hq, hu⟩, fun x H' y => ?_⟩
      obtain ⟨e1, y⟩ := y
      subst e1
      have e2 := (y vs hq).symm.trans hu
      cases e2
      exact ⟨Z2, Ext.refl s3, hd.mono s2⟩
    · show vs.length ≤ i
      rw [h2.length]
      simpa using e
  · split at g1
    · rename_i l e
      obtain ⟨q, vs, rfl, h1, h2⟩ := rv.frzT e
      refine ⟨q, vs, rfl, .inr ⟨hK ▸ Same.seqT hk1.le h1, hK ▸ g1.done hk1 ?_⟩⟩
      intro Z2 H2 s2 s3 i
      have hq := Same.seqT (s2.trans s3) h1
      refine ⟨fun d e => ?_, fun e => ?_⟩
      · obtain ⟨hi, e⟩ := rev_get e
        obtain ⟨u, hu, hd⟩ := h2.get e
        rw [← h2.length] at hi hu
        refine ⟨⟨hi, vs, u, hq, hu⟩, fun x H' y => ?_⟩
        obtain ⟨e1, y⟩ := y
        subst e1
        have e2 := (y vs hq).symm.trans hu
        cases e2
        exact ⟨Z2, Ext.refl s3, hd.mono s2⟩
      · show vs.length ≤ i
        rw [h2.length]
        simpa using e
    · exact g1.elim
end

/-! ### for -/
def sLoop (gt : GF) (fb : SF) : List D → SF
  | [], δ, ρ => .nx δ ρ
  | x :: xs, δ, ρ => match gt (.d x) δ ρ with
    | some (δ1, ρ1) => match fb δ1 ρ1 with
      | .nx δ2 ρ2 => sLoop gt fb xs δ2 ρ2
      | .ct δ2 ρ2 => sLoop gt fb xs δ2 ρ2
      | .bk δ2 ρ2 => .nx δ2 ρ2
      | .rt v ρ2 => .rt v ρ2
      | .rs c l δ2 ρ2 => .rs c l δ2 ρ2
      | .stuck => .stuck
    | none => .stuck
def sFor (fi : IF) (gt : GF) (fb : SF) : SF := fun δ ρ => (fi δ ρ).out δ fun ds ρ1 => sLoop gt fb ds δ ρ1
section
variable {X : Cx} {W : Wd} {w : WX} {tg iter : Expr} {body : List Stmt} {fi : IF} {gt : GF} {fb : SF} {pos : Pos}
theorem ds_for (hp : PassesOwn (model X.prog X.w) X.A X.env X.xe) (hc : X.calm = true) (hi : DI X W w fi tg iter) (hg : DG X W gt tg) (hb : DSs X W w fb body)
    (hs : ∀ x, foldedSetIterable iter X.env x = pure x := by intro _; rfl) : DS X W w (sFor fi gt fb) (.For tg iter body [] pos) := wkS (ps_for hp hc hi hg hb hs) fun D σ H ⟨Z, α, ρ, δ, fp, hk, loc, g0⟩ => by
  refine ⟨Z, α, ρ, δ, fp, hk, loc, (GoesS.of (R := fun Z' _ J ds => ItOk W Z' J ds) hk loc g0).mono fun J H1 ⟨Z1, α1, ρ1, fp1, ds, s1, p1, hk1, loc1, it, _, g1⟩ => ?_⟩
  refine ⟨fun i m σ H => ∃ Z α ρ δ fp, Same Z1 Z ∧ Hk W Z H α ρ fp ∧ Loc W Z α σ δ ∧ m = ds.length - i ∧ GoesS W w Z α fp H D (sLoop gt fb (ds.drop i) δ ρ), ⟨ds.length, Z1, α1, ρ1, δ, fp1, Same.refl _, hk1, loc1, by simp, g1⟩, ?_⟩
  rintro i m σ H ⟨Z, α, ρ, δ, fp, sz, hk, loc, em, g⟩
  obtain ⟨i1, i2⟩ := it Z H sz hk.le i
  cases hd : ds[i]? with
  | none =>
    refine .inl ⟨i2 hd, ?_⟩
    rw [List.drop_eq_nil_of_le (List.getElem?_eq_none_iff.mp hd)] at g
    exact g.next hk loc
  | some d =>
    obtain ⟨j1, j2⟩ := i1 d hd
    have hlt : i < ds.length := (List.getElem?_eq_some_iff.mp hd).1
    refine .inr ⟨j1, fun σ' H' => ∃ Z α ρ δ fp, Same Z1 Z ∧ Hk W Z H' α ρ fp ∧ Loc W Z α σ' δ ∧ GoesS W w Z α fp H' D (sLoop gt fb (ds.drop (i + 1)) δ ρ), ?_, fun x H' y => ?_⟩
    · rintro σ' H' ⟨Z', α', ρ', δ', fp', a1, a2, a3, a4⟩
      exact ⟨ds.length - (i + 1), by omega, Z', α', ρ', δ', fp', a1, a2, a3, rfl, a4⟩
    · obtain ⟨Z', ex, dx⟩ := j2 x H' y
      obtain ⟨st, hk'⟩ := ex.step hk
      have ed : ds.drop i = d :: ds.drop (i + 1) := by
        rw [List.drop_eq_getElem_cons hlt]
        congr 1
        exact (List.getElem?_eq_some_iff.mp hd).2
      rw [ed] at g
      simp only [sLoop] at g
      split at g
      · rename_i δ1 ρ2 et
        refine ⟨Z', α, ρ, δ, fp, .d d, hk', loc.mono st.z (List.prefix_refl _), .d dx, δ1, ρ2, et, fun Z2 α2 σ2 H2 fp2 s2 p2 hk2 loc2 => ⟨Z2, α2, ρ2, δ1, fp2, hk2, loc2, ?_⟩⟩
        have st2 := st.trans s2
        cases eb : fb δ1 ρ2 with
        | nx δ3 ρ3 =>
          rw [eb] at g
          exact fun Z3 α3 σ3 H3 fp3 s3 p3 hk3 loc3 => ⟨Z3, α3, ρ3, δ3, fp3, (sz.trans st2.z).trans s3.z, hk3, loc3, g.shift (st2.trans s3) (p2.trans p3)⟩
        | ct δ3 ρ3 =>
          rw [eb] at g
          exact fun Z3 α3 σ3 H3 fp3 s3 p3 hk3 loc3 => ⟨Z3, α3, ρ3, δ3, fp3, (sz.trans st2.z).trans s3.z, hk3, loc3, g.shift (st2.trans s3) (p2.trans p3)⟩
        | bk δ3 ρ3 =>
          rw [eb] at g
          exact fun Z3 α3 σ3 H3 fp3 s3 p3 hk3 loc3 => g Z3 α3 σ3 H3 fp3 (st2.trans s3) (p2.trans p3) hk3 loc3
        | rt v ρ3 =>
          rw [eb] at g
          exact g.shift st2 p2
        | rs c l δ3 ρ3 =>
          rw [eb] at g
          exact g.shift st2 p2
        | stuck => rw [eb] at g; exact g.elim
      · exact g.elim
/-! ### while, with fuel -/
def sWh (c : BF) (fb : SF) : Nat → SF
  | 0, _, _ => .stuck
  | n + 1, δ, ρ => (c δ ρ).out δ fun b ρ1 => if b then match fb δ ρ1 with
      | .nx δ2 ρ2 => sWh c fb n δ2 ρ2
      | .ct δ2 ρ2 => sWh c fb n δ2 ρ2
      | .bk δ2 ρ2 => .nx δ2 ρ2
      | .rt v ρ2 => .rt v ρ2
      | .rs c l δ2 ρ2 => .rs c l δ2 ρ2
      | .stuck => .stuck
    else .nx δ ρ1
theorem ds_while {c : Expr} {fc : BF} (n : Nat) (hp : PassesOwn (model X.prog X.w) X.A X.env X.xe) (hc : DT X W w fc c) (hb : DSs X W w fb body) : DS X W w (sWh fc fb n) (.While c body [] pos) := wkS (ps_while hp hc hb) fun D σ H ⟨Z, α, ρ, δ, fp, hk, loc, g0⟩ => by
  refine ⟨fun m σ H => ∃ Z α ρ δ fp, Hk W Z H α ρ fp ∧ Loc W Z α σ δ ∧ GoesS W w Z α fp H D (sWh fc fb m δ ρ), ⟨n, Z, α, ρ, δ, fp, hk, loc, g0⟩, ?_⟩
  rintro m σ H ⟨Z, α, ρ, δ, fp, hk, loc, g⟩
  cases m with
  | zero => exact g.elim
  | succ m =>
    refine ⟨Z, α, ρ, δ, fp, hk, loc, (GoesS.of (R := RB) hk loc g).mono fun b H1 ⟨Z1, α1, ρ1, fp1, b', s1, p1, hk1, loc1, rb, _, g1⟩ => ?_⟩
    cases rb
    cases b with
    | true =>
      refine iteT ⟨fun σ' H' => ∃ Z α ρ δ fp, Hk W Z H' α ρ fp ∧ Loc W Z α σ' δ ∧ GoesS W w Z α fp H' D (sWh fc fb m δ ρ), fun σ' H' h => ⟨m, Nat.lt_succ_self _, h⟩, Z1, α1, ρ1, δ, fp1, hk1, loc1, ?_⟩
      rw [if_pos rfl] at g1
      cases eb : fb δ ρ1 with
      | nx δ3 ρ3 =>
        rw [eb] at g1
        exact fun Z3 α3 σ3 H3 fp3 s3 p3 hk3 loc3 => ⟨Z3, α3, ρ3, δ3, fp3, hk3, loc3, g1.shift s3 p3⟩
      | ct δ3 ρ3 =>
        rw [eb] at g1
        exact fun Z3 α3 σ3 H3 fp3 s3 p3 hk3 loc3 => ⟨Z3, α3, ρ3, δ3, fp3, hk3, loc3, g1.shift s3 p3⟩
      | bk δ3 ρ3 => rw [eb] at g1; exact g1
      | rt v ρ3 => rw [eb] at g1; exact g1
      | rs c l δ3 ρ3 => rw [eb] at g1; exact g1
      | stuck => rw [eb] at g1; exact g1.elim
    | false =>
      rw [if_neg Bool.false_ne_true] at g1
      exact iteF (g1.next hk1 loc1)
end
end Px

namespace Px
open PySem PySem.Spec PyProof.Rows L2

/-! ### list comprehensions -/
def wipeD (δ : Sto) : List Nat → Sto
  | [] => δ
  | v :: vs => (wipeD δ vs).set v none
theorem Loc.set_none {W : Wd} {Z : Hp} {α : List V} {σ : Sg} {δ : Sto} (h : Loc W Z α σ δ) (i : Nat) : Loc W Z α (σ.set i none) (δ.set i none) := by
  refine ⟨by simp [h.len], fun j y e => ?_⟩
  by_cases hj : i = j
  · subst hj
    rw [List.getElem?_set_self'] at e
    cases q : δ[i]? <;> rw [q] at e <;> cases e
  · rw [List.getElem?_set_ne hj] at e ⊢
    exact h.get j y e
theorem Loc.wipe {W : Wd} {Z : Hp} {α : List V} {σ : Sg} {δ : Sto} (h : Loc W Z α σ δ) : ∀ vs : List Nat, Loc W Z α (L2.wipe σ vs) (wipeD δ vs)
  | [] => h
  | v :: vs => (Loc.wipe h vs).set_none v
/-- a comprehension's target -/
abbrev CF := D → Sto → Option Sto
def CGo (W : Wd) (g : TG) (gt : CF) (vs : List Nat) : Prop := ∀ (σ0 : Sg) (H Z : Hp) (α : List V) (δ δ1 : Sto) (v : V) (x : D) (Q : Sg → Hp → Prop),
  Same Z H → Loc W Z α (L2.wipe σ0 vs) δ → Dat W Z v x → gt x δ = some δ1 → (∀ σ2, Loc W Z α σ2 δ1 → L2.wipe σ2 vs = L2.wipe σ0 vs → Q σ2 H) → g v (L2.wipe σ0 vs) H Q
def cSet (i : Nat) : CF := fun x δ => some (δ.set i (some (.d x)))
theorem cg_name {W : Wd} (i : Nat) : CGo W (gName i) (cSet i) [i] := by
  intro σ0 H Z α δ δ1 v x Q s loc hv e k
  cases e
  refine k _ (loc.set (.d hv)) ?_
  simp [L2.wipe, List.set_set]
def cSet2 (i j : Nat) : CF := fun x δ => match x with
  | .tup [a, b] => some ((δ.set i (some (.d a))).set j (some (.d b)))
  | _ => none
theorem set_swap {β : Type} {l : List β} {i j : Nat} {a b : β} (h : i ≠ j) : (l.set i a).set j b = (l.set j b).set i a := List.set_comm _ _ h
theorem cg_two {W : Wd} (i j : Nat) (hij : i ≠ j) {n : Nat} (hn : n = 2) : CGo W (gTup W.K n (gCons (gName i) (gCons (gName j) gNil))) (cSet2 i j) [i, j] := by
  intro σ0 H Z α δ δ1 v x Q s loc hv e k
  subst hn
  unfold cSet2 at e
  split at e
  · rename_i a b
    cases e
    cases hv with
    | tup h1 h2 =>
      cases h2 with
      | cons ha t =>
        cases t with
        | cons hb t =>
          cases t
          refine ⟨_, _, rfl, Same.seqT s h1, rfl, _, _, rfl, _, _, rfl, rfl, k _ ((loc.set (.d ha)).set (.d hb)) ?_⟩
          simp only [L2.wipe, List.set_set]
          rw [set_swap (l := σ0.set j none) (b := none) hij]
          simp only [List.set_set]
  · cases e
def cLoop (gt : CF) (fc : BF) (fe : EF) (δ : Sto) : List D → Hs → List D → Ex (List D)
  | [], ρ, acc => .ok acc ρ
  | x :: xs, ρ, acc => match gt x δ with
    | some δ1 => match fc δ1 ρ with
      | .ok true ρ1 => match fe δ1 ρ1 with
        | .ok (.d y) ρ2 => cLoop gt fc fe δ xs ρ2 (acc ++ [y])
        | _ => .stuck
      | .ok false ρ1 => cLoop gt fc fe δ xs ρ1 acc
      | _ => .stuck
    | none => .stuck
def eComp (own : Bool) (fi : IF) (gt : CF) (vs : List Nat) (fc : BF) (fe : EF) : EF := fun δ ρ => (fi δ ρ).bind fun ds ρ1 => if ds.length ≤ SZ then
    (cLoop gt fc fe (wipeD δ vs) ds ρ1 []).bind fun l ρ2 => mkL own l ρ2
  else .stuck
abbrev W0 : WX := fun _ _ _ _ => False
def bYes : BF := fun _ ρ => .ok true ρ
def DTs (X : Cx) (W : Wd) (w : WX) (f : BF) (ifs : List Expr) : Prop := PTs X ifs (tBo W w f)
theorem wkTs {X : Cx} {e : List Expr} {t u : TT} (h : PTs X e t) (k : ∀ σ H Q, u σ H Q → t σ H Q) : PTs X e u := ⟨fun pins s σ H Q I q => h.run pins s σ H Q I (k σ H Q q)⟩
section
variable {X : Cx} {W : Wd} {w : WX} {tg iter elt : Expr} {ifs : List Expr} {fi : IF} {gt : CF} {fc : BF} {fe : EF} {pos : Pos} {g : TG}
theorem dts_nil : DTs X W w bYes [] := wkTs pts_nil fun σ H Q ⟨Z, α, ρ, δ, fp, hk, loc, g0⟩ => g0.done hk rfl
theorem dts_one {c : Expr} {f : BF} (h : DT X W w f c) : DTs X W w f [c] := pts_one h
/-- the loop of the comprehension keeps its list -/
theorem comp_go {σ : Sg} {H : Hp} {Q : VK} {vs : List Nat} {own : Bool} (cg : CGo W g gt vs) (h : tE W w (eComp own fi gt vs fc fe) σ H Q) : tLc (tIt W w fi) g (tBo W W0 fc) (tE W W0 fe) vs σ H Q := by
  obtain ⟨Z, α, ρ, δ, fp, hk, loc, g0⟩ := h
  refine ⟨Z, α, ρ, δ, fp, hk, loc, (Goes.bind (R := fun Z' _ J ds => ItOk W Z' J ds) g0).mono fun J H1 ⟨Z1, α1, ρ1, fp1, ds, s1, p1, hk1, it, _, g1⟩ D hD => ?_⟩
  split at g1
  case isFalse => exact g1.elim
  rename_i hz
  have loc1 := loc.mono s1.z p1
  obtain ⟨zD, nD⟩ := hk1.free hD
  let Nx : Nat → Hp → Prop := fun i H => ∃ Z α ρ fp accV acc, Step Z1 H1 fp1 Z H fp ∧ α1 <+: α ∧ Hk W Z H α ρ fp ∧ D ∉ fp ∧ Z D = none ∧ H D = some (.lst accV) ∧ DatL W Z accV acc ∧ acc.length ≤ i ∧
    Goes W w σ (Val W) Z1 α1 fp1 H1 ((cLoop gt fc fe (wipeD δ vs) (ds.drop i) ρ acc).bind fun l ρ2 => mkL own l ρ2) Q
  have neD : ∀ b, H1 b ≠ none → b ≠ D := fun b h z => h (by rw [z]; exact hD)
  -- the list is written
  have wr : ∀ {Z H : Hp} {α : List V} {ρ : Hs} {fp : List Addr} (l : List V), Step Z1 H1 fp1 Z H fp → Hk W Z H α ρ fp → D ∉ fp → Z D = none → Step Z1 H1 fp1 Z (upd H D (.lst l)) fp ∧ Hk W Z (upd H D (.lst l)) α ρ fp := by
    intro Z H α ρ fp l st hk n z
    refine ⟨⟨st.z, st.nz, fun b h hn => (upd_ne (neD b h)).trans (st.fr b h hn), fun b h => by rw [upd_ne (neD b h)]; exact st.st b h, st.fp⟩, ⟨fun b u e => ?_, hk.own.keep (Same.refl _) fun a ha => ⟨(hk.own.there a ha).1, upd_ne fun q => n (by rw [← q]; exact ha)⟩⟩⟩
    rw [upd_ne fun q => by rw [q, z] at e; cases e]
    exact hk.le b u e
  refine ⟨fun i m H => m = ds.length - i ∧ Nx i H, ⟨ds.length, by simp, ?_⟩, ?_⟩
  · obtain ⟨w1, w2⟩ := wr [] (Step.refl _ _ _) hk1 nD zD
    exact ⟨Z1, α1, ρ1, fp1, [], [], w1, List.prefix_refl _, w2, nD, zD, upd_same, .nil, Nat.zero_le _, g1⟩
  rintro i m H ⟨em, Z, α, ρ, fp, accV, acc, st, pf, hk, nd, zd, hd, dl, hl, gg⟩
  obtain ⟨i1, i2⟩ := it Z H st.z hk.le i
  cases hdi : ds[i]? with
  | none =>
    refine .inl ⟨i2 hdi, ?_⟩
    rw [List.drop_eq_nil_of_le (List.getElem?_eq_none_iff.mp hdi)] at gg
    simp only [cLoop, Ex.bind] at gg
    cases own with
    | true =>
      obtain ⟨fq, h7, h8⟩ := hk.own.snoc (v := .ref D) (o := .lst (acc.map O.d)) (fo := [D]) (.lst zd hd dl.ownL (by simp)) fun a ha q => nd (by
        have q' : a = D := by simpa using q
        rw [← q']; exact ha)
      refine gg Z (α ++ [.ref D]) H fq (.ref D) ⟨st.z, st.nz, st.fr, st.st, fun b hb => (h8 b hb).elim (st.fp b) fun q => .inr (by
        have q' : b = D := by simpa using q
        rw [q']; exact hD)⟩ (pf.trans (List.prefix_append _ _)) ⟨hk.le, h7⟩ (.own (r := ρ.length) ?_)
      rw [hk.own.length.symm, List.getElem?_append_right (Nat.le_refl _), Nat.sub_self]
      rfl
    | false =>
      have sz : Same Z (upd Z D (.lst accV)) := fun b u e => by
        rw [upd_ne fun q => by rw [q, zd] at e; cases e]
        exact e
      refine gg (upd Z D (.lst accV)) α H fp (.ref D) ⟨st.z.trans sz, fun b hb => ?_, st.fr, st.st, st.fp⟩ pf ⟨fun b u e => ?_, hk.own.keep sz fun a ha => ⟨?_, rfl⟩⟩ (.d (.lst upd_same (dl.mono sz)))
      · by_cases hbD : b = D
        · exact .inr (.inl (by rw [hbD]; exact hD))
        · rw [upd_ne hbD] at hb; exact st.nz b hb
      · by_cases hbD : b = D
        · subst hbD; rw [upd_same] at e; cases e; exact hd
        · rw [upd_ne hbD] at e; exact hk.le b u e
      · rw [upd_ne fun q => nd (by rw [← q]; exact ha)]; exact (hk.own.there a ha).1
  | some d =>
    obtain ⟨j1, j2⟩ := i1 d hdi
    have hlt : i < ds.length := (List.getElem?_eq_some_iff.mp hdi).1
    refine .inr ⟨j1, Nx (i + 1), fun H' hn => ⟨ds.length - (i + 1), by omega, rfl, hn⟩, fun x H' y => ?_⟩
    obtain ⟨Z', ex, dx⟩ := j2 x H' y
    obtain ⟨st', hk'⟩ := ex.step hk
    have stA := st.trans st'
    have hnD : H D ≠ none := by rw [hd]; exact fun z => nomatch z
    have hd' : H' D = some (.lst accV) := (ex.h D hnD).trans hd
    have zd' : Z' D = none := Classical.byContradiction fun n => (ex.nz D n).elim (fun z => z zd) hnD
    have ed : ds.drop i = d :: ds.drop (i + 1) := by
      rw [List.drop_eq_getElem_cons hlt]
      congr 1
      exact (List.getElem?_eq_some_iff.mp hdi).2
    rw [ed] at gg
    simp only [cLoop] at gg
    split at gg
    case h_2 => exact gg.elim
    rename_i δ1 et
    refine cg σ H' Z' α (wipeD δ vs) δ1 x d _ ex.le (((loc1.mono stA.z pf)).wipe vs) dx et fun σ2 loc2 ew => ⟨ew, Z', α, ρ, δ1, fp, hk', loc2, ?_⟩
    -- what a step keeps of the list
    have kp : ∀ {Z3 H3 : Hp} {fp3 : List Addr}, Step Z' H' fp Z3 H3 fp3 → D ∉ fp3 ∧ Z3 D = none ∧ H3 D = some (.lst accV) := by
      intro Z3 H3 fp3 s
      have hnD' : H' D ≠ none := by rw [hd']; exact fun z => nomatch z
      exact ⟨fun z => (s.fp D z).elim nd hnD', Classical.byContradiction fun n => (s.nz D n).elim (fun z => z zd') fun q => q.elim hnD' nd, (s.fr D hnD' nd).trans hd'⟩
    cases ef : fc δ1 ρ with
    | stuck => rw [ef] at gg; exact gg.elim
    | rs c l ρ2 => rw [ef] at gg; exact gg.elim
    | ok b ρ2 =>
      rw [ef] at gg
      intro Z3 α3 H3 fp3 b' s3 p3 hk3 rb
      cases rb
      obtain ⟨k1, k2, k3⟩ := kp s3
      cases b with
      | false =>
        exact iteF ⟨Z3, α3, ρ2, fp3, accV, acc, stA.trans s3, pf.trans p3, hk3, k1, k2, k3, (dl.mono st'.z).mono s3.z, Nat.le_succ_of_le hl, gg⟩
      | true =>
        refine iteT ⟨Z3, α3, ρ2, δ1, fp3, hk3, loc2.mono s3.z p3, ?_⟩
        cases ee : fe δ1 ρ2 with
        | stuck => simp only [ee] at gg; exact gg.elim
        | rs c l ρ4 => simp only [ee] at gg; exact gg.elim
        | ok sv ρ4 =>
          simp only [ee] at gg
          intro Z4 α4 H4 fp4 yv s4 p4 hk4 ry
          cases sv with
          | own r => exact gg.elim
          | pin => exact gg.elim
          | d yd =>
            obtain ⟨m1, m2, m3⟩ := kp (s3.trans s4)
            obtain ⟨w1, w2⟩ := wr (accV ++ [yv]) ((stA.trans s3).trans s4) hk4 m1 m2
            have ly : Dat W Z4 yv yd := by
              cases ry with
              | d h => exact h
            refine ⟨accV, m3, ?_, Z4, α4, ρ4, fp4, accV ++ [yv], acc ++ [yd], w1, (pf.trans p3).trans p4, w2, m1, m2, upd_same, (((dl.mono st'.z).mono s3.z).mono s4.z).append (.cons ly .nil), ?_, gg⟩
            · rw [dl.length]
              have := sz_line hz
              rw [sizeLine_eq] at this ⊢
              unfold SZ at hz
              omega
            · rw [List.length_append]
              exact Nat.succ_le_succ hl
theorem de_comp {scope : Scope} {own : List (Str × Nat)} (ow : Bool) (hc : X.calm = true) (hN : X.N.Nodup) (hi : DI X W w fi tg iter) (ok : BlkOk X.N X.env.scope scope own) (cg : CGo W g gt (own.map (·.2)))
    (hg : ∀ (s : Shared) (H : Hp) (C : Addr) (cl : List (Str × Addr)) (fp : List Addr), PG (X.blk s H scope (compEnvC scope cl C X.env) fp) tg g)
    (ht : ∀ (s : Shared) (H : Hp) (C : Addr) (cl : List (Str × Addr)) (fp : List Addr), DTs (X.blk s H scope (compEnvC scope cl C X.env) fp) W W0 fc ifs)
    (he : ∀ (s : Shared) (H : Hp) (C : Addr) (cl : List (Str × Addr)) (fp : List Addr), DE (X.blk s H scope (compEnvC scope cl C X.env) fp) W W0 fe elt) (hs : ∀ x, foldedSetIterable iter X.env x = pure x := by intro _; rfl) :
    DE X W w (eComp ow fi gt (own.map (·.2)) fc fe) (.ListComp elt [⟨tg, iter, ifs, 0⟩] scope pos) :=
  wkE (pe_lc hc hN hi ok hg ht he hs) fun σ H Q q => comp_go cg q
end
end Px

namespace Px
open PySem PySem.Spec PyProof.Rows L2

/-! ### operators -/
section
variable {X : Cx} {W : Wd} {w : WX} {a b : Expr} {fa fb fc : EF} {pos : Pos} {own : Bool}
/-- // by anything but 0 -/
def CDivA (_ j : Int) : Prop := j ≠ 0 ∧ j.natAbs.log2 < 9000
theorem op_fdivA : OpR X (binaryOp .FloorDiv) (rI CDivA fun i j => .int (i.fdiv j)) := opI fun i j _ _ _ _ _ hc q => floordiv_int hc.1 q (.inl (PyProof.noPylong_of_log2 hc.2))
theorem Dat.int' {Z : Hp} {v : V} {i : Int} (h : Dat W Z v (.int i)) : v = .int i := by cases h; rfl
theorem Dat.bl' {Z : Hp} {v : V} {i : Bool} (h : Dat W Z v (.bl i)) : v = .bl i := by cases h; rfl
theorem Dat.str' {Z : Hp} {v : V} {i : Str} (h : Dat W Z v (.str i)) : v = .str i := by cases h; rfl
/-- two ints -/
def iOp (f : Int → Int → Option D) : D → D → Option D := fun p q => match p, q with
  | .int i, .int j => f i j
  | _, _ => none
theorem sv_iOp {r : R2} {f : Int → Int → Option D} (h : ∀ (H : Hp) (i j : Int) (d : D) (Q : VK), f i j = some d → (∀ z, (∀ Z, Dat W Z z d) → Q z H) → r (.int i) (.int j) H Q) : Serves2 W r (iOp f) := by
  intro H v u p q d Q hp hq e k
  unfold iOp at e
  split at e
  · rw [hp.int', hq.int']
    exact h H _ _ d Q e k
  · cases e
def fSub (i j : Int) : Option D := some (.int (i - j))
def fMul (i j : Int) : Option D := if i.natAbs.log2 + j.natAbs.log2 < 1000000 then some (.int (i * j)) else none
def fDiv (i j : Int) : Option D := if j ≠ 0 ∧ j.natAbs.log2 < 9000 then some (.int (i.fdiv j)) else none
def fMod (i j : Int) : Option D := if j ≠ 0 then some (.int (i.fmod j)) else none
def fPow (i j : Int) : Option D := if 0 ≤ j ∧ j ≤ 1000000 ∧ i.natAbs < 2 ^ 64 then some (.int (i ^ j.toNat)) else none
def fShl (i j : Int) : Option D := if 0 ≤ j ∧ j ≤ 1000000 ∧ i.natAbs < 2 ^ 64 then some (.int (i * 2 ^ j.toNat)) else none
theorem sv_sub : Serves2 W (rI0 fun i j => .int (i - j)) (iOp fSub) := sv_iOp fun H i j d Q e k => by cases e; exact ⟨i, j, rfl, rfl, k _ fun _ => .int _⟩
theorem sv_add0 : Serves2 W (rI0 fun i j => .int (i + j)) (iOp fun i j => some (.int (i + j))) := sv_iOp fun H i j d Q e k => by cases e; exact ⟨i, j, rfl, rfl, k _ fun _ => .int _⟩
theorem sv_mul0 : Serves2 W (rI CMulW fun i j => .int (i * j)) (iOp fMul) := sv_iOp fun H i j d Q e k => by
  unfold fMul at e
  split at e
  · rename_i h
    cases e
    exact ⟨i, j, rfl, rfl, h, k _ fun _ => .int _⟩
  · cases e
theorem sv_div : Serves2 W (rI CDivA fun i j => .int (i.fdiv j)) (iOp fDiv) := sv_iOp fun H i j d Q e k => by
  unfold fDiv at e
  split at e
  · rename_i h
    cases e
    exact ⟨i, j, rfl, rfl, h, k _ fun _ => .int _⟩
  · cases e
theorem sv_mod : Serves2 W (rI (fun _ j => j ≠ 0) fun i j => .int (i.fmod j)) (iOp fMod) := sv_iOp fun H i j d Q e k => by
  unfold fMod at e
  split at e
  · rename_i h
    cases e
    exact ⟨i, j, rfl, rfl, h, k _ fun _ => .int _⟩
  · cases e
theorem sv_pow : Serves2 W (rI CPow fun i j => .int (i ^ j.toNat)) (iOp fPow) := sv_iOp fun H i j d Q e k => by
  unfold fPow at e
  split at e
  · rename_i h
    cases e
    exact ⟨i, j, rfl, rfl, h, k _ fun _ => .int _⟩
  · cases e
theorem sv_shl : Serves2 W (rI CPow fun i j => .int (i * 2 ^ j.toNat)) (iOp fShl) := sv_iOp fun H i j d Q e k => by
  unfold fShl at e
  split at e
  · rename_i h
    cases e
    exact ⟨i, j, rfl, rfl, h, k _ fun _ => .int _⟩
  · cases e
def fLt (i j : Int) : Option D := some (.bl (decide (i < j)))
def fLe (i j : Int) : Option D := some (.bl (decide (i ≤ j)))
def fGt (i j : Int) : Option D := some (.bl (decide (j < i)))
def fGe (i j : Int) : Option D := some (.bl (decide (j ≤ i)))
theorem sv_lt : Serves2 W (rI0 fun i j => .bl (decide (i < j))) (iOp fLt) := sv_iOp fun H i j d Q e k => by cases e; exact ⟨i, j, rfl, rfl, k _ fun _ => .bl _⟩
theorem sv_le : Serves2 W (rI0 fun i j => .bl (decide (i ≤ j))) (iOp fLe) := sv_iOp fun H i j d Q e k => by cases e; exact ⟨i, j, rfl, rfl, k _ fun _ => .bl _⟩
theorem sv_gt : Serves2 W (rI0 fun i j => .bl (decide (j < i))) (iOp fGt) := sv_iOp fun H i j d Q e k => by cases e; exact ⟨i, j, rfl, rfl, k _ fun _ => .bl _⟩
theorem sv_ge : Serves2 W (rI0 fun i j => .bl (decide (j ≤ i))) (iOp fGe) := sv_iOp fun H i j d Q e k => by cases e; exact ⟨i, j, rfl, rfl, k _ fun _ => .bl _⟩
theorem de_sub (ha : DE X W w fa a) (hb : DE X W w fb b) : DE X W w (e2 (iOp fSub) fa fb) (.BinOp a .Sub b pos) := de_two sv_sub (fun h k => pe_op op_sub h k) ha hb
theorem de_div (ha : DE X W w fa a) (hb : DE X W w fb b) : DE X W w (e2 (iOp fDiv) fa fb) (.BinOp a .FloorDiv b pos) := de_two sv_div (fun h k => pe_op op_fdivA h k) ha hb
theorem de_mod (ha : DE X W w fa a) (hb : DE X W w fb b) : DE X W w (e2 (iOp fMod) fa fb) (.BinOp a .Mod b pos) := de_two sv_mod (fun h k => pe_op op_modN h k) ha hb
theorem de_pow (ha : DE X W w fa a) (hb : DE X W w fb b) : DE X W w (e2 (iOp fPow) fa fb) (.BinOp a .Pow b pos) := de_two sv_pow (fun h k => pe_op op_pow h k) ha hb
theorem de_shl (ha : DE X W w fa a) (hb : DE X W w fb b) : DE X W w (e2 (iOp fShl) fa fb) (.BinOp a .LShift b pos) := de_two sv_shl (fun h k => pe_op op_shl h k) ha hb
theorem de_imul (ha : DE X W w fa a) (hb : DE X W w fb b) : DE X W w (e2 (iOp fMul) fa fb) (.BinOp a .Mult b pos) := de_two sv_mul0 (fun h k => pe_op op_mulW h k) ha hb
theorem de_iadd (ha : DE X W w fa a) (hb : DE X W w fb b) : DE X W w (e2 (iOp fun i j => some (.int (i + j))) fa fb) (.BinOp a .Add b pos) := de_two sv_add0 (fun h k => pe_op op_add h k) ha hb
theorem de_lt (ha : DE X W w fa a) (hb : DE X W w fb b) : DE X W w (e2 (iOp fLt) fa fb) (.Compare a [.Lt] [b] pos) := de_two sv_lt (fun h k => pe_cmpR op_lt h k (nomark _)) ha hb
theorem de_le (ha : DE X W w fa a) (hb : DE X W w fb b) : DE X W w (e2 (iOp fLe) fa fb) (.Compare a [.LtE] [b] pos) := de_two sv_le (fun h k => pe_cmpR op_le h k (nomark _)) ha hb
theorem de_gt (ha : DE X W w fa a) (hb : DE X W w fb b) : DE X W w (e2 (iOp fGt) fa fb) (.Compare a [.Gt] [b] pos) := de_two sv_gt (fun h k => pe_cmpR op_gt h k (nomark _)) ha hb
theorem de_ge (ha : DE X W w fa a) (hb : DE X W w fb b) : DE X W w (e2 (iOp fGe) fa fb) (.Compare a [.GtE] [b] pos) := de_two sv_ge (fun h k => pe_cmpR op_ge h k (nomark _)) ha hb
def fNeg : D → Option D
  | .int i => some (.int (-i))
  | _ => none
theorem de_neg (ha : DE X W w fa a) : DE X W w (e1 fNeg fa) (.UnaryOp .USub a pos) := de_one (r := rU fun i => .int (-i)) (fun H v p d Q hp e k => by
  unfold fNeg at e
  split at e
  · cases e; rw [hp.int']; exact ⟨_, rfl, k _ fun _ => .int _⟩
  · cases e) (fun h => pe_un un_neg h) ha
/-- a chain of two comparisons of ints -/
def eChain (f g : Int → Int → Bool) (fa fb fc : EF) : EF := fun δ ρ => (fa δ ρ).bind fun x ρ1 => (fb δ ρ1).bind fun y ρ2 => match x, y with
  | .d (.int i), .d (.int j) => if f i j then (fc δ ρ2).bind fun z ρ3 => match z with
      | .d (.int k) => .ok (.d (.bl (g j k))) ρ3
      | _ => .stuck
    else .ok (.d (.bl false)) ρ2
  | _, _ => .stuck
theorem de_chain {op op' : CmpOp} {f g : Int → Int → Bool} {c : Expr} (h : ∀ {ta tb tc : TE}, PE X a ta → PE X b tb → PE X c tc → PE X (.Compare a [op, op'] [b, c] pos) (tChain (rI0 fun i j => .bl (f i j)) (rI0 fun i j => .bl (g i j)) ta tb tc))
    (ha : DE X W w fa a) (hb : DE X W w fb b) (hc : DE X W w fc c) : DE X W w (eChain f g fa fb fc) (.Compare a [op, op'] [b, c] pos) := wkE (h ha hb hc) fun σ H Q ⟨Z, α, ρ, δ, fp, hk, loc, g0⟩ => by
  refine ⟨Z, α, ρ, δ, fp, hk, loc, (Goes.bind (R := Val W) g0).mono fun v H1 ⟨Z1, α1, ρ1, fp1, x, s1, p1, hk1, rv, _, g1⟩ => ?_⟩
  refine ⟨Z1, α1, ρ1, δ, fp1, hk1, loc.mono s1.z p1, (Goes.bind (R := Val W) g1).mono fun u H2 ⟨Z2, α2, ρ2, fp2, y, s2, p2, hk2, ru, _, g2⟩ => ?_⟩
  split at g2
  · cases rv.int; cases ru.int
    refine ⟨_, _, rfl, rfl, _, rfl, ?_⟩
    split at g2
    · rename_i hf
      rw [if_pos hf]
      refine ⟨Z2, α2, ρ2, δ, fp2, hk2, (loc.mono s1.z p1).mono s2.z p2, (Goes.bind (R := Val W) g2).mono fun t H3 ⟨Z3, α3, ρ3, fp3, z, s3, p3, hk3, rt, _, g3⟩ => ?_⟩
      split at g3
      · cases rt.int
        exact ⟨_, _, rfl, rfl, g3.done hk3 (.d (.bl _))⟩
      · exact g3.elim
    · rename_i hf
      rw [if_neg hf]
      exact g2.done hk2 (.d (.bl _))
  · exact g2.elim
/-! == of data -/
mutual
def D.toP : D → Option PyData
  | .non => some .none
  | .bl b => some (.bool b)
  | .int i => some (.int i)
  | .str x => some (.str x)
  | .tup l => (D.toPs l).map .tuple
  | .lst l => (D.toPs l).map .list
  | .scr l => (D.toPs l).map .list
  | .ins _ _ => none
def D.toPs : List D → Option (List PyData)
  | [] => some []
  | d :: ds => match D.toP d, D.toPs ds with
    | some p, some ps => some (p :: ps)
    | _, _ => none
end
mutual
theorem Dat.dp {H : Hp} : ∀ {v : V} {d : D} {p : PyData}, Dat W H v d → d.toP = some p → Dp W.K H v p
  | _, _, _, .non, e => by cases e; exact .non
  | _, _, _, .bl b, e => by cases e; exact .bl b
  | _, _, _, .int b, e => by cases e; exact .int b
  | _, _, _, .str b, e => by cases e; exact .str b
  | _, _, _, .tup h l, e => by
    simp only [D.toP, Option.map_eq_some_iff] at e
    obtain ⟨ps, e, rfl⟩ := e
    exact .tup h (DatL.dp l e)
  | _, _, _, .lst h l, e => by
    simp only [D.toP, Option.map_eq_some_iff] at e
    obtain ⟨ps, e, rfl⟩ := e
    exact .lst (.inl (.inl h)) (DatL.dp l e)
  | _, _, _, .scr h l, e => by
    simp only [D.toP, Option.map_eq_some_iff] at e
    obtain ⟨ps, e, rfl⟩ := e
    exact .lst h (DatL.dp l e)
  | _, _, _, .ins _ _ _, e => by simp [D.toP] at e
theorem DatL.dp {H : Hp} : ∀ {vs : List V} {ds : List D} {ps : List PyData}, DatL W H vs ds → D.toPs ds = some ps → DpAll W.K H vs ps
  | _, _, _, .nil, e => by
    simp only [D.toPs, Option.some.injEq] at e
    subst e
    exact .nil
  | _, _, _, .cons h t, e => by
    simp only [D.toPs] at e
    split at e
    · rename_i p ps e1 e2
      cases e
      exact .cons (Dat.dp h e1) (DatL.dp t e2)
    · cases e
end
def shEq (p q : D) (f : Bool → Bool) : Option D := match p.toP, q.toP with
  | some a, some b => if SeqAt.shaped a && SeqAt.shaped b then some (.bl (f (PyData.eqv a b))) else none
  | _, _ => none
def fEq (p q : D) : Option D := match p, q with
  | .int i, .int j => some (.bl (decide (i = j)))
  | .str i, .str j => some (.bl (decide (i = j)))
  | .bl i, .bl j => some (.bl (decide (i = j)))
  | p, q => shEq p q id
def fNe (p q : D) : Option D := match p, q with
  | .int i, .int j => some (.bl (!decide (i = j)))
  | .str i, .str j => some (.bl (!decide (i = j)))
  | .bl i, .bl j => some (.bl (!decide (i = j)))
  | p, q => shEq p q not
theorem decI (i j : Int) : decide (V.int i = V.int j) = decide (i = j) := by simp
theorem decS (i j : Str) : decide (V.str i = V.str j) = decide (i = j) := by simp
theorem decB (i j : Bool) : decide (V.bl i = V.bl j) = decide (i = j) := by simp
theorem shEq_of {H : Hp} {v u : V} {p q d : D} {f : Bool → Bool} (hK : W.K = X.K) (hp : Dat W H v p) (hq : Dat W H u q) (e : shEq p q f = some d) :
    ∃ a b, Dp X.K H v a ∧ Dp X.K H u b ∧ SeqAt.shaped a = true ∧ SeqAt.shaped b = true ∧ d = .bl (f (PyData.eqv a b)) := by
  unfold shEq at e
  split at e
  · rename_i a b e1 e2
    split at e
    · rename_i hs
      rw [Bool.and_eq_true] at hs
      cases e
      exact ⟨a, b, hK ▸ hp.dp e1, hK ▸ hq.dp e2, hs.1, hs.2, rfl⟩
    · cases e
  · cases e
theorem sv_eq (hK : W.K = X.K) : Serves2 W (fun x y H Q => rEq x y H Q ∨ rEqD X.K x y H Q) fEq := by
  intro H v u p q d Q hp hq e k
  unfold fEq at e
  split at e
  · cases e
    rw [hp.int', hq.int']
    exact .inl ⟨rfl, by rw [decI]; exact k _ fun _ => .bl _⟩
  · cases e
    rw [hp.str', hq.str']
    exact .inl ⟨rfl, by rw [decS]; exact k _ fun _ => .bl _⟩
  · cases e
    rw [hp.bl', hq.bl']
    exact .inl ⟨rfl, by rw [decB]; exact k _ fun _ => .bl _⟩
  · obtain ⟨a, b, h1, h2, h3, h4, rfl⟩ := shEq_of hK hp hq e
    exact .inr ⟨a, b, h1, h2, h3, h4, k _ fun _ => .bl _⟩
theorem sv_ne (hK : W.K = X.K) : Serves2 W (fun x y H Q => rNe x y H Q ∨ rNeD X.K x y H Q) fNe := by
  intro H v u p q d Q hp hq e k
  unfold fNe at e
  split at e
  · cases e
    rw [hp.int', hq.int']
    exact .inl ⟨rfl, by rw [decI]; exact k _ fun _ => .bl _⟩
  · cases e
    rw [hp.str', hq.str']
    exact .inl ⟨rfl, by rw [decS]; exact k _ fun _ => .bl _⟩
  · cases e
    rw [hp.bl', hq.bl']
    exact .inl ⟨rfl, by rw [decB]; exact k _ fun _ => .bl _⟩
  · obtain ⟨a, b, h1, h2, h3, h4, rfl⟩ := shEq_of hK hp hq e
    exact .inr ⟨a, b, h1, h2, h3, h4, k _ fun _ => .bl _⟩
theorem de_eq (hu : HereU X) (hK : W.K = X.K) (ha : DE X W w fa a) (hb : DE X W w fb b) : DE X W w (e2 fEq fa fb) (.Compare a [.Eq] [b] pos) := de_two (sv_eq hK) (fun h k => pe_cmpR (op_eq.or (op_eqD hu.un)) h k (nomark _)) ha hb
theorem de_ne (hu : HereU X) (hK : W.K = X.K) (ha : DE X W w fa a) (hb : DE X W w fb b) : DE X W w (e2 fNe fa fb) (.Compare a [.NotEq] [b] pos) := de_two (sv_ne hK) (fun h k => pe_cmpR (op_ne.or (op_neD hu.un)) h k (nomark _)) ha hb
/-! is None -/
def eIsN (fa : EF) : EF := fun δ ρ => (fa δ ρ).bind fun x ρ1 => match x with
  | .d .non => .ok (.d (.bl true)) ρ1
  | _ => .ok (.d (.bl false)) ρ1
theorem Val.ref {Z : Hp} {H : Hp} {α : List V} {ρ : Hs} {fp : List Addr} {v : V} {r : Nat} (hk : Hk W Z H α ρ fp) (h : Val W Z α v (.own r)) (hr : ∃ o, ρ[r]? = some o ∧ o ≠ .x ∧ ∀ y, o ≠ .d y) : ∃ a, v = .ref a := by
  obtain ⟨o, e, n1, n2⟩ := hr
  cases h with
  | own h =>
    obtain ⟨v', fo, h1, h2, _⟩ := hk.own.get e
    rw [h] at h1; cases h1
    cases h2 with
    | x => exact absurd rfl n1
    | d _ => exact absurd rfl (n2 _)
    | lst _ _ _ _ => exact ⟨_, rfl⟩
    | ins _ _ _ _ _ => exact ⟨_, rfl⟩
def D.isN : D → Bool
  | .non => true
  | _ => false
def fIsN (p q : D) : Option D := if q.isN then some (.bl p.isN) else none
def fNotN (p q : D) : Option D := if q.isN then some (.bl (!p.isN)) else none
theorem Dat.isN {Z : Hp} {v : V} {d : D} (h : Dat W Z v d) : decide (v = .non) = d.isN := by
  cases h <;> first | rfl | (apply decide_eq_false; intro z; cases z)
theorem sv_isN : Serves2 W (fun x y H Q => y = .non ∧ Q (.bl (decide (x = .non))) H) fIsN := by
  intro H v u p q d Q hp hq e k
  unfold fIsN at e
  split at e
  · rename_i hn
    cases e
    have e2 : u = .non := of_decide_eq_true (hq.isN.trans hn)
    exact ⟨e2, by rw [hp.isN]; exact k (.bl p.isN) fun _ => .bl _⟩
  · cases e
theorem sv_notN : Serves2 W (fun x y H Q => y = .non ∧ Q (.bl (!decide (x = .non))) H) fNotN := by
  intro H v u p q d Q hp hq e k
  unfold fNotN at e
  split at e
  · rename_i hn
    cases e
    have e2 : u = .non := of_decide_eq_true (hq.isN.trans hn)
    exact ⟨e2, by rw [hp.isN]; exact k (.bl (!p.isN)) fun _ => .bl _⟩
  · cases e
theorem de_isN (ha : DE X W w fa a) (hb : DE X W w fb b) : DE X W w (e2 fIsN fa fb) (.Compare a [.Is] [b] pos) := de_two sv_isN (fun h k => pe_cmpR op_isN h k (nomark _)) ha hb
theorem de_notN (ha : DE X W w fa a) (hb : DE X W w fb b) : DE X W w (e2 fNotN fa fb) (.Compare a [.IsNot] [b] pos) := de_two sv_notN (fun h k => pe_cmpR op_notN h k (nomark _)) ha hb
/-! in a list or a tuple of ints -/
def D.ints : List D → Option (List Int)
  | [] => some []
  | .int i :: r => (D.ints r).map (i :: ·)
  | _ => none
theorem DatL.ints {Z : Hp} : ∀ {vs : List V} {ds : List D} {ns : List Int}, DatL W Z vs ds → D.ints ds = some ns → vs = ns.map V.int
  | _, _, _, .nil, e => by
    simp only [D.ints, Option.some.injEq] at e
    subst e
    rfl
  | _, .int i :: ds, _, .cons h t, e => by
    simp only [D.ints, Option.map_eq_some_iff] at e
    obtain ⟨l, e, rfl⟩ := e
    rw [List.map_cons, h.int', DatL.ints t e]
  | _, .non :: ds, _, .cons h t, e => by simp [D.ints] at e
  | _, .bl _ :: ds, _, .cons h t, e => by simp [D.ints] at e
  | _, .str _ :: ds, _, .cons h t, e => by simp [D.ints] at e
  | _, .tup _ :: ds, _, .cons h t, e => by simp [D.ints] at e
  | _, .lst _ :: ds, _, .cons h t, e => by simp [D.ints] at e
  | _, .scr _ :: ds, _, .cons h t, e => by simp [D.ints] at e
  | _, .ins _ _ :: ds, _, .cons h t, e => by simp [D.ints] at e
theorem flat_ints (ns : List Int) : (ns.map V.int).all flatV = true := by
  induction ns with
  | nil => rfl
  | cons n ns ih => rw [List.map_cons, List.all_cons, ih]; rfl
theorem inV_ints (i : Int) (ns : List Int) : inV (.int i) (ns.map V.int) = ns.contains i := by
  induction ns with
  | nil => rfl
  | cons n ns ih =>
    have e : inV (.int i) ((n :: ns).map V.int) = (eqV (.int n) (.int i) || inV (.int i) (ns.map V.int)) := rfl
    rw [e, ih, List.contains_cons]
    congr 1
    show (n == i) = (i == n)
    by_cases h : n = i
    · rw [h]
    · rw [beq_eq_false_iff_ne.mpr h, beq_eq_false_iff_ne.mpr fun z => h z.symm]
def D.seq : D → Option (List D)
  | .lst l => some l
  | .scr l => some l
  | .tup l => some l
  | _ => none
def fIn (neg : Bool) (p q : D) : Option D := match p, (q.seq).bind D.ints with
  | .int i, some ns => some (.bl (if neg then !ns.contains i else ns.contains i))
  | _, _ => none
theorem Dat.seq {Z : Hp} {v : V} {d : D} {l : List D} (h : Dat W Z v d) (e : d.seq = some l) : ∃ a vs, v = .ref a ∧ (SqL W.K Z a vs ∨ SqT W.K Z a vs) ∧ DatL W Z vs l := by
  cases h with
  | tup h1 h2 => cases e; exact ⟨_, _, rfl, .inr h1, h2⟩
  | lst h1 h2 => cases e; exact ⟨_, _, rfl, .inl (.inl (.inl h1)), h2⟩
  | scr h1 h2 => cases e; exact ⟨_, _, rfl, .inl h1, h2⟩
  | _ => cases e
theorem sv_in (hK : W.K = X.K) (neg : Bool) : Serves2 W (rIn X.K neg) (fIn neg) := by
  intro H v u p q d Q hp hq e k
  unfold fIn at e
  split at e
  · rename_i i ns h2
    cases e
    obtain ⟨l, e1, e2⟩ := Option.bind_eq_some_iff.mp h2
    obtain ⟨a, vs, rfl, h3, h4⟩ := hq.seq e1
    have ev := h4.ints e2
    subst ev
    rw [hp.int']
    refine ⟨a, _, rfl, hK ▸ h3, rfl, flat_ints ns, ?_⟩
    rw [inV_ints]
    exact k _ fun _ => .bl _
  · cases e
theorem de_in (hK : W.K = X.K) (ha : DE X W w fa a) (hb : DE X W w fb b) (hm : behindInMarks .In b = false) : DE X W w (e2 (fIn false) fa fb) (.Compare a [.In] [b] pos) := de_two (sv_in hK false) (fun h k => pe_cmpR op_in_seq h k hm) ha hb
theorem de_notin (hK : W.K = X.K) (ha : DE X W w fa a) (hb : DE X W w fb b) (hm : behindInMarks .NotIn b = false) : DE X W w (e2 (fIn true) fa fb) (.Compare a [.NotIn] [b] pos) := de_two (sv_in hK true) (fun h k => pe_cmpR op_notIn_seq h k hm) ha hb
/-! + and * of ints or lists -/
def exL (ρ : Hs) : SV → Option (List D)
  | .d (.lst l) => some l
  | .own r => match ρ[r]? with
    | some (.lst os) => O.flat os
    | _ => none
  | _ => none
theorem Val.exL {Z H : Hp} {α : List V} {ρ : Hs} {fp : List Addr} {v : V} {x : SV} {l : List D} (hk : Hk W Z H α ρ fp) (r : Val W Z α v x) (e : exL ρ x = some l) : ∃ a vs, v = .ref a ∧ H a = some (.lst vs) ∧ DatL W Z vs l := by
  cases r with
  | d h =>
    cases h with
    | lst h1 h2 =>
      simp only [Px.exL, Option.some.injEq] at e
      subst e
      exact ⟨_, _, rfl, hk.le _ _ h1, h2⟩
    | _ => cases e
  | pin h => cases e
  | @own r h =>
    simp only [Px.exL] at e
    split at e
    · rename_i os q
      obtain ⟨v', fo, h1, h2, _⟩ := hk.own.get q
      rw [h] at h1; cases h1
      cases h2 with
      | lst h3 h4 h5 h6 => exact ⟨_, _, rfl, h4, h5.flat e⟩
    · cases e
def eAdd (own : Bool) (fa fb : EF) : EF := fun δ ρ => (fa δ ρ).bind fun x ρ1 => (fb δ ρ1).bind fun y ρ2 => match x, y with
  | .d (.int i), .d (.int j) => .ok (.d (.int (i + j))) ρ2
  | x, y => match exL ρ2 x, exL ρ2 y with
    | some l, some m => if l.length + m.length ≤ SZ then mkL own (l ++ m) ρ2 else .stuck
    | _, _ => .stuck
theorem de_add (own : Bool) (ha : DE X W w fa a) (hb : DE X W w fb b) : DE X W w (eAdd own fa fb) (.BinOp a .Add b pos) := wkE (pe_op (op_add.or op_cat) ha hb) fun σ H Q ⟨Z, α, ρ, δ, fp, hk, loc, g0⟩ => by
  refine ⟨Z, α, ρ, δ, fp, hk, loc, (Goes.bind (R := Val W) g0).mono fun v H1 ⟨Z1, α1, ρ1, fp1, x, s1, p1, hk1, rv, _, g1⟩ => ?_⟩
  refine ⟨Z1, α1, ρ1, δ, fp1, hk1, loc.mono s1.z p1, (Goes.bind (R := Val W) g1).mono fun u H2 ⟨Z2, α2, ρ2, fp2, y, s2, p2, hk2, ru, _, g2⟩ => ?_⟩
  split at g2
  · cases rv.int; cases ru.int
    exact .inl ⟨_, _, rfl, rfl, g2.done hk2 (.d (.int _))⟩
  · split at g2
    · rename_i l m e1 e2
      split at g2
      · rename_i hz
        obtain ⟨a, vs, rfl, h1, h2⟩ := (rv.mono s2.z p2).exL hk2 e1
        obtain ⟨b, us, rfl, h3, h4⟩ := ru.exL hk2 e2
        exact .inr ⟨a, b, vs, us, rfl, rfl, h1, h3, sz_line (by rw [h2.length, h4.length]; exact hz), fun p hp => g2.list hk2 (h2.append h4) hp⟩
      · exact g2.elim
    · exact g2.elim
theorem DatL.rep {Z : Hp} {vs : List V} {l : List D} (h : DatL W Z vs l) : ∀ n : Nat, DatL W Z (List.replicate n vs).flatten (List.replicate n l).flatten
  | 0 => .nil
  | n + 1 => by
    rw [List.replicate_succ, List.replicate_succ, List.flatten_cons, List.flatten_cons]
    exact h.append (DatL.rep h n)
def eMul (own : Bool) (fa fb : EF) : EF := fun δ ρ => (fa δ ρ).bind fun x ρ1 => (fb δ ρ1).bind fun y ρ2 => match x, y with
  | .d (.int i), .d (.int j) => if i.natAbs.log2 + j.natAbs.log2 < 1000000 then .ok (.d (.int (i * j))) ρ2 else .stuck
  | x, .d (.int j) => match exL ρ2 x with
    | some l => if RG j ∧ l.length * j.toNat ≤ SZ then mkL own (List.replicate j.toNat l).flatten ρ2 else .stuck
    | none => .stuck
  | _, _ => .stuck
theorem de_mul (own : Bool) (ha : DE X W w fa a) (hb : DE X W w fb b) : DE X W w (eMul own fa fb) (.BinOp a .Mult b pos) := wkE (pe_op (op_mulW.or op_rep) ha hb) fun σ H Q ⟨Z, α, ρ, δ, fp, hk, loc, g0⟩ => by
  refine ⟨Z, α, ρ, δ, fp, hk, loc, (Goes.bind (R := Val W) g0).mono fun v H1 ⟨Z1, α1, ρ1, fp1, x, s1, p1, hk1, rv, _, g1⟩ => ?_⟩
  refine ⟨Z1, α1, ρ1, δ, fp1, hk1, loc.mono s1.z p1, (Goes.bind (R := Val W) g1).mono fun u H2 ⟨Z2, α2, ρ2, fp2, y, s2, p2, hk2, ru, _, g2⟩ => ?_⟩
  split at g2
  · cases rv.int; cases ru.int
    split at g2
    · rename_i hz
      exact .inl ⟨_, _, rfl, rfl, hz, g2.done hk2 (.d (.int _))⟩
    · exact g2.elim
  · cases ru.int
    split at g2
    · rename_i l e1
      split at g2
      · rename_i hz
        obtain ⟨⟨z1, z2⟩, z3⟩ := hz
        obtain ⟨a, vs, rfl, h1, h2⟩ := (rv.mono s2.z p2).exL hk2 e1
        exact .inr ⟨a, _, vs, rfl, rfl, h1, by omega, by omega, sz_line (by rw [h2.length]; exact z3), fun p hp => g2.list hk2 (h2.rep _) hp⟩
      · exact g2.elim
    · exact g2.elim
  · exact g2.elim
end
end Px

namespace Px
open PySem PySem.Spec PyProof.Rows L2

/-! ### lists that change -/
section
variable {W : Wd} {Z H : Hp} {α : List V} {ρ : Hs} {fp : List Addr} {r : Nat} {os : List O} {v : V}
theorem Val.lstW (hk : Hk W Z H α ρ fp) (h : Val W Z α v (.own r)) (e : ρ[r]? = some (.lst os)) : ∃ a vs fq, v = .ref a ∧ H a = some (.lst vs) ∧ OwnL W Z H vs os fq ∧
    ∀ vs' os', (∃ fz, OwnL W Z H vs' os' fz ∧ ∀ b ∈ fz, b ∈ fq) → ∃ fp', Step Z H fp Z (upd H a (.lst vs')) fp' ∧ Hk W Z (upd H a (.lst vs')) α (ρ.set r (.lst os')) fp' := by
  cases h with
  | own h =>
    obtain ⟨v', fo, h1, h2, wr⟩ := hk.write e
    rw [h] at h1; cases h1
    cases h2 with
    | @lst a vs _ fq h3 h4 h5 h6 =>
      refine ⟨a, vs, fq, rfl, h4, h5, fun vs' os' ⟨fz, h7, h8⟩ => ?_⟩
      have nz : a ∉ fz := fun z => h6 (h8 a z)
      refine wr _ _ (a :: fz) (fun b hb => upd_ne fun z => hb (by rw [z]; exact List.mem_cons_self ..)) (fun b hb => ?_) (.lst h3 upd_same (h7.keep (Same.refl _) fun b hb => ⟨(h7.there b hb).1, upd_ne fun z => nz (by rw [← z]; exact hb)⟩) nz) fun b hb => ?_
      · by_cases hba : b = a
        · rw [hba, upd_same]; exact fun z => nomatch z
        · rw [upd_ne hba]
          exact ((Own.lst h3 h4 h5 h6).there b hb).2
      · rcases List.mem_cons.mp hb with z | z
        · exact List.mem_cons.mpr (.inl z)
        · exact List.mem_cons_of_mem _ (h8 b z)
end
section
variable {X : Cx} {W : Wd} {w : WX} {a b o i : Expr} {fa fb fo fi : EF} {es : List Expr} {g : AF} {pos pos' apos cpos : Pos}
/-- o[i] = e -/
def sSetIx (fo fi fv : EF) : SF := fun δ ρ => (fv δ ρ).out δ fun y ρ1 => (fo δ ρ1).out δ fun x ρ2 => (fi δ ρ2).out δ fun k ρ3 => match x, k, y with
  | .own r, .d (.int j), .d d => match ρ3[r]? with
    | some (.lst os) => match ixN os.length j with
      | some n => .nx δ (ρ3.set r (.lst (os.set n (.d d))))
      | none => .stuck
    | _ => .stuck
  | _, _, _ => .stuck
theorem ds_setIx (ho : DE X W w fo o) (hi : DE X W w fi i) (hv : DE X W w fa a) (h : ∀ {te to ti : TE}, PE X a te → PE X o to → PE X i ti → PS X (.Assign [.Subscript o i pos'] a pos) (tAsg te (gSub to ti rSetL))) : DS X W w (sSetIx fo fi fa) (.Assign [.Subscript o i pos'] a pos) :=
  wkS (h hv ho hi) fun D σ H ⟨Z, α, ρ, δ, fp, hk, loc, g0⟩ => by
    refine ⟨Z, α, ρ, δ, fp, hk, loc, (GoesS.of (R := Val W) hk loc g0).mono fun y H1 ⟨Z1, α1, ρ1, fp1, yy, s1, p1, hk1, loc1, ry, _, g1⟩ => ?_⟩
    refine ⟨Z1, α1, ρ1, δ, fp1, hk1, loc1, (GoesS.of (R := Val W) hk1 loc1 g1).mono fun x H2 ⟨Z2, α2, ρ2, fp2, xx, s2, p2, hk2, loc2, rx, _, g2⟩ => ?_⟩
    refine ⟨Z2, α2, ρ2, δ, fp2, hk2, loc2, (GoesS.of (R := Val W) hk2 loc2 g2).mono fun k H3 ⟨Z3, α3, ρ3, fp3, kk, s3, p3, hk3, loc3, rk, _, g3⟩ => ?_⟩
    split at g3
    · split at g3
      · rename_i os e
        split at g3
        · rename_i n en
          cases rk.int
          cases ry with
          | d ry =>
            obtain ⟨q, vs, fq, rfl, h4, h5, wr⟩ := (rx.mono s3.z p3).lstW hk3 e
            obtain ⟨fz, h6, h7⟩ := h5.setD n ((ry.mono s2.z).mono s3.z)
            obtain ⟨fp', st, hk'⟩ := wr _ _ ⟨fz, h6, h7⟩
            refine ⟨q, vs, _, n, rfl, rfl, h4, by rw [h5.length]; exact en, g3 Z3 α3 σ _ fp' st (List.prefix_refl _) hk' loc3⟩
        · exact g3.elim
      · exact g3.elim
    · exact g3.elim
/-- o.append(e) -/
def eAppend (fo : EF) (g : AF) : EF := fun δ ρ => (fo δ ρ).bind fun x ρ1 => match x with
  | .own r => match ρ1[r]? with
    | some (.lst _) => (g δ ρ1).bind fun ys ρ2 => match ys, ρ2[r]? with
      | [.d d], some (.lst os) => if os.length < SZ then .ok (.d .non) (ρ2.set r (.lst (os ++ [.d d]))) else .stuck
      | _, _ => .stuck
    | _ => .stuck
  | _ => .stuck
theorem de_append (hK : W.K = X.K) (ho : DE X W w fo o) (ha : DA X W w g es) (h : ∀ {to : TE} {t : TA}, PE X o to → PA X es t → PE X (.Call (.Attribute o "append" apos) es [] cpos) (tBM X.K "list" rAppend to t)) :
    DE X W w (eAppend fo g) (.Call (.Attribute o "append" apos) es [] cpos) := wkE (h ho ha) fun σ H Q ⟨Z, α, ρ, δ, fp, hk, loc, g0⟩ => by
  refine ⟨Z, α, ρ, δ, fp, hk, loc, (Goes.bind (R := Val W) g0).mono fun x H1 ⟨Z1, α1, ρ1, fp1, xx, s1, p1, hk1, rx, _, g1⟩ => ?_⟩
  split at g1
  · split at g1
    · rename_i os0 e0
      obtain ⟨q, vs0, _, rfl, h4, _, _⟩ := rx.lstW hk1 e0
      refine ⟨.inl ⟨rfl, vs0, hK ▸ SqL.of h4⟩, Z1, α1, ρ1, δ, fp1, hk1, loc.mono s1.z p1, (Goes.bind (R := ValL W) g1).mono fun ys H2 ⟨Z2, α2, ρ2, fp2, yy, s2, p2, hk2, ry, _, g2⟩ => ?_⟩
      split at g2
      · rename_i d os e _
        split at g2
        · rename_i hz
          obtain ⟨y, rfl, ry1⟩ := ry.one
          cases ry1 with
          | d ry1 =>
            obtain ⟨q2, vs, fq, eq, h5, h6, wr⟩ := (rx.mono s2.z p2).lstW hk2 e
            cases eq
            obtain ⟨fp', st, hk'⟩ := wr _ _ ⟨fq, h6.snocD ry1, fun b hb => hb⟩
            refine ⟨q, vs, y, rfl, rfl, h5, ?_, g2.give st (List.prefix_refl _) hk' (.d .non)⟩
            rw [h6.length]
            have := sz_line (n := os.length + 1) (by omega)
            omega
        · exact g2.elim
      · exact g2.elim
    · exact g1.elim
  · exact g1.elim
/-- o.pop(): the last one -/
def ePop (fo : EF) : EF := fun δ ρ => (fo δ ρ).bind fun x ρ1 => match x with
  | .own r => match ρ1[r]? with
    | some (.lst os) => match os[os.length - 1]? with
      | some (.d d) => .ok (.d d) (ρ1.set r (.lst os.dropLast))
      | _ => .stuck
    | _ => .stuck
  | _ => .stuck
theorem OwnL.getD {Z H : Hp} {vs : List V} {os : List O} {fp : List Addr} {k : Nat} {d : D} (h : OwnL W Z H vs os fp) (e : os[k]? = some (.d d)) : ∃ v, vs[k]? = some v ∧ Dat W Z v d := by
  obtain ⟨v, fo, h1, h2, _⟩ := h.get e
  cases h2 with
  | d h2 => exact ⟨v, h1, h2⟩
theorem OwnL.dropLast {Z H : Hp} {vs : List V} {os : List O} {fp : List Addr} (h : OwnL W Z H vs os fp) : ∃ fz, OwnL W Z H vs.dropLast os.dropLast fz ∧ ∀ b ∈ fz, b ∈ fp := by
  rw [List.dropLast_eq_take, List.dropLast_eq_take, h.length]
  exact h.take _
theorem de_pop (hK : W.K = X.K) (ho : DE X W w fo o) (h : ∀ {to : TE}, PE X o to → PE X (.Call (.Attribute o "pop" apos) [] [] cpos) (tBM0 X.K "list" rPop to)) :
    DE X W w (ePop fo) (.Call (.Attribute o "pop" apos) [] [] cpos) := wkE (h ho) fun σ H Q ⟨Z, α, ρ, δ, fp, hk, loc, g0⟩ => by
  refine ⟨Z, α, ρ, δ, fp, hk, loc, (Goes.bind (R := Val W) g0).mono fun x H1 ⟨Z1, α1, ρ1, fp1, xx, s1, p1, hk1, rx, _, g1⟩ => ?_⟩
  split at g1
  · split at g1
    · rename_i os e
      split at g1
      · rename_i d ed
        obtain ⟨q, vs, fq, rfl, h4, h5, wr⟩ := rx.lstW hk1 e
        obtain ⟨y, hy, dy⟩ := h5.getD ed
        obtain ⟨fp', st, hk'⟩ := wr _ _ h5.dropLast
        exact ⟨.inl ⟨rfl, vs, hK ▸ SqL.of h4⟩, q, vs, y, rfl, rfl, h4, by rw [h5.length]; exact hy, g1.give st (List.prefix_refl _) hk' (.d dy)⟩
      · exact g1.elim
    · exact g1.elim
  · exact g1.elim
/-- o.pop(k) -/
def ePopAt (fo : EF) (g : AF) : EF := fun δ ρ => (fo δ ρ).bind fun x ρ1 => match x with
  | .own r => match ρ1[r]? with
    | some (.lst _) => (g δ ρ1).bind fun ys ρ2 => match ys, ρ2[r]? with
      | [.d (.int j)], some (.lst os) => match ixN os.length j with
        | some n => match os[n]? with
          | some (.d d) => if RG j then .ok (.d d) (ρ2.set r (.lst (os.eraseIdx n))) else .stuck
          | _ => .stuck
        | none => .stuck
      | _, _ => .stuck
    | _ => .stuck
  | _ => .stuck
theorem de_popAt (hK : W.K = X.K) (ho : DE X W w fo o) (ha : DA X W w g es) (h : ∀ {to : TE} {t : TA}, PE X o to → PA X es t → PE X (.Call (.Attribute o "pop" apos) es [] cpos) (tBM X.K "list" rPopAt to t)) :
    DE X W w (ePopAt fo g) (.Call (.Attribute o "pop" apos) es [] cpos) := wkE (h ho ha) fun σ H Q ⟨Z, α, ρ, δ, fp, hk, loc, g0⟩ => by
  refine ⟨Z, α, ρ, δ, fp, hk, loc, (Goes.bind (R := Val W) g0).mono fun x H1 ⟨Z1, α1, ρ1, fp1, xx, s1, p1, hk1, rx, _, g1⟩ => ?_⟩
  split at g1
  · split at g1
    · rename_i os0 e0
      obtain ⟨q, vs0, _, rfl, h4, _, _⟩ := rx.lstW hk1 e0
      refine ⟨.inl ⟨rfl, vs0, hK ▸ SqL.of h4⟩, Z1, α1, ρ1, δ, fp1, hk1, loc.mono s1.z p1, (Goes.bind (R := ValL W) g1).mono fun ys H2 ⟨Z2, α2, ρ2, fp2, yy, s2, p2, hk2, ry, _, g2⟩ => ?_⟩
      split at g2
      · rename_i j os e _
        split at g2
        · rename_i n en
          split at g2
          · rename_i d ed
            split at g2
            · rename_i hj
              obtain ⟨z1, z2⟩ := hj
              rw [ry.i1]
              obtain ⟨q2, vs, fq, eq, h5, h6, wr⟩ := (rx.mono s2.z p2).lstW hk2 e
              cases eq
              obtain ⟨y, hy, dy⟩ := h6.getD ed
              obtain ⟨fp', st, hk'⟩ := wr _ _ (h6.erase n)
              exact ⟨q, vs, j, n, y, rfl, rfl, h5, by omega, by omega, by rw [h6.length]; exact (ixN_seq en).1, hy, g2.give st (List.prefix_refl _) hk' (.d dy)⟩
            · exact g2.elim
          · exact g2.elim
        · exact g2.elim
      · exact g2.elim
    · exact g1.elim
  · exact g1.elim
/-! names changed by an operator -/
def sAug (i : Nat) (fv : EF) (gg : D → D → Option D) : SF := fun δ ρ => match δ[i]? with
  | some (some (.d z)) => (fv δ ρ).out δ fun y ρ1 => match y with
    | .d d => match gg z d with
      | some t => .nx (δ.set i (some (.d t))) ρ1
      | none => .stuck
    | _ => .stuck
  | _ => .stuck
theorem ds_aug {i : Nat} {st : Stmt} {rd : TIp} {gg : D → D → Option D} (sv : Serves2 W rd gg) (h : ∀ {te : TE}, PE X a te → PS X st (tAug i te rd)) (hv : DE X W w fa a) : DS X W w (sAug i fa gg) st := wkS (h hv) fun D σ H ⟨Z, α, ρ, δ, fp, hk, loc, g0⟩ => by
  unfold sAug at g0
  split at g0
  · rename_i z hz
    obtain ⟨u, hu, ru⟩ := loc.get i _ hz
    refine ⟨u, hu, Z, α, ρ, δ, fp, hk, loc, (GoesS.of (R := Val W) hk loc g0).mono fun y H1 ⟨Z1, α1, ρ1, fp1, yy, s1, p1, hk1, loc1, ry, _, g1⟩ => ?_⟩
    split at g1
    · rename_i d _
      split at g1
      · rename_i t et
        cases ry with
        | d ry =>
          cases ru with
          | d ru => exact sv H1 u y z d t _ ((ru.mono s1.z).mono hk1.le) (ry.mono hk1.le) et fun tv ht => g1.next hk1 (loc1.set (.d (ht _)))
      · exact g1.elim
    · exact g1.elim
  · exact g0.elim
/-! a, b = x, y of plain names -/
def sPar (i j : Nat) (g : AF) : SF := fun δ ρ => (g δ ρ).out δ fun xs ρ1 => match xs with
  | [x, y] => .nx ((δ.set i (some x)).set j (some y)) ρ1
  | _ => .stuck
theorem ds_par {i j : Nat} {st : Stmt} (h : ∀ {t : TA}, PA X es t → PS X st (tPar i j t)) (ha : DA X W w g es) : DS X W w (sPar i j g) st := wkS (h ha) fun D σ H ⟨Z, α, ρ, δ, fp, hk, loc, g0⟩ => by
  refine ⟨Z, α, ρ, δ, fp, hk, loc, (GoesS.of (R := ValL W) hk loc g0).mono fun y H1 ⟨Z1, α1, ρ1, fp1, yy, s1, p1, hk1, loc1, ry, _, g1⟩ => ?_⟩
  split at g1
  · obtain ⟨v, u, rfl, r1, r2⟩ := ry.two
    exact ⟨v, u, rfl, g1.next hk1 ((loc1.set r1).set r2)⟩
  · exact g1.elim
/-! several targets -/
def gAll : List GF → List D → Sto → Hs → Option (Sto × Hs)
  | [], [], δ, ρ => some (δ, ρ)
  | g :: gs, d :: ds, δ, ρ => match g (.d d) δ ρ with
    | some (δ1, ρ1) => gAll gs ds δ1 ρ1
    | none => none
  | _, _, _, _ => none
def tGoS (W : Wd) (gs : List GF) : TGs := fun vs σ H Q => ∃ Z α ρ δ fp ds, Hk W Z H α ρ fp ∧ Loc W Z α σ δ ∧ DatL W Z vs ds ∧ ∃ δ1 ρ1, gAll gs ds δ ρ = some (δ1, ρ1) ∧
  ∀ Z' α' σ' H' fp', Step Z H fp Z' H' fp' → α <+: α' → Hk W Z' H' α' ρ1 fp' → Loc W Z' α' σ' δ1 → Q σ' H'
def DGs (X : Cx) (W : Wd) (gs : List GF) (ts : List Expr) : Prop := PGs X ts (tGoS W gs)
theorem wkGs {ts : List Expr} {t u : TGs} (h : PGs X ts t) (k : ∀ v σ H Q, u v σ H Q → t v σ H Q) : PGs X ts u := ⟨fun pins s σ H v uu Q I r q => h.run pins s σ H v uu Q I r (k v σ H Q q)⟩
theorem dgs_nil : DGs X W [] [] := wkGs pgs_nil fun v σ H Q ⟨Z, α, ρ, δ, fp, ds, hk, loc, rv, δ1, ρ1, e, q⟩ => by
  cases ds with
  | nil =>
    cases e
    cases rv
    exact ⟨rfl, q Z α σ H fp (Step.refl _ _ _) (List.prefix_refl _) hk loc⟩
  | cons d ds => simp [gAll] at e
theorem dgs_cons {gf : GF} {gs : List GF} {t : Expr} {ts : List Expr} (h : DG X W gf t) (k : DGs X W gs ts) (hs : (assignEach (t :: ts) X.env).map (·.2) = assign t X.env :: (assignEach ts X.env).map (·.2) := by rfl) : DGs X W (gf :: gs) (t :: ts) :=
  wkGs (pgs_cons h k hs) fun v σ H Q ⟨Z, α, ρ, δ, fp, ds, hk, loc, rv, δ1, ρ1, e, q⟩ => by
    cases ds with
    | nil => simp [gAll] at e
    | cons d ds =>
      cases rv with
      | cons h1 h2 =>
        simp only [gAll] at e
        split at e
        · rename_i δ2 ρ2 e2
          refine ⟨_, _, rfl, Z, α, ρ, δ, fp, .d d, hk, loc, .d h1, δ2, ρ2, e2, fun Z' α' σ' H' fp' s' p' hk' loc' => ?_⟩
          exact ⟨Z', α', ρ2, δ2, fp', ds, hk', loc', h2.mono s'.z, δ1, ρ1, e, fun Z2 α2 σ2 H2 fp2 s2 p2 hk2 loc2 => q Z2 α2 σ2 H2 fp2 (s'.trans s2) (p'.trans p2) hk2 loc2⟩
        · cases e
theorem pg_or {t : Expr} {u v : TG} (h : PG X t u) (k : PG X t v) : PG X t (fun x σ H Q => u x σ H Q ∨ v x σ H Q) := ⟨fun pins s σ H x y Q I r q => q.elim (h.run pins s σ H x y Q I r) (k.run pins s σ H x y Q I r)⟩
/-- a, b, .. = a tuple or a list -/
def gUn (n : Nat) (gs : List GF) : GF := fun x δ ρ => match seqA ρ x with
  | some l => if l.length = n then gAll gs l δ ρ else none
  | none => none
theorem dg_un (hK : W.K = X.K) {ts : List Expr} {k n : Nat} {gs : List GF} (hc : X.calm = true) (h : DGs X W gs ts) (hn : (assignEach ts X.env).length = n := by rfl) (hst : (assignEach ts X.env).findIdx? (·.1) = none := by rfl) : DG X W (gUn n gs) (.Tuple ts k pos) :=
  wkG (pg_or (pg_tup hc h hn hst) (pg_lst hc h hn hst)) fun v σ H Q ⟨Z, α, ρ, δ, fp, x, hk, loc, rv, δ1, ρ1, e, q⟩ => by
    unfold gUn at e
    split at e
    · rename_i l el
      split at e
      · rename_i hl
        obtain ⟨p, vs, rfl, h1, h2⟩ := rv.seqA hk el
        have fin : tGoS W gs vs σ H Q := ⟨Z, α, ρ, δ, fp, l, hk, loc, h2, δ1, ρ1, e, q⟩
        rw [hK] at h1
        rcases h1 with h1 | h1
        · exact .inr ⟨p, vs, rfl, h1, h2.length.trans hl, fin⟩
        · exact .inl ⟨p, vs, rfl, h1, h2.length.trans hl, fin⟩
      · cases e
    · cases e
end
/-! ### repr -/
def showP (p : PyData) : Bool := p.showable && p.leavesShort 1921 && decide (p.depth ≤ 60) && decide (p.bulk ≤ 8000) && !p.hasDict
def fRepr (d : D) : Option D := match d.toP with
  | some p => if showP p then some (.str p.shown) else none
  | none => none
section
variable {X : Cx} {W : Wd}
theorem showP_len {p : PyData} (h : p.leavesShort 1921 = true) (h2 : p.bulk ≤ 8000) : p.shown.length ≤ sizeLine := by
  have e := PyData.shown_le_bulk 1921 (by decide) p h
  rw [sizeLine_eq]
  omega
theorem call_reprD (hu : HereU X) : CallR X (.builtin "repr") (fun xs H Q => ∃ x p, xs = [x] ∧ Dp X.K H x p ∧ showP p = true ∧ Q (.str p.shown) H) := by
  intro pins s σ H xs us Q I r h
  obtain ⟨x, p, rfl, hd, hp, q⟩ := h
  obtain ⟨u, rfl, ru⟩ := vals1 r
  obtain ⟨as, rd⟩ := Dp.reads I p x u hd ru
  unfold showP at hp
  simp only [Bool.and_eq_true, decide_eq_true_eq, Bool.not_eq_true'] at hp
  obtain ⟨⟨⟨⟨h1, h2⟩, h3⟩, h4⟩, h5⟩ := hp
  have hz := showP_len h2 h4
  have un := hu.un
  have gd := hu.gd
  cases hd with
  | non =>
    obtain rfl : u = Value.none := ru
    exact PySem.P.repr_of_none ⟨V.str _, H, I.tok _, ⟨_, rfl⟩, q⟩
  | bl b =>
    obtain rfl : u = Value.bool b := ru
    exact PySem.P.repr_of_bool ⟨V.str _, H, I.tok _, ⟨_, by cases b <;> rfl⟩, q⟩
  | int i =>
    obtain ⟨t, rfl⟩ := ru
    exact PySem.P.repr_of_int (by simpa [PyData.showable] using h1) ⟨V.str _, H, I.tok _, ⟨_, rfl⟩, q⟩
  | str z =>
    obtain ⟨t, rfl⟩ := ru
    exact PySem.P.repr_of_str ⟨V.str _, H, I.tok _, ⟨_, rfl⟩, q⟩ (by simpa [PyData.shown] using hz)
  | lst _ _ =>
    obtain rfl : u = Value.ref _ := ru
    exact repr_of_reads' rd h1 (PyData.noDict_hsm h5) gd (by omega) (fun _ _ e => e) (fun h' uu tk hk => ⟨V.str _, H, I.kept (t' := tk) hk, ⟨_, rfl⟩, q⟩) hz
  | tup _ _ =>
    obtain rfl : u = Value.ref _ := ru
    exact repr_of_reads' rd h1 (PyData.noDict_hsm h5) gd (by omega) (fun _ _ e => e) (fun h' uu tk hk => ⟨V.str _, H, I.kept (t' := tk) hk, ⟨_, rfl⟩, q⟩) hz
/-- a built-in of one value that is looked at, a scalar its answer -/
def k1 (f : D → Option D) (xs : List SV) (ρ : Hs) : Ex SV := match xs with
  | [x] => match x.view ρ with
    | some p => match f p with
      | some d => .ok (.d d) ρ
      | none => .stuck
    | none => .stuck
  | _ => .stuck
theorem sv_k1 {r : List V → Hp → VK → Prop} {f : D → Option D} (h : ∀ (H : Hp) (v : V) (p d : D) (Q : VK), Dat W H v p → f p = some d → (∀ z, (∀ Z, Dat W Z z d) → Q z H) → r [v] H Q) : ServesB W r (k1 f) := by
  intro w σ Z H α ρ fp vs xs Q hk rv g
  unfold k1 at g
  split at g
  · split at g
    · rename_i p ep
      split at g
      · rename_i d ed
        obtain ⟨v, rfl, rv1⟩ := rv.one
        exact h H v p d Q (rv1.view hk ep) ed fun z hz => g.done hk (.d (hz _))
      · exact g.elim
    · exact g.elim
  · exact g.elim
theorem sv_repr (hK : W.K = X.K) : ServesB W (fun xs H Q => ∃ x p, xs = [x] ∧ Dp X.K H x p ∧ showP p = true ∧ Q (.str p.shown) H) (k1 fRepr) := sv_k1 fun H v p d Q hp e k => by
  unfold fRepr at e
  split at e
  · rename_i p' e1
    split at e
    · rename_i hs
      cases e
      exact ⟨v, p', rfl, hK ▸ hp.dp e1, hs, k _ fun _ => .str _⟩
    · cases e
  · cases e
def fAbs : D → Option D
  | .int i => some (.int (if i < 0 then -i else i))
  | _ => none
theorem sv_abs : ServesB W (fun xs H Q => ∃ i, xs = [.int i] ∧ Q (.int (if i < 0 then -i else i)) H) (k1 fAbs) := sv_k1 fun H v p d Q hp e k => by
  unfold fAbs at e
  split at e
  · cases e
    rw [hp.int']
    exact ⟨_, rfl, k _ fun _ => .int _⟩
  · cases e
def fInt : D → Option D
  | .int i => some (.int i)
  | .bl b => some (.int (if b then 1 else 0))
  | _ => none
theorem sv_int : ServesB W (fun xs H Q => (∃ i, xs = [.int i] ∧ Q (.int i) H) ∨ ∃ k, xs = [.bl k] ∧ Q (.int (if k then 1 else 0)) H) (k1 fInt) := sv_k1 fun H v p d Q hp e k => by
  unfold fInt at e
  split at e
  · cases e
    rw [hp.int']
    exact .inl ⟨_, rfl, k _ fun _ => .int _⟩
  · cases e
    rw [hp.bl']
    exact .inr ⟨_, rfl, k _ fun _ => .int _⟩
  · cases e
/-- of two ints -/
def k2 (f : Int → Int → D) (xs : List SV) (ρ : Hs) : Ex SV := match xs with
  | [.d (.int i), .d (.int j)] => .ok (.d (f i j)) ρ
  | _ => .stuck
theorem sv_k2 {r : List V → Hp → VK → Prop} {f : Int → Int → D} (h : ∀ (H : Hp) (i j : Int) (Q : VK), (∀ z, (∀ Z, Dat W Z z (f i j)) → Q z H) → r [.int i, .int j] H Q) : ServesB W r (k2 f) := by
  intro w σ Z H α ρ fp vs xs Q hk rv g
  unfold k2 at g
  split at g
  · rw [rv.i2]
    exact h H _ _ Q fun z hz => g.done hk (.d (hz _))
  · exact g.elim
theorem sv_max : ServesB W (fun xs H Q => ∃ i j, xs = [.int i, .int j] ∧ Q (.int (if j > i then j else i)) H) (k2 fun i j => .int (if j > i then j else i)) := sv_k2 fun H i j Q k => ⟨i, j, rfl, k _ fun _ => .int _⟩
theorem sv_min : ServesB W (fun xs H Q => ∃ i j, xs = [.int i, .int j] ∧ Q (.int (if j < i then j else i)) H) (k2 fun i j => .int (if j < i then j else i)) := sv_k2 fun H i j Q k => ⟨i, j, rfl, k _ fun _ => .int _⟩
theorem sv_gcd : ServesB W rGcd (k2 fun i j => .int ((Nat.gcd i.natAbs j.natAbs : Nat) : Int)) := sv_k2 fun H i j Q k => ⟨i, j, rfl, k _ fun _ => .int _⟩
end
end Px

namespace Px
open PySem PySem.Spec PyProof.Rows L2

/-! ### the law's own call -/
section
variable {P : Program} {w : World} {K : PySem.W.Frag} {mg mb : Str → Option Value} {k : Nat} {fa a : Addr} {fd : FuncData} {x : Str} {s₁ : Shared} {vs : List Value} {ns : List Int}
/-- from a heap in which nothing but the script may be tracked -/
theorem law_core {H : Hp} {sp : Sp} (KX : K.In s₁.heap) (hns : s₁.heap.Ns mainGlobals mg) (hb : s₁.heap.Ns builtinsNs mb) (hbb : ∀ x : Str, x ≠ "__name__" → mb x = bootBuiltins x) (hlim : s₁.heap.NoLimit) (hg : s₁.gens = #[])
    (ha : s₁.heap.get? a = some { cls := .type "list", data := .seq vs.toArray }) (hr : Room k callerA)
    (F : ∀ base : Heap, K.In base → base.Ns mainGlobals mg → FnG P w K mg base k fa fd [x] sp) (hbind : ∀ (s : Shared) (u : Value), BindsTo s fd ⟨[u], []⟩ [(x, u)])
    (hO : Only H) (hok : HOk P w H s₁.heap) (hA : ∀ b, H b ≠ none → b = a) (hK : H a ≠ none → K.lookup a = none) (hs : sp [.ref a] H (fun v _ => v = .bl true) fun _ _ _ => False) :
    codeAny (model P w) callerA (.call (.ref fa) ⟨[.ref a], []⟩) (fun r s' => r = .ok (.ret (.bool true)) ∧ PySem.OldK s₁.heap s'.heap ∧ s'.os = s₁.os ∧ AllBare s'.gens) s₁ := by
  have base_of : ∀ {b : Addr} {o : Obj}, s₁.heap.get? b = some o → H b = none → (hidT s₁.heap H).get? b = some o := fun e n => hidT_get e n
  have isA : ∀ {b : Addr} {u : HO}, H b = some u → b = a := fun {b u} q => hA b (by rw [q]; exact fun z => nomatch z)
  have noA : ∀ {b : Addr} {o : Obj} {es : Array DictEntry} {ep : Nat}, s₁.heap.get? b = some o → o.data = .dict es ep → H b = none := fun {b o es ep} e d => by
    cases q : H b with
    | none => rfl
    | some u =>
      rw [isA q, ha] at e
      cases e
      have d' : Data.seq vs.toArray _ = Data.dict es ep := d
      cases d'
  have nsK : ∀ {b : Addr} {m : Str → Option Value}, s₁.heap.Ns b m → (hidT s₁.heap H).Ns b m := fun {b m} ⟨o, es, ep, e, d, r⟩ => ⟨o, es, ep, base_of e (noA e d), d, r⟩
  have hKb : K.In (hidT s₁.heap H) := fun b o e => base_of (KX b o e) (by
    cases q : H b with
    | none => rfl
    | some u =>
      have eb := isA q
      rw [eb] at e q
      rw [hK (by rw [q]; exact fun z => nomatch z)] at e
      cases e)
  have hM : Mod K mg (hidT s₁.heap H) := ⟨hKb, nsK hns, ⟨mb, nsK hb, hbb⟩, let ⟨mc, h1, h2⟩ := hlim; ⟨mc, nsK h1, h2⟩⟩
  have e0 : Env0 P w K mg (hidT s₁.heap H) callerA [] s₁ H :=
    ⟨rfl, hM, fun b o e => of_hidT e, Nat.le_of_eq (hidT_size _ _), trivial, fun b hb => absurd (show b ∈ ([] : List Addr) from hb) (by simp), hok, .of_eq hg⟩
  refine codeAny_mono ((F _ hKb (nsK hns)).run callerA [] s₁ H ⟨[.ref a], []⟩ [.ref a] [.ref a] _ _ rfl hr e0 (hbind s₁ (.ref a)) (.cons rfl .nil) hs) fun r s' h => ?_
  match r, h with
  | .error e, ⟨_, _, _, _, _, _, _, _, _, _, _, _, z⟩ => exact z.elim
  | .ok .next, h => exact h.elim
  | .ok .brk, h => exact h.elim
  | .ok .cont, h => exact h.elim
  | .ok (.ret u), ⟨v, H', os, bare, un, hok', r', q⟩ =>
    have q' : v = .bl true := q
    subst q'
    have eu : u = Value.bool true := r'
    subst eu
    refine ⟨rfl, PySem.OldK.of_keep fun b o e => ?_, os, bare⟩
    cases q : H b with
    | none => exact un.keep b o e q (by intro z; exact absurd (show b ∈ ([] : List Addr) from z) (by simp)) (by simp)
    | some u =>
      rcases hO b with z | ⟨ob, xs, z⟩
      · rw [q] at z; cases z
      · have z2 := un.frzs b ob _ z
        obtain ⟨e1, _⟩ := hok b _ z
        obtain ⟨e2, _⟩ := hok' b _ z2
        rw [e] at e1; cases e1
        exact e2
theorem law_callG {sp : Sp} (KX : K.In s₁.heap) (hns : s₁.heap.Ns mainGlobals mg) (hb : s₁.heap.Ns builtinsNs mb) (hbb : ∀ x : Str, x ≠ "__name__" → mb x = bootBuiltins x) (hlim : s₁.heap.NoLimit) (hg : s₁.gens = #[])
    (ha : s₁.heap.get? a = some { cls := .type "list", data := .seq vs.toArray }) (hi : IntsAre vs ns) (hl : ns.length ≤ sizeLine) (hr : Room k callerA)
    (F : ∀ base : Heap, K.In base → base.Ns mainGlobals mg → FnG P w K mg base k fa fd [x] sp) (hbind : ∀ (s : Shared) (u : Value), BindsTo s fd ⟨[u], []⟩ [(x, u)])
    (hsp : ∀ H : Hp, Only H → SqL K H a (ns.map V.int) → sp [.ref a] H (fun v _ => v = .bl true) fun _ _ _ => False) :
    codeAny (model P w) callerA (.call (.ref fa) ⟨[.ref a], []⟩) (fun r s' => r = .ok (.ret (.bool true)) ∧ PySem.OldK s₁.heap s'.heap ∧ s'.os = s₁.os ∧ AllBare s'.gens) s₁ := by
  have rv := vals_ints hi
  have lenV := hi.length
  let frzd : HO := .frz { cls := .type "list", data := .seq vs.toArray } (.lst (ns.map V.int))
  cases hk : K.lookup a with
  | some o =>
    have e := KX a o hk
    rw [ha] at e
    cases e
    have hO : Only fun _ => none := fun _ => .inl rfl
    exact law_core KX hns hb hbb hlim hg ha hr F hbind hO (fun b u z => by cases z) (fun b z => absurd rfl z) (fun z => absurd rfl z)
      (hsp _ hO (.inr ⟨_, vs.toArray, _, hk, rfl, rfl, rfl, by rw [List.size_toArray, lenV]; exact hl, by simpa using rv⟩))
  | none =>
    have hO : Only fun b => if b = a then some frzd else none := fun b => by
      by_cases hb : b = a
      · exact .inr ⟨_, _, if_pos hb⟩
      · exact .inl (if_neg hb)
    refine law_core KX hns hb hbb hlim hg ha hr F hbind hO (fun b u z => ?_) (fun b z => Classical.byContradiction fun n => z (if_neg n)) (fun _ => hk) (hsp _ hO (.inl (.inr ⟨_, if_pos rfl⟩)))
    by_cases hb : b = a
    · subst hb
      have z' := (if_pos rfl).symm.trans z
      cases z'
      exact ⟨ha, by rw [List.length_map]; exact hl, vs, _, rv, ha⟩
    · rw [if_neg hb] at z
      cases z
end
theorem DatL.ofInts {W : Wd} {Z : Hp} : ∀ ns : List Int, DatL W Z (ns.map V.int) (ns.map D.int)
  | [] => .nil
  | n :: ns => .cons (.int n) (DatL.ofInts ns)
/-- the row's end -/
theorem walkG {l : PySem.W.OpenLaw} {n k : Nat} {q : Program} {loose : List Str} {XP : (Str → Option Value) → Heap → Prop} {YP : World → Heap → Prop} {d : DefRec} {K : Params → PySem.W.Frag} {x : Str} {F : DF}
    (hn : l.most = some n) (hn2 : n ≤ sizeLine) (hdf : d.params.defaults = []) (hr : Room k callerA)
    (hY : ∀ (w : World) (h : Heap), YP w h → (K w.params).In h)
    (Fn : ∀ (w : World) (mg : Str → Option Value) (fa : Addr) (h : Heap), (K w.params).In h → h.Ns mainGlobals mg → mg d.name = some (.ref fa) →
      ∃ (fd : FuncData) (W : Wd), (∀ (s : Shared) (u : Value), BindsTo s fd ⟨[u], []⟩ [(x, u)]) ∧ W.K = K w.params ∧
        ∀ base : Heap, (K w.params).In base → base.Ns mainGlobals mg → FnD l.prog w (K w.params) mg base W k fa fd [x] F)
    (end_ : ∀ ns : List Int, ns.length ≤ n → ∃ ρ, F [.d (.scr (ns.map D.int))] [] = .ok (.d (.bl true)) ρ) :
    PySem.W.WalkO q loose XP YP l.row.toRowW d [] (fun f vs => PySem.call f vs) := by
  refine Att.attach_call hn hdf fun w s₀ s₁ mg mb fa o pm cd doc a vs ns G Y ho hd hcd hmg hobj hints hlen hg => ?_
  have KX := hY w _ Y
  obtain ⟨fd, W, hb, hW, hF⟩ := Fn w mg fa _ KX G.T.g hmg
  refine law_callG KX G.T.g G.T.b G.T.builtins G.T.nolimit hg hobj hints (Nat.le_trans hlen hn2) hr (fun base h1 h2 => (hF base h1 h2).g) hb fun H hO hS => ?_
  obtain ⟨ρ, e⟩ := end_ ns hlen
  refine ⟨H, [], [], [], [.d (.scr (ns.map D.int))], ⟨Same.refl _, .nil⟩, .cons (.d (.scr (by rw [hW]; exact hS) (DatL.ofInts ns))) .nil, rfl, ?_⟩
  rw [e]
  intro Z' α' H' fp' v s p hk r
  exact r.bl
end Px

namespace Px
open PySem PySem.Spec PyProof.Rows L2

/-! ### a root of any age frozen -/
section
variable {W : Wd} {Z H : Hp}
theorem OwnL.cut : ∀ {vs : List V} {os : List O} {fp : List Addr} {r : Nat} {o : O}, OwnL W Z H vs os fp → os[r]? = some o →
    ∃ v fo, vs[r]? = some v ∧ Own W Z H v o fo ∧ (∀ a ∈ fo, a ∈ fp) ∧ ∃ fp', OwnL W Z H vs (os.set r .x) fp' ∧ (∀ a ∈ fp', a ∈ fp) ∧ ∀ a ∈ fp', a ∉ fo
  | _, _, _, _, _, .nil, e => by simp at e
  | _, _, _, 0, _, .cons (fp := fp) (fq := fq) h t dj, e => by
    simp at e; subst e
    exact ⟨_, fp, rfl, h, fun a ha => List.mem_append_left _ ha, _, .cons (.x _) t (by simp), (fun a ha => List.mem_append_right _ (by simpa using ha)), fun a ha hp => dj a hp (by simpa using ha)⟩
  | _, _, _, r + 1, o, .cons (fp := fp) (fq := fq) h t dj, e => by
    obtain ⟨v, fo, h1, h2, h3, fz, h4, h5, h6⟩ := OwnL.cut (r := r) (o := o) t (by simpa using e)
    refine ⟨v, fo, by simpa using h1, h2, fun a ha => List.mem_append_right _ (h3 a ha), _, .cons h h4 fun a ha hz => dj a ha (h5 a hz), fun a ha => ?_, fun a ha hf => ?_⟩
    · exact (List.mem_append.mp ha).elim (fun q => List.mem_append_left _ q) fun q => List.mem_append_right _ (h5 a q)
    · rcases List.mem_append.mp ha with q | q
      · exact dj a q (h3 a hf)
      · exact h6 a q hf
theorem Hk.freezeAt {α : List V} {ρ : Hs} {fp : List Addr} {r : Nat} {v : V} {d : D} (hk : Hk W Z H α ρ fp) (h : α[r]? = some v) (ed : (ρ[r]?).bind O.toD = some d) :
    ∃ Z2 fq, Step Z H fp Z2 H fq ∧ Hk W Z2 H α (ρ.set r .x) fq ∧ Dat W Z2 v d := by
  obtain ⟨o, ho, eo⟩ := Option.bind_eq_some_iff.mp ed
  obtain ⟨v', fo, h1, h2, h3, fq, h4, h5, h6⟩ := hk.own.cut ho
  rw [h] at h1; cases h1
  have zn : ∀ a ∈ fo, Z a = none := fun a ha => (h2.there a ha).1
  refine ⟨frz Z H fo, fq, ⟨frz_same zn, fun b hb => ?_, fun _ _ _ => rfl, fun _ hb => hb, fun b hb => .inl (h5 b hb)⟩, ⟨frz_le hk.le, h4.keep (frz_same zn) fun a ha => ⟨?_, rfl⟩⟩, h2.freeze eo⟩
  · unfold frz at hb
    by_cases hm : b ∈ fo
    · exact .inr (.inr (h3 b hm))
    · rw [if_neg hm] at hb
      exact .inl hb
  · unfold frz
    rw [if_neg (h6 a ha)]
    exact (h4.there a ha).1
end
def fzSlot (i : Nat) (δ : Sto) (ρ : Hs) : Option (Sto × Hs) := match δ[i]? with
  | some (some (.own r)) => match (ρ[r]?).bind O.toD with
    | some d => some (δ.set i (some (.d d)), ρ.set r .x)
    | none => none
  | some (some (.d _)) => some (δ, ρ)
  | _ => none
/-- slot i is frozen ahead of the statement -/
def sFz (i : Nat) (f : SF) : SF := fun δ ρ => match fzSlot i δ ρ with
  | some (δ1, ρ1) => f δ1 ρ1
  | none => .stuck
section
variable {X : Cx} {W : Wd} {w : WX} {st : Stmt} {sts : List Stmt} {f : SF}
theorem fz_go {σ : Sg} {D : Ends} {H : Hp} (i : Nat) (h : tS W w (sFz i f) D σ H) : tS W w f D σ H := by
  obtain ⟨Z, α, ρ, δ, fp, hk, loc, g⟩ := h
  unfold sFz at g
  split at g
  · rename_i δ1 ρ1 e
    unfold fzSlot at e
    split at e
    · rename_i r hr
      split at e
      · rename_i d ed
        cases e
        obtain ⟨v, hv, rv⟩ := loc.get i _ hr
        cases rv with
        | own rv =>
          obtain ⟨Z2, fq, s2, hk2, hd⟩ := hk.freezeAt rv ed
          have hs : σ.set i (some v) = σ := set_self hv
          have loc2 := (loc.mono s2.z (List.prefix_refl α)).set (i := i) (.d hd)
          rw [hs] at loc2
          exact ⟨Z2, α, _, _, fq, hk2, loc2, g.shift s2 (List.prefix_refl _)⟩
      · cases e
    · cases e
      exact ⟨Z, α, ρ, δ, fp, hk, loc, g⟩
    · cases e
  · exact g.elim
theorem ds_fz (i : Nat) (h : DS X W w f st) : DS X W w (sFz i f) st := wkS h fun D σ H q => fz_go i q
theorem dss_fz (i : Nat) (h : DSs X W w f sts) : DSs X W w (sFz i f) sts := wkSs h fun D σ H q => fz_go i q
/-- the value is frozen where it is an owned root -/
def eFzV (f : EF) : EF := fun δ ρ => (f δ ρ).bind fun x ρ1 => match x with
  | .pin => .stuck
  | .d y => .ok (.d y) ρ1
  | .own r => match (ρ1[r]?).bind O.toD with
    | some d => .ok (.d d) (ρ1.set r .x)
    | none => .stuck
theorem de_fzV {fo : EF} {a : Expr} (h : DE X W w fo a) : DE X W w (eFzV fo) a := wkE h fun σ H Q ⟨Z, α, ρ, δ, fp, hk, loc, g0⟩ => by
  refine ⟨Z, α, ρ, δ, fp, hk, loc, (Goes.bind (R := Val W) g0).mono fun v H1 ⟨Z1, α1, ρ1, fp1, x, s1, p1, hk1, rv, _, g1⟩ => ?_⟩
  cases rv with
  | d h => exact g1.done hk1 (.d h)
  | pin h => exact g1.elim
  | @own r h =>
    dsimp only at g1
    split at g1
    · rename_i d ed
      obtain ⟨Z2, fq, s2, hk2, hd⟩ := hk1.freezeAt h ed
      exact g1.give s2 (List.prefix_refl _) hk2 (.d hd)
    · exact g1.elim
end

/-! ### owned things moved into a list -/
section
variable {W : Wd} {Z H : Hp}
/-- the roots of some values are taken out -/
def takeO (ρ : Hs) : List SV → Option (List O × Hs)
  | [] => some ([], ρ)
  | .d x :: r => (takeO ρ r).map fun (os, ρ1) => (.d x :: os, ρ1)
  | .pin :: _ => none
  | .own k :: r => match takeO ρ r with
    | some (os, ρ1) => match ρ1[k]? with
      | some o => some (o :: os, ρ1.set k .x)
      | none => none
    | none => none
theorem Hk.takeO {α : List V} : ∀ {xs : List SV} {vs : List V} {ρ ρ' : Hs} {fp : List Addr} {os : List O}, Hk W Z H α ρ fp → ValL W Z α vs xs → takeO ρ xs = some (os, ρ') →
    ∃ fq fz, OwnL W Z H vs os fq ∧ Hk W Z H α ρ' fz ∧ (∀ a ∈ fq, a ∈ fp) ∧ (∀ a ∈ fz, a ∈ fp) ∧ ∀ a ∈ fz, a ∉ fq
  | [], _, ρ, ρ', fp, os, hk, .nil, e => by
    cases e
    exact ⟨[], fp, .nil, hk, (fun a h => by cases h), fun a h => h, (fun a _ h => by cases h)⟩
  | .d x :: r, _, ρ, ρ', fp, os, hk, .cons h t, e => by
    simp only [Px.takeO, Option.map_eq_some_iff] at e
    obtain ⟨⟨os1, ρ1⟩, e, e2⟩ := e
    cases e2
    obtain ⟨fq, fz, h1, h2, h3, h4, h5⟩ := Hk.takeO hk t e
    cases h with
    | d h => exact ⟨_, fz, .cons (.d h) h1 (by simp), h2, by simpa using h3, h4, by simpa using h5⟩
  | .pin :: r, _, ρ, ρ', fp, os, hk, .cons h t, e => by simp [Px.takeO] at e
  | .own k :: r, _, ρ, ρ', fp, os, hk, .cons h t, e => by
    simp only [Px.takeO] at e
    split at e
    · rename_i os1 ρ1 e1
      split at e
      · rename_i o ho
        cases e
        obtain ⟨fq, fz, h1, h2, h3, h4, h5⟩ := Hk.takeO hk t e1
        obtain ⟨v', fo, h6, h7, h8, fy, h9, h10, h11⟩ := h2.own.cut ho
        cases h with
        | own h =>
          rw [h] at h6; cases h6
          refine ⟨_, fy, .cons h7 h1 fun a ha hq => h5 a (h8 a ha) hq, ⟨h2.le, h9⟩, fun a ha => ?_, fun a ha => h4 a (h10 a ha), fun a ha hq => ?_⟩
          · exact (List.mem_append.mp ha).elim (fun q => h4 a (h8 a q)) (h3 a)
          · exact (List.mem_append.mp hq).elim (h11 a ha) (h5 a (h10 a ha))
      · cases e
    · cases e
end
section
variable {X : Cx} {W : Wd} {w : WX} {es : List Expr} {g : AF} {pos apos cpos : Pos} {o : Expr} {fo : EF}
/-- a new owned list, owned things moved into it -/
def eLstM (g : AF) : EF := fun δ ρ => (g δ ρ).bind fun xs ρ1 => match takeO ρ1 xs with
  | some (os, ρ2) => if os.length ≤ SZ then .ok (.own ρ2.length) (ρ2 ++ [.lst os]) else .stuck
  | none => .stuck
theorem de_lstM (h : DA X W w g es) : DE X W w (eLstM g) (.List es pos) := wkE (pe_lst h) fun σ H Q ⟨Z, α, ρ, δ, fp, hk, loc, g0⟩ => by
  refine ⟨Z, α, ρ, δ, fp, hk, loc, (Goes.bind (R := ValL W) g0).mono fun vs H1 ⟨Z1, α1, ρ1, fp1, xs, s1, p1, hk1, rv, _, g1⟩ => ?_⟩
  split at g1
  · rename_i os ρ2 e
    split at g1
    · rename_i hz
      obtain ⟨fq, fz, h1, h2, h3, h4, h5⟩ := hk1.takeO rv e
      refine ⟨sz_line (by rw [h1.length]; exact hz), fun p hp => ?_⟩
      obtain ⟨zp, np⟩ := hk1.free hp
      have ne : ∀ a, H1 a ≠ none → a ≠ p := fun a ha z => ha (by rw [z]; exact hp)
      have nq : ∀ a ∈ fq, a ≠ p := fun a ha => ne a (h1.there a ha).2
      have nz : ∀ a ∈ fz, a ≠ p := fun a ha => ne a (h2.own.there a ha).2
      have o1 := h1.keep (H' := upd H1 p (.lst vs)) (Same.refl Z1) fun a ha => ⟨(h1.there a ha).1, upd_ne (nq a ha)⟩
      have o2 := h2.own.keep (H' := upd H1 p (.lst vs)) (Same.refl Z1) fun a ha => ⟨(h2.own.there a ha).1, upd_ne (nz a ha)⟩
      have o3 : Own W Z1 (upd H1 p (.lst vs)) (.ref p) (.lst os) (p :: fq) := .lst zp upd_same o1 fun z => nq p z rfl
      obtain ⟨fy, h7, h8⟩ := o2.snoc o3 fun a ha q => (List.mem_cons.mp q).elim (nz a ha) (h5 a ha)
      refine g1 Z1 (α1 ++ [.ref p]) _ fy (.ref p) ⟨Same.refl _, fun b h => .inl h, fun b h _ => upd_ne (ne b h), fun b h => by rw [upd_ne (ne b h)]; exact h, fun b hb => ?_⟩ (List.prefix_append _ _) ⟨fun b u q => ?_, h7⟩ (.own (r := ρ2.length) ?_)
      · rcases h8 b hb with z | z
        · exact .inl (h4 b z)
        · rcases List.mem_cons.mp z with z | z
          · exact .inr (by rw [z]; exact hp)
          · exact .inl (h3 b z)
      · have hb : b ≠ p := fun z => by rw [z, zp] at q; cases q
        rw [upd_ne hb]
        exact hk1.le b u q
      · rw [h2.own.length.symm, List.getElem?_append_right (Nat.le_refl _), Nat.sub_self]
        rfl
    · exact g1.elim
  · exact g1.elim
/-- o.append(e), e owned: moved -/
def eAppendM (fo : EF) (g : AF) : EF := fun δ ρ => (fo δ ρ).bind fun x ρ1 => match x with
  | .own r => match ρ1[r]? with
    | some (.lst _) => (g δ ρ1).bind fun ys ρ2 => match ys with
      | [.own k] => match ρ2[k]?, (ρ2.set k .x)[r]? with
        | some t, some (.lst os) => if os.length < SZ then .ok (.d .non) ((ρ2.set k .x).set r (.lst (os ++ [t]))) else .stuck
        | _, _ => .stuck
      | _ => .stuck
    | _ => .stuck
  | _ => .stuck
theorem de_appendM (hK : W.K = X.K) (ho : DE X W w fo o) (ha : DA X W w g es) (h : ∀ {to : TE} {t : TA}, PE X o to → PA X es t → PE X (.Call (.Attribute o "append" apos) es [] cpos) (tBM X.K "list" rAppend to t)) :
    DE X W w (eAppendM fo g) (.Call (.Attribute o "append" apos) es [] cpos) := wkE (h ho ha) fun σ H Q ⟨Z, α, ρ, δ, fp, hk, loc, g0⟩ => by
  refine ⟨Z, α, ρ, δ, fp, hk, loc, (Goes.bind (R := Val W) g0).mono fun x H1 ⟨Z1, α1, ρ1, fp1, xx, s1, p1, hk1, rx, _, g1⟩ => ?_⟩
  split at g1
  · split at g1
    · rename_i os0 e0
      obtain ⟨q, vs0, _, rfl, h4, _, _⟩ := rx.lstW hk1 e0
      refine ⟨.inl ⟨rfl, vs0, hK ▸ SqL.of h4⟩, Z1, α1, ρ1, δ, fp1, hk1, loc.mono s1.z p1, (Goes.bind (R := ValL W) g1).mono fun ys H2 ⟨Z2, α2, ρ2, fp2, yy, s2, p2, hk2, ry, _, g2⟩ => ?_⟩
      split at g2
      · split at g2
        · rename_i t os et e
          split at g2
          · rename_i hz
            obtain ⟨y, rfl, ry1⟩ := ry.one
            cases ry1 with
            | own ry1 =>
              obtain ⟨v', fo', h6, h7, h8, fz, h9, h10, h11⟩ := hk2.own.cut et
              rw [ry1] at h6; cases h6
              have hk3 : Hk W Z2 H2 α2 (ρ2.set _ .x) fz := ⟨hk2.le, h9⟩
              have rx2 := rx.mono s2.z p2
              cases rx2 with
              | own rx2 =>
                obtain ⟨v2, fo2, g6, g7, g8, wr⟩ := hk3.own.at e
                rw [rx2] at g6; cases g6
                cases g7 with
                | lst m3 m4 m5 m6 =>
                  rename_i vs fq
                  have nat : q ∉ fo' := fun z => h11 q (g8 q (List.mem_cons_self ..)) z
                  have hfq : ∀ b ∈ fq, b ≠ q := fun b hb z => m6 (by rw [← z]; exact hb)
                  have c5 := m5.keep (H' := upd H2 q (.lst (vs ++ [y]))) (Same.refl Z2) fun b hb => ⟨(m5.there b hb).1, upd_ne (hfq b hb)⟩
                  have c7 := h7.keep (H' := upd H2 q (.lst (vs ++ [y]))) (Same.refl Z2) fun b hb => ⟨(h7.there b hb).1, upd_ne fun z => nat (by rw [← z]; exact hb)⟩
                  obtain ⟨fn, n1, n2⟩ := c5.snoc c7 fun b hb hf => h11 b (g8 b (List.mem_cons_of_mem _ hb)) hf
                  have na : q ∉ fn := fun z => (n2 q z).elim m6 nat
                  have sd : ∀ b ∈ q :: fn, b ∈ q :: fq ∨ b ∉ fz := fun b hb => by
                    rcases List.mem_cons.mp hb with z | z
                    · exact .inl (List.mem_cons.mpr (.inl z))
                    · rcases n2 b z with z | z
                      · exact .inl (List.mem_cons_of_mem _ z)
                      · exact .inr fun zz => h11 b zz z
                  obtain ⟨fp', k1, k2⟩ := wr (upd H2 q (.lst (vs ++ [y]))) (.ref q) (.lst (os ++ [t])) (q :: fn) (fun b _ hn => upd_ne fun z => hn (by rw [z]; exact List.mem_cons_self ..)) (.lst m3 upd_same n1 na) sd
                  · rw [set_self rx2] at k1
                    have afp := h10 q (g8 q (List.mem_cons_self ..))
                    have fr : ∀ b, b ∉ fp2 → b ≠ q := fun b hn z => hn (by rw [z]; exact afp)
                    refine ⟨q, vs, y, rfl, rfl, m4, ?_, g2 Z2 α2 _ fp' .non ⟨Same.refl _, fun b h => .inl h, fun b h hn => upd_ne (fr b hn), fun b h => ?_, fun b hb => ?_⟩ (List.prefix_refl _) ⟨fun b u qq => ?_, k1⟩ (.d .non)⟩
                    · rw [m5.length]
                      have := sz_line (n := os.length + 1) (by omega)
                      omega
                    · by_cases hba : b = q
                      · rw [hba, upd_same]; exact fun z => nomatch z
                      · rw [upd_ne hba]; exact h
                    · rcases k2 b hb with z | z
                      · exact .inl (h10 b z)
                      · rcases List.mem_cons.mp z with z | z
                        · exact .inl (by rw [z]; exact afp)
                        · exact .inl ((n2 b z).elim (fun z => h10 b (g8 b (List.mem_cons_of_mem _ z))) (h8 b))
                    · have hb : b ≠ q := fun z => by rw [z, m3] at qq; cases qq
                      rw [upd_ne hb]
                      exact hk2.le b u qq
          · exact g2.elim
        · exact g2.elim
      · exact g2.elim
    · exact g1.elim
  · exact g1.elim
end
end Px

namespace Px
open PySem PySem.Spec PyProof.Rows L2

/-! ### a thing owned by a list, lent to a def -/
section
variable {W : Wd} {Z H : Hp}
theorem OwnL.at2 : ∀ {vs : List V} {os : List O} {fp : List Addr} {r : Nat} {o : O}, OwnL W Z H vs os fp → os[r]? = some o →
    ∃ v fo, vs[r]? = some v ∧ Own W Z H v o fo ∧ (∀ a ∈ fo, a ∈ fp) ∧
      ∀ (Z' H' : Hp) (o' : O) (fo' : List Addr), Same Z Z' → (∀ b ∈ fp, b ∉ fo → Z' b = none ∧ H' b = H b) → Own W Z' H' v o' fo' → (∀ b ∈ fo', b ∈ fo ∨ b ∉ fp) →
        ∃ fp', OwnL W Z' H' vs (os.set r o') fp' ∧ ∀ b ∈ fp', b ∈ fp ∨ b ∈ fo'
  | _, _, _, _, _, .nil, e => by simp at e
  | _, _, _, 0, _, .cons (fp := fp) (fq := fq) h t dj, e => by
    simp at e; subst e
    refine ⟨_, fp, rfl, h, fun a ha => List.mem_append_left _ ha, fun Z' H' o' fo' sz hH hO hf => ?_⟩
    have nq : ∀ a ∈ fq, a ∉ fp := fun a ha hp => dj a hp ha
    refine ⟨fo' ++ fq, .cons hO (t.keep sz fun a ha => hH a (List.mem_append_right _ ha) (nq a ha)) fun a ha hq => ?_, fun b hb => ?_⟩
    · rcases hf a ha with z | z
      · exact dj a z hq
      · exact z (List.mem_append_right _ hq)
    · exact (List.mem_append.mp hb).elim (fun z => .inr z) fun z => .inl (List.mem_append_right _ z)
  | _, _, _, r + 1, o, .cons (fp := fp) (fq := fq) h t dj, e => by
    obtain ⟨v, fo, h1, h2, h3, h4⟩ := OwnL.at2 (r := r) (o := o) t (by simpa using e)
    refine ⟨v, fo, by simpa using h1, h2, fun a ha => List.mem_append_right _ (h3 a ha), fun Z' H' o' fo' sz hH hO hf => ?_⟩
    have np : ∀ a ∈ fp, a ∉ fo := fun a ha hp => dj a ha (h3 a hp)
    obtain ⟨fq', h5, h6⟩ := h4 Z' H' o' fo' sz (fun b hb hn => hH b (List.mem_append_right _ hb) hn) hO fun b hb => (hf b hb).imp id fun z hq => z (List.mem_append_right _ hq)
    refine ⟨fp ++ fq', .cons (h.keep sz fun a ha => hH a (List.mem_append_left _ ha) (np a ha)) h5 fun a ha hq => ?_, fun b hb => ?_⟩
    · rcases h6 a hq with z | z
      · exact dj a ha z
      · rcases hf a z with y | y
        · exact np a ha y
        · exact y (List.mem_append_left _ ha)
    · rcases List.mem_append.mp hb with z | z
      · exact .inl (List.mem_append_left _ z)
      · exact (h6 b z).imp (fun y => List.mem_append_right _ y) id
end
inductive PV where
  | v (x : SV) | sub (r i : Nat)
inductive ValP (W : Wd) (Z H : Hp) (α : List V) : V → PV → Prop
  | v {v : V} {x : SV} : Val W Z α v x → ValP W Z H α v (.v x)
  | sub {a : Addr} {vs : List V} {v : V} {r i : Nat} : α[r]? = some (.ref a) → H a = some (.lst vs) → vs[i]? = some v → ValP W Z H α v (.sub r i)
inductive ValPL (W : Wd) (Z H : Hp) (α : List V) : List V → List PV → Prop
  | nil : ValPL W Z H α [] []
  | cons {v : V} {x : PV} {vs : List V} {xs : List PV} : ValP W Z H α v x → ValPL W Z H α vs xs → ValPL W Z H α (v :: vs) (x :: xs)
abbrev PF := Sto → Hs → Option PV
abbrev PFs := Sto → Hs → Option (List PV)
def tPu (W : Wd) (f : PF) : TE := fun σ H Q => ∃ Z α ρ δ fp, Hk W Z H α ρ fp ∧ Loc W Z α σ δ ∧ ∃ x, f δ ρ = some x ∧ ∀ v, ValP W Z H α v x → Q v H
def tPuA (W : Wd) (f : PFs) : TA := fun σ H Q => ∃ Z α ρ δ fp, Hk W Z H α ρ fp ∧ Loc W Z α σ δ ∧ ∃ x, f δ ρ = some x ∧ ∀ v, ValPL W Z H α v x → Q v H
/-- expressions that are only looked at -/
def DP (X : Cx) (W : Wd) (f : PF) (e : Expr) : Prop := PE X e (tPu W f)
def DPA (X : Cx) (W : Wd) (f : PFs) (e : List Expr) : Prop := PA X e (tPuA W f)
section
variable {X : Cx} {W : Wd} {w : WX} {a b e : Expr} {es : List Expr} {fa fb : PF} {g : PFs} {pos : Pos}
def pVar (i : Nat) : PF := fun δ ρ => match δ[i]? with
  | some (some x) => some (.v x)
  | _ => none
theorem dp_var {i : Nat} (h : PE X e (tVar i)) : DP X W (pVar i) e := wkE h fun σ H Q ⟨Z, α, ρ, δ, fp, hk, loc, x, ex, q⟩ => by
  unfold pVar at ex
  split at ex
  · rename_i y hy
    cases ex
    obtain ⟨v, e1, r⟩ := loc.get i y hy
    exact ⟨v, e1, q v (.v r)⟩
  · cases ex
def pC (d : D) : PF := fun _ _ => some (.v (.d d))
theorem dp_c {v : V} {d : D} (h : PE X e (tC v)) (hd : ∀ Z, Dat W Z v d) : DP X W (pC d) e := wkE h fun σ H Q ⟨Z, α, ρ, δ, fp, hk, loc, x, ex, q⟩ => by
  cases ex
  exact q v (.v (.d (hd Z)))
def pNil : PFs := fun _ _ => some []
def pCons (f : PF) (g : PFs) : PFs := fun δ ρ => match f δ ρ, g δ ρ with
  | some x, some xs => some (x :: xs)
  | _, _ => none
theorem dpa_nil : DPA X W pNil [] := wkA pa_nil fun σ H Q ⟨Z, α, ρ, δ, fp, hk, loc, x, ex, q⟩ => by
  cases ex
  exact q [] .nil
theorem dpa_cons (h : DP X W fa a) (k : DPA X W g es) (hs : starEach (a :: es) X.env = (false, eval a X.env) :: starEach es X.env := by rfl) : DPA X W (pCons fa g) (a :: es) := wkA (pa_cons h k hs) fun σ H Q ⟨Z, α, ρ, δ, fp, hk, loc, x, ex, q⟩ => by
  unfold pCons at ex
  split at ex
  · rename_i y ys e1 e2
    cases ex
    exact ⟨Z, α, ρ, δ, fp, hk, loc, y, e1, fun v rv => ⟨Z, α, ρ, δ, fp, hk, loc, ys, e2, fun vs rvs => q _ (.cons rv rvs)⟩⟩
  · cases ex
def pIx (fa fb : PF) : PF := fun δ ρ => match fa δ ρ, fb δ ρ with
  | some (.v (.own r)), some (.v (.d (.int j))) => match ρ[r]? with
    | some (.lst os) => match ixN os.length j with
      | some n => match os[n]? with
        | some (.d d) => some (.v (.d d))
        | some _ => some (.sub r n)
        | none => none
      | none => none
    | _ => none
  | some (.v (.d y)), some (.v (.d (.int j))) => match y.seq with
    | some l => (atI l j).map fun d => .v (.d d)
    | none => none
  | _, _ => none
theorem dp_ix (hK : W.K = X.K) (ha : DP X W fa a) (hb : DP X W fb b) (hs : PlainIx b) : DP X W (pIx fa fb) (.Subscript a b pos) := wkE (pe_ix ix_seq ha hb hs) fun σ H Q ⟨Z, α, ρ, δ, fp, hk, loc, x, ex, q⟩ => by
  unfold pIx at ex
  split at ex
  · rename_i r j e1 e2
    split at ex
    · rename_i os eo
      split at ex
      · rename_i n en
        refine ⟨Z, α, ρ, δ, fp, hk, loc, _, e1, fun v rv => ⟨Z, α, ρ, δ, fp, hk, loc, _, e2, fun u ru => ?_⟩⟩
        cases ru with
        | v ru =>
        cases ru.int
        cases rv with
        | v rv =>
        cases rv with
        | own rv =>
        obtain ⟨v', fo, h1, h2, _⟩ := hk.own.get eo
        rw [rv] at h1; cases h1
        cases h2 with
        | @lst A vs _ fq h3 h4 h5 h6 =>
        have en' : ixN vs.length j = some n := by rw [h5.length]; exact en
        split at ex
        · rename_i d ed
          cases ex
          obtain ⟨z, hz, dz⟩ := h5.getD ed
          refine .inl ⟨A, vs, j, z, rfl, rfl, .inl (.inl h4), ?_, q z (.v (.d dz))⟩
          unfold L2.atI
          rw [en']; exact hz
        · rename_i o nd eo2
          cases ex
          obtain ⟨z, _, hz, _⟩ := h5.get eo2
          refine .inl ⟨A, vs, j, z, rfl, rfl, .inl (.inl h4), ?_, q z (.sub rv h4 hz)⟩
          unfold L2.atI
          rw [en']; exact hz
        · cases ex
      · cases ex
    · cases ex
  · rename_i y j e1 e2
    split at ex
    · rename_i l el
      rw [Option.map_eq_some_iff] at ex
      obtain ⟨d, ed, rfl⟩ := ex
      refine ⟨Z, α, ρ, δ, fp, hk, loc, _, e1, fun v rv => ⟨Z, α, ρ, δ, fp, hk, loc, _, e2, fun u ru => ?_⟩⟩
      cases ru with
      | v ru =>
      cases ru.int
      cases rv with
      | v rv =>
      cases rv with
      | d rv =>
      obtain ⟨A, vs, rfl, h1, h2⟩ := rv.seq el
      obtain ⟨z, hz, hd⟩ := h2.atI ed
      rcases h1 with h1 | h1
      · exact .inl ⟨A, vs, j, z, rfl, rfl, hK ▸ hk.le.seq h1, hz, q z (.v (.d hd))⟩
      · exact .inr (.inl ⟨A, vs, j, z, rfl, rfl, hK ▸ Same.seqT hk.le h1, hz, q z (.v (.d hd))⟩)
    · cases ex
  · cases ex
def PV.ds : List PV → Option (List D)
  | [] => some []
  | .v (.d x) :: r => (PV.ds r).map (x :: ·)
  | _ => none
theorem ValPL.ds {Z H : Hp} {α : List V} : ∀ {vs : List V} {xs : List PV} {l : List D}, ValPL W Z H α vs xs → PV.ds xs = some l → DatL W Z vs l
  | _, _, _, .nil, e => by
    simp only [PV.ds, Option.some.injEq] at e
    subst e
    exact .nil
  | _, .v (.d x) :: xs, _, .cons h t, e => by
    simp only [PV.ds, Option.map_eq_some_iff] at e
    obtain ⟨l, e, rfl⟩ := e
    cases h with
    | v h =>
    cases h with
    | d h => exact .cons h (ValPL.ds t e)
  | _, .v (.own _) :: xs, _, .cons h t, e => by simp [PV.ds] at e
  | _, .v .pin :: xs, _, .cons h t, e => by simp [PV.ds] at e
  | _, .sub _ _ :: xs, _, .cons h t, e => by simp [PV.ds] at e
variable {k : Nat} {f : Addr} {fd : FuncData} {ps : List Str} {F : DF} {dvs : List V} {dds : List D} {ds : List Value} {x : Str} {p : Pos}
/-- f(X[i], ..), X[i] an owned thing: it is lent -/
def eCallB (F : DF) (g : PFs) (dds : List D) : EF := fun δ ρ => match g δ ρ with
  | some (.sub r i :: ys) => match PV.ds ys, ρ[r]? with
    | some l, some (.lst os) => match os[i]? with
      | some o => match F (.own 0 :: (l ++ dds).map SV.d) [o] with
        | .ok (.d y) [o'] => .ok (.d y) (ρ.set r (.lst (os.set i o')))
        | _ => .stuck
      | none => .stuck
    | _, _ => .stuck
  | _ => .stuck
theorem de_callB {j : Nat} (Fn : FnD X.prog X.w X.K X.mg X.base W k f fd ps F) (h : Here X w j) (hj : k ≤ j) (hg : Gl X x) (hm : X.mg x = some (.ref f)) (hk : PySem.W.keepIn X.K (.ref f) = true) (hb : Binds X.K fd ps ds) (hd : Vals dvs ds) (hdd : ∀ Z, DatL W Z dvs dds)
    (ha : DPA X W g (e :: es)) (hdb : (x == ("__debug__" : Str)) = false := by decide) (he : starEach (e :: es) X.env = (false, eval e X.env) :: starEach es X.env := by rfl)
    (hpl : (backTo pos (starEach es X.env)).any (·.1) = false := by rfl) : DE X W w (eCallB F g dds) (.Call (.Name x p) (e :: es) [] pos) :=
  wkE (pe_callG Fn.g h.gd (h.hr.mono hj) hg hm hk hb hd (fun σ => passAt h.tk σ) ha hdb he hpl) fun σ H Q ⟨Z, α, ρ, δ, fp, hk, loc, g0⟩ => by
    unfold eCallB at g0
    split at g0
    case h_2 => exact g0.elim
    rename_i r i ys eg
    split at g0
    case h_2 => exact g0.elim
    rename_i l os el eo
    split at g0
    case h_2 => exact g0.elim
    rename_i o eo2
    refine ⟨Z, α, ρ, δ, fp, hk, loc, _, eg, fun vs rvs => ?_⟩
    cases rvs with
    | @cons v _ vs _ h1 h2 =>
    cases h1 with
    | @sub A us _ _ _ h3 h4 h5 =>
    have dl := h2.ds el
    obtain ⟨v1, fo, a1, a2, a3, wr1⟩ := hk.own.at2 eo
    rw [h3] at a1; cases a1
    cases a2 with
    | @lst _ us' _ fq b1 b2 b3 b4 =>
    rw [h4] at b2; cases b2
    obtain ⟨v2, fc, c1, c2, c3, wr2⟩ := b3.at2 eo2
    rw [h5] at c1; cases c1
    have hkc : Hk W Z H [v] [o] (fc ++ []) := ⟨hk.le, .cons c2 .nil (fun _ _ z => by cases z)⟩
    have rva : ValL W Z [v] (v :: vs ++ dvs) (.own 0 :: (l ++ dds).map SV.d) := by
      refine .cons (.own rfl) ?_
      rw [List.map_append]
      exact dl.valL.app (hdd Z).valL
    refine Fn.sp (w := w) (σ := σ) hkc rva ?_
    split at g0
    case h_2 => exact g0.elim
    rename_i y o' eF
    rw [eF]
    intro Z' α' H' fp' u s p hk' ru
    have ln := hk'.own.length
    obtain ⟨t, rfl⟩ := p
    have et : t = [] := by
      cases t with
      | nil => rfl
      | cons _ _ => simp at ln
    subst et
    have dy : Dat W Z' u y := by
      cases ru with
      | d ru => exact ru
    have zn : ∀ b, H b ≠ none → Z b = none → b ∉ fc → Z' b = none ∧ H' b = H b := fun b hb zb nb => by
      have nb' : b ∉ fc ++ [] := by simpa using nb
      exact ⟨Classical.byContradiction fun n => (s.nz b n).elim (fun q => q zb) fun q => q.elim hb nb', s.fr b hb nb'⟩
    have own1 := hk'.own
    cases own1 with
    | @cons _ _ _ _ g1 g2 o1 o2 o3 =>
    cases o2
    have g1s : ∀ b ∈ g1, b ∈ fc ∨ H b = none := fun b hb => by
      have := s.fp b (List.mem_append_left _ hb)
      simpa using this
    have fqz : ∀ b ∈ fq, Z b = none ∧ H b ≠ none := fun b hb => b3.there b hb
    obtain ⟨fq', d1, d2⟩ := wr2 Z' H' o' g1 s.z (fun b hb nb => zn b (fqz b hb).2 (fqz b hb).1 nb) o1 fun b hb => (g1s b hb).imp id fun z q => (fqz b q).2 z
    have nA : A ∉ fc := fun z => b4 (c3 A z)
    have hA : H A ≠ none := by rw [h4]; exact fun z => nomatch z
    obtain ⟨zA, eA⟩ := zn A hA b1 nA
    have nA' : A ∉ fq' := fun z => (d2 A z).elim b4 fun z => (g1s A z).elim nA hA
    have fqn : ∀ b ∈ A :: fq', b ∈ A :: fq ∨ H b = none := fun b hb => by
      rcases List.mem_cons.mp hb with z | z
      · exact .inl (List.mem_cons.mpr (.inl z))
      · rcases d2 b z with z | z
        · exact .inl (List.mem_cons_of_mem _ z)
        · exact (g1s b z).imp (fun z => List.mem_cons_of_mem _ (c3 b z)) id
    obtain ⟨fp2, f1, f2⟩ := wr1 Z' H' (.lst (os.set i o')) (A :: fq') s.z (fun b hb nb => zn b (hk.own.there b hb).2 (hk.own.there b hb).1 fun z => nb (List.mem_cons_of_mem _ (c3 b z))) (.lst zA (eA.trans h4) d1 nA') fun b hb => (fqn b hb).imp id fun z q => (hk.own.there b q).2 z
    have fcp : ∀ b ∈ fc, b ∈ fp := fun b hb => a3 b (List.mem_cons_of_mem _ (c3 b hb))
    refine g0 Z' α H' fp2 u ⟨s.z, fun b hb => ?_, fun b hb nb => s.fr b hb (by simpa using fun z => nb (fcp b z)), s.st, fun b hb => ?_⟩ (List.prefix_refl _) ⟨hk'.le, f1⟩ (.d dy)
    · rcases s.nz b hb with z | z | z
      · exact .inl z
      · exact .inr (.inl z)
      · exact .inr (.inr (fcp b (by simpa using z)))
    · rcases f2 b hb with z | z
      · exact .inl z
      · exact (fqn b z).imp (a3 b) id
end
end Px

namespace Px
open PySem PySem.Spec PyProof.Rows L2

theorem takesNone {X : Cx} : Takes X W0 := fun _ _ x => by
  obtain ⟨_, _, _, _, _, _, _, _, _, _, _, _, _, _, _, _, z⟩ := x
  exact z.elim
section
variable {X : Cx} {W : Wd} {w : WX}
/-- where a comprehension's parts stand -/
theorem Here.blk {j : Nat} (h : Here X w j) (s : Shared) (H : Hp) (scope : Scope) (env : Env) (fp : List Addr) : Here (X.blk s H scope env fp) W0 j := ⟨h.gd, h.hr, takesNone⟩
theorem Here.less {j i : Nat} (h : Here X w j) (q : i ≤ j) : Here X w i := ⟨h.gd, h.hr.mono q, h.tk⟩
/-- y = [..] on one line, y a local -/
theorem ds_setLc {i : Nat} {y : Str} {py : Pos} {elt tg iter : Expr} {ifs : List Expr} {scope : Scope} {own : List (Str × Nat)} {pos spos : Pos} {fi : IF} {g : TG} {gt : CF} {fc : BF} {fe : EF} (ow : Bool) (hc : X.calm = true) (hN : X.N.Nodup) (hy : X.N[i]? = some y) (hyl : X.env.scope.names.lookup y = some .local)
    (hsw : swapsWith (.ListComp elt [⟨tg, iter, ifs, 0⟩] scope pos) (some (.Name y py)) spos.line X.env = pure true) (hi : DI X W w fi tg iter) (ok : BlkOk X.N X.env.scope scope own) (cg : CGo W g gt (own.map (·.2)))
    (hg : ∀ (s : Shared) (H : Hp) (C : Addr) (cl : List (Str × Addr)) (fp : List Addr), PG (X.blk s H scope (compEnvC scope cl C X.env) fp) tg g)
    (ht : ∀ (s : Shared) (H : Hp) (C : Addr) (cl : List (Str × Addr)) (fp : List Addr), DTs (X.blk s H scope (compEnvC scope cl C X.env) fp) W W0 fc ifs)
    (he : ∀ (s : Shared) (H : Hp) (C : Addr) (cl : List (Str × Addr)) (fp : List Addr), DE (X.blk s H scope (compEnvC scope cl C X.env) fp) W W0 fe elt) (hs : ∀ x, foldedSetIterable iter X.env x = pure x := by intro _; rfl) :
    DS X W w (sSet i (eComp ow fi gt (own.map (·.2)) fc fe)) (.Assign [.Name y py] (.ListComp elt [⟨tg, iter, ifs, 0⟩] scope pos) spos) :=
  wkS (ps_setLc hc hN hy hyl hsw hi ok hg ht he hs) fun D σ H ⟨Z, α, ρ, δ, fp, hk, loc, g0⟩ =>
    comp_go cg ⟨Z, α, ρ, δ, fp, hk, loc, (GoesS.of (R := Val W) hk loc g0).mono fun v H1 ⟨Z1, α1, ρ1, fp1, x, s1, p1, hk1, loc1, rv, _, g1⟩ => g1.next hk1 (loc1.set rv)⟩
theorem sv_rAdd : Serves2 W rAdd (iOp fun i j => some (.int (i + j))) := sv_iOp fun H i j d Q e k => by cases e; exact ⟨i, j, rfl, rfl, k _ fun _ => .int _⟩
theorem sv_rSub : Serves2 W rSub (iOp fSub) := sv_iOp fun H i j d Q e k => by cases e; exact ⟨i, j, rfl, rfl, k _ fun _ => .int _⟩
theorem sv_ipAdd : Serves2 W (ipI fun i j => i + j) (iOp fun i j => some (.int (i + j))) := sv_iOp fun H i j d Q e k => by cases e; exact ⟨i, j, rfl, rfl, k _ fun _ => .int _⟩
theorem sv_ipSub : Serves2 W (ipI fun i j => i - j) (iOp fSub) := sv_iOp fun H i j d Q e k => by cases e; exact ⟨i, j, rfl, rfl, k _ fun _ => .int _⟩
def fAdd (i j : Int) : Option D := some (.int (i + j))
end

section
variable {X : Cx} {W : Wd} {w : WX} {a b c : Expr} {fa fb fc : EF} {pos : Pos}
theorem two_go {r : R2} {g : D → D → Option D} (sv : Serves2 W r g) {σ : Sg} {H : Hp} {Q : VK} (h : tE W w (e2 g fa fb) σ H Q) : tOp r (tE W w fa) (tE W w fb) σ H Q := by
  obtain ⟨Z, α, ρ, δ, fp, hk, loc, g0⟩ := h
  refine ⟨Z, α, ρ, δ, fp, hk, loc, (Goes.bind (R := Val W) g0).mono fun v H1 ⟨Z1, α1, ρ1, fp1, x, s1, p1, hk1, rv, _, g1⟩ => ?_⟩
  refine ⟨Z1, α1, ρ1, δ, fp1, hk1, loc.mono s1.z p1, (Goes.bind (R := Val W) g1).mono fun u H2 ⟨Z2, α2, ρ2, fp2, y, s2, p2, hk2, ru, _, g2⟩ => ?_⟩
  split at g2
  · rename_i p q ep eq
    split at g2
    · rename_i d ed
      exact sv H2 v u p q d Q (Val.view hk2 (rv.mono s2.z p2) ep) (Val.view hk2 ru eq) ed fun z hz => g2.done hk2 (.d (hz _))
    · exact g2.elim
  · exact g2.elim
theorem bOf_go {σ : Sg} {H : Hp} {Q : Bool → Hp → Prop} (h : tBo W w (bOf fa) σ H Q) : tE W w fa σ H fun x H1 => ∃ c, x = .bl c ∧ Q c H1 := by
  obtain ⟨Z, α, ρ, δ, fp, hk, loc, g0⟩ := h
  refine ⟨Z, α, ρ, δ, fp, hk, loc, (Goes.bind (R := Val W) g0).mono fun v H1 ⟨Z1, α1, ρ1, fp1, x, s1, p1, hk1, rv, _, g1⟩ => ?_⟩
  split at g1
  · rename_i b
    exact ⟨_, rv.bl, g1.done hk1 rfl⟩
  · exact g1.elim
/-- a comparison as a test -/
theorem dt_two {r : R2} {g : D → D → Option D} (sv : Serves2 W r g) {e : Expr} (h : ∀ {ta tb : TE}, PE X a ta → PE X b tb → PT X e (tTest (tOp r ta tb))) (ha : DE X W w fa a) (hb : DE X W w fb b) : DT X W w (bOf (e2 g fa fb)) e :=
  wkT (h ha hb) fun σ H Q q => two_go sv (bOf_go q)
theorem dt_lt (ha : DE X W w fa a) (hb : DE X W w fb b) : DT X W w (bOf (e2 (iOp fLt) fa fb)) (.Compare a [.Lt] [b] pos) := dt_two sv_lt (fun h k => pt_cmpR op_lt h k (nomark _)) ha hb
theorem dt_le (ha : DE X W w fa a) (hb : DE X W w fb b) : DT X W w (bOf (e2 (iOp fLe) fa fb)) (.Compare a [.LtE] [b] pos) := dt_two sv_le (fun h k => pt_cmpR op_le h k (nomark _)) ha hb
theorem dt_gt (ha : DE X W w fa a) (hb : DE X W w fb b) : DT X W w (bOf (e2 (iOp fGt) fa fb)) (.Compare a [.Gt] [b] pos) := dt_two sv_gt (fun h k => pt_cmpR op_gt h k (nomark _)) ha hb
theorem dt_ge (ha : DE X W w fa a) (hb : DE X W w fb b) : DT X W w (bOf (e2 (iOp fGe) fa fb)) (.Compare a [.GtE] [b] pos) := dt_two sv_ge (fun h k => pt_cmpR op_ge h k (nomark _)) ha hb
theorem dt_eq (hu : HereU X) (hK : W.K = X.K) (ha : DE X W w fa a) (hb : DE X W w fb b) : DT X W w (bOf (e2 fEq fa fb)) (.Compare a [.Eq] [b] pos) := dt_two (sv_eq hK) (fun h k => pt_cmpR (op_eq.or (op_eqD hu.un)) h k (nomark _)) ha hb
theorem dt_ne (hu : HereU X) (hK : W.K = X.K) (ha : DE X W w fa a) (hb : DE X W w fb b) : DT X W w (bOf (e2 fNe fa fb)) (.Compare a [.NotEq] [b] pos) := dt_two (sv_ne hK) (fun h k => pt_cmpR (op_ne.or (op_neD hu.un)) h k (nomark _)) ha hb
theorem dt_isN (ha : DE X W w fa a) (hb : DE X W w fb b) : DT X W w (bOf (e2 fIsN fa fb)) (.Compare a [.Is] [b] pos) := dt_two sv_isN (fun h k => pt_cmpR op_isN h k (nomark _)) ha hb
theorem dt_notN (ha : DE X W w fa a) (hb : DE X W w fb b) : DT X W w (bOf (e2 fNotN fa fb)) (.Compare a [.IsNot] [b] pos) := dt_two sv_notN (fun h k => pt_cmpR op_notN h k (nomark _)) ha hb
theorem dt_in (hK : W.K = X.K) (ha : DE X W w fa a) (hb : DE X W w fb b) (hm : behindInMarks .In b = false) : DT X W w (bOf (e2 (fIn false) fa fb)) (.Compare a [.In] [b] pos) := dt_two (sv_in hK false) (fun h k => pt_cmpR op_in_seq h k hm) ha hb
theorem dt_notin (hK : W.K = X.K) (ha : DE X W w fa a) (hb : DE X W w fb b) (hm : behindInMarks .NotIn b = false) : DT X W w (bOf (e2 (fIn true) fa fb)) (.Compare a [.NotIn] [b] pos) := dt_two (sv_in hK true) (fun h k => pt_cmpR op_notIn_seq h k hm) ha hb
theorem chain_go {f g : Int → Int → Bool} {σ : Sg} {H : Hp} {Q : VK} (h : tE W w (eChain f g fa fb fc) σ H Q) : tChain (rI0 fun i j => .bl (f i j)) (rI0 fun i j => .bl (g i j)) (tE W w fa) (tE W w fb) (tE W w fc) σ H Q := by
  obtain ⟨Z, α, ρ, δ, fp, hk, loc, g0⟩ := h
  refine ⟨Z, α, ρ, δ, fp, hk, loc, (Goes.bind (R := Val W) g0).mono fun v H1 ⟨Z1, α1, ρ1, fp1, x, s1, p1, hk1, rv, _, g1⟩ => ?_⟩
  refine ⟨Z1, α1, ρ1, δ, fp1, hk1, loc.mono s1.z p1, (Goes.bind (R := Val W) g1).mono fun u H2 ⟨Z2, α2, ρ2, fp2, y, s2, p2, hk2, ru, _, g2⟩ => ?_⟩
  split at g2
  · cases rv.int; cases ru.int
    refine ⟨_, _, rfl, rfl, _, rfl, ?_⟩
    split at g2
    · rename_i hf
      rw [if_pos hf]
      refine ⟨Z2, α2, ρ2, δ, fp2, hk2, (loc.mono s1.z p1).mono s2.z p2, (Goes.bind (R := Val W) g2).mono fun t H3 ⟨Z3, α3, ρ3, fp3, z, s3, p3, hk3, rt, _, g3⟩ => ?_⟩
      split at g3
      · cases rt.int
        exact ⟨_, _, rfl, rfl, g3.done hk3 (.d (.bl _))⟩
      · exact g3.elim
    · rename_i hf
      rw [if_neg hf]
      exact g2.done hk2 (.d (.bl _))
  · exact g2.elim
theorem dt_chain {op op' : CmpOp} {f g : Int → Int → Bool} (h : ∀ {ta tb tc : TE}, PE X a ta → PE X b tb → PE X c tc → PT X (.Compare a [op, op'] [b, c] pos) (tTest (tChain (rI0 fun i j => .bl (f i j)) (rI0 fun i j => .bl (g i j)) ta tb tc)))
    (ha : DE X W w fa a) (hb : DE X W w fb b) (hc : DE X W w fc c) : DT X W w (bOf (eChain f g fa fb fc)) (.Compare a [op, op'] [b, c] pos) := wkT (h ha hb hc) fun σ H Q q => chain_go (bOf_go q)
end
/-- a def with defaults, bound -/
theorem funx_mk {K : PySem.W.Frag} {x qual : Str} {st : Stmt} {f : Addr} {oc : Value} {od an : Option Addr} {osl : Array (Option Value)} {dV kV doc pm cdv ct : Value} (l : K.lookup f = some ⟨oc, od, .func (PySem.W.fnOf x qual (defArgs st) (defBody st) (defScope st) dV kV doc pm an cdv ct), osl⟩)
    (c : PySem.W.codeIn K cdv qual = true) : FunX K x qual st f (PySem.W.fnOf x qual (defArgs st) (defBody st) (defScope st) dV kV doc pm an cdv ct) := ⟨⟨oc, od, dV, kV, doc, pm, an, cdv, ct, osl, rfl, l, c⟩⟩
theorem binds_of {K : PySem.W.Frag} {x qual : Str} {st : Stmt} {f T : Addr} {oc tc : Value} {od an td : Option Addr} {osl tsl : Array (Option Value)} {kV doc pm cdv ct : Value} {ps : List Str} {its : List Value} {m : Nat} (dvs : List V) (n j : Nat)
    (l : K.lookup f = some ⟨oc, od, .func (PySem.W.fnOf x qual (defArgs st) (defBody st) (defScope st) (.ref T) kV doc pm an cdv ct), osl⟩)
    (t : K.lookup T = some ⟨tc, td, .seq its.toArray m, tsl⟩) (r : Vals dvs its) (hn : n + (dvs.length - j) = ps.length)
    (h : ∀ (T : Addr) (kV doc pm : Value) (an : Option Addr) (cdv ct : Value) (us its : List Value), us.length = n → its.length = dvs.length →
      ∃ k, bindArgs (PySem.W.fnOf x qual (defArgs st) (defBody st) (defScope st) (.ref T) kV doc pm an cdv ct) ⟨us, []⟩ = seqItems? (.ref T) >>= k ∧ k (some its.toArray) = pure (ps.zip (us ++ its.drop j))) :
    Binds K (PySem.W.fnOf x qual (defArgs st) (defBody st) (defScope st) (.ref T) kV doc pm an cdv ct) ps (its.drop j) := by
  have l1 : its.length = dvs.length := r.length.symm
  intro s us X hlen
  have l2 : us.length = n := by
    rw [List.length_append, List.length_drop, l1] at hlen
    omega
  obtain ⟨k, e1, e2⟩ := h T kV doc pm an cdv ct us its l2 l1
  refine BindsTo.of_looks fun M => ?_
  rw [e1]
  exact looks_items X t rfl (.of_pure e2)
end Px

namespace Px
open PySem PySem.Spec PyProof.Rows L2

/-! ### the combinators, evaluated -/
section
variable {α β : Type} {δ : Sto} {ρ ρ1 : Hs} {f g h : SF} {fa fb fc fo fi : EF} {ga : AF} {b : Bool} {x y : SV} {i j k c : Nat} {l : List D} {d e : D}
@[simp] theorem exBind_ok (a : α) (k : α → Hs → Ex β) : (Ex.ok a ρ).bind k = k a ρ := rfl
@[simp] theorem exBind_rs (c : Nat) (l : List D) (k : α → Hs → Ex β) : (Ex.rs c l ρ).bind k = .rs c l ρ := rfl
@[simp] theorem exOut_ok (a : α) (k : α → Hs → Out) : (Ex.ok a ρ).out δ k = k a ρ := rfl
@[simp] theorem exOut_rs (c : Nat) (l : List D) (k : α → Hs → Out) : (Ex.rs c l ρ : Ex α).out δ k = .rs c l δ ρ := rfl
def Out.seq (r : Out) (g : SF) : Out := match r with
  | .nx δ1 ρ1 => g δ1 ρ1
  | r => r
@[simp] theorem seq_nx : (Out.nx δ ρ).seq g = g δ ρ := rfl
@[simp] theorem seq_rt : (Out.rt x ρ).seq g = .rt x ρ := rfl
@[simp] theorem seq_bk : (Out.bk δ ρ).seq g = .bk δ ρ := rfl
@[simp] theorem seq_ct : (Out.ct δ ρ).seq g = .ct δ ρ := rfl
@[simp] theorem seq_rs : (Out.rs c l δ ρ).seq g = .rs c l δ ρ := rfl
@[simp] theorem x_seq : sSeq f g δ ρ = (f δ ρ).seq g := by
  unfold sSeq Out.seq
  cases f δ ρ <;> rfl
@[simp] theorem x_next : sNext δ ρ = .nx δ ρ := rfl
@[simp] theorem x_break : sBreak δ ρ = .bk δ ρ := rfl
@[simp] theorem x_cont : sCont δ ρ = .ct δ ρ := rfl
@[simp] theorem x_expr : sExpr fa δ ρ = (fa δ ρ).out δ fun _ ρ1 => .nx δ ρ1 := rfl
@[simp] theorem x_ret : sRet fa δ ρ = (fa δ ρ).out δ fun x ρ1 => .rt x ρ1 := rfl
@[simp] theorem x_retN : sRetN δ ρ = .rt (.d .non) ρ := rfl
@[simp] theorem x_if {t : BF} : sIf t g h δ ρ = (t δ ρ).out δ fun b ρ1 => if b then g δ ρ1 else h δ ρ1 := rfl
@[simp] theorem x_set : sSet i fa δ ρ = (fa δ ρ).out δ fun x ρ1 => .nx (δ.set i (some x)) ρ1 := rfl
def asgC (o : Option (Sto × Hs)) : Out := match o with
  | some (δ1, ρ2) => .nx δ1 ρ2
  | none => .stuck
@[simp] theorem asgC_some : asgC (some (δ, ρ)) = .nx δ ρ := rfl
@[simp] theorem x_asg {gf : GF} : sAsg fa gf δ ρ = (fa δ ρ).out δ fun x ρ1 => asgC (gf x δ ρ1) := by
  unfold sAsg Ex.out asgC
  cases fa δ ρ <;> rfl
@[simp] theorem x_gset : gSet i x δ ρ = some (δ.set i (some x), ρ) := rfl
def varC (o : Option (Option SV)) (ρ : Hs) : Ex SV := match o with
  | some (some x) => .ok x ρ
  | _ => .stuck
@[simp] theorem varC_some : varC (some (some x)) ρ = .ok x ρ := rfl
@[simp] theorem x_var : eVar i δ ρ = varC δ[i]? ρ := rfl
@[simp] theorem x_c : eC d δ ρ = .ok (.d d) ρ := rfl
def optE (o : Option D) (ρ : Hs) : Ex SV := match o with
  | some d => .ok (.d d) ρ
  | none => .stuck
@[simp] theorem optE_some : optE (some d) ρ = .ok (.d d) ρ := rfl
def two (g : D → D → Option D) (a b : Option D) (ρ : Hs) : Ex SV := match a, b with
  | some p, some q => optE (g p q) ρ
  | _, _ => .stuck
@[simp] theorem two_some {g : D → D → Option D} : two g (some d) (some e) ρ = optE (g d e) ρ := rfl
@[simp] theorem x_two {g : D → D → Option D} : e2 g fa fb δ ρ = (fa δ ρ).bind fun x ρ1 => (fb δ ρ1).bind fun y ρ2 => two g (x.view ρ2) (y.view ρ2) ρ2 := by
  unfold e2
  refine congrArg _ (funext fun x => funext fun ρ1 => congrArg _ (funext fun y => funext fun ρ2 => ?_))
  unfold two optE
  cases x.view ρ2 with
  | none => rfl
  | some p =>
    cases y.view ρ2 with
    | none => rfl
    | some q => cases g p q <;> rfl
def oneC (g : D → Option D) (a : Option D) (ρ : Hs) : Ex SV := match a with
  | some p => optE (g p) ρ
  | _ => .stuck
@[simp] theorem oneC_some {g : D → Option D} : oneC g (some d) ρ = optE (g d) ρ := rfl
@[simp] theorem x_one {g : D → Option D} : e1 g fa δ ρ = (fa δ ρ).bind fun x ρ1 => oneC g (x.view ρ1) ρ1 := by
  unfold e1
  refine congrArg _ (funext fun x => funext fun ρ1 => ?_)
  unfold oneC optE
  cases x.view ρ1 with
  | none => rfl
  | some p => cases g p <;> rfl
@[simp] theorem view_d : SV.view ρ (.d d) = some d := rfl
@[simp] theorem view_own : SV.view ρ (.own i) = (ρ[i]?).bind O.toD := rfl
@[simp] theorem io_int {f : Int → Int → Option D} {i j : Int} : iOp f (.int i) (.int j) = f i j := rfl
def bC (x : SV) (ρ : Hs) : Ex Bool := match x with
  | .d (.bl b) => .ok b ρ
  | _ => .stuck
@[simp] theorem bC_bl : bC (.d (.bl b)) ρ = .ok b ρ := rfl
@[simp] theorem x_bof : bOf fa δ ρ = (fa δ ρ).bind bC := rfl
@[simp] theorem x_bnot {t : BF} : bNot t δ ρ = (t δ ρ).bind fun b ρ1 => .ok (!b) ρ1 := rfl
@[simp] theorem x_band {t u : BF} : bAnd t u δ ρ = (t δ ρ).bind fun b ρ1 => if b then u δ ρ1 else .ok false ρ1 := rfl
@[simp] theorem x_bor {t u : BF} : bOr t u δ ρ = (t δ ρ).bind fun b ρ1 => if b then .ok true ρ1 else u δ ρ1 := rfl
def andC (x : SV) (k : Ex SV) (ρ : Hs) : Ex SV := match x with
  | .d (.bl true) => k
  | .d (.bl false) => .ok (.d (.bl false)) ρ
  | _ => .stuck
@[simp] theorem andC_t {k : Ex SV} : andC (.d (.bl true)) k ρ = k := rfl
@[simp] theorem andC_f {k : Ex SV} : andC (.d (.bl false)) k ρ = .ok (.d (.bl false)) ρ := rfl
@[simp] theorem andC_b {k : Ex SV} : andC (.d (.bl b)) k ρ = if b then k else .ok (.d (.bl false)) ρ := by cases b <;> rfl
@[simp] theorem x_and : eAnd fa fb δ ρ = (fa δ ρ).bind fun x ρ1 => andC x (fb δ ρ1) ρ1 := rfl
def orC (x : SV) (k : Ex SV) (ρ : Hs) : Ex SV := match x with
  | .d (.bl true) => .ok (.d (.bl true)) ρ
  | .d (.bl false) => k
  | _ => .stuck
@[simp] theorem orC_b {k : Ex SV} : orC (.d (.bl b)) k ρ = if b then .ok (.d (.bl true)) ρ else k := by cases b <;> rfl
@[simp] theorem x_or : eOr fa fb δ ρ = (fa δ ρ).bind fun x ρ1 => orC x (fb δ ρ1) ρ1 := rfl
def notC (x : SV) (ρ : Hs) : Ex SV := match x with
  | .d (.bl b) => .ok (.d (.bl (!b))) ρ
  | _ => .stuck
@[simp] theorem notC_b : notC (.d (.bl b)) ρ = .ok (.d (.bl (!b))) ρ := rfl
@[simp] theorem x_not : eNot fa δ ρ = (fa δ ρ).bind notC := rfl
@[simp] theorem x_eif {t : BF} : eIf t fa fb δ ρ = (t δ ρ).bind fun b ρ1 => if b then fa δ ρ1 else fb δ ρ1 := rfl
@[simp] theorem x_anil : aNil δ ρ = .ok [] ρ := rfl
@[simp] theorem x_acons : aCons fa ga δ ρ = (fa δ ρ).bind fun x ρ1 => (ga δ ρ1).bind fun xs ρ2 => .ok (x :: xs) ρ2 := rfl
@[simp] theorem x_call {F : DF} {dds : List D} : eCall F ga dds δ ρ = (ga δ ρ).bind fun xs ρ1 => F (xs ++ dds.map SV.d) ρ1 := rfl
def dsL (own : Bool) (o : Option (List D)) (ρ : Hs) : Ex SV := match o with
  | some l => if l.length ≤ SZ then mkL own l ρ else .stuck
  | none => .stuck
@[simp] theorem dsL_some {own : Bool} : dsL own (some l) ρ = if l.length ≤ SZ then mkL own l ρ else .stuck := rfl
@[simp] theorem x_lst {own : Bool} : eLst own ga δ ρ = (ga δ ρ).bind fun xs ρ1 => dsL own (SV.ds xs) ρ1 := rfl
def dsT (o : Option (List D)) (ρ : Hs) : Ex SV := match o with
  | some l => if l.length ≤ SZ then .ok (.d (.tup l)) ρ else .stuck
  | none => .stuck
@[simp] theorem dsT_some : dsT (some l) ρ = if l.length ≤ SZ then .ok (.d (.tup l)) ρ else .stuck := rfl
@[simp] theorem x_tup : eTup ga δ ρ = (ga δ ρ).bind fun xs ρ1 => dsT (SV.ds xs) ρ1 := rfl
@[simp] theorem ds_nil' : SV.ds [] = some [] := rfl
@[simp] theorem ds_d {r : List SV} : SV.ds (.d d :: r) = (SV.ds r).map (d :: ·) := rfl
@[simp] theorem mkL_f : mkL false l ρ = .ok (.d (.lst l)) ρ := rfl
@[simp] theorem mkL_t : mkL true l ρ = .ok (.own ρ.length) (ρ ++ [.lst (l.map O.d)]) := rfl
def ixC (o : Option (List D)) (y : SV) (ρ : Hs) : Ex SV := match o, y with
  | some l, .d (.int i) => optE (atI l i) ρ
  | _, _ => .stuck
@[simp] theorem ixC_some {i : Int} : ixC (some l) (.d (.int i)) ρ = optE (atI l i) ρ := rfl
@[simp] theorem x_ix : eIx fa fb δ ρ = (fa δ ρ).bind fun x ρ1 => (fb δ ρ1).bind fun y ρ2 => ixC (seqA ρ2 x) y ρ2 := by
  unfold eIx
  refine congrArg _ (funext fun x => funext fun ρ1 => congrArg _ (funext fun y => funext fun ρ2 => ?_))
  unfold ixC optE
  cases seqA ρ2 x with
  | none => rfl
  | some l =>
    cases y with
    | own r => rfl
    | pin => rfl
    | d y =>
      cases y with
      | int i => first | (dsimp only; done) | (dsimp only; cases atI l i <;> rfl)
      | _ => rfl
@[simp] theorem seqA_t : seqA ρ (.d (.tup l)) = some l := rfl
@[simp] theorem seqA_l : seqA ρ (.d (.lst l)) = some l := rfl
@[simp] theorem seqA_s : seqA ρ (.d (.scr l)) = some l := rfl
def lstO (o : Option O) : Option (List D) := match o with
  | some (.lst os) => O.flat os
  | _ => none
@[simp] theorem lstO_some {os : List O} : lstO (some (.lst os)) = O.flat os := rfl
@[simp] theorem seqA_o : seqA ρ (.own i) = lstO ρ[i]? := rfl
@[simp] theorem seqL_l : seqL ρ (.d (.lst l)) = some l := rfl
@[simp] theorem seqL_s : seqL ρ (.d (.scr l)) = some l := rfl
@[simp] theorem seqL_o : seqL ρ (.own i) = lstO ρ[i]? := rfl
@[simp] theorem exL_l : exL ρ (.d (.lst l)) = some l := rfl
@[simp] theorem exL_o : exL ρ (.own i) = lstO ρ[i]? := rfl
@[simp] theorem seqT_t : seqT (.d (.tup l)) = some l := rfl
@[simp] theorem flat_map : O.flat (l.map O.d) = some l := by
  induction l with
  | nil => rfl
  | cons d l ih => simp only [List.map_cons, O.flat, ih, Option.map_some]
@[simp] theorem flat_nil : O.flat [] = some [] := rfl
@[simp] theorem flat_cons {os : List O} : O.flat (.d d :: os) = (O.flat os).map (d :: ·) := rfl
@[simp] theorem toDs_map : O.toDs (l.map O.d) = some l := by
  induction l with
  | nil => rfl
  | cons d l ih => simp [O.toDs, O.toD, ih]
@[simp] theorem toD_lmap : O.toD (.lst (l.map O.d)) = some (.lst l) := by simp [O.toD, toDs_map]
@[simp] theorem atI_nat (l : List α) (k : Nat) : atI l (k : Int) = l[k]? := by
  unfold atI ixN
  rw [if_pos (Int.natCast_nonneg k)]
  by_cases h : k < l.length
  · rw [if_pos (by omega)]; simp
  · rw [if_neg (by omega)]; simp; omega
@[simp] theorem atI_lit (l : List α) (k : Nat) : atI l (no_index (OfNat.ofNat k : Int)) = l[k]? := atI_nat l k
@[simp] theorem ixN_nat (n k : Nat) : ixN n (k : Int) = if k < n then some k else none := by
  unfold ixN
  rw [if_pos (Int.natCast_nonneg k)]
  by_cases h : k < n
  · rw [if_pos (by omega), if_pos h]; simp
  · rw [if_neg (by omega), if_neg h]
@[simp] theorem ixN_lit (n k : Nat) : ixN n (no_index (OfNat.ofNat k : Int)) = if k < n then some k else none := ixN_nat n k
@[simp] theorem x_ono : oNo δ ρ = .ok none ρ := rfl
def oC (x : SV) (ρ : Hs) : Ex (Option Int) := match x with
  | .d (.int i) => .ok (some i) ρ
  | _ => .stuck
@[simp] theorem oC_int {i : Int} : oC (.d (.int i)) ρ = .ok (some i) ρ := rfl
@[simp] theorem x_osome : oSome fa δ ρ = (fa δ ρ).bind oC := rfl
def slC (own : Bool) (o : Option (List D)) (i j : Option Int) (ρ : Hs) : Ex SV := match o with
  | some l => mkL own (cutD l i j) ρ
  | none => .stuck
@[simp] theorem slC_some {own : Bool} {i j : Option Int} : slC own (some l) i j ρ = mkL own (cutD l i j) ρ := rfl
@[simp] theorem x_sll {own : Bool} {lo hi : Sto → Hs → Ex (Option Int)} : eSlL own fa lo hi δ ρ = (fa δ ρ).bind fun x ρ1 => (lo δ ρ1).bind fun i ρ2 => (hi δ ρ2).bind fun j ρ3 => slC own (seqL ρ3 x) i j ρ3 := rfl
def slT (o : Option (List D)) (i j : Option Int) (ρ : Hs) : Ex SV := match o with
  | some l => if HT.sIx l.length 0 i = 0 ∧ HT.sIx l.length l.length j = l.length then .stuck else .ok (.d (.tup (cutD l i j))) ρ
  | none => .stuck
@[simp] theorem slT_some {i j : Option Int} : slT (some l) i j ρ = if HT.sIx l.length 0 i = 0 ∧ HT.sIx l.length l.length j = l.length then .stuck else .ok (.d (.tup (cutD l i j))) ρ := rfl
@[simp] theorem x_slt {lo hi : Sto → Hs → Ex (Option Int)} : eSlT fa lo hi δ ρ = (fa δ ρ).bind fun x ρ1 => (lo δ ρ1).bind fun i ρ2 => (hi δ ρ2).bind fun j ρ3 => slT (seqT x) i j ρ3 := rfl
@[simp] theorem x_eb {k : List SV → Hs → Ex SV} : eB ga k δ ρ = (ga δ ρ).bind k := rfl
def lenC (o : Option Nat) (ρ : Hs) : Ex SV := match o with
  | some n => .ok (.d (.int n)) ρ
  | none => .stuck
@[simp] theorem lenC_some {n : Nat} : lenC (some n) ρ = .ok (.d (.int n)) ρ := rfl
@[simp] theorem x_klen : kLen [x] ρ = lenC (lenO ρ x) ρ := rfl
@[simp] theorem lenO_l : lenO ρ (.d (.lst l)) = some l.length := rfl
@[simp] theorem lenO_s : lenO ρ (.d (.scr l)) = some l.length := rfl
@[simp] theorem lenO_t : lenO ρ (.d (.tup l)) = some l.length := rfl
def lenL (o : Option O) : Option Nat := match o with
  | some (.lst os) => some os.length
  | _ => none
@[simp] theorem lenL_some {os : List O} : lenL (some (.lst os)) = some os.length := rfl
@[simp] theorem lenO_o : lenO ρ (.own i) = lenL ρ[i]? := rfl
def k1C (f : D → Option D) (o : Option D) (ρ : Hs) : Ex SV := match o with
  | some p => optE (f p) ρ
  | none => .stuck
@[simp] theorem k1C_some {f : D → Option D} : k1C f (some d) ρ = optE (f d) ρ := rfl
@[simp] theorem x_k1 {f : D → Option D} : k1 f [x] ρ = k1C f (x.view ρ) ρ := by
  show (match x.view ρ with | some p => (match f p with | some d => Ex.ok (SV.d d) ρ | none => .stuck) | none => .stuck) = _
  unfold k1C optE
  cases x.view ρ with
  | none => rfl
  | some p => cases f p <;> rfl
@[simp] theorem x_k2 {f : Int → Int → D} {i j : Int} : k2 f [.d (.int i), .d (.int j)] ρ = .ok (.d (f i j)) ρ := rfl
def tupC (o : Option (List D)) (ρ : Hs) : Ex SV := match o with
  | some l => .ok (.d (.tup l)) ρ
  | none => .stuck
@[simp] theorem tupC_some : tupC (some l) ρ = .ok (.d (.tup l)) ρ := rfl
@[simp] theorem x_ktuple : kTuple [x] ρ = tupC (seqA ρ x) ρ := rfl
def lisC (own : Bool) (o : Option (List D)) (ρ : Hs) : Ex SV := match o with
  | some l => mkL own l ρ
  | none => .stuck
@[simp] theorem lisC_some {own : Bool} : lisC own (some l) ρ = mkL own l ρ := rfl
@[simp] theorem x_klist {own : Bool} : kList own [x] ρ = lisC own (seqA ρ x) ρ := rfl
@[simp] theorem fInt_int {i : Int} : fInt (.int i) = some (.int i) := rfl
@[simp] theorem fInt_bl : fInt (.bl b) = some (.int (if b then 1 else 0)) := rfl
@[simp] theorem fAbs_int {i : Int} : fAbs (.int i) = some (.int (if i < 0 then -i else i)) := rfl
@[simp] theorem fNeg_int {i : Int} : fNeg (.int i) = some (.int (-i)) := rfl
@[simp] theorem fAdd_e {i j : Int} : fAdd i j = some (.int (i + j)) := rfl
@[simp] theorem fSub_e {i j : Int} : fSub i j = some (.int (i - j)) := rfl
@[simp] theorem fMod_e {i j : Int} (h : j ≠ 0) : fMod i j = some (.int (i.fmod j)) := if_pos h
@[simp] theorem fLt_e {i j : Int} : fLt i j = some (.bl (decide (i < j))) := rfl
@[simp] theorem fLe_e {i j : Int} : fLe i j = some (.bl (decide (i ≤ j))) := rfl
@[simp] theorem fGt_e {i j : Int} : fGt i j = some (.bl (decide (j < i))) := rfl
@[simp] theorem fGe_e {i j : Int} : fGe i j = some (.bl (decide (j ≤ i))) := rfl
@[simp] theorem fEq_i {i j : Int} : fEq (.int i) (.int j) = some (.bl (decide (i = j))) := rfl
@[simp] theorem fEq_s {i j : Str} : fEq (.str i) (.str j) = some (.bl (decide (i = j))) := rfl
@[simp] theorem fEq_b {i j : Bool} : fEq (.bl i) (.bl j) = some (.bl (decide (i = j))) := rfl
@[simp] theorem fNe_i {i j : Int} : fNe (.int i) (.int j) = some (.bl (!decide (i = j))) := rfl
@[simp] theorem fNe_s {i j : Str} : fNe (.str i) (.str j) = some (.bl (!decide (i = j))) := rfl
@[simp] theorem fNe_b {i j : Bool} : fNe (.bl i) (.bl j) = some (.bl (!decide (i = j))) := rfl
@[simp] theorem fIsN_e {d : D} : fIsN d .non = some (.bl d.isN) := rfl
@[simp] theorem fNotN_e {d : D} : fNotN d .non = some (.bl (!d.isN)) := rfl
@[simp] theorem isN_n : D.isN .non = true := rfl
@[simp] theorem isN_i {i : Int} : D.isN (.int i) = false := rfl
@[simp] theorem isN_t : D.isN (.tup l) = false := rfl
@[simp] theorem isN_l : D.isN (.lst l) = false := rfl
@[simp] theorem isN_b : D.isN (.bl b) = false := rfl
@[simp] theorem isN_c : D.isN (.ins c l) = false := rfl
theorem shp (p : PyData) : SeqAt.shaped p = (p.canLay0 && decide (p.depth ≤ 64)) := rfl
theorem layInts : ∀ ns : List Int, ∃ ps : List PyData, D.toPs (ns.map D.int) = some ps ∧ ps.length = ns.length ∧ PyData.canLayAll0 ps = true ∧ PyData.depthAll ps = 0
  | [] => ⟨[], rfl, rfl, rfl, rfl⟩
  | n :: ns => by
    obtain ⟨ps, h1, h2, h3, h4⟩ := layInts ns
    refine ⟨.int n :: ps, ?_, by simp [h2], ?_, ?_⟩
    · simp [D.toPs, D.toP, h1]
    · simp [PyData.canLayAll0, PyData.canLay0, h3]
    · simp [PyData.depthAll, PyData.depth, h4]
/-- pool == [] -/
@[simp] theorem fEq_nil (ns : List Int) : fEq (.lst (ns.map D.int)) (.lst []) = some (.bl ns.isEmpty) := by
  obtain ⟨ps, h1, h2, h3, h4⟩ := layInts ns
  show shEq _ _ id = _
  unfold shEq
  rw [show D.toP (.lst (ns.map D.int)) = some (.list ps) from by simp [D.toP, h1], show D.toP (.lst []) = some (.list []) from rfl]
  have e1 : SeqAt.shaped (.list ps) = true := by simp [shp, PyData.canLay0, PyData.depth, h3, h4]
  have e2 : SeqAt.shaped (.list []) = true := by simp [shp, PyData.canLay0, PyData.depth, PyData.canLayAll0, PyData.depthAll]
  dsimp only
  rw [e1, e2]
  cases ns with
  | nil =>
    have : ps = [] := List.length_eq_zero_iff.mp h2
    subst this
    rfl
  | cons n ns =>
    cases ps with
    | nil => simp at h2
    | cons p ps => rfl
/-! attributes -/
def fldC (o : Option O) (c k : Nat) : Option D := match o with
  | some (.ins c' l) => if c' = c then match l[k]? with
      | some (.d y) => some y
      | _ => none
    else none
  | _ => none
def dO (o : Option O) : Option D := match o with
  | some (.d y) => some y
  | _ => none
@[simp] theorem dO_some : dO (some (.d d)) = some d := rfl
@[simp] theorem fldC_some {os : List O} : fldC (some (.ins c os)) c k = dO os[k]? := by
  unfold fldC dO
  simp
@[simp] theorem fld_o : fldOf ρ c k (.own i) = fldC ρ[i]? c k := rfl
@[simp] theorem fld_d : fldOf ρ c k (.d (.ins c l)) = l[k]? := if_pos rfl
@[simp] theorem x_fld : eFld c k fo δ ρ = (fo δ ρ).bind fun x ρ1 => optE (fldOf ρ1 c k x) ρ1 := by
  unfold eFld optE
  refine congrArg _ (funext fun x => funext fun ρ1 => ?_)
  cases fldOf ρ1 c k x <;> rfl
def putC (o : Option O) (c k : Nat) (y : D) : Option O := match o with
  | some (.ins c' l) => if c' = c ∧ k ≤ l.length then some (.ins c (if k < l.length then l.set k (.d y) else l ++ [.d y])) else none
  | _ => none
@[simp] theorem putC_some {os : List O} : putC (some (.ins c os)) c k d = if k ≤ os.length then some (.ins c (if k < os.length then os.set k (.d d) else os ++ [.d d])) else none := by
  unfold putC
  simp
@[simp] theorem put_o : putOf ρ c k d (.own i) = (putC ρ[i]? c k d).map fun o => ρ.set i o := by
  unfold putOf putC
  dsimp only
  cases ρ[i]? with
  | none => rfl
  | some o =>
    cases o with
    | ins c' l =>
      dsimp only
      split <;> rfl
    | _ => rfl
def setC (y : SV) (x : SV) (c k : Nat) (δ : Sto) (ρ : Hs) : Out := match y with
  | .d d => match putOf ρ c k d x with
    | some ρ3 => .nx δ ρ3
    | none => .stuck
  | _ => .stuck
def putN (o : Option Hs) (δ : Sto) : Out := match o with
  | some ρ3 => .nx δ ρ3
  | none => .stuck
@[simp] theorem putN_some : putN (some ρ) δ = .nx δ ρ := rfl
@[simp] theorem setC_d : setC (.d d) x c k δ ρ = putN (putOf ρ c k d x) δ := by
  unfold setC putN
  dsimp only
@[simp] theorem x_sfld : sFld c k fo fa δ ρ = (fa δ ρ).out δ fun y ρ1 => (fo δ ρ1).out δ fun x ρ2 => setC y x c k δ ρ2 := rfl
def augC (z : Option D) (gg : D → D → Option D) (fv : EF) (c k : Nat) (x : SV) (δ : Sto) (ρ : Hs) : Out := match z with
  | some z => (fv δ ρ).out δ fun y ρ2 => match y with
    | .d d => match gg z d with
      | some t => putN (putOf ρ2 c k t x) δ
      | none => .stuck
    | _ => .stuck
  | none => .stuck
def aug2 (z : D) (gg : D → D → Option D) (y : SV) (c k : Nat) (x : SV) (δ : Sto) (ρ : Hs) : Out := match y with
  | .d d => match gg z d with
    | some t => putN (putOf ρ c k t x) δ
    | none => .stuck
  | _ => .stuck
def aug3 (z : Option D) (c k : Nat) (x : SV) (δ : Sto) (ρ : Hs) : Out := match z with
  | some t => putN (putOf ρ c k t x) δ
  | none => .stuck
@[simp] theorem aug3_some : aug3 (some d) c k x δ ρ = putN (putOf ρ c k d x) δ := rfl
@[simp] theorem aug2_d {z : D} {gg : D → D → Option D} : aug2 z gg (.d d) c k x δ ρ = aug3 (gg z d) c k x δ ρ := by
  unfold aug2 aug3
  dsimp only
@[simp] theorem augC_some {z : D} {gg : D → D → Option D} : augC (some z) gg fa c k x δ ρ = (fa δ ρ).out δ fun y ρ2 => aug2 z gg y c k x δ ρ2 := rfl
@[simp] theorem x_fldaug {gg : D → D → Option D} : sFldAug c k fo fa gg δ ρ = (fo δ ρ).out δ fun x ρ1 => augC (fldOf ρ1 c k x) gg fa c k x δ ρ1 := by
  unfold sFldAug augC
  refine congrArg _ (funext fun x => funext fun ρ1 => ?_)
  cases fldOf ρ1 c k x with
  | none => rfl
  | some z =>
    dsimp only
    refine congrArg _ (funext fun y => funext fun ρ2 => ?_)
    cases y with
    | own r => rfl
    | pin => rfl
    | d d =>
      dsimp only
      cases gg z d with
      | none => rfl
      | some t => first | (unfold putN; dsimp only; done) | (unfold putN; dsimp only; cases putOf ρ2 c k t x <;> rfl)
@[simp] theorem x_gfld {d : D} : gFld c k i (.d d) δ ρ = match δ[i]? with
  | some (some x) => (putOf ρ c k d x).map fun ρ1 => (δ, ρ1)
  | _ => none := by
  unfold gFld
  cases δ[i]? with
  | none => rfl
  | some o => cases o <;> rfl
@[simp] theorem all_nil : gAll [] [] δ ρ = some (δ, ρ) := rfl
def allC (o : Option (Sto × Hs)) (gs : List GF) (ds : List D) : Option (Sto × Hs) := match o with
  | some (δ1, ρ1) => gAll gs ds δ1 ρ1
  | none => none
@[simp] theorem allC_some {gs : List GF} : allC (some (δ, ρ)) gs l = gAll gs l δ ρ := rfl
@[simp] theorem all_cons {gf : GF} {gs : List GF} : gAll (gf :: gs) (d :: l) δ ρ = allC (gf (.d d) δ ρ) gs l := rfl
def unC (o : Option (List D)) (n : Nat) (gs : List GF) (δ : Sto) (ρ : Hs) : Option (Sto × Hs) := match o with
  | some l => if l.length = n then gAll gs l δ ρ else none
  | none => none
@[simp] theorem unC_some {n : Nat} {gs : List GF} : unC (some l) n gs δ ρ = if l.length = n then gAll gs l δ ρ else none := rfl
@[simp] theorem x_gun {n : Nat} {gs : List GF} : gUn n gs x δ ρ = unC (seqA ρ x) n gs δ ρ := rfl
/-! lists that change -/
def lsO (o : Option O) : Option (List O) := match o with
  | some (.lst os) => some os
  | _ => none
@[simp] theorem lsO_some {os : List O} : lsO (some (.lst os)) = some os := rfl
def six (x k y : SV) (δ : Sto) (ρ3 : Hs) : Out := match x, k, y with
  | .own r, .d (.int j), .d d => match ρ3[r]? with
    | some (.lst os) => match ixN os.length j with
      | some n => .nx δ (ρ3.set r (.lst (os.set n (.d d))))
      | none => .stuck
    | _ => .stuck
  | _, _, _ => .stuck
@[simp] theorem x_setix : sSetIx fo fi fa δ ρ = (fa δ ρ).out δ fun y ρ1 => (fo δ ρ1).out δ fun x ρ2 => (fi δ ρ2).out δ fun k ρ3 => six x k y δ ρ3 := rfl
def six2 (o : Option (List O)) (i : Nat) (j : Int) (d : D) (δ : Sto) (ρ : Hs) : Out := match o with
  | some os => match ixN os.length j with
    | some n => .nx δ (ρ.set i (.lst (os.set n (.d d))))
    | none => .stuck
  | none => .stuck
@[simp] theorem six_e {j : Int} : six (.own i) (.d (.int j)) (.d d) δ ρ = six2 (lsO ρ[i]?) i j d δ ρ := by
  unfold six six2 lsO
  dsimp only
  cases ρ[i]? with
  | none => rfl
  | some o => cases o <;> rfl
def six3 (n : Option Nat) (os : List O) (i : Nat) (d : D) (δ : Sto) (ρ : Hs) : Out := match n with
  | some n => .nx δ (ρ.set i (.lst (os.set n (.d d))))
  | none => .stuck
@[simp] theorem six3_some {n : Nat} {os : List O} : six3 (some n) os i d δ ρ = .nx δ (ρ.set i (.lst (os.set n (.d d)))) := rfl
@[simp] theorem six2_some {j : Int} {os : List O} : six2 (some os) i j d δ ρ = six3 (ixN os.length j) os i d δ ρ := by
  unfold six2 six3
  dsimp only
def apC (x : SV) (ga : AF) (δ : Sto) (ρ1 : Hs) : Ex SV := match x with
  | .own r => match ρ1[r]? with
    | some (.lst _) => (ga δ ρ1).bind fun ys ρ2 => match ys, ρ2[r]? with
      | [.d d], some (.lst os) => if os.length < SZ then .ok (.d .non) (ρ2.set r (.lst (os ++ [.d d]))) else .stuck
      | _, _ => .stuck
    | _ => .stuck
  | _ => .stuck
@[simp] theorem x_append : eAppend fo ga δ ρ = (fo δ ρ).bind fun x ρ1 => apC x ga δ ρ1 := rfl
def ap2 (ys : List SV) (o : Option (List O)) (i : Nat) (ρ : Hs) : Ex SV := match ys, o with
  | [.d d], some os => if os.length < SZ then .ok (.d .non) (ρ.set i (.lst (os ++ [.d d]))) else .stuck
  | _, _ => .stuck
@[simp] theorem ap2_e {os : List O} : ap2 [.d d] (some os) i ρ = if os.length < SZ then .ok (.d .non) (ρ.set i (.lst (os ++ [.d d]))) else .stuck := rfl
@[simp] theorem apC_e (h : (lsO ρ[i]?).isSome = true) : apC (.own i) ga δ ρ = (ga δ ρ).bind fun ys ρ2 => ap2 ys (lsO ρ2[i]?) i ρ2 := by
  unfold apC
  dsimp only
  cases e : ρ[i]? with
  | none => rw [e] at h; cases h
  | some o =>
    rw [e] at h
    cases o with
    | lst os =>
      dsimp only
      refine congrArg _ (funext fun ys => funext fun ρ2 => ?_)
      unfold ap2 lsO
      cases ρ2[i]? with
      | none => split <;> simp_all
      | some o2 => cases o2 <;> (split <;> simp_all)
    | _ => cases h
def poC (x : SV) (ga : AF) (δ : Sto) (ρ1 : Hs) : Ex SV := match x with
  | .own r => match ρ1[r]? with
    | some (.lst _) => (ga δ ρ1).bind fun ys ρ2 => match ys, ρ2[r]? with
      | [.d (.int j)], some (.lst os) => match ixN os.length j with
        | some n => match os[n]? with
          | some (.d d) => if RG j then .ok (.d d) (ρ2.set r (.lst (os.eraseIdx n))) else .stuck
          | _ => .stuck
        | none => .stuck
      | _, _ => .stuck
    | _ => .stuck
  | _ => .stuck
@[simp] theorem x_popat : ePopAt fo ga δ ρ = (fo δ ρ).bind fun x ρ1 => poC x ga δ ρ1 := rfl
end
end Px

namespace Px
open PySem PySem.Spec PyProof.Rows L2

/-! ### sizes of ints -/
class Bd (n : outParam Nat) (i : Int) : Prop where
  lt : i.natAbs < 2 ^ n
theorem two_le {n m : Nat} (h : n ≤ m) : 2 ^ n ≤ 2 ^ m := Nat.pow_le_pow_right (by decide) h
theorem Bd.up {n m : Nat} {i : Int} (h : Bd n i) (q : n ≤ m) : Bd m i := ⟨Nat.lt_of_lt_of_le h.lt (two_le q)⟩
theorem Bd.le {n : Nat} {i : Int} (h : Bd n i) : i ≤ 2 ^ n ∧ -(2 ^ n) ≤ i := by
  have := h.lt
  have e : ((2 ^ n : Nat) : Int) = (2 : Int) ^ n := by simp
  omega
theorem sum_lt {n m : Nat} {a b : Nat} (h : a < 2 ^ n) (k : b < 2 ^ m) : a + b < 2 ^ (max n m + 1) := by
  have h1 : a < 2 ^ max n m := Nat.lt_of_lt_of_le h (two_le (Nat.le_max_left ..))
  have h2 : b < 2 ^ max n m := Nat.lt_of_lt_of_le k (two_le (Nat.le_max_right ..))
  rw [Nat.pow_succ]
  omega
instance Bd.add {n m : Nat} {i j : Int} [h : Bd n i] [k : Bd m j] : Bd (max n m + 1) (i + j) := ⟨Nat.lt_of_le_of_lt (Int.natAbs_add_le i j) (sum_lt h.lt k.lt)⟩
instance Bd.sub {n m : Nat} {i j : Int} [h : Bd n i] [k : Bd m j] : Bd (max n m + 1) (i - j) := ⟨Nat.lt_of_le_of_lt (by omega) (sum_lt h.lt k.lt)⟩
instance Bd.neg {n : Nat} {i : Int} [h : Bd n i] : Bd n (-i) := ⟨by rw [Int.natAbs_neg]; exact h.lt⟩
instance Bd.mul {n m : Nat} {i j : Int} [h : Bd n i] [k : Bd m j] : Bd (n + m) (i * j) := ⟨by
  rw [Int.natAbs_mul, Nat.pow_add]
  exact Nat.mul_lt_mul_of_lt_of_le h.lt (Nat.le_of_lt k.lt) (Nat.pow_pos (by decide))⟩
instance Bd.pow {n : Nat} {i : Int} [h : Bd n i] (k : Nat) : Bd (n * k + 1) (i ^ k) := ⟨by
  rw [Int.natAbs_pow, Nat.pow_succ, Nat.pow_mul]
  have := Nat.pow_le_pow_left (Nat.le_of_lt h.lt) k
  have p : 0 < (2 ^ n) ^ k := Nat.pow_pos (Nat.pow_pos (by decide))
  omega⟩
instance (priority := low) Bd.lit (k : Nat) : Bd (k + 1) (no_index (OfNat.ofNat k : Int)) := ⟨Nat.lt_trans (Nat.lt_succ_self k) Nat.lt_two_pow_self⟩
instance Bd.one : Bd 1 (1 : Int) := ⟨by decide⟩
instance Bd.zero : Bd 0 (0 : Int) := ⟨by decide⟩
instance Bd.ten : Bd 4 (10 : Int) := ⟨by decide⟩
instance Bd.nat (k : Nat) : Bd (k + 1) (k : Int) := ⟨Nat.lt_trans (Nat.lt_succ_self k) Nat.lt_two_pow_self⟩
theorem Bd.of {n : Nat} {i : Int} (h1 : -(2 ^ n) < i) (h2 : i < 2 ^ n) : Bd n i := ⟨by
  have e : ((2 ^ n : Nat) : Int) = (2 : Int) ^ n := by simp
  omega⟩
instance Bd.ite {n m : Nat} {c : Prop} [Decidable c] {i j : Int} [h : Bd n i] [k : Bd m j] : Bd (max n m) (if c then i else j) := by
  split
  · exact h.up (Nat.le_max_left ..)
  · exact k.up (Nat.le_max_right ..)
theorem Bd.log {n : Nat} {i : Int} (h : Bd n i) : i.natAbs.log2 ≤ n := by
  by_cases h0 : i.natAbs = 0
  · rw [h0]; exact Nat.zero_le _
  · exact Nat.le_of_lt ((Nat.log2_lt h0).mpr h.lt)
section
variable {n m : Nat} {i j : Int}
@[simp] theorem fMul_b [h : Bd n i] [k : Bd m j] (q : n + m < 1000000) : fMul i j = some (.int (i * j)) := if_pos (by have := h.log; have := k.log; omega)
@[simp] theorem fDiv_b [k : Bd m j] (h : j ≠ 0) (q : m < 9000) : fDiv i j = some (.int (i.fdiv j)) := if_pos ⟨h, by have := k.log; omega⟩
@[simp] theorem fPow_lit (k : Nat) (h : k ≤ 1000000) (h2 : i.natAbs < 2 ^ 64) : fPow i (no_index (OfNat.ofNat k : Int)) = some (.int (i ^ k)) := by
  have e : (OfNat.ofNat k : Int) = (k : Int) := rfl
  rw [e]
  exact if_pos ⟨Int.natCast_nonneg k, by omega, h2⟩
end
@[simp] theorem fPow_bd {n : Nat} {i : Int} (k : Nat) [b : Bd n i] (q : n ≤ 64) (h : k ≤ 1000000) : fPow i (no_index (OfNat.ofNat k : Int)) = some (.int (i ^ k)) := fPow_lit k h (Nat.lt_of_lt_of_le b.lt (two_le q))
/-! ### repr -/
def D.rep (d : D) : Str := match d.toP with
  | some p => p.shown
  | none => Str.empty
mutual
def D.fit : D → Bool
  | .non => true
  | .bl _ => true
  | .int i => decide (i.natAbs.log2 < 1920)
  | .str x => x.cps.toList.all fun c => decide (c < 16 ^ 8)
  | .tup l => D.fits l
  | .lst l => D.fits l
  | .scr l => D.fits l
  | .ins _ _ => false
def D.fits : List D → Bool
  | [] => true
  | d :: l => D.fit d && D.fits l
end
mutual
def D.dep : D → Nat
  | .tup l => D.deps l + 1
  | .lst l => D.deps l + 1
  | .scr l => D.deps l + 1
  | _ => 0
def D.deps : List D → Nat
  | [] => 0
  | d :: l => max (D.dep d) (D.deps l)
end
mutual
def D.blk : D → Nat
  | .str x => x.cps.size
  | .tup l => D.blks l
  | .lst l => D.blks l
  | .scr l => D.blks l
  | _ => 0
def D.blks : List D → Nat
  | [] => 0
  | d :: l => D.blk d + 1 + D.blks l
end
theorem short_int {i : Int} (h : i.natAbs.log2 < 1920) : PyData.leavesShort 1921 (.int i) = true := by
  have e := int_text_length_le (k := 1920) (by decide) h
  have e2 : (PyData.shown (.int i)).length ≤ 1921 := by
    show (Str.ofString (toString i)).length ≤ 1921
    rw [PySem.ofString_length]
    exact e
  simp only [PyData.leavesShort, decide_eq_true_eq]
  exact e2
mutual
theorem fit_ok : ∀ d : D, d.fit = true → ∃ p, d.toP = some p ∧ p.showable = true ∧ p.leavesShort 1921 = true ∧ p.depth = d.dep ∧ p.bulk = d.blk ∧ p.hasDict = false
  | .non, _ => ⟨.none, by simp [D.toP, PyData.showable, PyData.leavesShort, PyData.depth, PyData.bulk, PyData.hasDict, D.dep, D.blk]⟩
  | .bl b, _ => ⟨.bool b, by simp [D.toP, PyData.showable, PyData.leavesShort, PyData.depth, PyData.bulk, PyData.hasDict, D.dep, D.blk]⟩
  | .int i, h => by
    have h' : i.natAbs.log2 < 1920 := by simpa [D.fit] using h
    exact ⟨.int i, by simp [D.toP, PyData.showable, short_int h', h', PyData.depth, PyData.bulk, PyData.hasDict, D.dep, D.blk]⟩
  | .str x, h => by
    have h' : (x.cps.toList.all fun c => decide (c < 16 ^ 8)) = true := by simpa only [D.fit] using h
    refine ⟨.str x, rfl, by simp [PyData.showable], ?_, by simp [PyData.depth, D.dep], by simp [PyData.bulk, D.blk], by simp [PyData.hasDict]⟩
    simpa only [PyData.leavesShort] using h'
  | .tup l, h => by
    obtain ⟨ps, h1, h2, h3, h4, h5, h6⟩ := fits_ok l (by simpa only [D.fit] using h)
    exact ⟨.tuple ps, by simp [D.toP, h1], by simpa [PyData.showable] using h2, by simpa [PyData.leavesShort] using h3, by simp [PyData.depth, D.dep, h4], by simp [PyData.bulk, D.blk, h5], by simpa [PyData.hasDict] using h6⟩
  | .lst l, h => by
    obtain ⟨ps, h1, h2, h3, h4, h5, h6⟩ := fits_ok l (by simpa only [D.fit] using h)
    exact ⟨.list ps, by simp [D.toP, h1], by simpa [PyData.showable] using h2, by simpa [PyData.leavesShort] using h3, by simp [PyData.depth, D.dep, h4], by simp [PyData.bulk, D.blk, h5], by simpa [PyData.hasDict] using h6⟩
  | .scr l, h => by
    obtain ⟨ps, h1, h2, h3, h4, h5, h6⟩ := fits_ok l (by simpa only [D.fit] using h)
    exact ⟨.list ps, by simp [D.toP, h1], by simpa [PyData.showable] using h2, by simpa [PyData.leavesShort] using h3, by simp [PyData.depth, D.dep, h4], by simp [PyData.bulk, D.blk, h5], by simpa [PyData.hasDict] using h6⟩
  | .ins _ _, h => by simp [D.fit] at h
theorem fits_ok : ∀ l : List D, D.fits l = true → ∃ ps, D.toPs l = some ps ∧ PyData.showableAll ps = true ∧ PyData.leavesShortAll 1921 ps = true ∧ PyData.depthAll ps = D.deps l ∧ PyData.bulkAll ps = D.blks l ∧ PyData.hasDictAll ps = false
  | [], _ => ⟨[], by simp [D.toPs, PyData.showableAll, PyData.leavesShortAll, PyData.depthAll, PyData.bulkAll, PyData.hasDictAll, D.deps, D.blks]⟩
  | d :: l, h => by
    have h' : d.fit = true ∧ D.fits l = true := by simpa only [D.fits, Bool.and_eq_true] using h
    obtain ⟨p, a1, a2, a3, a4, a5, a6⟩ := fit_ok d h'.1
    obtain ⟨ps, h1, h2, h3, h4, h5, h6⟩ := fits_ok l h'.2
    exact ⟨p :: ps, by simp [D.toPs, a1, h1], by simp [PyData.showableAll, a2, h2], by simp [PyData.leavesShortAll, a3, h3], by simp [PyData.depthAll, D.deps, a4, h4], by simp [PyData.bulkAll, D.blks, a5, h5], by simp [PyData.hasDictAll, a6, h6]⟩
end
@[simp] theorem fRepr_e {d : D} (h : d.fit = true) (h2 : d.dep ≤ 60) (h3 : d.blk ≤ 8000) : fRepr d = some (.str d.rep) := by
  obtain ⟨p, a1, a2, a3, a4, a5, a6⟩ := fit_ok d h
  unfold fRepr D.rep
  rw [a1]
  dsimp only
  refine if_pos ?_
  unfold showP
  simp [a2, a3, a4, a5, a6, h2, h3]
@[simp] theorem fit_int {n : Nat} {i : Int} [h : Bd n i] (q : n < 1920) : D.fit (.int i) = true := by
  have := h.log
  simp only [D.fit, decide_eq_true_eq]
  omega
@[simp] theorem fit_lst {l : List D} : D.fit (.lst l) = D.fits l := by simp only [D.fit]
@[simp] theorem fit_tup {l : List D} : D.fit (.tup l) = D.fits l := by simp only [D.fit]
@[simp] theorem fit_bl {b : Bool} : D.fit (.bl b) = true := by simp only [D.fit]
@[simp] theorem fit_non : D.fit .non = true := by simp only [D.fit]
@[simp] theorem fits_nil : D.fits [] = true := by simp only [D.fits]
@[simp] theorem fits_cons {d : D} {l : List D} : D.fits (d :: l) = (D.fit d && D.fits l) := by simp only [D.fits]
@[simp] theorem dep_lst {l : List D} : D.dep (.lst l) = D.deps l + 1 := by simp only [D.dep]
@[simp] theorem dep_tup {l : List D} : D.dep (.tup l) = D.deps l + 1 := by simp only [D.dep]
@[simp] theorem dep_int {i : Int} : D.dep (.int i) = 0 := by simp only [D.dep]
@[simp] theorem dep_bl {b : Bool} : D.dep (.bl b) = 0 := by simp only [D.dep]
@[simp] theorem dep_non : D.dep .non = 0 := by simp only [D.dep]
@[simp] theorem deps_nil : D.deps [] = 0 := by simp only [D.deps]
@[simp] theorem deps_cons {d : D} {l : List D} : D.deps (d :: l) = max d.dep (D.deps l) := by simp only [D.deps]
@[simp] theorem blk_lst {l : List D} : D.blk (.lst l) = D.blks l := by simp only [D.blk]
@[simp] theorem blk_tup {l : List D} : D.blk (.tup l) = D.blks l := by simp only [D.blk]
@[simp] theorem blk_int {i : Int} : D.blk (.int i) = 0 := by simp only [D.blk]
@[simp] theorem blk_bl {b : Bool} : D.blk (.bl b) = 0 := by simp only [D.blk]
@[simp] theorem blk_non : D.blk .non = 0 := by simp only [D.blk]
@[simp] theorem blks_nil : D.blks [] = 0 := by simp only [D.blks]
@[simp] theorem blks_cons {d : D} {l : List D} : D.blks (d :: l) = d.blk + 1 + D.blks l := by simp only [D.blks]

/-! ### the rest of the combinators -/
section
variable {α β : Type} {δ : Sto} {ρ ρ1 : Hs} {f g h : SF} {fa fb fc fo : EF} {ga : AF} {b : Bool} {x y : SV} {i j k c n p m : Nat} {l : List D} {d e : D} {F : DF} {dds : List D} {xs : List SV}
@[simp] theorem toD_l {os : List O} : O.toD (.lst os) = (O.toDs os).map .lst := by simp only [O.toD]
@[simp] theorem toD_i {os : List O} : O.toD (.ins c os) = (O.toDs os).map (.ins c) := by simp only [O.toD]
@[simp] theorem toD_d : O.toD (.d d) = some d := by simp only [O.toD]
@[simp] theorem toDs_n : O.toDs [] = some [] := by simp only [O.toDs]
@[simp] theorem toDs_c {o : O} {os : List O} : O.toDs (o :: os) = (O.toD o).bind fun x => (O.toDs os).map (x :: ·) := by
  simp only [O.toDs, Option.bind_eq_bind]
  congr 1; funext x
  cases O.toDs os <;> rfl
def insC : Option O → Option Nat
  | some (.ins c _) => some c
  | _ => none
@[simp] theorem insC_some {os : List O} : insC (some (.ins c os)) = some c := rfl
@[simp] theorem ins_o : insOf ρ (.own i) = insC ρ[i]? := by
  unfold insOf insC
  first
  | (dsimp only; done)
  | (dsimp only
     cases ρ[i]? with
     | none => rfl
     | some o => cases o <;> rfl)
@[simp] theorem ins_d : insOf ρ (.d (.ins c l)) = some c := rfl
def meC (o : Option Nat) (c : Nat) (k : Ex SV) : Ex SV := match o with
  | some c' => if c' = c then k else .stuck
  | none => .stuck
@[simp] theorem meC_some {k : Ex SV} : meC (some c) c k = k := if_pos rfl
@[simp] theorem x_meth : eMeth c F fo ga dds δ ρ = (fo δ ρ).bind fun x ρ1 => meC (insOf ρ1 x) c ((ga δ ρ1).bind fun xs ρ2 => F (x :: (xs ++ dds.map SV.d)) ρ2) := rfl
def prC (r : Ex SV) : Ex SV := match r with
  | .ok y ρ2 => .ok y ρ2
  | _ => .stuck
@[simp] theorem prC_ok : prC (.ok x ρ) = .ok x ρ := rfl
@[simp] theorem x_prop : eProp c F fo δ ρ = (fo δ ρ).bind fun x ρ1 => meC (insOf ρ1 x) c (prC (F [x] ρ1)) := rfl
def mkC (r : Ex SV) (n : Nat) : Ex SV := match r with
  | .ok (.d .non) ρ2 => .ok (.own n) ρ2
  | .rs c' l ρ2 => .rs c' l (ρ2.take n)
  | _ => .stuck
@[simp] theorem mkC_ok : mkC (.ok (.d .non) ρ) n = .ok (.own n) ρ := rfl
@[simp] theorem mkC_rs : mkC (.rs c l ρ) n = .rs c l (ρ.take n) := rfl
@[simp] theorem x_make : eMake c F ga dds δ ρ = (ga δ ρ).bind fun xs ρ1 => mkC (F (.own ρ1.length :: (xs ++ dds.map SV.d)) (ρ1 ++ [.ins c []])) ρ1.length := rfl
def fzC (n : Nat) (x : SV) (ρ1 : Hs) : Ex SV := match x with
  | .pin => .stuck
  | .d y => .ok (.d y) ρ1
  | .own r => if n ≤ r ∧ r + 1 = ρ1.length then match (ρ1[r]?).bind O.toD with
      | some d => .ok (.d d) (ρ1.take r)
      | none => .stuck
    else .stuck
@[simp] theorem fzC_d : fzC n (.d d) ρ = .ok (.d d) ρ := rfl
def fz2 (o : Option D) (r : Nat) (ρ : Hs) : Ex SV := match o with
  | some d => .ok (.d d) (ρ.take r)
  | none => .stuck
@[simp] theorem fz2_some : fz2 (some d) i ρ = .ok (.d d) (ρ.take i) := rfl
@[simp] theorem fzC_o : fzC n (.own i) ρ = if n ≤ i ∧ i + 1 = ρ.length then fz2 ((ρ[i]?).bind O.toD) i ρ else .stuck := rfl
@[simp] theorem x_fz : eFz fo δ ρ = (fo δ ρ).bind fun x ρ1 => fzC ρ.length x ρ1 := rfl
def fzV (x : SV) (ρ1 : Hs) : Ex SV := match x with
  | .pin => .stuck
  | .d y => .ok (.d y) ρ1
  | .own r => match (ρ1[r]?).bind O.toD with
    | some d => .ok (.d d) (ρ1.set r .x)
    | none => .stuck
def fz3 (o : Option D) (r : Nat) (ρ : Hs) : Ex SV := match o with
  | some d => .ok (.d d) (ρ.set r .x)
  | none => .stuck
@[simp] theorem fz3_some : fz3 (some d) i ρ = .ok (.d d) (ρ.set i .x) := rfl
@[simp] theorem fzV_d : fzV (.d d) ρ = .ok (.d d) ρ := rfl
@[simp] theorem fzV_o : fzV (.own i) ρ = fz3 ((ρ[i]?).bind O.toD) i ρ := rfl
@[simp] theorem x_fzV : eFzV fo δ ρ = (fo δ ρ).bind fzV := rfl
def sf2 (o : Option (Sto × Hs)) (f : SF) : Out := match o with
  | some (δ1, ρ1) => f δ1 ρ1
  | none => .stuck
@[simp] theorem sf2_some : sf2 (some (δ, ρ)) f = f δ ρ := rfl
def sf3 (o : Option (Option SV)) (i : Nat) (δ : Sto) (ρ : Hs) : Option (Sto × Hs) := match o with
  | some (some (.own r)) => match (ρ[r]?).bind O.toD with
    | some d => some (δ.set i (some (.d d)), ρ.set r .x)
    | none => none
  | some (some (.d _)) => some (δ, ρ)
  | _ => none
def sf4 (o : Option D) (i r : Nat) (δ : Sto) (ρ : Hs) : Option (Sto × Hs) := match o with
  | some d => some (δ.set i (some (.d d)), ρ.set r .x)
  | none => none
@[simp] theorem sf4_some : sf4 (some d) i j δ ρ = some (δ.set i (some (.d d)), ρ.set j .x) := rfl
@[simp] theorem sf3_o : sf3 (some (some (.own j))) i δ ρ = sf4 ((ρ[j]?).bind O.toD) i j δ ρ := rfl
@[simp] theorem sf3_d : sf3 (some (some (.d d))) i δ ρ = some (δ, ρ) := rfl
@[simp] theorem x_sfz : sFz i f δ ρ = sf2 (sf3 δ[i]? i δ ρ) f := rfl
@[simp] theorem x_for {fi : IF} {gt : GF} {fb : SF} : sFor fi gt fb δ ρ = (fi δ ρ).out δ fun ds ρ1 => sLoop gt fb ds δ ρ1 := rfl
@[simp] theorem loop_nil {gt : GF} {fb : SF} : sLoop gt fb [] δ ρ = .nx δ ρ := rfl
def lpB (r : Out) (k : SF) : Out := match r with
  | .nx δ2 ρ2 => k δ2 ρ2
  | .ct δ2 ρ2 => k δ2 ρ2
  | .bk δ2 ρ2 => .nx δ2 ρ2
  | r => r
@[simp] theorem lpB_nx {k : SF} : lpB (.nx δ ρ) k = k δ ρ := rfl
@[simp] theorem lpB_ct {k : SF} : lpB (.ct δ ρ) k = k δ ρ := rfl
@[simp] theorem lpB_bk {k : SF} : lpB (.bk δ ρ) k = .nx δ ρ := rfl
@[simp] theorem lpB_rt {k : SF} : lpB (.rt x ρ) k = .rt x ρ := rfl
@[simp] theorem lpB_rs {k : SF} : lpB (.rs c l δ ρ) k = .rs c l δ ρ := rfl
def lpA (o : Option (Sto × Hs)) (fb k : SF) : Out := match o with
  | some (δ1, ρ1) => lpB (fb δ1 ρ1) k
  | none => .stuck
@[simp] theorem lpA_some {fb k : SF} : lpA (some (δ, ρ)) fb k = lpB (fb δ ρ) k := rfl
theorem loop_cons {gt : GF} {fb : SF} {ds : List D} : sLoop gt fb (d :: ds) δ ρ = lpA (gt (.d d) δ ρ) fb (sLoop gt fb ds) := by
  unfold lpA lpB
  rw [sLoop]
  cases gt (.d d) δ ρ with
  | none => rfl
  | some q =>
    obtain ⟨δ1, ρ1⟩ := q
    dsimp only
    cases fb δ1 ρ1 <;> rfl
def r1C (xs : List SV) (ρ : Hs) : Ex (List D) := match xs with
  | [.d (.int j)] => if RG j then .ok (ups 0 j.toNat) ρ else .stuck
  | _ => .stuck
@[simp] theorem r1C_e {j : Int} : r1C [.d (.int j)] ρ = if RG j then .ok (ups 0 j.toNat) ρ else .stuck := rfl
@[simp] theorem x_range1 : iRange1 ga δ ρ = (ga δ ρ).bind r1C := rfl
def r2C (xs : List SV) (ρ : Hs) : Ex (List D) := match xs with
  | [.d (.int i), .d (.int j)] => if RG i ∧ RG j then .ok (ups i (j - i).toNat) ρ else .stuck
  | _ => .stuck
@[simp] theorem r2C_e {i j : Int} : r2C [.d (.int i), .d (.int j)] ρ = if RG i ∧ RG j then .ok (ups i (j - i).toNat) ρ else .stuck := rfl
@[simp] theorem x_range2 : iRange2 ga δ ρ = (ga δ ρ).bind r2C := rfl
def r3C (xs : List SV) (ρ : Hs) : Ex (List D) := match xs with
  | [.d (.int i), .d (.int j), .d (.int c)] => if c = -1 ∧ RG i ∧ RG j then .ok (downs i (i - j).toNat) ρ else .stuck
  | _ => .stuck
@[simp] theorem r3C_e {i j c : Int} : r3C [.d (.int i), .d (.int j), .d (.int c)] ρ = if c = -1 ∧ RG i ∧ RG j then .ok (downs i (i - j).toNat) ρ else .stuck := rfl
@[simp] theorem x_rangeD : iRangeD ga δ ρ = (ga δ ρ).bind r3C := rfl
@[simp] theorem rg_iff {i : Int} : RG i ↔ -1000000000000000 ≤ i ∧ i ≤ 1000000000000000 := Iff.rfl
theorem ups_s {lo : Int} {n : Nat} : ups lo (n + 1) = .int lo :: ups (lo + 1) n := rfl
@[simp] theorem ups_0 {lo : Int} : ups lo 0 = [] := rfl
theorem downs_s {lo : Int} {n : Nat} : downs lo (n + 1) = .int lo :: downs (lo - 1) n := rfl
@[simp] theorem downs_0 {lo : Int} : downs lo 0 = [] := rfl
@[simp] theorem ups_len : ∀ (n : Nat) (lo : Int), (ups lo n).length = n
  | 0, _ => rfl
  | n + 1, lo => by rw [ups, List.length_cons, ups_len n]
def sqC (x : SV) (ρ1 : Hs) : Ex (List D) := match frzL x with
  | some l => .ok l ρ1
  | none => match seqT x with
    | some l => .ok l ρ1
    | none => .stuck
@[simp] theorem sqC_l : sqC (.d (.lst l)) ρ = .ok l ρ := rfl
@[simp] theorem sqC_s : sqC (.d (.scr l)) ρ = .ok l ρ := rfl
@[simp] theorem sqC_t : sqC (.d (.tup l)) ρ = .ok l ρ := rfl
@[simp] theorem x_iseq : iSeq fa δ ρ = (fa δ ρ).bind sqC := rfl
def rvC (x : SV) (ρ1 : Hs) : Ex (List D) := match frzL x with
  | some l => .ok l.reverse ρ1
  | none => match seqT x with
    | some l => .ok l.reverse ρ1
    | none => .stuck
@[simp] theorem rvC_l : rvC (.d (.lst l)) ρ = .ok l.reverse ρ := rfl
@[simp] theorem rvC_t : rvC (.d (.tup l)) ρ = .ok l.reverse ρ := rfl
@[simp] theorem x_irev : iRev fa δ ρ = (fa δ ρ).bind rvC := rfl
@[simp] theorem x_comp {own : Bool} {fi : IF} {gt : CF} {vs : List Nat} {t : BF} : eComp own fi gt vs t fa δ ρ = (fi δ ρ).bind fun ds ρ1 => if ds.length ≤ SZ then (cLoop gt t fa (wipeD δ vs) ds ρ1 []).bind fun l ρ2 => mkL own l ρ2 else .stuck := rfl
@[simp] theorem wipe_nil : wipeD δ [] = δ := rfl
@[simp] theorem wipe_cons {vs : List Nat} : wipeD δ (i :: vs) = (wipeD δ vs).set i none := rfl
@[simp] theorem cl_nil {gt : CF} {t : BF} {acc : List D} : cLoop gt t fa δ [] ρ acc = .ok acc ρ := rfl
def clA (r : Ex SV) (k : D → Hs → Ex (List D)) : Ex (List D) := match r with
  | .ok (.d y) ρ2 => k y ρ2
  | _ => .stuck
@[simp] theorem clA_ok {k : D → Hs → Ex (List D)} : clA (.ok (.d d) ρ) k = k d ρ := rfl
def clB (r : Ex Bool) (k : Hs → Ex SV) (k1 : D → Hs → Ex (List D)) (k2 : Hs → Ex (List D)) : Ex (List D) := match r with
  | .ok true ρ1 => clA (k ρ1) k1
  | .ok false ρ1 => k2 ρ1
  | _ => .stuck
@[simp] theorem clB_t {k : Hs → Ex SV} {k1 : D → Hs → Ex (List D)} {k2 : Hs → Ex (List D)} : clB (.ok true ρ) k k1 k2 = clA (k ρ) k1 := rfl
@[simp] theorem clB_f {k : Hs → Ex SV} {k1 : D → Hs → Ex (List D)} {k2 : Hs → Ex (List D)} : clB (.ok false ρ) k k1 k2 = k2 ρ := rfl
def clC (o : Option Sto) (k : Sto → Ex (List D)) : Ex (List D) := match o with
  | some δ1 => k δ1
  | none => .stuck
@[simp] theorem clC_some {k : Sto → Ex (List D)} : clC (some δ) k = k δ := rfl
theorem cl_cons {gt : CF} {t : BF} {acc : List D} {ds : List D} : cLoop gt t fa δ (d :: ds) ρ acc = clC (gt d δ) fun δ1 => clB (t δ1 ρ) (fa δ1) (fun y ρ2 => cLoop gt t fa δ ds ρ2 (acc ++ [y])) fun ρ1 => cLoop gt t fa δ ds ρ1 acc := by
  rw [cLoop]
  unfold clC clB clA
  cases gt d δ with
  | none => rfl
  | some δ1 =>
    first
    | (dsimp only; done)
    | (dsimp only
       cases t δ1 ρ with
       | ok b ρ1 =>
         cases b with
         | true =>
           first
           | (dsimp only; done)
           | (dsimp only
              cases fa δ1 ρ1 with
              | ok x ρ2 => cases x <;> rfl
              | _ => rfl)
         | false => rfl
       | _ => rfl)
@[simp] theorem x_cset : cSet i d δ = some (δ.set i (some (.d d))) := rfl
@[simp] theorem x_yes : bYes δ ρ = .ok true ρ := rfl
/-- each element leaves the roots as they are -/
theorem cl_map {gt : CF} {t : BF} {G : D → D} : ∀ {ds : List D} {acc : List D}, (∀ d ∈ ds, ∃ δ1, gt d δ = some δ1 ∧ t δ1 ρ = .ok true ρ ∧ fa δ1 ρ = .ok (.d (G d)) ρ) → cLoop gt t fa δ ds ρ acc = .ok (acc ++ ds.map G) ρ
  | [], acc, _ => by simp
  | d :: ds, acc, h => by
    obtain ⟨δ1, h1, h2, h3⟩ := h d (List.mem_cons_self ..)
    rw [cl_cons, h1]
    simp [h2, h3, cl_map fun q hq => h q (List.mem_cons_of_mem _ hq)]
/-- each element keeps I -/
theorem cl_inv {gt : CF} {t : BF} {I : Hs → Prop} {P : D → Prop} : ∀ {ds : List D} {acc : List D} {ρ : Hs}, (∀ d ∈ ds, ∀ ρ, I ρ → ∃ δ1 y ρ1, gt d δ = some δ1 ∧ t δ1 ρ = .ok true ρ ∧ fa δ1 ρ = .ok (.d y) ρ1 ∧ P y ∧ I ρ1) → I ρ →
    ∃ ys ρ1, cLoop gt t fa δ ds ρ acc = .ok (acc ++ ys) ρ1 ∧ ys.length = ds.length ∧ (∀ y ∈ ys, P y) ∧ I ρ1
  | [], acc, ρ, _, hi => ⟨[], ρ, by simp, rfl, (by simp), hi⟩
  | d :: ds, acc, ρ, h, hi => by
    obtain ⟨δ1, y, ρ1, h1, h2, h3, h4, h5⟩ := h d (List.mem_cons_self ..) ρ hi
    obtain ⟨ys, ρ2, a1, a2, a3, a4⟩ := cl_inv (ds := ds) (acc := acc ++ [y]) (fun q hq => h q (List.mem_cons_of_mem _ hq)) h5
    refine ⟨y :: ys, ρ2, ?_, by simp [a2], ?_, a4⟩
    · rw [cl_cons, h1]
      simp [h2, h3, a1]
    · intro z hz
      rcases List.mem_cons.mp hz with q | q
      · rw [q]; exact h4
      · exact a3 z q
theorem x_fun {f : SF} : funOf p m f xs ρ = if xs.length = p then (f (xs.map some ++ List.replicate (m - xs.length) none) ρ).fin ρ.length else .stuck := rfl
@[simp] theorem fin_nx : (Out.nx δ ρ).fin n = .ok (.d .non) (ρ.take n) := rfl
@[simp] theorem fin_rt : (Out.rt x ρ).fin n = cutR n x ρ := rfl
@[simp] theorem fin_rs : (Out.rs c l δ ρ).fin n = .rs c l (ρ.take n) := rfl
@[simp] theorem cutR_d : cutR n (.d d) ρ = .ok (.d d) (ρ.take n) := rfl
def cutO (n : Nat) (o : Option O) (ρ : Hs) : Ex SV := match o with
  | some o => .ok (.own n) (ρ.take n ++ [o])
  | none => .stuck
@[simp] theorem cutO_some {o : O} : cutO n (some o) ρ = .ok (.own n) (ρ.take n ++ [o]) := rfl
@[simp] theorem cutR_o : cutR n (.own i) ρ = if i < n then .ok (.own i) (ρ.take n) else cutO n ρ[i]? ρ := rfl
/-! lent things -/
@[simp] theorem x_pvar : pVar i δ ρ = match δ[i]? with
  | some (some x) => some (.v x)
  | _ => none := rfl
@[simp] theorem x_pc : pC d δ ρ = some (.v (.d d)) := rfl
@[simp] theorem x_pnil : pNil δ ρ = some [] := rfl
@[simp] theorem x_pcons {f : PF} {g : PFs} : pCons f g δ ρ = match f δ ρ, g δ ρ with
  | some x, some xs => some (x :: xs)
  | _, _ => none := rfl
@[simp] theorem pds_nil : PV.ds [] = some [] := rfl
@[simp] theorem pds_cons {r : List PV} : PV.ds (.v (.d d) :: r) = (PV.ds r).map (d :: ·) := rfl
def addC (own : Bool) (x y : SV) (ρ2 : Hs) : Ex SV := match x, y with
  | .d (.int i), .d (.int j) => .ok (.d (.int (i + j))) ρ2
  | x, y => match exL ρ2 x, exL ρ2 y with
    | some l, some m => if l.length + m.length ≤ SZ then mkL own (l ++ m) ρ2 else .stuck
    | _, _ => .stuck
@[simp] theorem x_add {own : Bool} : eAdd own fa fb δ ρ = (fa δ ρ).bind fun x ρ1 => (fb δ ρ1).bind fun y ρ2 => addC own x y ρ2 := rfl
def addL (own : Bool) (a b : Option (List D)) (ρ : Hs) : Ex SV := match a, b with
  | some l, some m => if l.length + m.length ≤ SZ then mkL own (l ++ m) ρ else .stuck
  | _, _ => .stuck
@[simp] theorem addL_some {own : Bool} {l m : List D} : addL own (some l) (some m) ρ = if l.length + m.length ≤ SZ then mkL own (l ++ m) ρ else .stuck := rfl
@[simp] theorem addC_i {own : Bool} {i j : Int} : addC own (.d (.int i)) (.d (.int j)) ρ = .ok (.d (.int (i + j))) ρ := rfl
@[simp] theorem addC_ll {own : Bool} {l m : List D} : addC own (.d (.lst l)) (.d (.lst m)) ρ = addL own (some l) (some m) ρ := rfl
@[simp] theorem addC_lo {own : Bool} : addC own (.d (.lst l)) (.own i) ρ = addL own (some l) (exL ρ (.own i)) ρ := rfl
@[simp] theorem addC_ol {own : Bool} : addC own (.own i) (.d (.lst l)) ρ = addL own (exL ρ (.own i)) (some l) ρ := rfl
@[simp] theorem addC_oo {own : Bool} : addC own (.own i) (.own j) ρ = addL own (exL ρ (.own i)) (exL ρ (.own j)) ρ := rfl
def mulC (own : Bool) (x y : SV) (ρ2 : Hs) : Ex SV := match x, y with
  | .d (.int i), .d (.int j) => if i.natAbs.log2 + j.natAbs.log2 < 1000000 then .ok (.d (.int (i * j))) ρ2 else .stuck
  | x, .d (.int j) => match exL ρ2 x with
    | some l => if RG j ∧ l.length * j.toNat ≤ SZ then mkL own (List.replicate j.toNat l).flatten ρ2 else .stuck
    | none => .stuck
  | _, _ => .stuck
@[simp] theorem x_mul {own : Bool} : eMul own fa fb δ ρ = (fa δ ρ).bind fun x ρ1 => (fb δ ρ1).bind fun y ρ2 => mulC own x y ρ2 := rfl
@[simp] theorem mulC_l {own : Bool} {j : Int} : mulC own (.d (.lst l)) (.d (.int j)) ρ = if RG j ∧ l.length * j.toNat ≤ SZ then mkL own (List.replicate j.toNat l).flatten ρ else .stuck := rfl
theorem sz_e : SZ = 1000000 := rfl
end
end Px

namespace Px
open PySem PySem.Spec PyProof.Rows L2

/-! ### the law's pool of numbers -/
def izsO (p : List Int) : List O := (p.map D.int).map O.d
def izs (p : List Int) : O := .lst (izsO p)
@[simp] theorem lstO_ints {p : List Int} : lstO (some (izs p)) = some (p.map D.int) := flat_map
@[simp] theorem lsO_ints {p : List Int} : lsO (some (izs p)) = some (izsO p) := rfl
@[simp] theorem toD_ints {p : List Int} : O.toD (izs p) = some (.lst (p.map D.int)) := toD_lmap
@[simp] theorem intsO_len {p : List Int} : (izsO p).length = p.length := by simp [izsO]
theorem intsO_cons {a : Int} {p : List Int} : izsO (a :: p) = .d (.int a) :: izsO p := rfl
@[simp] theorem mkL_ints {p : List Int} {ρ : Hs} : mkL true (p.map D.int) ρ = .ok (.own ρ.length) (ρ ++ [izs p]) := rfl
def po2 (ys : List SV) (o : Option (List O)) (i : Nat) (ρ : Hs) : Ex SV := match ys, o with
  | [.d (.int j)], some os => match ixN os.length j with
    | some n => match os[n]? with
      | some (.d d) => if RG j then .ok (.d d) (ρ.set i (.lst (os.eraseIdx n))) else .stuck
      | _ => .stuck
    | none => .stuck
  | _, _ => .stuck
@[simp] theorem poC_e {i : Nat} {ga : AF} {δ : Sto} {ρ : Hs} (h : (lsO ρ[i]?).isSome = true) : poC (.own i) ga δ ρ = (ga δ ρ).bind fun ys ρ2 => po2 ys (lsO ρ2[i]?) i ρ2 := by
  unfold poC
  dsimp only
  cases e : ρ[i]? with
  | none => rw [e] at h; cases h
  | some o =>
    rw [e] at h
    cases o with
    | lst os =>
      dsimp only
      refine congrArg _ (funext fun ys => funext fun ρ2 => ?_)
      unfold po2 lsO
      cases ρ2[i]? with
      | none => split <;> simp_all
      | some o2 => cases o2 <;> (split <;> first | rfl | (rename_i q; cases q; rfl) | simp_all)
    | _ => cases h
@[simp] theorem po2_0 {i : Nat} {d : D} {os : List O} {ρ : Hs} : po2 [.d (.int 0)] (some (.d d :: os)) i ρ = .ok (.d d) (ρ.set i (.lst os)) := by simp [po2, ixN]
@[simp] theorem lit_map {p : List Int} {a : Int} : fEq (.lst (.int a :: p.map D.int)) (.lst []) = some (.bl false) := fEq_nil (a :: p)
@[simp] theorem fEq_nil' {p : List Int} : fEq (.lst (p.map D.int)) (.lst []) = some (.bl p.isEmpty) := fEq_nil p
@[simp] theorem fEq_nn : fEq (.lst []) (.lst []) = some (.bl true) := fEq_nil []
/-- the drawing of a digit -/
def Fpick : DF := funOf 2 3 (sSeq (sIf (bOf (e2 fEq (eVar 0) (eLst false aNil))) (sRet (eC (.int 0))) sNext) (sSeq (sSet 2 (e2 (iOp fMod) (eB (aCons (eIx (eVar 0) (eC (.int 0))) aNil) (k1 fInt)) (eVar 1))) (sSeq (sSetIx (eVar 0) (eC (.int 0)) (e2 (iOp fDiv) (e2 (iOp fSub) (eIx (eVar 0) (eC (.int 0))) (eVar 2)) (eVar 1))) (sSeq (sIf (bOr (bOf (e2 fEq (eIx (eVar 0) (eC (.int 0))) (eC (.int 0)))) (bOf (e2 fEq (eIx (eVar 0) (eC (.int 0))) (e1 fNeg (eC (.int 1)))))) (sExpr (ePopAt (eVar 0) (aCons (eC (.int 0)) aNil))) sNext) (sRet (eVar 2))))))
@[simp] theorem izs_fold {p : List Int} : O.lst (izsO p) = izs p := rfl
@[simp] theorem izs_set {p : List Int} {k : Nat} {b : Int} : (izsO p).set k (.d (.int b)) = izsO (p.set k b) := by simp [izsO, List.map_set]
@[simp] theorem izs_app {p : List Int} {b : Int} : izsO p ++ [.d (.int b)] = izsO (p ++ [b]) := by simp [izsO]
@[simp] theorem izs_get {p : List Int} {k : Nat} : (izsO p)[k]? = (p[k]?).map fun i => .d (.int i) := by simp [izsO, Option.map_map, Function.comp_def]
@[simp] theorem po2_ints {p : List Int} {a : Int} {i : Nat} {ρ : Hs} : po2 [.d (.int 0)] (some (izsO (a :: p))) i ρ = .ok (.d (.int a)) (ρ.set i (izs p)) := po2_0
theorem pick_ok (p : List Int) (m : Int) (ρt : Hs) (h : 0 < m) (hm : m < 2 ^ 1000) :
    ∃ (d : Int) (q : List Int), Fpick [.own 0, .d (.int m)] (izs p :: ρt) = .ok (.d (.int d)) (izs q :: ρt) ∧ 0 ≤ d ∧ d < m := by
  cases p with
  | nil =>
    refine ⟨0, [], ?_, Int.le_refl _, h⟩
    unfold Fpick
    simp [x_fun, sz_e]
  | cons a p =>
    have bm : Bd 1000 m := Bd.of (by omega) hm
    have hm0 : m ≠ 0 := by omega
    have e1 := Int.fmod_nonneg_of_pos a h
    have e2 := Int.fmod_lt_of_pos a h
    by_cases hz : (a - a.fmod m).fdiv m = 0 ∨ (a - a.fmod m).fdiv m = -1
    · refine ⟨a.fmod m, p, ?_, e1, e2⟩
      unfold Fpick
      rcases hz with hz | hz
      · simp [x_fun, sz_e, hm0, hz]
      · simp [x_fun, sz_e, hm0, hz]
    · rw [not_or] at hz
      refine ⟨a.fmod m, (a - a.fmod m).fdiv m :: p, ?_, e1, e2⟩
      unfold Fpick
      simp [x_fun, sz_e, hm0, hz.1, hz.2]

/-! ### lent things, moved things -/
section
variable {δ : Sto} {ρ : Hs} {F : DF} {dds : List D} {g : PFs} {r i k : Nat} {ys : List PV} {l : List D} {os : List O} {o o' : O} {d : D} {fo : EF} {ga : AF} {fa fb : PF}
def cb4 (q : Ex SV) (os : List O) (r i : Nat) (ρ : Hs) : Ex SV := match q with
  | .ok (.d y) [o'] => .ok (.d y) (ρ.set r (.lst (os.set i o')))
  | _ => .stuck
@[simp] theorem cb4_ok : cb4 (.ok (.d d) [o']) os r i ρ = .ok (.d d) (ρ.set r (.lst (os.set i o'))) := rfl
def cb3 (q : Option O) (F : DF) (l : List D) (dds : List D) (os : List O) (r i : Nat) (ρ : Hs) : Ex SV := match q with
  | some o => cb4 (F (.own 0 :: (l ++ dds).map SV.d) [o]) os r i ρ
  | none => .stuck
@[simp] theorem cb3_some : cb3 (some o) F l dds os r i ρ = cb4 (F (.own 0 :: (l ++ dds).map SV.d) [o]) os r i ρ := rfl
def cb2 (a : Option (List D)) (b : Option (List O)) (F : DF) (dds : List D) (r i : Nat) (ρ : Hs) : Ex SV := match a, b with
  | some l, some os => cb3 os[i]? F l dds os r i ρ
  | _, _ => .stuck
@[simp] theorem cb2_some : cb2 (some l) (some os) F dds r i ρ = cb3 os[i]? F l dds os r i ρ := rfl
def cb1 (a : Option (List PV)) (F : DF) (dds : List D) (ρ : Hs) : Ex SV := match a with
  | some (.sub r i :: ys) => cb2 (PV.ds ys) (lsO ρ[r]?) F dds r i ρ
  | _ => .stuck
@[simp] theorem cb1_some : cb1 (some (.sub r i :: ys)) F dds ρ = cb2 (PV.ds ys) (lsO ρ[r]?) F dds r i ρ := rfl
@[simp] theorem x_callB : eCallB F g dds δ ρ = cb1 (g δ ρ) F dds ρ := by
  unfold eCallB cb1
  cases g δ ρ with
  | none => rfl
  | some l =>
    cases l with
    | nil => rfl
    | cons a ys =>
      cases a with
      | v _ => rfl
      | sub r i =>
        dsimp only
        unfold cb2 lsO
        cases PV.ds ys with
        | none => rfl
        | some l =>
          cases ρ[r]? with
          | none => rfl
          | some o =>
            cases o with
            | lst os =>
              dsimp only
              unfold cb3
              cases os[i]? with
              | none => rfl
              | some o =>
                dsimp only
                unfold cb4
                rfl
            | _ => rfl
def pi3 (q : Option O) (r n : Nat) : Option PV := match q with
  | some (.d d) => some (.v (.d d))
  | some _ => some (.sub r n)
  | none => none
@[simp] theorem pi3_d : pi3 (some (.d d)) r i = some (.v (.d d)) := rfl
@[simp] theorem pi3_ins {c : Nat} : pi3 (some (.ins c os)) r i = some (.sub r i) := rfl
@[simp] theorem pi3_lst : pi3 (some (.lst os)) r i = some (.sub r i) := rfl
def pi2 (n : Option Nat) (os : List O) (r : Nat) : Option PV := match n with
  | some n => pi3 os[n]? r n
  | none => none
@[simp] theorem pi2_some : pi2 (some i) os r = pi3 os[i]? r i := rfl
def pi1 (a : Option (List O)) (r : Nat) (j : Int) : Option PV := match a with
  | some os => pi2 (ixN os.length j) os r
  | none => none
@[simp] theorem pi1_some {j : Int} : pi1 (some os) r j = pi2 (ixN os.length j) os r := rfl
def pi0 (a b : Option PV) (ρ : Hs) : Option PV := match a, b with
  | some (.v (.own r)), some (.v (.d (.int j))) => pi1 (lsO ρ[r]?) r j
  | some (.v (.d y)), some (.v (.d (.int j))) => match y.seq with
    | some l => (atI l j).map fun d => .v (.d d)
    | none => none
  | _, _ => none
@[simp] theorem pi0_o {j : Int} : pi0 (some (.v (.own r))) (some (.v (.d (.int j)))) ρ = pi1 (lsO ρ[r]?) r j := rfl
@[simp] theorem pi0_l {j : Int} : pi0 (some (.v (.d (.lst l)))) (some (.v (.d (.int j)))) ρ = (atI l j).map fun d => .v (.d d) := rfl
@[simp] theorem pi0_t {j : Int} : pi0 (some (.v (.d (.tup l)))) (some (.v (.d (.int j)))) ρ = (atI l j).map fun d => .v (.d d) := rfl
theorem pix_go (A B : Option PV) : (match A, B with
  | some (.v (.own r)), some (.v (.d (.int j))) => match ρ[r]? with
    | some (.lst os) => match ixN os.length j with
      | some n => match os[n]? with
        | some (.d d) => some (.v (.d d))
        | some _ => some (.sub r n)
        | none => none
      | none => none
    | _ => none
  | some (.v (.d y)), some (.v (.d (.int j))) => match y.seq with
    | some l => (atI l j).map fun d => PV.v (.d d)
    | none => none
  | _, _ => none) = pi0 A B ρ := by
  rcases A with _ | ((y | r | _) | ⟨r, n⟩)
  · rfl
  · rcases B with _ | ((z | r | _) | ⟨r, n⟩)
    · rfl
    · cases z <;> rfl
    · rfl
    · rfl
    · rfl
  · rcases B with _ | ((z | r' | _) | ⟨r', n⟩)
    · rfl
    · cases z with
      | int j =>
        rw [pi0_o]
        dsimp only
        unfold lsO
        cases ρ[r]? with
        | none => rfl
        | some o =>
          cases o with
          | lst os =>
            rw [pi1_some]
            dsimp only
            cases ixN os.length j with
            | none => rfl
            | some n =>
              rw [pi2_some]
              dsimp only
              cases os[n]? with
              | none => rfl
              | some o => cases o <;> rfl
          | _ => rfl
      | _ => rfl
    · rfl
    · rfl
    · rfl
  · rfl
  · rfl
@[simp] theorem x_pix : pIx fa fb δ ρ = pi0 (fa δ ρ) (fb δ ρ) ρ := pix_go _ _
def mvC (o : Option (List O × Hs)) : Ex SV := match o with
  | some (os, ρ2) => if os.length ≤ SZ then .ok (.own ρ2.length) (ρ2 ++ [.lst os]) else .stuck
  | none => .stuck
@[simp] theorem mvC_some : mvC (some (os, ρ)) = if os.length ≤ SZ then .ok (.own ρ.length) (ρ ++ [.lst os]) else .stuck := rfl
@[simp] theorem x_lstM : eLstM ga δ ρ = (ga δ ρ).bind fun xs ρ1 => mvC (takeO ρ1 xs) := rfl
@[simp] theorem takeO_nil : takeO ρ [] = some ([], ρ) := rfl
@[simp] theorem takeO_d {xs : List SV} : takeO ρ (.d d :: xs) = (takeO ρ xs).map fun (os, ρ1) => (.d d :: os, ρ1) := rfl
@[simp] theorem takeO_o {xs : List SV} : takeO ρ (.own k :: xs) = match takeO ρ xs with
    | some (os, ρ1) => match ρ1[k]? with
      | some o => some (o :: os, ρ1.set k .x)
      | none => none
    | none => none := rfl
@[simp] theorem x_appendM : eAppendM fo ga δ ρ = (fo δ ρ).bind fun x ρ1 => match x with
  | .own r => match ρ1[r]? with
    | some (.lst _) => (ga δ ρ1).bind fun ys ρ2 => match ys with
      | [.own k] => match ρ2[k]?, (ρ2.set k .x)[r]? with
        | some t, some (.lst os) => if os.length < SZ then .ok (.d .non) ((ρ2.set k .x).set r (.lst (os ++ [t]))) else .stuck
        | _, _ => .stuck
      | _ => .stuck
    | _ => .stuck
  | _ => .stuck := rfl
@[simp] theorem snoc_get : (ρ ++ [o])[ρ.length]? = some o := by simp
@[simp] theorem snoc_set : (ρ ++ [o]).set ρ.length o' = ρ ++ [o'] := by simp
@[simp] theorem snoc_take : (ρ ++ [o]).take ρ.length = ρ := by simp
@[simp] theorem snoc_take1 : (ρ ++ [o]).take (ρ.length + 1) = ρ ++ [o] := List.take_of_length_le (by simp)
end
end Px

namespace Px
open PySem PySem.Spec PyProof.Rows L2

/-! ### exceptions of own classes -/
/-- what the __init__ of an exception promises that puts its arguments into fields of its own, one after the other -/
def spX (C : Addr) (ns : List Str) : Sp := fun vs H Q _ => ∃ (a : Addr) (ys : List V), vs = .ref a :: ys ∧ ys.length = ns.length ∧ H a = some (exo a C none) ∧
  ∀ (d : Addr) (H' : Hp), H d = none → (∀ b, b ≠ a → b ≠ d → H' b = H b) → H' a = some (exo a C (some d)) → H' d = some (exd d (ns.zip ys).reverse) → Q .non H'
section
variable {P : Program} {w : World} {K : PySem.W.Frag} {mg : Str → Option Value} {base : Heap} {x qual : Str} {st : Stmt} {f C : Addr} {fd : FuncData} {f1 f2 a1 a2 : Str}
theorem fnX1 {s0 : Str} (T : OexC K C) (h1 : PySem.W.findIn K (.ref C) f1 = some none) (F : FunX K x qual st f fd) (S : FnScope [s0, a1] [s0, a1] (defScope st))
    (hb : ∀ (cdv : Value) (A : Around) (outer : List Env) (s : Shared) (H : Hp) (E : XK), PSs (cxOf CX0 P w K mg base [s0, a1] qual (defScope st) f cdv A outer s H E) (defBody st) (tOst K f1 (tVar 0) (tVar 1))) :
    FnOk P w K mg base CX0 1 f fd [s0, a1] (spX C [f1]) := by
  obtain ⟨oc, od, dV, kV, doc, pm, an, cdv, ct, osl, rfl, lk, hcd⟩ := F.ex
  refine fn_of lk hcd S (fun vs H Q E ⟨a, ys, e, l, _⟩ => by rw [e, List.length_cons, l]; rfl) fun A outer s H vs Q E hr ⟨a, ys, e, l, ha, q⟩ => ⟨_, hb cdv A outer s H E, ?_⟩
  subst e
  match ys, l with
  | [y], _ =>
    refine ⟨y, rfl, .ref a, rfl, a, C, rfl, T, h1, .inl ⟨ha, fun dx hdx hne => ?_⟩⟩
    exact q dx _ hdx (fun b b1 b2 => by rw [upd_ne b1, upd_ne b2]) upd_same (by rw [upd_ne hne, upd_same]; rfl)
theorem fnX2 {s0 : Str} (T : OexC K C) (h1 : PySem.W.findIn K (.ref C) f1 = some none) (h2 : PySem.W.findIn K (.ref C) f2 = some none) (F : FunX K x qual st f fd) (S : FnScope [s0, a1, a2] [s0, a1, a2] (defScope st))
    (hb : ∀ (cdv : Value) (A : Around) (outer : List Env) (s : Shared) (H : Hp) (E : XK), PSs (cxOf CX0 P w K mg base [s0, a1, a2] qual (defScope st) f cdv A outer s H E) (defBody st) (tSeq (tOst K f1 (tVar 0) (tVar 1)) (tOst K f2 (tVar 0) (tVar 2)))) :
    FnOk P w K mg base CX0 1 f fd [s0, a1, a2] (spX C [f1, f2]) := by
  obtain ⟨oc, od, dV, kV, doc, pm, an, cdv, ct, osl, rfl, lk, hcd⟩ := F.ex
  refine fn_of lk hcd S (fun vs H Q E ⟨a, ys, e, l, _⟩ => by rw [e, List.length_cons, l]; rfl) fun A outer s H vs Q E hr ⟨a, ys, e, l, ha, q⟩ => ⟨_, hb cdv A outer s H E, ?_⟩
  subst e
  match ys, l with
  | [y, z], _ =>
    refine ⟨y, rfl, .ref a, rfl, a, C, rfl, T, h1, .inl ⟨ha, fun dx hdx hne => ?_⟩⟩
    refine ⟨z, rfl, .ref a, rfl, a, C, rfl, T, h2, .inr ⟨dx, [(f1, y)], upd_same, by rw [upd_ne hne, upd_same], by simp, ?_⟩⟩
    exact q dx _ hdx (fun b b1 b2 => by rw [upd_ne b2, upd_ne b1, upd_ne b2]) (by rw [upd_ne (Ne.symm hne), upd_same]) (by rw [upd_same]; rfl)
end
section
variable {X : Cx} {W : Wd} {w : WX} {j c n : Nat} {g : AF} {e : Expr} {es : List Expr} {x : Str} {fI : Addr} {fd : FuncData} {ps ns : List Str} {p pos cpos : Pos}
/-- raise C(e, ..): the fields, the youngest first -/
def sRaise (c n : Nat) (g : AF) : SF := fun δ ρ => (g δ ρ).out δ fun xs ρ1 => match SV.ds xs with
  | some l => if l.length = n then .rs c l.reverse δ ρ1 else .stuck
  | none => .stuck
theorem zip_fst : ∀ {ns : List Str} {ys : List V}, ys.length = ns.length → (ns.zip ys).map (·.1) = ns
  | [], [], _ => rfl
  | _ :: ns, _ :: ys, h => by rw [List.zip_cons_cons, List.map_cons, zip_fst (by simpa using h)]
  | [], _ :: _, h => by simp at h
  | _ :: _, [], h => by simp at h
theorem zip_snd : ∀ {ns : List Str} {ys : List V}, ys.length = ns.length → (ns.zip ys).map (·.2) = ys
  | [], [], _ => rfl
  | _ :: ns, _ :: ys, h => by rw [List.zip_cons_cons, List.map_cons, zip_snd (by simpa using h)]
  | [], _ :: _, h => by simp at h
  | _ :: _, [], h => by simp at h
theorem ds_raise (h : Here X w j) (hj : 2 ≤ j) (hc : X.calm = true) (T : OexC X.K (W.cl c)) (iC : PySem.W.findIn X.K (.ref (W.cl c)) "__init__" = some (some (.ref fI))) (tI : PySem.W.typeIn X.K (.ref fI) = some (.type "function"))
    (F1 : FnOk X.prog X.w X.K X.mg X.base CX0 1 fI fd ps (spX (W.cl c) ns)) (hb : Binds X.K fd ps []) (hg : Gl X x) (hm : X.mg x = some (.ref (W.cl c))) (hl : W.lay c = ns.reverse) (hn : ns.length = n) (hn2 : n ≤ 10) (ha : DA X W w g (e :: es))
    (hdb : (x == ("__debug__" : Str)) = false := by decide) (he : starEach (e :: es) X.env = (false, eval e X.env) :: starEach es X.env := by rfl) (hpl : (backTo cpos (starEach es X.env)).any (·.1) = false := by rfl) :
    DS X W w (sRaise c n g) (.Raise (some (.Call (.Name x p) (e :: es) [] cpos)) none pos) :=
  wkS (ps_raise hc h.tk (pmk_oex T iC tI F1 (h.hr.mono hj) hb .nil pass0 hg hm ha hdb he hpl)) fun D σ H ⟨Z, α, ρ, δ, fp, hk, loc, g0⟩ => by
    refine ⟨Z, α, ρ, δ, fp, hk, loc, (GoesS.of (R := ValL W) hk loc g0).mono fun vs H1 ⟨Z1, α1, ρ1, fp1, xs, s1, p1, hk1, loc1, rv, _, g1⟩ => ?_⟩
    split at g1
    case h_2 => exact g1.elim
    rename_i l el
    split at g1
    case isFalse => exact g1.elim
    rename_i hln
    have rd := rv.ds el
    have lv : vs.length = ns.length := by rw [rd.length, hln, hn]
    refine ⟨by omega, fun a na => ⟨a, vs ++ [], rfl, by rw [List.append_nil]; exact lv, upd_same, fun d H' hd hB ha' hd' => ⟨rfl, d, _, ha', hd', ?_, ?_⟩⟩⟩
    · have hda : d ≠ a := fun z => by rw [z, upd_same] at hd; cases hd
      rw [upd_ne hda] at hd
      exact hd
    · have hda : d ≠ a := fun z => by rw [z, upd_same] at hd; cases hd
      have hd1 : H1 d = none := by rw [upd_ne hda] at hd; exact hd
      rw [List.append_nil]
      have eH : upd (del H' a) d (.xd (ns.zip vs).reverse) = upd H1 d (.xd (ns.zip vs).reverse) := by
        funext b
        by_cases hb : b = d
        · rw [hb, upd_same, upd_same]
        · rw [upd_ne hb, upd_ne hb]
          by_cases hba : b = a
          · rw [hba, del_same, na]
          · rw [del_ne hba, hB b hba hb, upd_ne hba]
      rw [eH]
      obtain ⟨st, hk'⟩ := hk1.fresh (o := .xd (ns.zip vs).reverse) hd1
      refine g1 _ α1 σ _ fp1 (some d) st (List.prefix_refl _) hk' (loc1.mono st.z (List.prefix_refl _)) (.inr ⟨d, _, rfl, upd_same, ?_, ?_⟩)
      · rw [List.map_reverse, zip_fst lv, hl]
      · rw [List.map_reverse, zip_snd lv]
        exact rd.reverse.mono st.z
/-- raise C(), C without an __init__ of its own -/
def sRaise0 (c : Nat) : SF := fun δ ρ => .rs c [] δ ρ
theorem pmk_own0 {C : Addr} {bmB : List Value} {B newId initId : String} (F : ExcBaseFacts B newId initId bmB) (q : PySem.W.excIn X.K C bmB newId = true) (gC : X.mg x = some (.ref C)) (kC : PySem.W.keepIn X.K (.ref C) = true) (r : Raises X (.ref C)) (hg : Gl X x)
    (hdb : (x == ("__debug__" : Str)) = false := by decide) : PMk X (.Call (.Name x p) [] [] pos) (fun σ H Q => Q (.ref C) none H) := by
  intro pins s σ H Q I h
  refine wpAny_Call_Name_kw (ld_glob I hg gC ?_ hdb)
  refine PySem.W.callWith_K0 I.kIn kC ?_
  show wpAny _ _ (call (.ref C) []) _ _ _
  obtain ⟨bm, N, nm, qn, bs, hdct, sn, sub, ab, col, dd, k0, k1, k2, k3, k5, mN, hC, hN, hni, T⟩ := exc_obj I.kIn q
  refine wpAny_call_exc_subT F T hC hN hni (fun h' e hm => ?_) (by show 0 ≤ sizeLine; exact Nat.zero_le _)
  exact mk_of I hm r h (I.hok.gone hm.new)
theorem ds_raise0 {bmB : List Value} {B newId initId : String} (h : Here X w j) (hc : X.calm = true) (F : ExcBaseFacts B newId initId bmB) (q : PySem.W.excIn X.K (W.cl c) bmB newId = true) (gC : X.mg x = some (.ref (W.cl c))) (kC : PySem.W.keepIn X.K (.ref (W.cl c)) = true)
    (h1 : PySem.W.subIn X.K (.ref (W.cl c)) (.type "BaseException") = some true) (h2 : PySem.W.typeIn X.K (.ref (W.cl c)) = some (.type "type")) (hg : Gl X x) (hdb : (x == ("__debug__" : Str)) = false := by decide) :
    DS X W w (sRaise0 c) (.Raise (some (.Call (.Name x p) [] [] cpos)) none pos) :=
  wkS (ps_raise hc h.tk (pmk_own0 F q gC kC (raises_own h1 h2) hg hdb)) fun D σ H ⟨Z, α, ρ, δ, fp, hk, loc, g0⟩ =>
    g0 Z α σ H fp none (Step.refl _ _ _) (List.prefix_refl _) hk loc (.inl ⟨rfl, rfl⟩)
end
/-- the record of a class over ValueError with its own __init__ -/
def excOb (C : Addr) (ob : Obj) : Bool := match ob with
  | ⟨.type "type", _, .cls cd, sl⟩ => (match cd.mro, sl.toList with
    | .ref C' :: bm, [_, _, _, _, some (.builtin n), _] => C' == C && n == "ValueError.__new__" && !cd.hasDel && cd.hasDict && PySem.HandSPX.refsVE bm
    | _, _ => false)
  | _ => false
theorem excOb_cls {K : PySem.W.Frag} {C : Addr} {ob : Obj} (l : K.lookup C = some ob) (q : excOb C ob = true) : ∃ nm q N bs bm sn sub ab col dd k0 k1 k2 k3 k5, K.lookup C = some (excClassObj nm q C N bs bm true sn sub ab col dd k0 k1 k2 k3 k5 "ValueError.__new__") ∧ PySem.HandSPX.refsVE bm = true := by
  unfold excOb at q
  split at q
  · rename_i dd cd sl
    split at q
    · rename_i C' bm k0 k1 k2 k3 n k5 hm hs
      simp only [Bool.and_eq_true, beq_iff_eq, Bool.not_eq_true'] at q
      obtain ⟨⟨⟨⟨rfl, rfl⟩, hdel⟩, hdi⟩, hr⟩ := q
      obtain ⟨nm, bs, mro, ns, qn, hd, sn, sub, ab, col, del⟩ := cd
      dsimp only at hm hdel hdi
      subst hm hdel hdi
      have hsl : sl = #[k0, k1, k2, k3, some (.builtin "ValueError.__new__"), k5] := by
        obtain ⟨l⟩ := sl
        simp only at hs
        rw [hs]
      subst hsl
      exact ⟨nm, qn, ns, bs, bm, sn, sub, ab, col, dd, k0, k1, k2, k3, k5, l, hr⟩
    · cases q
  · cases q
/-! ### try .. except C as e -/
/-- the world of a suite: the exception in hand -/
def Wd.hold (W : Wd) (a : Addr) (c : Nat) (l : List D) (d : Option Addr) : Wd := { toWb := W.toWb, pin := fun v Z => v = .ref a ∧ ExD W Z c l d, pinM := fun v Z Z' s h => ⟨h.1, by
  rcases h.2 with z | ⟨dd, kvs, e1, e2, e3, e4⟩
  · exact .inl z
  · exact .inr ⟨dd, kvs, e1, s _ _ e2, e3, e4.mono s⟩⟩ }
def SV.isPin : SV → Bool
  | .pin => true
  | _ => false
def noPin (δ : Sto) : Bool := δ.all fun o => match o with
  | some .pin => false
  | _ => true
theorem noPin_at {δ : Sto} (h : noPin δ = true) {i : Nat} {x : SV} (e : δ[i]? = some (some x)) : x ≠ .pin := by
  intro q
  subst q
  have hm : some SV.pin ∈ δ := List.mem_of_getElem? e
  have := List.all_eq_true.mp h _ hm
  simp at this
theorem Val.shift {W W' : Wd} (hW : W.toWb = W'.toWb) {Z : Hp} {α : List V} {v : V} {x : SV} (h : Val W Z α v x) (n : x ≠ .pin) : Val W' Z α v x := by
  cases h with
  | d h => exact .d (hW ▸ h)
  | own h => exact .own h
  | pin _ => exact absurd rfl n
theorem Loc.shift {W W' : Wd} (hW : W.toWb = W'.toWb) {Z : Hp} {α : List V} {σ : Sg} {δ : Sto} (h : Loc W Z α σ δ) (n : noPin δ = true) : Loc W' Z α σ δ :=
  ⟨h.len, fun i x e => by
    obtain ⟨v, e1, r⟩ := h.get i x e
    exact ⟨v, e1, r.shift hW (noPin_at n e)⟩⟩
/-- behind a suite: the name is gone -/
def offS (i : Nat) (r : Out) : Out := match r with
  | .nx δ ρ => if noPin (δ.set i none) then .nx (δ.set i none) ρ else .stuck
  | .bk δ ρ => if noPin (δ.set i none) then .bk (δ.set i none) ρ else .stuck
  | .ct δ ρ => if noPin (δ.set i none) then .ct (δ.set i none) ρ else .stuck
  | .rt x ρ => if x.isPin then .stuck else .rt x ρ
  | _ => .stuck
def sTry (fb : SF) (c i : Nat) (fs : List D → SF) : SF := fun δ ρ => match fb δ ρ with
  | .rs c' l δ1 ρ1 => if c' = c ∧ noPin δ1 then offS i (fs l (δ1.set i (some .pin)) ρ1) else .stuck
  | r => r
section
variable {X : Cx} {W : Wd} {w : WX} {j c i : Nat} {fb : SF} {fs : List D → SF} {body suite : List Stmt} {b₀ : Stmt} {n x : Str} {np pos pos' : Pos}
theorem Here.tr (h : Here X w j) {w' : WX} {pn : List (Addr × Obj)} {xe : Value → Shared → Prop} (t : Takes (X.tr pn xe) w') : Here (X.tr pn xe) w' j := ⟨h.gd, h.hr, t⟩
theorem HereU.inSuite (h : HereU X) (a : Addr) (pn : List (Addr × Obj)) : HereU (X.suite a pn) := ⟨h.gd, h.un⟩
theorem ds_try (h : Here X w j) (hs : X.stack = X.env :: X.outer) (hf : X.env.frame = some X.env.locals) (hN : X.N.Nodup) (hi : X.N[i]? = some n) (hln : X.env.kindOf n = some .local) (hc : Names X x (.ref (W.cl c)))
    (hexm : PySem.W.exmOne X.K (.ref (W.cl c)) (.ref (W.cl c)) = some true)
    (hb : ∀ (w' : WX) (pn : List (Addr × Obj)) (xe : Value → Shared → Prop), Here (X.tr pn xe) w' j → PassesOwn (model X.prog X.w) X.A X.env xe → DSs (X.tr pn xe) W w' fb body)
    (hsu : ∀ (a : Addr) (oe : Obj) (d : Option Addr) (pn : List (Addr × Obj)) (l : List D), Zc (.ref (W.cl c)) d oe → (∃ vs, oe.data = .fields vs) → DSs (X.suite a ((a, oe) :: pn)) (W.hold a c l d) W0 (fs l) (b₀ :: suite)) :
    DS X W w (sTry fb c i fs) (.Try body [.ExceptHandler (some (.Name x np)) (some n) (b₀ :: suite) pos'] [] [] pos) :=
  wkS (ps_try_as (tb := fun w' => tS W w' fb) (ts := fun a cls d D σ H => ∃ l, cls = .ref (W.cl c) ∧ tS (W.hold a c l d) W0 (fs l) D σ H) hs hf hN hi hln hc h.tk (fun w' pn xe tk pw => hb w' pn xe (h.tr tk) pw)
    (fun a oe cls d pn hz hv => ⟨fun pins s σ H D I ⟨l, e, q⟩ => by
      subst e
      exact (hsu a oe d pn l hz hv).run pins s σ H D I q⟩)) fun D σ H ⟨Z, α, ρ, δ, fp, hk, loc, g0⟩ => by
    refine ⟨Z, α, ρ, δ, fp, hk, loc, ?_⟩
    unfold sTry at g0
    cases e : fb δ ρ with
    | nx δ1 ρ1 => rw [e] at g0; exact g0
    | bk δ1 ρ1 => rw [e] at g0; exact g0
    | ct δ1 ρ1 => rw [e] at g0; exact g0
    | rt x ρ1 => rw [e] at g0; exact g0
    | stuck => rw [e] at g0; exact g0
    | rs c' l δ1 ρ1 =>
      rw [e] at g0
      dsimp only at g0
      split at g0
      case isFalse => exact g0.elim
      rename_i hcn
      obtain ⟨rfl, np⟩ := hcn
      intro Z1 α1 σ1 H1 fp1 d s1 p1 hk1 loc1 ex
      refine ⟨true, hexm, fun _ a na => ⟨l, rfl, ?_⟩, fun z => by cases z⟩
      refine ⟨Z1, α1, ρ1, δ1.set i (some .pin), fp1, hk1, (Loc.shift (W := W) (W' := W.hold a c' l d) rfl loc1 np).set (.pin ⟨rfl, ex⟩), ?_⟩
      have fin : GoesS W w Z1 α1 fp1 H1 D (offS i (fs l (δ1.set i (some .pin)) ρ1)) := g0.shift s1 p1
      cases e2 : fs l (δ1.set i (some .pin)) ρ1 with
      | nx δ2 ρ2 =>
        rw [e2] at fin
        simp only [offS] at fin
        split at fin
        · rename_i n2
          intro Z2 α2 σ2 H2 fp2 s2 p2 hk2 loc2
          exact fin Z2 α2 _ H2 fp2 s2 p2 hk2 (Loc.shift (W := W.hold a c' l d) (W' := W) rfl (loc2.set_none i) n2)
        · exact fin.elim
      | bk δ2 ρ2 =>
        rw [e2] at fin
        simp only [offS] at fin
        split at fin
        · rename_i n2
          intro Z2 α2 σ2 H2 fp2 s2 p2 hk2 loc2
          exact fin Z2 α2 _ H2 fp2 s2 p2 hk2 (Loc.shift (W := W.hold a c' l d) (W' := W) rfl (loc2.set_none i) n2)
        · exact fin.elim
      | ct δ2 ρ2 =>
        rw [e2] at fin
        simp only [offS] at fin
        split at fin
        · rename_i n2
          intro Z2 α2 σ2 H2 fp2 s2 p2 hk2 loc2
          exact fin Z2 α2 _ H2 fp2 s2 p2 hk2 (Loc.shift (W := W.hold a c' l d) (W' := W) rfl (loc2.set_none i) n2)
        · exact fin.elim
      | rt x ρ2 =>
        rw [e2] at fin
        simp only [offS] at fin
        split at fin
        · exact fin.elim
        · rename_i n2
          intro Z2 α2 v H2 fp2 s2 p2 hk2 rv
          exact fin Z2 α2 v H2 fp2 s2 p2 hk2 (Val.shift (W := W.hold a c' l d) (W' := W) rfl rv fun q => by subst q; exact n2 rfl)
      | rs c2 l2 δ2 ρ2 => rw [e2] at fin; exact fin.elim
      | stuck => rw [e2] at fin; exact fin.elim
/-- e.f of the exception in hand -/
def eXf (i k : Nat) (l : List D) : EF := fun δ ρ => match δ[i]?, l[k]? with
  | some (some .pin), some y => .ok (.d y) ρ
  | _, _ => .stuck
theorem de_xf {a : Addr} {oe : Obj} {d : Option Addr} {pn : List (Addr × Obj)} {l : List D} {k : Nat} {e : Expr} {w : WX} {f : Str} (hK : W.K = X.K) (T : XfC X.K (W.cl c)) (hno : PySem.W.findIn X.K (.ref (W.cl c)) f = some none) (hf : (W.lay c)[k]? = some f) (nd : (W.lay c).Nodup)
    (hz : Zc (.ref (W.cl c)) d oe) (hv : ∃ vs, oe.data = .fields vs) (he : PE (X.suite a ((a, oe) :: pn)) e (tVar i)) (hb : attributeBase e f X.env (eval e X.env) = eval e X.env := by rfl) :
    DE (X.suite a ((a, oe) :: pn)) (W.hold a c l d) w (eXf i k l) (.Attribute e f pos) :=
  wkE (pe_xf T hno hz hv he hb) fun σ H Q ⟨Z, α, ρ, δ, fp, hk, loc, g⟩ => by
    unfold eXf at g
    split at g
    · rename_i y e1 e2
      obtain ⟨v, ev, rv⟩ := loc.get i _ e1
      cases rv with
      | pin hp =>
        obtain ⟨rfl, ex⟩ := hp
        rcases ex with ⟨rfl, _⟩ | ⟨dd, kvs, rfl, z1, z2, z3⟩
        · simp at e2
        · obtain ⟨u, hu, du⟩ := z3.get e2
          have lk : kvs.lookup f = some u := kv_lookup (n := (W.lay c).length) (by rw [z2, List.take_length]) nd hf hu
          exact ⟨.ref a, ev, rfl, rfl, dd, kvs, u, rfl, hk.le _ _ z1, lk, g.done hk (.d du)⟩
    · exact g.elim
/-- isinstance(e, C) of the exception in hand -/
def eIsE (i : Nat) (b : Bool) : EF := fun δ ρ => match δ[i]? with
  | some (some .pin) => .ok (.d (.bl b)) ρ
  | _ => .stuck
/-- isinstance(e, c), with the exception's own dict or without -/
theorem call_isX {a D : Addr} {oe : Obj} {d : Option Addr} {pn : List (Addr × Obj)} (C : ExcC X.K D) (hz : Zc (.ref D) d oe) (hf : ∃ vs, oe.data = .fields vs) :
    CallR (X.suite a ((a, oe) :: pn)) (.builtin "isinstance") (fun xs H Q => (∀ dd, d = some dd → ∃ kvs, H dd = some (.xd kvs)) ∧ ∃ (c : V) (cv : Value) (b : Bool), xs = [.ref a, c] ∧ (∀ u, RelV c u → u = cv) ∧ PySem.W.kitOne X.K (.ref D) cv = some b ∧ Q (.bl b) H) := by
  intro pins s σ H xs us Q I r h
  obtain ⟨hd, c, cv, b, rfl, hcv, e, q⟩ := h
  cases r with
  | cons rx rr =>
    cases rr with
    | cons rt rr =>
      cases rr
      cases rx
      have ec := hcv _ rt
      subst ec
      obtain ⟨hget, _⟩ := I.pin (a, oe) (List.mem_append.mpr (.inl List.mem_cons_self))
      obtain ⟨vs, hv⟩ := hf
      have nc : PySem.W.notCls oe = true := by unfold PySem.W.notCls; rw [hv] <;> rfl
      have J : ∃ od, PySem.W.InstAt s.heap a oe D od := by
        cases d with
        | none => exact ⟨none, hget, hz.1, nc, by rw [hz.2]; trivial⟩
        | some dd =>
          obtain ⟨kvs, hk⟩ := hd dd rfl
          have hx : ObjOk X.prog X.w H s.heap dd (.xd kvs) := I.hok dd _ hk
          obtain ⟨mA, hns, hr⟩ := hx
          obtain ⟨od, ho, hl⟩ := lookIn_ns hns
          exact ⟨some od, hget, hz.1, nc, by rw [hz.2]; exact ho⟩
      obtain ⟨od, J⟩ := J
      have cl : (PySem.W.clsIn X.K D).isSome = true := by
        obtain ⟨cd, hc, _⟩ := PySem.W.any_some C.hd
        rw [hc]; rfl
      exact PySem.W.kia_one (PySem.W.kitx_exc cl C.hg C.hk C.hs C.ha C.hn C.ht C.hm) I.kIn J e (fun z => nomatch z) fun tk => ⟨.bl b, H, I.kept (t' := tk) fun _ _ z => z, rfl, q⟩
theorem de_isE {a : Addr} {oe : Obj} {d : Option Addr} {pn : List (Addr × Obj)} {l : List D} {e cx : Expr} {w : WX} {cvV : V} {cv : Value} {b : Bool} {p : Pos} (C : ExcC X.K (W.cl c)) (hz : Zc (.ref (W.cl c)) d oe) (hf : ∃ vs, oe.data = .fields vs) (hg : Gl X "isinstance") (hm : X.mg "isinstance" = none)
    (he : PE (X.suite a ((a, oe) :: pn)) e (tVar i)) (hc : PE (X.suite a ((a, oe) :: pn)) cx (tC cvV)) (hcv : ∀ u, RelV cvV u → u = cv) (hk : PySem.W.kitOne X.K (.ref (W.cl c)) cv = some b)
    (hs1 : starEach [e, cx] X.env = (false, eval e X.env) :: starEach [cx] X.env := by rfl) (hs2 : starEach [cx] X.env = (false, eval cx X.env) :: starEach [] X.env := by rfl) (hpl : (backTo pos (starEach [cx] X.env)).any (·.1) = false := by rfl) :
    DE (X.suite a ((a, oe) :: pn)) (W.hold a c l d) w (eIsE i b) (.Call (.Name "isinstance" p) [e, cx] [] pos) :=
  wkE (pe_callB (call_isX (d := d) C hz hf) hg hm boot_isinstance (pa_cons he (pa_cons hc pa_nil hs2) hs1) (by decide) (by decide) hs1 hpl) fun σ H Q ⟨Z, α, ρ, δ, fp, hk0, loc, g⟩ => by
    unfold eIsE at g
    split at g
    · rename_i e1
      obtain ⟨v, ev, rv⟩ := loc.get i _ e1
      cases rv with
      | pin hp =>
        obtain ⟨rfl, ex⟩ := hp
        refine ⟨.ref a, ev, ?_⟩
        refine ⟨fun dd ed => ?_, cvV, cv, b, rfl, hcv, hk, g.done hk0 (.d (.bl b))⟩
        rcases ex with ⟨_, z⟩ | ⟨d2, kvs, z0, z1, z2, z3⟩
        · rw [z] at ed; cases ed
        · rw [z0] at ed
          cases ed
          exact ⟨kvs, hk0.le _ _ z1⟩
    · exact g.elim
end
end Px

namespace Px
open PySem PySem.Spec PyProof.Rows L2

/-! ### a = b = e -/
def sSet2 (i j : Nat) (f : EF) : SF := fun δ ρ => (f δ ρ).out δ fun x ρ1 => .nx ((δ.set i (some x)).set j (some x)) ρ1
section
variable {X : Cx} {W : Wd} {w : WX} {a : Expr} {fa : EF} {pos p1 p2 : Pos}
theorem ds_set2 {i j : Nat} {x y : Str} (hN : X.N.Nodup) (hi : X.N[i]? = some x) (hj : X.N[j]? = some y) (hx : L2.Loc X.env.scope x) (hy : L2.Loc X.env.scope y) (h : DE X W w fa a)
    (hf : X.fn x = true ∨ X.env.scope.names.lookup x = some .local) (hg : X.fn y = true ∨ X.env.scope.names.lookup y = some .local)
    (ha : (assignEach [.Name x p1, .Name y p2] X.env).map (·.2) = [assign (.Name x p1) X.env, assign (.Name y p2) X.env] := by rfl) (hw : swappedStores [.Name x p1, .Name y p2] a X.env = pure none := by rfl) :
    DS X W w (sSet2 i j fa) (.Assign [.Name x p1, .Name y p2] a pos) := wkS (ps_asg2 h (pg_name hN hi hx hf) (pg_name hN hj hy hg) ha hw) fun D σ H ⟨Z, α, ρ, δ, fp, hk, loc, g0⟩ =>
  ⟨Z, α, ρ, δ, fp, hk, loc, (GoesS.of (R := Val W) hk loc g0).mono fun v H1 ⟨Z1, α1, ρ1, fp1, x, s1, p1, hk1, loc1, rv, _, g1⟩ => g1.next hk1 ((loc1.set rv).set rv)⟩
@[simp] theorem x_set2 {i j : Nat} {δ : Sto} {ρ : Hs} : sSet2 i j fa δ ρ = (fa δ ρ).out δ fun x ρ1 => .nx ((δ.set i (some x)).set j (some x)) ρ1 := rfl
end
/-! ### sorted(xs), ints -/
def sortI (ns : List Int) : List Int := ns.mergeSort fun a b => decide (a ≤ b)
theorem sortI_perm (ns : List Int) : (sortI ns).Perm ns := List.mergeSort_perm ..
theorem sortI_up (ns : List Int) : (sortI ns).Pairwise (· ≤ ·) := by
  have h := List.pairwise_mergeSort (le := fun a b : Int => decide (a ≤ b)) (fun a b c h1 h2 => by simp only [decide_eq_true_eq] at *; omega) (fun a b => by simp only [Bool.or_eq_true, decide_eq_true_eq]; omega) ns
  exact h.imp fun h => of_decide_eq_true h
theorem sort_uni {ns ns' : List Int} (h : ns'.Perm ns) (s : ns'.Pairwise (· ≤ ·)) : ns' = sortI ns :=
  List.Perm.eq_of_pairwise (le := (· ≤ ·)) (fun a b _ _ h1 h2 => by omega) s (sortI_up ns) (h.trans (sortI_perm ns).symm)
theorem sortI_of {ns : List Int} (s : ns.Pairwise (· ≤ ·)) : sortI ns = ns := (sort_uni (List.Perm.refl _) s).symm
def kSort (own : Bool) (xs : List SV) (ρ : Hs) : Ex SV := match xs with
  | [x] => match (seqL ρ x).bind D.ints with
    | some ns => mkL own ((sortI ns).map D.int) ρ
    | none => .stuck
  | _ => .stuck
theorem datInts {W : Wb} {Z : Hp} : ∀ ns : List Int, DatL W Z (ns.map V.int) (ns.map D.int)
  | [] => .nil
  | n :: ns => .cons (.int n) (datInts ns)
theorem sv_sort {X : Cx} {W : Wd} (own : Bool) (hK : W.K = X.K) : ServesB W (rSortedI X.K) (kSort own) := by
  intro w σ Z H α ρ fp vs xs Q hk rv g
  unfold kSort at g
  split at g
  · rename_i x
    split at g
    · rename_i ns e
      obtain ⟨l, e1, e2⟩ := Option.bind_eq_some_iff.mp e
      obtain ⟨v, rfl, r⟩ := rv.one
      obtain ⟨a, ys, rfl, h1, h2⟩ := r.seqL hk e1
      have ev := h2.ints e2
      subst ev
      rw [hK] at h1
      refine ⟨a, ns, rfl, h1, fun ns' p hp hs hn => ?_⟩
      rw [sort_uni hp hs]
      exact g.list hk (datInts _) hn
    · exact g.elim
  · exact g.elim
def srC (own : Bool) (o : Option (List Int)) (ρ : Hs) : Ex SV := match o with
  | some ns => mkL own ((sortI ns).map D.int) ρ
  | none => .stuck
@[simp] theorem srC_some {own : Bool} {ns : List Int} {ρ : Hs} : srC own (some ns) ρ = mkL own ((sortI ns).map D.int) ρ := rfl
@[simp] theorem x_ksort {own : Bool} {x : SV} {ρ : Hs} : kSort own [x] ρ = srC own ((seqL ρ x).bind D.ints) ρ := rfl
@[simp] theorem ints_map {ns : List Int} : D.ints (ns.map D.int) = some ns := by
  induction ns with
  | nil => rfl
  | cons n ns ih => simp [D.ints, ih]
/-! ### while, evaluated -/
@[simp] theorem x_wh0 {c : BF} {fb : SF} {δ : Sto} {ρ : Hs} : sWh c fb 0 δ ρ = .stuck := rfl
theorem x_wh {c : BF} {fb : SF} {δ : Sto} {ρ : Hs} {n : Nat} : sWh c fb (n + 1) δ ρ = (c δ ρ).out δ fun b ρ1 => if b then lpB (fb δ ρ1) (sWh c fb n) else .nx δ ρ1 := by
  show (c δ ρ).out δ _ = _
  refine congrArg _ (funext fun b => funext fun ρ1 => ?_)
  cases b with
  | true =>
    simp only [if_true]
    cases fb δ ρ1 <;> rfl
  | false => rfl
/-! ### the last one -/
@[simp] theorem ixN_neg1 (n : Nat) : ixN n (-1) = if 0 < n then some (n - 1) else none := by
  unfold ixN
  rw [if_neg (by omega)]
  by_cases h : 0 < n
  · rw [if_pos (by omega), if_pos h]
    congr 1
    omega
  · rw [if_neg (by omega), if_neg h]
@[simp] theorem atI_neg1 {α : Type} (l : List α) : atI l (-1) = l.getLast? := by
  unfold atI
  rw [ixN_neg1, List.getLast?_eq_getElem?]
  by_cases h : 0 < l.length
  · rw [if_pos h]; rfl
  · rw [if_neg h]
    have : l = [] := List.length_eq_zero_iff.mp (by omega)
    subst this
    rfl
/-! ### == [] of shallow lists -/
def lay1 : D → Bool
  | .int _ => true
  | .tup l => l.all fun d => match d with | .int _ => true | _ => false
  | .lst l => l.all fun d => match d with | .int _ => true | _ => false
  | _ => false
theorem ofInts : ∀ {l : List D}, (l.all fun d => match d with | .int _ => true | _ => false) = true → ∃ ns : List Int, l = ns.map D.int
  | [], _ => ⟨[], rfl⟩
  | d :: l, h => by
    rw [List.all_cons, Bool.and_eq_true] at h
    obtain ⟨ns, e⟩ := ofInts h.2
    cases d with
    | int i => exact ⟨i :: ns, by rw [e]; rfl⟩
    | _ => cases h.1
theorem lay1_ok {d : D} (h : lay1 d = true) : ∃ p, d.toP = some p ∧ PyData.canLay0 p = true ∧ p.depth ≤ 1 := by
  cases d with
  | int i => exact ⟨.int i, rfl, by simp [PyData.canLay0], by simp [PyData.depth]⟩
  | tup l =>
    obtain ⟨ns, rfl⟩ := ofInts h
    obtain ⟨ps, h1, h2, h3, h4⟩ := layInts ns
    exact ⟨.tuple ps, by simp [D.toP, h1], by simp [PyData.canLay0, h3], by simp [PyData.depth, h4]⟩
  | lst l =>
    obtain ⟨ns, rfl⟩ := ofInts h
    obtain ⟨ps, h1, h2, h3, h4⟩ := layInts ns
    exact ⟨.list ps, by simp [D.toP, h1], by simp [PyData.canLay0, h3], by simp [PyData.depth, h4]⟩
  | _ => cases h
theorem lays1_ok : ∀ {l : List D}, l.all lay1 = true → ∃ ps, D.toPs l = some ps ∧ ps.length = l.length ∧ PyData.canLayAll0 ps = true ∧ PyData.depthAll ps ≤ 1
  | [], _ => ⟨[], rfl, rfl, rfl, by simp [PyData.depthAll]⟩
  | d :: l, h => by
    rw [List.all_cons, Bool.and_eq_true] at h
    obtain ⟨p, a1, a2, a3⟩ := lay1_ok h.1
    obtain ⟨ps, b1, b2, b3, b4⟩ := lays1_ok h.2
    refine ⟨p :: ps, by simp [D.toPs, a1, b1], by simp [b2], by simp [PyData.canLayAll0, a2, b3], ?_⟩
    simp only [PyData.depthAll]
    omega
theorem shEq_nil {l : List D} {f : Bool → Bool} (h : l.all lay1 = true) : shEq (.lst l) (.lst []) f = some (.bl (f l.isEmpty)) := by
  obtain ⟨ps, h1, h2, h3, h4⟩ := lays1_ok h
  unfold shEq
  rw [show D.toP (.lst l) = some (.list ps) from by simp [D.toP, h1], show D.toP (.lst []) = some (.list []) from rfl]
  have e1 : SeqAt.shaped (.list ps) = true := by
    simp [shp, PyData.canLay0, PyData.depth, h3]
    omega
  have e2 : SeqAt.shaped (.list []) = true := by simp [shp, PyData.canLay0, PyData.depth, PyData.canLayAll0, PyData.depthAll]
  dsimp only
  rw [e1, e2]
  cases l with
  | nil =>
    have : ps = [] := List.length_eq_zero_iff.mp h2
    subst this
    rfl
  | cons n ns =>
    cases ps with
    | nil => simp at h2
    | cons p ps => rfl
theorem fNe_nil1 {l : List D} (h : l.all lay1 = true) : fNe (.lst l) (.lst []) = some (.bl (!l.isEmpty)) := shEq_nil (f := not) h
theorem fEq_nil1 {l : List D} (h : l.all lay1 = true) : fEq (.lst l) (.lst []) = some (.bl l.isEmpty) := shEq_nil (f := id) h
end Px

namespace Px
open PySem PySem.Spec PyProof.Rows L2

/-! ### x.bit_length() -/
def fBits (p : D) : Option D := match p with
  | .int i => some (.int ((Builtin.Int.intBits i : Nat) : Int))
  | _ => none
section
variable {X : Cx} {W : Wd} {w : WX} {a : Expr} {fa : EF} {apos pos : Pos}
theorem de_bits (ha : DE X W w fa a) (hbase : attributeBase a "bit_length" X.env (eval a X.env) = eval a X.env := by rfl) (hline : (apos.endLine == pos.line) = true := by rfl) : DE X W w (e1 fBits fa) (.Call (.Attribute a "bit_length" apos) [] [] pos) :=
  de_one (r := fun x H1 Q => ∃ i, x = .int i ∧ Q (.int (Builtin.Int.intBits i : Nat)) H1) (fun H v p d Q hp e k => by
    unfold fBits at e
    split at e
    · cases e
      exact ⟨_, hp.int', k _ fun _ => .int _⟩
    · cases e) (fun h => pe_bits h hbase hline) ha
end
@[simp] theorem fBits_int {i : Int} : fBits (.int i) = some (.int ((Builtin.Int.intBits i : Nat) : Int)) := rfl
/-! ### x == x -/
mutual
def D.lay : D → Bool
  | .non => true
  | .bl _ => true
  | .int _ => true
  | .str x => PyData.strOk x
  | .tup l => D.lays l
  | .lst l => D.lays l
  | .scr l => D.lays l
  | .ins _ _ => false
def D.lays : List D → Bool
  | [] => true
  | d :: l => D.lay d && D.lays l
end
mutual
theorem lay_ok : ∀ d : D, d.lay = true → ∃ p, d.toP = some p ∧ p.canLay0 = true ∧ p.depth = d.dep
  | .non, _ => ⟨.none, rfl, by simp [PyData.canLay0], by simp [PyData.depth, D.dep]⟩
  | .bl b, _ => ⟨.bool b, rfl, by simp [PyData.canLay0], by simp [PyData.depth, D.dep]⟩
  | .int b, _ => ⟨.int b, rfl, by simp [PyData.canLay0], by simp [PyData.depth, D.dep]⟩
  | .str x, h => ⟨.str x, rfl, by simpa only [PyData.canLay0, D.lay] using h, by simp [PyData.depth, D.dep]⟩
  | .tup l, h => by
    obtain ⟨ps, h1, h2, h3⟩ := lays_ok l (by simpa only [D.lay] using h)
    exact ⟨.tuple ps, by simp [D.toP, h1], by simpa [PyData.canLay0] using h2, by simp [PyData.depth, D.dep, h3]⟩
  | .lst l, h => by
    obtain ⟨ps, h1, h2, h3⟩ := lays_ok l (by simpa only [D.lay] using h)
    exact ⟨.list ps, by simp [D.toP, h1], by simpa [PyData.canLay0] using h2, by simp [PyData.depth, D.dep, h3]⟩
  | .scr l, h => by
    obtain ⟨ps, h1, h2, h3⟩ := lays_ok l (by simpa only [D.lay] using h)
    exact ⟨.list ps, by simp [D.toP, h1], by simpa [PyData.canLay0] using h2, by simp [PyData.depth, D.dep, h3]⟩
  | .ins _ _, h => by simp [D.lay] at h
theorem lays_ok : ∀ l : List D, D.lays l = true → ∃ ps, D.toPs l = some ps ∧ PyData.canLayAll0 ps = true ∧ PyData.depthAll ps = D.deps l
  | [], _ => ⟨[], rfl, by simp [PyData.canLayAll0], by simp [PyData.depthAll, D.deps]⟩
  | d :: l, h => by
    have h' : d.lay = true ∧ D.lays l = true := by simpa only [D.lays, Bool.and_eq_true] using h
    obtain ⟨p, a1, a2, a3⟩ := lay_ok d h'.1
    obtain ⟨ps, b1, b2, b3⟩ := lays_ok l h'.2
    exact ⟨p :: ps, by simp [D.toPs, a1, b1], by simp [PyData.canLayAll0, a2, b2], by simp [PyData.depthAll, D.deps, a3, b3]⟩
end
@[simp] theorem lenL_ints {p : List Int} : lenL (some (izs p)) = some p.length := by
  show some (izsO p).length = _
  rw [intsO_len]
theorem shEq_self {d : D} {f : Bool → Bool} (h : d.lay = true) (h2 : d.dep ≤ 60) : shEq d d f = some (.bl (f true)) := by
  obtain ⟨p, a1, a2, a3⟩ := lay_ok d h
  unfold shEq
  rw [a1]
  have e1 : SeqAt.shaped p = true := by
    simp [shp, a2]
    omega
  dsimp only
  rw [e1, SeqAt.eqv_refl p a2]
  rfl
theorem fEq_self {d : D} (h : d.lay = true) (h2 : d.dep ≤ 60) : fEq d d = some (.bl true) := by
  unfold fEq
  split
  · simp
  · simp
  · simp
  · exact shEq_self h h2
theorem fNe_self {d : D} (h : d.lay = true) (h2 : d.dep ≤ 60) : fNe d d = some (.bl false) := by
  unfold fNe
  split
  · simp
  · simp
  · simp
  · exact shEq_self h h2
@[simp] theorem lay_non : D.lay .non = true := by simp only [D.lay]
@[simp] theorem lay_bl {b : Bool} : D.lay (.bl b) = true := by simp only [D.lay]
@[simp] theorem lay_int {i : Int} : D.lay (.int i) = true := by simp only [D.lay]
@[simp] theorem lay_str {x : Str} : D.lay (.str x) = PyData.strOk x := by simp only [D.lay]
@[simp] theorem lay_tup {l : List D} : D.lay (.tup l) = D.lays l := by simp only [D.lay]
@[simp] theorem lay_lst {l : List D} : D.lay (.lst l) = D.lays l := by simp only [D.lay]
@[simp] theorem lays_nil : D.lays [] = true := by simp only [D.lays]
@[simp] theorem lays_cons {d : D} {l : List D} : D.lays (d :: l) = (D.lay d && D.lays l) := by simp only [D.lays]
@[simp] theorem dep_str {x : Str} : D.dep (.str x) = 0 := by simp only [D.dep]
@[simp] theorem blk_str {x : Str} : D.blk (.str x) = x.cps.size := by simp only [D.blk]
@[simp] theorem fit_str {x : Str} : D.fit (.str x) = x.cps.toList.all fun c => decide (c < 16 ^ 8) := by simp only [D.fit]
/-! ### the pool with a rest: it never ends -/
def Ftake : DF := funOf 2 3 (sSeq (sIf (bAnd (bOf (e2 fEq (eIx (eVar 0) (eC (.int 0))) (eC (.int 0)))) (bOf (e2 (iOp fGt) (eB (aCons (eVar 0) aNil) kLen) (eC (.int 1))))) (sExpr (ePopAt (eVar 0) (aCons (eC (.int 0)) aNil))) sNext) (sSeq (sSet 2 (e2 (iOp fMod) (eB (aCons (eIx (eVar 0) (eC (.int 0))) aNil) (k1 fInt)) (eVar 1))) (sSeq (sSetIx (eVar 0) (eC (.int 0)) (e2 (iOp fDiv) (eIx (eVar 0) (eC (.int 0))) (eVar 1))) (sRet (eVar 2)))))
theorem take_ok (p : List Int) (hp : p ≠ []) (m : Int) (ρt : Hs) (h : 0 < m) (hm : m < 2 ^ 1000) :
    ∃ (d : Int) (q : List Int), Ftake [.own 0, .d (.int m)] (izs p :: ρt) = .ok (.d (.int d)) (izs q :: ρt) ∧ 0 ≤ d ∧ d < m ∧ q ≠ [] := by
  have bm : Bd 1000 m := Bd.of (by omega) hm
  have hm0 : m ≠ 0 := by omega
  match p, hp with
  | a :: p, _ =>
    by_cases ha : a = 0
    · subst ha
      cases p with
      | nil =>
        refine ⟨(0 : Int).fmod m, [(0 : Int).fdiv m], ?_, Int.fmod_nonneg_of_pos _ h, Int.fmod_lt_of_pos _ h, by simp⟩
        unfold Ftake
        simp [x_fun, sz_e, hm0]
      | cons b p =>
        refine ⟨b.fmod m, b.fdiv m :: p, ?_, Int.fmod_nonneg_of_pos _ h, Int.fmod_lt_of_pos _ h, by simp⟩
        have hl : (1 : Int) < (p.length : Int) + 1 + 1 := by omega
        unfold Ftake
        simp [x_fun, sz_e, hm0, hl]
    · refine ⟨a.fmod m, a.fdiv m :: p, ?_, Int.fmod_nonneg_of_pos _ h, Int.fmod_lt_of_pos _ h, by simp⟩
      unfold Ftake
      simp [x_fun, sz_e, hm0, ha]
/-! ### told == due and repr(told) == repr(due) -/
def Fsame : DF := funOf 2 2 (sRet (eAnd (e2 fEq (eVar 0) (eVar 1)) (e2 fEq (eB (aCons (eVar 0) aNil) (k1 fRepr)) (eB (aCons (eVar 1) aNil) (k1 fRepr)))))
theorem same_ok {d : D} (ρ : Hs) (h1 : d.lay = true) (h2 : d.fit = true) (h3 : d.dep ≤ 60) (h4 : d.blk ≤ 8000) : Fsame [.d d, .d d] ρ = .ok (.d (.bl true)) ρ := by
  unfold Fsame
  simp [x_fun, fEq_self h1 h3, fRepr_e h2 h3 h4]
/-! ### lowest terms by a loop -/
def LlowG : SF := (sSeq (sSet 4 (e2 (iOp fMod) (eB (aCons (eVar 2) aNil) (k1 fInt)) (eVar 3))) (sSeq (sSet 2 (eVar 3)) (sSet 3 (eVar 4))))
def Flowt : DF := funOf 2 5 (sSeq (sSet 2 (eB (aCons (eVar 0) aNil) (k1 fAbs))) (sSeq (sSet 3 (eB (aCons (eVar 1) aNil) (k1 fAbs))) (sSeq (sWh (bOf (e2 fNe (eVar 3) (eC (.int 0)))) LlowG 1000) (sSeq (sIf (bOf (e2 (iOp fLt) (eVar 1) (eC (.int 0)))) (sSet 2 (e1 fNeg (eVar 2))) sNext) (sRet (eTup (aCons (e2 (iOp fDiv) (eVar 0) (eVar 2)) (aCons (e2 (iOp fDiv) (eVar 1) (eVar 2)) aNil))))))))
theorem mod_half {b r : Nat} (h : 0 < r) (hb : r < b) : 2 * (b % r) < b := by
  have h1 := Nat.mod_lt b h
  have h2 := Nat.div_add_mod b r
  have h3 : 1 ≤ b / r := (Nat.one_le_div_iff h).mpr (Nat.le_of_lt hb)
  have h4 : r * 1 ≤ r * (b / r) := Nat.mul_le_mul_left r h3
  omega
theorem low_stop (ρ : Hs) (x0 x1 x4 : Option SV) (A : Int) (n : Nat) : sWh (bOf (e2 fNe (eVar 3) (eC (.int 0)))) LlowG (n + 1) [x0, x1, some (.d (.int A)), some (.d (.int 0)), x4] ρ = .nx [x0, x1, some (.d (.int A)), some (.d (.int 0)), x4] ρ := by
  rw [x_wh]
  simp
theorem low_step (ρ : Hs) (x0 x1 x4 : Option SV) (A B : Int) (hB : B ≠ 0) (n : Nat) : sWh (bOf (e2 fNe (eVar 3) (eC (.int 0)))) LlowG (n + 1) [x0, x1, some (.d (.int A)), some (.d (.int B)), x4] ρ =
    sWh (bOf (e2 fNe (eVar 3) (eC (.int 0)))) LlowG n [x0, x1, some (.d (.int B)), some (.d (.int (A.fmod B))), some (.d (.int (A.fmod B)))] ρ := by
  have e : LlowG [x0, x1, some (.d (.int A)), some (.d (.int B)), x4] ρ = .nx [x0, x1, some (.d (.int B)), some (.d (.int (A.fmod B))), some (.d (.int (A.fmod B)))] ρ := by
    unfold LlowG
    simp [hB]
  rw [x_wh]
  simp [hB, e]
theorem fmod_nat (a b : Nat) : (a : Int).fmod (b : Int) = ((a % b : Nat) : Int) := by
  rw [Int.fmod_eq_emod_of_nonneg _ (Int.natCast_nonneg b), Int.natCast_emod]
theorem low_loop (ρ : Hs) (x0 x1 : Option SV) : ∀ (k a b fuel : Nat) (x4 : Option SV), b < 2 ^ k → 2 * k + 1 ≤ fuel →
    ∃ x4', sWh (bOf (e2 fNe (eVar 3) (eC (.int 0)))) LlowG fuel [x0, x1, some (.d (.int (a : Int))), some (.d (.int (b : Int))), x4] ρ = .nx [x0, x1, some (.d (.int (Nat.gcd a b : Nat))), some (.d (.int 0)), x4'] ρ
  | 0, a, b, fuel, x4, hb, hf => by
    obtain ⟨m, rfl⟩ : ∃ m, fuel = m + 1 := ⟨fuel - 1, by omega⟩
    have : b = 0 := by simpa using hb
    subst this
    refine ⟨x4, ?_⟩
    rw [Nat.gcd_zero_right]
    exact low_stop ρ x0 x1 x4 a m
  | k + 1, a, b, fuel, x4, hb, hf => by
    obtain ⟨m, rfl⟩ : ∃ m, fuel = m + 2 := ⟨fuel - 2, by omega⟩
    by_cases h0 : b = 0
    · subst h0
      refine ⟨x4, ?_⟩
      rw [Nat.gcd_zero_right]
      exact low_stop ρ x0 x1 x4 a (m + 1)
    · have hb0 : (b : Int) ≠ 0 := by omega
      rw [low_step ρ x0 x1 x4 a b hb0 (m + 1), fmod_nat]
      by_cases h1 : a % b = 0
      · obtain ⟨x4', ih⟩ := low_loop ρ x0 x1 k b 0 (m + 1) (some (.d (.int ((0 : Nat) : Int)))) (Nat.pow_pos (by decide)) (by omega)
        refine ⟨x4', ?_⟩
        have g : Nat.gcd a b = Nat.gcd b 0 := by rw [Nat.gcd_comm a b, Nat.gcd_rec b a, h1, Nat.gcd_comm]
        rw [g, h1]
        exact ih
      · have hlt := Nat.mod_lt a (Nat.pos_of_ne_zero h0)
        have hh := mod_half (Nat.pos_of_ne_zero h1) hlt
        obtain ⟨x4', ih⟩ := low_loop ρ x0 x1 k (a % b) (b % (a % b)) m (some (.d (.int ((b % (a % b) : Nat) : Int)))) (by rw [Nat.pow_succ] at hb; omega) (by omega)
        refine ⟨x4', ?_⟩
        have g : Nat.gcd a b = Nat.gcd (a % b) (b % (a % b)) := by rw [Nat.gcd_comm a b, Nat.gcd_rec b a, Nat.gcd_rec (a % b) b, Nat.gcd_comm]
        have h10 : ((a % b : Nat) : Int) ≠ 0 := by
          generalize a % b = r at *
          omega
        rw [low_step ρ x0 x1 _ b ((a % b : Nat) : Int) h10 m, fmod_nat, g]
        exact ih
/-- the lowest terms -/
def lowT (t b : Int) : Int := if b < 0 then t.fdiv (-((Nat.gcd t.natAbs b.natAbs : Nat) : Int)) else t.fdiv ((Nat.gcd t.natAbs b.natAbs : Nat) : Int)
def lowB (t b : Int) : Int := if b < 0 then b.fdiv (-((Nat.gcd t.natAbs b.natAbs : Nat) : Int)) else b.fdiv ((Nat.gcd t.natAbs b.natAbs : Nat) : Int)
def lowD (t b : Int) : D := .tup [.int (lowT t b), .int (lowB t b)]
theorem abs_e (i : Int) : (if i < 0 then -i else i) = (i.natAbs : Int) := by split <;> omega
theorem gcd_small {n : Nat} {t b : Int} (hb : b ≠ 0) (h : b.natAbs < 2 ^ n) : Nat.gcd t.natAbs b.natAbs < 2 ^ n ∧ 0 < Nat.gcd t.natAbs b.natAbs := by
  have h0 : 0 < b.natAbs := by omega
  exact ⟨Nat.lt_of_le_of_lt (Nat.le_of_dvd h0 (Nat.gcd_dvd_right ..)) h, Nat.gcd_pos_of_pos_right _ h0⟩
theorem low_ok (ρ : Hs) (t b : Int) (hb : b ≠ 0) (h : b.natAbs < 2 ^ 490) : Flowt [.d (.int t), .d (.int b)] ρ = .ok (.d (lowD t b)) ρ := by
  obtain ⟨x4', e⟩ := low_loop ρ (some (.d (.int t))) (some (.d (.int b))) 490 t.natAbs b.natAbs 1000 none h (by omega)
  obtain ⟨g1, g2⟩ := gcd_small (t := t) hb h
  have bg : Bd 490 ((Nat.gcd t.natAbs b.natAbs : Nat) : Int) := ⟨by simpa using g1⟩
  have g0 : ¬ ((Nat.gcd t.natAbs b.natAbs : Nat) : Int) = 0 := by omega
  unfold lowD lowT lowB
  obtain ⟨G, hg⟩ : ∃ G, ((Nat.gcd t.natAbs b.natAbs : Nat) : Int) = G := ⟨_, rfl⟩
  rw [hg] at e bg g0 ⊢
  unfold Flowt
  by_cases hn : b < 0
  · simp [-fAbs_int, x_fun, show ∀ i : Int, fAbs (.int i) = some (.int (i.natAbs : Int)) from fun i => by rw [fAbs_int, abs_e], e, hn, g0, sz_e]
  · simp [-fAbs_int, x_fun, show ∀ i : Int, fAbs (.int i) = some (.int (i.natAbs : Int)) from fun i => by rw [fAbs_int, abs_e], e, hn, g0, sz_e]
/-- what they are -/
theorem low_spec (t b : Int) (hb : b ≠ 0) : ∃ g : Int, g ≠ 0 ∧ t = lowT t b * g ∧ b = lowB t b * g ∧ 0 < lowB t b ∧ Nat.gcd (lowT t b).natAbs (lowB t b).natAbs = 1 := by
  obtain ⟨_, g2⟩ := gcd_small (t := t) hb (n := b.natAbs + 1) (Nat.lt_trans (Nat.lt_succ_self _) Nat.lt_two_pow_self)
  have d1 : ((Nat.gcd t.natAbs b.natAbs : Nat) : Int) ∣ t := Int.ofNat_dvd_left.mpr (Nat.gcd_dvd_left ..)
  have d2 : ((Nat.gcd t.natAbs b.natAbs : Nat) : Int) ∣ b := Int.ofNat_dvd_left.mpr (Nat.gcd_dvd_right ..)
  have hco : ∀ x y : Int, t.natAbs = x.natAbs * Nat.gcd t.natAbs b.natAbs → b.natAbs = y.natAbs * Nat.gcd t.natAbs b.natAbs → Nat.gcd x.natAbs y.natAbs = 1 := fun x y h1 h2 => by
    have : Nat.gcd (x.natAbs * Nat.gcd t.natAbs b.natAbs) (y.natAbs * Nat.gcd t.natAbs b.natAbs) = Nat.gcd t.natAbs b.natAbs := by rw [← h1, ← h2]
    rw [Nat.gcd_mul_right] at this
    exact Nat.eq_of_mul_eq_mul_right g2 (by rw [this, Nat.one_mul])
  unfold lowT lowB
  generalize hG : Nat.gcd t.natAbs b.natAbs = G at *
  obtain ⟨u, hu⟩ := d1
  obtain ⟨v, hv⟩ := d2
  have G0 : (G : Int) ≠ 0 := by omega
  have nt : t.natAbs = u.natAbs * G := by rw [hu, Int.natAbs_mul, Int.natAbs_natCast, Nat.mul_comm]
  have nb : b.natAbs = v.natAbs * G := by rw [hv, Int.natAbs_mul, Int.natAbs_natCast, Nat.mul_comm]
  by_cases hn : b < 0
  · rw [if_pos hn, if_pos hn]
    have e1 : t.fdiv (-(G : Int)) = -u := by
      rw [hu, show (G : Int) * u = (-(G : Int)) * (-u) by rw [Int.neg_mul_neg], Int.mul_fdiv_cancel_left _ (by omega)]
    have e2 : b.fdiv (-(G : Int)) = -v := by
      rw [hv, show (G : Int) * v = (-(G : Int)) * (-v) by rw [Int.neg_mul_neg], Int.mul_fdiv_cancel_left _ (by omega)]
    rw [e1, e2]
    refine ⟨-(G : Int), by omega, by rw [hu, Int.neg_mul_neg, Int.mul_comm], by rw [hv, Int.neg_mul_neg, Int.mul_comm], ?_, ?_⟩
    · by_cases hv0 : 0 ≤ v
      · have : 0 ≤ (G : Int) * v := Int.mul_nonneg (by omega) hv0
        omega
      · omega
    · exact hco _ _ (by rw [Int.natAbs_neg]; exact nt) (by rw [Int.natAbs_neg]; exact nb)
  · rw [if_neg hn, if_neg hn]
    have e1 : t.fdiv (G : Int) = u := by rw [hu, Int.mul_fdiv_cancel_left _ G0]
    have e2 : b.fdiv (G : Int) = v := by rw [hv, Int.mul_fdiv_cancel_left _ G0]
    rw [e1, e2]
    refine ⟨(G : Int), G0, by rw [hu, Int.mul_comm], by rw [hv, Int.mul_comm], ?_, ?_⟩
    · by_cases hv0 : 0 < v
      · exact hv0
      · have : (G : Int) * v ≤ 0 := Int.mul_nonpos_of_nonneg_of_nonpos (by omega) (by omega)
        have hb' : b ≤ 0 := by rw [hv]; exact this
        omega
    · exact hco _ _ nt nb
/-- an own root's fraction, by gcd -/
def frcD (t b : Int) : D := lowD t b
end Px

namespace Px
open PySem PySem.Spec PyProof.Rows L2

/-! ### zip of two lists or two tuples -/
def zipD (l m : List D) : List D := List.zipWith (fun a b => .tup [a, b]) l m
theorem zipD_get {l m : List D} {i : Nat} {d : D} (h : (zipD l m)[i]? = some d) : ∃ p q, l[i]? = some p ∧ m[i]? = some q ∧ d = .tup [p, q] := by
  unfold zipD at h
  rw [List.getElem?_zipWith] at h
  cases hl : l[i]? with
  | none => rw [hl] at h; cases h
  | some p =>
    cases hm : m[i]? with
    | none => rw [hl, hm] at h; cases h
    | some q => rw [hl, hm] at h; cases h; exact ⟨p, q, rfl, rfl, rfl⟩
theorem zipD_end {l m : List D} {i : Nat} (h : (zipD l m)[i]? = none) : l.length ≤ i ∨ m.length ≤ i := by
  unfold zipD at h
  rw [List.getElem?_eq_none_iff, List.length_zipWith] at h
  omega
theorem pair_new {W : Wd} {Z1 H : Hp} {T : Addr} {x y : V} {p q : D} (s2 : Same Z1 H) (hT : H T = none) (hp : Dat W Z1 x p) (hq : Dat W Z1 y q) : ∃ Z', Ext Z1 H Z' (upd H T (.tup [x, y])) ∧ Dat W Z' (.ref T) (.tup [p, q]) := by
  have e : Ext Z1 H (upd Z1 T (.tup [x, y])) (upd H T (.tup [x, y])) := Ext.new s2 hT
  exact ⟨_, e, .tup (.inl (.inl upd_same)) (.cons (hp.mono e.z) (.cons (hq.mono e.z) .nil))⟩
theorem ItOk.zipL {W : Wd} {Z : Hp} {a b : Addr} {vs us : List V} {l m : List D} (h1 : SqL W.K Z a vs) (d1 : DatL W Z vs l) (h2 : SqL W.K Z b us) (d2 : DatL W Z us m) : ItOk W Z (Itz W.K a b) (zipD l m) := by
  intro Z1 H s1 s2 i
  have q1 := (s1.trans s2).seq h1
  have q2 := (s1.trans s2).seq h2
  refine ⟨fun d e => ?_, fun e => ?_⟩
  · obtain ⟨p, q, e1, e2, rfl⟩ := zipD_get e
    obtain ⟨v, hv, dv⟩ := d1.get e1
    obtain ⟨u, hu, du⟩ := d2.get e2
    refine ⟨⟨vs, us, v, u, q1, q2, hv, hu⟩, fun x H' y => ?_⟩
    obtain ⟨T, x1, y1, rfl, hT, rfl, k1, k2⟩ := y
    have r1 := (k1 vs q1).symm.trans hv
    have r2 := (k2 us q2).symm.trans hu
    cases r1; cases r2
    exact pair_new s2 hT (dv.mono s1) (du.mono s1)
  · refine ⟨vs, us, q1, q2, ?_⟩
    rw [d1.length, d2.length]
    exact zipD_end e
theorem ItOk.zipT {W : Wd} {Z : Hp} {a b : Addr} {vs us : List V} {l m : List D} (h1 : SqT W.K Z a vs) (d1 : DatL W Z vs l) (h2 : SqT W.K Z b us) (d2 : DatL W Z us m) : ItOk W Z (RZ.ItzT W.K a b) (zipD l m) := by
  intro Z1 H s1 s2 i
  have q1 := Same.seqT (s1.trans s2) h1
  have q2 := Same.seqT (s1.trans s2) h2
  refine ⟨fun d e => ?_, fun e => ?_⟩
  · obtain ⟨p, q, e1, e2, rfl⟩ := zipD_get e
    obtain ⟨v, hv, dv⟩ := d1.get e1
    obtain ⟨u, hu, du⟩ := d2.get e2
    refine ⟨⟨vs, us, v, u, q1, q2, hv, hu⟩, fun x H' y => ?_⟩
    obtain ⟨T, x1, y1, rfl, hT, rfl, k1, k2⟩ := y
    have r1 := (k1 vs q1).symm.trans hv
    have r2 := (k2 us q2).symm.trans hu
    cases r1; cases r2
    exact pair_new s2 hT (dv.mono s1) (du.mono s1)
  · refine ⟨vs, us, q1, q2, ?_⟩
    rw [d1.length, d2.length]
    exact zipD_end e
def zipO (x y : SV) : Option (List D) := match frzL x, frzL y with
  | some l, some m => some (zipD l m)
  | _, _ => match seqT x, seqT y with
    | some l, some m => some (zipD l m)
    | _, _ => none
def iZip (g : AF) : IF := fun δ ρ => (g δ ρ).bind fun xs ρ1 => match xs with
  | [x, y] => match zipO x y with
    | some l => .ok l ρ1
    | none => .stuck
  | _ => .stuck
section
variable {X : Cx} {W : Wd} {w : WX} {a b cx : Expr} {fa : EF} {g : AF} {p pos tpos : Pos} {elts : List Expr} {kk : Nat}
theorem di_zip (hK : W.K = X.K) (hg : Gl X "zip") (hm : X.mg "zip" = none) (ha : DA X W w g [a, b])
    (hs : starEach [a, b] X.env = (false, eval a X.env) :: starEach [b] X.env := by rfl) (hpl : (backTo pos (starEach [b] X.env)).any (·.1) = false := by rfl) :
    DI X W w (iZip g) (.Tuple elts kk tpos) (.Call (.Name "zip" p) [a, b] [] pos) := wkI (RZ.pi_zipA hg hm ha hs hpl) fun σ H R ⟨Z, α, ρ, δ, fp, hk, loc, g0⟩ => by
  refine ⟨Z, α, ρ, δ, fp, hk, loc, (Goes.bind (R := ValL W) g0).mono fun v H1 ⟨Z1, α1, ρ1, fp1, x, s1, p1, hk1, rv, _, g1⟩ => ?_⟩
  split at g1
  · rename_i x y
    split at g1
    · rename_i l e
      obtain ⟨v1, u1, rfl, r1, r2⟩ := rv.two
      unfold zipO at e
      split at e
      · rename_i l1 l2 e1 e2
        cases e
        obtain ⟨q, vs, rfl, h1, h2⟩ := r1.frzL e1
        obtain ⟨q', us, rfl, h3, h4⟩ := r2.frzL e2
        exact ⟨q, q', vs, us, rfl, .inl ⟨hK ▸ hk1.le.seq h1, hK ▸ hk1.le.seq h3, hK ▸ g1.done hk1 (ItOk.zipL h1 h2 h3 h4)⟩⟩
      · split at e
        · rename_i l1 l2 e1 e2
          cases e
          obtain ⟨q, vs, rfl, h1, h2⟩ := r1.frzT e1
          obtain ⟨q', us, rfl, h3, h4⟩ := r2.frzT e2
          exact ⟨q, q', vs, us, rfl, .inr ⟨hK ▸ Same.seqT hk1.le h1, hK ▸ Same.seqT hk1.le h3, hK ▸ g1.done hk1 (ItOk.zipT h1 h2 h3 h4)⟩⟩
        · cases e
    · exact g1.elim
  · exact g1.elim
/-! ### a slice of a list or a tuple -/
def eSlA (fa : EF) (lo hi : Sto → Hs → Ex (Option Int)) : EF := fun δ ρ => (fa δ ρ).bind fun x ρ1 => (lo δ ρ1).bind fun i ρ2 => (hi δ ρ2).bind fun j ρ3 => match seqL ρ3 x with
  | some l => mkL false (cutD l i j) ρ3
  | none => match seqT x with
    | some l => if HT.sIx l.length 0 i = 0 ∧ HT.sIx l.length l.length j = l.length then .stuck else .ok (.d (.tup (cutD l i j))) ρ3
    | none => .stuck
theorem de_slA {lo hi : Option Expr} {fl fh : Sto → Hs → Ex (Option Int)} {p2 : Pos} (hK : W.K = X.K) (ha : DE X W w fa a) (hl : DO X W w fl lo) (hh : DO X W w fh hi) : DE X W w (eSlA fa fl fh) (.Subscript a (.Slice lo hi none p2) pos) :=
  wkE (pe_slice (sl_list.or sl_tup) ha hl hh) fun σ H Q ⟨Z, α, ρ, δ, fp, hk, loc, g0⟩ => by
    refine ⟨Z, α, ρ, δ, fp, hk, loc, (Goes.bind (R := Val W) g0).mono fun v H1 ⟨Z1, α1, ρ1, fp1, x, s1, p1, hk1, rv, _, g1⟩ => ?_⟩
    refine ⟨Z1, α1, ρ1, δ, fp1, hk1, loc.mono s1.z p1, (Goes.bind (R := fun _ _ (b c : Option Int) => b = c) g1).mono fun i H2 ⟨Z2, α2, ρ2, fp2, i', s2, p2, hk2, ri, _, g2⟩ => ?_⟩
    refine ⟨Z2, α2, ρ2, δ, fp2, hk2, (loc.mono s1.z p1).mono s2.z p2, (Goes.bind (R := fun _ _ (b c : Option Int) => b = c) g2).mono fun j H3 ⟨Z3, α3, ρ3, fp3, j', s3, p3, hk3, rj, _, g3⟩ => ?_⟩
    cases ri; cases rj
    split at g3
    · rename_i l e
      obtain ⟨q, vs, rfl, hq, hd⟩ := ((rv.mono s2.z p2).mono s3.z p3).seqL hk3 e
      rw [hK] at hq
      exact .inl ⟨q, vs, rfl, hq, fun p hp => Goes.list (own := false) g3 hk3 (hd.cut _ _) hp⟩
    · split at g3
      · rename_i l e
        obtain ⟨q, vs, rfl, hq, hd⟩ := ((rv.mono s2.z p2).mono s3.z p3).seqT hk3 e
        rw [hK] at hq
        split at g3
        · exact g3.elim
        · rename_i hn
          exact .inr ⟨q, vs, rfl, hq, by rw [hd.length]; exact hn, fun p hp => g3.tup hk3 (hd.cut _ _) hp⟩
      · exact g3.elim
def slA (a b : Option (List D)) (i j : Option Int) (ρ : Hs) : Ex SV := match a with
  | some l => mkL false (cutD l i j) ρ
  | none => match b with
    | some l => if HT.sIx l.length 0 i = 0 ∧ HT.sIx l.length l.length j = l.length then .stuck else .ok (.d (.tup (cutD l i j))) ρ
    | none => .stuck
@[simp] theorem slA_l {l : List D} {b : Option (List D)} {i j : Option Int} {ρ : Hs} : slA (some l) b i j ρ = mkL false (cutD l i j) ρ := rfl
@[simp] theorem slA_t {l : List D} {i j : Option Int} {ρ : Hs} : slA none (some l) i j ρ = if HT.sIx l.length 0 i = 0 ∧ HT.sIx l.length l.length j = l.length then .stuck else .ok (.d (.tup (cutD l i j))) ρ := rfl
@[simp] theorem x_slA {lo hi : Sto → Hs → Ex (Option Int)} {δ : Sto} {ρ : Hs} : eSlA fa lo hi δ ρ = (fa δ ρ).bind fun x ρ1 => (lo δ ρ1).bind fun i ρ2 => (hi δ ρ2).bind fun j ρ3 => slA (seqL ρ3 x) (seqT x) i j ρ3 := rfl
@[simp] theorem seqL_t {l : List D} {ρ : Hs} : seqL ρ (.d (.tup l)) = none := rfl
/-! ### isinstance -/
def D.ty : D → Option String
  | .non => some "NoneType"
  | .bl _ => some "bool"
  | .int _ => some "int"
  | .str _ => some "str"
  | .tup _ => some "tuple"
  | .lst _ => some "list"
  | _ => none
theorem Dat.tyX {H : Hp} {v : V} {d : D} {t : String} (h : Dat W H v d) (e : d.ty = some t) : TyX W.K H v (.type t) := by
  cases h with
  | non => cases e; exact .base .non
  | bl b => cases e; exact .base (.bl b)
  | int i => cases e; exact .base (.int i)
  | str x => cases e; exact .base (.str x)
  | tup h1 h2 =>
    cases e
    rcases h1 with (h1 | ⟨o, h1⟩) | ⟨o, its, n, h1, h3, _⟩
    · exact .base (.tup h1)
    · exact .fTuple h1
    · exact .kTuple h1 h3
  | lst h1 h2 => cases e; exact .base (.lst h1)
  | _ => cases e
/-- isinstance(x, T), T a built-in type -/
def fIsT (n : String) (d : D) : Option D := match d.ty with
  | some t => (kitB t n).map .bl
  | none => none
theorem de_isT {n : String} (hK : W.K = X.K) (hg : Gl X "isinstance") (hm : X.mg "isinstance" = none) (he : DE X W w fa a) (hc : PE X cx (tC (.ty n)))
    (hs1 : starEach [a, cx] X.env = (false, eval a X.env) :: starEach [cx] X.env := by rfl) (hs2 : starEach [cx] X.env = (false, eval cx X.env) :: starEach [] X.env := by rfl) (hpl : (backTo pos (starEach [cx] X.env)).any (·.1) = false := by rfl) :
    DE X W w (e1 (fIsT n) fa) (.Call (.Name "isinstance" p) [a, cx] [] pos) :=
  wkE (pe_callB call_isi hg hm boot_isinstance (pa_cons he (pa_cons hc pa_nil hs2) hs1) (by decide) (by decide) hs1 hpl) fun σ H Q ⟨Z, α, ρ, δ, fp, hk, loc, g0⟩ => by
    refine ⟨Z, α, ρ, δ, fp, hk, loc, (Goes.bind (R := Val W) g0).mono fun v H1 ⟨Z1, α1, ρ1, fp1, x, s1, p1, hk1, rv, _, g1⟩ => ?_⟩
    split at g1
    · rename_i d ed
      split at g1
      · rename_i r er
        unfold fIsT at er
        split at er
        · rename_i t et
          simp only [Option.map_eq_some_iff] at er
          obtain ⟨b, eb, rfl⟩ := er
          have dv := Val.view hk1 rv ed
          exact ⟨v, .ty n, .type t, .type n, b, rfl, .ty n, hK ▸ dv.tyX et, kit_ty eb, g1.done hk1 (.d (.bl b))⟩
        · cases er
      · exact g1.elim
    · exact g1.elim
/-- what isinstance asks of a class, besides Cls -/
structure IsiC (K : PySem.W.Frag) (C : Addr) : Prop where
  cl : Cls K C
  ha : PySem.W.findIn K (.ref C) "__class__" = some (some (.builtin "object.__class__"))
  hn : PySem.W.specialIn K (.builtin "object.__class__") "__get__" = some (some (.builtin "getset_descriptor.__get__"))
  ht : PySem.W.takesIn K (.builtin "object.__class__") = some true
  hm : PySem.W.mroIn K C (.type "object") = some true
/-- isinstance(x, C), x of the class C itself -/
def fIsC (c : Nat) (d : D) : Option D := match d with
  | .ins c' _ => if c' = c then some (.bl true) else none
  | _ => none
theorem kit_self {K : PySem.W.Frag} (C : Addr) : PySem.W.kitOne K (.ref C) (.ref C) = some true := by
  unfold PySem.W.kitOne
  rw [if_pos (by simp)]
theorem de_isC {c : Nat} (hK : W.K = X.K) (I : IsiC X.K (W.cl c)) (hg : Gl X "isinstance") (hm : X.mg "isinstance" = none) (he : DE X W w fa a) (hc : PE X cx (tC (.ref (W.cl c))))
    (hs1 : starEach [a, cx] X.env = (false, eval a X.env) :: starEach [cx] X.env := by rfl) (hs2 : starEach [cx] X.env = (false, eval cx X.env) :: starEach [] X.env := by rfl) (hpl : (backTo pos (starEach [cx] X.env)).any (·.1) = false := by rfl) :
    DE X W w (e1 (fIsC c) fa) (.Call (.Name "isinstance" p) [a, cx] [] pos) :=
  wkE (pe_callB call_isi hg hm boot_isinstance (pa_cons he (pa_cons hc pa_nil hs2) hs1) (by decide) (by decide) hs1 hpl) fun σ H Q ⟨Z, α, ρ, δ, fp, hk, loc, g0⟩ => by
    refine ⟨Z, α, ρ, δ, fp, hk, loc, (Goes.bind (R := Val W) g0).mono fun v H1 ⟨Z1, α1, ρ1, fp1, x, s1, p1, hk1, rv, _, g1⟩ => ?_⟩
    split at g1
    · rename_i d ed
      split at g1
      · rename_i r er
        unfold fIsC at er
        split at er
        · rename_i c' l
          split at er
          · rename_i hc'
            subst hc'
            cases er
            have dv := Val.view hk1 rv ed
            cases dv with
            | ins h1 h2 h3 => exact ⟨_, .ref (W.cl c'), .ref (W.cl c'), .ref (W.cl c'), true, rfl, .own _, .base (.ins h1 I.cl I.ha I.hn I.ht I.hm), kit_self _, g1.done hk1 (.d (.bl true))⟩
          · cases er
        · cases er
      · exact g1.elim
    · exact g1.elim
end
@[simp] theorem isC_e {c : Nat} {l : List D} : fIsC c (.ins c l) = some (.bl true) := if_pos rfl
@[simp] theorem isT_tt {l : List D} : fIsT "tuple" (.tup l) = some (.bl true) := by
  have : kitB "tuple" "tuple" = some true := by decide +kernel
  show (kitB "tuple" "tuple").map _ = _
  rw [this]; rfl
@[simp] theorem isT_ti {i : Int} : fIsT "tuple" (.int i) = some (.bl false) := by
  have : kitB "int" "tuple" = some false := by decide +kernel
  show (kitB "int" "tuple").map _ = _
  rw [this]; rfl
@[simp] theorem isT_ii {i : Int} : fIsT "int" (.int i) = some (.bl true) := by
  have : kitB "int" "int" = some true := by decide +kernel
  show (kitB "int" "int").map _ = _
  rw [this]; rfl
@[simp] theorem isT_bi {i : Int} : fIsT "bool" (.int i) = some (.bl false) := by
  have : kitB "int" "bool" = some false := by decide +kernel
  show (kitB "int" "bool").map _ = _
  rw [this]; rfl
/-! zip, evaluated -/
def zipC (o : Option (List D)) (ρ : Hs) : Ex (List D) := match o with
  | some l => .ok l ρ
  | none => .stuck
@[simp] theorem zipC_some {l : List D} {ρ : Hs} : zipC (some l) ρ = .ok l ρ := rfl
def zip2 (xs : List SV) (ρ : Hs) : Ex (List D) := match xs with
  | [x, y] => zipC (zipO x y) ρ
  | _ => .stuck
@[simp] theorem zip2_e {x y : SV} {ρ : Hs} : zip2 [x, y] ρ = zipC (zipO x y) ρ := rfl
@[simp] theorem x_izip {g : AF} {δ : Sto} {ρ : Hs} : iZip g δ ρ = (g δ ρ).bind zip2 := by
  unfold iZip
  refine congrArg _ (funext fun xs => funext fun ρ1 => ?_)
  unfold zip2 zipC
  rfl
@[simp] theorem zipO_ll {l m : List D} : zipO (.d (.lst l)) (.d (.lst m)) = some (zipD l m) := rfl
@[simp] theorem zipO_tt {l m : List D} : zipO (.d (.tup l)) (.d (.tup m)) = some (zipD l m) := rfl
@[simp] theorem zipD_nil {m : List D} : zipD [] m = [] := rfl
@[simp] theorem zipD_cons {a b : D} {l m : List D} : zipD (a :: l) (b :: m) = .tup [a, b] :: zipD l m := rfl
/-- tuples of ints -/
theorem toPs_ints : ∀ ns : List Int, D.toPs (ns.map D.int) = some (ns.map PyData.int)
  | [] => rfl
  | n :: ns => by simp [D.toPs, D.toP, toPs_ints ns]
theorem eqv_ints : ∀ a b : List Int, PyData.eqvAll (a.map PyData.int) (b.map PyData.int) = decide (a = b)
  | [], [] => by simp [PyData.eqvAll]
  | [], b :: bs => by simp [PyData.eqvAll]
  | a :: as, [] => by simp [PyData.eqvAll]
  | a :: as, b :: bs => by
    rw [List.map_cons, List.map_cons, PyData.eqvAll, eqv_ints as bs, PyData.eqv]
    by_cases h : a = b
    · simp [h]
    · simp [h]
theorem fEq_tupI (a b : List Int) : fEq (.tup (a.map D.int)) (.tup (b.map D.int)) = some (.bl (decide (a = b))) := by
  obtain ⟨ps, h1, h2, h3, h4⟩ := layInts a
  obtain ⟨qs, k1, k2, k3, k4⟩ := layInts b
  rw [toPs_ints] at h1 k1
  cases h1; cases k1
  show shEq _ _ id = _
  unfold shEq
  rw [show D.toP (.tup (a.map D.int)) = some (.tuple (a.map PyData.int)) from by simp [D.toP, toPs_ints], show D.toP (.tup (b.map D.int)) = some (.tuple (b.map PyData.int)) from by simp [D.toP, toPs_ints]]
  have e1 : SeqAt.shaped (.tuple (a.map PyData.int)) = true := by simp [shp, PyData.canLay0, PyData.depth, h3, h4]
  have e2 : SeqAt.shaped (.tuple (b.map PyData.int)) = true := by simp [shp, PyData.canLay0, PyData.depth, k3, k4]
  dsimp only
  rw [e1, e2, PyData.eqv, eqv_ints]
  rfl
end Px

namespace Px
open PySem PySem.Spec PyProof.Rows L2

/-! ### try .. except C1 as e .. except C2 as e -/
def offD (i : Nat) (D : Ends) : Ends := { nx := fun τ Y => D.nx (τ.set i none) Y, rt := D.rt, bk := fun τ Y => D.bk (τ.set i none) Y, ct := fun τ Y => D.ct (τ.set i none) Y }
def wTwo (K : PySem.W.Frag) (c1 c2 : Value) (i : Nat) (t1 t2 : Addr → Value → Option Addr → TS) (D : Ends) : WX := fun cls d σ H =>
  ∃ r, PySem.W.exmOne K cls c1 = some r ∧ (r = true → ∀ q, H q = none → t1 q cls d (offD i D) (σ.set i (some (.ref q))) H) ∧
    (r = false → PySem.W.exmOne K cls c2 = some true ∧ ∀ q, H q = none → t2 q cls d (offD i D) (σ.set i (some (.ref q))) H)
section
variable {X : Cx} {x1 x2 n : Str} {c1 c2 : Value} {i : Nat} {body u1 u2 : List Stmt} {b1 b2 : Stmt} {np1 np2 pos q1 q2 : Pos} {tb : WX → TS} {t1 t2 : Addr → Value → Option Addr → TS}
theorem ps_try_two (hs : X.stack = X.env :: X.outer) (hf : X.env.frame = some X.env.locals) (hN : X.N.Nodup) (hi : X.N[i]? = some n) (hln : X.env.kindOf n = some .local) (hc1 : Names X x1 c1) (hc2 : Names X x2 c2)
    (hb : ∀ (V : WX) (pn : List (Addr × Obj)) (xe : Value → Shared → Prop), Takes (X.tr pn xe) V → PassesOwn (model X.prog X.w) X.A X.env xe → PSs (X.tr pn xe) body (tb V))
    (h1 : ∀ (q : Addr) (oe : Obj) (cls : Value) (d : Option Addr) (pn : List (Addr × Obj)), Zc cls d oe → (∃ vs, oe.data = .fields vs) → PSs (X.suite q ((q, oe) :: pn)) (b1 :: u1) (t1 q cls d))
    (h2 : ∀ (q : Addr) (oe : Obj) (cls : Value) (d : Option Addr) (pn : List (Addr × Obj)), Zc cls d oe → (∃ vs, oe.data = .fields vs) → PSs (X.suite q ((q, oe) :: pn)) (b2 :: u2) (t2 q cls d)) :
    PS X (.Try body [.ExceptHandler (some (.Name x1 np1)) (some n) (b1 :: u1) q1, .ExceptHandler (some (.Name x2 np2)) (some n) (b2 :: u2) q2] [] [] pos) (fun D σ H => tb (wTwo X.K c1 c2 i t1 t2 D) D σ H) := by
  refine ⟨fun pins s σ H D I0 want => ?_⟩
  have o0 := I0.ok
  have frames0 : X.A.frames = some (X.env :: X.outer) := by rw [o0.frames, hs]
  refine wpAny_Try_except (wpAny_mono ((hb (wTwo X.K c1 c2 i t1 t2 D) (X.pn ++ pins) _ ?taken PassesOwn.looking).run [] s σ H D (I0.toTry _) want) (fun fl z hsp => ?_) (fun ev z he => he))
  case taken =>
    intro u0 y0 caught
    obtain ⟨q, B, y1, pins1, τ, Y, cls, d, rfl, T0, nb, up0, sk0, free, olds, agree, r, er, yes, no⟩ := caught
    have T1 : Inv X pins τ Y y1 := T0.ofTry o0
    show wpAny (model X.prog X.w) X.A (noteFrame (.ref q) X.env) _ _ _
    refine Sky.land Zc.steady frames0 hf (show Sky B (X.env :: X.outer) q (Zc cls d) X.env.locals y0.heap by rw [← hs]; exact sk0) fun g1 land1 up1 => ?_
    have T2 : Inv X pins τ Y { y0 with heap := g1 } := T1.landed nb land1.1 (up0.trans up1) olds agree
    obtain ⟨ob1, vs1, at1, zc1, dt1⟩ := land1.there
    have outside : q ∉ frs (X.env :: X.outer) := fun hm => by
      obtain ⟨_, ob', at', notF⟩ := land1.2.2.1.mem hm
      rw [at1] at at'
      cases at'
      exact notF _ dt1
    have notLoc : q ≠ X.env.locals := fun z => outside (List.mem_filterMap.mpr ⟨X.env, List.mem_cons_self, by rw [hf, z]⟩)
    have notFs : q ∉ X.fs := fun hm => by
      obtain ⟨e, he, w⟩ := List.mem_filterMap.mp hm
      exact outside (List.mem_filterMap.mpr ⟨e, List.mem_cons_of_mem _ he, w⟩)
    have U1 := T2.suite at1 dt1 free notLoc notFs
    have ofT : PySem.W.Looks (model X.prog X.w) g1 (typeOf (.ref q)) cls := fun A' Q' E' s' kp w => wpAny_typeOf_ref (kp _ _ at1) (by rw [zc1.1]; exact w)
    have named : ∀ {x : Str} {c : Value} {np : Pos}, Names X x c → ∀ {Q' : Value → Shared → Prop} {E' : Value → Shared → Prop}, Q' c { y0 with heap := g1 } → wpAny (model X.prog X.w) (X.A.mark (some (.ref q))) (eval (.Name x np) X.env) Q' E' { y0 with heap := g1 } := fun {x c np} hc {Q' E'} w => by
      obtain ⟨hg, hdbg, hm | ⟨hm, hv, hnn⟩⟩ := hc
      · exact ld_glob (X := X.suite q ((q, ob1) :: (X.pn ++ pins))) U1 hg hm w hdbg
      · exact ld_blt (X := X.suite q ((q, ob1) :: (X.pn ++ pins))) U1 hg hm hv w hnn hdbg
    refine wpAny_handleBy_cons (codeAny_handlers_test (named hc1 ((PySem.W.exm_one (M := model X.prog X.w) T2.kIn ofT er).here ?_))) (by intro z; cases z)
    cases r with
    | true =>
      refine codeAny_handlers_suite_as (HandSPX.lands_againZ land1 fun g2 land2 up2 => ?_)
      have T3 : Inv X pins τ Y { y0 with heap := g2 } := T1.landed nb land2.1 ((up0.trans up1).trans up2) olds agree
      obtain ⟨ob2, vs2, at2, zc2, dt2⟩ := land2.there
      have U3 := T3.suite at2 dt2 free notLoc notFs
      refine store_ok (X := X.suite q ((q, ob2) :: (X.pn ++ pins))) (v := .ref q) U3 hN hi (.inl hln) rfl (fun y5 U5 => ?_) (.inr hln)
      refine wpAny_mono ((h1 q ob2 cls d (X.pn ++ pins) zc2 ⟨_, dt2⟩).run [] y5 _ Y _ U5 (yes rfl q free)) (fun fl y6 out => ?_) (fun _ _ z => False.elim z)
      have unb : ∀ {τ6 : Sg} {Y6 : Hp} {G : Shared → Prop}, Inv (X.suite q ((q, ob2) :: (X.pn ++ pins))) [] τ6 Y6 y6 → (∀ y7, Inv X pins (τ6.set i none) Y6 y7 → G y7) →
          wpAny (model X.prog X.w) X.A (do bindName X.env n .none; unbindBehindTheSuite X.env n q1) (fun _ y7 => G y7) X.xe y6 := fun U6 w => gone_ok (U6.unsuite o0) hN hi hln w
      cases fl with
      | next => obtain ⟨τ6, Y6, U6, w⟩ := out; exact unb U6 fun y7 T7 => ⟨_, _, T7, w⟩
      | brk => obtain ⟨τ6, Y6, U6, w⟩ := out; exact unb U6 fun y7 T7 => ⟨_, _, T7, w⟩
      | cont => obtain ⟨τ6, Y6, U6, w⟩ := out; exact unb U6 fun y7 T7 => ⟨_, _, T7, w⟩
      | ret u => obtain ⟨v6, τ6, Y6, U6, rv, w⟩ := out; exact unb U6 fun y7 T7 => ⟨_, _, _, T7, rv, w⟩
    | false =>
      obtain ⟨er2, go2⟩ := no rfl
      show wpAny _ X.A (handleBy (.ref q) X.env [.ExceptHandler (some (.Name x2 np2)) (some n) (b2 :: u2) q2]) _ _ _
      refine wpAny_handleBy_cons (codeAny_handlers_test (named hc2 ((PySem.W.exm_one (M := model X.prog X.w) T2.kIn ofT er2).here ?_))) (by intro z; cases z)
      refine codeAny_handlers_suite_as (HandSPX.lands_againZ land1 fun g2 land2 up2 => ?_)
      have T3 : Inv X pins τ Y { y0 with heap := g2 } := T1.landed nb land2.1 ((up0.trans up1).trans up2) olds agree
      obtain ⟨ob2, vs2, at2, zc2, dt2⟩ := land2.there
      have U3 := T3.suite at2 dt2 free notLoc notFs
      refine store_ok (X := X.suite q ((q, ob2) :: (X.pn ++ pins))) (v := .ref q) U3 hN hi (.inl hln) rfl (fun y5 U5 => ?_) (.inr hln)
      refine wpAny_mono ((h2 q ob2 cls d (X.pn ++ pins) zc2 ⟨_, dt2⟩).run [] y5 _ Y _ U5 (go2 q free)) (fun fl y6 out => ?_) (fun _ _ z => False.elim z)
      have unb : ∀ {τ6 : Sg} {Y6 : Hp} {G : Shared → Prop}, Inv (X.suite q ((q, ob2) :: (X.pn ++ pins))) [] τ6 Y6 y6 → (∀ y7, Inv X pins (τ6.set i none) Y6 y7 → G y7) →
          wpAny (model X.prog X.w) X.A (do bindName X.env n .none; unbindBehindTheSuite X.env n q2) (fun _ y7 => G y7) X.xe y6 := fun U6 w => gone_ok (U6.unsuite o0) hN hi hln w
      cases fl with
      | next => obtain ⟨τ6, Y6, U6, w⟩ := out; exact unb U6 fun y7 T7 => ⟨_, _, T7, w⟩
      | brk => obtain ⟨τ6, Y6, U6, w⟩ := out; exact unb U6 fun y7 T7 => ⟨_, _, T7, w⟩
      | cont => obtain ⟨τ6, Y6, U6, w⟩ := out; exact unb U6 fun y7 T7 => ⟨_, _, T7, w⟩
      | ret u => obtain ⟨v6, τ6, Y6, U6, rv, w⟩ := out; exact unb U6 fun y7 T7 => ⟨_, _, _, T7, rv, w⟩
  · cases fl with
    | next =>
      obtain ⟨τ, Y, T, w⟩ := hsp
      exact wpAny_execs_nil ⟨τ, Y, T.ofTry o0, w⟩
    | brk =>
      obtain ⟨τ, Y, T, w⟩ := hsp
      exact ⟨τ, Y, T.ofTry o0, w⟩
    | cont =>
      obtain ⟨τ, Y, T, w⟩ := hsp
      exact ⟨τ, Y, T.ofTry o0, w⟩
    | ret u =>
      obtain ⟨v, τ, Y, T, rr, w⟩ := hsp
      exact ⟨v, τ, Y, T.ofTry o0, rr, w⟩
end

/-- what is left behind a suite, in the world without the exception -/
theorem off_goes {W : Wd} {a : Addr} {c : Nat} {l : List D} {d : Option Addr} {w : WX} {i : Nat} {Z : Hp} {α : List V} {fp : List Addr} {H : Hp} {D : Ends} {r : Out} (fin : GoesS W w Z α fp H D (offS i r)) : GoesS (W.hold a c l d) W0 Z α fp H (offD i D) r := by
  cases r with
  | nx δ ρ =>
    simp only [offS] at fin
    split at fin
    · rename_i n2
      intro Z2 α2 σ2 H2 fp2 s2 p2 hk2 loc2
      exact fin Z2 α2 _ H2 fp2 s2 p2 hk2 (Loc.shift (W := W.hold a c l d) (W' := W) rfl (loc2.set_none i) n2)
    · exact fin.elim
  | bk δ ρ =>
    simp only [offS] at fin
    split at fin
    · rename_i n2
      intro Z2 α2 σ2 H2 fp2 s2 p2 hk2 loc2
      exact fin Z2 α2 _ H2 fp2 s2 p2 hk2 (Loc.shift (W := W.hold a c l d) (W' := W) rfl (loc2.set_none i) n2)
    · exact fin.elim
  | ct δ ρ =>
    simp only [offS] at fin
    split at fin
    · rename_i n2
      intro Z2 α2 σ2 H2 fp2 s2 p2 hk2 loc2
      exact fin Z2 α2 _ H2 fp2 s2 p2 hk2 (Loc.shift (W := W.hold a c l d) (W' := W) rfl (loc2.set_none i) n2)
    · exact fin.elim
  | rt x ρ =>
    simp only [offS] at fin
    split at fin
    · exact fin.elim
    · rename_i n2
      intro Z2 α2 v H2 fp2 s2 p2 hk2 rv
      exact fin Z2 α2 v H2 fp2 s2 p2 hk2 (Val.shift (W := W.hold a c l d) (W' := W) rfl rv fun q => by subst q; exact n2 rfl)
  | rs c2 l2 δ2 ρ2 => exact fin.elim
  | stuck => exact fin.elim
def sTry2 (fb : SF) (c1 c2 i : Nat) (fs1 fs2 : List D → SF) : SF := fun δ ρ => match fb δ ρ with
  | .rs c' l δ1 ρ1 => if c' = c1 ∧ noPin δ1 then offS i (fs1 l (δ1.set i (some .pin)) ρ1) else if c' = c2 ∧ noPin δ1 then offS i (fs2 l (δ1.set i (some .pin)) ρ1) else .stuck
  | r => r
section
variable {X : Cx} {W : Wd} {w : WX} {j c1 c2 i : Nat} {fb : SF} {fs1 fs2 : List D → SF} {body u1 u2 : List Stmt} {b1 b2 : Stmt} {n x1 x2 : Str} {np1 np2 pos q1 q2 : Pos}
theorem ds_try2 (h : Here X w j) (hs : X.stack = X.env :: X.outer) (hf : X.env.frame = some X.env.locals) (hN : X.N.Nodup) (hi : X.N[i]? = some n) (hln : X.env.kindOf n = some .local) (hc1 : Names X x1 (.ref (W.cl c1))) (hc2 : Names X x2 (.ref (W.cl c2)))
    (h11 : PySem.W.exmOne X.K (.ref (W.cl c1)) (.ref (W.cl c1)) = some true) (h21 : PySem.W.exmOne X.K (.ref (W.cl c2)) (.ref (W.cl c1)) = some false) (h22 : PySem.W.exmOne X.K (.ref (W.cl c2)) (.ref (W.cl c2)) = some true)
    (hb : ∀ (w' : WX) (pn : List (Addr × Obj)) (xe : Value → Shared → Prop), Here (X.tr pn xe) w' j → PassesOwn (model X.prog X.w) X.A X.env xe → DSs (X.tr pn xe) W w' fb body)
    (hsu1 : ∀ (a : Addr) (oe : Obj) (d : Option Addr) (pn : List (Addr × Obj)) (l : List D), Zc (.ref (W.cl c1)) d oe → (∃ vs, oe.data = .fields vs) → DSs (X.suite a ((a, oe) :: pn)) (W.hold a c1 l d) W0 (fs1 l) (b1 :: u1))
    (hsu2 : ∀ (a : Addr) (oe : Obj) (d : Option Addr) (pn : List (Addr × Obj)) (l : List D), Zc (.ref (W.cl c2)) d oe → (∃ vs, oe.data = .fields vs) → DSs (X.suite a ((a, oe) :: pn)) (W.hold a c2 l d) W0 (fs2 l) (b2 :: u2)) :
    DS X W w (sTry2 fb c1 c2 i fs1 fs2) (.Try body [.ExceptHandler (some (.Name x1 np1)) (some n) (b1 :: u1) q1, .ExceptHandler (some (.Name x2 np2)) (some n) (b2 :: u2) q2] [] [] pos) :=
  wkS (ps_try_two (tb := fun w' => tS W w' fb) (t1 := fun a cls d D σ H => ∃ l, cls = .ref (W.cl c1) ∧ tS (W.hold a c1 l d) W0 (fs1 l) D σ H) (t2 := fun a cls d D σ H => ∃ l, cls = .ref (W.cl c2) ∧ tS (W.hold a c2 l d) W0 (fs2 l) D σ H) hs hf hN hi hln hc1 hc2
    (fun w' pn xe tk pw => hb w' pn xe (h.tr tk) pw)
    (fun a oe cls d pn hz hv => ⟨fun pins s σ H D I ⟨l, e, q⟩ => by
      subst e
      exact (hsu1 a oe d pn l hz hv).run pins s σ H D I q⟩)
    (fun a oe cls d pn hz hv => ⟨fun pins s σ H D I ⟨l, e, q⟩ => by
      subst e
      exact (hsu2 a oe d pn l hz hv).run pins s σ H D I q⟩)) fun D σ H ⟨Z, α, ρ, δ, fp, hk, loc, g0⟩ => by
    refine ⟨Z, α, ρ, δ, fp, hk, loc, ?_⟩
    unfold sTry2 at g0
    cases e : fb δ ρ with
    | nx δ1 ρ1 => rw [e] at g0; exact g0
    | bk δ1 ρ1 => rw [e] at g0; exact g0
    | ct δ1 ρ1 => rw [e] at g0; exact g0
    | rt x ρ1 => rw [e] at g0; exact g0
    | stuck => rw [e] at g0; exact g0
    | rs c' l δ1 ρ1 =>
      rw [e] at g0
      dsimp only at g0
      intro Z1 α1 σ1 H1 fp1 d s1 p1 hk1 loc1 ex
      by_cases k1 : c' = c1 ∧ noPin δ1 = true
      · rw [if_pos k1] at g0
        obtain ⟨rfl, np⟩ := k1
        refine ⟨true, h11, fun _ a na => ⟨l, rfl, ?_⟩, fun z => by cases z⟩
        exact ⟨Z1, α1, ρ1, δ1.set i (some .pin), fp1, hk1, (Loc.shift (W := W) (W' := W.hold a c' l d) rfl loc1 np).set (.pin ⟨rfl, ex⟩), off_goes (g0.shift s1 p1)⟩
      · rw [if_neg k1] at g0
        by_cases k2 : c' = c2 ∧ noPin δ1 = true
        · rw [if_pos k2] at g0
          obtain ⟨rfl, np⟩ := k2
          refine ⟨false, h21, (fun z => by cases z), fun _ => ⟨h22, fun a na => ⟨l, rfl, ?_⟩⟩⟩
          exact ⟨Z1, α1, ρ1, δ1.set i (some .pin), fp1, hk1, (Loc.shift (W := W) (W' := W.hold a c' l d) rfl loc1 np).set (.pin ⟨rfl, ex⟩), off_goes (g0.shift s1 p1)⟩
        · rw [if_neg k2] at g0
          exact g0.elim
end

/-! t + u of tuples, none of them empty -/
def eCatT (fa fb : EF) : EF := fun δ ρ => (fa δ ρ).bind fun x ρ1 => (fb δ ρ1).bind fun y ρ2 => match seqT x, seqT y with
  | some l, some m => if l ≠ [] ∧ m ≠ [] ∧ l.length + m.length ≤ SZ then .ok (.d (.tup (l ++ m))) ρ2 else .stuck
  | _, _ => .stuck
section
variable {X : Cx} {W : Wd} {w : WX} {fa fb : EF} {a b : Expr} {pos : Pos}
theorem de_catT (hK : W.K = X.K) (ha : DE X W w fa a) (hb : DE X W w fb b) : DE X W w (eCatT fa fb) (.BinOp a .Add b pos) := wkE (pe_op op_catA ha hb) fun σ H Q ⟨Z, α, ρ, δ, fp, hk, loc, g0⟩ => by
  refine ⟨Z, α, ρ, δ, fp, hk, loc, (Goes.bind (R := Val W) g0).mono fun v H1 ⟨Z1, α1, ρ1, fp1, x, s1, p1, hk1, rv, _, g1⟩ => ?_⟩
  refine ⟨Z1, α1, ρ1, δ, fp1, hk1, loc.mono s1.z p1, (Goes.bind (R := Val W) g1).mono fun u H2 ⟨Z2, α2, ρ2, fp2, y, s2, p2, hk2, ru, _, g2⟩ => ?_⟩
  split at g2
  · rename_i l m e1 e2
    split at g2
    · rename_i hz
      obtain ⟨z1, z2, z3⟩ := hz
      obtain ⟨q, vs, rfl, hq, hd⟩ := (rv.mono s2.z p2).seqT hk2 e1
      obtain ⟨r, us, rfl, hr, he⟩ := ru.seqT hk2 e2
      rw [hK] at hq hr
      have n1 : vs ≠ [] := fun z => z1 (List.length_eq_zero_iff.mp (by rw [← hd.length, z]; rfl))
      have n2 : us ≠ [] := fun z => z2 (List.length_eq_zero_iff.mp (by rw [← he.length, z]; rfl))
      exact ⟨q, r, vs, us, rfl, rfl, hq, hr, sz_line (by rw [hd.length, he.length]; exact z3), fun z => absurd z n1, fun _ z => absurd z n2, fun _ _ p hp => g2.tup hk2 (hd.append he) hp⟩
    · exact g2.elim
  · exact g2.elim
def catC (a b : Option (List D)) (ρ : Hs) : Ex SV := match a, b with
  | some l, some m => if l ≠ [] ∧ m ≠ [] ∧ l.length + m.length ≤ SZ then .ok (.d (.tup (l ++ m))) ρ else .stuck
  | _, _ => .stuck
@[simp] theorem x_catT {δ : Sto} {ρ : Hs} : eCatT fa fb δ ρ = (fa δ ρ).bind fun x ρ1 => (fb δ ρ1).bind fun y ρ2 => catC (seqT x) (seqT y) ρ2 := rfl
@[simp] theorem catC_some {l m : List D} {ρ : Hs} : catC (some l) (some m) ρ = if l ≠ [] ∧ m ≠ [] ∧ l.length + m.length ≤ SZ then .ok (.d (.tup (l ++ m))) ρ else .stuck := rfl
end
end Px

namespace K06
open PySem PySem.Spec PyProof.Rows L2 Px
def topS (i : Nat) : Stmt := PySem.Challenge.pw_exactrasters_k06_forms_moved.main.body.getD i (.Pass ⟨0, 0, 0, 0⟩)
def kGcd : List SV → Hs → Ex SV := k2 fun i j => .int ((Nat.gcd i.natAbs j.natAbs : Nat) : Int)
def kMax : List SV → Hs → Ex SV := k2 fun i j => .int (if j > i then j else i)
def kMin : List SV → Hs → Ex SV := k2 fun i j => .int (if j < i then j else i)
def C_law_pool_1 : EF := (e2 (iOp fMod) (eB (aCons (eB (aCons (eVar 2) aNil) (k1 fInt)) aNil) (k1 fAbs)) (e2 (iOp fPow) (eC (.int 10)) (eC (.int 60))))
/-- _law_pool -/
def F_law_pool : DF := funOf 1 3 (sSeq (sSet 1 (eLst false (aCons (eC (.int 897932384626433832795028841971693993751058209749445923)) (aCons (eC (.int 781640628620899862803482534211706798)) aNil)))) (sSeq (sSet 1 (eAdd false (eVar 1) (eLst false (aCons (eC (.int 214808651328230664709384460955058223172535)) (aCons (eC (.int 94081284811174502841027019385211055)) aNil))))) (sSeq (sSet 1 (eAdd false (eVar 1) (eLst false (aCons (eC (.int 596446229489549303819644288109756659334461)) (aCons (eC (.int 28475648233786783165271201909145648)) aNil))))) (sSeq (sSet 1 (eAdd false (eVar 1) (eLst false (aCons (eC (.int 566923460348610454326648213393607260249141)) (aCons (eC (.int 27372458700660631558817488152092096)) aNil))))) (sSeq (sSet 1 (eAdd false (eVar 1) (eLst false (aCons (eC (.int 282925409171536436789259036001133053054882)) (aCons (eC (.int 46652138414695194151160943305727036)) aNil))))) (sSeq (sSet 1 (eAdd false (eVar 1) (eLst false (aCons (eC (.int 657595919530921861173819326117931051185480)) (aCons (eC (.int 74462379962749567351885752724891227)) aNil))))) (sRet (eAdd true (eComp false (iSeq (eSlL false (eVar 0) oNo (oSome (eC (.int 63))))) (cSet 2) [2] bYes C_law_pool_1) (eVar 1)))))))))
/-- _law_take -/
def F_law_take : DF := funOf 2 3 (sSeq (sIf (bAnd (bOf (e2 fEq (eIx (eVar 0) (eC (.int 0))) (eC (.int 0)))) (bOf (e2 (iOp fGt) (eB (aCons (eVar 0) aNil) kLen) (eC (.int 1))))) (sExpr (ePopAt (eVar 0) (aCons (eC (.int 0)) aNil))) sNext) (sSeq (sSet 2 (e2 (iOp fMod) (eB (aCons (eIx (eVar 0) (eC (.int 0))) aNil) (k1 fInt)) (eVar 1))) (sSeq (sSetIx (eVar 0) (eC (.int 0)) (e2 (iOp fDiv) (eIx (eVar 0) (eC (.int 0))) (eVar 1))) (sRet (eVar 2)))))
/-- _law_near -/
def F_law_near : DF := funOf 2 3 (sSeq (sSet 2 (eCall F_law_take (aCons (eVar 0) (aCons (e2 (iOp fAdd) (e2 (iOp fMul) (eC (.int 2)) (eVar 1)) (eC (.int 1))) aNil)) [])) (sSeq (sIf (bOf (e2 fEq (e2 (iOp fMod) (eB (aCons (eVar 2) aNil) (k1 fInt)) (eC (.int 2))) (eC (.int 1)))) (sRet (e2 (iOp fAdd) (e2 (iOp fDiv) (eVar 2) (eC (.int 2))) (eC (.int 1)))) sNext) (sRet (e1 fNeg (e2 (iOp fDiv) (eVar 2) (eC (.int 2)))))))
def C_law_numbers_1 : EF := (eCall F_law_near (aCons (eVar 0) (aCons (eVar 1) aNil)) [])
def L_law_numbers_1 : SF := (sSetIx (eVar 7) (eIx (eVar 4) (eVar 6)) (eIx (eVar 5) (eVar 6)))
def T_law_numbers_1 : SF := (sSeq (sSet 5 (eComp false (iSeq (eVar 4)) (cSet 6) [6] bYes C_law_numbers_1)) (sSeq (sSet 7 (eMul true (eLst false (aCons (eC (.int 0)) aNil)) (eC (.int 8)))) (sSeq (sFor (iRange1 (aCons (eB (aCons (eVar 4) aNil) kLen) aNil)) (gSet 6) L_law_numbers_1) (sRet (eB (aCons (eVar 7) aNil) kTuple)))))
/-- _law_numbers -/
def F_law_numbers : DF := funOf 1 8 (sSeq (sSet 1 (eIx (eLst false (aCons (eC (.int 3)) (aCons (eC (.int 30)) (aCons (e2 (iOp fPow) (eC (.int 10)) (eC (.int 9))) aNil)))) (eCall F_law_take (aCons (eVar 0) (aCons (eC (.int 3)) aNil)) []))) (sSeq (sSet 2 (eCall F_law_take (aCons (eVar 0) (aCons (eC (.int 8)) aNil)) [])) (sSeq (sSet 3 (eCall F_law_take (aCons (eVar 0) (aCons (eC (.int 8)) aNil)) [])) (sSeq (sSet 4 (eLst false (aCons (eC (.int 0)) (aCons (eC (.int 1)) (aCons (eC (.int 2)) (aCons (eC (.int 3)) (aCons (eC (.int 4)) (aCons (eC (.int 5)) (aCons (eC (.int 6)) (aCons (eC (.int 7)) aNil)))))))))) (sSeq (sIf (bOf (e2 fEq (eVar 2) (eC (.int 1)))) (sSet 4 (eLst false (aCons (eC (.int 0)) (aCons (eC (.int 1)) (aCons (eC (.int 5)) aNil))))) sNext) (sSeq (sIf (bOf (e2 fEq (eVar 2) (eC (.int 2)))) (sSet 4 (eLst false (aCons (eC (.int 0)) (aCons (eC (.int 1)) (aCons (eC (.int 2)) (aCons (eC (.int 5)) (aCons (eC (.int 6)) (aCons (eC (.int 7)) aNil)))))))) sNext) (sSeq (sIf (bOf (e2 fEq (eVar 2) (eC (.int 3)))) (sSet 4 (eLst false (aCons (eC (.int 0)) (aCons (eC (.int 1)) (aCons (eC (.int 2)) (aCons (eC (.int 3)) (aCons (eC (.int 4)) (aCons (eC (.int 5)) aNil)))))))) sNext) (sSeq (sIf (bOf (e2 fEq (eVar 2) (eC (.int 4)))) (sSet 4 (eMul false (eLst false (aCons (eC (.int 0)) aNil)) (e2 (iOp fDiv) (eVar 3) (eC (.int 2))))) sNext) (sSeq (sIf (bOf (e2 fEq (eVar 2) (eC (.int 5)))) (sSet 4 (eSlL false (eVar 4) (oSome (eVar 3)) oNo)) sNext) (sSeq (sIf (bOf (e2 fEq (eVar 2) (eC (.int 6)))) (sSet 4 (eLst false (aCons (eVar 3) aNil))) sNext) T_law_numbers_1))))))))))
def L_law_low_1 : SF := (sSeq (sSet 4 (e2 (iOp fMod) (eB (aCons (eVar 2) aNil) (k1 fInt)) (eVar 3))) (sSeq (sSet 2 (eVar 3)) (sSet 3 (eVar 4))))
/-- _law_low -/
def F_law_low : DF := funOf 2 5 (sSeq (sSet 2 (eB (aCons (eVar 0) aNil) (k1 fAbs))) (sSeq (sSet 3 (eB (aCons (eVar 1) aNil) (k1 fAbs))) (sSeq (sWh (bOf (e2 fNe (eVar 3) (eC (.int 0)))) L_law_low_1 1000) (sSeq (sIf (bOf (e2 (iOp fLt) (eVar 1) (eC (.int 0)))) (sSet 2 (e1 fNeg (eVar 2))) sNext) (sRet (eTup (aCons (e2 (iOp fDiv) (eVar 0) (eVar 2)) (aCons (e2 (iOp fDiv) (eVar 1) (eVar 2)) aNil))))))))
/-- Form.__init__ -/
def F_Formzz_initzz : DF := funOf 2 2 (sSeq (sIf (bOf (e2 fNe (eB (aCons (eVar 1) aNil) kLen) (eC (.int 8)))) (sRaise 1 2 (aCons (eB (aCons (eVar 1) aNil) kLen) (aCons (eC (.int 8)) aNil))) sNext) (sFld 0 0 (eVar 0) (eB (aCons (eVar 1) aNil) kTuple)))
/-- negative -/
def F_negative : DF := funOf 1 1 (sRet (eTup (aCons (e1 fNeg (eIx (eVar 0) (eC (.int 0)))) (aCons (eIx (eVar 0) (eC (.int 1))) aNil))))
/-- bottoms_at -/
def F_bottoms_at : DF := funOf 2 4 (sSeq (sSet 2 (eIx (eVar 0) (eC (.int 1)))) (sSeq (sSet 3 (eIx (eVar 1) (eC (.int 1)))) (sRet (eLst false (aCons (e2 (iOp fMul) (e2 (iOp fPow) (eVar 2) (eC (.int 4))) (e2 (iOp fPow) (eVar 3) (eC (.int 2)))) (aCons (e2 (iOp fMul) (e2 (iOp fPow) (eVar 2) (eC (.int 3))) (eVar 3)) (aCons (e2 (iOp fPow) (eVar 2) (eC (.int 2))) (aCons (eVar 2) (aCons (eC (.int 1)) (aCons (e2 (iOp fMul) (eVar 2) (eVar 3)) (aCons (eC (.int 1)) (aCons (eC (.int 1)) aNil))))))))))))
def L_Form_plain_1 : SF := (sSet 1 (eB (aCons (eVar 1) (aCons (eVar 2) aNil)) kGcd))
def C_Form_plain_1 : EF := (e2 (iOp fDiv) (eVar 2) (eVar 1))
/-- Form.plain -/
def F_Form_plain : DF := funOf 1 3 (sSeq (sSet 1 (eC (.int 0))) (sSeq (sFor (iSeq (eFld 0 0 (eVar 0))) (gSet 2) L_Form_plain_1) (sSeq (sIf (bOf (e2 fEq (eVar 1) (eC (.int 0)))) (sRet (eFz (eMake 0 F_Formzz_initzz (aCons (eFld 0 0 (eVar 0)) aNil) []))) sNext) (sRet (eFz (eMake 0 F_Formzz_initzz (aCons (eComp false (iSeq (eFld 0 0 (eVar 0))) (cSet 2) [2] bYes C_Form_plain_1) aNil) []))))))
def L_tops_at_1 : SF := (sSetIx (eVar 15) (eVar 17) (e2 (iOp fAdd) (eIx (eVar 15) (eVar 17)) (e2 (iOp fMul) (eVar 11) (eIx (eVar 15) (e2 (iOp fAdd) (eVar 17) (eC (.int 1)))))))
def L_tops_at_2 : SF := (sFor (iRangeD (aCons (eC (.int 3)) (aCons (e2 (iOp fSub) (eVar 16) (eC (.int 1))) (aCons (e1 fNeg (eC (.int 1))) aNil)))) (gSet 17) L_tops_at_1)
/-- tops_at -/
def F_tops_at : DF := funOf 3 19 (sSeq (sAsg (eFld 0 0 (eVar 0)) (gUn 8 [(gSet 3), (gSet 4), (gSet 5), (gSet 6), (gSet 7), (gSet 8), (gSet 9), (gSet 10)])) (sSeq (sAsg (eVar 1) (gUn 2 [(gSet 11), (gSet 12)])) (sSeq (sAsg (eVar 2) (gUn 2 [(gSet 13), (gSet 14)])) (sSeq (sSet 15 (eLst true (aCons (e2 (iOp fMul) (eVar 3) (e2 (iOp fPow) (eVar 12) (eC (.int 4)))) (aCons (e2 (iOp fMul) (eVar 4) (e2 (iOp fPow) (eVar 12) (eC (.int 3)))) (aCons (e2 (iOp fMul) (eVar 5) (e2 (iOp fPow) (eVar 12) (eC (.int 2)))) (aCons (e2 (iOp fMul) (eVar 6) (eVar 12)) (aCons (eVar 7) aNil))))))) (sSeq (sFor (iRange1 (aCons (eC (.int 4)) aNil)) (gSet 16) L_tops_at_2) (sSeq (sSet 18 (e2 (iOp fAdd) (e2 (iOp fMul) (e2 (iOp fMul) (eVar 8) (eVar 12)) (eVar 14)) (e2 (iOp fMul) (e2 (iOp fMul) (eVar 9) (eVar 11)) (eVar 14)))) (sRet (eLst false (aCons (e2 (iOp fAdd) (e2 (iOp fMul) (eIx (eVar 15) (eC (.int 0))) (e2 (iOp fPow) (eVar 14) (eC (.int 2)))) (e2 (iOp fMul) (e2 (iOp fMul) (eVar 13) (e2 (iOp fAdd) (eVar 18) (e2 (iOp fMul) (e2 (iOp fMul) (eVar 10) (eVar 13)) (eVar 12)))) (e2 (iOp fPow) (eVar 12) (eC (.int 3))))) (aCons (e2 (iOp fAdd) (e2 (iOp fMul) (eIx (eVar 15) (eC (.int 1))) (eVar 14)) (e2 (iOp fMul) (e2 (iOp fMul) (eVar 9) (eVar 13)) (e2 (iOp fPow) (eVar 12) (eC (.int 3))))) (aCons (eIx (eVar 15) (eC (.int 2))) (aCons (eIx (eVar 15) (eC (.int 3))) (aCons (eIx (eVar 15) (eC (.int 4))) (aCons (e2 (iOp fAdd) (eVar 18) (e2 (iOp fMul) (e2 (iOp fMul) (e2 (iOp fMul) (eC (.int 2)) (eVar 10)) (eVar 13)) (eVar 12))) (aCons (eVar 9) (aCons (eVar 10) aNil))))))))))))))))
def C_shift_form_1 : EF := (e2 (iOp fMul) (eVar 7) (e2 (iOp fDiv) (eVar 6) (eVar 8)))
/-- shift_form -/
def F_shift_form : DF := funOf 3 9 (sSeq (sSet 3 (eCall F_negative (aCons (eVar 1) aNil) [])) (sSeq (sSet 4 (eCall F_negative (aCons (eVar 2) aNil) [])) (sSeq (sSet 5 (eCall F_bottoms_at (aCons (eVar 3) (aCons (eVar 4) aNil)) [])) (sSeq (sSet 6 (eIx (eVar 5) (eC (.int 0)))) (sRet (eMeth 0 F_Form_plain (eFz (eMake 0 F_Formzz_initzz (aCons (eComp false (iZip (aCons (eCall F_tops_at (aCons (eVar 0) (aCons (eVar 3) (aCons (eVar 4) aNil))) []) (aCons (eVar 5) aNil))) (cSet2 7 8) [7, 8] bYes C_shift_form_1) aNil) [])) aNil []))))))
/-- scale_form -/
def F_scale_form : DF := funOf 3 15 (sSeq (sIf (bOf (e2 (iOp fLe) (eIx (eVar 1) (eC (.int 0))) (eC (.int 0)))) (sRaise 2 1 (aCons (eC (.int 0)) aNil)) sNext) (sSeq (sIf (bOf (e2 (iOp fLe) (eIx (eVar 2) (eC (.int 0))) (eC (.int 0)))) (sRaise 2 1 (aCons (eC (.int 1)) aNil)) sNext) (sSeq (sAsg (eFld 0 0 (eVar 0)) (gUn 8 [(gSet 3), (gSet 4), (gSet 5), (gSet 6), (gSet 7), (gSet 8), (gSet 9), (gSet 10)])) (sSeq (sAsg (eVar 1) (gUn 2 [(gSet 11), (gSet 12)])) (sSeq (sAsg (eVar 2) (gUn 2 [(gSet 13), (gSet 14)])) (sRet (eMeth 0 F_Form_plain (eFz (eMake 0 F_Formzz_initzz (aCons (eLst false (aCons (e2 (iOp fMul) (e2 (iOp fMul) (eVar 3) (e2 (iOp fPow) (eVar 11) (eC (.int 4)))) (e2 (iOp fPow) (eVar 13) (eC (.int 2)))) (aCons (e2 (iOp fMul) (e2 (iOp fMul) (e2 (iOp fMul) (eVar 4) (eVar 12)) (e2 (iOp fPow) (eVar 11) (eC (.int 3)))) (e2 (iOp fPow) (eVar 13) (eC (.int 2)))) (aCons (e2 (iOp fMul) (e2 (iOp fMul) (e2 (iOp fMul) (eVar 5) (e2 (iOp fPow) (eVar 12) (eC (.int 2)))) (e2 (iOp fPow) (eVar 11) (eC (.int 2)))) (e2 (iOp fPow) (eVar 13) (eC (.int 2)))) (aCons (e2 (iOp fMul) (e2 (iOp fMul) (e2 (iOp fMul) (eVar 6) (e2 (iOp fPow) (eVar 12) (eC (.int 3)))) (eVar 11)) (e2 (iOp fPow) (eVar 13) (eC (.int 2)))) (aCons (e2 (iOp fMul) (e2 (iOp fMul) (eVar 7) (e2 (iOp fPow) (eVar 12) (eC (.int 4)))) (e2 (iOp fPow) (eVar 13) (eC (.int 2)))) (aCons (e2 (iOp fMul) (e2 (iOp fMul) (e2 (iOp fMul) (eVar 8) (eVar 14)) (eVar 13)) (e2 (iOp fPow) (eVar 11) (eC (.int 4)))) (aCons (e2 (iOp fMul) (e2 (iOp fMul) (e2 (iOp fMul) (e2 (iOp fMul) (eVar 9) (eVar 12)) (eVar 14)) (e2 (iOp fPow) (eVar 11) (eC (.int 3)))) (eVar 13)) (aCons (e2 (iOp fMul) (e2 (iOp fMul) (eVar 10) (e2 (iOp fPow) (eVar 14) (eC (.int 2)))) (e2 (iOp fPow) (eVar 11) (eC (.int 4)))) aNil))))))))) aNil) [])) aNil [])))))))
/-- mirror_form_x -/
def F_mirror_form_x : DF := funOf 1 9 (sSeq (sAsg (eFld 0 0 (eVar 0)) (gUn 8 [(gSet 1), (gSet 2), (gSet 3), (gSet 4), (gSet 5), (gSet 6), (gSet 7), (gSet 8)])) (sRet (eMeth 0 F_Form_plain (eFz (eMake 0 F_Formzz_initzz (aCons (eLst false (aCons (eVar 1) (aCons (e1 fNeg (eVar 2)) (aCons (eVar 3) (aCons (e1 fNeg (eVar 4)) (aCons (eVar 5) (aCons (eVar 6) (aCons (e1 fNeg (eVar 7)) (aCons (eVar 8) aNil))))))))) aNil) [])) aNil [])))
/-- mirror_form_y -/
def F_mirror_form_y : DF := funOf 1 9 (sSeq (sAsg (eFld 0 0 (eVar 0)) (gUn 8 [(gSet 1), (gSet 2), (gSet 3), (gSet 4), (gSet 5), (gSet 6), (gSet 7), (gSet 8)])) (sRet (eMeth 0 F_Form_plain (eFz (eMake 0 F_Formzz_initzz (aCons (eLst false (aCons (eVar 1) (aCons (eVar 2) (aCons (eVar 3) (aCons (eVar 4) (aCons (eVar 5) (aCons (e1 fNeg (eVar 6)) (aCons (e1 fNeg (eVar 7)) (aCons (eVar 8) aNil))))))))) aNil) [])) aNil [])))
/-- Form.is_conic -/
def F_Form_is_conic : DF := funOf 1 1 (sRet (e2 fEq (eSlT (eFld 0 0 (eVar 0)) (oSome (eC (.int 3))) (oSome (eC (.int 5)))) (eTup (aCons (eC (.int 0)) (aCons (eC (.int 0)) aNil)))))
/-- turn_form -/
def F_turn_form : DF := funOf 1 9 (sSeq (sIf (bNot (bOf (eProp 0 F_Form_is_conic (eVar 0)))) (sRaise 3 1 (aCons (eC (.int 0)) aNil)) sNext) (sSeq (sAsg (eFld 0 0 (eVar 0)) (gUn 8 [(gSet 1), (gSet 2), (gSet 3), (gSet 4), (gSet 5), (gSet 6), (gSet 7), (gSet 8)])) (sRet (eMeth 0 F_Form_plain (eFz (eMake 0 F_Formzz_initzz (aCons (eLst false (aCons (eVar 1) (aCons (e1 fNeg (eVar 6)) (aCons (eVar 8) (aCons (eC (.int 0)) (aCons (eC (.int 0)) (aCons (eVar 2) (aCons (e1 fNeg (eVar 7)) (aCons (eVar 3) aNil))))))))) aNil) [])) aNil []))))
/-- _law_moved -/
def F_law_moved : DF := funOf 4 6 (sTry2 (sSeq (sIf (bOf (e2 fEq (eVar 0) (eC (.int 0)))) (sRet (eTup (aCons (eC (.str "told")) (aCons (eCall F_shift_form (aCons (eVar 1) (aCons (eVar 2) (aCons (eVar 3) aNil))) []) aNil)))) sNext) (sSeq (sIf (bOf (e2 fEq (eVar 0) (eC (.int 1)))) (sRet (eTup (aCons (eC (.str "told")) (aCons (eCall F_scale_form (aCons (eVar 1) (aCons (eVar 2) (aCons (eVar 3) aNil))) []) aNil)))) sNext) (sSeq (sIf (bOf (e2 fEq (eVar 0) (eC (.int 2)))) (sRet (eTup (aCons (eC (.str "told")) (aCons (eCall F_mirror_form_x (aCons (eVar 1) aNil) []) aNil)))) sNext) (sSeq (sIf (bOf (e2 fEq (eVar 0) (eC (.int 3)))) (sRet (eTup (aCons (eC (.str "told")) (aCons (eCall F_mirror_form_y (aCons (eVar 1) aNil) []) aNil)))) sNext) (sRet (eTup (aCons (eC (.str "told")) (aCons (eCall F_turn_form (aCons (eVar 1) aNil) []) aNil)))))))) 2 3 4 (fun l => (sSeq (sSet 5 (eAnd (eIsE 4 true) (eIsE 4 true))) (sRet (eTup (aCons (eC (.str "step")) (aCons (eXf 4 0 l) (aCons (eAnd (eVar 5) (eNot (eIsE 4 false))) aNil))))))) (fun l => (sSeq (sSet 5 (eAnd (eIsE 4 true) (eIsE 4 true))) (sRet (eTup (aCons (eC (.str "curved")) (aCons (eXf 4 0 l) (aCons (eAnd (eVar 5) (eNot (eIsE 4 false))) aNil))))))))
/-- _law_same -/
def F_law_same : DF := funOf 2 2 (sRet (eAnd (e2 fEq (eVar 0) (eVar 1)) (e2 fEq (eB (aCons (eVar 0) aNil) (k1 fRepr)) (eB (aCons (eVar 1) aNil) (k1 fRepr)))))
def L_law_divisor_1 : SF := (sSeq (sSet 4 (e2 (iOp fMod) (eB (aCons (eVar 1) aNil) (k1 fInt)) (eVar 3))) (sSeq (sSet 1 (eVar 3)) (sSet 3 (eVar 4))))
def L_law_divisor_2 : SF := (sSeq (sSet 3 (eB (aCons (eVar 2) aNil) (k1 fAbs))) (sWh (bOf (e2 fNe (eVar 3) (eC (.int 0)))) L_law_divisor_1 1000))
/-- _law_divisor -/
def F_law_divisor : DF := funOf 1 5 (sSeq (sSet 1 (eC (.int 0))) (sSeq (sFor (iSeq (eVar 0)) (gSet 2) L_law_divisor_2) (sRet (eVar 1))))
def L_law_plain_numbers_1 : SF := (sIf (bOr (bNot (bOf (e1 (fIsT "int") (eVar 1)))) (bOf (e1 (fIsT "bool") (eVar 1)))) (sRet (eC (.bl false))) sNext)
/-- _law_plain_numbers -/
def F_law_plain_numbers : DF := funOf 1 2 (sSeq (sIf (bOr (bNot (bOf (e1 (fIsC 0) (eVar 0)))) (bNot (bOf (e1 (fIsT "tuple") (eFld 0 0 (eVar 0)))))) (sRet (eC (.bl false))) sNext) (sSeq (sFor (iSeq (eFld 0 0 (eVar 0))) (gSet 1) L_law_plain_numbers_1) (sRet (eAnd (e2 fEq (eB (aCons (eFld 0 0 (eVar 0)) aNil) kLen) (eC (.int 8))) (e2 (iOp fLe) (eCall F_law_divisor (aCons (eFld 0 0 (eVar 0)) aNil) []) (eC (.int 1)))))))
def C_law_points_1 : EF := (eTup (aCons (eTup (aCons (eVar 2) (aCons (eC (.int 1)) aNil))) (aCons (eTup (aCons (eC (.int 0)) (aCons (eC (.int 1)) aNil))) aNil)))
/-- _law_points -/
def F_law_points : DF := funOf 1 3 (sSeq (sSet 1 (eComp false (iRange2 (aCons (e1 fNeg (eC (.int 2))) (aCons (eC (.int 3)) aNil))) (cSet 2) [2] bYes C_law_points_1)) (sRet (eAdd false (eVar 1) (eLst false (aCons (eTup (aCons (eTup (aCons (eC (.int 0)) (aCons (eC (.int 1)) aNil))) (aCons (eTup (aCons (eC (.int 1)) (aCons (eC (.int 1)) aNil))) aNil))) (aCons (eTup (aCons (eTup (aCons (eC (.int 0)) (aCons (eC (.int 1)) aNil))) (aCons (eTup (aCons (e1 fNeg (eC (.int 1))) (aCons (eC (.int 1)) aNil))) aNil))) (aCons (eTup (aCons (eTup (aCons (eC (.int 1)) (aCons (eC (.int 1)) aNil))) (aCons (eTup (aCons (eC (.int 1)) (aCons (eC (.int 1)) aNil))) aNil))) (aCons (eVar 0) aNil))))))))
/-- _law_led -/
def F_law_led : DF := funOf 4 6 (sSeq (sSet 4 (eIx (eVar 1) (eC (.int 0)))) (sSeq (sSet 5 (eIx (eVar 1) (eC (.int 1)))) (sSeq (sIf (bOf (e2 fEq (eVar 0) (eC (.int 0)))) (sSeq (sSet 4 (eCall F_law_low (aCons (e2 (iOp fAdd) (e2 (iOp fMul) (eIx (eVar 4) (eC (.int 0))) (eIx (eVar 2) (eC (.int 1)))) (e2 (iOp fMul) (eIx (eVar 2) (eC (.int 0))) (eIx (eVar 4) (eC (.int 1))))) (aCons (e2 (iOp fMul) (eIx (eVar 4) (eC (.int 1))) (eIx (eVar 2) (eC (.int 1)))) aNil)) [])) (sSeq (sSet 5 (eCall F_law_low (aCons (e2 (iOp fAdd) (e2 (iOp fMul) (eIx (eVar 5) (eC (.int 0))) (eIx (eVar 3) (eC (.int 1)))) (e2 (iOp fMul) (eIx (eVar 3) (eC (.int 0))) (eIx (eVar 5) (eC (.int 1))))) (aCons (e2 (iOp fMul) (eIx (eVar 5) (eC (.int 1))) (eIx (eVar 3) (eC (.int 1)))) aNil)) [])) (sRet (eTup (aCons (eVar 4) (aCons (eVar 5) aNil)))))) sNext) (sSeq (sIf (bOf (e2 fEq (eVar 0) (eC (.int 1)))) (sSeq (sSet 4 (eCall F_law_low (aCons (e2 (iOp fMul) (eIx (eVar 4) (eC (.int 0))) (eIx (eVar 2) (eC (.int 0)))) (aCons (e2 (iOp fMul) (eIx (eVar 4) (eC (.int 1))) (eIx (eVar 2) (eC (.int 1)))) aNil)) [])) (sSeq (sSet 5 (eCall F_law_low (aCons (e2 (iOp fMul) (eIx (eVar 5) (eC (.int 0))) (eIx (eVar 3) (eC (.int 0)))) (aCons (e2 (iOp fMul) (eIx (eVar 5) (eC (.int 1))) (eIx (eVar 3) (eC (.int 1)))) aNil)) [])) (sRet (eTup (aCons (eVar 4) (aCons (eVar 5) aNil)))))) sNext) (sSeq (sIf (bOf (e2 fEq (eVar 0) (eC (.int 2)))) (sRet (eTup (aCons (eTup (aCons (e1 fNeg (eIx (eVar 4) (eC (.int 0)))) (aCons (eIx (eVar 4) (eC (.int 1))) aNil))) (aCons (eVar 5) aNil)))) sNext) (sSeq (sIf (bOf (e2 fEq (eVar 0) (eC (.int 3)))) (sRet (eTup (aCons (eVar 4) (aCons (eTup (aCons (e1 fNeg (eIx (eVar 5) (eC (.int 0)))) (aCons (eIx (eVar 5) (eC (.int 1))) aNil))) aNil)))) sNext) (sRet (eTup (aCons (eTup (aCons (e1 fNeg (eIx (eVar 5) (eC (.int 0)))) (aCons (eIx (eVar 5) (eC (.int 1))) aNil))) (aCons (eVar 4) aNil))))))))))
def L_law_value_1 : SF := (sSeq (sSet 5 (e2 (iOp fAdd) (e2 (iOp fMul) (eVar 5) (eVar 3)) (e2 (iOp fMul) (eIx (eVar 0) (e2 (iOp fSub) (eC (.int 4)) (eVar 7))) (eVar 6)))) (sSet 6 (e2 (iOp fMul) (eVar 6) (eVar 4))))
/-- _law_value -/
def F_law_value : DF := funOf 3 10 (sSeq (sSet 3 (eIx (eVar 1) (eC (.int 0)))) (sSeq (sSet 4 (eIx (eVar 1) (eC (.int 1)))) (sSeq (sSet 5 (eC (.int 0))) (sSeq (sSet 6 (eC (.int 1))) (sSeq (sFor (iRange1 (aCons (eC (.int 5)) aNil)) (gSet 7) L_law_value_1) (sSeq (sSet 6 (e2 (iOp fDiv) (eVar 6) (eVar 4))) (sSeq (sSet 8 (eIx (eVar 2) (eC (.int 0)))) (sSeq (sSet 9 (eIx (eVar 2) (eC (.int 1)))) (sSeq (sSet 5 (e2 (iOp fAdd) (e2 (iOp fMul) (e2 (iOp fMul) (eVar 5) (eVar 9)) (eVar 9)) (e2 (iOp fMul) (e2 (iOp fMul) (e2 (iOp fMul) (eIx (eVar 0) (eC (.int 5))) (eVar 8)) (eVar 9)) (eVar 6)))) (sSeq (sSet 5 (e2 (iOp fAdd) (eVar 5) (e2 (iOp fMul) (e2 (iOp fMul) (e2 (iOp fMul) (e2 (iOp fMul) (eIx (eVar 0) (eC (.int 6))) (eVar 3)) (eVar 8)) (eVar 9)) (e2 (iOp fDiv) (eVar 6) (eVar 4))))) (sRet (eTup (aCons (e2 (iOp fAdd) (eVar 5) (e2 (iOp fMul) (e2 (iOp fMul) (e2 (iOp fMul) (eIx (eVar 0) (eC (.int 7))) (eVar 8)) (eVar 8)) (eVar 6))) (aCons (e2 (iOp fMul) (e2 (iOp fMul) (eVar 6) (eVar 9)) (eVar 9)) aNil))))))))))))))
def L_law_multiple_1 : SF := (sSeq (sSet 5 (eCall F_law_value (aCons (eVar 0) (aCons (eIx (eIx (eVar 4) (eC (.int 0))) (eC (.int 0))) (aCons (eIx (eIx (eVar 4) (eC (.int 0))) (eC (.int 1))) aNil))) [])) (sSeq (sSet 6 (eCall F_law_value (aCons (eVar 1) (aCons (eIx (eIx (eVar 4) (eC (.int 1))) (eC (.int 0))) (aCons (eIx (eIx (eVar 4) (eC (.int 1))) (eC (.int 1))) aNil))) [])) (sSeq (sIf (bAnd (bOf (e2 fIsN (eVar 3) (eC .non))) (bOf (e2 fNe (eIx (eVar 5) (eC (.int 0))) (eC (.int 0))))) (sSeq (sSet 3 (eTup (aCons (eVar 5) (aCons (eVar 6) aNil)))) (sIf (bOf (e2 (iOp fLe) (e2 (iOp fMul) (eIx (eVar 5) (eC (.int 0))) (eIx (eVar 6) (eC (.int 0)))) (eC (.int 0)))) (sRet (eC (.bl false))) sNext)) sNext) (sSeq (sIf (bAnd (bOf (e2 fIsN (eVar 3) (eC .non))) (bOf (e2 fNe (eIx (eVar 6) (eC (.int 0))) (eC (.int 0))))) (sRet (eC (.bl false))) sNext) (sIf (bOf (e2 fNotN (eVar 3) (eC .non))) (sSeq (sSet 7 (e2 (iOp fMul) (e2 (iOp fMul) (e2 (iOp fMul) (eIx (eVar 6) (eC (.int 0))) (eIx (eIx (eVar 3) (eC (.int 0))) (eC (.int 0)))) (eIx (eVar 5) (eC (.int 1)))) (eIx (eIx (eVar 3) (eC (.int 1))) (eC (.int 1))))) (sSeq (sSet 8 (e2 (iOp fMul) (e2 (iOp fMul) (e2 (iOp fMul) (eIx (eVar 5) (eC (.int 0))) (eIx (eIx (eVar 3) (eC (.int 1))) (eC (.int 0)))) (eIx (eVar 6) (eC (.int 1)))) (eIx (eIx (eVar 3) (eC (.int 0))) (eC (.int 1))))) (sIf (bOf (e2 fNe (eVar 7) (eVar 8))) (sRet (eC (.bl false))) sNext))) sNext)))))
/-- _law_multiple -/
def F_law_multiple : DF := funOf 3 9 (sSeq (sSet 3 (eC .non)) (sSeq (sFor (iSeq (eVar 2)) (gSet 4) L_law_multiple_1) (sRet (eOr (e2 fNotN (eVar 3) (eC .non)) (e2 fEq (eVar 1) (eTup (aCons (eC (.int 0)) (aCons (eC (.int 0)) (aCons (eC (.int 0)) (aCons (eC (.int 0)) (aCons (eC (.int 0)) (aCons (eC (.int 0)) (aCons (eC (.int 0)) (aCons (eC (.int 0)) aNil))))))))))))))
def C_law_plain_1 : EF := (e2 (iOp fDiv) (eVar 2) (eVar 1))
/-- _law_plain -/
def F_law_plain : DF := funOf 1 3 (sSeq (sSet 1 (eB (aCons (eC (.int 1)) (aCons (eCall F_law_divisor (aCons (eVar 0) aNil) []) aNil)) kMax)) (sRet (eB (aCons (eComp false (iSeq (eVar 0)) (cSet 2) [2] bYes C_law_plain_1) aNil) kTuple)))
def L_law_move_right_1 : SF := (sExpr (eAppend (eVar 8) (aCons (eTup (aCons (eVar 9) (aCons (eCall F_law_led (aCons (eVar 0) (aCons (eVar 9) (aCons (eVar 2) (aCons (eVar 3) aNil)))) []) aNil))) aNil)))
/-- _law_move_right -/
def F_law_move_right : DF := funOf 5 11 (sSeq (sSet 5 (eFz (eMake 0 F_Formzz_initzz (aCons (eVar 1) aNil) []))) (sSeq (sSet 6 (eCall F_law_moved (aCons (eVar 0) (aCons (eVar 5) (aCons (eVar 2) (aCons (eVar 3) aNil)))) [])) (sSeq (sIf (bAnd (bOf (e2 fEq (eVar 0) (eC (.int 4)))) (bOr (bOf (e2 fNe (eIx (eVar 1) (eC (.int 3))) (eC (.int 0)))) (bOf (e2 fNe (eIx (eVar 1) (eC (.int 4))) (eC (.int 0)))))) (sRet (eCall F_law_same (aCons (eVar 6) (aCons (eTup (aCons (eC (.str "curved")) (aCons (eC (.int 0)) (aCons (eC (.bl true)) aNil)))) aNil)) [])) sNext) (sSeq (sIf (bOr (bOf (e2 fNe (eIx (eVar 6) (eC (.int 0))) (eC (.str "told")))) (bNot (bOf (eCall F_law_plain_numbers (aCons (eIx (eVar 6) (eC (.int 1))) aNil) [])))) (sRet (eC (.bl false))) sNext) (sSeq (sSet 7 (eFld 0 0 (eIx (eVar 6) (eC (.int 1))))) (sSeq (sIf (bAnd (bOf (e2 fEq (eVar 0) (eC (.int 4)))) (bOf (e2 fNe (eSlT (eVar 7) (oSome (eC (.int 3))) (oSome (eC (.int 5)))) (eTup (aCons (eC (.int 0)) (aCons (eC (.int 0)) aNil)))))) (sRet (eC (.bl false))) sNext) (sSeq (sSet 8 (eLst true aNil)) (sSeq (sFor (iSeq (eCall F_law_points (aCons (eVar 4) aNil) [])) (gSet 9) L_law_move_right_1) (sSeq (sFz 8 (sIf (bNot (bOf (eCall F_law_multiple (aCons (eVar 1) (aCons (eVar 7) (aCons (eVar 8) aNil))) []))) (sRet (eC (.bl false))) sNext)) (sSeq (sSet 10 (eCall F_law_moved (aCons (eVar 0) (aCons (eIx (eVar 6) (eC (.int 1))) (aCons (eTup (aCons (e1 fNeg (eIx (eVar 2) (eC (.int 0)))) (aCons (eIx (eVar 2) (eC (.int 1))) aNil))) (aCons (eTup (aCons (e1 fNeg (eIx (eVar 3) (eC (.int 0)))) (aCons (eIx (eVar 3) (eC (.int 1))) aNil))) aNil)))) [])) (sSeq (sIf (bOf (e2 fEq (eVar 0) (eC (.int 1)))) (sSet 10 (eCall F_law_moved (aCons (eVar 0) (aCons (eIx (eVar 6) (eC (.int 1))) (aCons (eTup (aCons (eIx (eVar 2) (eC (.int 1))) (aCons (eIx (eVar 2) (eC (.int 0))) aNil))) (aCons (eTup (aCons (eIx (eVar 3) (eC (.int 1))) (aCons (eIx (eVar 3) (eC (.int 0))) aNil))) aNil)))) [])) sNext) (sSeq (sIf (bOf (e2 fEq (eVar 0) (eC (.int 4)))) (sSet 10 (eTup (aCons (eC (.str "told")) (aCons (eCall F_turn_form (aCons (eCall F_turn_form (aCons (eCall F_turn_form (aCons (eIx (eVar 6) (eC (.int 1))) aNil) []) aNil) []) aNil) []) aNil)))) sNext) (sSeq (sIf (bOr (bOf (e2 fNe (eIx (eVar 10) (eC (.int 0))) (eC (.str "told")))) (bNot (bOf (e1 (fIsC 0) (eIx (eVar 10) (eC (.int 1))))))) (sRet (eC (.bl false))) sNext) (sSeq (sIf (bNot (bOf (eCall F_law_same (aCons (eFld 0 0 (eVar 5)) (aCons (eVar 1) aNil)) []))) (sRet (eC (.bl false))) sNext) (sRet (eCall F_law_same (aCons (eFld 0 0 (eIx (eVar 10) (eC (.int 1)))) (aCons (eCall F_law_plain (aCons (eVar 1) aNil) []) aNil)) []))))))))))))))))
def L_law_1 : SF := (sIf (bNot (bOf (eCall F_law_move_right (aCons (eVar 13) (aCons (eVar 12) (aCons (eVar 6) (aCons (eVar 7) (aCons (eTup (aCons (eVar 10) (aCons (eVar 11) aNil))) aNil))))) []))) (sRet (eC (.bl false))) sNext)
def L_law_2 : SF := (sSeq (sIf (bNot (bOf (eCall F_law_move_right (aCons (eC (.int 0)) (aCons (eVar 12) (aCons (eVar 6) (aCons (eVar 7) (aCons (eTup (aCons (eVar 10) (aCons (eVar 11) aNil))) aNil))))) []))) (sRet (eC (.bl false))) sNext) (sSeq (sIf (bNot (bOf (eCall F_law_move_right (aCons (eC (.int 1)) (aCons (eVar 12) (aCons (eVar 8) (aCons (eVar 9) (aCons (eTup (aCons (eVar 10) (aCons (eVar 11) aNil))) aNil))))) []))) (sRet (eC (.bl false))) sNext) (sFor (iSeq (eLst false (aCons (eC (.int 2)) (aCons (eC (.int 3)) (aCons (eC (.int 4)) aNil))))) (gSet 13) L_law_1)))
def L_law_3 : SF := (sSeq (sSet 15 (eB (aCons (eVar 3) aNil) (kList true))) (sSeq (sSetIx (eVar 15) (eVar 14) (e1 fNeg (eC (.int 1)))) (sIf (bNot (bOf (eCall F_law_move_right (aCons (eC (.int 4)) (aCons (eB (aCons (eVar 15) aNil) kTuple) (aCons (eVar 6) (aCons (eVar 7) (aCons (eTup (aCons (eVar 10) (aCons (eVar 11) aNil))) aNil))))) []))) (sRet (eC (.bl false))) sNext)))
def L_law_4 : SF := (sIf (bNot (bOf (eCall F_law_same (aCons (eCall F_law_moved (aCons (eC (.int 1)) (aCons (eVar 16) (aCons (eVar 17) (aCons (eVar 18) aNil)))) []) (aCons (eTup (aCons (eC (.str "step")) (aCons (eC (.int 0)) (aCons (eC (.bl true)) aNil)))) aNil)) []))) (sRet (eC (.bl false))) sNext)
def L_law_5 : SF := (sSeq (sFor (iSeq (eLst false (aCons (eVar 9) (aCons (eVar 17) aNil)))) (gSet 18) L_law_4) (sIf (bNot (bOf (eCall F_law_same (aCons (eCall F_law_moved (aCons (eC (.int 1)) (aCons (eVar 16) (aCons (eVar 8) (aCons (eVar 17) aNil)))) []) (aCons (eTup (aCons (eC (.str "step")) (aCons (eC (.int 1)) (aCons (eC (.bl true)) aNil)))) aNil)) []))) (sRet (eC (.bl false))) sNext))
/-- law -/
def F_law : DF := funOf 1 19 (sSeq (sSet 1 (eCall F_law_pool (aCons (eVar 0) aNil) [])) (sSeq (sSet 2 (eCall F_law_numbers (aCons (eVar 1) aNil) [])) (sSeq (sSet 3 (eCatT (eCatT (eSlT (eVar 2) oNo (oSome (eC (.int 3)))) (eTup (aCons (eC (.int 0)) (aCons (eC (.int 0)) aNil)))) (eSlT (eVar 2) (oSome (eC (.int 5))) oNo))) (sSeq (sSet 4 (eIx (eLst false (aCons (eC (.int 30)) (aCons (e2 (iOp fPow) (eC (.int 10)) (eC (.int 9))) aNil))) (eCall F_law_take (aCons (eVar 1) (aCons (eC (.int 2)) aNil)) []))) (sSeq (sSet 5 (eIx (eLst false (aCons (eC (.int 12)) (aCons (eC (.int 12)) (aCons (eC (.int 12)) (aCons (e2 (iOp fPow) (eC (.int 10)) (eC (.int 9))) aNil))))) (eCall F_law_take (aCons (eVar 1) (aCons (eC (.int 4)) aNil)) []))) (sSeq (sSet 6 (eCall F_law_low (aCons (eCall F_law_near (aCons (eVar 1) (aCons (eVar 4) aNil)) []) (aCons (e2 (iOp fAdd) (eC (.int 1)) (eCall F_law_take (aCons (eVar 1) (aCons (eVar 5) aNil)) [])) aNil)) [])) (sSeq (sSet 7 (eCall F_law_low (aCons (eCall F_law_near (aCons (eVar 1) (aCons (eVar 4) aNil)) []) (aCons (e2 (iOp fAdd) (eC (.int 1)) (eCall F_law_take (aCons (eVar 1) (aCons (eVar 5) aNil)) [])) aNil)) [])) (sSeq (sSet 8 (eCall F_law_low (aCons (e2 (iOp fAdd) (eC (.int 1)) (eCall F_law_take (aCons (eVar 1) (aCons (eVar 4) aNil)) [])) (aCons (e2 (iOp fAdd) (eC (.int 1)) (eCall F_law_take (aCons (eVar 1) (aCons (eVar 5) aNil)) [])) aNil)) [])) (sSeq (sSet 9 (eCall F_law_low (aCons (e2 (iOp fAdd) (eC (.int 1)) (eCall F_law_take (aCons (eVar 1) (aCons (eVar 4) aNil)) [])) (aCons (e2 (iOp fAdd) (eC (.int 1)) (eCall F_law_take (aCons (eVar 1) (aCons (eVar 5) aNil)) [])) aNil)) [])) (sSeq (sSet 10 (eCall F_law_low (aCons (eCall F_law_near (aCons (eVar 1) (aCons (eC (.int 40)) aNil)) []) (aCons (e2 (iOp fAdd) (eC (.int 1)) (eCall F_law_take (aCons (eVar 1) (aCons (eC (.int 12)) aNil)) [])) aNil)) [])) (sSeq (sSet 11 (eCall F_law_low (aCons (eCall F_law_near (aCons (eVar 1) (aCons (eC (.int 40)) aNil)) []) (aCons (e2 (iOp fAdd) (eC (.int 1)) (eCall F_law_take (aCons (eVar 1) (aCons (eC (.int 12)) aNil)) [])) aNil)) [])) (sSeq (sFor (iSeq (eLst false (aCons (eVar 2) (aCons (eVar 3) aNil)))) (gSet 12) L_law_2) (sSeq (sFor (iSeq (eLst false (aCons (eC (.int 3)) (aCons (eC (.int 4)) aNil)))) (gSet 14) L_law_3) (sSeq (sSet 16 (eFz (eMake 0 F_Formzz_initzz (aCons (eVar 2) aNil) []))) (sSeq (sFor (iSeq (eLst false (aCons (eTup (aCons (eC (.int 0)) (aCons (eC (.int 1)) aNil))) (aCons (eTup (aCons (e1 fNeg (eIx (eVar 8) (eC (.int 0)))) (aCons (eIx (eVar 8) (eC (.int 1))) aNil))) aNil)))) (gSet 17) L_law_5) (sRet (eCall F_law_same (aCons (eFld 0 0 (eVar 16)) (aCons (eVar 2) aNil)) [])))))))))))))))))
abbrev N_law_pool : List Str := ["script", "rest", "cell"]
theorem sc_law_pool : FnScope N_law_pool ["script"] (defScope (topS 23)) := ⟨rfl, rfl, rfl, by decide +kernel, rfl, by decide +kernel, by decide +kernel⟩
abbrev N_law_take : List Str := ["pool", "many", "digit"]
theorem sc_law_take : FnScope N_law_take ["pool", "many"] (defScope (topS 24)) := ⟨rfl, rfl, rfl, by decide +kernel, rfl, by decide +kernel, by decide +kernel⟩
abbrev N_law_near : List Str := ["pool", "limit", "digit"]
theorem sc_law_near : FnScope N_law_near ["pool", "limit"] (defScope (topS 25)) := ⟨rfl, rfl, rfl, by decide +kernel, rfl, by decide +kernel, by decide +kernel⟩
abbrev N_law_numbers : List Str := ["pool", "limit", "kind", "front", "keep", "numbers", "k", "out"]
theorem sc_law_numbers : FnScope N_law_numbers ["pool"] (defScope (topS 31)) := ⟨rfl, rfl, rfl, by decide +kernel, rfl, by decide +kernel, by decide +kernel⟩
abbrev N_law_low : List Str := ["top", "bottom", "one", "two", "rest"]
theorem sc_law_low : FnScope N_law_low ["top", "bottom"] (defScope (topS 27)) := ⟨rfl, rfl, rfl, by decide +kernel, rfl, by decide +kernel, by decide +kernel⟩
abbrev N_Formzz_initzz : List Str := ["self", "numbers"]
theorem sc_Formzz_initzz : FnScope N_Formzz_initzz ["self", "numbers"] (defScope (inClass (topS 13) 0)) := ⟨rfl, rfl, rfl, by decide +kernel, rfl, by decide +kernel, by decide +kernel⟩
abbrev N_negative : List Str := ["number"]
theorem sc_negative : FnScope N_negative ["number"] (defScope (topS 10)) := ⟨rfl, rfl, rfl, by decide +kernel, rfl, by decide +kernel, by decide +kernel⟩
abbrev N_bottoms_at : List Str := ["x", "y", "d", "g"]
theorem sc_bottoms_at : FnScope N_bottoms_at ["x", "y"] (defScope (topS 16)) := ⟨rfl, rfl, rfl, by decide +kernel, rfl, by decide +kernel, by decide +kernel⟩
abbrev N_Form_plain : List Str := ["self", "common", "number"]
theorem sc_Form_plain : FnScope N_Form_plain ["self"] (defScope (inClass (topS 13) 13)) := ⟨rfl, rfl, rfl, by decide +kernel, rfl, by decide +kernel, by decide +kernel⟩
abbrev N_tops_at : List Str := ["form", "x", "y", "c0", "c1", "c2", "c3", "c4", "e", "b", "a", "n", "d", "m", "g", "level", "start", "place", "slope"]
theorem sc_tops_at : FnScope N_tops_at ["form", "x", "y"] (defScope (topS 15)) := ⟨rfl, rfl, rfl, by decide +kernel, rfl, by decide +kernel, by decide +kernel⟩
abbrev N_shift_form : List Str := ["form", "dx", "dy", "x", "y", "bottoms", "common", "top", "bottom"]
theorem sc_shift_form : FnScope N_shift_form ["form", "dx", "dy"] (defScope (topS 17)) := ⟨rfl, rfl, rfl, by decide +kernel, rfl, by decide +kernel, by decide +kernel⟩
abbrev N_scale_form : List Str := ["form", "sx", "sy", "c0", "c1", "c2", "c3", "c4", "e", "b", "a", "n", "d", "m", "g"]
theorem sc_scale_form : FnScope N_scale_form ["form", "sx", "sy"] (defScope (topS 18)) := ⟨rfl, rfl, rfl, by decide +kernel, rfl, by decide +kernel, by decide +kernel⟩
abbrev N_mirror_form_x : List Str := ["form", "c0", "c1", "c2", "c3", "c4", "e", "b", "a"]
theorem sc_mirror_form_x : FnScope N_mirror_form_x ["form"] (defScope (topS 19)) := ⟨rfl, rfl, rfl, by decide +kernel, rfl, by decide +kernel, by decide +kernel⟩
abbrev N_mirror_form_y : List Str := ["form", "c0", "c1", "c2", "c3", "c4", "e", "b", "a"]
theorem sc_mirror_form_y : FnScope N_mirror_form_y ["form"] (defScope (topS 20)) := ⟨rfl, rfl, rfl, by decide +kernel, rfl, by decide +kernel, by decide +kernel⟩
abbrev N_Form_is_conic : List Str := ["self"]
theorem sc_Form_is_conic : FnScope N_Form_is_conic ["self"] (defScope (inClass (topS 13) 4)) := ⟨rfl, rfl, rfl, by decide +kernel, rfl, by decide +kernel, by decide +kernel⟩
abbrev N_turn_form : List Str := ["form", "c0", "c1", "c2", "c3", "c4", "e", "b", "a"]
theorem sc_turn_form : FnScope N_turn_form ["form"] (defScope (topS 21)) := ⟨rfl, rfl, rfl, by decide +kernel, rfl, by decide +kernel, by decide +kernel⟩
abbrev N_law_moved : List Str := ["which", "form", "a", "b", "e", "fine"]
theorem sc_law_moved : FnScope N_law_moved ["which", "form", "a", "b"] (defScope (topS 33)) := ⟨rfl, rfl, rfl, by decide +kernel, rfl, by decide +kernel, by decide +kernel⟩
abbrev N_law_same : List Str := ["told", "due"]
theorem sc_law_same : FnScope N_law_same ["told", "due"] (defScope (topS 26)) := ⟨rfl, rfl, rfl, by decide +kernel, rfl, by decide +kernel, by decide +kernel⟩
abbrev N_law_divisor : List Str := ["numbers", "one", "number", "two", "rest"]
theorem sc_law_divisor : FnScope N_law_divisor ["numbers"] (defScope (topS 28)) := ⟨rfl, rfl, rfl, by decide +kernel, rfl, by decide +kernel, by decide +kernel⟩
abbrev N_law_plain_numbers : List Str := ["told", "one"]
theorem sc_law_plain_numbers : FnScope N_law_plain_numbers ["told"] (defScope (topS 34)) := ⟨rfl, rfl, rfl, by decide +kernel, rfl, by decide +kernel, by decide +kernel⟩
abbrev N_law_points : List Str := ["last", "points", "k"]
theorem sc_law_points : FnScope N_law_points ["last"] (defScope (topS 35)) := ⟨rfl, rfl, rfl, by decide +kernel, rfl, by decide +kernel, by decide +kernel⟩
abbrev N_law_led : List Str := ["which", "point", "a", "b", "x", "y"]
theorem sc_law_led : FnScope N_law_led ["which", "point", "a", "b"] (defScope (topS 32)) := ⟨rfl, rfl, rfl, by decide +kernel, rfl, by decide +kernel, by decide +kernel⟩
abbrev N_law_value : List Str := ["numbers", "x", "y", "p", "q", "top", "part", "k", "r", "t"]
theorem sc_law_value : FnScope N_law_value ["numbers", "x", "y"] (defScope (topS 30)) := ⟨rfl, rfl, rfl, by decide +kernel, rfl, by decide +kernel, by decide +kernel⟩
abbrev N_law_multiple : List Str := ["numbers", "told", "pairs", "anchor", "pair", "here", "there", "left", "right"]
theorem sc_law_multiple : FnScope N_law_multiple ["numbers", "told", "pairs"] (defScope (topS 36)) := ⟨rfl, rfl, rfl, by decide +kernel, rfl, by decide +kernel, by decide +kernel⟩
abbrev N_law_plain : List Str := ["numbers", "part", "number"]
theorem sc_law_plain : FnScope N_law_plain ["numbers"] (defScope (topS 29)) := ⟨rfl, rfl, rfl, by decide +kernel, rfl, by decide +kernel, by decide +kernel⟩
abbrev N_law_move_right : List Str := ["which", "numbers", "a", "b", "last", "form", "answer", "told", "pairs", "point", "back"]
theorem sc_law_move_right : FnScope N_law_move_right ["which", "numbers", "a", "b", "last"] (defScope (topS 37)) := ⟨rfl, rfl, rfl, by decide +kernel, rfl, by decide +kernel, by decide +kernel⟩
abbrev N_law : List Str := ["script", "pool", "numbers", "conic", "limit", "part", "a", "b", "s", "t", "x", "y", "one", "which", "k", "bent", "form", "bad", "other"]
theorem sc_law : FnScope N_law ["script"] (defScope (topS 38)) := ⟨rfl, rfl, rfl, by decide +kernel, rfl, by decide +kernel, by decide +kernel⟩
abbrev N_BadSizeszz_initzz : List Str := ["self", "given", "wanted"]
theorem sc_BadSizeszz_initzz : FnScope N_BadSizeszz_initzz ["self", "given", "wanted"] (defScope (inClass (topS 5) 0)) := ⟨rfl, rfl, rfl, by decide +kernel, rfl, by decide +kernel, by decide +kernel⟩
abbrev N_BadStepzz_initzz : List Str := ["self", "index"]
theorem sc_BadStepzz_initzz : FnScope N_BadStepzz_initzz ["self", "index"] (defScope (inClass (topS 6) 0)) := ⟨rfl, rfl, rfl, by decide +kernel, rfl, by decide +kernel, by decide +kernel⟩
abbrev N_TooCurvedzz_initzz : List Str := ["self", "index"]
theorem sc_TooCurvedzz_initzz : FnScope N_TooCurvedzz_initzz ["self", "index"] (defScope (inClass (topS 7) 0)) := ⟨rfl, rfl, rfl, by decide +kernel, rfl, by decide +kernel, by decide +kernel⟩
def lay : Nat → List Str
  | 0 => ["numbers"]
  | 1 => ["wanted", "given"]
  | 2 => ["index"]
  | 3 => ["index"]
  | 4 => []
  | _ => []
theorem layNd_0 : (lay 0).Nodup := by decide +kernel
theorem layNd_1 : (lay 1).Nodup := by decide +kernel
theorem layNd_2 : (lay 2).Nodup := by decide +kernel
theorem layNd_3 : (lay 3).Nodup := by decide +kernel
theorem layNd_4 : (lay 4).Nodup := by decide +kernel
theorem nin_Form_plain : ("plain" : Str) ∉ lay 0 := by decide +kernel
structure Ad where
  f_law_pool : Addr
  d_law_pool : FuncData
  f_law_take : Addr
  d_law_take : FuncData
  f_law_near : Addr
  d_law_near : FuncData
  f_law_numbers : Addr
  d_law_numbers : FuncData
  f_law_low : Addr
  d_law_low : FuncData
  f_Formzz_initzz : Addr
  d_Formzz_initzz : FuncData
  f_negative : Addr
  d_negative : FuncData
  f_bottoms_at : Addr
  d_bottoms_at : FuncData
  f_Form_plain : Addr
  d_Form_plain : FuncData
  f_tops_at : Addr
  d_tops_at : FuncData
  f_shift_form : Addr
  d_shift_form : FuncData
  f_scale_form : Addr
  d_scale_form : FuncData
  f_mirror_form_x : Addr
  d_mirror_form_x : FuncData
  f_mirror_form_y : Addr
  d_mirror_form_y : FuncData
  f_Form_is_conic : Addr
  d_Form_is_conic : FuncData
  f_turn_form : Addr
  d_turn_form : FuncData
  f_law_moved : Addr
  d_law_moved : FuncData
  f_law_same : Addr
  d_law_same : FuncData
  f_law_divisor : Addr
  d_law_divisor : FuncData
  f_law_plain_numbers : Addr
  d_law_plain_numbers : FuncData
  f_law_points : Addr
  d_law_points : FuncData
  f_law_led : Addr
  d_law_led : FuncData
  f_law_value : Addr
  d_law_value : FuncData
  f_law_multiple : Addr
  d_law_multiple : FuncData
  f_law_plain : Addr
  d_law_plain : FuncData
  f_law_move_right : Addr
  d_law_move_right : FuncData
  f_law : Addr
  d_law : FuncData
  f_BadSizeszz_initzz : Addr
  d_BadSizeszz_initzz : FuncData
  f_BadStepzz_initzz : Addr
  d_BadStepzz_initzz : FuncData
  f_TooCurvedzz_initzz : Addr
  d_TooCurvedzz_initzz : FuncData
  c_0 : Addr
  c_1 : Addr
  c_2 : Addr
  c_3 : Addr
  c_4 : Addr
  q_Form_is_conic : Addr
def WB (K : PySem.W.Frag) (A : Ad) : Wb := ⟨K, fun i => match i with
  | 0 => A.c_0
  | 1 => A.c_1
  | 2 => A.c_2
  | 3 => A.c_3
  | 4 => A.c_4
  | _ => 0, lay⟩
def WK (K : PySem.W.Frag) (A : Ad) (pp : V → Hp → Prop) (pm : ∀ v Z Z', L2.Same Z Z' → pp v Z → pp v Z') : Wd := { toWb := WB K A, pin := pp, pinM := pm }
structure Tx (K : PySem.W.Frag) (mg : Str → Option Value) (A : Ad) : Prop where
  F_law_pool : FunX K "_law_pool" "_law_pool" (topS 23) A.f_law_pool A.d_law_pool
  k_law_pool : PySem.W.keepIn K (.ref A.f_law_pool) = true
  b_law_pool : Binds K A.d_law_pool ["script"] []
  g_law_pool : mg "_law_pool" = some (.ref A.f_law_pool)
  F_law_take : FunX K "_law_take" "_law_take" (topS 24) A.f_law_take A.d_law_take
  k_law_take : PySem.W.keepIn K (.ref A.f_law_take) = true
  b_law_take : Binds K A.d_law_take ["pool", "many"] []
  g_law_take : mg "_law_take" = some (.ref A.f_law_take)
  F_law_near : FunX K "_law_near" "_law_near" (topS 25) A.f_law_near A.d_law_near
  k_law_near : PySem.W.keepIn K (.ref A.f_law_near) = true
  b_law_near : Binds K A.d_law_near ["pool", "limit"] []
  g_law_near : mg "_law_near" = some (.ref A.f_law_near)
  F_law_numbers : FunX K "_law_numbers" "_law_numbers" (topS 31) A.f_law_numbers A.d_law_numbers
  k_law_numbers : PySem.W.keepIn K (.ref A.f_law_numbers) = true
  b_law_numbers : Binds K A.d_law_numbers ["pool"] []
  g_law_numbers : mg "_law_numbers" = some (.ref A.f_law_numbers)
  F_law_low : FunX K "_law_low" "_law_low" (topS 27) A.f_law_low A.d_law_low
  k_law_low : PySem.W.keepIn K (.ref A.f_law_low) = true
  b_law_low : Binds K A.d_law_low ["top", "bottom"] []
  g_law_low : mg "_law_low" = some (.ref A.f_law_low)
  F_Formzz_initzz : FunX K "__init__" "Form.__init__" (inClass (topS 13) 0) A.f_Formzz_initzz A.d_Formzz_initzz
  k_Formzz_initzz : PySem.W.keepIn K (.ref A.f_Formzz_initzz) = true
  b_Formzz_initzz : Binds K A.d_Formzz_initzz ["self", "numbers"] []
  F_negative : FunX K "negative" "negative" (topS 10) A.f_negative A.d_negative
  k_negative : PySem.W.keepIn K (.ref A.f_negative) = true
  b_negative : Binds K A.d_negative ["number"] []
  g_negative : mg "negative" = some (.ref A.f_negative)
  F_bottoms_at : FunX K "bottoms_at" "bottoms_at" (topS 16) A.f_bottoms_at A.d_bottoms_at
  k_bottoms_at : PySem.W.keepIn K (.ref A.f_bottoms_at) = true
  b_bottoms_at : Binds K A.d_bottoms_at ["x", "y"] []
  g_bottoms_at : mg "bottoms_at" = some (.ref A.f_bottoms_at)
  F_Form_plain : FunX K "plain" "Form.plain" (inClass (topS 13) 13) A.f_Form_plain A.d_Form_plain
  k_Form_plain : PySem.W.keepIn K (.ref A.f_Form_plain) = true
  b_Form_plain : Binds K A.d_Form_plain ["self"] []
  m_Form_plain : Meth K A.c_0 "plain" A.f_Form_plain
  F_tops_at : FunX K "tops_at" "tops_at" (topS 15) A.f_tops_at A.d_tops_at
  k_tops_at : PySem.W.keepIn K (.ref A.f_tops_at) = true
  b_tops_at : Binds K A.d_tops_at ["form", "x", "y"] []
  g_tops_at : mg "tops_at" = some (.ref A.f_tops_at)
  F_shift_form : FunX K "shift_form" "shift_form" (topS 17) A.f_shift_form A.d_shift_form
  k_shift_form : PySem.W.keepIn K (.ref A.f_shift_form) = true
  b_shift_form : Binds K A.d_shift_form ["form", "dx", "dy"] []
  g_shift_form : mg "shift_form" = some (.ref A.f_shift_form)
  F_scale_form : FunX K "scale_form" "scale_form" (topS 18) A.f_scale_form A.d_scale_form
  k_scale_form : PySem.W.keepIn K (.ref A.f_scale_form) = true
  b_scale_form : Binds K A.d_scale_form ["form", "sx", "sy"] []
  g_scale_form : mg "scale_form" = some (.ref A.f_scale_form)
  F_mirror_form_x : FunX K "mirror_form_x" "mirror_form_x" (topS 19) A.f_mirror_form_x A.d_mirror_form_x
  k_mirror_form_x : PySem.W.keepIn K (.ref A.f_mirror_form_x) = true
  b_mirror_form_x : Binds K A.d_mirror_form_x ["form"] []
  g_mirror_form_x : mg "mirror_form_x" = some (.ref A.f_mirror_form_x)
  F_mirror_form_y : FunX K "mirror_form_y" "mirror_form_y" (topS 20) A.f_mirror_form_y A.d_mirror_form_y
  k_mirror_form_y : PySem.W.keepIn K (.ref A.f_mirror_form_y) = true
  b_mirror_form_y : Binds K A.d_mirror_form_y ["form"] []
  g_mirror_form_y : mg "mirror_form_y" = some (.ref A.f_mirror_form_y)
  F_Form_is_conic : FunX K "is_conic" "Form.is_conic" (inClass (topS 13) 4) A.f_Form_is_conic A.d_Form_is_conic
  k_Form_is_conic : PySem.W.keepIn K (.ref A.f_Form_is_conic) = true
  b_Form_is_conic : Binds K A.d_Form_is_conic ["self"] []
  p_Form_is_conic : PropOf K A.c_0 "is_conic" A.q_Form_is_conic A.f_Form_is_conic
  F_turn_form : FunX K "turn_form" "turn_form" (topS 21) A.f_turn_form A.d_turn_form
  k_turn_form : PySem.W.keepIn K (.ref A.f_turn_form) = true
  b_turn_form : Binds K A.d_turn_form ["form"] []
  g_turn_form : mg "turn_form" = some (.ref A.f_turn_form)
  F_law_moved : FunX K "_law_moved" "_law_moved" (topS 33) A.f_law_moved A.d_law_moved
  k_law_moved : PySem.W.keepIn K (.ref A.f_law_moved) = true
  b_law_moved : Binds K A.d_law_moved ["which", "form", "a", "b"] []
  g_law_moved : mg "_law_moved" = some (.ref A.f_law_moved)
  F_law_same : FunX K "_law_same" "_law_same" (topS 26) A.f_law_same A.d_law_same
  k_law_same : PySem.W.keepIn K (.ref A.f_law_same) = true
  b_law_same : Binds K A.d_law_same ["told", "due"] []
  g_law_same : mg "_law_same" = some (.ref A.f_law_same)
  F_law_divisor : FunX K "_law_divisor" "_law_divisor" (topS 28) A.f_law_divisor A.d_law_divisor
  k_law_divisor : PySem.W.keepIn K (.ref A.f_law_divisor) = true
  b_law_divisor : Binds K A.d_law_divisor ["numbers"] []
  g_law_divisor : mg "_law_divisor" = some (.ref A.f_law_divisor)
  F_law_plain_numbers : FunX K "_law_plain_numbers" "_law_plain_numbers" (topS 34) A.f_law_plain_numbers A.d_law_plain_numbers
  k_law_plain_numbers : PySem.W.keepIn K (.ref A.f_law_plain_numbers) = true
  b_law_plain_numbers : Binds K A.d_law_plain_numbers ["told"] []
  g_law_plain_numbers : mg "_law_plain_numbers" = some (.ref A.f_law_plain_numbers)
  F_law_points : FunX K "_law_points" "_law_points" (topS 35) A.f_law_points A.d_law_points
  k_law_points : PySem.W.keepIn K (.ref A.f_law_points) = true
  b_law_points : Binds K A.d_law_points ["last"] []
  g_law_points : mg "_law_points" = some (.ref A.f_law_points)
  F_law_led : FunX K "_law_led" "_law_led" (topS 32) A.f_law_led A.d_law_led
  k_law_led : PySem.W.keepIn K (.ref A.f_law_led) = true
  b_law_led : Binds K A.d_law_led ["which", "point", "a", "b"] []
  g_law_led : mg "_law_led" = some (.ref A.f_law_led)
  F_law_value : FunX K "_law_value" "_law_value" (topS 30) A.f_law_value A.d_law_value
  k_law_value : PySem.W.keepIn K (.ref A.f_law_value) = true
  b_law_value : Binds K A.d_law_value ["numbers", "x", "y"] []
  g_law_value : mg "_law_value" = some (.ref A.f_law_value)
  F_law_multiple : FunX K "_law_multiple" "_law_multiple" (topS 36) A.f_law_multiple A.d_law_multiple
  k_law_multiple : PySem.W.keepIn K (.ref A.f_law_multiple) = true
  b_law_multiple : Binds K A.d_law_multiple ["numbers", "told", "pairs"] []
  g_law_multiple : mg "_law_multiple" = some (.ref A.f_law_multiple)
  F_law_plain : FunX K "_law_plain" "_law_plain" (topS 29) A.f_law_plain A.d_law_plain
  k_law_plain : PySem.W.keepIn K (.ref A.f_law_plain) = true
  b_law_plain : Binds K A.d_law_plain ["numbers"] []
  g_law_plain : mg "_law_plain" = some (.ref A.f_law_plain)
  F_law_move_right : FunX K "_law_move_right" "_law_move_right" (topS 37) A.f_law_move_right A.d_law_move_right
  k_law_move_right : PySem.W.keepIn K (.ref A.f_law_move_right) = true
  b_law_move_right : Binds K A.d_law_move_right ["which", "numbers", "a", "b", "last"] []
  g_law_move_right : mg "_law_move_right" = some (.ref A.f_law_move_right)
  F_law : FunX K "law" "law" (topS 38) A.f_law A.d_law
  k_law : PySem.W.keepIn K (.ref A.f_law) = true
  b_law : Binds K A.d_law ["script"] []
  F_BadSizeszz_initzz : FunX K "__init__" "BadSizes.__init__" (inClass (topS 5) 0) A.f_BadSizeszz_initzz A.d_BadSizeszz_initzz
  k_BadSizeszz_initzz : PySem.W.keepIn K (.ref A.f_BadSizeszz_initzz) = true
  b_BadSizeszz_initzz : Binds K A.d_BadSizeszz_initzz ["self", "given", "wanted"] []
  F_BadStepzz_initzz : FunX K "__init__" "BadStep.__init__" (inClass (topS 6) 0) A.f_BadStepzz_initzz A.d_BadStepzz_initzz
  k_BadStepzz_initzz : PySem.W.keepIn K (.ref A.f_BadStepzz_initzz) = true
  b_BadStepzz_initzz : Binds K A.d_BadStepzz_initzz ["self", "index"] []
  F_TooCurvedzz_initzz : FunX K "__init__" "TooCurved.__init__" (inClass (topS 7) 0) A.f_TooCurvedzz_initzz A.d_TooCurvedzz_initzz
  k_TooCurvedzz_initzz : PySem.W.keepIn K (.ref A.f_TooCurvedzz_initzz) = true
  b_TooCurvedzz_initzz : Binds K A.d_TooCurvedzz_initzz ["self", "index"] []
  gc_0 : mg "Form" = some (.ref A.c_0)
  C_0 : ClsD (WB K A) 0
  M_0 : Mk K A.c_0 A.f_Formzz_initzz
  I_0 : IsiC K A.c_0
  gc_1 : mg "BadSizes" = some (.ref A.c_1)
  O_1 : OexC K A.c_1
  ix_1 : PySem.W.findIn K (.ref A.c_1) "__init__" = some (some (.ref A.f_BadSizeszz_initzz))
  ti_1 : PySem.W.typeIn K (.ref A.f_BadSizeszz_initzz) = some (.type "function")
  nx_1_0 : PySem.W.findIn K (.ref A.c_1) "wanted" = some none
  nx_1_1 : PySem.W.findIn K (.ref A.c_1) "given" = some none
  gc_2 : mg "BadStep" = some (.ref A.c_2)
  O_2 : OexC K A.c_2
  ix_2 : PySem.W.findIn K (.ref A.c_2) "__init__" = some (some (.ref A.f_BadStepzz_initzz))
  ti_2 : PySem.W.typeIn K (.ref A.f_BadStepzz_initzz) = some (.type "function")
  nx_2_0 : PySem.W.findIn K (.ref A.c_2) "index" = some none
  ex_2 : PySem.W.exmOne K (.ref A.c_2) (.ref A.c_2) = some true
  X_2 : XfC K A.c_2
  E_2 : ExcC K A.c_2
  gc_3 : mg "TooCurved" = some (.ref A.c_3)
  O_3 : OexC K A.c_3
  ix_3 : PySem.W.findIn K (.ref A.c_3) "__init__" = some (some (.ref A.f_TooCurvedzz_initzz))
  ti_3 : PySem.W.typeIn K (.ref A.f_TooCurvedzz_initzz) = some (.type "function")
  nx_3_0 : PySem.W.findIn K (.ref A.c_3) "index" = some none
  ex_3 : PySem.W.exmOne K (.ref A.c_3) (.ref A.c_3) = some true
  X_3 : XfC K A.c_3
  E_3 : ExcC K A.c_3
  gc_4 : mg "RasterError" = some (.ref A.c_4)
  ey_3_2 : PySem.W.exmOne K (.ref A.c_3) (.ref A.c_2) = some false
  kt_2_4 : PySem.W.kitOne K (.ref A.c_2) (.ref A.c_4) = some true
  kt_2_ValueError : PySem.W.kitOne K (.ref A.c_2) (.type "ValueError") = some true
  kt_2_3 : PySem.W.kitOne K (.ref A.c_2) (.ref A.c_3) = some false
  kt_3_4 : PySem.W.kitOne K (.ref A.c_3) (.ref A.c_4) = some true
  kt_3_ValueError : PySem.W.kitOne K (.ref A.c_3) (.type "ValueError") = some true
  kt_3_2 : PySem.W.kitOne K (.ref A.c_3) (.ref A.c_2) = some false
  z_int : mg "int" = none
  z_abs : mg "abs" = none
  z_len : mg "len" = none
  z_range : mg "range" = none
  z_tuple : mg "tuple" = none
  z_zip : mg "zip" = none
  z_isinstance : mg "isinstance" = none
  z_ValueError : mg "ValueError" = none
  z_repr : mg "repr" = none
  z_bool : mg "bool" = none
  z_max : mg "max" = none
  z_list : mg "list" = none
  g_gcd : mg "gcd" = some (.builtin "math.gcd")
section
variable {P : Program} {w : World} {K : PySem.W.Frag} {mg : Str → Option Value} {base : Heap} {A : Ad} {pp : V → Hp → Prop} {pm : ∀ v Z Z', L2.Same Z Z' → pp v Z → pp v Z'}
theorem okx_BadSizeszz_initzz (T : Tx K mg A) : FnOk P w K mg base CX0 1 A.f_BadSizeszz_initzz A.d_BadSizeszz_initzz ["self", "given", "wanted"] (spX A.c_1 ["given", "wanted"]) := fnX2 T.O_1 T.nx_1_1 T.nx_1_0 T.F_BadSizeszz_initzz sc_BadSizeszz_initzz fun _ _ _ _ _ _ => pss_cons (ps_ost (pv 0) (pv 1)) (pss_one (ps_ost (pv 0) (pv 2)))
theorem okx_BadStepzz_initzz (T : Tx K mg A) : FnOk P w K mg base CX0 1 A.f_BadStepzz_initzz A.d_BadStepzz_initzz ["self", "index"] (spX A.c_2 ["index"]) := fnX1 T.O_2 T.nx_2_0 T.F_BadStepzz_initzz sc_BadStepzz_initzz fun _ _ _ _ _ _ => pss_one (ps_ost (pv 0) (pv 1))
theorem okx_TooCurvedzz_initzz (T : Tx K mg A) : FnOk P w K mg base CX0 1 A.f_TooCurvedzz_initzz A.d_TooCurvedzz_initzz ["self", "index"] (spX A.c_3 ["index"]) := fnX1 T.O_3 T.nx_3_0 T.F_TooCurvedzz_initzz sc_TooCurvedzz_initzz fun _ _ _ _ _ _ => pss_one (ps_ost (pv 0) (pv 1))
set_option maxHeartbeats 4000000 in
theorem ok_law_pool (T : Tx K mg A) : FnD P w K mg base (WK K A pp pm) 1 A.f_law_pool A.d_law_pool ["script"] F_law_pool := by
  refine fnD_of (N := N_law_pool) T.F_law_pool sc_law_pool fun cdv AA fs s H E here passes => ?_
  have nd := sc_law_pool.nd
  exact (dss_cons (ds_set (i := 1) nd rfl (by first | exact Or.inl rfl | exact Or.inr rfl) (de_lst false (da_cons (de_c pe_int (fun _ => .int _)) (da_cons (de_c pe_int (fun _ => .int _)) da_nil))) (by first | exact Or.inl rfl | exact Or.inr rfl))
    (dss_cons (ds_set (i := 1) nd rfl (by first | exact Or.inl rfl | exact Or.inr rfl) (de_add false (de_var (pv 1)) (de_lst false (da_cons (de_c pe_int (fun _ => .int _)) (da_cons (de_c pe_int (fun _ => .int _)) da_nil)))) (by first | exact Or.inl rfl | exact Or.inr rfl))
    (dss_cons (ds_set (i := 1) nd rfl (by first | exact Or.inl rfl | exact Or.inr rfl) (de_add false (de_var (pv 1)) (de_lst false (da_cons (de_c pe_int (fun _ => .int _)) (da_cons (de_c pe_int (fun _ => .int _)) da_nil)))) (by first | exact Or.inl rfl | exact Or.inr rfl))
    (dss_cons (ds_set (i := 1) nd rfl (by first | exact Or.inl rfl | exact Or.inr rfl) (de_add false (de_var (pv 1)) (de_lst false (da_cons (de_c pe_int (fun _ => .int _)) (da_cons (de_c pe_int (fun _ => .int _)) da_nil)))) (by first | exact Or.inl rfl | exact Or.inr rfl))
    (dss_cons (ds_set (i := 1) nd rfl (by first | exact Or.inl rfl | exact Or.inr rfl) (de_add false (de_var (pv 1)) (de_lst false (da_cons (de_c pe_int (fun _ => .int _)) (da_cons (de_c pe_int (fun _ => .int _)) da_nil)))) (by first | exact Or.inl rfl | exact Or.inr rfl))
    (dss_cons (ds_set (i := 1) nd rfl (by first | exact Or.inl rfl | exact Or.inr rfl) (de_add false (de_var (pv 1)) (de_lst false (da_cons (de_c pe_int (fun _ => .int _)) (da_cons (de_c pe_int (fun _ => .int _)) da_nil)))) (by first | exact Or.inl rfl | exact Or.inr rfl))
    (dss_one (ds_ret (de_add true (de_comp (own := [("cell", 2)]) false rfl nd (di_seq rfl (de_slL false rfl (de_var (pv 0)) do_no (do_some (de_c pe_int (fun _ => .int _))))) (blkOk_by (own := [("cell", 2)]) (N := N_law_pool) (sc := defScope (topS 23)) (by decide +kernel)) (cg_name 2) (fun _ _ _ _ _ => (pg_name (i := 2) nd rfl (.inl rfl))) (fun _ _ _ _ _ => dts_nil) (fun _ _ _ _ _ => (de_mod (de_B sv_abs (fun h => pe_callB call_abs (by rfl) T.z_abs boot_abs h) (da_cons (de_B sv_int (fun h => pe_callTy call_int1 (by rfl) T.z_int boot_int h) (da_cons (de_var (pv 2)) da_nil)) da_nil)) (de_pow (de_c pe_int (fun _ => .int _)) (de_c pe_int (fun _ => .int _)))))) (de_var (pv 1)))))))))))
set_option maxHeartbeats 4000000 in
theorem ok_law_take (T : Tx K mg A) : FnD P w K mg base (WK K A pp pm) 1 A.f_law_take A.d_law_take ["pool", "many"] F_law_take := by
  refine fnD_of (N := N_law_take) T.F_law_take sc_law_take fun cdv AA fs s H E here passes => ?_
  have nd := sc_law_take.nd
  exact (dss_cons (ds_if (dt_w (dw_and (dt_eq here.u rfl (de_ix rfl (de_var (pv 0)) (de_c pe_int (fun _ => .int _)) (fun _ _ => rfl)) (de_c pe_int (fun _ => .int _))) (dw_and1 (dt_gt (de_B (sv_len rfl) (fun h => pe_callB call_len_seq (by rfl) T.z_len PySem.boot_len h) (da_cons (de_var (pv 0)) da_nil)) (de_c pe_int (fun _ => .int _)))))) (dss_one (ds_expr (de_popAt rfl (de_var (pv 0)) (da_cons (de_c pe_int (fun _ => .int _)) da_nil) (fun h k => pe_bm PySem.F.plainAttrs_list PySem.F.slot_list_pop PySem.F.type_list_pop mt_popAt h k)))) dss_nil)
    (dss_cons (ds_set (i := 2) nd rfl (by first | exact Or.inl rfl | exact Or.inr rfl) (de_mod (de_B sv_int (fun h => pe_callTy call_int1 (by rfl) T.z_int boot_int h) (da_cons (de_ix rfl (de_var (pv 0)) (de_c pe_int (fun _ => .int _)) (fun _ _ => rfl)) da_nil)) (de_var (pv 1))) (by first | exact Or.inl rfl | exact Or.inr rfl))
    (dss_cons (ds_setIx (de_var (pv 0)) (de_c pe_int (fun _ => .int _)) (de_div (de_ix rfl (de_var (pv 0)) (de_c pe_int (fun _ => .int _)) (fun _ _ => rfl)) (de_var (pv 1))) (fun h ho hi => ps_asg h (pg_sub ho hi set_list)))
    (dss_one (ds_ret (de_var (pv 2)))))))
set_option maxHeartbeats 4000000 in
theorem ok_law_near (T : Tx K mg A) : FnD P w K mg base (WK K A pp pm) 2 A.f_law_near A.d_law_near ["pool", "limit"] F_law_near := by
  refine fnD_of (N := N_law_near) T.F_law_near sc_law_near fun cdv AA fs s H E here passes => ?_
  have nd := sc_law_near.nd
  exact (dss_cons (ds_set (i := 2) nd rfl (by first | exact Or.inl rfl | exact Or.inr rfl) (de_call (ok_law_take T) here (by decide) (by rfl) T.g_law_take T.k_law_take T.b_law_take .nil (fun _ => .nil) (da_cons (de_var (pv 0)) (da_cons (de_iadd (de_imul (de_c pe_int (fun _ => .int _)) (de_var (pv 1))) (de_c pe_int (fun _ => .int _))) da_nil))) (by first | exact Or.inl rfl | exact Or.inr rfl))
    (dss_cons (ds_if (dt_eq here.u rfl (de_mod (de_B sv_int (fun h => pe_callTy call_int1 (by rfl) T.z_int boot_int h) (da_cons (de_var (pv 2)) da_nil)) (de_c pe_int (fun _ => .int _))) (de_c pe_int (fun _ => .int _))) (dss_one (ds_ret (de_iadd (de_div (de_var (pv 2)) (de_c pe_int (fun _ => .int _))) (de_c pe_int (fun _ => .int _))))) dss_nil)
    (dss_one (ds_ret (de_neg (de_div (de_var (pv 2)) (de_c pe_int (fun _ => .int _))))))))
set_option maxHeartbeats 4000000 in
theorem ok_law_numbers (T : Tx K mg A) : FnD P w K mg base (WK K A pp pm) 3 A.f_law_numbers A.d_law_numbers ["pool"] F_law_numbers := by
  refine fnD_of (N := N_law_numbers) T.F_law_numbers sc_law_numbers fun cdv AA fs s H E here passes => ?_
  have nd := sc_law_numbers.nd
  exact (dss_cons (ds_set (i := 1) nd rfl (by first | exact Or.inl rfl | exact Or.inr rfl) (de_ix rfl (de_lst false (da_cons (de_c pe_int (fun _ => .int _)) (da_cons (de_c pe_int (fun _ => .int _)) (da_cons (de_pow (de_c pe_int (fun _ => .int _)) (de_c pe_int (fun _ => .int _))) da_nil)))) (de_call (ok_law_take T) here (by decide) (by rfl) T.g_law_take T.k_law_take T.b_law_take .nil (fun _ => .nil) (da_cons (de_var (pv 0)) (da_cons (de_c pe_int (fun _ => .int _)) da_nil))) (fun _ _ => rfl)) (by first | exact Or.inl rfl | exact Or.inr rfl))
    (dss_cons (ds_set (i := 2) nd rfl (by first | exact Or.inl rfl | exact Or.inr rfl) (de_call (ok_law_take T) here (by decide) (by rfl) T.g_law_take T.k_law_take T.b_law_take .nil (fun _ => .nil) (da_cons (de_var (pv 0)) (da_cons (de_c pe_int (fun _ => .int _)) da_nil))) (by first | exact Or.inl rfl | exact Or.inr rfl))
    (dss_cons (ds_set (i := 3) nd rfl (by first | exact Or.inl rfl | exact Or.inr rfl) (de_call (ok_law_take T) here (by decide) (by rfl) T.g_law_take T.k_law_take T.b_law_take .nil (fun _ => .nil) (da_cons (de_var (pv 0)) (da_cons (de_c pe_int (fun _ => .int _)) da_nil))) (by first | exact Or.inl rfl | exact Or.inr rfl))
    (dss_cons (ds_set (i := 4) nd rfl (by first | exact Or.inl rfl | exact Or.inr rfl) (de_lst false (da_cons (de_c pe_int (fun _ => .int _)) (da_cons (de_c pe_int (fun _ => .int _)) (da_cons (de_c pe_int (fun _ => .int _)) (da_cons (de_c pe_int (fun _ => .int _)) (da_cons (de_c pe_int (fun _ => .int _)) (da_cons (de_c pe_int (fun _ => .int _)) (da_cons (de_c pe_int (fun _ => .int _)) (da_cons (de_c pe_int (fun _ => .int _)) da_nil))))))))) (by first | exact Or.inl rfl | exact Or.inr rfl))
    (dss_cons (ds_if (dt_eq here.u rfl (de_var (pv 2)) (de_c pe_int (fun _ => .int _))) (dss_one (ds_set (i := 4) nd rfl (by first | exact Or.inl rfl | exact Or.inr rfl) (de_lst false (da_cons (de_c pe_int (fun _ => .int _)) (da_cons (de_c pe_int (fun _ => .int _)) (da_cons (de_c pe_int (fun _ => .int _)) da_nil)))) (by first | exact Or.inl rfl | exact Or.inr rfl))) dss_nil)
    (dss_cons (ds_if (dt_eq here.u rfl (de_var (pv 2)) (de_c pe_int (fun _ => .int _))) (dss_one (ds_set (i := 4) nd rfl (by first | exact Or.inl rfl | exact Or.inr rfl) (de_lst false (da_cons (de_c pe_int (fun _ => .int _)) (da_cons (de_c pe_int (fun _ => .int _)) (da_cons (de_c pe_int (fun _ => .int _)) (da_cons (de_c pe_int (fun _ => .int _)) (da_cons (de_c pe_int (fun _ => .int _)) (da_cons (de_c pe_int (fun _ => .int _)) da_nil))))))) (by first | exact Or.inl rfl | exact Or.inr rfl))) dss_nil)
    (dss_cons (ds_if (dt_eq here.u rfl (de_var (pv 2)) (de_c pe_int (fun _ => .int _))) (dss_one (ds_set (i := 4) nd rfl (by first | exact Or.inl rfl | exact Or.inr rfl) (de_lst false (da_cons (de_c pe_int (fun _ => .int _)) (da_cons (de_c pe_int (fun _ => .int _)) (da_cons (de_c pe_int (fun _ => .int _)) (da_cons (de_c pe_int (fun _ => .int _)) (da_cons (de_c pe_int (fun _ => .int _)) (da_cons (de_c pe_int (fun _ => .int _)) da_nil))))))) (by first | exact Or.inl rfl | exact Or.inr rfl))) dss_nil)
    (dss_cons (ds_if (dt_eq here.u rfl (de_var (pv 2)) (de_c pe_int (fun _ => .int _))) (dss_one (ds_set (i := 4) nd rfl (by first | exact Or.inl rfl | exact Or.inr rfl) (de_mul false (de_lst false (da_cons (de_c pe_int (fun _ => .int _)) da_nil)) (de_div (de_var (pv 3)) (de_c pe_int (fun _ => .int _)))) (by first | exact Or.inl rfl | exact Or.inr rfl))) dss_nil)
    (dss_cons (ds_if (dt_eq here.u rfl (de_var (pv 2)) (de_c pe_int (fun _ => .int _))) (dss_one (ds_set (i := 4) nd rfl (by first | exact Or.inl rfl | exact Or.inr rfl) (de_slL false rfl (de_var (pv 4)) (do_some (de_var (pv 3))) do_no) (by first | exact Or.inl rfl | exact Or.inr rfl))) dss_nil)
    (dss_cons (ds_if (dt_eq here.u rfl (de_var (pv 2)) (de_c pe_int (fun _ => .int _))) (dss_one (ds_set (i := 4) nd rfl (by first | exact Or.inl rfl | exact Or.inr rfl) (de_lst false (da_cons (de_var (pv 3)) da_nil)) (by first | exact Or.inl rfl | exact Or.inr rfl))) dss_nil)
    (dss_cons (ds_setLc (i := 5) (own := [("k", 6)]) false rfl nd rfl rfl (sw_true rfl rfl rfl (by decide +kernel)) (di_seq rfl (de_var (pv 4))) (blkOk_by (own := [("k", 6)]) (N := N_law_numbers) (sc := defScope (topS 31)) (by decide +kernel)) (cg_name 6) (fun _ _ _ _ _ => (pg_name (i := 6) nd rfl (.inl rfl))) (fun _ _ _ _ _ => dts_nil) (fun _ _ _ _ _ => (de_call (ok_law_near T) (here.blk _ _ _ _ _) (by decide) (by rfl) T.g_law_near T.k_law_near T.b_law_near .nil (fun _ => .nil) (da_cons (de_var (pv 0)) (da_cons (de_var (pv 1)) da_nil)))))
    (dss_cons (ds_set (i := 7) nd rfl (by first | exact Or.inl rfl | exact Or.inr rfl) (de_mul true (de_lst false (da_cons (de_c pe_int (fun _ => .int _)) da_nil)) (de_c pe_int (fun _ => .int _))) (by first | exact Or.inl rfl | exact Or.inr rfl))
    (dss_cons (ds_for passes rfl (di_range1 (by rfl) T.z_range (da_cons (de_B (sv_len rfl) (fun h => pe_callB call_len_seq (by rfl) T.z_len PySem.boot_len h) (da_cons (de_var (pv 4)) da_nil)) da_nil)) (dg_name nd (i := 6) rfl (by first | exact Or.inl rfl | exact Or.inr rfl) (by first | exact Or.inl rfl | exact Or.inr rfl)) (dss_one (ds_setIx (de_var (pv 7)) (de_ix rfl (de_var (pv 4)) (de_var (pv 6)) (fun _ _ => rfl)) (de_ix rfl (de_var (pv 5)) (de_var (pv 6)) (fun _ _ => rfl)) (fun h ho hi => ps_asg h (pg_sub ho hi set_list)))))
    (dss_one (ds_ret (de_B (sv_tuple rfl) (fun h => pe_callTy call_tuple_of (by rfl) T.z_tuple boot_tuple h) (da_cons (de_var (pv 7)) da_nil)))))))))))))))))
set_option maxHeartbeats 4000000 in
theorem ok_law_low (T : Tx K mg A) : FnD P w K mg base (WK K A pp pm) 1 A.f_law_low A.d_law_low ["top", "bottom"] F_law_low := by
  refine fnD_of (N := N_law_low) T.F_law_low sc_law_low fun cdv AA fs s H E here passes => ?_
  have nd := sc_law_low.nd
  exact (dss_cons (ds_set (i := 2) nd rfl (by first | exact Or.inl rfl | exact Or.inr rfl) (de_B sv_abs (fun h => pe_callB call_abs (by rfl) T.z_abs boot_abs h) (da_cons (de_var (pv 0)) da_nil)) (by first | exact Or.inl rfl | exact Or.inr rfl))
    (dss_cons (ds_set (i := 3) nd rfl (by first | exact Or.inl rfl | exact Or.inr rfl) (de_B sv_abs (fun h => pe_callB call_abs (by rfl) T.z_abs boot_abs h) (da_cons (de_var (pv 1)) da_nil)) (by first | exact Or.inl rfl | exact Or.inr rfl))
    (dss_cons (ds_while 1000 passes (dt_ne here.u rfl (de_var (pv 3)) (de_c pe_int (fun _ => .int _))) (dss_cons (ds_set (i := 4) nd rfl (by first | exact Or.inl rfl | exact Or.inr rfl) (de_mod (de_B sv_int (fun h => pe_callTy call_int1 (by rfl) T.z_int boot_int h) (da_cons (de_var (pv 2)) da_nil)) (de_var (pv 3))) (by first | exact Or.inl rfl | exact Or.inr rfl))
    (dss_cons (ds_set (i := 2) nd rfl (by first | exact Or.inl rfl | exact Or.inr rfl) (de_var (pv 3)) (by first | exact Or.inl rfl | exact Or.inr rfl))
    (dss_one (ds_set (i := 3) nd rfl (by first | exact Or.inl rfl | exact Or.inr rfl) (de_var (pv 4)) (by first | exact Or.inl rfl | exact Or.inr rfl))))))
    (dss_cons (ds_if (dt_lt (de_var (pv 1)) (de_c pe_int (fun _ => .int _))) (dss_one (ds_set (i := 2) nd rfl (by first | exact Or.inl rfl | exact Or.inr rfl) (de_neg (de_var (pv 2))) (by first | exact Or.inl rfl | exact Or.inr rfl))) dss_nil)
    (dss_one (ds_ret (de_tup (da_cons (de_div (de_var (pv 0)) (de_var (pv 2))) (da_cons (de_div (de_var (pv 1)) (de_var (pv 2))) da_nil)))))))))
set_option maxHeartbeats 4000000 in
theorem ok_Formzz_initzz (T : Tx K mg A) : FnD P w K mg base (WK K A pp pm) 3 A.f_Formzz_initzz A.d_Formzz_initzz ["self", "numbers"] F_Formzz_initzz := by
  refine fnD_of (N := N_Formzz_initzz) T.F_Formzz_initzz sc_Formzz_initzz fun cdv AA fs s H E here passes => ?_
  have nd := sc_Formzz_initzz.nd
  exact (dss_cons (ds_if (dt_ne here.u rfl (de_B (sv_len rfl) (fun h => pe_callB call_len_seq (by rfl) T.z_len PySem.boot_len h) (da_cons (de_var (pv 1)) da_nil)) (de_c pe_int (fun _ => .int _))) (dss_one (ds_raise here (by decide) rfl T.O_1 T.ix_1 T.ti_1 (okx_BadSizeszz_initzz T) T.b_BadSizeszz_initzz (by rfl) T.gc_1 rfl rfl (by decide) (da_cons (de_B (sv_len rfl) (fun h => pe_callB call_len_seq (by rfl) T.z_len PySem.boot_len h) (da_cons (de_var (pv 1)) da_nil)) (da_cons (de_c pe_int (fun _ => .int _)) da_nil)))) dss_nil)
    (dss_one (ds_fld T.C_0 rfl rfl (de_var (pv 0)) (de_B (sv_tuple rfl) (fun h => pe_callTy call_tuple_of (by rfl) T.z_tuple boot_tuple h) (da_cons (de_var (pv 1)) da_nil)) rfl)))
set_option maxHeartbeats 4000000 in
theorem ok_negative (T : Tx K mg A) : FnD P w K mg base (WK K A pp pm) 1 A.f_negative A.d_negative ["number"] F_negative := by
  refine fnD_of (N := N_negative) T.F_negative sc_negative fun cdv AA fs s H E here passes => ?_
  have nd := sc_negative.nd
  exact (dss_one (ds_ret (de_tup (da_cons (de_neg (de_ix rfl (de_var (pv 0)) (de_c pe_int (fun _ => .int _)) (fun _ _ => rfl))) (da_cons (de_ix rfl (de_var (pv 0)) (de_c pe_int (fun _ => .int _)) (fun _ _ => rfl)) da_nil)))))
set_option maxHeartbeats 4000000 in
theorem ok_bottoms_at (T : Tx K mg A) : FnD P w K mg base (WK K A pp pm) 1 A.f_bottoms_at A.d_bottoms_at ["x", "y"] F_bottoms_at := by
  refine fnD_of (N := N_bottoms_at) T.F_bottoms_at sc_bottoms_at fun cdv AA fs s H E here passes => ?_
  have nd := sc_bottoms_at.nd
  exact (dss_cons (ds_set (i := 2) nd rfl (by first | exact Or.inl rfl | exact Or.inr rfl) (de_ix rfl (de_var (pv 0)) (de_c pe_int (fun _ => .int _)) (fun _ _ => rfl)) (by first | exact Or.inl rfl | exact Or.inr rfl))
    (dss_cons (ds_set (i := 3) nd rfl (by first | exact Or.inl rfl | exact Or.inr rfl) (de_ix rfl (de_var (pv 1)) (de_c pe_int (fun _ => .int _)) (fun _ _ => rfl)) (by first | exact Or.inl rfl | exact Or.inr rfl))
    (dss_one (ds_ret (de_lst false (da_cons (de_imul (de_pow (de_var (pv 2)) (de_c pe_int (fun _ => .int _))) (de_pow (de_var (pv 3)) (de_c pe_int (fun _ => .int _)))) (da_cons (de_imul (de_pow (de_var (pv 2)) (de_c pe_int (fun _ => .int _))) (de_var (pv 3))) (da_cons (de_pow (de_var (pv 2)) (de_c pe_int (fun _ => .int _))) (da_cons (de_var (pv 2)) (da_cons (de_c pe_int (fun _ => .int _)) (da_cons (de_imul (de_var (pv 2)) (de_var (pv 3))) (da_cons (de_c pe_int (fun _ => .int _)) (da_cons (de_c pe_int (fun _ => .int _)) da_nil)))))))))))))
set_option maxHeartbeats 4000000 in
theorem ok_Form_plain (T : Tx K mg A) : FnD P w K mg base (WK K A pp pm) 5 A.f_Form_plain A.d_Form_plain ["self"] F_Form_plain := by
  refine fnD_of (N := N_Form_plain) T.F_Form_plain sc_Form_plain fun cdv AA fs s H E here passes => ?_
  have nd := sc_Form_plain.nd
  exact (dss_cons (ds_set (i := 1) nd rfl (by first | exact Or.inl rfl | exact Or.inr rfl) (de_c pe_int (fun _ => .int _)) (by first | exact Or.inl rfl | exact Or.inr rfl))
    (dss_cons (ds_for passes rfl (di_seq rfl (de_fld T.C_0 rfl rfl (de_var (pv 0)) rfl)) (dg_name nd (i := 2) rfl (by first | exact Or.inl rfl | exact Or.inr rfl) (by first | exact Or.inl rfl | exact Or.inr rfl)) (dss_one (ds_set (i := 1) nd rfl (by first | exact Or.inl rfl | exact Or.inr rfl) (de_B sv_gcd (fun h => pe_callBfun cr_gcd (by rfl) T.g_gcd h) (da_cons (de_var (pv 1)) (da_cons (de_var (pv 2)) da_nil))) (by first | exact Or.inl rfl | exact Or.inr rfl))))
    (dss_cons (ds_if (dt_eq here.u rfl (de_var (pv 1)) (de_c pe_int (fun _ => .int _))) (dss_one (ds_ret (de_fz (de_make T.C_0 T.M_0 (ok_Formzz_initzz T) here (by decide) (by rfl) T.gc_0 T.b_Formzz_initzz .nil (fun _ => .nil) (da_cons (de_fld T.C_0 rfl rfl (de_var (pv 0)) rfl) da_nil))))) dss_nil)
    (dss_one (ds_ret (de_fz (de_make T.C_0 T.M_0 (ok_Formzz_initzz T) here (by decide) (by rfl) T.gc_0 T.b_Formzz_initzz .nil (fun _ => .nil) (da_cons (de_comp (own := [("number", 2)]) false rfl nd (di_seq rfl (de_fld T.C_0 rfl rfl (de_var (pv 0)) rfl)) (blkOk_by (own := [("number", 2)]) (N := N_Form_plain) (sc := defScope (inClass (topS 13) 13)) (by decide +kernel)) (cg_name 2) (fun _ _ _ _ _ => (pg_name (i := 2) nd rfl (.inl rfl))) (fun _ _ _ _ _ => dts_nil) (fun _ _ _ _ _ => (de_div (de_var (pv 2)) (de_var (pv 1))))) da_nil))))))))
set_option maxHeartbeats 4000000 in
theorem ok_tops_at (T : Tx K mg A) : FnD P w K mg base (WK K A pp pm) 1 A.f_tops_at A.d_tops_at ["form", "x", "y"] F_tops_at := by
  refine fnD_of (N := N_tops_at) T.F_tops_at sc_tops_at fun cdv AA fs s H E here passes => ?_
  have nd := sc_tops_at.nd
  exact (dss_cons (ds_asg (de_fld T.C_0 rfl rfl (de_var (pv 0)) rfl) (dg_un rfl rfl (dgs_cons (dg_name nd (i := 3) rfl (by first | exact Or.inl rfl | exact Or.inr rfl) (by first | exact Or.inl rfl | exact Or.inr rfl)) (dgs_cons (dg_name nd (i := 4) rfl (by first | exact Or.inl rfl | exact Or.inr rfl) (by first | exact Or.inl rfl | exact Or.inr rfl)) (dgs_cons (dg_name nd (i := 5) rfl (by first | exact Or.inl rfl | exact Or.inr rfl) (by first | exact Or.inl rfl | exact Or.inr rfl)) (dgs_cons (dg_name nd (i := 6) rfl (by first | exact Or.inl rfl | exact Or.inr rfl) (by first | exact Or.inl rfl | exact Or.inr rfl)) (dgs_cons (dg_name nd (i := 7) rfl (by first | exact Or.inl rfl | exact Or.inr rfl) (by first | exact Or.inl rfl | exact Or.inr rfl)) (dgs_cons (dg_name nd (i := 8) rfl (by first | exact Or.inl rfl | exact Or.inr rfl) (by first | exact Or.inl rfl | exact Or.inr rfl)) (dgs_cons (dg_name nd (i := 9) rfl (by first | exact Or.inl rfl | exact Or.inr rfl) (by first | exact Or.inl rfl | exact Or.inr rfl)) (dgs_cons (dg_name nd (i := 10) rfl (by first | exact Or.inl rfl | exact Or.inr rfl) (by first | exact Or.inl rfl | exact Or.inr rfl)) dgs_nil))))))))))
    (dss_cons (ds_asg (de_var (pv 1)) (dg_un rfl rfl (dgs_cons (dg_name nd (i := 11) rfl (by first | exact Or.inl rfl | exact Or.inr rfl) (by first | exact Or.inl rfl | exact Or.inr rfl)) (dgs_cons (dg_name nd (i := 12) rfl (by first | exact Or.inl rfl | exact Or.inr rfl) (by first | exact Or.inl rfl | exact Or.inr rfl)) dgs_nil))))
    (dss_cons (ds_asg (de_var (pv 2)) (dg_un rfl rfl (dgs_cons (dg_name nd (i := 13) rfl (by first | exact Or.inl rfl | exact Or.inr rfl) (by first | exact Or.inl rfl | exact Or.inr rfl)) (dgs_cons (dg_name nd (i := 14) rfl (by first | exact Or.inl rfl | exact Or.inr rfl) (by first | exact Or.inl rfl | exact Or.inr rfl)) dgs_nil))))
    (dss_cons (ds_set (i := 15) nd rfl (by first | exact Or.inl rfl | exact Or.inr rfl) (de_lst true (da_cons (de_imul (de_var (pv 3)) (de_pow (de_var (pv 12)) (de_c pe_int (fun _ => .int _)))) (da_cons (de_imul (de_var (pv 4)) (de_pow (de_var (pv 12)) (de_c pe_int (fun _ => .int _)))) (da_cons (de_imul (de_var (pv 5)) (de_pow (de_var (pv 12)) (de_c pe_int (fun _ => .int _)))) (da_cons (de_imul (de_var (pv 6)) (de_var (pv 12))) (da_cons (de_var (pv 7)) da_nil)))))) (by first | exact Or.inl rfl | exact Or.inr rfl))
    (dss_cons (ds_for passes rfl (di_range1 (by rfl) T.z_range (da_cons (de_c pe_int (fun _ => .int _)) da_nil)) (dg_name nd (i := 16) rfl (by first | exact Or.inl rfl | exact Or.inr rfl) (by first | exact Or.inl rfl | exact Or.inr rfl)) (dss_one (ds_for passes rfl (di_rangeD (by rfl) T.z_range (da_cons (de_c pe_int (fun _ => .int _)) (da_cons (de_sub (de_var (pv 16)) (de_c pe_int (fun _ => .int _))) (da_cons (de_neg (de_c pe_int (fun _ => .int _))) da_nil))) (fun h => pi_range3 (by rfl) T.z_range h)) (dg_name nd (i := 17) rfl (by first | exact Or.inl rfl | exact Or.inr rfl) (by first | exact Or.inl rfl | exact Or.inr rfl)) (dss_one (ds_setIx (de_var (pv 15)) (de_var (pv 17)) (de_iadd (de_ix rfl (de_var (pv 15)) (de_var (pv 17)) (fun _ _ => rfl)) (de_imul (de_var (pv 11)) (de_ix rfl (de_var (pv 15)) (de_iadd (de_var (pv 17)) (de_c pe_int (fun _ => .int _))) (fun _ _ => rfl)))) (fun h ho hi => ps_asg h (pg_sub ho hi set_list)))))))
    (dss_cons (ds_set (i := 18) nd rfl (by first | exact Or.inl rfl | exact Or.inr rfl) (de_iadd (de_imul (de_imul (de_var (pv 8)) (de_var (pv 12))) (de_var (pv 14))) (de_imul (de_imul (de_var (pv 9)) (de_var (pv 11))) (de_var (pv 14)))) (by first | exact Or.inl rfl | exact Or.inr rfl))
    (dss_one (ds_ret (de_lst false (da_cons (de_iadd (de_imul (de_ix rfl (de_var (pv 15)) (de_c pe_int (fun _ => .int _)) (fun _ _ => rfl)) (de_pow (de_var (pv 14)) (de_c pe_int (fun _ => .int _)))) (de_imul (de_imul (de_var (pv 13)) (de_iadd (de_var (pv 18)) (de_imul (de_imul (de_var (pv 10)) (de_var (pv 13))) (de_var (pv 12))))) (de_pow (de_var (pv 12)) (de_c pe_int (fun _ => .int _))))) (da_cons (de_iadd (de_imul (de_ix rfl (de_var (pv 15)) (de_c pe_int (fun _ => .int _)) (fun _ _ => rfl)) (de_var (pv 14))) (de_imul (de_imul (de_var (pv 9)) (de_var (pv 13))) (de_pow (de_var (pv 12)) (de_c pe_int (fun _ => .int _))))) (da_cons (de_ix rfl (de_var (pv 15)) (de_c pe_int (fun _ => .int _)) (fun _ _ => rfl)) (da_cons (de_ix rfl (de_var (pv 15)) (de_c pe_int (fun _ => .int _)) (fun _ _ => rfl)) (da_cons (de_ix rfl (de_var (pv 15)) (de_c pe_int (fun _ => .int _)) (fun _ _ => rfl)) (da_cons (de_iadd (de_var (pv 18)) (de_imul (de_imul (de_imul (de_c pe_int (fun _ => .int _)) (de_var (pv 10))) (de_var (pv 13))) (de_var (pv 12)))) (da_cons (de_var (pv 9)) (da_cons (de_var (pv 10)) da_nil)))))))))))))))))
set_option maxHeartbeats 4000000 in
theorem ok_shift_form (T : Tx K mg A) : FnD P w K mg base (WK K A pp pm) 6 A.f_shift_form A.d_shift_form ["form", "dx", "dy"] F_shift_form := by
  refine fnD_of (N := N_shift_form) T.F_shift_form sc_shift_form fun cdv AA fs s H E here passes => ?_
  have nd := sc_shift_form.nd
  exact (dss_cons (ds_set (i := 3) nd rfl (by first | exact Or.inl rfl | exact Or.inr rfl) (de_call (ok_negative T) here (by decide) (by rfl) T.g_negative T.k_negative T.b_negative .nil (fun _ => .nil) (da_cons (de_var (pv 1)) da_nil)) (by first | exact Or.inl rfl | exact Or.inr rfl))
    (dss_cons (ds_set (i := 4) nd rfl (by first | exact Or.inl rfl | exact Or.inr rfl) (de_call (ok_negative T) here (by decide) (by rfl) T.g_negative T.k_negative T.b_negative .nil (fun _ => .nil) (da_cons (de_var (pv 2)) da_nil)) (by first | exact Or.inl rfl | exact Or.inr rfl))
    (dss_cons (ds_set (i := 5) nd rfl (by first | exact Or.inl rfl | exact Or.inr rfl) (de_call (ok_bottoms_at T) here (by decide) (by rfl) T.g_bottoms_at T.k_bottoms_at T.b_bottoms_at .nil (fun _ => .nil) (da_cons (de_var (pv 3)) (da_cons (de_var (pv 4)) da_nil))) (by first | exact Or.inl rfl | exact Or.inr rfl))
    (dss_cons (ds_set (i := 6) nd rfl (by first | exact Or.inl rfl | exact Or.inr rfl) (de_ix rfl (de_var (pv 5)) (de_c pe_int (fun _ => .int _)) (fun _ _ => rfl)) (by first | exact Or.inl rfl | exact Or.inr rfl))
    (dss_one (ds_ret (de_meth0 T.C_0 rfl (nin_Form_plain) (ok_Form_plain T) here (by decide) (de_fz (de_make T.C_0 T.M_0 (ok_Formzz_initzz T) here (by decide) (by rfl) T.gc_0 T.b_Formzz_initzz .nil (fun _ => .nil) (da_cons (de_comp (own := [("top", 7), ("bottom", 8)]) false rfl nd (di_zip rfl (by rfl) T.z_zip (da_cons (de_call (ok_tops_at T) here (by decide) (by rfl) T.g_tops_at T.k_tops_at T.b_tops_at .nil (fun _ => .nil) (da_cons (de_var (pv 0)) (da_cons (de_var (pv 3)) (da_cons (de_var (pv 4)) da_nil)))) (da_cons (de_var (pv 5)) da_nil))) (blkOk_by (own := [("top", 7), ("bottom", 8)]) (N := N_shift_form) (sc := defScope (topS 17)) (by decide +kernel)) (cg_two 7 8 (by decide) rfl) (fun _ _ _ _ _ => (pg_tup rfl (pgs_cons (pg_name (i := 7) nd rfl (.inl rfl)) (pgs_cons (pg_name (i := 8) nd rfl (.inl rfl)) pgs_nil)))) (fun _ _ _ _ _ => dts_nil) (fun _ _ _ _ _ => (de_imul (de_var (pv 7)) (de_div (de_var (pv 6)) (de_var (pv 8)))))) da_nil))) T.m_Form_plain T.b_Form_plain .nil (fun _ => .nil))))))))
set_option maxHeartbeats 4000000 in
theorem ok_scale_form (T : Tx K mg A) : FnD P w K mg base (WK K A pp pm) 6 A.f_scale_form A.d_scale_form ["form", "sx", "sy"] F_scale_form := by
  refine fnD_of (N := N_scale_form) T.F_scale_form sc_scale_form fun cdv AA fs s H E here passes => ?_
  have nd := sc_scale_form.nd
  exact (dss_cons (ds_if (dt_le (de_ix rfl (de_var (pv 1)) (de_c pe_int (fun _ => .int _)) (fun _ _ => rfl)) (de_c pe_int (fun _ => .int _))) (dss_one (ds_raise here (by decide) rfl T.O_2 T.ix_2 T.ti_2 (okx_BadStepzz_initzz T) T.b_BadStepzz_initzz (by rfl) T.gc_2 rfl rfl (by decide) (da_cons (de_c pe_int (fun _ => .int _)) da_nil))) dss_nil)
    (dss_cons (ds_if (dt_le (de_ix rfl (de_var (pv 2)) (de_c pe_int (fun _ => .int _)) (fun _ _ => rfl)) (de_c pe_int (fun _ => .int _))) (dss_one (ds_raise here (by decide) rfl T.O_2 T.ix_2 T.ti_2 (okx_BadStepzz_initzz T) T.b_BadStepzz_initzz (by rfl) T.gc_2 rfl rfl (by decide) (da_cons (de_c pe_int (fun _ => .int _)) da_nil))) dss_nil)
    (dss_cons (ds_asg (de_fld T.C_0 rfl rfl (de_var (pv 0)) rfl) (dg_un rfl rfl (dgs_cons (dg_name nd (i := 3) rfl (by first | exact Or.inl rfl | exact Or.inr rfl) (by first | exact Or.inl rfl | exact Or.inr rfl)) (dgs_cons (dg_name nd (i := 4) rfl (by first | exact Or.inl rfl | exact Or.inr rfl) (by first | exact Or.inl rfl | exact Or.inr rfl)) (dgs_cons (dg_name nd (i := 5) rfl (by first | exact Or.inl rfl | exact Or.inr rfl) (by first | exact Or.inl rfl | exact Or.inr rfl)) (dgs_cons (dg_name nd (i := 6) rfl (by first | exact Or.inl rfl | exact Or.inr rfl) (by first | exact Or.inl rfl | exact Or.inr rfl)) (dgs_cons (dg_name nd (i := 7) rfl (by first | exact Or.inl rfl | exact Or.inr rfl) (by first | exact Or.inl rfl | exact Or.inr rfl)) (dgs_cons (dg_name nd (i := 8) rfl (by first | exact Or.inl rfl | exact Or.inr rfl) (by first | exact Or.inl rfl | exact Or.inr rfl)) (dgs_cons (dg_name nd (i := 9) rfl (by first | exact Or.inl rfl | exact Or.inr rfl) (by first | exact Or.inl rfl | exact Or.inr rfl)) (dgs_cons (dg_name nd (i := 10) rfl (by first | exact Or.inl rfl | exact Or.inr rfl) (by first | exact Or.inl rfl | exact Or.inr rfl)) dgs_nil))))))))))
    (dss_cons (ds_asg (de_var (pv 1)) (dg_un rfl rfl (dgs_cons (dg_name nd (i := 11) rfl (by first | exact Or.inl rfl | exact Or.inr rfl) (by first | exact Or.inl rfl | exact Or.inr rfl)) (dgs_cons (dg_name nd (i := 12) rfl (by first | exact Or.inl rfl | exact Or.inr rfl) (by first | exact Or.inl rfl | exact Or.inr rfl)) dgs_nil))))
    (dss_cons (ds_asg (de_var (pv 2)) (dg_un rfl rfl (dgs_cons (dg_name nd (i := 13) rfl (by first | exact Or.inl rfl | exact Or.inr rfl) (by first | exact Or.inl rfl | exact Or.inr rfl)) (dgs_cons (dg_name nd (i := 14) rfl (by first | exact Or.inl rfl | exact Or.inr rfl) (by first | exact Or.inl rfl | exact Or.inr rfl)) dgs_nil))))
    (dss_one (ds_ret (de_meth0 T.C_0 rfl (nin_Form_plain) (ok_Form_plain T) here (by decide) (de_fz (de_make T.C_0 T.M_0 (ok_Formzz_initzz T) here (by decide) (by rfl) T.gc_0 T.b_Formzz_initzz .nil (fun _ => .nil) (da_cons (de_lst false (da_cons (de_imul (de_imul (de_var (pv 3)) (de_pow (de_var (pv 11)) (de_c pe_int (fun _ => .int _)))) (de_pow (de_var (pv 13)) (de_c pe_int (fun _ => .int _)))) (da_cons (de_imul (de_imul (de_imul (de_var (pv 4)) (de_var (pv 12))) (de_pow (de_var (pv 11)) (de_c pe_int (fun _ => .int _)))) (de_pow (de_var (pv 13)) (de_c pe_int (fun _ => .int _)))) (da_cons (de_imul (de_imul (de_imul (de_var (pv 5)) (de_pow (de_var (pv 12)) (de_c pe_int (fun _ => .int _)))) (de_pow (de_var (pv 11)) (de_c pe_int (fun _ => .int _)))) (de_pow (de_var (pv 13)) (de_c pe_int (fun _ => .int _)))) (da_cons (de_imul (de_imul (de_imul (de_var (pv 6)) (de_pow (de_var (pv 12)) (de_c pe_int (fun _ => .int _)))) (de_var (pv 11))) (de_pow (de_var (pv 13)) (de_c pe_int (fun _ => .int _)))) (da_cons (de_imul (de_imul (de_var (pv 7)) (de_pow (de_var (pv 12)) (de_c pe_int (fun _ => .int _)))) (de_pow (de_var (pv 13)) (de_c pe_int (fun _ => .int _)))) (da_cons (de_imul (de_imul (de_imul (de_var (pv 8)) (de_var (pv 14))) (de_var (pv 13))) (de_pow (de_var (pv 11)) (de_c pe_int (fun _ => .int _)))) (da_cons (de_imul (de_imul (de_imul (de_imul (de_var (pv 9)) (de_var (pv 12))) (de_var (pv 14))) (de_pow (de_var (pv 11)) (de_c pe_int (fun _ => .int _)))) (de_var (pv 13))) (da_cons (de_imul (de_imul (de_var (pv 10)) (de_pow (de_var (pv 14)) (de_c pe_int (fun _ => .int _)))) (de_pow (de_var (pv 11)) (de_c pe_int (fun _ => .int _)))) da_nil))))))))) da_nil))) T.m_Form_plain T.b_Form_plain .nil (fun _ => .nil)))))))))
set_option maxHeartbeats 4000000 in
theorem ok_mirror_form_x (T : Tx K mg A) : FnD P w K mg base (WK K A pp pm) 6 A.f_mirror_form_x A.d_mirror_form_x ["form"] F_mirror_form_x := by
  refine fnD_of (N := N_mirror_form_x) T.F_mirror_form_x sc_mirror_form_x fun cdv AA fs s H E here passes => ?_
  have nd := sc_mirror_form_x.nd
  exact (dss_cons (ds_asg (de_fld T.C_0 rfl rfl (de_var (pv 0)) rfl) (dg_un rfl rfl (dgs_cons (dg_name nd (i := 1) rfl (by first | exact Or.inl rfl | exact Or.inr rfl) (by first | exact Or.inl rfl | exact Or.inr rfl)) (dgs_cons (dg_name nd (i := 2) rfl (by first | exact Or.inl rfl | exact Or.inr rfl) (by first | exact Or.inl rfl | exact Or.inr rfl)) (dgs_cons (dg_name nd (i := 3) rfl (by first | exact Or.inl rfl | exact Or.inr rfl) (by first | exact Or.inl rfl | exact Or.inr rfl)) (dgs_cons (dg_name nd (i := 4) rfl (by first | exact Or.inl rfl | exact Or.inr rfl) (by first | exact Or.inl rfl | exact Or.inr rfl)) (dgs_cons (dg_name nd (i := 5) rfl (by first | exact Or.inl rfl | exact Or.inr rfl) (by first | exact Or.inl rfl | exact Or.inr rfl)) (dgs_cons (dg_name nd (i := 6) rfl (by first | exact Or.inl rfl | exact Or.inr rfl) (by first | exact Or.inl rfl | exact Or.inr rfl)) (dgs_cons (dg_name nd (i := 7) rfl (by first | exact Or.inl rfl | exact Or.inr rfl) (by first | exact Or.inl rfl | exact Or.inr rfl)) (dgs_cons (dg_name nd (i := 8) rfl (by first | exact Or.inl rfl | exact Or.inr rfl) (by first | exact Or.inl rfl | exact Or.inr rfl)) dgs_nil))))))))))
    (dss_one (ds_ret (de_meth0 T.C_0 rfl (nin_Form_plain) (ok_Form_plain T) here (by decide) (de_fz (de_make T.C_0 T.M_0 (ok_Formzz_initzz T) here (by decide) (by rfl) T.gc_0 T.b_Formzz_initzz .nil (fun _ => .nil) (da_cons (de_lst false (da_cons (de_var (pv 1)) (da_cons (de_neg (de_var (pv 2))) (da_cons (de_var (pv 3)) (da_cons (de_neg (de_var (pv 4))) (da_cons (de_var (pv 5)) (da_cons (de_var (pv 6)) (da_cons (de_neg (de_var (pv 7))) (da_cons (de_var (pv 8)) da_nil))))))))) da_nil))) T.m_Form_plain T.b_Form_plain .nil (fun _ => .nil)))))
set_option maxHeartbeats 4000000 in
theorem ok_mirror_form_y (T : Tx K mg A) : FnD P w K mg base (WK K A pp pm) 6 A.f_mirror_form_y A.d_mirror_form_y ["form"] F_mirror_form_y := by
  refine fnD_of (N := N_mirror_form_y) T.F_mirror_form_y sc_mirror_form_y fun cdv AA fs s H E here passes => ?_
  have nd := sc_mirror_form_y.nd
  exact (dss_cons (ds_asg (de_fld T.C_0 rfl rfl (de_var (pv 0)) rfl) (dg_un rfl rfl (dgs_cons (dg_name nd (i := 1) rfl (by first | exact Or.inl rfl | exact Or.inr rfl) (by first | exact Or.inl rfl | exact Or.inr rfl)) (dgs_cons (dg_name nd (i := 2) rfl (by first | exact Or.inl rfl | exact Or.inr rfl) (by first | exact Or.inl rfl | exact Or.inr rfl)) (dgs_cons (dg_name nd (i := 3) rfl (by first | exact Or.inl rfl | exact Or.inr rfl) (by first | exact Or.inl rfl | exact Or.inr rfl)) (dgs_cons (dg_name nd (i := 4) rfl (by first | exact Or.inl rfl | exact Or.inr rfl) (by first | exact Or.inl rfl | exact Or.inr rfl)) (dgs_cons (dg_name nd (i := 5) rfl (by first | exact Or.inl rfl | exact Or.inr rfl) (by first | exact Or.inl rfl | exact Or.inr rfl)) (dgs_cons (dg_name nd (i := 6) rfl (by first | exact Or.inl rfl | exact Or.inr rfl) (by first | exact Or.inl rfl | exact Or.inr rfl)) (dgs_cons (dg_name nd (i := 7) rfl (by first | exact Or.inl rfl | exact Or.inr rfl) (by first | exact Or.inl rfl | exact Or.inr rfl)) (dgs_cons (dg_name nd (i := 8) rfl (by first | exact Or.inl rfl | exact Or.inr rfl) (by first | exact Or.inl rfl | exact Or.inr rfl)) dgs_nil))))))))))
    (dss_one (ds_ret (de_meth0 T.C_0 rfl (nin_Form_plain) (ok_Form_plain T) here (by decide) (de_fz (de_make T.C_0 T.M_0 (ok_Formzz_initzz T) here (by decide) (by rfl) T.gc_0 T.b_Formzz_initzz .nil (fun _ => .nil) (da_cons (de_lst false (da_cons (de_var (pv 1)) (da_cons (de_var (pv 2)) (da_cons (de_var (pv 3)) (da_cons (de_var (pv 4)) (da_cons (de_var (pv 5)) (da_cons (de_neg (de_var (pv 6))) (da_cons (de_neg (de_var (pv 7))) (da_cons (de_var (pv 8)) da_nil))))))))) da_nil))) T.m_Form_plain T.b_Form_plain .nil (fun _ => .nil)))))
set_option maxHeartbeats 4000000 in
theorem ok_Form_is_conic (T : Tx K mg A) : FnD P w K mg base (WK K A pp pm) 1 A.f_Form_is_conic A.d_Form_is_conic ["self"] F_Form_is_conic := by
  refine fnD_of (N := N_Form_is_conic) T.F_Form_is_conic sc_Form_is_conic fun cdv AA fs s H E here passes => ?_
  have nd := sc_Form_is_conic.nd
  exact (dss_one (ds_ret (de_eq here.u rfl (de_slT rfl (de_fld T.C_0 rfl rfl (de_var (pv 0)) rfl) (do_some (de_c pe_int (fun _ => .int _))) (do_some (de_c pe_int (fun _ => .int _)))) (de_tup (da_cons (de_c pe_int (fun _ => .int _)) (da_cons (de_c pe_int (fun _ => .int _)) da_nil))))))
set_option maxHeartbeats 4000000 in
theorem ok_turn_form (T : Tx K mg A) : FnD P w K mg base (WK K A pp pm) 6 A.f_turn_form A.d_turn_form ["form"] F_turn_form := by
  refine fnD_of (N := N_turn_form) T.F_turn_form sc_turn_form fun cdv AA fs s H E here passes => ?_
  have nd := sc_turn_form.nd
  exact (dss_cons (ds_if (dt_not (dt_val (de_prop T.C_0 rfl (ok_Form_is_conic T) here (by decide) (de_var (pv 0)) T.p_Form_is_conic T.b_Form_is_conic rfl) (fun h => pt_val h))) (dss_one (ds_raise here (by decide) rfl T.O_3 T.ix_3 T.ti_3 (okx_TooCurvedzz_initzz T) T.b_TooCurvedzz_initzz (by rfl) T.gc_3 rfl rfl (by decide) (da_cons (de_c pe_int (fun _ => .int _)) da_nil))) dss_nil)
    (dss_cons (ds_asg (de_fld T.C_0 rfl rfl (de_var (pv 0)) rfl) (dg_un rfl rfl (dgs_cons (dg_name nd (i := 1) rfl (by first | exact Or.inl rfl | exact Or.inr rfl) (by first | exact Or.inl rfl | exact Or.inr rfl)) (dgs_cons (dg_name nd (i := 2) rfl (by first | exact Or.inl rfl | exact Or.inr rfl) (by first | exact Or.inl rfl | exact Or.inr rfl)) (dgs_cons (dg_name nd (i := 3) rfl (by first | exact Or.inl rfl | exact Or.inr rfl) (by first | exact Or.inl rfl | exact Or.inr rfl)) (dgs_cons (dg_name nd (i := 4) rfl (by first | exact Or.inl rfl | exact Or.inr rfl) (by first | exact Or.inl rfl | exact Or.inr rfl)) (dgs_cons (dg_name nd (i := 5) rfl (by first | exact Or.inl rfl | exact Or.inr rfl) (by first | exact Or.inl rfl | exact Or.inr rfl)) (dgs_cons (dg_name nd (i := 6) rfl (by first | exact Or.inl rfl | exact Or.inr rfl) (by first | exact Or.inl rfl | exact Or.inr rfl)) (dgs_cons (dg_name nd (i := 7) rfl (by first | exact Or.inl rfl | exact Or.inr rfl) (by first | exact Or.inl rfl | exact Or.inr rfl)) (dgs_cons (dg_name nd (i := 8) rfl (by first | exact Or.inl rfl | exact Or.inr rfl) (by first | exact Or.inl rfl | exact Or.inr rfl)) dgs_nil))))))))))
    (dss_one (ds_ret (de_meth0 T.C_0 rfl (nin_Form_plain) (ok_Form_plain T) here (by decide) (de_fz (de_make T.C_0 T.M_0 (ok_Formzz_initzz T) here (by decide) (by rfl) T.gc_0 T.b_Formzz_initzz .nil (fun _ => .nil) (da_cons (de_lst false (da_cons (de_var (pv 1)) (da_cons (de_neg (de_var (pv 6))) (da_cons (de_var (pv 8)) (da_cons (de_c pe_int (fun _ => .int _)) (da_cons (de_c pe_int (fun _ => .int _)) (da_cons (de_var (pv 2)) (da_cons (de_neg (de_var (pv 7))) (da_cons (de_var (pv 3)) da_nil))))))))) da_nil))) T.m_Form_plain T.b_Form_plain .nil (fun _ => .nil))))))
set_option maxHeartbeats 4000000 in
theorem ok_law_moved (T : Tx K mg A) : FnD P w K mg base (WK K A pp pm) 7 A.f_law_moved A.d_law_moved ["which", "form", "a", "b"] F_law_moved := by
  refine fnD_of (N := N_law_moved) T.F_law_moved sc_law_moved fun cdv AA fs s H E here passes => ?_
  have nd := sc_law_moved.nd
  exact (dss_one (ds_try2 here rfl rfl nd (i := 4) rfl rfl ⟨by rfl, by decide, .inl T.gc_2⟩ ⟨by rfl, by decide, .inl T.gc_3⟩ T.ex_2 T.ey_3_2 T.ex_3 (fun w' pn xe here passes => (dss_cons (ds_if (dt_eq here.u rfl (de_var (pv 0)) (de_c pe_int (fun _ => .int _))) (dss_one (ds_ret (de_tup (da_cons (de_c pe_str (fun _ => .str _)) (da_cons (de_call (ok_shift_form T) here (by decide) (by rfl) T.g_shift_form T.k_shift_form T.b_shift_form .nil (fun _ => .nil) (da_cons (de_var (pv 1)) (da_cons (de_var (pv 2)) (da_cons (de_var (pv 3)) da_nil)))) da_nil))))) dss_nil)
    (dss_cons (ds_if (dt_eq here.u rfl (de_var (pv 0)) (de_c pe_int (fun _ => .int _))) (dss_one (ds_ret (de_tup (da_cons (de_c pe_str (fun _ => .str _)) (da_cons (de_call (ok_scale_form T) here (by decide) (by rfl) T.g_scale_form T.k_scale_form T.b_scale_form .nil (fun _ => .nil) (da_cons (de_var (pv 1)) (da_cons (de_var (pv 2)) (da_cons (de_var (pv 3)) da_nil)))) da_nil))))) dss_nil)
    (dss_cons (ds_if (dt_eq here.u rfl (de_var (pv 0)) (de_c pe_int (fun _ => .int _))) (dss_one (ds_ret (de_tup (da_cons (de_c pe_str (fun _ => .str _)) (da_cons (de_call (ok_mirror_form_x T) here (by decide) (by rfl) T.g_mirror_form_x T.k_mirror_form_x T.b_mirror_form_x .nil (fun _ => .nil) (da_cons (de_var (pv 1)) da_nil)) da_nil))))) dss_nil)
    (dss_cons (ds_if (dt_eq here.u rfl (de_var (pv 0)) (de_c pe_int (fun _ => .int _))) (dss_one (ds_ret (de_tup (da_cons (de_c pe_str (fun _ => .str _)) (da_cons (de_call (ok_mirror_form_y T) here (by decide) (by rfl) T.g_mirror_form_y T.k_mirror_form_y T.b_mirror_form_y .nil (fun _ => .nil) (da_cons (de_var (pv 1)) da_nil)) da_nil))))) dss_nil)
    (dss_one (ds_ret (de_tup (da_cons (de_c pe_str (fun _ => .str _)) (da_cons (de_call (ok_turn_form T) here (by decide) (by rfl) T.g_turn_form T.k_turn_form T.b_turn_form .nil (fun _ => .nil) (da_cons (de_var (pv 1)) da_nil)) da_nil)))))))))) (fun a oe d pn l hz hv => (dss_cons (ds_set (i := 5) nd rfl (by first | exact Or.inl rfl | exact Or.inr rfl) (de_and (de_isE T.E_2 hz hv (by rfl) T.z_isinstance (pv 4) (pe_glob (v := .ref A.c_4) (by rfl) T.gc_4 rfl) (fun _ h => h) T.kt_2_4) (de_one1 (de_isE T.E_2 hz hv (by rfl) T.z_isinstance (pv 4) (pe_bltn (v := .ty "ValueError") (by rfl) T.z_ValueError boot_ValueError rfl) (fun _ h => h) T.kt_2_ValueError))) (by first | exact Or.inl rfl | exact Or.inr rfl))
    (dss_one (ds_ret (de_tup (da_cons (de_c pe_str (fun _ => .str _)) (da_cons (de_xf rfl T.X_2 T.nx_2_0 rfl layNd_2 hz hv (pv 4) rfl) (da_cons (de_and (de_var (pv 5)) (de_one1 (de_not (de_isE T.E_2 hz hv (by rfl) T.z_isinstance (pv 4) (pe_glob (v := .ref A.c_3) (by rfl) T.gc_3 rfl) (fun _ h => h) T.kt_2_3)))) da_nil)))))))) (fun a oe d pn l hz hv => (dss_cons (ds_set (i := 5) nd rfl (by first | exact Or.inl rfl | exact Or.inr rfl) (de_and (de_isE T.E_3 hz hv (by rfl) T.z_isinstance (pv 4) (pe_glob (v := .ref A.c_4) (by rfl) T.gc_4 rfl) (fun _ h => h) T.kt_3_4) (de_one1 (de_isE T.E_3 hz hv (by rfl) T.z_isinstance (pv 4) (pe_bltn (v := .ty "ValueError") (by rfl) T.z_ValueError boot_ValueError rfl) (fun _ h => h) T.kt_3_ValueError))) (by first | exact Or.inl rfl | exact Or.inr rfl))
    (dss_one (ds_ret (de_tup (da_cons (de_c pe_str (fun _ => .str _)) (da_cons (de_xf rfl T.X_3 T.nx_3_0 rfl layNd_3 hz hv (pv 4) rfl) (da_cons (de_and (de_var (pv 5)) (de_one1 (de_not (de_isE T.E_3 hz hv (by rfl) T.z_isinstance (pv 4) (pe_glob (v := .ref A.c_2) (by rfl) T.gc_2 rfl) (fun _ h => h) T.kt_3_2)))) da_nil))))))))))
set_option maxHeartbeats 4000000 in
theorem ok_law_same (T : Tx K mg A) : FnD P w K mg base (WK K A pp pm) 1 A.f_law_same A.d_law_same ["told", "due"] F_law_same := by
  refine fnD_of (N := N_law_same) T.F_law_same sc_law_same fun cdv AA fs s H E here passes => ?_
  have nd := sc_law_same.nd
  exact (dss_one (ds_ret (de_and (de_eq here.u rfl (de_var (pv 0)) (de_var (pv 1))) (de_one1 (de_eq here.u rfl (de_B (sv_repr rfl) (fun h => pe_callB (call_reprD here.u) (by rfl) T.z_repr boot_repr h) (da_cons (de_var (pv 0)) da_nil)) (de_B (sv_repr rfl) (fun h => pe_callB (call_reprD here.u) (by rfl) T.z_repr boot_repr h) (da_cons (de_var (pv 1)) da_nil)))))))
set_option maxHeartbeats 4000000 in
theorem ok_law_divisor (T : Tx K mg A) : FnD P w K mg base (WK K A pp pm) 1 A.f_law_divisor A.d_law_divisor ["numbers"] F_law_divisor := by
  refine fnD_of (N := N_law_divisor) T.F_law_divisor sc_law_divisor fun cdv AA fs s H E here passes => ?_
  have nd := sc_law_divisor.nd
  exact (dss_cons (ds_set (i := 1) nd rfl (by first | exact Or.inl rfl | exact Or.inr rfl) (de_c pe_int (fun _ => .int _)) (by first | exact Or.inl rfl | exact Or.inr rfl))
    (dss_cons (ds_for passes rfl (di_seq rfl (de_var (pv 0))) (dg_name nd (i := 2) rfl (by first | exact Or.inl rfl | exact Or.inr rfl) (by first | exact Or.inl rfl | exact Or.inr rfl)) (dss_cons (ds_set (i := 3) nd rfl (by first | exact Or.inl rfl | exact Or.inr rfl) (de_B sv_abs (fun h => pe_callB call_abs (by rfl) T.z_abs boot_abs h) (da_cons (de_var (pv 2)) da_nil)) (by first | exact Or.inl rfl | exact Or.inr rfl))
    (dss_one (ds_while 1000 passes (dt_ne here.u rfl (de_var (pv 3)) (de_c pe_int (fun _ => .int _))) (dss_cons (ds_set (i := 4) nd rfl (by first | exact Or.inl rfl | exact Or.inr rfl) (de_mod (de_B sv_int (fun h => pe_callTy call_int1 (by rfl) T.z_int boot_int h) (da_cons (de_var (pv 1)) da_nil)) (de_var (pv 3))) (by first | exact Or.inl rfl | exact Or.inr rfl))
    (dss_cons (ds_set (i := 1) nd rfl (by first | exact Or.inl rfl | exact Or.inr rfl) (de_var (pv 3)) (by first | exact Or.inl rfl | exact Or.inr rfl))
    (dss_one (ds_set (i := 3) nd rfl (by first | exact Or.inl rfl | exact Or.inr rfl) (de_var (pv 4)) (by first | exact Or.inl rfl | exact Or.inr rfl)))))))))
    (dss_one (ds_ret (de_var (pv 1))))))
set_option maxHeartbeats 4000000 in
theorem ok_law_plain_numbers (T : Tx K mg A) : FnD P w K mg base (WK K A pp pm) 2 A.f_law_plain_numbers A.d_law_plain_numbers ["told"] F_law_plain_numbers := by
  refine fnD_of (N := N_law_plain_numbers) T.F_law_plain_numbers sc_law_plain_numbers fun cdv AA fs s H E here passes => ?_
  have nd := sc_law_plain_numbers.nd
  exact (dss_cons (ds_if (dt_w (dw_or (dt_not (dt_val (de_isC rfl T.I_0 (by rfl) T.z_isinstance (de_var (pv 0)) (pe_glob (v := .ref A.c_0) (by rfl) T.gc_0 rfl)) (fun h => pt_val h))) (dw_or1 (dt_not (dt_val (de_isT rfl (by rfl) T.z_isinstance (de_fld T.C_0 rfl rfl (de_var (pv 0)) rfl) (pe_bltn (v := .ty "tuple") (by rfl) T.z_tuple boot_tuple rfl)) (fun h => pt_val h)))))) (dss_one (ds_ret (de_c pe_bl (fun _ => .bl _)))) dss_nil)
    (dss_cons (ds_for passes rfl (di_seq rfl (de_fld T.C_0 rfl rfl (de_var (pv 0)) rfl)) (dg_name nd (i := 1) rfl (by first | exact Or.inl rfl | exact Or.inr rfl) (by first | exact Or.inl rfl | exact Or.inr rfl)) (dss_one (ds_if (dt_w (dw_or (dt_not (dt_val (de_isT rfl (by rfl) T.z_isinstance (de_var (pv 1)) (pe_bltn (v := .ty "int") (by rfl) T.z_int boot_int rfl)) (fun h => pt_val h))) (dw_or1 (dt_val (de_isT rfl (by rfl) T.z_isinstance (de_var (pv 1)) (pe_bltn (v := .ty "bool") (by rfl) T.z_bool boot_bool rfl)) (fun h => pt_val h))))) (dss_one (ds_ret (de_c pe_bl (fun _ => .bl _)))) dss_nil)))
    (dss_one (ds_ret (de_and (de_eq here.u rfl (de_B (sv_len rfl) (fun h => pe_callB call_len_seq (by rfl) T.z_len PySem.boot_len h) (da_cons (de_fld T.C_0 rfl rfl (de_var (pv 0)) rfl) da_nil)) (de_c pe_int (fun _ => .int _))) (de_one1 (de_le (de_call (ok_law_divisor T) here (by decide) (by rfl) T.g_law_divisor T.k_law_divisor T.b_law_divisor .nil (fun _ => .nil) (da_cons (de_fld T.C_0 rfl rfl (de_var (pv 0)) rfl) da_nil)) (de_c pe_int (fun _ => .int _)))))))))
set_option maxHeartbeats 4000000 in
theorem ok_law_points (T : Tx K mg A) : FnD P w K mg base (WK K A pp pm) 1 A.f_law_points A.d_law_points ["last"] F_law_points := by
  refine fnD_of (N := N_law_points) T.F_law_points sc_law_points fun cdv AA fs s H E here passes => ?_
  have nd := sc_law_points.nd
  exact (dss_cons (ds_setLc (i := 1) (own := [("k", 2)]) false rfl nd rfl rfl (sw_true rfl rfl rfl (by decide +kernel)) (di_range2 (by rfl) T.z_range (da_cons (de_neg (de_c pe_int (fun _ => .int _))) (da_cons (de_c pe_int (fun _ => .int _)) da_nil))) (blkOk_by (own := [("k", 2)]) (N := N_law_points) (sc := defScope (topS 35)) (by decide +kernel)) (cg_name 2) (fun _ _ _ _ _ => (pg_name (i := 2) nd rfl (.inl rfl))) (fun _ _ _ _ _ => dts_nil) (fun _ _ _ _ _ => (de_tup (da_cons (de_tup (da_cons (de_var (pv 2)) (da_cons (de_c pe_int (fun _ => .int _)) da_nil))) (da_cons (de_tup (da_cons (de_c pe_int (fun _ => .int _)) (da_cons (de_c pe_int (fun _ => .int _)) da_nil))) da_nil)))))
    (dss_one (ds_ret (de_add false (de_var (pv 1)) (de_lst false (da_cons (de_tup (da_cons (de_tup (da_cons (de_c pe_int (fun _ => .int _)) (da_cons (de_c pe_int (fun _ => .int _)) da_nil))) (da_cons (de_tup (da_cons (de_c pe_int (fun _ => .int _)) (da_cons (de_c pe_int (fun _ => .int _)) da_nil))) da_nil))) (da_cons (de_tup (da_cons (de_tup (da_cons (de_c pe_int (fun _ => .int _)) (da_cons (de_c pe_int (fun _ => .int _)) da_nil))) (da_cons (de_tup (da_cons (de_neg (de_c pe_int (fun _ => .int _))) (da_cons (de_c pe_int (fun _ => .int _)) da_nil))) da_nil))) (da_cons (de_tup (da_cons (de_tup (da_cons (de_c pe_int (fun _ => .int _)) (da_cons (de_c pe_int (fun _ => .int _)) da_nil))) (da_cons (de_tup (da_cons (de_c pe_int (fun _ => .int _)) (da_cons (de_c pe_int (fun _ => .int _)) da_nil))) da_nil))) (da_cons (de_var (pv 0)) da_nil)))))))))
set_option maxHeartbeats 4000000 in
theorem ok_law_led (T : Tx K mg A) : FnD P w K mg base (WK K A pp pm) 2 A.f_law_led A.d_law_led ["which", "point", "a", "b"] F_law_led := by
  refine fnD_of (N := N_law_led) T.F_law_led sc_law_led fun cdv AA fs s H E here passes => ?_
  have nd := sc_law_led.nd
  exact (dss_cons (ds_set (i := 4) nd rfl (by first | exact Or.inl rfl | exact Or.inr rfl) (de_ix rfl (de_var (pv 1)) (de_c pe_int (fun _ => .int _)) (fun _ _ => rfl)) (by first | exact Or.inl rfl | exact Or.inr rfl))
    (dss_cons (ds_set (i := 5) nd rfl (by first | exact Or.inl rfl | exact Or.inr rfl) (de_ix rfl (de_var (pv 1)) (de_c pe_int (fun _ => .int _)) (fun _ _ => rfl)) (by first | exact Or.inl rfl | exact Or.inr rfl))
    (dss_cons (ds_if (dt_eq here.u rfl (de_var (pv 0)) (de_c pe_int (fun _ => .int _))) (dss_cons (ds_set (i := 4) nd rfl (by first | exact Or.inl rfl | exact Or.inr rfl) (de_call (ok_law_low T) here (by decide) (by rfl) T.g_law_low T.k_law_low T.b_law_low .nil (fun _ => .nil) (da_cons (de_iadd (de_imul (de_ix rfl (de_var (pv 4)) (de_c pe_int (fun _ => .int _)) (fun _ _ => rfl)) (de_ix rfl (de_var (pv 2)) (de_c pe_int (fun _ => .int _)) (fun _ _ => rfl))) (de_imul (de_ix rfl (de_var (pv 2)) (de_c pe_int (fun _ => .int _)) (fun _ _ => rfl)) (de_ix rfl (de_var (pv 4)) (de_c pe_int (fun _ => .int _)) (fun _ _ => rfl)))) (da_cons (de_imul (de_ix rfl (de_var (pv 4)) (de_c pe_int (fun _ => .int _)) (fun _ _ => rfl)) (de_ix rfl (de_var (pv 2)) (de_c pe_int (fun _ => .int _)) (fun _ _ => rfl))) da_nil))) (by first | exact Or.inl rfl | exact Or.inr rfl))
    (dss_cons (ds_set (i := 5) nd rfl (by first | exact Or.inl rfl | exact Or.inr rfl) (de_call (ok_law_low T) here (by decide) (by rfl) T.g_law_low T.k_law_low T.b_law_low .nil (fun _ => .nil) (da_cons (de_iadd (de_imul (de_ix rfl (de_var (pv 5)) (de_c pe_int (fun _ => .int _)) (fun _ _ => rfl)) (de_ix rfl (de_var (pv 3)) (de_c pe_int (fun _ => .int _)) (fun _ _ => rfl))) (de_imul (de_ix rfl (de_var (pv 3)) (de_c pe_int (fun _ => .int _)) (fun _ _ => rfl)) (de_ix rfl (de_var (pv 5)) (de_c pe_int (fun _ => .int _)) (fun _ _ => rfl)))) (da_cons (de_imul (de_ix rfl (de_var (pv 5)) (de_c pe_int (fun _ => .int _)) (fun _ _ => rfl)) (de_ix rfl (de_var (pv 3)) (de_c pe_int (fun _ => .int _)) (fun _ _ => rfl))) da_nil))) (by first | exact Or.inl rfl | exact Or.inr rfl))
    (dss_one (ds_ret (de_tup (da_cons (de_var (pv 4)) (da_cons (de_var (pv 5)) da_nil))))))) dss_nil)
    (dss_cons (ds_if (dt_eq here.u rfl (de_var (pv 0)) (de_c pe_int (fun _ => .int _))) (dss_cons (ds_set (i := 4) nd rfl (by first | exact Or.inl rfl | exact Or.inr rfl) (de_call (ok_law_low T) here (by decide) (by rfl) T.g_law_low T.k_law_low T.b_law_low .nil (fun _ => .nil) (da_cons (de_imul (de_ix rfl (de_var (pv 4)) (de_c pe_int (fun _ => .int _)) (fun _ _ => rfl)) (de_ix rfl (de_var (pv 2)) (de_c pe_int (fun _ => .int _)) (fun _ _ => rfl))) (da_cons (de_imul (de_ix rfl (de_var (pv 4)) (de_c pe_int (fun _ => .int _)) (fun _ _ => rfl)) (de_ix rfl (de_var (pv 2)) (de_c pe_int (fun _ => .int _)) (fun _ _ => rfl))) da_nil))) (by first | exact Or.inl rfl | exact Or.inr rfl))
    (dss_cons (ds_set (i := 5) nd rfl (by first | exact Or.inl rfl | exact Or.inr rfl) (de_call (ok_law_low T) here (by decide) (by rfl) T.g_law_low T.k_law_low T.b_law_low .nil (fun _ => .nil) (da_cons (de_imul (de_ix rfl (de_var (pv 5)) (de_c pe_int (fun _ => .int _)) (fun _ _ => rfl)) (de_ix rfl (de_var (pv 3)) (de_c pe_int (fun _ => .int _)) (fun _ _ => rfl))) (da_cons (de_imul (de_ix rfl (de_var (pv 5)) (de_c pe_int (fun _ => .int _)) (fun _ _ => rfl)) (de_ix rfl (de_var (pv 3)) (de_c pe_int (fun _ => .int _)) (fun _ _ => rfl))) da_nil))) (by first | exact Or.inl rfl | exact Or.inr rfl))
    (dss_one (ds_ret (de_tup (da_cons (de_var (pv 4)) (da_cons (de_var (pv 5)) da_nil))))))) dss_nil)
    (dss_cons (ds_if (dt_eq here.u rfl (de_var (pv 0)) (de_c pe_int (fun _ => .int _))) (dss_one (ds_ret (de_tup (da_cons (de_tup (da_cons (de_neg (de_ix rfl (de_var (pv 4)) (de_c pe_int (fun _ => .int _)) (fun _ _ => rfl))) (da_cons (de_ix rfl (de_var (pv 4)) (de_c pe_int (fun _ => .int _)) (fun _ _ => rfl)) da_nil))) (da_cons (de_var (pv 5)) da_nil))))) dss_nil)
    (dss_cons (ds_if (dt_eq here.u rfl (de_var (pv 0)) (de_c pe_int (fun _ => .int _))) (dss_one (ds_ret (de_tup (da_cons (de_var (pv 4)) (da_cons (de_tup (da_cons (de_neg (de_ix rfl (de_var (pv 5)) (de_c pe_int (fun _ => .int _)) (fun _ _ => rfl))) (da_cons (de_ix rfl (de_var (pv 5)) (de_c pe_int (fun _ => .int _)) (fun _ _ => rfl)) da_nil))) da_nil))))) dss_nil)
    (dss_one (ds_ret (de_tup (da_cons (de_tup (da_cons (de_neg (de_ix rfl (de_var (pv 5)) (de_c pe_int (fun _ => .int _)) (fun _ _ => rfl))) (da_cons (de_ix rfl (de_var (pv 5)) (de_c pe_int (fun _ => .int _)) (fun _ _ => rfl)) da_nil))) (da_cons (de_var (pv 4)) da_nil)))))))))))
set_option maxHeartbeats 4000000 in
theorem ok_law_value (T : Tx K mg A) : FnD P w K mg base (WK K A pp pm) 1 A.f_law_value A.d_law_value ["numbers", "x", "y"] F_law_value := by
  refine fnD_of (N := N_law_value) T.F_law_value sc_law_value fun cdv AA fs s H E here passes => ?_
  have nd := sc_law_value.nd
  exact (dss_cons (ds_set (i := 3) nd rfl (by first | exact Or.inl rfl | exact Or.inr rfl) (de_ix rfl (de_var (pv 1)) (de_c pe_int (fun _ => .int _)) (fun _ _ => rfl)) (by first | exact Or.inl rfl | exact Or.inr rfl))
    (dss_cons (ds_set (i := 4) nd rfl (by first | exact Or.inl rfl | exact Or.inr rfl) (de_ix rfl (de_var (pv 1)) (de_c pe_int (fun _ => .int _)) (fun _ _ => rfl)) (by first | exact Or.inl rfl | exact Or.inr rfl))
    (dss_cons (ds_set (i := 5) nd rfl (by first | exact Or.inl rfl | exact Or.inr rfl) (de_c pe_int (fun _ => .int _)) (by first | exact Or.inl rfl | exact Or.inr rfl))
    (dss_cons (ds_set (i := 6) nd rfl (by first | exact Or.inl rfl | exact Or.inr rfl) (de_c pe_int (fun _ => .int _)) (by first | exact Or.inl rfl | exact Or.inr rfl))
    (dss_cons (ds_for passes rfl (di_range1 (by rfl) T.z_range (da_cons (de_c pe_int (fun _ => .int _)) da_nil)) (dg_name nd (i := 7) rfl (by first | exact Or.inl rfl | exact Or.inr rfl) (by first | exact Or.inl rfl | exact Or.inr rfl)) (dss_cons (ds_set (i := 5) nd rfl (by first | exact Or.inl rfl | exact Or.inr rfl) (de_iadd (de_imul (de_var (pv 5)) (de_var (pv 3))) (de_imul (de_ix rfl (de_var (pv 0)) (de_sub (de_c pe_int (fun _ => .int _)) (de_var (pv 7))) (fun _ _ => rfl)) (de_var (pv 6)))) (by first | exact Or.inl rfl | exact Or.inr rfl))
    (dss_one (ds_set (i := 6) nd rfl (by first | exact Or.inl rfl | exact Or.inr rfl) (de_imul (de_var (pv 6)) (de_var (pv 4))) (by first | exact Or.inl rfl | exact Or.inr rfl)))))
    (dss_cons (ds_set (i := 6) nd rfl (by first | exact Or.inl rfl | exact Or.inr rfl) (de_div (de_var (pv 6)) (de_var (pv 4))) (by first | exact Or.inl rfl | exact Or.inr rfl))
    (dss_cons (ds_set (i := 8) nd rfl (by first | exact Or.inl rfl | exact Or.inr rfl) (de_ix rfl (de_var (pv 2)) (de_c pe_int (fun _ => .int _)) (fun _ _ => rfl)) (by first | exact Or.inl rfl | exact Or.inr rfl))
    (dss_cons (ds_set (i := 9) nd rfl (by first | exact Or.inl rfl | exact Or.inr rfl) (de_ix rfl (de_var (pv 2)) (de_c pe_int (fun _ => .int _)) (fun _ _ => rfl)) (by first | exact Or.inl rfl | exact Or.inr rfl))
    (dss_cons (ds_set (i := 5) nd rfl (by first | exact Or.inl rfl | exact Or.inr rfl) (de_iadd (de_imul (de_imul (de_var (pv 5)) (de_var (pv 9))) (de_var (pv 9))) (de_imul (de_imul (de_imul (de_ix rfl (de_var (pv 0)) (de_c pe_int (fun _ => .int _)) (fun _ _ => rfl)) (de_var (pv 8))) (de_var (pv 9))) (de_var (pv 6)))) (by first | exact Or.inl rfl | exact Or.inr rfl))
    (dss_cons (ds_set (i := 5) nd rfl (by first | exact Or.inl rfl | exact Or.inr rfl) (de_iadd (de_var (pv 5)) (de_imul (de_imul (de_imul (de_imul (de_ix rfl (de_var (pv 0)) (de_c pe_int (fun _ => .int _)) (fun _ _ => rfl)) (de_var (pv 3))) (de_var (pv 8))) (de_var (pv 9))) (de_div (de_var (pv 6)) (de_var (pv 4))))) (by first | exact Or.inl rfl | exact Or.inr rfl))
    (dss_one (ds_ret (de_tup (da_cons (de_iadd (de_var (pv 5)) (de_imul (de_imul (de_imul (de_ix rfl (de_var (pv 0)) (de_c pe_int (fun _ => .int _)) (fun _ _ => rfl)) (de_var (pv 8))) (de_var (pv 8))) (de_var (pv 6)))) (da_cons (de_imul (de_imul (de_var (pv 6)) (de_var (pv 9))) (de_var (pv 9))) da_nil)))))))))))))))
set_option maxHeartbeats 4000000 in
theorem ok_law_multiple (T : Tx K mg A) : FnD P w K mg base (WK K A pp pm) 2 A.f_law_multiple A.d_law_multiple ["numbers", "told", "pairs"] F_law_multiple := by
  refine fnD_of (N := N_law_multiple) T.F_law_multiple sc_law_multiple fun cdv AA fs s H E here passes => ?_
  have nd := sc_law_multiple.nd
  exact (dss_cons (ds_set (i := 3) nd rfl (by first | exact Or.inl rfl | exact Or.inr rfl) (de_c pe_non (fun _ => .non)) (by first | exact Or.inl rfl | exact Or.inr rfl))
    (dss_cons (ds_for passes rfl (di_seq rfl (de_var (pv 2))) (dg_name nd (i := 4) rfl (by first | exact Or.inl rfl | exact Or.inr rfl) (by first | exact Or.inl rfl | exact Or.inr rfl)) (dss_cons (ds_set (i := 5) nd rfl (by first | exact Or.inl rfl | exact Or.inr rfl) (de_call (ok_law_value T) here (by decide) (by rfl) T.g_law_value T.k_law_value T.b_law_value .nil (fun _ => .nil) (da_cons (de_var (pv 0)) (da_cons (de_ix rfl (de_ix rfl (de_var (pv 4)) (de_c pe_int (fun _ => .int _)) (fun _ _ => rfl)) (de_c pe_int (fun _ => .int _)) (fun _ _ => rfl)) (da_cons (de_ix rfl (de_ix rfl (de_var (pv 4)) (de_c pe_int (fun _ => .int _)) (fun _ _ => rfl)) (de_c pe_int (fun _ => .int _)) (fun _ _ => rfl)) da_nil)))) (by first | exact Or.inl rfl | exact Or.inr rfl))
    (dss_cons (ds_set (i := 6) nd rfl (by first | exact Or.inl rfl | exact Or.inr rfl) (de_call (ok_law_value T) here (by decide) (by rfl) T.g_law_value T.k_law_value T.b_law_value .nil (fun _ => .nil) (da_cons (de_var (pv 1)) (da_cons (de_ix rfl (de_ix rfl (de_var (pv 4)) (de_c pe_int (fun _ => .int _)) (fun _ _ => rfl)) (de_c pe_int (fun _ => .int _)) (fun _ _ => rfl)) (da_cons (de_ix rfl (de_ix rfl (de_var (pv 4)) (de_c pe_int (fun _ => .int _)) (fun _ _ => rfl)) (de_c pe_int (fun _ => .int _)) (fun _ _ => rfl)) da_nil)))) (by first | exact Or.inl rfl | exact Or.inr rfl))
    (dss_cons (ds_if (dt_w (dw_and (dt_isN (de_var (pv 3)) (de_c pe_non (fun _ => .non))) (dw_and1 (dt_ne here.u rfl (de_ix rfl (de_var (pv 5)) (de_c pe_int (fun _ => .int _)) (fun _ _ => rfl)) (de_c pe_int (fun _ => .int _)))))) (dss_cons (ds_set (i := 3) nd rfl (by first | exact Or.inl rfl | exact Or.inr rfl) (de_tup (da_cons (de_var (pv 5)) (da_cons (de_var (pv 6)) da_nil))) (by first | exact Or.inl rfl | exact Or.inr rfl))
    (dss_one (ds_if (dt_le (de_imul (de_ix rfl (de_var (pv 5)) (de_c pe_int (fun _ => .int _)) (fun _ _ => rfl)) (de_ix rfl (de_var (pv 6)) (de_c pe_int (fun _ => .int _)) (fun _ _ => rfl))) (de_c pe_int (fun _ => .int _))) (dss_one (ds_ret (de_c pe_bl (fun _ => .bl _)))) dss_nil))) dss_nil)
    (dss_cons (ds_if (dt_w (dw_and (dt_isN (de_var (pv 3)) (de_c pe_non (fun _ => .non))) (dw_and1 (dt_ne here.u rfl (de_ix rfl (de_var (pv 6)) (de_c pe_int (fun _ => .int _)) (fun _ _ => rfl)) (de_c pe_int (fun _ => .int _)))))) (dss_one (ds_ret (de_c pe_bl (fun _ => .bl _)))) dss_nil)
    (dss_one (ds_if (dt_notN (de_var (pv 3)) (de_c pe_non (fun _ => .non))) (dss_cons (ds_set (i := 7) nd rfl (by first | exact Or.inl rfl | exact Or.inr rfl) (de_imul (de_imul (de_imul (de_ix rfl (de_var (pv 6)) (de_c pe_int (fun _ => .int _)) (fun _ _ => rfl)) (de_ix rfl (de_ix rfl (de_var (pv 3)) (de_c pe_int (fun _ => .int _)) (fun _ _ => rfl)) (de_c pe_int (fun _ => .int _)) (fun _ _ => rfl))) (de_ix rfl (de_var (pv 5)) (de_c pe_int (fun _ => .int _)) (fun _ _ => rfl))) (de_ix rfl (de_ix rfl (de_var (pv 3)) (de_c pe_int (fun _ => .int _)) (fun _ _ => rfl)) (de_c pe_int (fun _ => .int _)) (fun _ _ => rfl))) (by first | exact Or.inl rfl | exact Or.inr rfl))
    (dss_cons (ds_set (i := 8) nd rfl (by first | exact Or.inl rfl | exact Or.inr rfl) (de_imul (de_imul (de_imul (de_ix rfl (de_var (pv 5)) (de_c pe_int (fun _ => .int _)) (fun _ _ => rfl)) (de_ix rfl (de_ix rfl (de_var (pv 3)) (de_c pe_int (fun _ => .int _)) (fun _ _ => rfl)) (de_c pe_int (fun _ => .int _)) (fun _ _ => rfl))) (de_ix rfl (de_var (pv 6)) (de_c pe_int (fun _ => .int _)) (fun _ _ => rfl))) (de_ix rfl (de_ix rfl (de_var (pv 3)) (de_c pe_int (fun _ => .int _)) (fun _ _ => rfl)) (de_c pe_int (fun _ => .int _)) (fun _ _ => rfl))) (by first | exact Or.inl rfl | exact Or.inr rfl))
    (dss_one (ds_if (dt_ne here.u rfl (de_var (pv 7)) (de_var (pv 8))) (dss_one (ds_ret (de_c pe_bl (fun _ => .bl _)))) dss_nil)))) dss_nil)))))))
    (dss_one (ds_ret (de_or (de_notN (de_var (pv 3)) (de_c pe_non (fun _ => .non))) (de_one1 (de_eq here.u rfl (de_var (pv 1)) (de_tup (da_cons (de_c pe_int (fun _ => .int _)) (da_cons (de_c pe_int (fun _ => .int _)) (da_cons (de_c pe_int (fun _ => .int _)) (da_cons (de_c pe_int (fun _ => .int _)) (da_cons (de_c pe_int (fun _ => .int _)) (da_cons (de_c pe_int (fun _ => .int _)) (da_cons (de_c pe_int (fun _ => .int _)) (da_cons (de_c pe_int (fun _ => .int _)) da_nil))))))))))))))))
set_option maxHeartbeats 4000000 in
theorem ok_law_plain (T : Tx K mg A) : FnD P w K mg base (WK K A pp pm) 2 A.f_law_plain A.d_law_plain ["numbers"] F_law_plain := by
  refine fnD_of (N := N_law_plain) T.F_law_plain sc_law_plain fun cdv AA fs s H E here passes => ?_
  have nd := sc_law_plain.nd
  exact (dss_cons (ds_set (i := 1) nd rfl (by first | exact Or.inl rfl | exact Or.inr rfl) (de_B sv_max (fun h => pe_callB (call_max2 rfl) (by rfl) T.z_max boot_max h) (da_cons (de_c pe_int (fun _ => .int _)) (da_cons (de_call (ok_law_divisor T) here (by decide) (by rfl) T.g_law_divisor T.k_law_divisor T.b_law_divisor .nil (fun _ => .nil) (da_cons (de_var (pv 0)) da_nil)) da_nil))) (by first | exact Or.inl rfl | exact Or.inr rfl))
    (dss_one (ds_ret (de_B (sv_tuple rfl) (fun h => pe_callTy call_tuple_of (by rfl) T.z_tuple boot_tuple h) (da_cons (de_comp (own := [("number", 2)]) false rfl nd (di_seq rfl (de_var (pv 0))) (blkOk_by (own := [("number", 2)]) (N := N_law_plain) (sc := defScope (topS 29)) (by decide +kernel)) (cg_name 2) (fun _ _ _ _ _ => (pg_name (i := 2) nd rfl (.inl rfl))) (fun _ _ _ _ _ => dts_nil) (fun _ _ _ _ _ => (de_div (de_var (pv 2)) (de_var (pv 1))))) da_nil)))))
set_option maxHeartbeats 4000000 in
theorem ok_law_move_right (T : Tx K mg A) : FnD P w K mg base (WK K A pp pm) 8 A.f_law_move_right A.d_law_move_right ["which", "numbers", "a", "b", "last"] F_law_move_right := by
  refine fnD_of (N := N_law_move_right) T.F_law_move_right sc_law_move_right fun cdv AA fs s H E here passes => ?_
  have nd := sc_law_move_right.nd
  exact (dss_cons (ds_set (i := 5) nd rfl (by first | exact Or.inl rfl | exact Or.inr rfl) (de_fz (de_make T.C_0 T.M_0 (ok_Formzz_initzz T) here (by decide) (by rfl) T.gc_0 T.b_Formzz_initzz .nil (fun _ => .nil) (da_cons (de_var (pv 1)) da_nil))) (by first | exact Or.inl rfl | exact Or.inr rfl))
    (dss_cons (ds_set (i := 6) nd rfl (by first | exact Or.inl rfl | exact Or.inr rfl) (de_call (ok_law_moved T) here (by decide) (by rfl) T.g_law_moved T.k_law_moved T.b_law_moved .nil (fun _ => .nil) (da_cons (de_var (pv 0)) (da_cons (de_var (pv 5)) (da_cons (de_var (pv 2)) (da_cons (de_var (pv 3)) da_nil))))) (by first | exact Or.inl rfl | exact Or.inr rfl))
    (dss_cons (ds_if (dt_w (dw_and (dt_eq here.u rfl (de_var (pv 0)) (de_c pe_int (fun _ => .int _))) (dw_and1 (dt_w (dw_or (dt_ne here.u rfl (de_ix rfl (de_var (pv 1)) (de_c pe_int (fun _ => .int _)) (fun _ _ => rfl)) (de_c pe_int (fun _ => .int _))) (dw_or1 (dt_ne here.u rfl (de_ix rfl (de_var (pv 1)) (de_c pe_int (fun _ => .int _)) (fun _ _ => rfl)) (de_c pe_int (fun _ => .int _))))))))) (dss_one (ds_ret (de_call (ok_law_same T) here (by decide) (by rfl) T.g_law_same T.k_law_same T.b_law_same .nil (fun _ => .nil) (da_cons (de_var (pv 6)) (da_cons (de_tup (da_cons (de_c pe_str (fun _ => .str _)) (da_cons (de_c pe_int (fun _ => .int _)) (da_cons (de_c pe_bl (fun _ => .bl _)) da_nil)))) da_nil))))) dss_nil)
    (dss_cons (ds_if (dt_w (dw_or (dt_ne here.u rfl (de_ix rfl (de_var (pv 6)) (de_c pe_int (fun _ => .int _)) (fun _ _ => rfl)) (de_c pe_str (fun _ => .str _))) (dw_or1 (dt_not (dt_val (de_call (ok_law_plain_numbers T) here (by decide) (by rfl) T.g_law_plain_numbers T.k_law_plain_numbers T.b_law_plain_numbers .nil (fun _ => .nil) (da_cons (de_ix rfl (de_var (pv 6)) (de_c pe_int (fun _ => .int _)) (fun _ _ => rfl)) da_nil)) (fun h => pt_val h)))))) (dss_one (ds_ret (de_c pe_bl (fun _ => .bl _)))) dss_nil)
    (dss_cons (ds_set (i := 7) nd rfl (by first | exact Or.inl rfl | exact Or.inr rfl) (de_fld T.C_0 rfl rfl (de_ix rfl (de_var (pv 6)) (de_c pe_int (fun _ => .int _)) (fun _ _ => rfl)) rfl) (by first | exact Or.inl rfl | exact Or.inr rfl))
    (dss_cons (ds_if (dt_w (dw_and (dt_eq here.u rfl (de_var (pv 0)) (de_c pe_int (fun _ => .int _))) (dw_and1 (dt_ne here.u rfl (de_slT rfl (de_var (pv 7)) (do_some (de_c pe_int (fun _ => .int _))) (do_some (de_c pe_int (fun _ => .int _)))) (de_tup (da_cons (de_c pe_int (fun _ => .int _)) (da_cons (de_c pe_int (fun _ => .int _)) da_nil))))))) (dss_one (ds_ret (de_c pe_bl (fun _ => .bl _)))) dss_nil)
    (dss_cons (ds_set (i := 8) nd rfl (by first | exact Or.inl rfl | exact Or.inr rfl) (de_lst true da_nil) (by first | exact Or.inl rfl | exact Or.inr rfl))
    (dss_cons (ds_for passes rfl (di_seq rfl (de_call (ok_law_points T) here (by decide) (by rfl) T.g_law_points T.k_law_points T.b_law_points .nil (fun _ => .nil) (da_cons (de_var (pv 4)) da_nil))) (dg_name nd (i := 9) rfl (by first | exact Or.inl rfl | exact Or.inr rfl) (by first | exact Or.inl rfl | exact Or.inr rfl)) (dss_one (ds_expr (de_append rfl (de_var (pv 8)) (da_cons (de_tup (da_cons (de_var (pv 9)) (da_cons (de_call (ok_law_led T) here (by decide) (by rfl) T.g_law_led T.k_law_led T.b_law_led .nil (fun _ => .nil) (da_cons (de_var (pv 0)) (da_cons (de_var (pv 9)) (da_cons (de_var (pv 2)) (da_cons (de_var (pv 3)) da_nil))))) da_nil))) da_nil) (fun h k => pe_bm PySem.F.plainAttrs_list PySem.F.slot_list_append PySem.F.type_list_append mt_append h k)))))
    (dss_cons (ds_fz 8 (ds_if (dt_not (dt_val (de_call (ok_law_multiple T) here (by decide) (by rfl) T.g_law_multiple T.k_law_multiple T.b_law_multiple .nil (fun _ => .nil) (da_cons (de_var (pv 1)) (da_cons (de_var (pv 7)) (da_cons (de_var (pv 8)) da_nil)))) (fun h => pt_val h))) (dss_one (ds_ret (de_c pe_bl (fun _ => .bl _)))) dss_nil))
    (dss_cons (ds_set (i := 10) nd rfl (by first | exact Or.inl rfl | exact Or.inr rfl) (de_call (ok_law_moved T) here (by decide) (by rfl) T.g_law_moved T.k_law_moved T.b_law_moved .nil (fun _ => .nil) (da_cons (de_var (pv 0)) (da_cons (de_ix rfl (de_var (pv 6)) (de_c pe_int (fun _ => .int _)) (fun _ _ => rfl)) (da_cons (de_tup (da_cons (de_neg (de_ix rfl (de_var (pv 2)) (de_c pe_int (fun _ => .int _)) (fun _ _ => rfl))) (da_cons (de_ix rfl (de_var (pv 2)) (de_c pe_int (fun _ => .int _)) (fun _ _ => rfl)) da_nil))) (da_cons (de_tup (da_cons (de_neg (de_ix rfl (de_var (pv 3)) (de_c pe_int (fun _ => .int _)) (fun _ _ => rfl))) (da_cons (de_ix rfl (de_var (pv 3)) (de_c pe_int (fun _ => .int _)) (fun _ _ => rfl)) da_nil))) da_nil))))) (by first | exact Or.inl rfl | exact Or.inr rfl))
    (dss_cons (ds_if (dt_eq here.u rfl (de_var (pv 0)) (de_c pe_int (fun _ => .int _))) (dss_one (ds_set (i := 10) nd rfl (by first | exact Or.inl rfl | exact Or.inr rfl) (de_call (ok_law_moved T) here (by decide) (by rfl) T.g_law_moved T.k_law_moved T.b_law_moved .nil (fun _ => .nil) (da_cons (de_var (pv 0)) (da_cons (de_ix rfl (de_var (pv 6)) (de_c pe_int (fun _ => .int _)) (fun _ _ => rfl)) (da_cons (de_tup (da_cons (de_ix rfl (de_var (pv 2)) (de_c pe_int (fun _ => .int _)) (fun _ _ => rfl)) (da_cons (de_ix rfl (de_var (pv 2)) (de_c pe_int (fun _ => .int _)) (fun _ _ => rfl)) da_nil))) (da_cons (de_tup (da_cons (de_ix rfl (de_var (pv 3)) (de_c pe_int (fun _ => .int _)) (fun _ _ => rfl)) (da_cons (de_ix rfl (de_var (pv 3)) (de_c pe_int (fun _ => .int _)) (fun _ _ => rfl)) da_nil))) da_nil))))) (by first | exact Or.inl rfl | exact Or.inr rfl))) dss_nil)
    (dss_cons (ds_if (dt_eq here.u rfl (de_var (pv 0)) (de_c pe_int (fun _ => .int _))) (dss_one (ds_set (i := 10) nd rfl (by first | exact Or.inl rfl | exact Or.inr rfl) (de_tup (da_cons (de_c pe_str (fun _ => .str _)) (da_cons (de_call (ok_turn_form T) here (by decide) (by rfl) T.g_turn_form T.k_turn_form T.b_turn_form .nil (fun _ => .nil) (da_cons (de_call (ok_turn_form T) here (by decide) (by rfl) T.g_turn_form T.k_turn_form T.b_turn_form .nil (fun _ => .nil) (da_cons (de_call (ok_turn_form T) here (by decide) (by rfl) T.g_turn_form T.k_turn_form T.b_turn_form .nil (fun _ => .nil) (da_cons (de_ix rfl (de_var (pv 6)) (de_c pe_int (fun _ => .int _)) (fun _ _ => rfl)) da_nil)) da_nil)) da_nil)) da_nil))) (by first | exact Or.inl rfl | exact Or.inr rfl))) dss_nil)
    (dss_cons (ds_if (dt_w (dw_or (dt_ne here.u rfl (de_ix rfl (de_var (pv 10)) (de_c pe_int (fun _ => .int _)) (fun _ _ => rfl)) (de_c pe_str (fun _ => .str _))) (dw_or1 (dt_not (dt_val (de_isC rfl T.I_0 (by rfl) T.z_isinstance (de_ix rfl (de_var (pv 10)) (de_c pe_int (fun _ => .int _)) (fun _ _ => rfl)) (pe_glob (v := .ref A.c_0) (by rfl) T.gc_0 rfl)) (fun h => pt_val h)))))) (dss_one (ds_ret (de_c pe_bl (fun _ => .bl _)))) dss_nil)
    (dss_cons (ds_if (dt_not (dt_val (de_call (ok_law_same T) here (by decide) (by rfl) T.g_law_same T.k_law_same T.b_law_same .nil (fun _ => .nil) (da_cons (de_fld T.C_0 rfl rfl (de_var (pv 5)) rfl) (da_cons (de_var (pv 1)) da_nil))) (fun h => pt_val h))) (dss_one (ds_ret (de_c pe_bl (fun _ => .bl _)))) dss_nil)
    (dss_one (ds_ret (de_call (ok_law_same T) here (by decide) (by rfl) T.g_law_same T.k_law_same T.b_law_same .nil (fun _ => .nil) (da_cons (de_fld T.C_0 rfl rfl (de_ix rfl (de_var (pv 10)) (de_c pe_int (fun _ => .int _)) (fun _ _ => rfl)) rfl) (da_cons (de_call (ok_law_plain T) here (by decide) (by rfl) T.g_law_plain T.k_law_plain T.b_law_plain .nil (fun _ => .nil) (da_cons (de_var (pv 1)) da_nil)) da_nil)))))))))))))))))))
set_option maxHeartbeats 4000000 in
theorem ok_law (T : Tx K mg A) : FnD P w K mg base (WK K A pp pm) 9 A.f_law A.d_law ["script"] F_law := by
  refine fnD_of (N := N_law) T.F_law sc_law fun cdv AA fs s H E here passes => ?_
  have nd := sc_law.nd
  exact (dss_cons (ds_set (i := 1) nd rfl (by first | exact Or.inl rfl | exact Or.inr rfl) (de_call (ok_law_pool T) here (by decide) (by rfl) T.g_law_pool T.k_law_pool T.b_law_pool .nil (fun _ => .nil) (da_cons (de_var (pv 0)) da_nil)) (by first | exact Or.inl rfl | exact Or.inr rfl))
    (dss_cons (ds_set (i := 2) nd rfl (by first | exact Or.inl rfl | exact Or.inr rfl) (de_call (ok_law_numbers T) here (by decide) (by rfl) T.g_law_numbers T.k_law_numbers T.b_law_numbers .nil (fun _ => .nil) (da_cons (de_var (pv 1)) da_nil)) (by first | exact Or.inl rfl | exact Or.inr rfl))
    (dss_cons (ds_set (i := 3) nd rfl (by first | exact Or.inl rfl | exact Or.inr rfl) (de_catT rfl (de_catT rfl (de_slT rfl (de_var (pv 2)) do_no (do_some (de_c pe_int (fun _ => .int _)))) (de_tup (da_cons (de_c pe_int (fun _ => .int _)) (da_cons (de_c pe_int (fun _ => .int _)) da_nil)))) (de_slT rfl (de_var (pv 2)) (do_some (de_c pe_int (fun _ => .int _))) do_no)) (by first | exact Or.inl rfl | exact Or.inr rfl))
    (dss_cons (ds_set (i := 4) nd rfl (by first | exact Or.inl rfl | exact Or.inr rfl) (de_ix rfl (de_lst false (da_cons (de_c pe_int (fun _ => .int _)) (da_cons (de_pow (de_c pe_int (fun _ => .int _)) (de_c pe_int (fun _ => .int _))) da_nil))) (de_call (ok_law_take T) here (by decide) (by rfl) T.g_law_take T.k_law_take T.b_law_take .nil (fun _ => .nil) (da_cons (de_var (pv 1)) (da_cons (de_c pe_int (fun _ => .int _)) da_nil))) (fun _ _ => rfl)) (by first | exact Or.inl rfl | exact Or.inr rfl))
    (dss_cons (ds_set (i := 5) nd rfl (by first | exact Or.inl rfl | exact Or.inr rfl) (de_ix rfl (de_lst false (da_cons (de_c pe_int (fun _ => .int _)) (da_cons (de_c pe_int (fun _ => .int _)) (da_cons (de_c pe_int (fun _ => .int _)) (da_cons (de_pow (de_c pe_int (fun _ => .int _)) (de_c pe_int (fun _ => .int _))) da_nil))))) (de_call (ok_law_take T) here (by decide) (by rfl) T.g_law_take T.k_law_take T.b_law_take .nil (fun _ => .nil) (da_cons (de_var (pv 1)) (da_cons (de_c pe_int (fun _ => .int _)) da_nil))) (fun _ _ => rfl)) (by first | exact Or.inl rfl | exact Or.inr rfl))
    (dss_cons (ds_set (i := 6) nd rfl (by first | exact Or.inl rfl | exact Or.inr rfl) (de_call (ok_law_low T) here (by decide) (by rfl) T.g_law_low T.k_law_low T.b_law_low .nil (fun _ => .nil) (da_cons (de_call (ok_law_near T) here (by decide) (by rfl) T.g_law_near T.k_law_near T.b_law_near .nil (fun _ => .nil) (da_cons (de_var (pv 1)) (da_cons (de_var (pv 4)) da_nil))) (da_cons (de_iadd (de_c pe_int (fun _ => .int _)) (de_call (ok_law_take T) here (by decide) (by rfl) T.g_law_take T.k_law_take T.b_law_take .nil (fun _ => .nil) (da_cons (de_var (pv 1)) (da_cons (de_var (pv 5)) da_nil)))) da_nil))) (by first | exact Or.inl rfl | exact Or.inr rfl))
    (dss_cons (ds_set (i := 7) nd rfl (by first | exact Or.inl rfl | exact Or.inr rfl) (de_call (ok_law_low T) here (by decide) (by rfl) T.g_law_low T.k_law_low T.b_law_low .nil (fun _ => .nil) (da_cons (de_call (ok_law_near T) here (by decide) (by rfl) T.g_law_near T.k_law_near T.b_law_near .nil (fun _ => .nil) (da_cons (de_var (pv 1)) (da_cons (de_var (pv 4)) da_nil))) (da_cons (de_iadd (de_c pe_int (fun _ => .int _)) (de_call (ok_law_take T) here (by decide) (by rfl) T.g_law_take T.k_law_take T.b_law_take .nil (fun _ => .nil) (da_cons (de_var (pv 1)) (da_cons (de_var (pv 5)) da_nil)))) da_nil))) (by first | exact Or.inl rfl | exact Or.inr rfl))
    (dss_cons (ds_set (i := 8) nd rfl (by first | exact Or.inl rfl | exact Or.inr rfl) (de_call (ok_law_low T) here (by decide) (by rfl) T.g_law_low T.k_law_low T.b_law_low .nil (fun _ => .nil) (da_cons (de_iadd (de_c pe_int (fun _ => .int _)) (de_call (ok_law_take T) here (by decide) (by rfl) T.g_law_take T.k_law_take T.b_law_take .nil (fun _ => .nil) (da_cons (de_var (pv 1)) (da_cons (de_var (pv 4)) da_nil)))) (da_cons (de_iadd (de_c pe_int (fun _ => .int _)) (de_call (ok_law_take T) here (by decide) (by rfl) T.g_law_take T.k_law_take T.b_law_take .nil (fun _ => .nil) (da_cons (de_var (pv 1)) (da_cons (de_var (pv 5)) da_nil)))) da_nil))) (by first | exact Or.inl rfl | exact Or.inr rfl))
    (dss_cons (ds_set (i := 9) nd rfl (by first | exact Or.inl rfl | exact Or.inr rfl) (de_call (ok_law_low T) here (by decide) (by rfl) T.g_law_low T.k_law_low T.b_law_low .nil (fun _ => .nil) (da_cons (de_iadd (de_c pe_int (fun _ => .int _)) (de_call (ok_law_take T) here (by decide) (by rfl) T.g_law_take T.k_law_take T.b_law_take .nil (fun _ => .nil) (da_cons (de_var (pv 1)) (da_cons (de_var (pv 4)) da_nil)))) (da_cons (de_iadd (de_c pe_int (fun _ => .int _)) (de_call (ok_law_take T) here (by decide) (by rfl) T.g_law_take T.k_law_take T.b_law_take .nil (fun _ => .nil) (da_cons (de_var (pv 1)) (da_cons (de_var (pv 5)) da_nil)))) da_nil))) (by first | exact Or.inl rfl | exact Or.inr rfl))
    (dss_cons (ds_set (i := 10) nd rfl (by first | exact Or.inl rfl | exact Or.inr rfl) (de_call (ok_law_low T) here (by decide) (by rfl) T.g_law_low T.k_law_low T.b_law_low .nil (fun _ => .nil) (da_cons (de_call (ok_law_near T) here (by decide) (by rfl) T.g_law_near T.k_law_near T.b_law_near .nil (fun _ => .nil) (da_cons (de_var (pv 1)) (da_cons (de_c pe_int (fun _ => .int _)) da_nil))) (da_cons (de_iadd (de_c pe_int (fun _ => .int _)) (de_call (ok_law_take T) here (by decide) (by rfl) T.g_law_take T.k_law_take T.b_law_take .nil (fun _ => .nil) (da_cons (de_var (pv 1)) (da_cons (de_c pe_int (fun _ => .int _)) da_nil)))) da_nil))) (by first | exact Or.inl rfl | exact Or.inr rfl))
    (dss_cons (ds_set (i := 11) nd rfl (by first | exact Or.inl rfl | exact Or.inr rfl) (de_call (ok_law_low T) here (by decide) (by rfl) T.g_law_low T.k_law_low T.b_law_low .nil (fun _ => .nil) (da_cons (de_call (ok_law_near T) here (by decide) (by rfl) T.g_law_near T.k_law_near T.b_law_near .nil (fun _ => .nil) (da_cons (de_var (pv 1)) (da_cons (de_c pe_int (fun _ => .int _)) da_nil))) (da_cons (de_iadd (de_c pe_int (fun _ => .int _)) (de_call (ok_law_take T) here (by decide) (by rfl) T.g_law_take T.k_law_take T.b_law_take .nil (fun _ => .nil) (da_cons (de_var (pv 1)) (da_cons (de_c pe_int (fun _ => .int _)) da_nil)))) da_nil))) (by first | exact Or.inl rfl | exact Or.inr rfl))
    (dss_cons (ds_for passes rfl (di_seq rfl (de_lst false (da_cons (de_var (pv 2)) (da_cons (de_var (pv 3)) da_nil)))) (dg_name nd (i := 12) rfl (by first | exact Or.inl rfl | exact Or.inr rfl) (by first | exact Or.inl rfl | exact Or.inr rfl)) (dss_cons (ds_if (dt_not (dt_val (de_call (ok_law_move_right T) here (by decide) (by rfl) T.g_law_move_right T.k_law_move_right T.b_law_move_right .nil (fun _ => .nil) (da_cons (de_c pe_int (fun _ => .int _)) (da_cons (de_var (pv 12)) (da_cons (de_var (pv 6)) (da_cons (de_var (pv 7)) (da_cons (de_tup (da_cons (de_var (pv 10)) (da_cons (de_var (pv 11)) da_nil))) da_nil)))))) (fun h => pt_val h))) (dss_one (ds_ret (de_c pe_bl (fun _ => .bl _)))) dss_nil)
    (dss_cons (ds_if (dt_not (dt_val (de_call (ok_law_move_right T) here (by decide) (by rfl) T.g_law_move_right T.k_law_move_right T.b_law_move_right .nil (fun _ => .nil) (da_cons (de_c pe_int (fun _ => .int _)) (da_cons (de_var (pv 12)) (da_cons (de_var (pv 8)) (da_cons (de_var (pv 9)) (da_cons (de_tup (da_cons (de_var (pv 10)) (da_cons (de_var (pv 11)) da_nil))) da_nil)))))) (fun h => pt_val h))) (dss_one (ds_ret (de_c pe_bl (fun _ => .bl _)))) dss_nil)
    (dss_one (ds_for passes rfl (di_seq rfl (de_lst false (da_cons (de_c pe_int (fun _ => .int _)) (da_cons (de_c pe_int (fun _ => .int _)) (da_cons (de_c pe_int (fun _ => .int _)) da_nil))))) (dg_name nd (i := 13) rfl (by first | exact Or.inl rfl | exact Or.inr rfl) (by first | exact Or.inl rfl | exact Or.inr rfl)) (dss_one (ds_if (dt_not (dt_val (de_call (ok_law_move_right T) here (by decide) (by rfl) T.g_law_move_right T.k_law_move_right T.b_law_move_right .nil (fun _ => .nil) (da_cons (de_var (pv 13)) (da_cons (de_var (pv 12)) (da_cons (de_var (pv 6)) (da_cons (de_var (pv 7)) (da_cons (de_tup (da_cons (de_var (pv 10)) (da_cons (de_var (pv 11)) da_nil))) da_nil)))))) (fun h => pt_val h))) (dss_one (ds_ret (de_c pe_bl (fun _ => .bl _)))) dss_nil)))))))
    (dss_cons (ds_for passes rfl (di_seq rfl (de_lst false (da_cons (de_c pe_int (fun _ => .int _)) (da_cons (de_c pe_int (fun _ => .int _)) da_nil)))) (dg_name nd (i := 14) rfl (by first | exact Or.inl rfl | exact Or.inr rfl) (by first | exact Or.inl rfl | exact Or.inr rfl)) (dss_cons (ds_set (i := 15) nd rfl (by first | exact Or.inl rfl | exact Or.inr rfl) (de_B (sv_list true rfl) (fun h => pe_callTy call_list_of (by rfl) T.z_list boot_list h) (da_cons (de_var (pv 3)) da_nil)) (by first | exact Or.inl rfl | exact Or.inr rfl))
    (dss_cons (ds_setIx (de_var (pv 15)) (de_var (pv 14)) (de_neg (de_c pe_int (fun _ => .int _))) (fun h ho hi => ps_asg h (pg_sub ho hi set_list)))
    (dss_one (ds_if (dt_not (dt_val (de_call (ok_law_move_right T) here (by decide) (by rfl) T.g_law_move_right T.k_law_move_right T.b_law_move_right .nil (fun _ => .nil) (da_cons (de_c pe_int (fun _ => .int _)) (da_cons (de_B (sv_tuple rfl) (fun h => pe_callTy call_tuple_of (by rfl) T.z_tuple boot_tuple h) (da_cons (de_var (pv 15)) da_nil)) (da_cons (de_var (pv 6)) (da_cons (de_var (pv 7)) (da_cons (de_tup (da_cons (de_var (pv 10)) (da_cons (de_var (pv 11)) da_nil))) da_nil)))))) (fun h => pt_val h))) (dss_one (ds_ret (de_c pe_bl (fun _ => .bl _)))) dss_nil)))))
    (dss_cons (ds_set (i := 16) nd rfl (by first | exact Or.inl rfl | exact Or.inr rfl) (de_fz (de_make T.C_0 T.M_0 (ok_Formzz_initzz T) here (by decide) (by rfl) T.gc_0 T.b_Formzz_initzz .nil (fun _ => .nil) (da_cons (de_var (pv 2)) da_nil))) (by first | exact Or.inl rfl | exact Or.inr rfl))
    (dss_cons (ds_for passes rfl (di_seq rfl (de_lst false (da_cons (de_tup (da_cons (de_c pe_int (fun _ => .int _)) (da_cons (de_c pe_int (fun _ => .int _)) da_nil))) (da_cons (de_tup (da_cons (de_neg (de_ix rfl (de_var (pv 8)) (de_c pe_int (fun _ => .int _)) (fun _ _ => rfl))) (da_cons (de_ix rfl (de_var (pv 8)) (de_c pe_int (fun _ => .int _)) (fun _ _ => rfl)) da_nil))) da_nil)))) (dg_name nd (i := 17) rfl (by first | exact Or.inl rfl | exact Or.inr rfl) (by first | exact Or.inl rfl | exact Or.inr rfl)) (dss_cons (ds_for passes rfl (di_seq rfl (de_lst false (da_cons (de_var (pv 9)) (da_cons (de_var (pv 17)) da_nil)))) (dg_name nd (i := 18) rfl (by first | exact Or.inl rfl | exact Or.inr rfl) (by first | exact Or.inl rfl | exact Or.inr rfl)) (dss_one (ds_if (dt_not (dt_val (de_call (ok_law_same T) here (by decide) (by rfl) T.g_law_same T.k_law_same T.b_law_same .nil (fun _ => .nil) (da_cons (de_call (ok_law_moved T) here (by decide) (by rfl) T.g_law_moved T.k_law_moved T.b_law_moved .nil (fun _ => .nil) (da_cons (de_c pe_int (fun _ => .int _)) (da_cons (de_var (pv 16)) (da_cons (de_var (pv 17)) (da_cons (de_var (pv 18)) da_nil))))) (da_cons (de_tup (da_cons (de_c pe_str (fun _ => .str _)) (da_cons (de_c pe_int (fun _ => .int _)) (da_cons (de_c pe_bl (fun _ => .bl _)) da_nil)))) da_nil))) (fun h => pt_val h))) (dss_one (ds_ret (de_c pe_bl (fun _ => .bl _)))) dss_nil)))
    (dss_one (ds_if (dt_not (dt_val (de_call (ok_law_same T) here (by decide) (by rfl) T.g_law_same T.k_law_same T.b_law_same .nil (fun _ => .nil) (da_cons (de_call (ok_law_moved T) here (by decide) (by rfl) T.g_law_moved T.k_law_moved T.b_law_moved .nil (fun _ => .nil) (da_cons (de_c pe_int (fun _ => .int _)) (da_cons (de_var (pv 16)) (da_cons (de_var (pv 8)) (da_cons (de_var (pv 17)) da_nil))))) (da_cons (de_tup (da_cons (de_c pe_str (fun _ => .str _)) (da_cons (de_c pe_int (fun _ => .int _)) (da_cons (de_c pe_bl (fun _ => .bl _)) da_nil)))) da_nil))) (fun h => pt_val h))) (dss_one (ds_ret (de_c pe_bl (fun _ => .bl _)))) dss_nil))))
    (dss_one (ds_ret (de_call (ok_law_same T) here (by decide) (by rfl) T.g_law_same T.k_law_same T.b_law_same .nil (fun _ => .nil) (da_cons (de_fld T.C_0 rfl rfl (de_var (pv 16)) rfl) (da_cons (de_var (pv 2)) da_nil))))))))))))))))))))
end
set_option maxHeartbeats 0 in
theorem all_mk {l : PySem.W.OpenLaw} {w : World} {K : PySem.W.Frag} {h : Heap} {mg : Str → Option Value} (X : K.In h) (G : h.Ns mainGlobals mg) {fa : Addr} (hfa : mg "law" = some (.ref fa))
    {f0 : Addr} {od0 an0 : Option Addr} {sl0 : Array (Option Value)} {oc0 kV0 dc0 pm0 cd0 ct0 : Value}
    {f1 : Addr} {od1 an1 : Option Addr} {sl1 : Array (Option Value)} {oc1 kV1 dc1 pm1 cd1 ct1 : Value}
    {f2 : Addr} {od2 an2 : Option Addr} {sl2 : Array (Option Value)} {oc2 kV2 dc2 pm2 cd2 ct2 : Value}
    {f3 : Addr} {od3 an3 : Option Addr} {sl3 : Array (Option Value)} {oc3 kV3 dc3 pm3 cd3 ct3 : Value}
    {f4 : Addr} {od4 an4 : Option Addr} {sl4 : Array (Option Value)} {oc4 kV4 dc4 pm4 cd4 ct4 : Value}
    {f5 : Addr} {od5 an5 : Option Addr} {sl5 : Array (Option Value)} {oc5 kV5 dc5 pm5 cd5 ct5 : Value}
    {f6 : Addr} {od6 an6 : Option Addr} {sl6 : Array (Option Value)} {oc6 kV6 dc6 pm6 cd6 ct6 : Value}
    {f7 : Addr} {od7 an7 : Option Addr} {sl7 : Array (Option Value)} {oc7 kV7 dc7 pm7 cd7 ct7 : Value}
    {f8 : Addr} {od8 an8 : Option Addr} {sl8 : Array (Option Value)} {oc8 kV8 dc8 pm8 cd8 ct8 : Value}
    {f9 : Addr} {od9 an9 : Option Addr} {sl9 : Array (Option Value)} {oc9 kV9 dc9 pm9 cd9 ct9 : Value}
    {f10 : Addr} {od10 an10 : Option Addr} {sl10 : Array (Option Value)} {oc10 kV10 dc10 pm10 cd10 ct10 : Value}
    {f11 : Addr} {od11 an11 : Option Addr} {sl11 : Array (Option Value)} {oc11 kV11 dc11 pm11 cd11 ct11 : Value}
    {f12 : Addr} {od12 an12 : Option Addr} {sl12 : Array (Option Value)} {oc12 kV12 dc12 pm12 cd12 ct12 : Value}
    {f13 : Addr} {od13 an13 : Option Addr} {sl13 : Array (Option Value)} {oc13 kV13 dc13 pm13 cd13 ct13 : Value}
    {f14 : Addr} {od14 an14 : Option Addr} {sl14 : Array (Option Value)} {oc14 kV14 dc14 pm14 cd14 ct14 : Value}
    {q14 : Addr} {rest14 : List Value}
    {f15 : Addr} {od15 an15 : Option Addr} {sl15 : Array (Option Value)} {oc15 kV15 dc15 pm15 cd15 ct15 : Value}
    {f16 : Addr} {od16 an16 : Option Addr} {sl16 : Array (Option Value)} {oc16 kV16 dc16 pm16 cd16 ct16 : Value}
    {f17 : Addr} {od17 an17 : Option Addr} {sl17 : Array (Option Value)} {oc17 kV17 dc17 pm17 cd17 ct17 : Value}
    {f18 : Addr} {od18 an18 : Option Addr} {sl18 : Array (Option Value)} {oc18 kV18 dc18 pm18 cd18 ct18 : Value}
    {f19 : Addr} {od19 an19 : Option Addr} {sl19 : Array (Option Value)} {oc19 kV19 dc19 pm19 cd19 ct19 : Value}
    {f20 : Addr} {od20 an20 : Option Addr} {sl20 : Array (Option Value)} {oc20 kV20 dc20 pm20 cd20 ct20 : Value}
    {f21 : Addr} {od21 an21 : Option Addr} {sl21 : Array (Option Value)} {oc21 kV21 dc21 pm21 cd21 ct21 : Value}
    {f22 : Addr} {od22 an22 : Option Addr} {sl22 : Array (Option Value)} {oc22 kV22 dc22 pm22 cd22 ct22 : Value}
    {f23 : Addr} {od23 an23 : Option Addr} {sl23 : Array (Option Value)} {oc23 kV23 dc23 pm23 cd23 ct23 : Value}
    {f24 : Addr} {od24 an24 : Option Addr} {sl24 : Array (Option Value)} {oc24 kV24 dc24 pm24 cd24 ct24 : Value}
    {f25 : Addr} {od25 an25 : Option Addr} {sl25 : Array (Option Value)} {oc25 kV25 dc25 pm25 cd25 ct25 : Value}
    {f26 : Addr} {od26 an26 : Option Addr} {sl26 : Array (Option Value)} {oc26 kV26 dc26 pm26 cd26 ct26 : Value}
    {f27 : Addr} {od27 an27 : Option Addr} {sl27 : Array (Option Value)} {oc27 kV27 dc27 pm27 cd27 ct27 : Value}
    {f28 : Addr} {od28 an28 : Option Addr} {sl28 : Array (Option Value)} {oc28 kV28 dc28 pm28 cd28 ct28 : Value}
    {f29 : Addr} {od29 an29 : Option Addr} {sl29 : Array (Option Value)} {oc29 kV29 dc29 pm29 cd29 ct29 : Value}
    {C0 : Addr}
    {C1 : Addr}
    {ob1 : Obj}
    {C2 : Addr}
    {ob2 : Obj}
    {C3 : Addr}
    {ob3 : Obj}
    {C4 : Addr}
    (aC0 : PySem.W.nsIn K mainGlobals "Form" = some (some (.ref C0)))
    (aC1 : PySem.W.nsIn K mainGlobals "BadSizes" = some (some (.ref C1)))
    (aC2 : PySem.W.nsIn K mainGlobals "BadStep" = some (some (.ref C2)))
    (aC3 : PySem.W.nsIn K mainGlobals "TooCurved" = some (some (.ref C3)))
    (aC4 : PySem.W.nsIn K mainGlobals "RasterError" = some (some (.ref C4)))
    (a0 : PySem.W.nsIn K mainGlobals "_law_pool" = some (some (.ref f0)))
    (l0 : K.lookup f0 = some ⟨oc0, od0, .func (PySem.W.fnOf "_law_pool" "_law_pool" (defArgs (topS 23)) (defBody (topS 23)) (defScope (topS 23)) .none kV0 dc0 pm0 an0 cd0 ct0), sl0⟩)
    (c0 : PySem.W.codeIn K cd0 "_law_pool" = true)
    (k0 : PySem.W.keepIn K (.ref f0) = true)
    (a1 : PySem.W.nsIn K mainGlobals "_law_take" = some (some (.ref f1)))
    (l1 : K.lookup f1 = some ⟨oc1, od1, .func (PySem.W.fnOf "_law_take" "_law_take" (defArgs (topS 24)) (defBody (topS 24)) (defScope (topS 24)) .none kV1 dc1 pm1 an1 cd1 ct1), sl1⟩)
    (c1 : PySem.W.codeIn K cd1 "_law_take" = true)
    (k1 : PySem.W.keepIn K (.ref f1) = true)
    (a2 : PySem.W.nsIn K mainGlobals "_law_near" = some (some (.ref f2)))
    (l2 : K.lookup f2 = some ⟨oc2, od2, .func (PySem.W.fnOf "_law_near" "_law_near" (defArgs (topS 25)) (defBody (topS 25)) (defScope (topS 25)) .none kV2 dc2 pm2 an2 cd2 ct2), sl2⟩)
    (c2 : PySem.W.codeIn K cd2 "_law_near" = true)
    (k2 : PySem.W.keepIn K (.ref f2) = true)
    (a3 : PySem.W.nsIn K mainGlobals "_law_numbers" = some (some (.ref f3)))
    (l3 : K.lookup f3 = some ⟨oc3, od3, .func (PySem.W.fnOf "_law_numbers" "_law_numbers" (defArgs (topS 31)) (defBody (topS 31)) (defScope (topS 31)) .none kV3 dc3 pm3 an3 cd3 ct3), sl3⟩)
    (c3 : PySem.W.codeIn K cd3 "_law_numbers" = true)
    (k3 : PySem.W.keepIn K (.ref f3) = true)
    (a4 : PySem.W.nsIn K mainGlobals "_law_low" = some (some (.ref f4)))
    (l4 : K.lookup f4 = some ⟨oc4, od4, .func (PySem.W.fnOf "_law_low" "_law_low" (defArgs (topS 27)) (defBody (topS 27)) (defScope (topS 27)) .none kV4 dc4 pm4 an4 cd4 ct4), sl4⟩)
    (c4 : PySem.W.codeIn K cd4 "_law_low" = true)
    (k4 : PySem.W.keepIn K (.ref f4) = true)
    (a5 : PySem.W.findIn K (.ref C0) "__init__" = some (some (.ref f5)))
    (i5 : PySem.W.isFn K (.ref f5) = true)
    (l5 : K.lookup f5 = some ⟨oc5, od5, .func (PySem.W.fnOf "__init__" "Form.__init__" (defArgs (inClass (topS 13) 0)) (defBody (inClass (topS 13) 0)) (defScope (inClass (topS 13) 0)) .none kV5 dc5 pm5 an5 cd5 ct5), sl5⟩)
    (c5 : PySem.W.codeIn K cd5 "Form.__init__" = true)
    (k5 : PySem.W.keepIn K (.ref f5) = true)
    (a6 : PySem.W.nsIn K mainGlobals "negative" = some (some (.ref f6)))
    (l6 : K.lookup f6 = some ⟨oc6, od6, .func (PySem.W.fnOf "negative" "negative" (defArgs (topS 10)) (defBody (topS 10)) (defScope (topS 10)) .none kV6 dc6 pm6 an6 cd6 ct6), sl6⟩)
    (c6 : PySem.W.codeIn K cd6 "negative" = true)
    (k6 : PySem.W.keepIn K (.ref f6) = true)
    (a7 : PySem.W.nsIn K mainGlobals "bottoms_at" = some (some (.ref f7)))
    (l7 : K.lookup f7 = some ⟨oc7, od7, .func (PySem.W.fnOf "bottoms_at" "bottoms_at" (defArgs (topS 16)) (defBody (topS 16)) (defScope (topS 16)) .none kV7 dc7 pm7 an7 cd7 ct7), sl7⟩)
    (c7 : PySem.W.codeIn K cd7 "bottoms_at" = true)
    (k7 : PySem.W.keepIn K (.ref f7) = true)
    (a8 : PySem.W.findIn K (.ref C0) "plain" = some (some (.ref f8)))
    (i8 : PySem.W.isFn K (.ref f8) = true)
    (l8 : K.lookup f8 = some ⟨oc8, od8, .func (PySem.W.fnOf "plain" "Form.plain" (defArgs (inClass (topS 13) 13)) (defBody (inClass (topS 13) 13)) (defScope (inClass (topS 13) 13)) .none kV8 dc8 pm8 an8 cd8 ct8), sl8⟩)
    (c8 : PySem.W.codeIn K cd8 "Form.plain" = true)
    (k8 : PySem.W.keepIn K (.ref f8) = true)
    (a9 : PySem.W.nsIn K mainGlobals "tops_at" = some (some (.ref f9)))
    (l9 : K.lookup f9 = some ⟨oc9, od9, .func (PySem.W.fnOf "tops_at" "tops_at" (defArgs (topS 15)) (defBody (topS 15)) (defScope (topS 15)) .none kV9 dc9 pm9 an9 cd9 ct9), sl9⟩)
    (c9 : PySem.W.codeIn K cd9 "tops_at" = true)
    (k9 : PySem.W.keepIn K (.ref f9) = true)
    (a10 : PySem.W.nsIn K mainGlobals "shift_form" = some (some (.ref f10)))
    (l10 : K.lookup f10 = some ⟨oc10, od10, .func (PySem.W.fnOf "shift_form" "shift_form" (defArgs (topS 17)) (defBody (topS 17)) (defScope (topS 17)) .none kV10 dc10 pm10 an10 cd10 ct10), sl10⟩)
    (c10 : PySem.W.codeIn K cd10 "shift_form" = true)
    (k10 : PySem.W.keepIn K (.ref f10) = true)
    (a11 : PySem.W.nsIn K mainGlobals "scale_form" = some (some (.ref f11)))
    (l11 : K.lookup f11 = some ⟨oc11, od11, .func (PySem.W.fnOf "scale_form" "scale_form" (defArgs (topS 18)) (defBody (topS 18)) (defScope (topS 18)) .none kV11 dc11 pm11 an11 cd11 ct11), sl11⟩)
    (c11 : PySem.W.codeIn K cd11 "scale_form" = true)
    (k11 : PySem.W.keepIn K (.ref f11) = true)
    (a12 : PySem.W.nsIn K mainGlobals "mirror_form_x" = some (some (.ref f12)))
    (l12 : K.lookup f12 = some ⟨oc12, od12, .func (PySem.W.fnOf "mirror_form_x" "mirror_form_x" (defArgs (topS 19)) (defBody (topS 19)) (defScope (topS 19)) .none kV12 dc12 pm12 an12 cd12 ct12), sl12⟩)
    (c12 : PySem.W.codeIn K cd12 "mirror_form_x" = true)
    (k12 : PySem.W.keepIn K (.ref f12) = true)
    (a13 : PySem.W.nsIn K mainGlobals "mirror_form_y" = some (some (.ref f13)))
    (l13 : K.lookup f13 = some ⟨oc13, od13, .func (PySem.W.fnOf "mirror_form_y" "mirror_form_y" (defArgs (topS 20)) (defBody (topS 20)) (defScope (topS 20)) .none kV13 dc13 pm13 an13 cd13 ct13), sl13⟩)
    (c13 : PySem.W.codeIn K cd13 "mirror_form_y" = true)
    (k13 : PySem.W.keepIn K (.ref f13) = true)
    (a14 : PySem.W.findIn K (.ref C0) "is_conic" = some (some (.ref q14)))
    (pa14 : PySem.W.specialIn K (.ref q14) "__get__" = some (some (.builtin "property.__get__")))
    (pb14 : PySem.W.takesIn K (.ref q14) = some true)
    (pc14 : PySem.W.recIn K q14 "property" = some (.ref f14 :: rest14))
    (l14 : K.lookup f14 = some ⟨oc14, od14, .func (PySem.W.fnOf "is_conic" "Form.is_conic" (defArgs (inClass (topS 13) 4)) (defBody (inClass (topS 13) 4)) (defScope (inClass (topS 13) 4)) .none kV14 dc14 pm14 an14 cd14 ct14), sl14⟩)
    (c14 : PySem.W.codeIn K cd14 "Form.is_conic" = true)
    (k14 : PySem.W.keepIn K (.ref f14) = true)
    (a15 : PySem.W.nsIn K mainGlobals "turn_form" = some (some (.ref f15)))
    (l15 : K.lookup f15 = some ⟨oc15, od15, .func (PySem.W.fnOf "turn_form" "turn_form" (defArgs (topS 21)) (defBody (topS 21)) (defScope (topS 21)) .none kV15 dc15 pm15 an15 cd15 ct15), sl15⟩)
    (c15 : PySem.W.codeIn K cd15 "turn_form" = true)
    (k15 : PySem.W.keepIn K (.ref f15) = true)
    (a16 : PySem.W.nsIn K mainGlobals "_law_moved" = some (some (.ref f16)))
    (l16 : K.lookup f16 = some ⟨oc16, od16, .func (PySem.W.fnOf "_law_moved" "_law_moved" (defArgs (topS 33)) (defBody (topS 33)) (defScope (topS 33)) .none kV16 dc16 pm16 an16 cd16 ct16), sl16⟩)
    (c16 : PySem.W.codeIn K cd16 "_law_moved" = true)
    (k16 : PySem.W.keepIn K (.ref f16) = true)
    (a17 : PySem.W.nsIn K mainGlobals "_law_same" = some (some (.ref f17)))
    (l17 : K.lookup f17 = some ⟨oc17, od17, .func (PySem.W.fnOf "_law_same" "_law_same" (defArgs (topS 26)) (defBody (topS 26)) (defScope (topS 26)) .none kV17 dc17 pm17 an17 cd17 ct17), sl17⟩)
    (c17 : PySem.W.codeIn K cd17 "_law_same" = true)
    (k17 : PySem.W.keepIn K (.ref f17) = true)
    (a18 : PySem.W.nsIn K mainGlobals "_law_divisor" = some (some (.ref f18)))
    (l18 : K.lookup f18 = some ⟨oc18, od18, .func (PySem.W.fnOf "_law_divisor" "_law_divisor" (defArgs (topS 28)) (defBody (topS 28)) (defScope (topS 28)) .none kV18 dc18 pm18 an18 cd18 ct18), sl18⟩)
    (c18 : PySem.W.codeIn K cd18 "_law_divisor" = true)
    (k18 : PySem.W.keepIn K (.ref f18) = true)
    (a19 : PySem.W.nsIn K mainGlobals "_law_plain_numbers" = some (some (.ref f19)))
    (l19 : K.lookup f19 = some ⟨oc19, od19, .func (PySem.W.fnOf "_law_plain_numbers" "_law_plain_numbers" (defArgs (topS 34)) (defBody (topS 34)) (defScope (topS 34)) .none kV19 dc19 pm19 an19 cd19 ct19), sl19⟩)
    (c19 : PySem.W.codeIn K cd19 "_law_plain_numbers" = true)
    (k19 : PySem.W.keepIn K (.ref f19) = true)
    (a20 : PySem.W.nsIn K mainGlobals "_law_points" = some (some (.ref f20)))
    (l20 : K.lookup f20 = some ⟨oc20, od20, .func (PySem.W.fnOf "_law_points" "_law_points" (defArgs (topS 35)) (defBody (topS 35)) (defScope (topS 35)) .none kV20 dc20 pm20 an20 cd20 ct20), sl20⟩)
    (c20 : PySem.W.codeIn K cd20 "_law_points" = true)
    (k20 : PySem.W.keepIn K (.ref f20) = true)
    (a21 : PySem.W.nsIn K mainGlobals "_law_led" = some (some (.ref f21)))
    (l21 : K.lookup f21 = some ⟨oc21, od21, .func (PySem.W.fnOf "_law_led" "_law_led" (defArgs (topS 32)) (defBody (topS 32)) (defScope (topS 32)) .none kV21 dc21 pm21 an21 cd21 ct21), sl21⟩)
    (c21 : PySem.W.codeIn K cd21 "_law_led" = true)
    (k21 : PySem.W.keepIn K (.ref f21) = true)
    (a22 : PySem.W.nsIn K mainGlobals "_law_value" = some (some (.ref f22)))
    (l22 : K.lookup f22 = some ⟨oc22, od22, .func (PySem.W.fnOf "_law_value" "_law_value" (defArgs (topS 30)) (defBody (topS 30)) (defScope (topS 30)) .none kV22 dc22 pm22 an22 cd22 ct22), sl22⟩)
    (c22 : PySem.W.codeIn K cd22 "_law_value" = true)
    (k22 : PySem.W.keepIn K (.ref f22) = true)
    (a23 : PySem.W.nsIn K mainGlobals "_law_multiple" = some (some (.ref f23)))
    (l23 : K.lookup f23 = some ⟨oc23, od23, .func (PySem.W.fnOf "_law_multiple" "_law_multiple" (defArgs (topS 36)) (defBody (topS 36)) (defScope (topS 36)) .none kV23 dc23 pm23 an23 cd23 ct23), sl23⟩)
    (c23 : PySem.W.codeIn K cd23 "_law_multiple" = true)
    (k23 : PySem.W.keepIn K (.ref f23) = true)
    (a24 : PySem.W.nsIn K mainGlobals "_law_plain" = some (some (.ref f24)))
    (l24 : K.lookup f24 = some ⟨oc24, od24, .func (PySem.W.fnOf "_law_plain" "_law_plain" (defArgs (topS 29)) (defBody (topS 29)) (defScope (topS 29)) .none kV24 dc24 pm24 an24 cd24 ct24), sl24⟩)
    (c24 : PySem.W.codeIn K cd24 "_law_plain" = true)
    (k24 : PySem.W.keepIn K (.ref f24) = true)
    (a25 : PySem.W.nsIn K mainGlobals "_law_move_right" = some (some (.ref f25)))
    (l25 : K.lookup f25 = some ⟨oc25, od25, .func (PySem.W.fnOf "_law_move_right" "_law_move_right" (defArgs (topS 37)) (defBody (topS 37)) (defScope (topS 37)) .none kV25 dc25 pm25 an25 cd25 ct25), sl25⟩)
    (c25 : PySem.W.codeIn K cd25 "_law_move_right" = true)
    (k25 : PySem.W.keepIn K (.ref f25) = true)
    (a26 : PySem.W.nsIn K mainGlobals "law" = some (some (.ref f26)))
    (l26 : K.lookup f26 = some ⟨oc26, od26, .func (PySem.W.fnOf "law" "law" (defArgs (topS 38)) (defBody (topS 38)) (defScope (topS 38)) .none kV26 dc26 pm26 an26 cd26 ct26), sl26⟩)
    (c26 : PySem.W.codeIn K cd26 "law" = true)
    (k26 : PySem.W.keepIn K (.ref f26) = true)
    (a27 : PySem.W.findIn K (.ref C1) "__init__" = some (some (.ref f27)))
    (i27 : PySem.W.isFn K (.ref f27) = true)
    (ti27 : PySem.W.typeIn K (.ref f27) = some (.type "function"))
    (l27 : K.lookup f27 = some ⟨oc27, od27, .func (PySem.W.fnOf "__init__" "BadSizes.__init__" (defArgs (inClass (topS 5) 0)) (defBody (inClass (topS 5) 0)) (defScope (inClass (topS 5) 0)) .none kV27 dc27 pm27 an27 cd27 ct27), sl27⟩)
    (c27 : PySem.W.codeIn K cd27 "BadSizes.__init__" = true)
    (k27 : PySem.W.keepIn K (.ref f27) = true)
    (a28 : PySem.W.findIn K (.ref C2) "__init__" = some (some (.ref f28)))
    (i28 : PySem.W.isFn K (.ref f28) = true)
    (ti28 : PySem.W.typeIn K (.ref f28) = some (.type "function"))
    (l28 : K.lookup f28 = some ⟨oc28, od28, .func (PySem.W.fnOf "__init__" "BadStep.__init__" (defArgs (inClass (topS 6) 0)) (defBody (inClass (topS 6) 0)) (defScope (inClass (topS 6) 0)) .none kV28 dc28 pm28 an28 cd28 ct28), sl28⟩)
    (c28 : PySem.W.codeIn K cd28 "BadStep.__init__" = true)
    (k28 : PySem.W.keepIn K (.ref f28) = true)
    (a29 : PySem.W.findIn K (.ref C3) "__init__" = some (some (.ref f29)))
    (i29 : PySem.W.isFn K (.ref f29) = true)
    (ti29 : PySem.W.typeIn K (.ref f29) = some (.type "function"))
    (l29 : K.lookup f29 = some ⟨oc29, od29, .func (PySem.W.fnOf "__init__" "TooCurved.__init__" (defArgs (inClass (topS 7) 0)) (defBody (inClass (topS 7) 0)) (defScope (inClass (topS 7) 0)) .none kV29 dc29 pm29 an29 cd29 ct29), sl29⟩)
    (c29 : PySem.W.codeIn K cd29 "TooCurved.__init__" = true)
    (k29 : PySem.W.keepIn K (.ref f29) = true)
    (hd0 : PySem.W.hasDictIn K C0 = true)
    (sa0 : PySem.W.findIn K (.ref C0) "__setattr__" = some (some (.builtin "object.__setattr__")))
    (pg0 : PySem.W.plainGet K C0 Str.empty = true)
    (po0 : PySem.W.plainOver K C0 = true)
    (ha0 : PySem.W.findIn K (.ref C0) "__class__" = some (some (.builtin "object.__class__")))
    (hm0 : PySem.W.mroIn K C0 (.type "object") = some true)
    (mk0 : PySem.W.makesIn K C0 = true)
    (kc0 : PySem.W.keepIn K (.ref C0) = true)
    (n0_0 : PySem.W.findIn K (.ref C0) "numbers" = some none)
    (hd1 : PySem.W.hasDictIn K C1 = true)
    (sa1 : PySem.W.findIn K (.ref C1) "__setattr__" = some (some (.builtin "object.__setattr__")))
    (xo1 : K.lookup C1 = some ob1)
    (xb1 : excOb C1 ob1 = true)
    (sB1 : PySem.W.subIn K (.ref C1) (.type "BaseException") = some true)
    (tT1 : PySem.W.typeIn K (.ref C1) = some (.type "type"))
    (kC1 : PySem.W.keepIn K (.ref C1) = true)
    (n1_0 : PySem.W.findIn K (.ref C1) "wanted" = some none)
    (n1_1 : PySem.W.findIn K (.ref C1) "given" = some none)
    (hd2 : PySem.W.hasDictIn K C2 = true)
    (sa2 : PySem.W.findIn K (.ref C2) "__setattr__" = some (some (.builtin "object.__setattr__")))
    (xo2 : K.lookup C2 = some ob2)
    (xb2 : excOb C2 ob2 = true)
    (sB2 : PySem.W.subIn K (.ref C2) (.type "BaseException") = some true)
    (tT2 : PySem.W.typeIn K (.ref C2) = some (.type "type"))
    (kC2 : PySem.W.keepIn K (.ref C2) = true)
    (ss2 : PySem.W.subIn K (.ref C2) (.ref C2) = some true)
    (ga2 : PySem.W.findIn K (.ref C2) "__getattribute__" = some (some (.builtin "BaseException.__getattribute__")))
    (gg2 : PySem.W.findIn K (.ref C2) "__getattr__" = some none)
    (ha2 : PySem.W.findIn K (.ref C2) "__class__" = some (some (.builtin "object.__class__")))
    (hm2 : PySem.W.mroIn K C2 (.type "object") = some true)
    (n2_0 : PySem.W.findIn K (.ref C2) "index" = some none)
    (hd3 : PySem.W.hasDictIn K C3 = true)
    (sa3 : PySem.W.findIn K (.ref C3) "__setattr__" = some (some (.builtin "object.__setattr__")))
    (xo3 : K.lookup C3 = some ob3)
    (xb3 : excOb C3 ob3 = true)
    (sB3 : PySem.W.subIn K (.ref C3) (.type "BaseException") = some true)
    (tT3 : PySem.W.typeIn K (.ref C3) = some (.type "type"))
    (kC3 : PySem.W.keepIn K (.ref C3) = true)
    (ss3 : PySem.W.subIn K (.ref C3) (.ref C3) = some true)
    (ga3 : PySem.W.findIn K (.ref C3) "__getattribute__" = some (some (.builtin "BaseException.__getattribute__")))
    (gg3 : PySem.W.findIn K (.ref C3) "__getattr__" = some none)
    (ha3 : PySem.W.findIn K (.ref C3) "__class__" = some (some (.builtin "object.__class__")))
    (hm3 : PySem.W.mroIn K C3 (.type "object") = some true)
    (n3_0 : PySem.W.findIn K (.ref C3) "index" = some none)
    (cn : PySem.W.specialIn K (.builtin "object.__class__") "__get__" = some (some (.builtin "getset_descriptor.__get__")))
    (ct : PySem.W.takesIn K (.builtin "object.__class__") = some true)
    (sf3_2 : PySem.W.subIn K (.ref C3) (.ref C2) = some false)
    (kt2_4 : PySem.W.kitOne K (.ref C2) (.ref C4) = some true)
    (kt2_ValueError : PySem.W.kitOne K (.ref C2) (.type "ValueError") = some true)
    (kt2_3 : PySem.W.kitOne K (.ref C2) (.ref C3) = some false)
    (kt3_4 : PySem.W.kitOne K (.ref C3) (.ref C4) = some true)
    (kt3_ValueError : PySem.W.kitOne K (.ref C3) (.type "ValueError") = some true)
    (kt3_2 : PySem.W.kitOne K (.ref C3) (.ref C2) = some false)
    (z0 : PySem.W.nsIn K mainGlobals "int" = some none)
    (z1 : PySem.W.nsIn K mainGlobals "abs" = some none)
    (z2 : PySem.W.nsIn K mainGlobals "len" = some none)
    (z3 : PySem.W.nsIn K mainGlobals "range" = some none)
    (z4 : PySem.W.nsIn K mainGlobals "tuple" = some none)
    (z5 : PySem.W.nsIn K mainGlobals "zip" = some none)
    (z6 : PySem.W.nsIn K mainGlobals "isinstance" = some none)
    (z7 : PySem.W.nsIn K mainGlobals "ValueError" = some none)
    (z8 : PySem.W.nsIn K mainGlobals "repr" = some none)
    (z9 : PySem.W.nsIn K mainGlobals "bool" = some none)
    (z10 : PySem.W.nsIn K mainGlobals "max" = some none)
    (z11 : PySem.W.nsIn K mainGlobals "list" = some none)
    (zg : PySem.W.nsIn K mainGlobals "gcd" = some (some (.builtin "math.gcd")))
    : ∃ (fd : FuncData) (W : Wd), (∀ (s : Shared) (v : Value), BindsTo s fd ⟨[v], []⟩ [("script", v)]) ∧ W.K = K ∧ ∀ base : Heap, K.In base → base.Ns mainGlobals mg → FnD l.prog w K mg base W 9 fa fd ["script"] F_law := by
  obtain rfl : f26 = fa := by
    have e := (PySem.W.mg_of X G a26).symm.trans hfa
    injection e with e
    injection e
  let A : Ad := { f_law_pool := f0, d_law_pool := (PySem.W.fnOf "_law_pool" "_law_pool" (defArgs (topS 23)) (defBody (topS 23)) (defScope (topS 23)) .none kV0 dc0 pm0 an0 cd0 ct0), f_law_take := f1, d_law_take := (PySem.W.fnOf "_law_take" "_law_take" (defArgs (topS 24)) (defBody (topS 24)) (defScope (topS 24)) .none kV1 dc1 pm1 an1 cd1 ct1), f_law_near := f2, d_law_near := (PySem.W.fnOf "_law_near" "_law_near" (defArgs (topS 25)) (defBody (topS 25)) (defScope (topS 25)) .none kV2 dc2 pm2 an2 cd2 ct2), f_law_numbers := f3, d_law_numbers := (PySem.W.fnOf "_law_numbers" "_law_numbers" (defArgs (topS 31)) (defBody (topS 31)) (defScope (topS 31)) .none kV3 dc3 pm3 an3 cd3 ct3), f_law_low := f4, d_law_low := (PySem.W.fnOf "_law_low" "_law_low" (defArgs (topS 27)) (defBody (topS 27)) (defScope (topS 27)) .none kV4 dc4 pm4 an4 cd4 ct4), f_Formzz_initzz := f5, d_Formzz_initzz := (PySem.W.fnOf "__init__" "Form.__init__" (defArgs (inClass (topS 13) 0)) (defBody (inClass (topS 13) 0)) (defScope (inClass (topS 13) 0)) .none kV5 dc5 pm5 an5 cd5 ct5), f_negative := f6, d_negative := (PySem.W.fnOf "negative" "negative" (defArgs (topS 10)) (defBody (topS 10)) (defScope (topS 10)) .none kV6 dc6 pm6 an6 cd6 ct6), f_bottoms_at := f7, d_bottoms_at := (PySem.W.fnOf "bottoms_at" "bottoms_at" (defArgs (topS 16)) (defBody (topS 16)) (defScope (topS 16)) .none kV7 dc7 pm7 an7 cd7 ct7), f_Form_plain := f8, d_Form_plain := (PySem.W.fnOf "plain" "Form.plain" (defArgs (inClass (topS 13) 13)) (defBody (inClass (topS 13) 13)) (defScope (inClass (topS 13) 13)) .none kV8 dc8 pm8 an8 cd8 ct8), f_tops_at := f9, d_tops_at := (PySem.W.fnOf "tops_at" "tops_at" (defArgs (topS 15)) (defBody (topS 15)) (defScope (topS 15)) .none kV9 dc9 pm9 an9 cd9 ct9), f_shift_form := f10, d_shift_form := (PySem.W.fnOf "shift_form" "shift_form" (defArgs (topS 17)) (defBody (topS 17)) (defScope (topS 17)) .none kV10 dc10 pm10 an10 cd10 ct10), f_scale_form := f11, d_scale_form := (PySem.W.fnOf "scale_form" "scale_form" (defArgs (topS 18)) (defBody (topS 18)) (defScope (topS 18)) .none kV11 dc11 pm11 an11 cd11 ct11), f_mirror_form_x := f12, d_mirror_form_x := (PySem.W.fnOf "mirror_form_x" "mirror_form_x" (defArgs (topS 19)) (defBody (topS 19)) (defScope (topS 19)) .none kV12 dc12 pm12 an12 cd12 ct12), f_mirror_form_y := f13, d_mirror_form_y := (PySem.W.fnOf "mirror_form_y" "mirror_form_y" (defArgs (topS 20)) (defBody (topS 20)) (defScope (topS 20)) .none kV13 dc13 pm13 an13 cd13 ct13), f_Form_is_conic := f14, d_Form_is_conic := (PySem.W.fnOf "is_conic" "Form.is_conic" (defArgs (inClass (topS 13) 4)) (defBody (inClass (topS 13) 4)) (defScope (inClass (topS 13) 4)) .none kV14 dc14 pm14 an14 cd14 ct14), f_turn_form := f15, d_turn_form := (PySem.W.fnOf "turn_form" "turn_form" (defArgs (topS 21)) (defBody (topS 21)) (defScope (topS 21)) .none kV15 dc15 pm15 an15 cd15 ct15), f_law_moved := f16, d_law_moved := (PySem.W.fnOf "_law_moved" "_law_moved" (defArgs (topS 33)) (defBody (topS 33)) (defScope (topS 33)) .none kV16 dc16 pm16 an16 cd16 ct16), f_law_same := f17, d_law_same := (PySem.W.fnOf "_law_same" "_law_same" (defArgs (topS 26)) (defBody (topS 26)) (defScope (topS 26)) .none kV17 dc17 pm17 an17 cd17 ct17), f_law_divisor := f18, d_law_divisor := (PySem.W.fnOf "_law_divisor" "_law_divisor" (defArgs (topS 28)) (defBody (topS 28)) (defScope (topS 28)) .none kV18 dc18 pm18 an18 cd18 ct18), f_law_plain_numbers := f19, d_law_plain_numbers := (PySem.W.fnOf "_law_plain_numbers" "_law_plain_numbers" (defArgs (topS 34)) (defBody (topS 34)) (defScope (topS 34)) .none kV19 dc19 pm19 an19 cd19 ct19), f_law_points := f20, d_law_points := (PySem.W.fnOf "_law_points" "_law_points" (defArgs (topS 35)) (defBody (topS 35)) (defScope (topS 35)) .none kV20 dc20 pm20 an20 cd20 ct20), f_law_led := f21, d_law_led := (PySem.W.fnOf "_law_led" "_law_led" (defArgs (topS 32)) (defBody (topS 32)) (defScope (topS 32)) .none kV21 dc21 pm21 an21 cd21 ct21), f_law_value := f22, d_law_value := (PySem.W.fnOf "_law_value" "_law_value" (defArgs (topS 30)) (defBody (topS 30)) (defScope (topS 30)) .none kV22 dc22 pm22 an22 cd22 ct22), f_law_multiple := f23, d_law_multiple := (PySem.W.fnOf "_law_multiple" "_law_multiple" (defArgs (topS 36)) (defBody (topS 36)) (defScope (topS 36)) .none kV23 dc23 pm23 an23 cd23 ct23), f_law_plain := f24, d_law_plain := (PySem.W.fnOf "_law_plain" "_law_plain" (defArgs (topS 29)) (defBody (topS 29)) (defScope (topS 29)) .none kV24 dc24 pm24 an24 cd24 ct24), f_law_move_right := f25, d_law_move_right := (PySem.W.fnOf "_law_move_right" "_law_move_right" (defArgs (topS 37)) (defBody (topS 37)) (defScope (topS 37)) .none kV25 dc25 pm25 an25 cd25 ct25), f_law := f26, d_law := (PySem.W.fnOf "law" "law" (defArgs (topS 38)) (defBody (topS 38)) (defScope (topS 38)) .none kV26 dc26 pm26 an26 cd26 ct26), f_BadSizeszz_initzz := f27, d_BadSizeszz_initzz := (PySem.W.fnOf "__init__" "BadSizes.__init__" (defArgs (inClass (topS 5) 0)) (defBody (inClass (topS 5) 0)) (defScope (inClass (topS 5) 0)) .none kV27 dc27 pm27 an27 cd27 ct27), f_BadStepzz_initzz := f28, d_BadStepzz_initzz := (PySem.W.fnOf "__init__" "BadStep.__init__" (defArgs (inClass (topS 6) 0)) (defBody (inClass (topS 6) 0)) (defScope (inClass (topS 6) 0)) .none kV28 dc28 pm28 an28 cd28 ct28), f_TooCurvedzz_initzz := f29, d_TooCurvedzz_initzz := (PySem.W.fnOf "__init__" "TooCurved.__init__" (defArgs (inClass (topS 7) 0)) (defBody (inClass (topS 7) 0)) (defScope (inClass (topS 7) 0)) .none kV29 dc29 pm29 an29 cd29 ct29), c_0 := C0, c_1 := C1, c_2 := C2, c_3 := C3, c_4 := C4, q_Form_is_conic := q14 }
  have T : Tx K mg A := {
    F_law_pool := funx_mk l0 c0,
    k_law_pool := k0,
    b_law_pool := .all fun us hl => match us, hl with | [_], _ => rfl,
    g_law_pool := PySem.W.mg_of X G a0,
    F_law_take := funx_mk l1 c1,
    k_law_take := k1,
    b_law_take := .all fun us hl => match us, hl with | [_, _], _ => rfl,
    g_law_take := PySem.W.mg_of X G a1,
    F_law_near := funx_mk l2 c2,
    k_law_near := k2,
    b_law_near := .all fun us hl => match us, hl with | [_, _], _ => rfl,
    g_law_near := PySem.W.mg_of X G a2,
    F_law_numbers := funx_mk l3 c3,
    k_law_numbers := k3,
    b_law_numbers := .all fun us hl => match us, hl with | [_], _ => rfl,
    g_law_numbers := PySem.W.mg_of X G a3,
    F_law_low := funx_mk l4 c4,
    k_law_low := k4,
    b_law_low := .all fun us hl => match us, hl with | [_, _], _ => rfl,
    g_law_low := PySem.W.mg_of X G a4,
    F_Formzz_initzz := funx_mk l5 c5,
    k_Formzz_initzz := k5,
    b_Formzz_initzz := .all fun us hl => match us, hl with | [_, _], _ => rfl,
    F_negative := funx_mk l6 c6,
    k_negative := k6,
    b_negative := .all fun us hl => match us, hl with | [_], _ => rfl,
    g_negative := PySem.W.mg_of X G a6,
    F_bottoms_at := funx_mk l7 c7,
    k_bottoms_at := k7,
    b_bottoms_at := .all fun us hl => match us, hl with | [_, _], _ => rfl,
    g_bottoms_at := PySem.W.mg_of X G a7,
    F_Form_plain := funx_mk l8 c8,
    k_Form_plain := k8,
    b_Form_plain := .all fun us hl => match us, hl with | [_], _ => rfl,
    m_Form_plain := ⟨a8, i8, k8⟩,
    F_tops_at := funx_mk l9 c9,
    k_tops_at := k9,
    b_tops_at := .all fun us hl => match us, hl with | [_, _, _], _ => rfl,
    g_tops_at := PySem.W.mg_of X G a9,
    F_shift_form := funx_mk l10 c10,
    k_shift_form := k10,
    b_shift_form := .all fun us hl => match us, hl with | [_, _, _], _ => rfl,
    g_shift_form := PySem.W.mg_of X G a10,
    F_scale_form := funx_mk l11 c11,
    k_scale_form := k11,
    b_scale_form := .all fun us hl => match us, hl with | [_, _, _], _ => rfl,
    g_scale_form := PySem.W.mg_of X G a11,
    F_mirror_form_x := funx_mk l12 c12,
    k_mirror_form_x := k12,
    b_mirror_form_x := .all fun us hl => match us, hl with | [_], _ => rfl,
    g_mirror_form_x := PySem.W.mg_of X G a12,
    F_mirror_form_y := funx_mk l13 c13,
    k_mirror_form_y := k13,
    b_mirror_form_y := .all fun us hl => match us, hl with | [_], _ => rfl,
    g_mirror_form_y := PySem.W.mg_of X G a13,
    F_Form_is_conic := funx_mk l14 c14,
    k_Form_is_conic := k14,
    b_Form_is_conic := .all fun us hl => match us, hl with | [_], _ => rfl,
    p_Form_is_conic := ⟨a14, pa14, pb14, _, pc14⟩,
    F_turn_form := funx_mk l15 c15,
    k_turn_form := k15,
    b_turn_form := .all fun us hl => match us, hl with | [_], _ => rfl,
    g_turn_form := PySem.W.mg_of X G a15,
    F_law_moved := funx_mk l16 c16,
    k_law_moved := k16,
    b_law_moved := .all fun us hl => match us, hl with | [_, _, _, _], _ => rfl,
    g_law_moved := PySem.W.mg_of X G a16,
    F_law_same := funx_mk l17 c17,
    k_law_same := k17,
    b_law_same := .all fun us hl => match us, hl with | [_, _], _ => rfl,
    g_law_same := PySem.W.mg_of X G a17,
    F_law_divisor := funx_mk l18 c18,
    k_law_divisor := k18,
    b_law_divisor := .all fun us hl => match us, hl with | [_], _ => rfl,
    g_law_divisor := PySem.W.mg_of X G a18,
    F_law_plain_numbers := funx_mk l19 c19,
    k_law_plain_numbers := k19,
    b_law_plain_numbers := .all fun us hl => match us, hl with | [_], _ => rfl,
    g_law_plain_numbers := PySem.W.mg_of X G a19,
    F_law_points := funx_mk l20 c20,
    k_law_points := k20,
    b_law_points := .all fun us hl => match us, hl with | [_], _ => rfl,
    g_law_points := PySem.W.mg_of X G a20,
    F_law_led := funx_mk l21 c21,
    k_law_led := k21,
    b_law_led := .all fun us hl => match us, hl with | [_, _, _, _], _ => rfl,
    g_law_led := PySem.W.mg_of X G a21,
    F_law_value := funx_mk l22 c22,
    k_law_value := k22,
    b_law_value := .all fun us hl => match us, hl with | [_, _, _], _ => rfl,
    g_law_value := PySem.W.mg_of X G a22,
    F_law_multiple := funx_mk l23 c23,
    k_law_multiple := k23,
    b_law_multiple := .all fun us hl => match us, hl with | [_, _, _], _ => rfl,
    g_law_multiple := PySem.W.mg_of X G a23,
    F_law_plain := funx_mk l24 c24,
    k_law_plain := k24,
    b_law_plain := .all fun us hl => match us, hl with | [_], _ => rfl,
    g_law_plain := PySem.W.mg_of X G a24,
    F_law_move_right := funx_mk l25 c25,
    k_law_move_right := k25,
    b_law_move_right := .all fun us hl => match us, hl with | [_, _, _, _, _], _ => rfl,
    g_law_move_right := PySem.W.mg_of X G a25,
    F_law := funx_mk l26 c26,
    k_law := k26,
    b_law := .all fun us hl => match us, hl with | [_], _ => rfl,
    F_BadSizeszz_initzz := funx_mk l27 c27,
    k_BadSizeszz_initzz := k27,
    b_BadSizeszz_initzz := .all fun us hl => match us, hl with | [_, _, _], _ => rfl,
    F_BadStepzz_initzz := funx_mk l28 c28,
    k_BadStepzz_initzz := k28,
    b_BadStepzz_initzz := .all fun us hl => match us, hl with | [_, _], _ => rfl,
    F_TooCurvedzz_initzz := funx_mk l29 c29,
    k_TooCurvedzz_initzz := k29,
    b_TooCurvedzz_initzz := .all fun us hl => match us, hl with | [_, _], _ => rfl,
    gc_0 := PySem.W.mg_of X G aC0,
    I_0 := ⟨⟨pg0, hd0, po0, sa0⟩, ha0, cn, ct, hm0⟩,
    C_0 := ⟨⟨pg0, hd0, po0, sa0⟩, (by show (["numbers"] : List Str).Nodup; decide +kernel), (fun n hn => (List.mem_cons.mp hn).elim (fun e => e ▸ n0_0) fun hn1 => (by cases hn1)), (by show (["numbers"] : List Str).length < 1000; decide)⟩,
    M_0 := ⟨mk0, a5, i5, kc0⟩,
    gc_1 := PySem.W.mg_of X G aC1,
    O_1 := ⟨excOb_cls xo1 xb1, sa1, sB1, tT1, kC1⟩,
    ix_1 := a27,
    ti_1 := ti27,
    nx_1_0 := n1_0,
    nx_1_1 := n1_1,
    gc_2 := PySem.W.mg_of X G aC2,
    O_2 := ⟨excOb_cls xo2 xb2, sa2, sB2, tT2, kC2⟩,
    ix_2 := a28,
    ti_2 := ti28,
    nx_2_0 := n2_0,
    ex_2 := PySem.W.exm_ref sB2 hd2 tT2 ss2,
    X_2 := ⟨ga2, gg2, sB2, hd2⟩,
    E_2 := ⟨ga2, gg2, sB2, hd2, ha2, cn, ct, hm2⟩,
    gc_3 := PySem.W.mg_of X G aC3,
    O_3 := ⟨excOb_cls xo3 xb3, sa3, sB3, tT3, kC3⟩,
    ix_3 := a29,
    ti_3 := ti29,
    nx_3_0 := n3_0,
    ex_3 := PySem.W.exm_ref sB3 hd3 tT3 ss3,
    X_3 := ⟨ga3, gg3, sB3, hd3⟩,
    E_3 := ⟨ga3, gg3, sB3, hd3, ha3, cn, ct, hm3⟩,
    gc_4 := PySem.W.mg_of X G aC4,
    ey_3_2 := PySem.W.exm_ref sB2 hd2 tT2 sf3_2,
    kt_2_4 := kt2_4,
    kt_2_ValueError := kt2_ValueError,
    kt_2_3 := kt2_3,
    kt_3_4 := kt3_4,
    kt_3_ValueError := kt3_ValueError,
    kt_3_2 := kt3_2,
    z_int := PySem.W.mg_none_of X G z0,
    z_abs := PySem.W.mg_none_of X G z1,
    z_len := PySem.W.mg_none_of X G z2,
    z_range := PySem.W.mg_none_of X G z3,
    z_tuple := PySem.W.mg_none_of X G z4,
    z_zip := PySem.W.mg_none_of X G z5,
    z_isinstance := PySem.W.mg_none_of X G z6,
    z_ValueError := PySem.W.mg_none_of X G z7,
    z_repr := PySem.W.mg_none_of X G z8,
    z_bool := PySem.W.mg_none_of X G z9,
    z_max := PySem.W.mg_none_of X G z10,
    z_list := PySem.W.mg_none_of X G z11,
    g_gcd := PySem.W.mg_of X G zg }
  exact ⟨(PySem.W.fnOf "law" "law" (defArgs (topS 38)) (defBody (topS 38)) (defScope (topS 38)) .none kV26 dc26 pm26 an26 cd26 ct26), WK K A (fun _ _ => False) (fun _ _ _ _ h => h), fun s v => .of_eq rfl, rfl, fun base _ _ => ok_law T⟩
end K06

set_option exponentiation.threshold 4000
namespace K06
open PySem L2 Px
structure Fm where
  (c0 c1 c2 c3 c4 e b a : Int)
def Fm.l (f : Fm) : List D := [.int f.c0, .int f.c1, .int f.c2, .int f.c3, .int f.c4, .int f.e, .int f.b, .int f.a]
def Fm.i (f : Fm) : List Int := [f.c0, f.c1, f.c2, f.c3, f.c4, f.e, f.b, f.a]
def frm (f : Fm) : D := .ins 0 [.tup f.l]
def fr (n d : Int) : D := .tup [.int n, .int d]
structure Fb (n : Nat) (f : Fm) : Prop where
  h0 : Bd n f.c0
  h1 : Bd n f.c1
  h2 : Bd n f.c2
  h3 : Bd n f.c3
  h4 : Bd n f.c4
  h5 : Bd n f.e
  h6 : Bd n f.b
  h7 : Bd n f.a
theorem Fb.up {n m : Nat} {f : Fm} (h : Fb n f) (q : n ≤ m) : Fb m f := ⟨h.h0.up q, h.h1.up q, h.h2.up q, h.h3.up q, h.h4.up q, h.h5.up q, h.h6.up q, h.h7.up q⟩
/-- the numbers at (n / d, m / g) -/
def Tp (f : Fm) (n d m g : Int) : Fm :=
  ⟨(f.c0 * d ^ 4 + n * (f.c1 * d ^ 3 + n * (f.c2 * d ^ 2 + n * (f.c3 * d + n * f.c4)))) * g ^ 2 + m * (g * (f.e * d + f.b * n) + f.a * m * d) * d ^ 3,
   (f.c1 * d ^ 3 + 2 * f.c2 * n * d ^ 2 + 3 * f.c3 * n ^ 2 * d + 4 * f.c4 * n ^ 3) * g + f.b * m * d ^ 3, f.c2 * d ^ 2 + 3 * f.c3 * n * d + 6 * f.c4 * n ^ 2, f.c3 * d + 4 * f.c4 * n, f.c4, g * (f.e * d + f.b * n) + 2 * f.a * m * d, f.b, f.a⟩
section
variable {f : Fm} {n d m g : Int}
theorem tops_at_ok (ρ : Hs) (hb : Fb 3000 f) (h1 : Bd 200 n) (h2 : Bd 64 d) (h3 : Bd 200 m) (h4 : Bd 64 g) : F_tops_at [.d (frm f), .d (fr n d), .d (fr m g)] ρ = .ok (.d (.lst (Tp f n d m g).l)) ρ := by
  obtain ⟨b0, b1, b2, b3, b4, b5, b6, b7⟩ := hb
  unfold F_tops_at L_tops_at_2 L_tops_at_1 fr frm
  simp [x_fun, Fm.l, Px.cutD, HT.sIx, loop_cons, sz_e, ups_s, ups, downs, downs_s, snoc_take]
  refine ⟨?_, ?_, ?_, ?_, ?_, ?_, ?_, ?_⟩ <;> simp only [Tp] <;> grind
theorem init_ok (ρ : Hs) : F_Formzz_initzz [.own ρ.length, .d (.lst f.l)] (ρ ++ [.ins 0 []]) = .ok (.d .non) (ρ ++ [.ins 0 [.d (.tup f.l)]]) := by
  unfold F_Formzz_initzz
  simp [x_fun, Fm.l]
theorem init_t (ρ : Hs) : F_Formzz_initzz [.own ρ.length, .d (.tup f.l)] (ρ ++ [.ins 0 []]) = .ok (.d .non) (ρ ++ [.ins 0 [.d (.tup f.l)]]) := by
  unfold F_Formzz_initzz
  simp [x_fun, Fm.l]
/-! ### what all numbers have in common -/
def gc (f : Fm) : Nat := Nat.gcd (Nat.gcd (Nat.gcd (Nat.gcd (Nat.gcd (Nat.gcd (Nat.gcd (Nat.gcd 0 f.c0.natAbs) f.c1.natAbs) f.c2.natAbs) f.c3.natAbs) f.c4.natAbs) f.e.natAbs) f.b.natAbs) f.a.natAbs
def dv (f : Fm) (k : Int) : Fm := ⟨f.c0.fdiv k, f.c1.fdiv k, f.c2.fdiv k, f.c3.fdiv k, f.c4.fdiv k, f.e.fdiv k, f.b.fdiv k, f.a.fdiv k⟩
def pl (f : Fm) : Fm := if gc f = 0 then f else dv f (gc f)
end
end K06

set_option exponentiation.threshold 4000
namespace K06
open PySem L2 Px
/-! ### plain forms -/
def gcL : Nat → List Int → Nat
  | a, [] => a
  | a, x :: xs => gcL (Nat.gcd a x.natAbs) xs
theorem gc_e (f : Fm) : gc f = gcL 0 f.i := rfl
theorem gcL_mul (k : Nat) : ∀ (xs : List Int) (a : Nat), gcL (k * a) (xs.map fun x => (k : Int) * x) = k * gcL a xs
  | [], a => rfl
  | x :: xs, a => by
    show gcL (Nat.gcd (k * a) ((k : Int) * x).natAbs) _ = k * gcL (Nat.gcd a x.natAbs) xs
    rw [Int.natAbs_mul, Int.natAbs_natCast, Nat.gcd_mul_left]
    exact gcL_mul k xs _
theorem gcL_dvd : ∀ (xs : List Int) (a : Nat), gcL a xs ∣ a ∧ ∀ x ∈ xs, gcL a xs ∣ x.natAbs
  | [], a => ⟨Nat.dvd_refl _, fun x h => by cases h⟩
  | x :: xs, a => by
    obtain ⟨h1, h2⟩ := gcL_dvd xs (Nat.gcd a x.natAbs)
    refine ⟨Nat.dvd_trans h1 (Nat.gcd_dvd_left ..), fun y hy => ?_⟩
    rcases List.mem_cons.mp hy with rfl | hy
    · exact Nat.dvd_trans h1 (Nat.gcd_dvd_right ..)
    · exact h2 y hy
def sm (k : Int) (f : Fm) : Fm := ⟨k * f.c0, k * f.c1, k * f.c2, k * f.c3, k * f.c4, k * f.e, k * f.b, k * f.a⟩
theorem gc_sm (k : Nat) (f : Fm) : gc (sm k f) = k * gc f := by
  rw [gc_e, gc_e]
  have := gcL_mul k f.i 0
  rw [Nat.mul_zero] at this
  exact this
theorem gc_dv (f : Fm) : ∃ u : Fm, f = sm (gc f) u := by
  obtain ⟨_, h⟩ := gcL_dvd f.i 0
  rw [← gc_e] at h
  have q : ∀ x ∈ f.i, ∃ u, x = (gc f : Int) * u := fun x hx => Int.ofNat_dvd_left.mpr (h x hx)
  obtain ⟨u0, e0⟩ := q f.c0 (by simp [Fm.i])
  obtain ⟨u1, e1⟩ := q f.c1 (by simp [Fm.i])
  obtain ⟨u2, e2⟩ := q f.c2 (by simp [Fm.i])
  obtain ⟨u3, e3⟩ := q f.c3 (by simp [Fm.i])
  obtain ⟨u4, e4⟩ := q f.c4 (by simp [Fm.i])
  obtain ⟨u5, e5⟩ := q f.e (by simp [Fm.i])
  obtain ⟨u6, e6⟩ := q f.b (by simp [Fm.i])
  obtain ⟨u7, e7⟩ := q f.a (by simp [Fm.i])
  refine ⟨⟨u0, u1, u2, u3, u4, u5, u6, u7⟩, ?_⟩
  generalize gc f = G at *
  obtain ⟨c0, c1, c2, c3, c4, e, b, a⟩ := f
  simp only at e0 e1 e2 e3 e4 e5 e6 e7
  simp only [sm, e0, e1, e2, e3, e4, e5, e6, e7]
theorem dv_sm (k : Int) (hk : k ≠ 0) (u : Fm) : dv (sm k u) k = u := by
  simp only [dv, sm, Int.mul_fdiv_cancel_left _ hk]
theorem sm_inj {k : Int} (hk : k ≠ 0) {u v : Fm} (h : sm k u = sm k v) : u = v := by rw [← dv_sm k hk u, h, dv_sm k hk v]
theorem sm_sm (k l : Int) (u : Fm) : sm k (sm l u) = sm (k * l) u := by simp only [sm, Int.mul_assoc]
theorem sm_zero (u : Fm) : sm 0 u = ⟨0, 0, 0, 0, 0, 0, 0, 0⟩ := by simp only [sm, Int.zero_mul]
theorem sm_one (u : Fm) : sm 1 u = u := by simp only [sm, Int.one_mul]
/-- positive multiples of one form -/
def Ev (f g : Fm) : Prop := ∃ k l : Nat, 0 < k ∧ 0 < l ∧ sm k f = sm l g
theorem Ev.refl (f : Fm) : Ev f f := ⟨1, 1, by omega, by omega, rfl⟩
theorem Ev.symm {f g : Fm} (h : Ev f g) : Ev g f := by
  obtain ⟨k, l, h1, h2, h3⟩ := h
  exact ⟨l, k, h2, h1, h3.symm⟩
theorem Ev.trans {f g h : Fm} (a : Ev f g) (b : Ev g h) : Ev f h := by
  obtain ⟨k, l, h1, h2, h3⟩ := a
  obtain ⟨k', l', h4, h5, h6⟩ := b
  refine ⟨k' * k, l * l', Nat.mul_pos h4 h1, Nat.mul_pos h2 h5, ?_⟩
  rw [Int.natCast_mul, Int.natCast_mul, ← sm_sm, ← sm_sm, h3, ← h6, sm_sm, sm_sm, Int.mul_comm]
theorem pl_ev (f : Fm) : Ev (pl f) f := by
  unfold pl
  split
  · exact Ev.refl f
  · rename_i h
    obtain ⟨u, hu⟩ := gc_dv f
    refine ⟨gc f, 1, by omega, by omega, ?_⟩
    rw [show ((1 : Nat) : Int) = 1 from rfl, sm_one]
    have : dv f (gc f) = u := by
      rw [show dv f (gc f) = dv (sm (gc f) u) (gc f) from congrArg (fun z => dv z _) hu]
      exact dv_sm _ (by omega) u
    rw [this]
    exact hu.symm
theorem pl_eq {f g : Fm} (h : Ev f g) : pl f = pl g := by
  obtain ⟨k, l, h1, h2, h3⟩ := h
  have e : k * gc f = l * gc g := by rw [← gc_sm, ← gc_sm, h3]
  obtain ⟨u, hu⟩ := gc_dv f
  obtain ⟨v, hv⟩ := gc_dv g
  unfold pl
  by_cases hf : gc f = 0
  · have hg : gc g = 0 := by
      rw [hf, Nat.mul_zero] at e
      rcases Nat.mul_eq_zero.mp e.symm with z | z
      · omega
      · exact z
    rw [if_pos hf, if_pos hg]
    rw [hf] at hu
    rw [hg] at hv
    rw [hu, hv, Int.natCast_zero, sm_zero, sm_zero]
  · have hg : gc g ≠ 0 := fun z => by
      rw [z, Nat.mul_zero] at e
      rcases Nat.mul_eq_zero.mp e with q | q
      · omega
      · exact hf q
    rw [if_neg hf, if_neg hg]
    have e1 : dv f (gc f) = u := by
      rw [show dv f (gc f) = dv (sm (gc f) u) (gc f) from congrArg (fun z => dv z _) hu]
      exact dv_sm _ (by omega) u
    have e2 : dv g (gc g) = v := by
      rw [show dv g (gc g) = dv (sm (gc g) v) (gc g) from congrArg (fun z => dv z _) hv]
      exact dv_sm _ (by omega) v
    rw [e1, e2]
    have : sm ((k * gc f : Nat) : Int) u = sm ((k * gc f : Nat) : Int) v := by
      rw [show sm ((k * gc f : Nat) : Int) v = sm ((l * gc g : Nat) : Int) v from by rw [e], Int.natCast_mul, Int.natCast_mul, ← sm_sm, ← sm_sm, ← hu, ← hv]
      exact h3
    exact sm_inj (by have := Nat.mul_pos h1 (Nat.pos_of_ne_zero hf); omega) this
theorem pl_pl (f : Fm) : pl (pl f) = pl f := pl_eq (pl_ev f)
theorem fdiv_bd {n : Nat} {x : Int} (G : Nat) (hG : G ≠ 0) (h : Bd n x) (hx : ∃ u, x = (G : Int) * u) : Bd n (x.fdiv G) := by
  obtain ⟨u, rfl⟩ := hx
  rw [Int.mul_fdiv_cancel_left _ (by omega)]
  refine ⟨Nat.lt_of_le_of_lt ?_ h.lt⟩
  rw [Int.natAbs_mul]
  exact Nat.le_mul_of_pos_left _ (by simp; omega)
theorem pl_fb {n : Nat} {f : Fm} (h : Fb n f) : Fb n (pl f) := by
  unfold pl
  split
  · exact h
  · rename_i hg
    obtain ⟨_, hd⟩ := gcL_dvd f.i 0
    rw [← gc_e] at hd
    have q : ∀ x ∈ f.i, ∃ u, x = (gc f : Int) * u := fun x hx => Int.ofNat_dvd_left.mpr (hd x hx)
    obtain ⟨b0, b1, b2, b3, b4, b5, b6, b7⟩ := h
    exact ⟨fdiv_bd _ hg b0 (q _ (by simp [Fm.i])), fdiv_bd _ hg b1 (q _ (by simp [Fm.i])), fdiv_bd _ hg b2 (q _ (by simp [Fm.i])), fdiv_bd _ hg b3 (q _ (by simp [Fm.i])), fdiv_bd _ hg b4 (q _ (by simp [Fm.i])), fdiv_bd _ hg b5 (q _ (by simp [Fm.i])), fdiv_bd _ hg b6 (q _ (by simp [Fm.i])), fdiv_bd _ hg b7 (q _ (by simp [Fm.i]))⟩
theorem gc_lt {n : Nat} {f : Fm} (h : Fb n f) : gc f < 2 ^ n := by
  obtain ⟨_, hd⟩ := gcL_dvd f.i 0
  rw [← gc_e] at hd
  have p : 0 < 2 ^ n := Nat.pow_pos (by decide)
  have k : ∀ x ∈ f.i, Bd n x → x.natAbs ≠ 0 → gc f < 2 ^ n := fun x hx hb h0 => Nat.lt_of_le_of_lt (Nat.le_of_dvd (by omega) (hd x hx)) hb.lt
  by_cases z : gc f = 0
  · omega
  · by_cases c0 : f.c0 = 0 ∧ f.c1 = 0 ∧ f.c2 = 0 ∧ f.c3 = 0 ∧ f.c4 = 0 ∧ f.e = 0 ∧ f.b = 0 ∧ f.a = 0
    · obtain ⟨z0, z1, z2, z3, z4, z5, z6, z7⟩ := c0
      exact absurd (by unfold gc; rw [z0, z1, z2, z3, z4, z5, z6, z7]; rfl) z
    · by_cases q : f.c0 = 0
      · by_cases q1 : f.c1 = 0
        · by_cases q2 : f.c2 = 0
          · by_cases q3 : f.c3 = 0
            · by_cases q4 : f.c4 = 0
              · by_cases q5 : f.e = 0
                · by_cases q6 : f.b = 0
                  · exact k f.a (by simp [Fm.i]) h.h7 (fun w => c0 ⟨q, q1, q2, q3, q4, q5, q6, by omega⟩)
                  · exact k f.b (by simp [Fm.i]) h.h6 (by omega)
                · exact k f.e (by simp [Fm.i]) h.h5 (by omega)
              · exact k f.c4 (by simp [Fm.i]) h.h4 (by omega)
            · exact k f.c3 (by simp [Fm.i]) h.h3 (by omega)
          · exact k f.c2 (by simp [Fm.i]) h.h2 (by omega)
        · exact k f.c1 (by simp [Fm.i]) h.h1 (by omega)
      · exact k f.c0 (by simp [Fm.i]) h.h0 (by omega)
theorem plain_ok (ρ : Hs) (f : Fm) (h : Fb 3800 f) : F_Form_plain [.d (frm f)] ρ = .ok (.d (frm (pl f))) ρ := by
  have gl := gc_lt h
  have bg : Bd 3800 ((gc f : Nat) : Int) := ⟨by simpa using gl⟩
  have i1 := init_t (f := f) ρ
  have i2 := init_ok (f := dv f (gc f)) ρ
  have el : sLoop (gSet 2) L_Form_plain_1 f.l [some (.d (frm f)), some (.d (.int 0)), none] ρ = .nx [some (.d (frm f)), some (.d (.int (gc f : Nat))), some (.d (.int f.a))] ρ := by
    unfold L_Form_plain_1 kGcd
    simp [Fm.l, loop_cons, gc]
  unfold pl
  by_cases z : gc f = 0
  · rw [if_pos z]
    rw [z] at el
    unfold F_Form_plain
    unfold frm at *
    simp at el
    simp [x_fun, el, i1]
  · rw [if_neg z]
    have z' : ¬ ((gc f : Nat) : Int) = 0 := by omega
    generalize hG : ((gc f : Nat) : Int) = G at *
    unfold F_Form_plain C_Form_plain_1
    unfold frm at *
    unfold dv at *
    simp only [Fm.l] at *
    simp [x_fun, el, i2, z', cl_cons, sz_e]
end K06

set_option exponentiation.threshold 4000
namespace K06
open PySem L2 Px
@[simp] theorem x_cset2 {i j : Nat} {a b : D} {δ : Sto} : cSet2 i j (.tup [a, b]) δ = some ((δ.set i (some (.d a))).set j (some (.d b))) := rfl
def Sh (f : Fm) (n d m g : Int) : Fm :=
  ⟨(Tp f n d m g).c0, (Tp f n d m g).c1 * (d * g), (Tp f n d m g).c2 * (d ^ 2 * g ^ 2), (Tp f n d m g).c3 * (d ^ 3 * g ^ 2), (Tp f n d m g).c4 * (d ^ 4 * g ^ 2), (Tp f n d m g).e * (d ^ 3 * g), (Tp f n d m g).b * (d ^ 4 * g ^ 2), (Tp f n d m g).a * (d ^ 4 * g ^ 2)⟩
def Sc (f : Fm) (n d m g : Int) : Fm :=
  ⟨f.c0 * n ^ 4 * m ^ 2, f.c1 * d * n ^ 3 * m ^ 2, f.c2 * d ^ 2 * n ^ 2 * m ^ 2, f.c3 * d ^ 3 * n * m ^ 2, f.c4 * d ^ 4 * m ^ 2, f.e * g * m * n ^ 4, f.b * d * g * n ^ 3 * m, f.a * g ^ 2 * n ^ 4⟩
theorem fdq {x y : Int} (hx : x ≠ 0) : (x * y).fdiv x = y := Int.mul_fdiv_cancel_left _ hx
theorem tp_fb {f : Fm} {n d m g : Int} (h : Fb 1500 f) (h1 : Bd 70 n) (h2 : Bd 62 d) (h3 : Bd 70 m) (h4 : Bd 62 g) : Fb 2100 (Tp f n d m g) := by
  obtain ⟨b0, b1, b2, b3, b4, b5, b6, b7⟩ := h
  have b2' : Bd 3 (2 : Int) := ⟨by decide⟩
  constructor <;> (simp only [Tp]; exact Bd.up inferInstance (by decide))
section
variable {f : Fm} {n d m g : Int}
theorem shift_ok (ρ : Hs) (hb : Fb 3000 f) (hs : Fb 3800 (Sh f (-n) d (-m) g)) (h1 : Bd 70 n) (h2 : Bd 62 d) (h3 : Bd 70 m) (h4 : Bd 62 g) (hd : 0 < d) (hg : 0 < g) :
    F_shift_form [.d (frm f), .d (fr n d), .d (fr m g)] ρ = .ok (.d (frm (pl (Sh f (-n) d (-m) g)))) ρ := by
  have tk := tops_at_ok (f := f) (n := -n) (d := d) (m := -m) (g := g) ρ hb (Bd.up (i := -n) inferInstance (by decide)) (h2.up (by decide)) (Bd.up (i := -m) inferInstance (by decide)) (h4.up (by decide))
  have pk := plain_ok ρ _ hs
  have ik := init_ok (f := Sh f (-n) d (-m) g) ρ
  have d0 : d ≠ 0 := by omega
  have g0 : g ≠ 0 := by omega
  have q0 : (d ^ 4 * g ^ 2).fdiv (d ^ 4 * g ^ 2) = 1 := by
    have : d ^ 4 * g ^ 2 ≠ 0 := Int.mul_ne_zero (Int.pow_ne_zero d0) (Int.pow_ne_zero g0)
    rw [show (d ^ 4 * g ^ 2).fdiv (d ^ 4 * g ^ 2) = (d ^ 4 * g ^ 2 * 1).fdiv (d ^ 4 * g ^ 2) by rw [Int.mul_one], fdq this]
  have q1 : (d ^ 4 * g ^ 2).fdiv (d ^ 3 * g) = d * g := by
    have : d ^ 3 * g ≠ 0 := Int.mul_ne_zero (Int.pow_ne_zero d0) g0
    rw [show d ^ 4 * g ^ 2 = d ^ 3 * g * (d * g) by grind, fdq this]
  have q2 : (d ^ 4 * g ^ 2).fdiv (d ^ 2) = d ^ 2 * g ^ 2 := by
    have : d ^ 2 ≠ 0 := Int.pow_ne_zero d0
    rw [show d ^ 4 * g ^ 2 = d ^ 2 * (d ^ 2 * g ^ 2) by grind, fdq this]
  have q3 : (d ^ 4 * g ^ 2).fdiv d = d ^ 3 * g ^ 2 := by
    rw [show d ^ 4 * g ^ 2 = d * (d ^ 3 * g ^ 2) by grind, fdq d0]
  have q5 : (d ^ 4 * g ^ 2).fdiv (d * g) = d ^ 3 * g := by
    have : d * g ≠ 0 := Int.mul_ne_zero d0 g0
    rw [show d ^ 4 * g ^ 2 = d * g * (d ^ 3 * g) by grind, fdq this]
  have n2 : d ^ 2 ≠ 0 := Int.pow_ne_zero d0
  have n3 : d ^ 3 ≠ 0 := Int.pow_ne_zero d0
  have n4 : d ^ 4 ≠ 0 := Int.pow_ne_zero d0
  have m2 : g ^ 2 ≠ 0 := Int.pow_ne_zero g0
  have tb : Fb 3900 (Tp f (-n) d (-m) g) := by
    obtain ⟨b0, b1, b2, b3, b4, b5, b6, b7⟩ := hb
    have b2' : Bd 3 (2 : Int) := ⟨by decide⟩
    constructor <;> (simp only [Tp]; exact Bd.up inferInstance (by decide))
  obtain ⟨b0, b1, b2, b3, b4, b5, b6, b7⟩ := tb
  unfold Sh at pk ik ⊢
  generalize Tp f (-n) d (-m) g = T at *
  unfold F_shift_form C_shift_form_1 F_negative F_bottoms_at
  unfold frm fr at *
  generalize pl ⟨T.c0, T.c1 * (d * g), T.c2 * (d ^ 2 * g ^ 2), T.c3 * (d ^ 3 * g ^ 2), T.c4 * (d ^ 4 * g ^ 2), T.e * (d ^ 3 * g), T.b * (d ^ 4 * g ^ 2), T.a * (d ^ 4 * g ^ 2)⟩ = Z at *
  simp only [Fm.l] at *
  simp [x_fun, sz_e, tk, cl_cons, q0, q1, q2, q3, q5, d0, g0, n2, n3, n4, m2, ik, pk]
theorem scale_ok (ρ : Hs) (hb : Fb 3300 f) (hs : Fb 3800 (Sc f n d m g)) (h1 : Bd 62 n) (h2 : Bd 62 d) (h3 : Bd 62 m) (h4 : Bd 62 g) (hn : 0 < n) (hm : 0 < m) :
    F_scale_form [.d (frm f), .d (fr n d), .d (fr m g)] ρ = .ok (.d (frm (pl (Sc f n d m g)))) ρ := by
  have pk := plain_ok ρ _ hs
  have ik := init_ok (f := Sc f n d m g) ρ
  obtain ⟨b0, b1, b2, b3, b4, b5, b6, b7⟩ := hb
  have hn' : ¬ n ≤ 0 := by omega
  have hm' : ¬ m ≤ 0 := by omega
  unfold Sc at pk ik ⊢
  unfold F_scale_form
  unfold frm fr at *
  generalize pl _ = Z at *
  simp only [Fm.l] at *
  simp [x_fun, sz_e, hn', hm', ik, pk]
end
end K06

set_option exponentiation.threshold 4000
namespace K06
open PySem L2 Px

/-! ### what all numbers have in common, by the law's own loop -/
theorem dv_stop (ρ : Hs) (x0 x2 x4 : Option SV) (A : Int) (n : Nat) : sWh (bOf (e2 fNe (eVar 3) (eC (.int 0)))) L_law_divisor_1 (n + 1) [x0, some (.d (.int A)), x2, some (.d (.int 0)), x4] ρ = .nx [x0, some (.d (.int A)), x2, some (.d (.int 0)), x4] ρ := by
  rw [x_wh]
  simp
theorem dv_step (ρ : Hs) (x0 x2 x4 : Option SV) (A B : Int) (hB : B ≠ 0) (n : Nat) : sWh (bOf (e2 fNe (eVar 3) (eC (.int 0)))) L_law_divisor_1 (n + 1) [x0, some (.d (.int A)), x2, some (.d (.int B)), x4] ρ =
    sWh (bOf (e2 fNe (eVar 3) (eC (.int 0)))) L_law_divisor_1 n [x0, some (.d (.int B)), x2, some (.d (.int (A.fmod B))), some (.d (.int (A.fmod B)))] ρ := by
  have e : L_law_divisor_1 [x0, some (.d (.int A)), x2, some (.d (.int B)), x4] ρ = .nx [x0, some (.d (.int B)), x2, some (.d (.int (A.fmod B))), some (.d (.int (A.fmod B)))] ρ := by
    unfold L_law_divisor_1
    simp [hB]
  rw [x_wh]
  simp [hB, e]
theorem dv_loop (ρ : Hs) (x0 x2 : Option SV) : ∀ (k a b fuel : Nat) (x4 : Option SV), b < 2 ^ k → 2 * k + 1 ≤ fuel →
    ∃ x4', sWh (bOf (e2 fNe (eVar 3) (eC (.int 0)))) L_law_divisor_1 fuel [x0, some (.d (.int (a : Int))), x2, some (.d (.int (b : Int))), x4] ρ = .nx [x0, some (.d (.int (Nat.gcd a b : Nat))), x2, some (.d (.int 0)), x4'] ρ
  | 0, a, b, fuel, x4, hb, hf => by
    obtain ⟨m, rfl⟩ : ∃ m, fuel = m + 1 := ⟨fuel - 1, by omega⟩
    have : b = 0 := by simpa using hb
    subst this
    refine ⟨x4, ?_⟩
    rw [Nat.gcd_zero_right]
    exact dv_stop ρ x0 x2 x4 a m
  | k + 1, a, b, fuel, x4, hb, hf => by
    obtain ⟨m, rfl⟩ : ∃ m, fuel = m + 2 := ⟨fuel - 2, by omega⟩
    by_cases h0 : b = 0
    · subst h0
      refine ⟨x4, ?_⟩
      rw [Nat.gcd_zero_right]
      exact dv_stop ρ x0 x2 x4 a (m + 1)
    · have hb0 : (b : Int) ≠ 0 := by omega
      rw [dv_step ρ x0 x2 x4 a b hb0 (m + 1), fmod_nat]
      by_cases h1 : a % b = 0
      · obtain ⟨x4', ih⟩ := dv_loop ρ x0 x2 k b 0 (m + 1) (some (.d (.int ((0 : Nat) : Int)))) (Nat.pow_pos (by decide)) (by omega)
        refine ⟨x4', ?_⟩
        have g : Nat.gcd a b = Nat.gcd b 0 := by rw [Nat.gcd_comm a b, Nat.gcd_rec b a, h1, Nat.gcd_comm]
        rw [g, h1]
        exact ih
      · have hlt := Nat.mod_lt a (Nat.pos_of_ne_zero h0)
        have hh := mod_half (Nat.pos_of_ne_zero h1) hlt
        obtain ⟨x4', ih⟩ := dv_loop ρ x0 x2 k (a % b) (b % (a % b)) m (some (.d (.int ((b % (a % b) : Nat) : Int)))) (by rw [Nat.pow_succ] at hb; omega) (by omega)
        refine ⟨x4', ?_⟩
        have g : Nat.gcd a b = Nat.gcd (a % b) (b % (a % b)) := by rw [Nat.gcd_comm a b, Nat.gcd_rec b a, Nat.gcd_rec (a % b) b, Nat.gcd_comm]
        have h10 : ((a % b : Nat) : Int) ≠ 0 := by
          generalize a % b = r at *
          omega
        rw [dv_step ρ x0 x2 _ b ((a % b : Nat) : Int) h10 m, fmod_nat, g]
        exact ih
theorem dv_num (ρ : Hs) (x0 x3 x4 : Option SV) (a : Nat) (i : Int) (h : i.natAbs < 2 ^ 490) : ∃ x4', L_law_divisor_2 [x0, some (.d (.int (a : Int))), some (.d (.int i)), x3, x4] ρ = .nx [x0, some (.d (.int (Nat.gcd a i.natAbs : Nat))), some (.d (.int i)), some (.d (.int 0)), x4'] ρ := by
  obtain ⟨x4', e⟩ := dv_loop ρ x0 (some (.d (.int i))) 490 a i.natAbs 1000 x4 h (by omega)
  refine ⟨x4', ?_⟩
  unfold L_law_divisor_2
  simp [-fAbs_int, x_fun, show ∀ i : Int, fAbs (.int i) = some (.int (i.natAbs : Int)) from fun i => by rw [fAbs_int, abs_e], e]
theorem dv_all (ρ : Hs) (x0 : Option SV) : ∀ (l : List Int), (∀ i ∈ l, i.natAbs < 2 ^ 490) → ∀ (a : Nat) (x2 x3 x4 : Option SV),
    ∃ x2' x3' x4', sLoop (gSet 2) L_law_divisor_2 (l.map D.int) [x0, some (.d (.int (a : Int))), x2, x3, x4] ρ = .nx [x0, some (.d (.int (gcL a l : Nat))), x2', x3', x4'] ρ
  | [], _, a, x2, x3, x4 => ⟨x2, x3, x4, by simp [gcL]⟩
  | i :: l, h, a, x2, x3, x4 => by
    obtain ⟨y4, e⟩ := dv_num ρ x0 x3 x4 a i (h i (by simp))
    obtain ⟨z2, z3, z4, ih⟩ := dv_all ρ x0 l (fun j hj => h j (by simp [hj])) (Nat.gcd a i.natAbs) (some (.d (.int i))) (some (.d (.int 0))) y4
    refine ⟨z2, z3, z4, ?_⟩
    simp only [List.map_cons, loop_cons, x_gset, lpA_some, List.set_cons_succ, List.set_cons_zero]
    rw [e, lpB_nx, ih]
    rfl
theorem divisor_ok (ρ : Hs) (f : Fm) (h : Fb 480 f) : F_law_divisor [.d (.tup f.l)] ρ = .ok (.d (.int (gc f : Nat))) ρ := by
  have hl : f.l = f.i.map D.int := rfl
  obtain ⟨b0, b1, b2, b3, b4, b5, b6, b7⟩ := h
  obtain ⟨x2, x3, x4, e⟩ := dv_all ρ (some (.d (.tup f.l))) f.i (fun i hi => by
    have k : ∀ {j : Int}, Bd 480 j → j.natAbs < 2 ^ 490 := fun q => Nat.lt_of_lt_of_le q.lt (two_le (by decide))
    simp [Fm.i] at hi
    rcases hi with rfl | rfl | rfl | rfl | rfl | rfl | rfl | rfl <;> exact k (by assumption)) 0 none none none
  rw [← hl, ← gc_e] at e
  unfold F_law_divisor
  generalize gc f = G at *
  generalize f.l = l at *
  simp at e
  simp [x_fun, e]
theorem lplain_ok (ρ : Hs) (f : Fm) (h : Fb 480 f) : F_law_plain [.d (.tup f.l)] ρ = .ok (.d (.tup (pl f).l)) ρ := by
  have e := divisor_ok ρ f h
  have gl := gc_lt h
  have hn : f.l.length = 8 := rfl
  have cl : ∀ (G : Int), G ≠ 0 → Bd 480 G → ∀ x0 x2 : Option SV, cLoop (cSet 2) bYes C_law_plain_1 [x0, some (.d (.int G)), x2] f.l ρ [] = .ok (dv f G).l ρ := fun G hG hB x0 x2 => by
    obtain ⟨b0, b1, b2, b3, b4, b5, b6, b7⟩ := h
    unfold C_law_plain_1
    simp [x_fun, Fm.l, cl_cons, hG, dv, sz_e]
  unfold pl
  unfold F_law_plain kMax
  by_cases z : gc f = 0
  · rw [if_pos z]
    rw [z] at e
    have d1 : dv f 1 = f := by simp only [dv, Int.fdiv_one]
    have c := cl 1 (by decide) ⟨by decide⟩ (some (.d (.tup f.l))) none
    rw [d1] at c
    generalize f.l = l at *
    simp at e
    simp [x_fun, e, c, hn, sz_e]
  · rw [if_neg z]
    have c := cl (gc f : Nat) (by omega) ⟨by simpa using gl⟩ (some (.d (.tup f.l))) none
    have hm : (if ((gc f : Nat) : Int) > 1 then ((gc f : Nat) : Int) else 1) = ((gc f : Nat) : Int) := by split <;> omega
    have hm2 : (if 1 < ((gc f : Nat) : Int) then ((gc f : Nat) : Int) else 1) = ((gc f : Nat) : Int) := by split <;> omega
    have hn' : (dv f (gc f : Nat)).l.length = 8 := rfl
    generalize ((gc f : Nat) : Int) = G at *
    generalize (dv f G).l = m at *
    generalize f.l = l at *
    simp [x_fun, e, c, hm, hm2, hn, hn', sz_e]
theorem gc_pl (f : Fm) : gc (pl f) ≤ 1 := by
  unfold pl
  by_cases z : gc f = 0
  · rw [if_pos z]; omega
  · rw [if_neg z]
    obtain ⟨u, hu⟩ := gc_dv f
    have e1 : dv f (gc f) = u := by
      rw [show dv f (gc f) = dv (sm (gc f) u) (gc f) from congrArg (fun z => dv z _) hu]
      exact dv_sm _ (by omega) u
    rw [e1]
    have e2 : gc f * gc u = gc f := by rw [← gc_sm, ← hu]
    have : gc f * gc u = gc f * 1 := by omega
    have := Nat.eq_of_mul_eq_mul_left (by omega) this
    omega
theorem isi_int (i : Int) : fIsT "int" (.int i) = some (.bl true) := by
  show (kitB "int" "int").map D.bl = _
  rw [show kitB "int" "int" = some true by decide +kernel]
  rfl
theorem isb_int (i : Int) : fIsT "bool" (.int i) = some (.bl false) := by
  show (kitB "int" "bool").map D.bl = _
  rw [show kitB "int" "bool" = some false by decide +kernel]
  rfl
theorem ist_tup (l : List D) : fIsT "tuple" (.tup l) = some (.bl true) := by
  show (kitB "tuple" "tuple").map D.bl = _
  rw [show kitB "tuple" "tuple" = some true by decide +kernel]
  rfl
theorem plainn_ok (ρ : Hs) (f : Fm) (h : Fb 480 f) : F_law_plain_numbers [.d (frm (pl f))] ρ = .ok (.d (.bl true)) ρ := by
  have e := divisor_ok ρ (pl f) (pl_fb h)
  have g := gc_pl f
  have g' : ((gc (pl f) : Nat) : Int) ≤ 1 := by omega
  generalize pl f = k at *
  have el : ∀ x0 x1 : Option SV, ∃ y, sLoop (gSet 1) L_law_plain_numbers_1 k.l [x0, x1] ρ = .nx [x0, y] ρ := fun x0 x1 => by
    refine ⟨some (.d (.int k.a)), ?_⟩
    unfold L_law_plain_numbers_1
    simp [x_fun, Fm.l, loop_cons, isi_int, isb_int]
  obtain ⟨y, el⟩ := el (some (.d (frm k))) none
  have hl : k.l.length = 8 := rfl
  unfold F_law_plain_numbers frm at *
  generalize k.l = l at *
  simp [x_fun, fIsC, ist_tup, el, e, g', hl]
end K06

set_option exponentiation.threshold 4000
namespace K06
open PySem L2 Px
theorem sc_sc (f : Fm) (n d m g : Int) : Sc (Sc f n d m g) d n g m = sm (n ^ 4 * d ^ 4 * (m ^ 2 * g ^ 2)) f := by
  simp only [Sc, sm, Fm.mk.injEq]
  refine ⟨?_, ?_, ?_, ?_, ?_, ?_, ?_, ?_⟩ <;> grind
set_option maxHeartbeats 4000000 in
theorem sh_sh (f : Fm) (P Q R S : Int) : Sh (Sh f P Q R S) (-P) Q (-R) S = sm (Q ^ 8 * S ^ 4) f := by
  simp only [Sh, Tp, sm, Fm.mk.injEq]
  refine ⟨?_, ?_, ?_, ?_, ?_, ?_, ?_, ?_⟩ <;> grind
end K06
namespace K06
open PySem L2 Px
theorem tp_hom (f : Fm) (k l n d m g : Int) : Tp f (k * n) (k * d) (l * m) (l * g) =
    ⟨(Tp f n d m g).c0 * (k ^ 4 * l ^ 2), (Tp f n d m g).c1 * (k ^ 3 * l), (Tp f n d m g).c2 * k ^ 2, (Tp f n d m g).c3 * k, (Tp f n d m g).c4, (Tp f n d m g).e * (k * l), (Tp f n d m g).b, (Tp f n d m g).a⟩ := by
  simp only [Tp, Fm.mk.injEq]
  refine ⟨?_, ?_, ?_, ?_, ?_, ?_, ?_, ?_⟩ <;> grind
theorem sh_sm (k : Int) (f : Fm) (n d m g : Int) : Sh (sm k f) n d m g = sm k (Sh f n d m g) := by
  simp only [Sh, Tp, sm, Fm.mk.injEq]
  refine ⟨?_, ?_, ?_, ?_, ?_, ?_, ?_, ?_⟩ <;> grind
theorem sc_sm (k : Int) (f : Fm) (n d m g : Int) : Sc (sm k f) n d m g = sm k (Sc f n d m g) := by
  simp only [Sc, sm, Fm.mk.injEq]
  refine ⟨?_, ?_, ?_, ?_, ?_, ?_, ?_, ?_⟩ <;> grind
theorem tp_sm (k : Int) (f : Fm) (n d m g : Int) : Tp (sm k f) n d m g = sm k (Tp f n d m g) := by
  simp only [Tp, sm, Fm.mk.injEq]
  refine ⟨?_, ?_, ?_, ?_, ?_, ?_, ?_, ?_⟩ <;> grind
theorem ev_sh {f g : Fm} (h : Ev f g) (n d m e : Int) : Ev (Sh f n d m e) (Sh g n d m e) := by
  obtain ⟨k, l, h1, h2, h3⟩ := h
  exact ⟨k, l, h1, h2, by rw [← sh_sm, ← sh_sm, h3]⟩
theorem ev_sc {f g : Fm} (h : Ev f g) (n d m e : Int) : Ev (Sc f n d m e) (Sc g n d m e) := by
  obtain ⟨k, l, h1, h2, h3⟩ := h
  exact ⟨k, l, h1, h2, by rw [← sc_sm, ← sc_sm, h3]⟩
theorem ev_sm {k : Int} (h : 0 < k) (f : Fm) : Ev (sm k f) f := by
  obtain ⟨n, rfl⟩ : ∃ n : Nat, k = n := ⟨k.toNat, by omega⟩
  exact ⟨1, n, by omega, by omega, by rw [show ((1 : Nat) : Int) = 1 from rfl, sm_one]⟩
theorem low_bd {n m : Nat} {t b : Int} (hb : b ≠ 0) (h1 : Bd n t) (h2 : Bd m b) : Bd n (lowT t b) ∧ Bd m (lowB t b) := by
  obtain ⟨g, g0, e1, e2, e3, _⟩ := low_spec t b hb
  have gp : 1 ≤ g.natAbs := by omega
  refine ⟨⟨Nat.lt_of_le_of_lt ?_ h1.lt⟩, ⟨Nat.lt_of_le_of_lt ?_ h2.lt⟩⟩
  · have : t.natAbs = (lowT t b).natAbs * g.natAbs := by rw [← Int.natAbs_mul, ← e1]
    rw [this]
    exact Nat.le_mul_of_pos_right _ gp
  · have : b.natAbs = (lowB t b).natAbs * g.natAbs := by rw [← Int.natAbs_mul, ← e2]
    rw [this]
    exact Nat.le_mul_of_pos_right _ gp
theorem low_id {t b : Int} (hb : 0 < b) (h : Nat.gcd t.natAbs b.natAbs = 1) : lowD t b = fr t b := by
  unfold lowD lowT lowB fr
  rw [if_neg (by omega), if_neg (by omega), h]
  simp
theorem low_pos {t b : Int} (hb : 0 < b) : ∃ r : Int, 0 < r ∧ t = lowT t b * r ∧ b = lowB t b * r ∧ 0 < lowB t b := by
  obtain ⟨g, g0, e1, e2, e3, _⟩ := low_spec t b (by omega)
  refine ⟨g, ?_, e1, e2, e3⟩
  by_cases q : 0 < g
  · exact q
  · have : lowB t b * g ≤ 0 := Int.mul_nonpos_of_nonneg_of_nonpos (by omega) (by omega)
    omega
theorem low_le {n d N : Int} (hd : 0 < d) (h1 : -N ≤ n) (h2 : n ≤ N) : -N ≤ lowT n d ∧ lowT n d ≤ N ∧ 0 < lowB n d ∧ lowB n d ≤ d ∧ (0 < n → 0 < lowT n d) ∧ Nat.gcd (lowT n d).natAbs (lowB n d).natAbs = 1 := by
  obtain ⟨r, r0, e1, e2, e3⟩ := low_pos (t := n) hd
  obtain ⟨_, _, _, _, _, gc⟩ := low_spec n d (by omega)
  have a1 : (lowT n d).natAbs ≤ n.natAbs := by
    have : n.natAbs = (lowT n d).natAbs * r.natAbs := by rw [← Int.natAbs_mul, ← e1]
    rw [this]
    exact Nat.le_mul_of_pos_right _ (by omega)
  have a2 : lowB n d * 1 ≤ lowB n d * r := Int.mul_le_mul_of_nonneg_left (by omega) (by omega)
  refine ⟨by omega, by omega, e3, by omega, fun hn => ?_, gc⟩
  by_cases q : 0 < lowT n d
  · exact q
  · have := Int.mul_nonpos_of_nonpos_of_nonneg (show lowT n d ≤ 0 by omega) (show 0 ≤ r by omega)
    omega

theorem pw {x : Int} (h : 0 < x) (k : Nat) : 0 < x ^ k := Int.pow_pos h
def Mx (f : Fm) : Fm := ⟨f.c0, -f.c1, f.c2, -f.c3, f.c4, f.e, -f.b, f.a⟩
def My (f : Fm) : Fm := ⟨f.c0, f.c1, f.c2, f.c3, f.c4, -f.e, -f.b, f.a⟩
def Tn (f : Fm) : Fm := ⟨f.c0, -f.e, f.a, 0, 0, f.c1, -f.b, f.c2⟩
/-- the value's top -/
def vt (f : Fm) (p q r t : Int) : Int := (Tp f p q r t).c0
theorem vt_hom (f : Fm) (k l p q r t : Int) : vt f (k * p) (k * q) (l * r) (l * t) = vt f p q r t * (k ^ 4 * l ^ 2) := by
  unfold vt
  rw [tp_hom]
theorem vt_sm (k : Int) (f : Fm) (p q r t : Int) : vt (sm k f) p q r t = k * vt f p q r t := by
  unfold vt
  rw [tp_sm]
  rfl
set_option maxHeartbeats 4000000 in
theorem vt_sh (f : Fm) (n d m g p q r t : Int) : vt (Sh f (-n) d (-m) g) (p * d + n * q) (q * d) (r * g + m * t) (t * g) = vt f p q r t * (d ^ 8 * g ^ 4) := by
  simp only [vt, Sh, Tp]
  grind
set_option maxHeartbeats 4000000 in
theorem vt_sc (f : Fm) (n d m g p q r t : Int) : vt (Sc f n d m g) (p * n) (q * d) (r * m) (t * g) = vt f p q r t * (n ^ 4 * m ^ 2 * (d ^ 4 * g ^ 2)) := by
  simp only [vt, Sc, Tp]
  grind
theorem vt_mx (f : Fm) (p q r t : Int) : vt (Mx f) (-p) q r t = vt f p q r t := by
  simp only [vt, Mx, Tp]
  grind
theorem vt_my (f : Fm) (p q r t : Int) : vt (My f) p q (-r) t = vt f p q r t := by
  simp only [vt, My, Tp]
  grind
set_option maxHeartbeats 4000000 in
theorem vt_tn (f : Fm) (h3 : f.c3 = 0) (h4 : f.c4 = 0) (p q r t : Int) : vt (Tn f) (-r) t p q * (q ^ 4 * t ^ 2) = vt f p q r t * (t ^ 4 * q ^ 2) := by
  simp only [vt, Tn, Tp, h3, h4]
  grind
end K06

set_option exponentiation.threshold 4000
namespace K06
open PySem L2 Px
structure R4 where
  (p q r t : Int)
def ptD (x : R4) : D := .tup [fr x.p x.q, fr x.r x.t]
def prD (x : R4 × R4) : D := .tup [ptD x.1, ptD x.2]
structure RG (n : Nat) (x : R4) : Prop where
  bp : Bd n x.p
  bq : Bd n x.q
  br : Bd n x.r
  bt : Bd n x.t
  hq : 0 < x.q
  ht : 0 < x.t
def vx (f : Fm) (x : R4) : Int := vt f x.p x.q x.r x.t
def vb (x : R4) : Int := x.q ^ 4 * x.t ^ 2
theorem value_ok (ρ : Hs) (f : Fm) (x : R4) (hf : Fb 400 f) (g : RG 64 x) : F_law_value [.d (.tup f.l), .d (fr x.p x.q), .d (fr x.r x.t)] ρ = .ok (.d (fr (vx f x) (vb x))) ρ := by
  obtain ⟨b0, b1, b2, b3, b4, b5, b6, b7⟩ := hf
  obtain ⟨p, q, r, t⟩ := x
  obtain ⟨bp, bq, br, bt, hq, ht⟩ := g
  dsimp only at bp bq br bt hq ht
  have q0 : q ≠ 0 := by omega
  have e1 : (1 * q * q * q * q * q).fdiv q = q ^ 4 := by
    rw [show 1 * q * q * q * q * q = q * q ^ 4 by grind]
    exact fdq q0
  have e2 : (q ^ 4).fdiv q = q ^ 3 := by
    rw [show q ^ 4 = q * q ^ 3 by grind]
    exact fdq q0
  have e1' : (q * q * q * q * q).fdiv q = q ^ 4 := by
    rw [show q * q * q * q * q = q * q ^ 4 by grind]
    exact fdq q0
  unfold F_law_value L_law_value_1 fr
  simp [x_fun, Fm.l, sz_e, ups_s, ups, loop_cons, q0, e1, e1', e2]
  simp only [vx, vt, vb, Tp]
  grind
def anD : Option (Int × Int × Int × Int) → D
  | none => .non
  | some (h, H, w, W) => .tup [fr h H, fr w W]
structure Lk (K L h H w W : Int) : Prop where
  b1 : Bd 1000 h
  b2 : Bd 1000 H
  b3 : Bd 1000 w
  b4 : Bd 1000 W
  h1 : 0 < H
  h2 : 0 < W
  eq : K * w * H = L * h * W
def AG (K L : Int) (A : Option (Int × Int × Int × Int)) : Prop := ∀ h H w W, A = some (h, H, w, W) → h ≠ 0 ∧ Lk K L h H w W
section
variable {K L h H w W : Int} (hK : 0 < K) (hL : 0 < L)
include hK hL
theorem Lk.zero (l : Lk K L h H w W) : h = 0 ↔ w = 0 := by
  obtain ⟨_, _, _, _, h1, h2, eq⟩ := l
  constructor
  · intro z
    rw [z, Int.mul_zero, Int.zero_mul] at eq
    rcases Int.mul_eq_zero.mp eq with q | q
    · rcases Int.mul_eq_zero.mp q with q | q
      · omega
      · exact q
    · omega
  · intro z
    rw [z, Int.mul_zero, Int.zero_mul] at eq
    rcases Int.mul_eq_zero.mp eq.symm with q | q
    · rcases Int.mul_eq_zero.mp q with q | q
      · omega
      · exact q
    · omega
theorem Lk.pos (l : Lk K L h H w W) (z : h ≠ 0) : ¬ h * w ≤ 0 := by
  obtain ⟨_, _, _, _, h1, h2, eq⟩ := l
  intro q
  have a : h * w * (K * H) ≤ 0 := Int.mul_nonpos_of_nonpos_of_nonneg q (Int.le_of_lt (Int.mul_pos hK h1))
  have b : 0 < h * h := by
    rcases Int.lt_or_gt_of_ne z with c | c
    · exact Int.mul_pos_of_neg_of_neg c c
    · exact Int.mul_pos c c
  have c : 0 < h * h * (L * W) := Int.mul_pos b (Int.mul_pos hL h2)
  have d : h * w * (K * H) = h * h * (L * W) := by
    rw [show h * w * (K * H) = h * (K * w * H) by grind, eq]
    grind
  omega
theorem Lk.cross {h0 H0 w0 W0 : Int} (l : Lk K L h H w W) (k : Lk K L h0 H0 w0 W0) : w * h0 * H * W0 = h * w0 * W * H0 := by
  obtain ⟨_, _, _, _, h1, h2, eq⟩ := l
  obtain ⟨_, _, _, _, h3, h4, eq0⟩ := k
  have kl : K * L ≠ 0 := Int.mul_ne_zero (by omega) (by omega)
  refine Int.eq_of_mul_eq_mul_left kl ?_
  rw [show K * L * (w * h0 * H * W0) = (K * w * H) * (L * h0 * W0) by grind, eq, ← eq0]
  grind
set_option maxHeartbeats 4000000 in
theorem mult_one (ρ : Hs) (f g : Fm) (x y : R4) (A : Option (Int × Int × Int × Int)) (hA : AG K L A) (e1 : ∀ ρ, F_law_value [.d (.tup f.l), .d (fr x.p x.q), .d (fr x.r x.t)] ρ = .ok (.d (fr h H)) ρ)
    (e2 : ∀ ρ, F_law_value [.d (.tup g.l), .d (fr y.p y.q), .d (fr y.r y.t)] ρ = .ok (.d (fr w W)) ρ) (l : Lk K L h H w W) (x2 x5 x6 x7 x8 : Option SV) :
    ∃ A' y5 y6 y7 y8, L_law_multiple_1 [some (.d (.tup f.l)), some (.d (.tup g.l)), x2, some (.d (anD A)), some (.d (prD (x, y))), x5, x6, x7, x8] ρ =
      .nx [some (.d (.tup f.l)), some (.d (.tup g.l)), x2, some (.d (anD A')), some (.d (prD (x, y))), y5, y6, y7, y8] ρ ∧ AG K L A' ∧ (A' = none → A = none ∧ h = 0) := by
  have z := l.zero hK hL
  have b1 := l.b1; have b2 := l.b2; have b3 := l.b3; have b4 := l.b4
  match A, hA with
  | none, _ =>
    by_cases h0 : h = 0
    · have w0 := z.mp h0
      subst h0 w0
      refine ⟨none, some (.d (fr 0 H)), some (.d (fr 0 W)), x7, x8, ?_, (fun _ _ _ _ e => by cases e), fun _ => ⟨rfl, rfl⟩⟩
      unfold L_law_multiple_1 prD ptD anD
      unfold fr at *
      simp [x_fun, e1, e2]
    · have w0 : ¬ w = 0 := fun q => h0 (z.mpr q)
      have ps := l.pos hK hL h0
      have cr := l.cross hK hL l
      refine ⟨some (h, H, w, W), some (.d (fr h H)), some (.d (fr w W)), some (.d (.int (w * h * H * W))), some (.d (.int (h * w * W * H))), ?_, (fun _ _ _ _ e => by cases e; exact ⟨h0, l⟩), fun e => by cases e⟩
      unfold L_law_multiple_1 prD ptD anD
      unfold fr at *
      simp [x_fun, e1, e2, h0, w0, ps, sz_e, cr]
  | some (h0, H0, w0, W0), hA =>
    obtain ⟨n0, l0⟩ := hA h0 H0 w0 W0 rfl
    have c1 := l0.b1; have c2 := l0.b2; have c3 := l0.b3; have c4 := l0.b4
    have cr := l.cross hK hL l0
    refine ⟨some (h0, H0, w0, W0), some (.d (fr h H)), some (.d (fr w W)), some (.d (.int (w * h0 * H * W0))), some (.d (.int (h * w0 * W * H0))), ?_, hA, fun e => by cases e⟩
    unfold L_law_multiple_1 prD ptD anD
    unfold fr at *
    simp [x_fun, e1, e2, sz_e, cr]
end
structure Gd (K L : Int) (f g : Fm) (p : R4 × R4) : Prop where
  g1 : RG 64 p.1
  g2 : RG 64 p.2
  eq : K * vx g p.2 * vb p.1 = L * vx f p.1 * vb p.2
theorem vx_bd {f : Fm} {x : R4} (hf : Fb 400 f) (g : RG 64 x) : Bd 1000 (vx f x) ∧ Bd 1000 (vb x) ∧ 0 < vb x := by
  obtain ⟨b0, b1, b2, b3, b4, b5, b6, b7⟩ := hf
  obtain ⟨p, q, r, t⟩ := x
  obtain ⟨bp, bq, br, bt, hq, ht⟩ := g
  dsimp only at bp bq br bt hq ht
  have b2' : Bd 3 (2 : Int) := ⟨by decide⟩
  exact ⟨by simp only [vx, vt, Tp]; exact Bd.up inferInstance (by decide), by simp only [vb]; exact Bd.up inferInstance (by decide), Int.mul_pos (pw hq 4) (pw ht 2)⟩
theorem Gd.lk {K L : Int} {f g : Fm} {p : R4 × R4} (hf : Fb 400 f) (hg : Fb 400 g) (h : Gd K L f g p) : Lk K L (vx f p.1) (vb p.1) (vx g p.2) (vb p.2) := by
  obtain ⟨a1, a2, a3⟩ := vx_bd hf h.g1
  obtain ⟨b1, b2, b3⟩ := vx_bd hg h.g2
  exact ⟨a1, a2, b1, b2, a3, b3, h.eq⟩
section
variable {K L : Int} (hK : 0 < K) (hL : 0 < L) {f g : Fm} (hf : Fb 400 f) (hg : Fb 400 g)
include hK hL hf hg
theorem mult_all (ρ : Hs) : ∀ (l : List (R4 × R4)), (∀ p ∈ l, Gd K L f g p) → ∀ (A : Option (Int × Int × Int × Int)), AG K L A → ∀ (x2 x4 x5 x6 x7 x8 : Option SV),
    ∃ A' y4 y5 y6 y7 y8, sLoop (gSet 4) L_law_multiple_1 (l.map prD) [some (.d (.tup f.l)), some (.d (.tup g.l)), x2, some (.d (anD A)), x4, x5, x6, x7, x8] ρ =
      .nx [some (.d (.tup f.l)), some (.d (.tup g.l)), x2, some (.d (anD A')), y4, y5, y6, y7, y8] ρ ∧ (A' = none → A = none ∧ ∀ p ∈ l, vx f p.1 = 0)
  | [], _, A, _, x2, x4, x5, x6, x7, x8 => ⟨A, x4, x5, x6, x7, x8, by simp, fun e => ⟨e, fun p hp => by cases hp⟩⟩
  | (x, y) :: l, h, A, hA, x2, x4, x5, x6, x7, x8 => by
    have k := h (x, y) (by simp)
    obtain ⟨A1, u5, u6, u7, u8, e1, a1, z1⟩ := mult_one hK hL ρ f g x y A hA (fun ρ => value_ok ρ f x hf k.g1) (fun ρ => value_ok ρ g y hg k.g2) (k.lk hf hg) x2 x5 x6 x7 x8
    obtain ⟨A2, v4, v5, v6, v7, v8, e2, z2⟩ := mult_all ρ l (fun p hp => h p (by simp [hp])) A1 a1 x2 (some (.d (prD (x, y)))) u5 u6 u7 u8
    refine ⟨A2, v4, v5, v6, v7, v8, ?_, fun e => ?_⟩
    · simp only [List.map_cons, loop_cons, x_gset, lpA_some, List.set_cons_succ, List.set_cons_zero]
      rw [e1, lpB_nx, e2]
    · obtain ⟨w1, w2⟩ := z2 e
      obtain ⟨w3, w4⟩ := z1 w1
      refine ⟨w3, fun p hp => ?_⟩
      rcases List.mem_cons.mp hp with rfl | hp
      · exact w4
      · exact w2 p hp
def z8 : List D := [.int 0, .int 0, .int 0, .int 0, .int 0, .int 0, .int 0, .int 0]
theorem multiple_ok (ρ : Hs) (l : List (R4 × R4)) (h : ∀ p ∈ l, Gd K L f g p) (hz : (∀ p ∈ l, vx f p.1 = 0) → g.l = z8) :
    F_law_multiple [.d (.tup f.l), .d (.tup g.l), .d (.lst (l.map prD))] ρ = .ok (.d (.bl true)) ρ := by
  obtain ⟨A, y4, y5, y6, y7, y8, e, z⟩ := mult_all hK hL hf hg ρ l h none (fun _ _ _ _ e => by cases e) (some (.d (.lst (l.map prD)))) none none none none none
  generalize l.map prD = m at *
  rw [show anD none = D.non from rfl] at e
  match A, z, e with
  | some (h0, H0, w0, W0), _, e =>
    unfold F_law_multiple
    generalize f.l = fl at *
    generalize g.l = gl at *
    rw [show anD (some (h0, H0, w0, W0)) = D.tup [fr h0 H0, fr w0 W0] from rfl] at e
    simp [x_fun, e]
  | none, z, e =>
    have q := hz (z rfl).2
    rw [show anD none = D.non from rfl] at e
    rw [q] at e ⊢
    unfold F_law_multiple
    generalize f.l = fl at *
    have q8 : fEq (.tup z8) (.tup z8) = some (.bl true) := fEq_self (by simp [z8]) (by simp [z8])
    unfold z8 at *
    simp [x_fun, e, sz_e, q8]
end
/-! ### the nine points -/
def pts (last : R4) : List R4 := [⟨-2, 1, 0, 1⟩, ⟨-1, 1, 0, 1⟩, ⟨0, 1, 0, 1⟩, ⟨1, 1, 0, 1⟩, ⟨2, 1, 0, 1⟩, ⟨0, 1, 1, 1⟩, ⟨0, 1, -1, 1⟩, ⟨1, 1, 1, 1⟩, last]
def zf : Fm := ⟨0, 0, 0, 0, 0, 0, 0, 0⟩
theorem pts_zero (f : Fm) (last : R4) (h : ∀ x ∈ pts last, vx f x = 0) : f = zf := by
  have h1 := h ⟨-2, 1, 0, 1⟩ (by simp [pts])
  have h2 := h ⟨-1, 1, 0, 1⟩ (by simp [pts])
  have h3 := h ⟨0, 1, 0, 1⟩ (by simp [pts])
  have h4 := h ⟨1, 1, 0, 1⟩ (by simp [pts])
  have h5 := h ⟨2, 1, 0, 1⟩ (by simp [pts])
  have h6 := h ⟨0, 1, 1, 1⟩ (by simp [pts])
  have h7 := h ⟨0, 1, -1, 1⟩ (by simp [pts])
  have h8 := h ⟨1, 1, 1, 1⟩ (by simp [pts])
  obtain ⟨c0, c1, c2, c3, c4, e, b, a⟩ := f
  simp [vx, vt, Tp] at h1 h2 h3 h4 h5 h6 h7 h8
  simp only [zf, Fm.mk.injEq]
  omega
theorem points_ok (ρ : Hs) (last : R4) : F_law_points [.d (ptD last)] ρ = .ok (.d (.lst ((pts last).map ptD))) ρ := by
  have cl : ∀ x0 x1 x2 : Option SV, cLoop (cSet 2) bYes C_law_points_1 [x0, x1, x2] [.int (-2), .int (-1), .int 0, .int 1, .int 2] ρ [] = .ok [ptD ⟨-2, 1, 0, 1⟩, ptD ⟨-1, 1, 0, 1⟩, ptD ⟨0, 1, 0, 1⟩, ptD ⟨1, 1, 0, 1⟩, ptD ⟨2, 1, 0, 1⟩] ρ := fun x0 x1 x2 => by
    unfold C_law_points_1 ptD fr
    simp [x_fun, cl_cons, sz_e]
  unfold F_law_points pts
  simp [x_fun, ups_s, ups, cl, sz_e]
  simp [ptD, fr]
end K06

set_option exponentiation.threshold 4000
namespace K06
open PySem L2 Px
structure Fr (a0 a1 : Int) : Prop where
  n : Bd 31 a0
  d : Bd 31 a1
  h : 0 < a1
def ledS (a0 a1 b0 b1 : Int) (x : R4) : R4 := ⟨lowT (x.p * a1 + a0 * x.q) (x.q * a1), lowB (x.p * a1 + a0 * x.q) (x.q * a1), lowT (x.r * b1 + b0 * x.t) (x.t * b1), lowB (x.r * b1 + b0 * x.t) (x.t * b1)⟩
def ledC (a0 a1 b0 b1 : Int) (x : R4) : R4 := ⟨lowT (x.p * a0) (x.q * a1), lowB (x.p * a0) (x.q * a1), lowT (x.r * b0) (x.t * b1), lowB (x.r * b0) (x.t * b1)⟩
def ledX (x : R4) : R4 := ⟨-x.p, x.q, x.r, x.t⟩
def ledY (x : R4) : R4 := ⟨x.p, x.q, -x.r, x.t⟩
def ledT (x : R4) : R4 := ⟨-x.r, x.t, x.p, x.q⟩
theorem low' (ρ : Hs) (t b : Int) (hb : 0 < b) (h : Bd 100 b) : F_law_low [.d (.int t), .d (.int b)] ρ = .ok (.d (fr (lowT t b) (lowB t b))) ρ :=
  low_ok ρ t b (by omega) (Nat.lt_of_lt_of_le h.lt (two_le (by decide)))
section
variable {a0 a1 b0 b1 : Int} {x : R4}
theorem ledS_ok (ρ : Hs) (ha : Fr a0 a1) (hb : Fr b0 b1) (g : RG 8 x) : F_law_led [.d (.int 0), .d (ptD x), .d (fr a0 a1), .d (fr b0 b1)] ρ = .ok (.d (ptD (ledS a0 a1 b0 b1 x))) ρ := by
  obtain ⟨bp, bq, br, bt, hq, ht⟩ := g
  obtain ⟨n1, d1, p1⟩ := ha
  obtain ⟨n2, d2, p2⟩ := hb
  have e1 := low' ρ (x.p * a1 + a0 * x.q) (x.q * a1) (Int.mul_pos hq p1) (Bd.up inferInstance (by decide))
  have e2 := low' ρ (x.r * b1 + b0 * x.t) (x.t * b1) (Int.mul_pos ht p2) (Bd.up inferInstance (by decide))
  unfold F_law_led ledS ptD
  unfold fr at *
  simp [x_fun, sz_e, e1, e2]
theorem ledC_ok (ρ : Hs) (ha : Fr a0 a1) (hb : Fr b0 b1) (g : RG 8 x) : F_law_led [.d (.int 1), .d (ptD x), .d (fr a0 a1), .d (fr b0 b1)] ρ = .ok (.d (ptD (ledC a0 a1 b0 b1 x))) ρ := by
  obtain ⟨bp, bq, br, bt, hq, ht⟩ := g
  obtain ⟨n1, d1, p1⟩ := ha
  obtain ⟨n2, d2, p2⟩ := hb
  have e1 := low' ρ (x.p * a0) (x.q * a1) (Int.mul_pos hq p1) (Bd.up inferInstance (by decide))
  have e2 := low' ρ (x.r * b0) (x.t * b1) (Int.mul_pos ht p2) (Bd.up inferInstance (by decide))
  unfold F_law_led ledC ptD
  unfold fr at *
  simp [x_fun, sz_e, e1, e2]
theorem ledX_ok (ρ : Hs) (A B : D) : F_law_led [.d (.int 2), .d (ptD x), .d A, .d B] ρ = .ok (.d (ptD (ledX x))) ρ := by
  unfold F_law_led ledX ptD fr
  simp [x_fun, sz_e]
theorem ledY_ok (ρ : Hs) (A B : D) : F_law_led [.d (.int 3), .d (ptD x), .d A, .d B] ρ = .ok (.d (ptD (ledY x))) ρ := by
  unfold F_law_led ledY ptD fr
  simp [x_fun, sz_e]
theorem ledT_ok (ρ : Hs) (A B : D) : F_law_led [.d (.int 4), .d (ptD x), .d A, .d B] ρ = .ok (.d (ptD (ledT x))) ρ := by
  unfold F_law_led ledT ptD fr
  simp [x_fun, sz_e]
/-! ### the moved form at the led point -/
theorem gd_gen {f g G : Fm} {x y : R4} {k l E C u v P Q R T : Int} (hs : sm k g = sm l G) (hu : 0 < u) (hv : 0 < v) (hP : P = u * y.p) (hQ : Q = u * y.q) (hR : R = v * y.r) (hT : T = v * y.t)
    (h1 : vt G P Q R T = vx f x * (E * C)) (h2 : Q ^ 4 * T ^ 2 = vb x * C) : k * vx g y * vb x = l * E * vx f x * vb y := by
  have m : k * (vx g y * (u ^ 4 * v ^ 2)) = l * (vx f x * (E * C)) := by
    rw [← h1, ← vt_sm, ← hs, vt_sm, hP, hQ, hR, hT, vt_hom]
    rfl
  have n : vb y * (u ^ 4 * v ^ 2) = vb x * C := by
    rw [← h2, hQ, hT]
    unfold vb
    grind
  have U0 : u ^ 4 * v ^ 2 ≠ 0 := by
    have := Int.mul_pos (pw hu 4) (pw hv 2)
    omega
  refine Int.eq_of_mul_eq_mul_left U0 ?_
  generalize u ^ 4 * v ^ 2 = U at *
  generalize vx g y = a at *
  generalize vx f x = b at *
  generalize vb x = c at *
  generalize vb y = d at *
  have e1 : U * (k * a * c) = k * (a * U) * c := by grind
  have e2 : U * (l * E * b * d) = l * E * b * (d * U) := by grind
  rw [e1, e2, m, n]
  grind
theorem rg_low {n1 d1 n2 d2 : Int} (a : Bd 64 n1) (b : Bd 64 d1) (c : Bd 64 n2) (d : Bd 64 d2) (h1 : 0 < d1) (h2 : 0 < d2) : RG 64 ⟨lowT n1 d1, lowB n1 d1, lowT n2 d2, lowB n2 d2⟩ := by
  obtain ⟨u1, u2⟩ := low_bd (t := n1) (b := d1) (by omega) a b
  obtain ⟨u3, u4⟩ := low_bd (t := n2) (b := d2) (by omega) c d
  obtain ⟨_, _, _, _, v1⟩ := low_pos (t := n1) h1
  obtain ⟨_, _, _, _, v2⟩ := low_pos (t := n2) h2
  exact ⟨u1, u2, u3, u4, v1, v2⟩
theorem RG.up {n m : Nat} {x : R4} (g : RG n x) (h : n ≤ m) : RG m x := ⟨g.bp.up h, g.bq.up h, g.br.up h, g.bt.up h, g.hq, g.ht⟩
theorem gdS (f : Fm) (ha : Fr a0 a1) (hb : Fr b0 b1) : ∃ K L : Int, 0 < K ∧ 0 < L ∧ ∀ x : R4, RG 8 x → Gd K L f (pl (Sh f (-a0) a1 (-b0) b1)) (x, ledS a0 a1 b0 b1 x) := by
  obtain ⟨k, l, hk, hl, hs⟩ := pl_ev (Sh f (-a0) a1 (-b0) b1)
  obtain ⟨n1, d1, p1⟩ := ha
  obtain ⟨n2, d2, p2⟩ := hb
  refine ⟨k, l * (a1 ^ 4 * b1 ^ 2), by omega, Int.mul_pos (by omega) (Int.mul_pos (pw p1 4) (pw p2 2)), fun x g => ?_⟩
  obtain ⟨bp, bq, br, bt, hq, ht⟩ := g
  obtain ⟨u, hu, eu1, eu2, _⟩ := low_pos (t := x.p * a1 + a0 * x.q) (Int.mul_pos hq p1)
  obtain ⟨v, hv, ev1, ev2, _⟩ := low_pos (t := x.r * b1 + b0 * x.t) (Int.mul_pos ht p2)
  refine ⟨⟨bp.up (by decide), bq.up (by decide), br.up (by decide), bt.up (by decide), hq, ht⟩, rg_low (Bd.up inferInstance (by decide)) (Bd.up inferInstance (by decide)) (Bd.up inferInstance (by decide)) (Bd.up inferInstance (by decide)) (Int.mul_pos hq p1) (Int.mul_pos ht p2), ?_⟩
  refine gd_gen (C := a1 ^ 4 * b1 ^ 2) hs hu hv (eu1.trans (Int.mul_comm _ _)) (eu2.trans (Int.mul_comm _ _)) (ev1.trans (Int.mul_comm _ _)) (ev2.trans (Int.mul_comm _ _)) ?_ ?_
  · rw [vt_sh f a0 a1 b0 b1 x.p x.q x.r x.t]
    show vt f x.p x.q x.r x.t * _ = vt f x.p x.q x.r x.t * _
    congr 1
    grind
  · show (x.q * a1) ^ 4 * (x.t * b1) ^ 2 = x.q ^ 4 * x.t ^ 2 * _
    grind
theorem gdC (f : Fm) (ha : Fr a0 a1) (hb : Fr b0 b1) (ha0 : 0 < a0) (hb0 : 0 < b0) : ∃ K L : Int, 0 < K ∧ 0 < L ∧ ∀ x : R4, RG 8 x → Gd K L f (pl (Sc f a0 a1 b0 b1)) (x, ledC a0 a1 b0 b1 x) := by
  obtain ⟨k, l, hk, hl, hs⟩ := pl_ev (Sc f a0 a1 b0 b1)
  obtain ⟨n1, d1, p1⟩ := ha
  obtain ⟨n2, d2, p2⟩ := hb
  refine ⟨k, l * (a0 ^ 4 * b0 ^ 2), by omega, Int.mul_pos (by omega) (Int.mul_pos (pw ha0 4) (pw hb0 2)), fun x g => ?_⟩
  obtain ⟨bp, bq, br, bt, hq, ht⟩ := g
  obtain ⟨u, hu, eu1, eu2, _⟩ := low_pos (t := x.p * a0) (Int.mul_pos hq p1)
  obtain ⟨v, hv, ev1, ev2, _⟩ := low_pos (t := x.r * b0) (Int.mul_pos ht p2)
  refine ⟨⟨bp.up (by decide), bq.up (by decide), br.up (by decide), bt.up (by decide), hq, ht⟩, rg_low (Bd.up inferInstance (by decide)) (Bd.up inferInstance (by decide)) (Bd.up inferInstance (by decide)) (Bd.up inferInstance (by decide)) (Int.mul_pos hq p1) (Int.mul_pos ht p2), ?_⟩
  refine gd_gen (C := a1 ^ 4 * b1 ^ 2) hs hu hv (eu1.trans (Int.mul_comm _ _)) (eu2.trans (Int.mul_comm _ _)) (ev1.trans (Int.mul_comm _ _)) (ev2.trans (Int.mul_comm _ _)) ?_ ?_
  · rw [vt_sc f a0 a1 b0 b1 x.p x.q x.r x.t]
    rfl
  · show (x.q * a1) ^ 4 * (x.t * b1) ^ 2 = x.q ^ 4 * x.t ^ 2 * _
    grind
theorem gdX (f : Fm) : ∃ K L : Int, 0 < K ∧ 0 < L ∧ ∀ x : R4, RG 8 x → Gd K L f (pl (Mx f)) (x, ledX x) := by
  obtain ⟨k, l, hk, hl, hs⟩ := pl_ev (Mx f)
  refine ⟨k, l * 1, by omega, by omega, fun x g => ⟨g.up (by decide), ?_, ?_⟩⟩
  · obtain ⟨bp, bq, br, bt, hq, ht⟩ := g
    exact ⟨Bd.up (i := -x.p) inferInstance (by decide), bq.up (by decide), br.up (by decide), bt.up (by decide), hq, ht⟩
  · refine gd_gen (C := 1) (u := 1) (v := 1) hs (by decide) (by decide) (Int.one_mul _).symm (Int.one_mul _).symm (Int.one_mul _).symm (Int.one_mul _).symm ?_ ?_
    · rw [Int.mul_one, Int.mul_one]
      exact vt_mx f x.p x.q x.r x.t
    · rw [Int.mul_one]
      rfl
theorem gdY (f : Fm) : ∃ K L : Int, 0 < K ∧ 0 < L ∧ ∀ x : R4, RG 8 x → Gd K L f (pl (My f)) (x, ledY x) := by
  obtain ⟨k, l, hk, hl, hs⟩ := pl_ev (My f)
  refine ⟨k, l * 1, by omega, by omega, fun x g => ⟨g.up (by decide), ?_, ?_⟩⟩
  · obtain ⟨bp, bq, br, bt, hq, ht⟩ := g
    exact ⟨bp.up (by decide), bq.up (by decide), Bd.up (i := -x.r) inferInstance (by decide), bt.up (by decide), hq, ht⟩
  · refine gd_gen (C := 1) (u := 1) (v := 1) hs (by decide) (by decide) (Int.one_mul _).symm (Int.one_mul _).symm (Int.one_mul _).symm (Int.one_mul _).symm ?_ ?_
    · rw [Int.mul_one, Int.mul_one]
      exact vt_my f x.p x.q x.r x.t
    · rw [Int.mul_one]
      rfl
theorem gdT (f : Fm) (h3 : f.c3 = 0) (h4 : f.c4 = 0) : ∃ K L : Int, 0 < K ∧ 0 < L ∧ ∀ x : R4, RG 8 x → Gd K L f (pl (Tn f)) (x, ledT x) := by
  obtain ⟨k, l, hk, hl, hs⟩ := pl_ev (Tn f)
  refine ⟨k, l, by omega, by omega, fun x g => ⟨g.up (by decide), ?_, ?_⟩⟩
  · obtain ⟨bp, bq, br, bt, hq, ht⟩ := g
    exact ⟨Bd.up (i := -x.r) inferInstance (by decide), bt.up (by decide), bp.up (by decide), bq.up (by decide), ht, hq⟩
  · have t := vt_tn f h3 h4 x.p x.q x.r x.t
    have m : k * vx (pl (Tn f)) (ledT x) = l * vt (Tn f) (-x.r) x.t x.p x.q := by
      rw [← vt_sm, ← hs, vt_sm]
      rfl
    rw [m]
    show l * vt (Tn f) (-x.r) x.t x.p x.q * (x.q ^ 4 * x.t ^ 2) = l * vt f x.p x.q x.r x.t * (x.t ^ 4 * x.q ^ 2)
    rw [Int.mul_assoc, t, ← Int.mul_assoc]
end
end K06

set_option exponentiation.threshold 4000
namespace K06
open PySem L2 Px
def toldD (f : Fm) : D := .tup [.str "told", frm f]
section
variable {f : Fm} {a0 a1 b0 b1 : Int}
theorem mx_fb {n : Nat} (h : Fb n f) : Fb n (Mx f) := ⟨h.h0, @Bd.neg _ _ h.h1, h.h2, @Bd.neg _ _ h.h3, h.h4, h.h5, @Bd.neg _ _ h.h6, h.h7⟩
theorem my_fb {n : Nat} (h : Fb n f) : Fb n (My f) := ⟨h.h0, h.h1, h.h2, h.h3, h.h4, @Bd.neg _ _ h.h5, @Bd.neg _ _ h.h6, h.h7⟩
theorem tn_fb {n : Nat} (h : Fb n f) (hn : 1 ≤ n) : Fb n (Tn f) := ⟨h.h0, @Bd.neg _ _ h.h5, h.h7, Bd.up (n := 1) (i := 0) (⟨by decide⟩ : Bd 1 (0 : Int)) hn, Bd.up (n := 1) (i := 0) (⟨by decide⟩ : Bd 1 (0 : Int)) hn, h.h1, @Bd.neg _ _ h.h6, h.h2⟩
theorem mx_ok (ρ : Hs) (h : Fb 3800 f) : F_mirror_form_x [.d (frm f)] ρ = .ok (.d (frm (pl (Mx f)))) ρ := by
  have pk := plain_ok ρ _ (mx_fb h)
  have ik := init_ok (f := Mx f) ρ
  generalize pl (Mx f) = Z at *
  unfold F_mirror_form_x
  unfold frm Mx at *
  simp only [Fm.l] at *
  simp [x_fun, sz_e, ik, pk]
theorem my_ok (ρ : Hs) (h : Fb 3800 f) : F_mirror_form_y [.d (frm f)] ρ = .ok (.d (frm (pl (My f)))) ρ := by
  have pk := plain_ok ρ _ (my_fb h)
  have ik := init_ok (f := My f) ρ
  generalize pl (My f) = Z at *
  unfold F_mirror_form_y
  unfold frm My at *
  simp only [Fm.l] at *
  simp [x_fun, sz_e, ik, pk]
theorem conic_ok (ρ : Hs) : F_Form_is_conic [.d (frm f)] ρ = .ok (.d (.bl (decide (f.c3 = 0 ∧ f.c4 = 0)))) ρ := by
  have e := fEq_tupI [f.c3, f.c4] [0, 0]
  unfold F_Form_is_conic frm
  simp at e
  simp [x_fun, Fm.l, Px.cutD, HT.sIx, sz_e, e]
theorem tn_ok (ρ : Hs) (h : Fb 3800 f) (h3 : f.c3 = 0) (h4 : f.c4 = 0) : F_turn_form [.d (frm f)] ρ = .ok (.d (frm (pl (Tn f)))) ρ := by
  have pk := plain_ok ρ _ (tn_fb h (by decide))
  have ik := init_ok (f := Tn f) ρ
  have ck := conic_ok (f := f) ρ
  generalize pl (Tn f) = Z at *
  unfold F_turn_form
  unfold frm Tn at *
  simp only [Fm.l] at *
  simp [h3, h4] at ck pk ik
  simp [x_fun, sz_e, ik, pk, ck, h3, h4]
theorem tn_no (ρ : Hs) (h : ¬ (f.c3 = 0 ∧ f.c4 = 0)) : F_turn_form [.d (frm f)] ρ = .rs 3 [.int 0] ρ := by
  have ck := conic_ok (f := f) ρ
  rw [decide_eq_false h] at ck
  unfold F_turn_form
  unfold frm at *
  simp [x_fun, sz_e, ck, sRaise]
theorem moved0 (ρ : Hs) (h : Fb 400 f) (ha : Fr a0 a1) (hb : Fr b0 b1) : F_law_moved [.d (.int 0), .d (frm f), .d (fr a0 a1), .d (fr b0 b1)] ρ = .ok (.d (toldD (pl (Sh f (-a0) a1 (-b0) b1)))) ρ := by
  obtain ⟨n1, d1, p1⟩ := ha
  obtain ⟨n2, d2, p2⟩ := hb
  have sb : Fb 3800 (Sh f (-a0) a1 (-b0) b1) := by
    obtain ⟨b0, b1, b2, b3, b4, b5, b6, b7⟩ := h
    have b2' : Bd 3 (2 : Int) := ⟨by decide⟩
    constructor <;> (simp only [Sh, Tp]; exact Bd.up inferInstance (by decide))
  have e := shift_ok ρ (h.up (by decide)) sb (n1.up (by decide)) (d1.up (by decide)) (n2.up (by decide)) (d2.up (by decide)) p1 p2
  generalize pl (Sh f (-a0) a1 (-b0) b1) = Z at *
  unfold F_law_moved toldD
  unfold frm fr at *
  simp [x_fun, sTry2, sz_e, e]
theorem moved1 (ρ : Hs) (h : Fb 400 f) (ha : Fr a0 a1) (hb : Fr b0 b1) (ha0 : 0 < a0) (hb0 : 0 < b0) : F_law_moved [.d (.int 1), .d (frm f), .d (fr a0 a1), .d (fr b0 b1)] ρ = .ok (.d (toldD (pl (Sc f a0 a1 b0 b1)))) ρ := by
  obtain ⟨n1, d1, p1⟩ := ha
  obtain ⟨n2, d2, p2⟩ := hb
  have sb : Fb 3800 (Sc f a0 a1 b0 b1) := by
    obtain ⟨b0, b1, b2, b3, b4, b5, b6, b7⟩ := h
    constructor <;> (simp only [Sc]; exact Bd.up inferInstance (by decide))
  have e := scale_ok ρ (h.up (by decide)) sb (n1.up (by decide)) (d1.up (by decide)) (n2.up (by decide)) (d2.up (by decide)) ha0 hb0
  generalize pl (Sc f a0 a1 b0 b1) = Z at *
  unfold F_law_moved toldD
  unfold frm fr at *
  simp [x_fun, sTry2, sz_e, e]
theorem bad0 (ρ : Hs) (B : D) (ha0 : a0 ≤ 0) : F_law_moved [.d (.int 1), .d (frm f), .d (fr a0 a1), .d B] ρ = .ok (.d (.tup [.str "step", .int 0, .bl true])) ρ := by
  have e : F_scale_form [.d (frm f), .d (fr a0 a1), .d B] ρ = .rs 2 [.int 0] ρ := by
    unfold F_scale_form frm fr
    simp [x_fun, ha0, sRaise]
  unfold F_law_moved
  unfold frm fr at *
  simp [x_fun, sTry2, sz_e, e, noPin, offS, eIsE, eXf, SV.isPin]
theorem bad1 (ρ : Hs) (ha0 : 0 < a0) (hb0 : b0 ≤ 0) : F_law_moved [.d (.int 1), .d (frm f), .d (fr a0 a1), .d (fr b0 b1)] ρ = .ok (.d (.tup [.str "step", .int 1, .bl true])) ρ := by
  have n0 : ¬ a0 ≤ 0 := by omega
  have e : F_scale_form [.d (frm f), .d (fr a0 a1), .d (fr b0 b1)] ρ = .rs 2 [.int 1] ρ := by
    unfold F_scale_form frm fr
    simp [x_fun, n0, hb0, sRaise]
  unfold F_law_moved
  unfold frm fr at *
  simp [x_fun, sTry2, sz_e, e, noPin, offS, eIsE, eXf, SV.isPin]
theorem moved2 (ρ : Hs) (h : Fb 400 f) (A B : D) : F_law_moved [.d (.int 2), .d (frm f), .d A, .d B] ρ = .ok (.d (toldD (pl (Mx f)))) ρ := by
  have e := mx_ok ρ (h.up (by decide))
  generalize pl (Mx f) = Z at *
  unfold F_law_moved toldD
  unfold frm at *
  simp [x_fun, sTry2, sz_e, e]
theorem moved3 (ρ : Hs) (h : Fb 400 f) (A B : D) : F_law_moved [.d (.int 3), .d (frm f), .d A, .d B] ρ = .ok (.d (toldD (pl (My f)))) ρ := by
  have e := my_ok ρ (h.up (by decide))
  generalize pl (My f) = Z at *
  unfold F_law_moved toldD
  unfold frm at *
  simp [x_fun, sTry2, sz_e, e]
theorem moved4 (ρ : Hs) (h : Fb 400 f) (A B : D) (h3 : f.c3 = 0) (h4 : f.c4 = 0) : F_law_moved [.d (.int 4), .d (frm f), .d A, .d B] ρ = .ok (.d (toldD (pl (Tn f)))) ρ := by
  have e := tn_ok ρ (h.up (by decide)) h3 h4
  generalize pl (Tn f) = Z at *
  unfold F_law_moved toldD
  unfold frm at *
  simp [x_fun, sTry2, sz_e, e]
theorem bad4 (ρ : Hs) (A B : D) (h : ¬ (f.c3 = 0 ∧ f.c4 = 0)) : F_law_moved [.d (.int 4), .d (frm f), .d A, .d B] ρ = .ok (.d (.tup [.str "curved", .int 0, .bl true])) ρ := by
  have e := tn_no ρ h
  unfold F_law_moved
  unfold frm at *
  simp [x_fun, sTry2, sz_e, e, noPin, offS, eIsE, eXf, SV.isPin]
end
/-! ### the same numbers -/
theorem same_f (ρ : Hs) (f : Fm) (h : Fb 400 f) : F_law_same [.d (.tup f.l), .d (.tup f.l)] ρ = .ok (.d (.bl true)) ρ := by
  obtain ⟨b0, b1, b2, b3, b4, b5, b6, b7⟩ := h
  refine same_ok ρ ?_ ?_ ?_ ?_ <;> simp [Fm.l]
theorem same_b (ρ : Hs) (x : Str) (i : Int) (hx : x = "step" ∨ x = "curved") (hi : i = 0 ∨ i = 1) : F_law_same [.d (.tup [.str x, .int i, .bl true]), .d (.tup [.str x, .int i, .bl true])] ρ = .ok (.d (.bl true)) ρ := by
  have bi : Bd 1 i := by rcases hi with rfl | rfl <;> exact ⟨by decide⟩
  rcases hx with rfl | rfl
  · refine same_ok ρ ?_ ?_ ?_ ?_ <;> simp
    · decide +kernel
    · decide +kernel
    · decide +kernel
  · refine same_ok ρ ?_ ?_ ?_ ?_ <;> simp
    · decide +kernel
    · decide +kernel
    · decide +kernel
end K06

set_option exponentiation.threshold 4000
namespace K06
open PySem L2 Px
theorem pairs_loop (P : Hs) (w : Int) (A B : D) (led : R4 → R4) (x1 x4 x5 x6 x7 x10 : Option SV) : ∀ (l : List R4) (acc : List D) (y9 : Option SV), (∀ x ∈ l, ∀ ρ, F_law_led [.d (.int w), .d (ptD x), .d A, .d B] ρ = .ok (.d (ptD (led x))) ρ) → acc.length + l.length < 1000 →
    ∃ y, sLoop (gSet 9) L_law_move_right_1 (l.map ptD) [some (.d (.int w)), x1, some (.d A), some (.d B), x4, x5, x6, x7, some (.own P.length), y9, x10] (P ++ [.lst (acc.map O.d)]) =
      .nx [some (.d (.int w)), x1, some (.d A), some (.d B), x4, x5, x6, x7, some (.own P.length), y, x10] (P ++ [.lst ((acc ++ (l.map fun x => (x, led x)).map prD).map O.d)])
  | [], acc, y9, _, _ => ⟨y9, by simp⟩
  | x :: l, acc, y9, h, hl => by
    have e := h x (by simp) (P ++ [.lst (acc.map O.d)])
    have hl' : acc.length + (l.length + 1) < 1000 := by simpa using hl
    have hz : acc.length < 1000000 := by omega
    have one : L_law_move_right_1 [some (.d (.int w)), x1, some (.d A), some (.d B), x4, x5, x6, x7, some (.own P.length), some (.d (ptD x)), x10] (P ++ [.lst (acc.map O.d)]) =
        .nx [some (.d (.int w)), x1, some (.d A), some (.d B), x4, x5, x6, x7, some (.own P.length), some (.d (ptD x)), x10] (P ++ [.lst ((acc ++ [prD (x, led x)]).map O.d)]) := by
      unfold L_law_move_right_1 prD
      dsimp only
      generalize ptD x = X at *
      generalize ptD (led x) = Y at *
      simp [x_fun, e, sz_e, hz]
    obtain ⟨y, ih⟩ := pairs_loop P w A B led x1 x4 x5 x6 x7 x10 l (acc ++ [prD (x, led x)]) (some (.d (ptD x))) (fun z hz => h z (by simp [hz])) (by simp; omega)
    refine ⟨y, ?_⟩
    simp only [List.map_cons, loop_cons, x_gset, lpA_some, List.set_cons_succ, List.set_cons_zero]
    rw [one, lpB_nx, ih]
    simp
section
variable {f g : Fm} {a0 a1 b0 b1 w : Int} {last : R4} {led : R4 → R4}
structure Mv (w : Int) (f G : Fm) (a0 a1 b0 b1 : Int) (last : R4) (led : R4 → R4) : Prop where
  hf : Fb 400 f
  hg : Fb 400 G
  mv : ∀ ρ, F_law_moved [.d (.int w), .d (frm f), .d (fr a0 a1), .d (fr b0 b1)] ρ = .ok (.d (toldD (pl G))) ρ
  ld : ∀ x ∈ pts last, ∀ ρ, F_law_led [.d (.int w), .d (ptD x), .d (fr a0 a1), .d (fr b0 b1)] ρ = .ok (.d (ptD (led x))) ρ
  gd : ∃ K L : Int, 0 < K ∧ 0 < L ∧ ∀ x ∈ pts last, Gd K L f (pl G) (x, led x)
  zr : f = zf → (pl G).l = z8
theorem Mv.mult {G : Fm} (m : Mv w f G a0 a1 b0 b1 last led) (ρ : Hs) : F_law_multiple [.d (.tup f.l), .d (.tup (pl G).l), .d (.lst (((pts last).map fun x => (x, led x)).map prD))] ρ = .ok (.d (.bl true)) ρ := by
  obtain ⟨K, L, hK, hL, h⟩ := m.gd
  refine multiple_ok hK hL m.hf (pl_fb m.hg) ρ _ (fun p hp => ?_) (fun hz => m.zr (pts_zero f last fun x hx => ?_))
  · obtain ⟨x, hx, rfl⟩ := List.mem_map.mp hp
    exact h x hx
  · exact hz (x, led x) (List.mem_map.mpr ⟨x, hx, rfl⟩)
end
section
variable {f G : Fm} {a0 a1 b0 b1 w : Int} {last : R4} {led : R4 → R4}
set_option maxHeartbeats 4000000 in
theorem right_023 (ρ : Hs) (m : Mv w f G a0 a1 b0 b1 last led) (hw1 : ¬ w = 1) (hw4 : ¬ w = 4) (hn : Bd 31 a0 ∧ Bd 31 b0)
    (bk : ∀ ρ, F_law_moved [.d (.int w), .d (frm (pl G)), .d (fr (-a0) a1), .d (fr (-b0) b1)] ρ = .ok (.d (toldD (pl f))) ρ) :
    F_law_move_right [.d (.int w), .d (.tup f.l), .d (fr a0 a1), .d (fr b0 b1), .d (ptD last)] ρ = .ok (.d (.bl true)) ρ := by
  have ik := init_t (f := f) ρ
  have mv := m.mv ρ
  have pn := plainn_ok ρ G (m.hg.up (by decide))
  have pt := points_ok (ρ ++ [.lst []]) last
  obtain ⟨y, el⟩ := pairs_loop ρ w (fr a0 a1) (fr b0 b1) led (some (.d (.tup f.l))) (some (.d (ptD last))) (some (.d (frm f))) (some (.d (toldD (pl G)))) (some (.d (.tup (pl G).l))) none (pts last) [] none m.ld (by show 0 + 9 < 1000; decide)
  have mu := m.mult (ρ ++ [.x])
  have bk' := bk (ρ ++ [.x])
  have s1 := same_f (ρ ++ [.x]) f m.hf
  have s2 := same_f (ρ ++ [.x]) (pl f) (pl_fb m.hf)
  have lp := lplain_ok (ρ ++ [.x]) f (m.hf.up (by decide))
  have nn : (((pts last).map fun x => (x, led x)).map prD).length = 9 := rfl
  obtain ⟨n1, n2⟩ := hn
  generalize ((pts last).map fun x => (x, led x)).map prD = M at *
  generalize (pts last).map ptD = Q at *
  generalize ptD last = lastD at *
  generalize hp : pl f = pf at *
  generalize pl G = pG at *
  unfold F_law_move_right
  unfold toldD frm fr at *
  generalize f.l = fl at *
  simp at el
  simp [x_fun, hw1, hw4, ik, mv, pn, pt, el, mu, bk', s1, s2, lp, sz_e, fIsC]
set_option maxHeartbeats 4000000 in
theorem right_1 (ρ : Hs) (m : Mv 1 f G a0 a1 b0 b1 last led) (hn : Bd 31 a0 ∧ Bd 31 b0) (ha : 0 < a0)
    (bk : ∀ ρ, F_law_moved [.d (.int 1), .d (frm (pl G)), .d (fr a1 a0), .d (fr b1 b0)] ρ = .ok (.d (toldD (pl f))) ρ) :
    F_law_move_right [.d (.int 1), .d (.tup f.l), .d (fr a0 a1), .d (fr b0 b1), .d (ptD last)] ρ = .ok (.d (.bl true)) ρ := by
  have ik := init_t (f := f) ρ
  have mv := m.mv ρ
  have pn := plainn_ok ρ G (m.hg.up (by decide))
  have pt := points_ok (ρ ++ [.lst []]) last
  obtain ⟨y, el⟩ := pairs_loop ρ 1 (fr a0 a1) (fr b0 b1) led (some (.d (.tup f.l))) (some (.d (ptD last))) (some (.d (frm f))) (some (.d (toldD (pl G)))) (some (.d (.tup (pl G).l))) none (pts last) [] none m.ld (by show 0 + 9 < 1000; decide)
  have mu := m.mult (ρ ++ [.x])
  have bk' := bk (ρ ++ [.x])
  have bz := bad0 (f := pl G) (a0 := -a0) (a1 := a1) (ρ ++ [.x]) (fr (-b0) b1) (by omega)
  have s1 := same_f (ρ ++ [.x]) f m.hf
  have s2 := same_f (ρ ++ [.x]) (pl f) (pl_fb m.hf)
  have lp := lplain_ok (ρ ++ [.x]) f (m.hf.up (by decide))
  have nn : (((pts last).map fun x => (x, led x)).map prD).length = 9 := rfl
  obtain ⟨n1, n2⟩ := hn
  generalize ((pts last).map fun x => (x, led x)).map prD = M at *
  generalize (pts last).map ptD = Q at *
  generalize ptD last = lastD at *
  generalize hp : pl f = pf at *
  generalize pl G = pG at *
  unfold F_law_move_right
  unfold toldD frm fr at *
  generalize f.l = fl at *
  simp at el
  simp [x_fun, ik, mv, pn, pt, el, mu, bk', bz, s1, s2, lp, sz_e, fIsC]
set_option maxHeartbeats 4000000 in
theorem right_4 (ρ : Hs) (m : Mv 4 f G a0 a1 b0 b1 last led) (hn : Bd 31 a0 ∧ Bd 31 b0) (h3 : f.c3 = 0) (h4 : f.c4 = 0) (g3 : (pl G).c3 = 0) (g4 : (pl G).c4 = 0) (X Y Z : Fm)
    (bz : ∀ ρ, F_law_moved [.d (.int 4), .d (frm (pl G)), .d (fr (-a0) a1), .d (fr (-b0) b1)] ρ = .ok (.d (toldD Z)) ρ)
    (b1' : ∀ ρ, F_turn_form [.d (frm (pl G))] ρ = .ok (.d (frm X)) ρ) (b2' : ∀ ρ, F_turn_form [.d (frm X)] ρ = .ok (.d (frm Y)) ρ) (b3' : ∀ ρ, F_turn_form [.d (frm Y)] ρ = .ok (.d (frm (pl f))) ρ) :
    F_law_move_right [.d (.int 4), .d (.tup f.l), .d (fr a0 a1), .d (fr b0 b1), .d (ptD last)] ρ = .ok (.d (.bl true)) ρ := by
  have ik := init_t (f := f) ρ
  have mv := m.mv ρ
  have pn := plainn_ok ρ G (m.hg.up (by decide))
  have pt := points_ok (ρ ++ [.lst []]) last
  obtain ⟨y, el⟩ := pairs_loop ρ 4 (fr a0 a1) (fr b0 b1) led (some (.d (.tup f.l))) (some (.d (ptD last))) (some (.d (frm f))) (some (.d (toldD (pl G)))) (some (.d (.tup (pl G).l))) none (pts last) [] none m.ld (by show 0 + 9 < 1000; decide)
  have mu := m.mult (ρ ++ [.x])
  have bz := bz (ρ ++ [.x])
  have b1' := b1' (ρ ++ [.x])
  have b2' := b2' (ρ ++ [.x])
  have b3' := b3' (ρ ++ [.x])
  have s1 := same_f (ρ ++ [.x]) f m.hf
  have s2 := same_f (ρ ++ [.x]) (pl f) (pl_fb m.hf)
  have lp := lplain_ok (ρ ++ [.x]) f (m.hf.up (by decide))
  have nn : (((pts last).map fun x => (x, led x)).map prD).length = 9 := rfl
  obtain ⟨n1, n2⟩ := hn
  generalize ((pts last).map fun x => (x, led x)).map prD = M at *
  generalize (pts last).map ptD = Q at *
  generalize ptD last = lastD at *
  generalize hp : pl f = pf at *
  have fl3 : f.l = [.int f.c0, .int f.c1, .int f.c2, .int 0, .int 0, .int f.e, .int f.b, .int f.a] := by
    rw [show f.l = [.int f.c0, .int f.c1, .int f.c2, .int f.c3, .int f.c4, .int f.e, .int f.b, .int f.a] from rfl, h3, h4]
  have fz' := fNe_self (d := .tup [.int 0, .int 0]) (by simp) (by simp)
  generalize pl G = pG at *
  have gl : pG.l = [.int pG.c0, .int pG.c1, .int pG.c2, .int 0, .int 0, .int pG.e, .int pG.b, .int pG.a] := by
    rw [show pG.l = [.int pG.c0, .int pG.c1, .int pG.c2, .int pG.c3, .int pG.c4, .int pG.e, .int pG.b, .int pG.a] from rfl, g3, g4]
  unfold F_law_move_right
  unfold toldD frm fr at *
  rw [gl] at mv pn el mu bz b1'
  rw [fl3] at ik mv el mu s1 lp ⊢
  simp at el
  simp [x_fun, Px.cutD, HT.sIx, ik, mv, pn, pt, el, mu, bz, b1', b2', b3', s1, s2, lp, sz_e, fIsC, fz']
set_option maxHeartbeats 4000000 in
theorem right_4n (ρ : Hs) (A B : D) (h : ¬ (f.c3 = 0 ∧ f.c4 = 0)) (X : D) :
    F_law_move_right [.d (.int 4), .d (.tup f.l), .d A, .d B, .d X] ρ = .ok (.d (.bl true)) ρ := by
  have ik := init_t (f := f) ρ
  have mv := bad4 ρ A B h
  have s1 := same_b ρ "curved" 0 (.inr rfl) (.inl rfl)
  unfold F_law_move_right
  unfold frm at *
  simp only [Fm.l] at *
  by_cases h3 : f.c3 = 0
  · have h4 : ¬ f.c4 = 0 := fun q => h ⟨h3, q⟩
    simp [x_fun, ik, mv, s1, sz_e, h4]
  · simp [x_fun, ik, mv, s1, sz_e, h3]
end
end K06

set_option exponentiation.threshold 4000
namespace K06
open PySem L2 Px
theorem near_ok (p : List Int) (hp : p ≠ []) (m : Int) (ρt : Hs) (h : 0 ≤ m) (hm : m < 2 ^ 900) :
    ∃ (d : Int) (q : List Int), F_law_near [.own 0, .d (.int m)] (izs p :: ρt) = .ok (.d (.int d)) (izs q :: ρt) ∧ -m ≤ d ∧ d ≤ m ∧ q ≠ [] := by
  obtain ⟨d, q, e, h1, h2, h3⟩ := take_ok p hp (2 * m + 1) ρt (by omega) (by omega)
  have bm : Bd 900 m := Bd.of (by omega) hm
  have b2 : Bd 2 (2 : Int) := ⟨by decide⟩
  have f1 : d.fmod 2 = d % 2 := Int.fmod_eq_emod_of_nonneg _ (by decide)
  have f2 : d.fdiv 2 = d / 2 := Int.fdiv_eq_ediv_of_nonneg _ (by decide)
  have e0 : F_law_take = Ftake := rfl
  have bd : Bd 902 d := Bd.of (by omega) (by omega)
  by_cases c : d % 2 = 1
  · refine ⟨d / 2 + 1, q, ?_, by omega, by omega, h3⟩
    unfold F_law_near
    simp [x_fun, e0, e, sz_e, f1, f2, c]
  · refine ⟨-(d / 2), q, ?_, by omega, by omega, h3⟩
    unfold F_law_near
    simp [x_fun, e0, e, sz_e, f1, f2, c]
def S9 (L : Int) (y : D) : Prop := ∃ v : Int, y = .int v ∧ -L ≤ v ∧ v ≤ L
theorem num_comp (p : List Int) (hp : p ≠ []) (L : Int) (h0 : 0 ≤ L) (hL : L ≤ 1000000000) (ks : List Int) (δ : Sto) (h : δ.length = 8) (g0 : δ[0]? = some (some (.own 0))) (g1 : δ[1]? = some (some (.d (.int L)))) :
    ∃ (vs q : List Int), cLoop (cSet 6) bYes C_law_numbers_1 δ (ks.map D.int) [izs p] [] = .ok (vs.map D.int) [izs q] ∧ vs.length = ks.length ∧ q ≠ [] ∧ ∀ v ∈ vs, -L ≤ v ∧ v ≤ L := by
  obtain ⟨ys, ρ1, e, k1, k2, q, hq, rfl⟩ := cl_inv (I := fun ρ => ∃ q, q ≠ [] ∧ ρ = [izs q]) (P := S9 L) (fa := C_law_numbers_1) (gt := cSet 6) (t := bYes) (δ := δ) (ds := ks.map D.int) (acc := []) (ρ := [izs p]) (fun d hd ρ ⟨q, hq, hq2⟩ => by
    subst hq2
    obtain ⟨m, _, rfl⟩ := List.mem_map.mp hd
    obtain ⟨v, q', e, v1, v2, v3⟩ := near_ok q hq L [] h0 (by omega)
    refine ⟨_, .int v, [izs q'], rfl, rfl, ?_, ⟨v, rfl, v1, v2⟩, q', v3, rfl⟩
    have k0 : (δ.set 6 (some (.d (.int m))))[0]? = some (some (.own 0)) := by simp [g0]
    have k1 : (δ.set 6 (some (.d (.int m))))[1]? = some (some (.d (.int L))) := by simp [g1]
    unfold C_law_numbers_1
    simp [k0, k1, g0, g1, e]) ⟨p, hp, rfl⟩
  have key : ∀ ys : List D, (∀ y ∈ ys, S9 L y) → ∃ vs : List Int, ys = vs.map D.int ∧ ∀ v ∈ vs, -L ≤ v ∧ v ≤ L := by
    intro ys
    induction ys with
    | nil => exact fun _ => ⟨[], rfl, fun v hv => by cases hv⟩
    | cons y ys ih =>
      intro hy
      obtain ⟨v, rfl, v1, v2⟩ := hy y (by simp)
      obtain ⟨vs, rfl, h2⟩ := ih fun z hz => hy z (by simp [hz])
      refine ⟨v :: vs, rfl, fun u hu => ?_⟩
      rcases List.mem_cons.mp hu with rfl | hu
      · exact ⟨v1, v2⟩
      · exact h2 u hu
  obtain ⟨vs, rfl, hv⟩ := key ys k2
  exact ⟨vs, q, by simpa using e, by simpa using k1, hq, hv⟩
theorem out_loop (q ks vs : List Int) (x0 x1 x2 x3 : Option SV) (hk : ∀ j ∈ ks, 0 ≤ j ∧ j ≤ 7) (hv : ∀ v ∈ vs, -1000000000 ≤ v ∧ v ≤ 1000000000) (hl : vs.length = ks.length) : ∀ (n k : Nat) (out : List Int) (y6 : Option SV), k + n = ks.length → out.length = 8 → (∀ v ∈ out, -1000000000 ≤ v ∧ v ≤ 1000000000) →
    ∃ out' z6, sLoop (gSet 6) L_law_numbers_1 (ups (k : Int) n) [x0, x1, x2, x3, some (.d (.lst (ks.map D.int))), some (.d (.lst (vs.map D.int))), y6, some (.own 1)] [izs q, izs out] =
      .nx [x0, x1, x2, x3, some (.d (.lst (ks.map D.int))), some (.d (.lst (vs.map D.int))), z6, some (.own 1)] [izs q, izs out'] ∧ out'.length = 8 ∧ ∀ v ∈ out', -1000000000 ≤ v ∧ v ≤ 1000000000
  | 0, k, out, y6, _, h8, ho => ⟨out, y6, by simp, h8, ho⟩
  | n + 1, k, out, y6, hn, h8, ho => by
    have lk : k < ks.length := by omega
    have lv : k < vs.length := by omega
    obtain ⟨j1, j2⟩ := hk ks[k] (List.getElem_mem lk)
    obtain ⟨v1, v2⟩ := hv vs[k] (List.getElem_mem lv)
    obtain ⟨j, hj⟩ : ∃ j : Nat, ks[k] = (j : Int) := ⟨ks[k].toNat, by omega⟩
    have e1 : ks[k]? = some (j : Int) := by rw [List.getElem?_eq_getElem lk, hj]
    have e2 : vs[k]? = some vs[k] := List.getElem?_eq_getElem lv
    have j8 : j < out.length := by omega
    generalize vs[k] = v at *
    obtain ⟨out', z6, ih, i1, i2⟩ := out_loop q ks vs x0 x1 x2 x3 hk hv hl n (k + 1) (out.set j v) (some (.d (.int (k : Int)))) (by omega) (by simpa using h8) (fun u hu => by
      rcases List.mem_or_eq_of_mem_set hu with z | rfl
      · exact ho u z
      · exact ⟨v1, v2⟩)
    refine ⟨out', z6, ?_, i1, i2⟩
    have one : L_law_numbers_1 [x0, x1, x2, x3, some (.d (.lst (ks.map D.int))), some (.d (.lst (vs.map D.int))), some (.d (.int (k : Int))), some (.own 1)] [izs q, izs out] =
        .nx [x0, x1, x2, x3, some (.d (.lst (ks.map D.int))), some (.d (.lst (vs.map D.int))), some (.d (.int (k : Int))), some (.own 1)] [izs q, izs (out.set j v)] := by
      unfold L_law_numbers_1
      simp [x_fun, e1, e2, j8, izs, izsO, List.map_set]
    rw [show ups (k : Int) (n + 1) = .int (k : Int) :: ups ((k : Int) + 1) n from rfl]
    simp only [loop_cons, x_gset, lpA_some, List.set_cons_succ, List.set_cons_zero]
    rw [one, lpB_nx]
    rw [Int.natCast_add] at ih
    exact ih
end K06

set_option exponentiation.threshold 4000
namespace K06
open PySem L2 Px
theorem eight {out : List Int} (hl : out.length = 8) (h : ∀ v ∈ out, -1000000000 ≤ v ∧ v ≤ 1000000000) : ∃ f : Fm, out.map D.int = f.l ∧ Fb 31 f := by
  match out, hl with
  | [v0, v1, v2, v3, v4, v5, v6, v7], _ =>
    have k : ∀ v : Int, -1000000000 ≤ v ∧ v ≤ 1000000000 → Bd 31 v := fun v h => Bd.of (by omega) (by omega)
    exact ⟨⟨v0, v1, v2, v3, v4, v5, v6, v7⟩, rfl, k _ (h v0 (by simp)), k _ (h v1 (by simp)), k _ (h v2 (by simp)), k _ (h v3 (by simp)), k _ (h v4 (by simp)), k _ (h v5 (by simp)), k _ (h v6 (by simp)), k _ (h v7 (by simp))⟩
theorem tail_ok (p : List Int) (hp : p ≠ []) (L : Int) (h0 : 0 ≤ L) (hL : L ≤ 1000000000) (ks : List Int) (hk : ∀ j ∈ ks, 0 ≤ j ∧ j ≤ 7) (hn : ks.length ≤ 8) (x2 x3 : Option SV) :
    ∃ (f : Fm) (q out : List Int), T_law_numbers_1 [some (.own 0), some (.d (.int L)), x2, x3, some (.d (.lst (ks.map D.int))), none, none, none] [izs p] = .rt (.d (.tup f.l)) [izs q, izs out] ∧ q ≠ [] ∧ Fb 31 f := by
  obtain ⟨vs, q, e, hl, hq, hv⟩ := num_comp p hp L h0 hL ks [some (.own 0), some (.d (.int L)), x2, x3, some (.d (.lst (ks.map D.int))), none, none, none] rfl rfl rfl
  obtain ⟨out, z6, e2, o1, o2⟩ := out_loop q ks vs (some (.own 0)) (some (.d (.int L))) x2 x3 hk (fun v h => by have := hv v h; omega) hl ks.length 0 [0, 0, 0, 0, 0, 0, 0, 0] none (by omega) rfl (by decide)
  obtain ⟨f, hf, hb⟩ := eight o1 o2
  refine ⟨f, q, out, ?_, hq, hb⟩
  have n1 : ks.length ≤ 1000000 := by omega
  have n2 : ks.length < 1000000 := by omega
  have n3 : (ks.length : Int) ≤ 1000000000000000 := by omega
  have z8' : izs [0, 0, 0, 0, 0, 0, 0, 0] = .lst [.d (.int 0), .d (.int 0), .d (.int 0), .d (.int 0), .d (.int 0), .d (.int 0), .d (.int 0), .d (.int 0)] := rfl
  rw [z8'] at e2
  rw [show ((0 : Nat) : Int) = 0 from rfl] at e2
  have fm : O.flat (out.map (O.d ∘ D.int)) = some (out.map D.int) := by
    rw [← List.map_map]
    exact flat_map
  have s8 : seqL [izs q, izs out] (.own 1) = some f.l := by
    rw [← hf]
    simp [izs, izsO, fm]
  have s9 : seqA [izs q, izs out] (.own 1) = some f.l := by
    rw [← hf]
    simp [izs, izsO, fm]
  generalize f.l = fl at *
  unfold T_law_numbers_1
  simp [x_fun, sz_e, e, n1, n2, n3, ups_s]
  rw [e2]
  have fl' : O.flat (out.map fun d => O.d (D.int d)) = some fl := by
    rw [← hf]
    exact fm
  simp [x_fun, sz_e, s8, s9, izs, izsO, fm, hf]
def kps (kind front : Int) : List Int :=
  if kind = 1 then [0, 1, 5] else if kind = 2 then [0, 1, 2, 5, 6, 7] else if kind = 3 then [0, 1, 2, 3, 4, 5] else if kind = 4 then List.replicate (front / 2).toNat 0 else if kind = 5 then [0, 1, 2, 3, 4, 5, 6, 7].drop front.toNat else if kind = 6 then [front] else [0, 1, 2, 3, 4, 5, 6, 7]
instance bn9 : Bd 30 (1000000000 : Int) := ⟨by decide⟩
set_option maxHeartbeats 4000000 in
theorem numbers_ok (p : List Int) (hp : p ≠ []) : ∃ (f : Fm) (q : List Int), F_law_numbers [.own 0] [izs p] = .ok (.d (.tup f.l)) [izs q] ∧ q ≠ [] ∧ Fb 31 f := by
  have e0 : F_law_take = Ftake := rfl
  obtain ⟨d1, p1, e1, l1, u1, h1⟩ := take_ok p hp 3 [] (by decide) (by decide)
  obtain ⟨kind, p2, e2, l2, u2, h2⟩ := take_ok p1 h1 8 [] (by decide) (by decide)
  obtain ⟨front, p3, e3, l3, u3, h3⟩ := take_ok p2 h2 8 [] (by decide) (by decide)
  have g1 : ∃ L : Int, 0 ≤ L ∧ L ≤ 1000000000 ∧ atI [D.int 3, .int 30, .int 1000000000] d1 = some (.int L) := by
    have : d1 = 0 ∨ d1 = 1 ∨ d1 = 2 := by omega
    rcases this with rfl | rfl | rfl
    · exact ⟨3, by decide, by decide, rfl⟩
    · exact ⟨30, by decide, by decide, rfl⟩
    · exact ⟨1000000000, by decide, by decide, rfl⟩
  obtain ⟨L, L0, L1, eL⟩ := g1
  have key : ∀ ks : List Int, (∀ j ∈ ks, 0 ≤ j ∧ j ≤ 7) → ks.length ≤ 8 → ∃ (f : Fm) (q out : List Int), T_law_numbers_1 [some (.own 0), some (.d (.int L)), some (.d (.int kind)), some (.d (.int front)), some (.d (.lst (ks.map D.int))), none, none, none] [izs p3] = .rt (.d (.tup f.l)) [izs q, izs out] ∧ q ≠ [] ∧ Fb 31 f :=
    fun ks h1 h2 => tail_ok p3 h3 L L0 L1 ks h1 h2 _ _
  have fr : front = 0 ∨ front = 1 ∨ front = 2 ∨ front = 3 ∨ front = 4 ∨ front = 5 ∨ front = 6 ∨ front = 7 := by omega
  have kd : kind = 0 ∨ kind = 1 ∨ kind = 2 ∨ kind = 3 ∨ kind = 4 ∨ kind = 5 ∨ kind = 6 ∨ kind = 7 := by omega
  have kb : (∀ j ∈ kps kind front, 0 ≤ j ∧ j ≤ 7) ∧ (kps kind front).length ≤ 8 := by
    rcases kd with rfl | rfl | rfl | rfl | rfl | rfl | rfl | rfl <;> rcases fr with rfl | rfl | rfl | rfl | rfl | rfl | rfl | rfl <;> decide
  obtain ⟨f, q, out, e4, hq, hb⟩ := key _ kb.1 kb.2
  refine ⟨f, q, ?_, hq, hb⟩
  have b1 : Bd 3 kind := Bd.of (by omega) (by omega)
  have b2 : Bd 3 front := Bd.of (by omega) (by omega)
  generalize f.l = fl at *
  unfold F_law_numbers
  rcases kd with rfl | rfl | rfl | rfl | rfl | rfl | rfl | rfl
  · simp [kps] at e4
    simp [x_fun, sz_e, e0, e1, e2, e3, eL, e4]
  · simp [kps] at e4
    simp [x_fun, sz_e, e0, e1, e2, e3, eL, e4]
  · simp [kps] at e4
    simp [x_fun, sz_e, e0, e1, e2, e3, eL, e4]
  · simp [kps] at e4
    simp [x_fun, sz_e, e0, e1, e2, e3, eL, e4]
  · rcases fr with rfl | rfl | rfl | rfl | rfl | rfl | rfl | rfl <;> (simp [kps] at e4; simp [x_fun, sz_e, e0, e1, e2, e3, eL, e4])
  · rcases fr with rfl | rfl | rfl | rfl | rfl | rfl | rfl | rfl <;> (simp [kps] at e4; simp [x_fun, Px.cutD, HT.sIx, sz_e, e0, e1, e2, e3, eL, e4])
  · simp [kps] at e4
    simp [x_fun, sz_e, e0, e1, e2, e3, eL, e4]
  · simp [kps] at e4
    simp [x_fun, sz_e, e0, e1, e2, e3, eL, e4]
end K06

set_option exponentiation.threshold 4000
namespace K06
open PySem L2 Px
section
variable {f : Fm} {a0 a1 b0 b1 : Int} {last : R4}
theorem sh_fb (h : Fb 31 f) (ha : Fr a0 a1) (hb : Fr b0 b1) : Fb 400 (Sh f (-a0) a1 (-b0) b1) := by
  obtain ⟨n1, d1, p1⟩ := ha
  obtain ⟨n2, d2, p2⟩ := hb
  obtain ⟨b0, b1, b2, b3, b4, b5, b6, b7⟩ := h
  have b2' : Bd 3 (2 : Int) := ⟨by decide⟩
  constructor <;> (simp only [Sh, Tp]; exact Bd.up inferInstance (by decide))
theorem sc_fb (h : Fb 31 f) (ha : Fr a0 a1) (hb : Fr b0 b1) : Fb 400 (Sc f a0 a1 b0 b1) := by
  obtain ⟨n1, d1, p1⟩ := ha
  obtain ⟨n2, d2, p2⟩ := hb
  obtain ⟨b0, b1, b2, b3, b4, b5, b6, b7⟩ := h
  constructor <;> (simp only [Sc]; exact Bd.up inferInstance (by decide))
theorem pts_rg (h : RG 8 last) : ∀ x ∈ pts last, RG 8 x := by
  intro x hx
  simp [pts] at hx
  rcases hx with rfl | rfl | rfl | rfl | rfl | rfl | rfl | rfl | rfl
  iterate 8 exact ⟨⟨by decide⟩, ⟨by decide⟩, ⟨by decide⟩, ⟨by decide⟩, by decide, by decide⟩
  exact h
theorem pl_zf : (pl zf).l = z8 := rfl
theorem Fr.neg (h : Fr a0 a1) : Fr (-a0) a1 := ⟨@Bd.neg _ _ h.n, h.d, h.h⟩
theorem mv0 (h : Fb 31 f) (ha : Fr a0 a1) (hb : Fr b0 b1) (hl : RG 8 last) : Mv 0 f (Sh f (-a0) a1 (-b0) b1) a0 a1 b0 b1 last (ledS a0 a1 b0 b1) := by
  refine ⟨h.up (by decide), sh_fb h ha hb, fun ρ => moved0 ρ (h.up (by decide)) ha hb, fun x hx ρ => ledS_ok ρ ha hb (pts_rg hl x hx), ?_, ?_⟩
  · obtain ⟨K, L, k, l, g⟩ := gdS f ha hb
    exact ⟨K, L, k, l, fun x hx => g x (pts_rg hl x hx)⟩
  · rintro rfl
    have : Sh zf (-a0) a1 (-b0) b1 = zf := by simp [Sh, Tp, zf]
    rw [this]
    exact pl_zf
theorem mv1 (h : Fb 31 f) (ha : Fr a0 a1) (hb : Fr b0 b1) (ha0 : 0 < a0) (hb0 : 0 < b0) (hl : RG 8 last) : Mv 1 f (Sc f a0 a1 b0 b1) a0 a1 b0 b1 last (ledC a0 a1 b0 b1) := by
  refine ⟨h.up (by decide), sc_fb h ha hb, fun ρ => moved1 ρ (h.up (by decide)) ha hb ha0 hb0, fun x hx ρ => ledC_ok ρ ha hb (pts_rg hl x hx), ?_, ?_⟩
  · obtain ⟨K, L, k, l, g⟩ := gdC f ha hb ha0 hb0
    exact ⟨K, L, k, l, fun x hx => g x (pts_rg hl x hx)⟩
  · rintro rfl
    have : Sc zf a0 a1 b0 b1 = zf := by simp [Sc, zf]
    rw [this]
    exact pl_zf
theorem mv2 (h : Fb 31 f) (hl : RG 8 last) : Mv 2 f (Mx f) a0 a1 b0 b1 last ledX := by
  refine ⟨h.up (by decide), mx_fb (h.up (by decide)), fun ρ => moved2 ρ (h.up (by decide)) _ _, fun x hx ρ => ledX_ok ρ _ _, ?_, ?_⟩
  · obtain ⟨K, L, k, l, g⟩ := gdX f
    exact ⟨K, L, k, l, fun x hx => g x (pts_rg hl x hx)⟩
  · rintro rfl
    exact pl_zf
theorem mv3 (h : Fb 31 f) (hl : RG 8 last) : Mv 3 f (My f) a0 a1 b0 b1 last ledY := by
  refine ⟨h.up (by decide), my_fb (h.up (by decide)), fun ρ => moved3 ρ (h.up (by decide)) _ _, fun x hx ρ => ledY_ok ρ _ _, ?_, ?_⟩
  · obtain ⟨K, L, k, l, g⟩ := gdY f
    exact ⟨K, L, k, l, fun x hx => g x (pts_rg hl x hx)⟩
  · rintro rfl
    exact pl_zf
theorem mv4 (h : Fb 31 f) (hl : RG 8 last) (h3 : f.c3 = 0) (h4 : f.c4 = 0) : Mv 4 f (Tn f) a0 a1 b0 b1 last ledT := by
  refine ⟨h.up (by decide), tn_fb (h.up (by decide)) (by decide), fun ρ => moved4 ρ (h.up (by decide)) _ _ h3 h4, fun x hx ρ => ledT_ok ρ _ _, ?_, ?_⟩
  · obtain ⟨K, L, k, l, g⟩ := gdT f h3 h4
    exact ⟨K, L, k, l, fun x hx => g x (pts_rg hl x hx)⟩
  · rintro rfl
    exact pl_zf
theorem mx_sm (k : Int) (f : Fm) : Mx (sm k f) = sm k (Mx f) := by simp only [Mx, sm, Int.mul_neg]
theorem my_sm (k : Int) (f : Fm) : My (sm k f) = sm k (My f) := by simp only [My, sm, Int.mul_neg]
theorem tn_sm (k : Int) (f : Fm) : Tn (sm k f) = sm k (Tn f) := by simp only [Tn, sm, Int.mul_neg, Int.mul_zero]
theorem ev_mx {f g : Fm} (h : Ev f g) : Ev (Mx f) (Mx g) := by
  obtain ⟨k, l, h1, h2, h3⟩ := h
  exact ⟨k, l, h1, h2, by rw [← mx_sm, ← mx_sm, h3]⟩
theorem ev_my {f g : Fm} (h : Ev f g) : Ev (My f) (My g) := by
  obtain ⟨k, l, h1, h2, h3⟩ := h
  exact ⟨k, l, h1, h2, by rw [← my_sm, ← my_sm, h3]⟩
theorem ev_tn {f g : Fm} (h : Ev f g) : Ev (Tn f) (Tn g) := by
  obtain ⟨k, l, h1, h2, h3⟩ := h
  exact ⟨k, l, h1, h2, by rw [← tn_sm, ← tn_sm, h3]⟩
theorem mx_mx (f : Fm) : Mx (Mx f) = f := by simp only [Mx, Int.neg_neg]
theorem my_my (f : Fm) : My (My f) = f := by simp only [My, Int.neg_neg]
theorem tn4 (f : Fm) (h3 : f.c3 = 0) (h4 : f.c4 = 0) : Tn (Tn (Tn (Tn f))) = f := by
  obtain ⟨c0, c1, c2, c3, c4, e, b, a⟩ := f
  simp only at h3 h4
  subst h3 h4
  simp only [Tn, Int.neg_neg]
theorem pl_c34 (g : Fm) (h3 : g.c3 = 0) (h4 : g.c4 = 0) : (pl g).c3 = 0 ∧ (pl g).c4 = 0 := by
  unfold pl
  split
  · exact ⟨h3, h4⟩
  · exact ⟨by simp only [dv, h3, Int.zero_fdiv], by simp only [dv, h4, Int.zero_fdiv]⟩
theorem right0 (ρ : Hs) (h : Fb 31 f) (ha : Fr a0 a1) (hb : Fr b0 b1) (hl : RG 8 last) : F_law_move_right [.d (.int 0), .d (.tup f.l), .d (fr a0 a1), .d (fr b0 b1), .d (ptD last)] ρ = .ok (.d (.bl true)) ρ := by
  refine right_023 ρ (mv0 h ha hb hl) (by decide) (by decide) ⟨ha.n, hb.n⟩ fun ρ => ?_
  rw [moved0 ρ (pl_fb (sh_fb h ha hb)) ha.neg hb.neg]
  congr 3
  refine pl_eq ((ev_sh (pl_ev _) _ _ _ _).trans ?_)
  rw [sh_sh]
  exact ev_sm (Int.mul_pos (pw ha.h 8) (pw hb.h 4)) _
theorem right1 (ρ : Hs) (h : Fb 31 f) (ha : Fr a0 a1) (hb : Fr b0 b1) (ha0 : 0 < a0) (hb0 : 0 < b0) (hl : RG 8 last) : F_law_move_right [.d (.int 1), .d (.tup f.l), .d (fr a0 a1), .d (fr b0 b1), .d (ptD last)] ρ = .ok (.d (.bl true)) ρ := by
  refine right_1 ρ (mv1 h ha hb ha0 hb0 hl) ⟨ha.n, hb.n⟩ ha0 fun ρ => ?_
  rw [moved1 ρ (pl_fb (sc_fb h ha hb)) ⟨ha.d, ha.n, ha0⟩ ⟨hb.d, hb.n, hb0⟩ ha.h hb.h]
  congr 3
  refine pl_eq ((ev_sc (pl_ev _) _ _ _ _).trans ?_)
  rw [sc_sc]
  exact ev_sm (Int.mul_pos (Int.mul_pos (pw ha0 4) (pw ha.h 4)) (Int.mul_pos (pw hb0 2) (pw hb.h 2))) _
theorem right2 (ρ : Hs) (h : Fb 31 f) (ha : Fr a0 a1) (hb : Fr b0 b1) (hl : RG 8 last) : F_law_move_right [.d (.int 2), .d (.tup f.l), .d (fr a0 a1), .d (fr b0 b1), .d (ptD last)] ρ = .ok (.d (.bl true)) ρ := by
  refine right_023 ρ (mv2 h hl) (by decide) (by decide) ⟨ha.n, hb.n⟩ fun ρ => ?_
  rw [moved2 ρ (pl_fb (mx_fb (h.up (by decide))))]
  congr 3
  refine pl_eq ((ev_mx (pl_ev _)).trans ?_)
  rw [mx_mx]
  exact Ev.refl _
theorem right3 (ρ : Hs) (h : Fb 31 f) (ha : Fr a0 a1) (hb : Fr b0 b1) (hl : RG 8 last) : F_law_move_right [.d (.int 3), .d (.tup f.l), .d (fr a0 a1), .d (fr b0 b1), .d (ptD last)] ρ = .ok (.d (.bl true)) ρ := by
  refine right_023 ρ (mv3 h hl) (by decide) (by decide) ⟨ha.n, hb.n⟩ fun ρ => ?_
  rw [moved3 ρ (pl_fb (my_fb (h.up (by decide))))]
  congr 3
  refine pl_eq ((ev_my (pl_ev _)).trans ?_)
  rw [my_my]
  exact Ev.refl _
theorem right4 (ρ : Hs) (h : Fb 31 f) (ha : Fr a0 a1) (hb : Fr b0 b1) (hl : RG 8 last) : F_law_move_right [.d (.int 4), .d (.tup f.l), .d (fr a0 a1), .d (fr b0 b1), .d (ptD last)] ρ = .ok (.d (.bl true)) ρ := by
  by_cases c : f.c3 = 0 ∧ f.c4 = 0
  · obtain ⟨h3, h4⟩ := c
    have F1 : Fb 400 (pl (Tn f)) := pl_fb (tn_fb (h.up (by decide)) (by decide))
    have F2 : Fb 400 (pl (Tn (pl (Tn f)))) := pl_fb (tn_fb F1 (by decide))
    have F3 : Fb 400 (pl (Tn (pl (Tn (pl (Tn f)))))) := pl_fb (tn_fb F2 (by decide))
    have c1 := pl_c34 (Tn f) rfl rfl
    have c2 := pl_c34 (Tn (pl (Tn f))) rfl rfl
    have c3 := pl_c34 (Tn (pl (Tn (pl (Tn f))))) rfl rfl
    refine right_4 ρ (mv4 h hl h3 h4) ⟨ha.n, hb.n⟩ h3 h4 c1.1 c1.2 (pl (Tn (pl (Tn f)))) (pl (Tn (pl (Tn (pl (Tn f)))))) (pl (Tn (pl (Tn f))))
      (fun ρ => moved4 ρ F1 _ _ c1.1 c1.2) (fun ρ => tn_ok ρ (F1.up (by decide)) c1.1 c1.2) (fun ρ => tn_ok ρ (F2.up (by decide)) c2.1 c2.2) (fun ρ => ?_)
    rw [tn_ok ρ (F3.up (by decide)) c3.1 c3.2]
    congr 3
    refine pl_eq ((ev_tn ((pl_ev _).trans (ev_tn ((pl_ev _).trans (ev_tn (pl_ev _)))))).trans ?_)
    rw [tn4 f h3 h4]
    exact Ev.refl _
  · exact right_4n ρ _ _ c _
end
end K06

set_option exponentiation.threshold 4000
namespace K06
open PySem L2 Px
theorem cut63 {α : Type} (xs : List α) (h : xs.length ≤ 63) : Px.cutD xs none (some 63) = xs := by
  unfold Px.cutD
  have e : HT.sIx xs.length xs.length (some 63) = xs.length := by
    show (if (63 : Int) < 0 then ((63 : Int) + (xs.length : Int)).toNat else min (63 : Int).toNat xs.length) = _
    rw [if_neg (by omega)]
    show min 63 xs.length = _
    omega
  rw [e]
  show (xs.drop 0).take (xs.length - 0) = xs
  simp
theorem pool_comp (ns : List Int) (x y : Option SV) : ∃ q : List Int, cLoop (cSet 2) bYes C_law_pool_1 [x, y, none] (ns.map D.int) [] [] = .ok (q.map D.int) [] ∧ q.length = ns.length := by
  refine ⟨ns.map fun c => (if c < 0 then -c else c).fmod 1000000000000000000000000000000000000000000000000000000000000, ?_, by simp⟩
  rw [cl_map (G := fun d => match d with | .int c => .int ((if c < 0 then -c else c).fmod 1000000000000000000000000000000000000000000000000000000000000) | d => d)]
  · simp
  · intro d hd
    obtain ⟨c, _, rfl⟩ := List.mem_map.mp hd
    refine ⟨_, rfl, rfl, ?_⟩
    unfold C_law_pool_1
    simp
theorem pool_ok (ns : List Int) (hn : ns.length ≤ 63) : ∃ p : List Int, p ≠ [] ∧ F_law_pool [.d (.scr (ns.map D.int))] [] = .ok (.own 0) [izs p] := by
  have cl := cut63 (ns.map D.int) (by simpa using hn)
  obtain ⟨q, hq, hl⟩ := pool_comp ns (some (.d (.scr (ns.map D.int)))) (some (.d (.lst [.int 897932384626433832795028841971693993751058209749445923, .int 781640628620899862803482534211706798, .int 214808651328230664709384460955058223172535, .int 94081284811174502841027019385211055, .int 596446229489549303819644288109756659334461, .int 28475648233786783165271201909145648, .int 566923460348610454326648213393607260249141, .int 27372458700660631558817488152092096, .int 282925409171536436789259036001133053054882, .int 46652138414695194151160943305727036, .int 657595919530921861173819326117931051185480, .int 74462379962749567351885752724891227])))
  have hn' : ns.length ≤ 1000000 := by omega
  have hl' : q.length + 12 ≤ 1000000 := by omega
  refine ⟨q ++ [897932384626433832795028841971693993751058209749445923, 781640628620899862803482534211706798, 214808651328230664709384460955058223172535, 94081284811174502841027019385211055, 596446229489549303819644288109756659334461, 28475648233786783165271201909145648, 566923460348610454326648213393607260249141, 27372458700660631558817488152092096, 282925409171536436789259036001133053054882, 46652138414695194151160943305727036, 657595919530921861173819326117931051185480, 74462379962749567351885752724891227], by simp, ?_⟩
  unfold F_law_pool
  simp [x_fun, sz_e, cl, hq, hn', hl', izs, izsO]

/-- a drawn fraction -/
theorem fr_low {n d : Int} (h1 : -1000000000 ≤ n) (h2 : n ≤ 1000000000) (h3 : 0 < d) (h4 : d ≤ 1000000000) : Fr (lowT n d) (lowB n d) ∧ (0 < n → 0 < lowT n d) := by
  obtain ⟨a, b, c, e, g, _⟩ := low_le (N := 1000000000) h3 h1 h2
  exact ⟨⟨Bd.of (by omega) (by omega), Bd.of (by omega) (by omega), c⟩, g⟩
theorem rg_last {n d m e : Int} (h1 : -40 ≤ n) (h2 : n ≤ 40) (h3 : 0 < d) (h4 : d ≤ 12) (k1 : -40 ≤ m) (k2 : m ≤ 40) (k3 : 0 < e) (k4 : e ≤ 12) : RG 8 ⟨lowT n d, lowB n d, lowT m e, lowB m e⟩ := by
  obtain ⟨a, b, c, x, _, _⟩ := low_le (N := 40) h3 h1 h2
  obtain ⟨a', b', c', x', _, _⟩ := low_le (N := 40) k3 k1 k2
  have k : ∀ v : Int, -256 < v → v < 256 → Bd 8 v := fun v h1 h2 => Bd.of (by omega) (by omega)
  exact ⟨k (lowT n d) (by omega) (by omega), k (lowB n d) (by omega) (by omega), k (lowT m e) (by omega) (by omega), k (lowB m e) (by omega) (by omega), c, c'⟩
theorem low9 (n d : Int) (h3 : 0 < d) (h4 : d ≤ 1000000000) (ρ : Hs) : F_law_low [.d (.int n), .d (.int d)] ρ = .ok (.d (fr (lowT n d) (lowB n d))) ρ :=
  low' ρ n d h3 (Bd.up (n := 31) (Bd.of (by omega) (by omega)) (by decide))
def cn (f : Fm) : Fm := ⟨f.c0, f.c1, f.c2, 0, 0, f.e, f.b, f.a⟩
def c3n (f : Fm) : Fm := ⟨f.c0, f.c1, f.c2, -1, 0, f.e, f.b, f.a⟩
def c4n (f : Fm) : Fm := ⟨f.c0, f.c1, f.c2, 0, -1, f.e, f.b, f.a⟩
theorem cn_fb {f : Fm} (h : Fb 31 f) : Fb 31 (cn f) := ⟨h.h0, h.h1, h.h2, Bd.up (n := 1) (i := 0) (⟨by decide⟩ : Bd 1 (0 : Int)) (by decide), Bd.up (n := 1) (i := 0) (⟨by decide⟩ : Bd 1 (0 : Int)) (by decide), h.h5, h.h6, h.h7⟩
/-- one script's moves -/
structure Mvs (f : Fm) (A B S T X : D) : Prop where
  r0 : ∀ ρ, F_law_move_right [.d (.int 0), .d (.tup f.l), .d A, .d B, .d X] ρ = .ok (.d (.bl true)) ρ
  r1 : ∀ ρ, F_law_move_right [.d (.int 1), .d (.tup f.l), .d S, .d T, .d X] ρ = .ok (.d (.bl true)) ρ
  r2 : ∀ ρ, F_law_move_right [.d (.int 2), .d (.tup f.l), .d A, .d B, .d X] ρ = .ok (.d (.bl true)) ρ
  r3 : ∀ ρ, F_law_move_right [.d (.int 3), .d (.tup f.l), .d A, .d B, .d X] ρ = .ok (.d (.bl true)) ρ
  r4 : ∀ ρ, F_law_move_right [.d (.int 4), .d (.tup f.l), .d A, .d B, .d X] ρ = .ok (.d (.bl true)) ρ
theorem mvs {f : Fm} {a0 a1 b0 b1 s0 s1 t0 t1 : Int} {last : R4} (h : Fb 31 f) (ha : Fr a0 a1) (hb : Fr b0 b1) (hs : Fr s0 s1) (ht : Fr t0 t1) (hs0 : 0 < s0) (ht0 : 0 < t0) (hl : RG 8 last) : Mvs f (fr a0 a1) (fr b0 b1) (fr s0 s1) (fr t0 t1) (ptD last) :=
  ⟨fun ρ => right0 ρ h ha hb hl, fun ρ => right1 ρ h hs ht hs0 ht0 hl, fun ρ => right2 ρ h ha hb hl, fun ρ => right3 ρ h ha hb hl, fun ρ => right4 ρ h ha hb hl⟩
set_option maxHeartbeats 8000000 in
theorem law_end (ns : List Int) (hn : ns.length ≤ 63) : ∃ ρ, F_law [.d (.scr (ns.map D.int))] [] = .ok (.d (.bl true)) ρ := by
  have e0 : F_law_take = Ftake := rfl
  obtain ⟨p0, h0, pe⟩ := pool_ok ns hn
  obtain ⟨f, p1, ne, h1, hf⟩ := numbers_ok p0 h0
  obtain ⟨d2, p2, e2, l2, u2, h2⟩ := take_ok p1 h1 2 [] (by decide) (by decide)
  obtain ⟨d3, p3, e3, l3, u3, h3⟩ := take_ok p2 h2 4 [] (by decide) (by decide)
  have g1 : ∃ L : Int, 1 ≤ L ∧ L ≤ 1000000000 ∧ atI [D.int 30, .int 1000000000] d2 = some (.int L) := by
    have : d2 = 0 ∨ d2 = 1 := by omega
    rcases this with rfl | rfl
    · exact ⟨30, by decide, by decide, rfl⟩
    · exact ⟨1000000000, by decide, by decide, rfl⟩
  obtain ⟨L, L0, L1, eL⟩ := g1
  have g2 : ∃ M : Int, 1 ≤ M ∧ M ≤ 1000000000 ∧ atI [D.int 12, .int 12, .int 12, .int 1000000000] d3 = some (.int M) := by
    have : d3 = 0 ∨ d3 = 1 ∨ d3 = 2 ∨ d3 = 3 := by omega
    rcases this with rfl | rfl | rfl | rfl
    · exact ⟨12, by decide, by decide, rfl⟩
    · exact ⟨12, by decide, by decide, rfl⟩
    · exact ⟨12, by decide, by decide, rfl⟩
    · exact ⟨1000000000, by decide, by decide, rfl⟩
  obtain ⟨M, M0, M1, eM⟩ := g2
  obtain ⟨na, q1, w1, x1, y1, z1⟩ := near_ok p3 h3 L [] (by omega) (by omega)
  obtain ⟨da, q2, w2, x2, y2, z2⟩ := take_ok q1 z1 M [] (by omega) (by omega)
  obtain ⟨nb, q3, w3, x3, y3, z3⟩ := near_ok q2 z2 L [] (by omega) (by omega)
  obtain ⟨db, q4, w4, x4, y4, z4⟩ := take_ok q3 z3 M [] (by omega) (by omega)
  obtain ⟨nS, q5, w5, x5, y5, z5⟩ := take_ok q4 z4 L [] (by omega) (by omega)
  obtain ⟨dS, q6, w6, x6, y6, z6⟩ := take_ok q5 z5 M [] (by omega) (by omega)
  obtain ⟨nT, q7, w7, x7, y7, z7⟩ := take_ok q6 z6 L [] (by omega) (by omega)
  obtain ⟨dT, q8, w8, x8, y8, z8'⟩ := take_ok q7 z7 M [] (by omega) (by omega)
  obtain ⟨nx, q9, w9, x9, y9, z9⟩ := near_ok q8 z8' 40 [] (by omega) (by omega)
  obtain ⟨dx, q10, w10, x10, y10, z10⟩ := take_ok q9 z9 12 [] (by omega) (by omega)
  obtain ⟨ny, q11, w11, x11, y11, z11⟩ := near_ok q10 z10 40 [] (by omega) (by omega)
  obtain ⟨dy, q12, w12, x12, y12, z12⟩ := take_ok q11 z11 12 [] (by omega) (by omega)
  have la := low9 na (1 + da) (by omega) (by omega)
  have lb := low9 nb (1 + db) (by omega) (by omega)
  have lS := low9 (1 + nS) (1 + dS) (by omega) (by omega)
  have lT := low9 (1 + nT) (1 + dT) (by omega) (by omega)
  have lx := low9 nx (1 + dx) (by omega) (by omega)
  have ly := low9 ny (1 + dy) (by omega) (by omega)
  obtain ⟨fa, _⟩ := fr_low (n := na) (d := 1 + da) (by omega) (by omega) (by omega) (by omega)
  obtain ⟨fb, _⟩ := fr_low (n := nb) (d := 1 + db) (by omega) (by omega) (by omega) (by omega)
  obtain ⟨fS, pS⟩ := fr_low (n := 1 + nS) (d := 1 + dS) (by omega) (by omega) (by omega) (by omega)
  obtain ⟨fT, pT⟩ := fr_low (n := 1 + nT) (d := 1 + dT) (by omega) (by omega) (by omega) (by omega)
  have pS := pS (by omega)
  have pT := pT (by omega)
  have rl := rg_last (n := nx) (d := 1 + dx) (m := ny) (e := 1 + dy) (by omega) (by omega) (by omega) (by omega) (by omega) (by omega) (by omega) (by omega)
  have hX : ptD ⟨lowT nx (1 + dx), lowB nx (1 + dx), lowT ny (1 + dy), lowB ny (1 + dy)⟩ = .tup [fr (lowT nx (1 + dx)) (lowB nx (1 + dx)), fr (lowT ny (1 + dy)) (lowB ny (1 + dy))] := rfl
  have m1 := mvs hf fa fb fS fT pS pT rl
  have m2 := mvs (cn_fb hf) fa fb fS fT pS pT rl
  have b3 := fun ρ A B X => right_4n (f := c3n f) ρ A B (by simp [c3n]) X
  have b4 := fun ρ A B X => right_4n (f := c4n f) ρ A B (by simp [c4n]) X
  rw [hX] at m1 m2
  have sf := fun ρ => same_f ρ f (hf.up (by decide))
  have st0 := fun ρ => same_b ρ "step" 0 (.inl rfl) (.inl rfl)
  have st1 := fun ρ => same_b ρ "step" 1 (.inl rfl) (.inr rfl)
  have ik := fun ρ => init_t (f := f) ρ
  have nS0 : -(lowT (1 + nS) (1 + dS)) ≤ 0 := by omega
  have bd1 := fun ρ B => bad0 (f := f) (a0 := 0) (a1 := 1) ρ B (by decide)
  have bd2 := fun ρ B => bad0 (f := f) (a0 := -(lowT (1 + nS) (1 + dS))) (a1 := lowB (1 + nS) (1 + dS)) ρ B nS0
  have bd3 := fun ρ => bad1 (f := f) (a0 := lowT (1 + nS) (1 + dS)) (a1 := lowB (1 + nS) (1 + dS)) (b0 := 0) (b1 := 1) ρ pS (by decide)
  have bd4 := fun ρ => bad1 (f := f) (a0 := lowT (1 + nS) (1 + dS)) (a1 := lowB (1 + nS) (1 + dS)) (b0 := -(lowT (1 + nS) (1 + dS))) (b1 := lowB (1 + nS) (1 + dS)) ρ pS nS0
  have bS := fS.n
  have hl : f.l = [.int f.c0, .int f.c1, .int f.c2, .int f.c3, .int f.c4, .int f.e, .int f.b, .int f.a] := rfl
  have hc : (cn f).l = [.int f.c0, .int f.c1, .int f.c2, .int 0, .int 0, .int f.e, .int f.b, .int f.a] := rfl
  have hc3 : (c3n f).l = [.int f.c0, .int f.c1, .int f.c2, .int (-1), .int 0, .int f.e, .int f.b, .int f.a] := rfl
  have hc4 : (c4n f).l = [.int f.c0, .int f.c1, .int f.c2, .int 0, .int (-1), .int f.e, .int f.b, .int f.a] := rfl
  obtain ⟨r0, r1, r2, r3, r4⟩ := m1
  obtain ⟨k0, k1, k2, k3, k4⟩ := m2
  rw [hl] at ne r0 r1 r2 r3 r4
  rw [hc] at k0 k1 k2 k3 k4
  rw [hc3] at b3
  rw [hc4] at b4
  simp only [hl] at sf ik bd1 bd2 bd3 bd4
  generalize fr (lowT na (1 + da)) (lowB na (1 + da)) = A at *
  generalize fr (lowT nb (1 + db)) (lowB nb (1 + db)) = B at *
  generalize fr (lowT (1 + nT) (1 + dT)) (lowB (1 + nT) (1 + dT)) = T at *
  generalize fr (lowT nx (1 + dx)) (lowB nx (1 + dx)) = X at *
  generalize fr (lowT ny (1 + dy)) (lowB ny (1 + dy)) = Y at *
  generalize lowT (1 + nS) (1 + dS) = S0 at *
  generalize lowB (1 + nS) (1 + dS) = S1 at *
  unfold frm at *
  simp only [hl] at bd1 bd2 bd3 bd4
  generalize f.c0 = c0 at *
  generalize f.c1 = c1 at *
  generalize f.c2 = c2 at *
  generalize f.c3 = c3 at *
  generalize f.c4 = c4 at *
  generalize f.e = e at *
  generalize f.b = b at *
  generalize f.a = a at *
  unfold fr at *
  have ik' := ik [izs q12, O.lst [O.d (D.int c0), O.d (D.int c1), O.d (D.int c2), O.d (D.int (-1)), O.d (D.int 0), O.d (D.int e), O.d (D.int b), O.d (D.int a)],
    O.lst [O.d (D.int c0), O.d (D.int c1), O.d (D.int c2), O.d (D.int 0), O.d (D.int (-1)), O.d (D.int e), O.d (D.int b), O.d (D.int a)]]
  simp at ik'
  refine ⟨[], ?_⟩
  unfold F_law L_law_2 L_law_1 L_law_3 L_law_5 L_law_4
  simp [x_fun, Px.cutD, HT.sIx, sz_e, loop_cons, e0, pe, ne, e2, e3, eL, eM, w1, w2, w3, w4, w5, w6, w7, w8, w9, w10, w11, w12, la, lb, lS, lT, lx, ly, r0, r1, r2, r3, r4, k0, k1, k2, k3, k4, b3, b4, ik', sf, st0, st1, bd1, bd2, bd3, bd4]
end K06

open PySem PySem.W PyProof.Rows in
set_option maxRecDepth 100000 in
set_option maxHeartbeats 0 in
theorem PySem.Challenge.cw_exactrasters_k06_forms_moved_holds : PySem.Challenge.rw_exactrasters_k06_forms_moved.Holds := by
  w_on; o_law; k_head; (case hw => w_witness2)
  k_fill
  refine Px.walkG (l := PySem.Challenge.rw_exactrasters_k06_forms_moved) (n := 63) (k := 9) (x := "script") (F := K06.F_law) rfl (by decide) rfl ⟨rfl, by decide, by decide⟩ (fun w h Y => PySem.W.kIn_of Y) ?F K06.law_end
  case F =>
    intro w mg fa h KX G hmg
    refine' K06.all_mk KX G hmg ?aC0 ?aC1 ?aC2 ?aC3 ?aC4 ?a0 ?l0 ?c0 ?k0 ?a1 ?l1 ?c1 ?k1 ?a2 ?l2 ?c2 ?k2 ?a3 ?l3 ?c3 ?k3 ?a4 ?l4 ?c4 ?k4 ?a5 ?i5 ?l5 ?c5 ?k5 ?a6 ?l6 ?c6 ?k6 ?a7 ?l7 ?c7 ?k7 ?a8 ?i8 ?l8 ?c8 ?k8 ?a9 ?l9 ?c9 ?k9 ?a10 ?l10 ?c10 ?k10 ?a11 ?l11 ?c11 ?k11 ?a12 ?l12 ?c12 ?k12 ?a13 ?l13 ?c13 ?k13 ?a14 ?pa14 ?pb14 ?pc14 ?l14 ?c14 ?k14 ?a15 ?l15 ?c15 ?k15 ?a16 ?l16 ?c16 ?k16 ?a17 ?l17 ?c17 ?k17 ?a18 ?l18 ?c18 ?k18 ?a19 ?l19 ?c19 ?k19 ?a20 ?l20 ?c20 ?k20 ?a21 ?l21 ?c21 ?k21 ?a22 ?l22 ?c22 ?k22 ?a23 ?l23 ?c23 ?k23 ?a24 ?l24 ?c24 ?k24 ?a25 ?l25 ?c25 ?k25 ?a26 ?l26 ?c26 ?k26 ?a27 ?i27 ?ti27 ?l27 ?c27 ?k27 ?a28 ?i28 ?ti28 ?l28 ?c28 ?k28 ?a29 ?i29 ?ti29 ?l29 ?c29 ?k29 ?hd0 ?sa0 ?pg0 ?po0 ?ha0 ?hm0 ?mk0 ?kc0 ?n0_0 ?hd1 ?sa1 ?xo1 ?xb1 ?sB1 ?tT1 ?kC1 ?n1_0 ?n1_1 ?hd2 ?sa2 ?xo2 ?xb2 ?sB2 ?tT2 ?kC2 ?ss2 ?ga2 ?gg2 ?ha2 ?hm2 ?n2_0 ?hd3 ?sa3 ?xo3 ?xb3 ?sB3 ?tT3 ?kC3 ?ss3 ?ga3 ?gg3 ?ha3 ?hm3 ?n3_0 ?cn ?ct ?sf3_2 ?kt2_4 ?kt2_ValueError ?kt2_3 ?kt3_4 ?kt3_ValueError ?kt3_2 ?z0 ?z1 ?z2 ?z3 ?z4 ?z5 ?z6 ?z7 ?z8 ?z9 ?z10 ?z11 ?zg
    (case aC0 => k_is)
    (case aC1 => k_is)
    (case aC2 => k_is)
    (case aC3 => k_is)
    (case aC4 => k_is)
    (case a0 => k_is)
    (case l0 => k_is)
    (case c0 => k_is)
    (case k0 => k_is)
    (case a1 => k_is)
    (case l1 => k_is)
    (case c1 => k_is)
    (case k1 => k_is)
    (case a2 => k_is)
    (case l2 => k_is)
    (case c2 => k_is)
    (case k2 => k_is)
    (case a3 => k_is)
    (case l3 => k_is)
    (case c3 => k_is)
    (case k3 => k_is)
    (case a4 => k_is)
    (case l4 => k_is)
    (case c4 => k_is)
    (case k4 => k_is)
    (case a5 => k_is)
    (case i5 => k_is)
    (case l5 => k_is)
    (case c5 => k_is)
    (case k5 => k_is)
    (case a6 => k_is)
    (case l6 => k_is)
    (case c6 => k_is)
    (case k6 => k_is)
    (case a7 => k_is)
    (case l7 => k_is)
    (case c7 => k_is)
    (case k7 => k_is)
    (case a8 => k_is)
    (case i8 => k_is)
    (case l8 => k_is)
    (case c8 => k_is)
    (case k8 => k_is)
    (case a9 => k_is)
    (case l9 => k_is)
    (case c9 => k_is)
    (case k9 => k_is)
    (case a10 => k_is)
    (case l10 => k_is)
    (case c10 => k_is)
    (case k10 => k_is)
    (case a11 => k_is)
    (case l11 => k_is)
    (case c11 => k_is)
    (case k11 => k_is)
    (case a12 => k_is)
    (case l12 => k_is)
    (case c12 => k_is)
    (case k12 => k_is)
    (case a13 => k_is)
    (case l13 => k_is)
    (case c13 => k_is)
    (case k13 => k_is)
    (case a14 => k_is)
    (case pa14 => k_is)
    (case pb14 => k_is)
    (case pc14 => k_is)
    (case l14 => k_is)
    (case c14 => k_is)
    (case k14 => k_is)
    (case a15 => k_is)
    (case l15 => k_is)
    (case c15 => k_is)
    (case k15 => k_is)
    (case a16 => k_is)
    (case l16 => k_is)
    (case c16 => k_is)
    (case k16 => k_is)
    (case a17 => k_is)
    (case l17 => k_is)
    (case c17 => k_is)
    (case k17 => k_is)
    (case a18 => k_is)
    (case l18 => k_is)
    (case c18 => k_is)
    (case k18 => k_is)
    (case a19 => k_is)
    (case l19 => k_is)
    (case c19 => k_is)
    (case k19 => k_is)
    (case a20 => k_is)
    (case l20 => k_is)
    (case c20 => k_is)
    (case k20 => k_is)
    (case a21 => k_is)
    (case l21 => k_is)
    (case c21 => k_is)
    (case k21 => k_is)
    (case a22 => k_is)
    (case l22 => k_is)
    (case c22 => k_is)
    (case k22 => k_is)
    (case a23 => k_is)
    (case l23 => k_is)
    (case c23 => k_is)
    (case k23 => k_is)
    (case a24 => k_is)
    (case l24 => k_is)
    (case c24 => k_is)
    (case k24 => k_is)
    (case a25 => k_is)
    (case l25 => k_is)
    (case c25 => k_is)
    (case k25 => k_is)
    (case a26 => k_is)
    (case l26 => k_is)
    (case c26 => k_is)
    (case k26 => k_is)
    (case a27 => k_is)
    (case i27 => k_is)
    (case ti27 => k_is)
    (case l27 => k_is)
    (case c27 => k_is)
    (case k27 => k_is)
    (case a28 => k_is)
    (case i28 => k_is)
    (case ti28 => k_is)
    (case l28 => k_is)
    (case c28 => k_is)
    (case k28 => k_is)
    (case a29 => k_is)
    (case i29 => k_is)
    (case ti29 => k_is)
    (case l29 => k_is)
    (case c29 => k_is)
    (case k29 => k_is)
    (case hd0 => k_is)
    (case sa0 => k_is)
    (case pg0 => k_is)
    (case po0 => k_is)
    (case ha0 => k_is)
    (case hm0 => k_is)
    (case mk0 => k_is)
    (case kc0 => k_is)
    (case n0_0 => k_is)
    (case hd1 => k_is)
    (case sa1 => k_is)
    (case xo1 => k_is)
    (case xb1 => decide +kernel)
    (case sB1 => k_is)
    (case tT1 => k_is)
    (case kC1 => k_is)
    (case n1_0 => k_is)
    (case n1_1 => k_is)
    (case hd2 => k_is)
    (case sa2 => k_is)
    (case xo2 => k_is)
    (case xb2 => decide +kernel)
    (case sB2 => k_is)
    (case tT2 => k_is)
    (case kC2 => k_is)
    (case ss2 => k_is)
    (case ga2 => k_is)
    (case gg2 => k_is)
    (case ha2 => k_is)
    (case hm2 => k_is)
    (case n2_0 => k_is)
    (case hd3 => k_is)
    (case sa3 => k_is)
    (case xo3 => k_is)
    (case xb3 => decide +kernel)
    (case sB3 => k_is)
    (case tT3 => k_is)
    (case kC3 => k_is)
    (case ss3 => k_is)
    (case ga3 => k_is)
    (case gg3 => k_is)
    (case ha3 => k_is)
    (case hm3 => k_is)
    (case n3_0 => k_is)
    (case cn => k_is)
    (case ct => k_is)
    (case sf3_2 => k_is)
    (case kt2_4 => kit_is)
    (case kt2_ValueError => kit_is)
    (case kt2_3 => kit_is)
    (case kt3_4 => kit_is)
    (case kt3_ValueError => kit_is)
    (case kt3_2 => kit_is)
    (case z0 => k_is)
    (case z1 => k_is)
    (case z2 => k_is)
    (case z3 => k_is)
    (case z4 => k_is)
    (case z5 => k_is)
    (case z6 => k_is)
    (case z7 => k_is)
    (case z8 => k_is)
    (case z9 => k_is)
    (case z10 => k_is)
    (case z11 => k_is)
    (case zg => k_is)
#print axioms PySem.Challenge.cw_exactrasters_k06_forms_moved_holds

