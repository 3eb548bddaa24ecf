import PyProof.Rows.All
import Wide.All
import OpenK.AllK
import Wide.FinOn
import HandS.ForMost
import HandS.Exc
import HandS.WordsExc
import HandS.IsInst
import HandS.Style
import HandS.NoneIn
import HandS.Text
import HandS.Zip
import HandS.Defaults
import HandS.HeadHook2
import KE.KStateDown
import Lean
import HandS.Head0
import HandS.Head1
import HandS.Head2
import HandS.HeadEnd
import HandS.HeadHook1
import PySem.Challenge.RW_hindsage_k96_whole_direct_judged
set_option Elab.async false
set_option linter.all false
set_option maxRecDepth 100000
set_option maxHeartbeats 4000000
namespace DL
open PySem L2

/-! ### plain data -/
inductive D where
  | non | bl (b : Bool) | int (i : Int) | str (s : Str) | ref (a : Addr) | ty (n : String)
  | tup (xs : List D) | lst (xs : List D) | obj (C : Addr) (ns : List Str) (xs : List D)

def Le (F G : Hp) : Prop := ∀ a o, F a = some o → G a = some o
theorem Le.refl (F : Hp) : Le F F := fun _ _ h => h
theorem Le.trans {F G J : Hp} (a : Le F G) (b : Le G J) : Le F J := fun x o h => b x o (a x o h)
theorem Le.free {F G : Hp} (a : Le F G) {p : Addr} (h : G p = none) : F p = none := by
  cases e : F p with
  | none => rfl
  | some o => rw [a p o e] at h; cases h
theorem Le.new {F : Hp} {p : Addr} {o : HO} (h : F p = none) : Le F (upd F p o) := fun a u e => by
  rw [upd_ne (ne_of_none e h)]; exact e
theorem Le.rd {F G : Hp} (a : Le F G) {p : Addr} {u : HO} (h : Rd F p u) : Rd G p u := by
  rcases h with h | ⟨o, h⟩
  · exact .inl (a _ _ h)
  · exact .inr ⟨o, a _ _ h⟩
theorem Le.sql {K : PySem.W.Frag} {F G : Hp} (a : Le F G) {p : Addr} {xs : List V} (h : SqL K F p xs) : SqL K G p xs := by
  rcases h with h | h
  · exact .inl (a.rd h)
  · exact .inr h
theorem Le.sqt {K : PySem.W.Frag} {F G : Hp} (a : Le F G) {p : Addr} {xs : List V} (h : SqT K F p xs) : SqT K G p xs := by
  rcases h with h | h
  · exact .inl (a.rd h)
  · exact .inr h

mutual
/-- a value bears a datum, over the frozen part of the heap -/
def Rep (K : PySem.W.Frag) (F : Hp) : D → V → Prop
  | .non, v => v = .non
  | .bl b, v => v = .bl b
  | .int i, v => v = .int i
  | .str s, v => v = .str s
  | .ref a, v => v = .ref a
  | .ty n, v => v = .ty n
  | .tup ds, v => ∃ a vs, v = .ref a ∧ SqT K F a vs ∧ Reps K F ds vs
  | .lst ds, v => ∃ a vs, v = .ref a ∧ SqL K F a vs ∧ Reps K F ds vs
  | .obj C ns ds, v => ∃ a dx gs, v = .ref a ∧ F a = some (.ins C dx gs) ∧ gs.map (·.1) = ns ∧ Reps K F ds (gs.map (·.2))
def Reps (K : PySem.W.Frag) (F : Hp) : List D → List V → Prop
  | [], vs => vs = []
  | d :: ds, vs => ∃ v r, vs = v :: r ∧ Rep K F d v ∧ Reps K F ds r
end
section
variable {K : PySem.W.Frag} {F G H : Hp}
mutual
theorem Rep.mono (a : Le F G) : ∀ {d : D} {v : V}, Rep K F d v → Rep K G d v
  | .non, v, h => by unfold Rep at h ⊢; exact h
  | .bl b, v, h => by unfold Rep at h ⊢; exact h
  | .int i, v, h => by unfold Rep at h ⊢; exact h
  | .str s, v, h => by unfold Rep at h ⊢; exact h
  | .ref b, v, h => by unfold Rep at h ⊢; exact h
  | .ty b, v, h => by unfold Rep at h ⊢; exact h
  | .tup ds, v, h => by
    unfold Rep at h ⊢
    obtain ⟨p, vs, e, q, r⟩ := h
    exact ⟨p, vs, e, a.sqt q, Reps.mono a r⟩
  | .lst ds, v, h => by
    unfold Rep at h ⊢
    obtain ⟨p, vs, e, q, r⟩ := h
    exact ⟨p, vs, e, a.sql q, Reps.mono a r⟩
  | .obj C ns ds, v, h => by
    unfold Rep at h ⊢
    obtain ⟨p, dx, gs, e, q, n, r⟩ := h
    exact ⟨p, dx, gs, e, a _ _ q, n, Reps.mono a r⟩
theorem Reps.mono (a : Le F G) : ∀ {ds : List D} {vs : List V}, Reps K F ds vs → Reps K G ds vs
  | [], vs, h => by unfold Reps at h ⊢; exact h
  | d :: ds, vs, h => by
    unfold Reps at h ⊢
    obtain ⟨v, r, e, q, s⟩ := h
    exact ⟨v, r, e, Rep.mono a q, Reps.mono a s⟩
end
theorem Reps.nil : Reps K F [] [] := by unfold Reps; rfl
theorem Reps.cons {d : D} {v : V} {ds : List D} {vs : List V} (h : Rep K F d v) (t : Reps K F ds vs) : Reps K F (d :: ds) (v :: vs) := by
  unfold Reps; exact ⟨v, vs, rfl, h, t⟩
theorem Reps.nil_inv {vs : List V} (h : Reps K F [] vs) : vs = [] := by unfold Reps at h; exact h
theorem Reps.cons_inv {d : D} {ds : List D} {vs : List V} (h : Reps K F (d :: ds) vs) : ∃ v r, vs = v :: r ∧ Rep K F d v ∧ Reps K F ds r := by unfold Reps at h; exact h
theorem Reps.length : ∀ {ds : List D} {vs : List V}, Reps K F ds vs → ds.length = vs.length
  | [], _, h => by rw [h.nil_inv]; rfl
  | d :: ds, _, h => by
    obtain ⟨v, r, rfl, _, t⟩ := h.cons_inv
    rw [List.length_cons, List.length_cons, Reps.length t]
theorem Reps.get : ∀ {ds : List D} {vs : List V} {i : Nat} {d : D}, Reps K F ds vs → ds[i]? = some d → ∃ v, vs[i]? = some v ∧ Rep K F d v
  | [], _, _, _, _, e => by simp at e
  | d :: ds, _, 0, _, h, e => by
    obtain ⟨v, r, rfl, q, _⟩ := h.cons_inv
    simp at e; subst e
    exact ⟨v, by simp, q⟩
  | d :: ds, _, i + 1, _, h, e => by
    obtain ⟨v, r, rfl, _, t⟩ := h.cons_inv
    obtain ⟨u, e', q⟩ := Reps.get (i := i) t (by simpa using e)
    exact ⟨u, by simpa using e', q⟩
theorem Reps.get' : ∀ {ds : List D} {vs : List V} {i : Nat} {v : V}, Reps K F ds vs → vs[i]? = some v → ∃ d, ds[i]? = some d ∧ Rep K F d v
  | [], _, _, _, h, e => by rw [h.nil_inv] at e; simp at e
  | d :: ds, _, 0, _, h, e => by
    obtain ⟨v, r, rfl, q, _⟩ := h.cons_inv
    simp at e; subst e
    exact ⟨d, by simp, q⟩
  | d :: ds, _, i + 1, _, h, e => by
    obtain ⟨v, r, rfl, _, t⟩ := h.cons_inv
    obtain ⟨u, e', q⟩ := Reps.get' (i := i) t (by simpa using e)
    exact ⟨u, by simpa using e', q⟩
theorem Reps.append : ∀ {ds es : List D} {vs us : List V}, Reps K F ds vs → Reps K F es us → Reps K F (ds ++ es) (vs ++ us)
  | [], _, _, _, h, t => by rw [h.nil_inv]; exact t
  | d :: ds, _, _, _, h, t => by
    obtain ⟨v, r, rfl, q, s⟩ := h.cons_inv
    exact .cons q (Reps.append s t)
theorem Reps.set {d : D} {v : V} (q : Rep K F d v) : ∀ {ds : List D} {vs : List V} (i : Nat), Reps K F ds vs → Reps K F (ds.set i d) (vs.set i v)
  | [], _, _, h => by rw [h.nil_inv]; exact .nil
  | e :: ds, _, 0, h => by
    obtain ⟨u, r, rfl, _, s⟩ := h.cons_inv
    exact .cons q s
  | e :: ds, _, i + 1, h => by
    obtain ⟨u, r, rfl, p, s⟩ := h.cons_inv
    exact .cons p (Reps.set q i s)
theorem Reps.take : ∀ {ds : List D} {vs : List V} (n : Nat), Reps K F ds vs → Reps K F (ds.take n) (vs.take n)
  | _, _, 0, _ => by simp [Reps]
  | [], _, n + 1, h => by rw [h.nil_inv]; exact .nil
  | d :: ds, _, n + 1, h => by
    obtain ⟨v, r, rfl, q, s⟩ := h.cons_inv
    exact .cons q (Reps.take n s)
theorem Reps.drop : ∀ {ds : List D} {vs : List V} (n : Nat), Reps K F ds vs → Reps K F (ds.drop n) (vs.drop n)
  | _, _, 0, h => h
  | [], _, n + 1, h => by rw [h.nil_inv]; exact .nil
  | d :: ds, _, n + 1, h => by
    obtain ⟨v, r, rfl, q, s⟩ := h.cons_inv
    exact Reps.drop n s
theorem Reps.ints : ∀ {ns : List Int} {vs : List V}, Reps K F (ns.map D.int) vs → vs = ns.map V.int
  | [], _, h => h.nil_inv
  | n :: ns, _, h => by
    obtain ⟨v, r, rfl, q, s⟩ := Reps.cons_inv (ds := ns.map D.int) h
    unfold Rep at q
    rw [q, Reps.ints s]; rfl
theorem Reps.of_ints : ∀ {ns : List Int}, Reps K F (ns.map D.int) (ns.map V.int)
  | [] => .nil
  | n :: ns => .cons (by unfold Rep; rfl) Reps.of_ints
theorem Reps.atI {ds : List D} {vs : List V} {i : Int} {d : D} (h : Reps K F ds vs) (e : L2.atI ds i = some d) : ∃ v, L2.atI vs i = some v ∧ Rep K F d v := by
  unfold L2.atI at e ⊢
  rw [← h.length]
  cases q : ixN ds.length i with
  | none => rw [q] at e; cases e
  | some j =>
    rw [q] at e
    exact h.get e
end

/-! ### slots -/
/-- what a slot owns alone and may change -/
inductive MO where
  | lst (xs : List D) | ins (C : Addr) (ns : List Str) (xs : List D)
/-- a slot: nothing, a datum, a thing of its own -/
inductive Sl where
  | un | val (d : D) | own (m : MO)
def OwnAt (K : PySem.W.Frag) (F H : Hp) (a : Addr) : MO → Prop
  | .lst ds => ∃ vs, H a = some (.lst vs) ∧ Reps K F ds vs
  | .ins C ns ds => ∃ dx gs, H a = some (.ins C dx gs) ∧ gs.map (·.1) = ns ∧ Reps K F ds (gs.map (·.2))
theorem OwnAt.here {K : PySem.W.Frag} {F H : Hp} {a : Addr} {m : MO} (h : OwnAt K F H a m) : ∃ o, H a = some o := by
  cases m with
  | lst ds => obtain ⟨vs, e, _⟩ := h; exact ⟨_, e⟩
  | ins C ns ds => obtain ⟨dx, gs, e, _⟩ := h; exact ⟨_, e⟩
theorem OwnAt.mono {K : PySem.W.Frag} {F G H J : Hp} {a : Addr} {m : MO} (h : OwnAt K F H a m) (l : Le F G) (k : ∀ o, H a = some o → J a = some o) : OwnAt K G J a m := by
  cases m with
  | lst ds => obtain ⟨vs, e, r⟩ := h; exact ⟨vs, k _ e, r.mono l⟩
  | ins C ns ds => obtain ⟨dx, gs, e, n, r⟩ := h; exact ⟨dx, gs, k _ e, n, r.mono l⟩

structure Rel (K : PySem.W.Frag) (F H : Hp) (ρ : List Sl) (σ : St) : Prop where
  le : Le F H
  len : ρ.length = σ.length
  vals : ∀ (i : Nat) (d : D), ρ[i]? = some (Sl.val d) → ∃ v : V, σ[i]? = some (some v) ∧ Rep K F d v
  owns : ∀ (i : Nat) (m : MO), ρ[i]? = some (Sl.own m) → ∃ a : Addr, σ[i]? = some (some (V.ref a)) ∧ F a = none ∧ OwnAt K F H a m
  apart : ∀ (i j : Nat) (m n : MO) (a : Addr), ρ[i]? = some (Sl.own m) → ρ[j]? = some (Sl.own n) → σ[i]? = some (some (V.ref a)) → σ[j]? = some (some (V.ref a)) → i = j
/-- the addresses that slots own -/
def Own (ρ : List Sl) (σ : St) (a : Addr) : Prop := ∃ (i : Nat) (m : MO), ρ[i]? = some (Sl.own m) ∧ σ[i]? = some (some (V.ref a))

structure Stp (B : List Nat) (F H : Hp) (ρ : List Sl) (σ : St) (F' H' : Hp) (ρ' : List Sl) (σ' : St) : Prop where
  fle : Le F F'
  keep : ∀ (a : Addr) (o : HO), H a = some o → ¬ Own ρ σ a → H' a = some o
  there : ∀ (a : Addr) (o : HO), H a = some o → ∃ o' : HO, H' a = some o'
  new : ∀ (a : Addr) (o : HO), F' a = some o → F a = none → H a = none ∨ Own ρ σ a
  own : ∀ a : Addr, Own ρ' σ' a → Own ρ σ a ∨ H a = none
  bor : ∀ i : Nat, i ∈ B → σ'[i]? = σ[i]? ∧ ∀ m : MO, ρ[i]? = some (Sl.own m) → ∃ m' : MO, ρ'[i]? = some (Sl.own m')
/-- of an expression: the slots' values stay, no slot gets to own -/
structure Est (B : List Nat) (F H : Hp) (ρ : List Sl) (F' H' : Hp) (ρ' : List Sl) (σ : St) : Prop where
  st : Stp B F H ρ σ F' H' ρ' σ
  pat : ∀ (i : Nat) (m' : MO), ρ'[i]? = some (Sl.own m') → ∃ m : MO, ρ[i]? = some (Sl.own m)

section
variable {K : PySem.W.Frag} {B : List Nat} {F F' F'' H H' H'' : Hp} {ρ ρ' ρ'' : List Sl} {σ σ' σ'' : St}
theorem Own.there {a : Addr} (R : Rel K F H ρ σ) (h : Own ρ σ a) : F a = none ∧ ∃ o, H a = some o := by
  obtain ⟨i, m, e, s⟩ := h
  obtain ⟨b, s', n, o⟩ := R.owns i m e
  rw [s] at s'; cases s'
  exact ⟨n, o.here⟩
theorem Stp.refl : Stp B F H ρ σ F H ρ σ := ⟨Le.refl F, fun _ _ h _ => h, fun _ o h => ⟨o, h⟩, fun a o h n => (by rw [n] at h; cases h), fun _ h => .inl h, fun _ _ => ⟨rfl, fun m e => ⟨m, e⟩⟩⟩
theorem Stp.trans (x : Stp B F H ρ σ F' H' ρ' σ') (y : Stp B F' H' ρ' σ' F'' H'' ρ'' σ'') : Stp B F H ρ σ F'' H'' ρ'' σ'' where
  fle := x.fle.trans y.fle
  keep := fun a o h n => y.keep a o (x.keep a o h n) fun z => (x.own a z).elim n fun q => by rw [q] at h; cases h
  there := fun a o h => by obtain ⟨o', h'⟩ := x.there a o h; exact y.there a o' h'
  new := fun a o h n => by
    cases q : F' a with
    | some u => exact x.new a u q n
    | none =>
      rcases y.new a o h q with z | z
      · cases r : H a with
        | none => exact .inl rfl
        | some u => obtain ⟨o', h'⟩ := x.there a u r; rw [z] at h'; cases h'
      · exact (x.own a z).symm
  own := fun a h => by
    rcases y.own a h with z | z
    · exact x.own a z
    · cases r : H a with
      | none => exact .inr rfl
      | some u => obtain ⟨o', h'⟩ := x.there a u r; rw [z] at h'; cases h'
  bor := fun i hi => ⟨(y.bor i hi).1.trans (x.bor i hi).1, fun m e => by obtain ⟨m', e'⟩ := (x.bor i hi).2 m e; exact (y.bor i hi).2 m' e'⟩
theorem Est.refl : Est B F H ρ F H ρ σ := ⟨Stp.refl, fun _ m h => ⟨m, h⟩⟩
theorem Est.trans (x : Est B F H ρ F' H' ρ' σ) (y : Est B F' H' ρ' F'' H'' ρ'' σ) : Est B F H ρ F'' H'' ρ'' σ :=
  ⟨x.st.trans y.st, fun i m h => by obtain ⟨n, e⟩ := y.pat i m h; exact x.pat i n e⟩
theorem Stp.fresh (x : Stp B F H ρ σ F' H' ρ' σ') {a : Addr} (h : H' a = none) : H a = none := by
  cases r : H a with
  | none => rfl
  | some u => obtain ⟨o', h'⟩ := x.there a u r; rw [h] at h'; cases h'
/-- a new object, not frozen -/
theorem Est.laid {p : Addr} {o : HO} (R : Rel K F H ρ σ) (h : H p = none) : Est B F H ρ F (upd H p o) ρ σ ∧ Rel K F (upd H p o) ρ σ := by
  refine ⟨⟨⟨Le.refl F, fun a u e _ => Le.new h a u e, fun a u e => ⟨u, Le.new h a u e⟩, fun a u e n => (by rw [n] at e; cases e), fun _ z => .inl z, fun _ _ => ⟨rfl, fun m e => ⟨m, e⟩⟩⟩, fun _ m e => ⟨m, e⟩⟩, ?_⟩
  exact ⟨R.le.trans (Le.new h), R.len, R.vals, fun i m e => by
    obtain ⟨a, s, n, o⟩ := R.owns i m e
    exact ⟨a, s, n, o.mono (Le.refl F) fun u z => Le.new h a u z⟩, R.apart⟩
/-- an object that nobody owns is frozen -/
theorem Est.freeze {p : Addr} {o : HO} (R : Rel K F H ρ σ) (h : H p = some o) (n : F p = none) (no : ∀ (i : Nat) (m : MO), ρ[i]? = some (Sl.own m) → σ[i]? ≠ some (some (V.ref p))) : Rel K (upd F p o) H ρ σ := by
  refine ⟨fun a u e => ?_, R.len, fun i d e => ?_, fun i m e => ?_, R.apart⟩
  · by_cases q : a = p
    · subst q; rw [upd_same] at e; cases e; exact h
    · rw [upd_ne q] at e; exact R.le a u e
  · obtain ⟨v, s, r⟩ := R.vals i d e
    exact ⟨v, s, r.mono (Le.new n)⟩
  · obtain ⟨a, s, na, o'⟩ := R.owns i m e
    have q : a ≠ p := fun z => no i m e (by rw [← z]; exact s)
    exact ⟨a, s, by rw [upd_ne q]; exact na, o'.mono (Le.new n) fun _ z => z⟩
end
end DL

namespace DL
open PySem L2

/-! ### judgements -/
structure Exn where
  cls : Addr
  ns : List Str
  ds : List D
abbrev QE := Exn → List Sl → Prop
abbrev ETr := List Sl → (D → List Sl → Prop) → QE → Prop
abbrev TTr := List Sl → (Bool → List Sl → Prop) → QE → Prop
abbrev ATr := List Sl → (List D → List Sl → Prop) → QE → Prop
abbrev NTr := List Sl → (MO → List Sl → Prop) → QE → Prop
structure DEnds where
  nx : List Sl → Prop
  rt : Sl → List Sl → Prop
  bk : List Sl → Prop
  ct : List Sl → Prop
  ex : QE
abbrev STr := DEnds → List Sl → Prop
abbrev GTr := D → List Sl → (List Sl → Prop) → Prop

def ExnAt (K : PySem.W.Frag) (F H : Hp) (x : Exn) (cls : Value) (dd : Option Addr) : Prop :=
  cls = .ref x.cls ∧ ((x.ns = [] ∧ x.ds = [] ∧ dd = none) ∨ ∃ a gs, dd = some a ∧ H a = some (.xd gs) ∧ gs.map (·.1) = x.ns ∧ Reps K F x.ds (gs.map (·.2)))
def Exk (X : Cx) (W : WX) (B : List Nat) (F H : Hp) (ρ : List Sl) (σ : St) (E : QE) : Prop :=
  ∀ (x : Exn) (ρ' : List Sl) (σ' : St) (F' H' : Hp) (cls : Value) (dd : Option Addr), Stp B F H ρ σ F' H' ρ' σ' → Rel X.K F' H' ρ' σ' → ExnAt X.K F' H' x cls dd → E x ρ' → W cls dd σ' H'
def RetAt (K : PySem.W.Frag) (B : List Nat) (F H : Hp) (ρ : List Sl) (σ : St) (F' H' : Hp) (ρ' : List Sl) (σ' : St) : Sl → V → Prop
  | .val d, v => Rep K F' d v
  | .own m, v => ∃ p, v = .ref p ∧ F' p = none ∧ OwnAt K F' H' p m ∧ (H p = none ∨ Own ρ σ p) ∧ ∀ i ∈ B, ∀ m' : MO, ρ'[i]? = some (Sl.own m') → σ'[i]? ≠ some (some (V.ref p))
  | .un, _ => False
structure EndsRel (X : Cx) (W : WX) (B : List Nat) (F H : Hp) (ρ : List Sl) (σ : St) (D' : DEnds) (D : Ends) : Prop where
  nx : ∀ (ρ' : List Sl) (σ' : St) (F' H' : Hp), Stp B F H ρ σ F' H' ρ' σ' → Rel X.K F' H' ρ' σ' → D'.nx ρ' → D.nx σ' H'
  bk : ∀ (ρ' : List Sl) (σ' : St) (F' H' : Hp), Stp B F H ρ σ F' H' ρ' σ' → Rel X.K F' H' ρ' σ' → D'.bk ρ' → D.bk σ' H'
  ct : ∀ (ρ' : List Sl) (σ' : St) (F' H' : Hp), Stp B F H ρ σ F' H' ρ' σ' → Rel X.K F' H' ρ' σ' → D'.ct ρ' → D.ct σ' H'
  rt : ∀ (r : Sl) (ρ' : List Sl) (σ' : St) (v : V) (F' H' : Hp), Stp B F H ρ σ F' H' ρ' σ' → Rel X.K F' H' ρ' σ' → RetAt X.K B F H ρ σ F' H' ρ' σ' r v → D'.rt r ρ' → D.rt v H'
  ex : Exk X W B F H ρ σ D'.ex

/-- an expression that gives a datum -/
def DE (X : Cx) (W : WX) (B : List Nat) (e : Expr) (t : ETr) : Prop := ∃ te, PE X e te ∧ ∀ (F H : Hp) (ρ : List Sl) (σ : St) (Q : D → List Sl → Prop) (E : QE) (Q' : VK), Rel X.K F H ρ σ → Exk X W B F H ρ σ E → t ρ Q E →
  (∀ (d : D) (ρ' : List Sl) (v : V) (F' H' : Hp), Est B F H ρ F' H' ρ' σ → Rel X.K F' H' ρ' σ → Rep X.K F' d v → Q d ρ' → Q' v H') → te σ H Q'
/-- an expression that makes a new thing -/
def DN (X : Cx) (W : WX) (B : List Nat) (e : Expr) (t : NTr) : Prop := ∃ te, PE X e te ∧ ∀ (F H : Hp) (ρ : List Sl) (σ : St) (Q : MO → List Sl → Prop) (E : QE) (Q' : VK), Rel X.K F H ρ σ → Exk X W B F H ρ σ E → t ρ Q E →
  (∀ (m : MO) (ρ' : List Sl) (p : Addr) (F' H' : Hp), Est B F H ρ F' H' ρ' σ → Rel X.K F' H' ρ' σ → H p = none → F' p = none → OwnAt X.K F' H' p m →
    (∀ (i : Nat) (m' : MO), ρ'[i]? = some (Sl.own m') → σ[i]? ≠ some (some (V.ref p))) → Q m ρ' → Q' (.ref p) H') → te σ H Q'
def DT (X : Cx) (W : WX) (B : List Nat) (e : Expr) (t : TTr) : Prop := ∃ te, PT X e te ∧ ∀ (F H : Hp) (ρ : List Sl) (σ : St) (Q : Bool → List Sl → Prop) (E : QE) (Q' : Bool → Hp → Prop), Rel X.K F H ρ σ → Exk X W B F H ρ σ E → t ρ Q E →
  (∀ (b : Bool) (ρ' : List Sl) (F' H' : Hp), Est B F H ρ F' H' ρ' σ → Rel X.K F' H' ρ' σ → Q b ρ' → Q' b H') → te σ H Q'
def DTW (X : Cx) (W : WX) (B : List Nat) (e : Expr) (t : TTr) : Prop := ∃ te, PW X e te ∧ ∀ (F H : Hp) (ρ : List Sl) (σ : St) (Q : Bool → List Sl → Prop) (E : QE) (Q' : Bool → Hp → Prop), Rel X.K F H ρ σ → Exk X W B F H ρ σ E → t ρ Q E →
  (∀ (b : Bool) (ρ' : List Sl) (F' H' : Hp), Est B F H ρ F' H' ρ' σ → Rel X.K F' H' ρ' σ → Q b ρ' → Q' b H') → te σ H Q'
def DA (X : Cx) (W : WX) (B : List Nat) (es : List Expr) (t : ATr) : Prop := ∃ te, PA X es te ∧ ∀ (F H : Hp) (ρ : List Sl) (σ : St) (Q : List D → List Sl → Prop) (E : QE) (Q' : List V → Hp → Prop), Rel X.K F H ρ σ → Exk X W B F H ρ σ E → t ρ Q E →
  (∀ (ds : List D) (ρ' : List Sl) (vs : List V) (F' H' : Hp), Est B F H ρ F' H' ρ' σ → Rel X.K F' H' ρ' σ → Reps X.K F' ds vs → ds.length = es.length → Q ds ρ' → Q' vs H') → te σ H Q'
def DS (X : Cx) (W : WX) (B : List Nat) (st : Stmt) (t : STr) : Prop := ∃ ts, PS X st ts ∧ ∀ (F H : Hp) (ρ : List Sl) (σ : St) (D' : DEnds) (D : Ends), Rel X.K F H ρ σ → EndsRel X W B F H ρ σ D' D → t D' ρ → ts D σ H
def DSs (X : Cx) (W : WX) (B : List Nat) (st : List Stmt) (t : STr) : Prop := ∃ ts, PSs X st ts ∧ ∀ (F H : Hp) (ρ : List Sl) (σ : St) (D' : DEnds) (D : Ends), Rel X.K F H ρ σ → EndsRel X W B F H ρ σ D' D → t D' ρ → ts D σ H
/-- a target -/
def Tgt (S : List Nat) (ρ ρ' : List Sl) (σ σ' : St) : Prop := (∀ (i : Nat) (m' : MO), ρ'[i]? = some (Sl.own m') → ∃ m : MO, ρ[i]? = some (Sl.own m)) ∧ (∀ j : Nat, j ∉ S → σ'[j]? = σ[j]?) ∧ σ'.length = σ.length
def DG (X : Cx) (B : List Nat) (tg : Expr) (S : List Nat) (g : GTr) : Prop := ∃ tg', PG X tg tg' ∧ ∀ (F H : Hp) (ρ : List Sl) (σ : St) (d : D) (v : V) (Q : List Sl → Prop) (Q' : St → Hp → Prop), Rel X.K F H ρ σ → Rep X.K F d v → g d ρ Q →
  (∀ (ρ' : List Sl) (σ' : St), Stp B F H ρ σ F H ρ' σ' → Tgt S ρ ρ' σ σ' → Rel X.K F H ρ' σ' → Q ρ' → Q' σ' H) → tg' v σ H Q'
/-- what the context brings -/
structure Cok (X : Cx) (W : WX) : Prop where
  tk : Takes X W
  calm : X.calm = true
  po : PassesOwn (model X.prog X.w) X.A X.env X.xe
  nd : X.N.Nodup
  units : X.A.units + 64 < cLine

section
variable {X : Cx} {W : WX} {B : List Nat} {F F' F'' H H' H'' : Hp} {ρ ρ' ρ'' : List Sl} {σ σ' σ'' : St} {e a b c : Expr} {es : List Expr} {st : Stmt} {sts : List Stmt} {pos : Pos}
theorem Exk.step {E : QE} (h : Exk X W B F H ρ σ E) (s : Stp B F H ρ σ F' H' ρ' σ') : Exk X W B F' H' ρ' σ' E := fun x r s' G J c d st R a q => h x r s' G J c d (s.trans st) R a q
theorem EndsRel.step {D' : DEnds} {D : Ends} (h : EndsRel X W B F H ρ σ D' D) (s : Stp B F H ρ σ F' H' ρ' σ') : EndsRel X W B F' H' ρ' σ' D' D where
  nx := fun r s' G J st R q => h.nx r s' G J (s.trans st) R q
  bk := fun r s' G J st R q => h.bk r s' G J (s.trans st) R q
  ct := fun r s' G J st R q => h.ct r s' G J (s.trans st) R q
  rt := fun r ρ'' σ'' v G J st R A q => h.rt r ρ'' σ'' v G J (s.trans st) R (by
    cases r with
    | un => exact A
    | val d => exact A
    | own m =>
      obtain ⟨p, e, n, o, z, nb⟩ := A
      refine ⟨p, e, n, o, ?_, nb⟩
      rcases z with z | z
      · exact .inl (s.fresh z)
      · exact (s.own p z).symm) q
  ex := h.ex.step s

/-! ### reading slots, by computation -/
def gt : List Sl → Nat → Sl
  | [], _ => .un
  | s :: _, 0 => s
  | _ :: r, n + 1 => gt r n
theorem gt_some : ∀ {ρ : List Sl} {i : Nat} {s : Sl}, gt ρ i = s → s ≠ .un → ρ[i]? = some s
  | [], i, s, h, n => by unfold gt at h; exact absurd h.symm n
  | x :: r, 0, s, h, n => by unfold gt at h; simp [h]
  | x :: r, i + 1, s, h, n => by unfold gt at h; simpa using gt_some h n
def onVal : Sl → (D → Prop) → Prop
  | .val d, k => k d
  | _, _ => False
def onOwn : Sl → (MO → Prop) → Prop
  | .own m, k => k m
  | _, _ => False
theorem onVal_inv {s : Sl} {k : D → Prop} (h : onVal s k) : ∃ d, s = .val d ∧ k d := by
  cases s with
  | val d => exact ⟨d, rfl, h⟩
  | un => exact h.elim
  | own m => exact h.elim
theorem onOwn_inv {s : Sl} {k : MO → Prop} (h : onOwn s k) : ∃ m, s = .own m ∧ k m := by
  cases s with
  | own d => exact ⟨d, rfl, h⟩
  | un => exact h.elim
  | val m => exact h.elim
def frz : MO → D
  | .lst xs => .lst xs
  | .ins C ns xs => .obj C ns xs
/-- the thing at p is frozen -/
theorem OwnAt.rep {K : PySem.W.Frag} {p : Addr} {m : MO} (o : OwnAt K F H p m) (n : F p = none) : ∃ u, H p = some u ∧ Rep K (upd F p u) (frz m) (.ref p) := by
  cases m with
  | lst xs =>
    obtain ⟨vs, e, r⟩ := o
    refine ⟨_, e, ?_⟩
    unfold frz Rep
    exact ⟨p, vs, rfl, .inl (.inl upd_same), r.mono (Le.new n)⟩
  | ins C ns xs =>
    obtain ⟨dx, gs, e, z, r⟩ := o
    refine ⟨_, e, ?_⟩
    unfold frz Rep
    exact ⟨p, dx, gs, rfl, upd_same, z, r.mono (Le.new n)⟩

/-! ### names, constants -/
theorem de_var (i : Nat) {x : Str} (hN : X.N[i]? = some x := by rfl) (hv : Vis X.env.scope x := by first | exact Or.inl rfl | exact Or.inr (Or.inl rfl) | exact Or.inr (Or.inr rfl)) (hd : (x == ("__debug__" : Str)) = false := by decide)
    (hcd : (x == ("__classdict__" : Str)) = false := by decide) : DE X W B (.Name x pos) (fun ρ Q _ => onVal (gt ρ i) fun d => Q d ρ) := by
  refine ⟨_, pe_var hN hv hd hcd, fun F H ρ σ Q E Q' R _ h k => ?_⟩
  obtain ⟨d, e, q⟩ := onVal_inv h
  obtain ⟨v, s, r⟩ := R.vals i d (gt_some e (by intro z; cases z))
  exact ⟨v, s, k d ρ v F H Est.refl R r q⟩
theorem get_set {ρ : List Sl} {i j : Nat} {s t : Sl} (h : (ρ.set i s)[j]? = some t) : (j = i ∧ t = s) ∨ (j ≠ i ∧ ρ[j]? = some t) := by
  by_cases q : i = j
  · subst q
    rw [List.getElem?_set] at h
    simp only [if_true] at h
    split at h
    · exact .inl ⟨rfl, (Option.some.inj h).symm⟩
    · cases h
  · rw [List.getElem?_set_ne q] at h
    exact .inr ⟨Ne.symm q, h⟩
/-- a slot's own thing becomes a datum -/
theorem frozen {i : Nat} {m : MO} (R : Rel X.K F H ρ σ) (e : ρ[i]? = some (Sl.own m)) (hB : i ∉ B) : ∃ p u, σ[i]? = some (some (V.ref p)) ∧ Est B F H ρ (upd F p u) H (ρ.set i (.val (frz m))) σ ∧ Rel X.K (upd F p u) H (ρ.set i (.val (frz m))) σ ∧ Rep X.K (upd F p u) (frz m) (.ref p) := by
  obtain ⟨p, s, n, o⟩ := R.owns i m e
  obtain ⟨u, hu, r⟩ := o.rep n
  have sub : ∀ (j : Nat) (m' : MO), (ρ.set i (Sl.val (frz m)))[j]? = some (Sl.own m') → j ≠ i ∧ ρ[j]? = some (Sl.own m') := fun j m' q => by
    rcases get_set q with ⟨_, z⟩ | z
    · cases z
    · exact z
  have ow : ∀ a, Own (ρ.set i (.val (frz m))) σ a → Own ρ σ a := fun a ⟨j, m', q, t⟩ => ⟨j, m', (sub j m' q).2, t⟩
  have np : ∀ (j : Nat) (m' : MO), (ρ.set i (Sl.val (frz m)))[j]? = some (Sl.own m') → σ[j]? ≠ some (some (V.ref p)) := fun j m' q t => by
    obtain ⟨ne, q'⟩ := sub j m' q
    exact ne (R.apart j i m' m p q' e t s)
  refine ⟨p, u, s, ⟨⟨Le.new n, fun a o h _ => h, fun a o h => ⟨o, h⟩, fun a o h nn => ?_, fun a h => .inl (ow a h), fun j hj => ⟨rfl, fun m' q => ⟨m', ?_⟩⟩⟩, fun j m' q => ⟨m', (sub j m' q).2⟩⟩, ?_, r⟩
  · by_cases q : a = p
    · subst q; exact .inr ⟨i, m, e, s⟩
    · rw [upd_ne q, nn] at h; cases h
  · have q1 : i ≠ j := fun z => hB (z ▸ hj)
    rw [List.getElem?_set_ne q1]; exact q
  · refine ⟨fun a w q => ?_, by rw [List.length_set]; exact R.len, fun j d q => ?_, fun j m' q => ?_, fun j k m' n' a q1 q2 t1 t2 => R.apart j k m' n' a (sub _ _ q1).2 (sub _ _ q2).2 t1 t2⟩
    · by_cases z : a = p
      · subst z; rw [upd_same] at q; cases q; exact hu
      · rw [upd_ne z] at q; exact R.le a w q
    · rcases get_set q with ⟨z1, z2⟩ | ⟨_, z⟩
      · subst z1; cases z2
        exact ⟨.ref p, s, r⟩
      · obtain ⟨v, t, r'⟩ := R.vals j d z
        exact ⟨v, t, r'.mono (Le.new n)⟩
    · obtain ⟨a, t, na, o'⟩ := R.owns j m' (sub j m' q).2
      have ne : a ≠ p := fun z => np j m' q (z ▸ t)
      exact ⟨a, t, by rw [upd_ne ne]; exact na, o'.mono (Le.new n) fun _ z => z⟩
/-- a name whose slot owns, as a datum -/
theorem de_frz (i : Nat) {x : Str} (hB : i ∉ B := by decide) (hN : X.N[i]? = some x := by rfl) (hv : Vis X.env.scope x := by first | exact Or.inl rfl | exact Or.inr (Or.inl rfl) | exact Or.inr (Or.inr rfl)) (hd : (x == ("__debug__" : Str)) = false := by decide)
    (hcd : (x == ("__classdict__" : Str)) = false := by decide) : DE X W B (.Name x pos) (fun ρ Q _ => onOwn (gt ρ i) fun m => Q (frz m) (ρ.set i (.val (frz m)))) := by
  refine ⟨_, pe_var hN hv hd hcd, fun F H ρ σ Q E Q' R _ h k => ?_⟩
  obtain ⟨m, e, q⟩ := onOwn_inv h
  obtain ⟨p, u, s, st, R', r⟩ := frozen (B := B) R (gt_some e (by intro z; cases z)) hB
  exact ⟨.ref p, s, k _ _ _ _ _ st R' r q⟩
theorem rep_int {K : PySem.W.Frag} {F : Hp} {i : Int} : Rep K F (.int i) (.int i) := by unfold Rep; rfl
theorem rep_bl {K : PySem.W.Frag} {F : Hp} {i : Bool} : Rep K F (.bl i) (.bl i) := by unfold Rep; rfl
theorem rep_str {K : PySem.W.Frag} {F : Hp} {i : Str} : Rep K F (.str i) (.str i) := by unfold Rep; rfl
theorem rep_non {K : PySem.W.Frag} {F : Hp} : Rep K F .non .non := by unfold Rep; rfl
theorem rep_ref {K : PySem.W.Frag} {F : Hp} {a : Addr} : Rep K F (.ref a) (.ref a) := by unfold Rep; rfl
/-- a constant's reading -/
theorem de_c {v : V} {d : D} (h : PE X e (tC v)) (r : ∀ F, Rep X.K F d v) : DE X W B e (fun ρ Q _ => Q d ρ) :=
  ⟨_, h, fun F H ρ σ Q E Q' R _ q k => k d ρ v F H Est.refl R (r F) q⟩
theorem de_int {i j} : DE X W B (.Constant (.int i) j pos) (fun ρ Q _ => Q (.int i) ρ) := de_c pe_int fun _ => rep_int
theorem de_bl {i j} : DE X W B (.Constant (.bool i) j pos) (fun ρ Q _ => Q (.bl i) ρ) := de_c pe_bl fun _ => rep_bl
theorem de_str {i j} : DE X W B (.Constant (.str i) j pos) (fun ρ Q _ => Q (.str i) ρ) := de_c pe_str fun _ => rep_str
theorem de_non {j} : DE X W B (.Constant .none j pos) (fun ρ Q _ => Q .non ρ) := de_c pe_non fun _ => rep_non
/-- a new thing as a datum -/
theorem de_new {t : NTr} (h : DN X W B e t) : DE X W B e (fun ρ Q E => t ρ (fun m ρ' => Q (frz m) ρ') E) := by
  obtain ⟨te, pe, run⟩ := h
  refine ⟨te, pe, fun F H ρ σ Q E Q' R ex h k => run F H ρ σ _ E Q' R ex h fun m ρ' p F' H' st R' hp fp o no q => ?_⟩
  obtain ⟨u, hu, r⟩ := o.rep fp
  refine k (frz m) ρ' (.ref p) (upd F' p u) H' ⟨⟨st.st.fle.trans (Le.new fp), st.st.keep, st.st.there, fun a w z n => ?_, st.st.own, st.st.bor⟩, st.pat⟩ (Est.freeze R' hu fp no) r q
  by_cases y : a = p
  · subst y; exact .inl hp
  · rw [upd_ne y] at z; exact st.st.new a w z n

/-! ### tests -/
def br (b : Bool) (p q : Prop) : Prop := match b with
  | true => p
  | false => q
theorem br_decide {c p q : Prop} [Decidable c] : br (decide c) p q = ((c → p) ∧ (¬ c → q)) := by
  by_cases h : c
  · rw [decide_eq_true h]; simp [br, h]
  · rw [decide_eq_false h]; simp [br, h]
def onBl : D → (Bool → Prop) → Prop
  | .bl b, k => k b
  | _, _ => False
theorem onBl_inv {d : D} {k : Bool → Prop} (h : onBl d k) : ∃ b, d = .bl b ∧ k b := by
  cases d with
  | bl b => exact ⟨b, rfl, h⟩
  | _ => exact h.elim
theorem rep_bl_inv {K : PySem.W.Frag} {b : Bool} {v : V} (h : Rep K F (.bl b) v) : v = .bl b := by unfold Rep at h; exact h
theorem rep_int_inv {K : PySem.W.Frag} {b : Int} {v : V} (h : Rep K F (.int b) v) : v = .int b := by unfold Rep at h; exact h
theorem rep_str_inv {K : PySem.W.Frag} {b : Str} {v : V} (h : Rep K F (.str b) v) : v = .str b := by unfold Rep at h; exact h
theorem dt_val {t : ETr} (h : DE X W B e t) (he : ∀ whole, isTrue e X.env whole = (do let v ← whole; standAt e.pos; holding [v] (truthy v)) := by intro _; rfl) :
    DT X W B e (fun ρ Q E => t ρ (fun d ρ' => onBl d fun b => Q b ρ') E) := by
  obtain ⟨te, pe, run⟩ := h
  refine ⟨_, pt_val pe he, fun F H ρ σ Q E Q' R ex h k => run F H ρ σ _ E _ R ex h fun d ρ' v F' H' st R' r q => ?_⟩
  obtain ⟨b, rfl, q⟩ := onBl_inv q
  exact ⟨b, rep_bl_inv r, k b ρ' F' H' st R' q⟩
theorem DTW.pt {t : TTr} (h : DTW X W B e t) : DT X W B e t := by
  obtain ⟨te, pe, run⟩ := h
  exact ⟨te, pe.pt, run⟩
theorem dt_and1 {t : TTr} (h : DT X W B a t) : DTW X W B (.BoolOp .And [a] pos) t := by
  obtain ⟨te, pe, run⟩ := h
  exact ⟨te, pw_and1 pe, run⟩
theorem dt_or1 {t : TTr} (h : DT X W B a t) : DTW X W B (.BoolOp .Or [a] pos) t := by
  obtain ⟨te, pe, run⟩ := h
  exact ⟨te, pw_or1 pe, run⟩
theorem dt_and {t u : TTr} (h : DT X W B a t) (h2 : DTW X W B (.BoolOp .And (b :: es) pos) u) : DTW X W B (.BoolOp .And (a :: b :: es) pos) (fun ρ Q E => t ρ (fun c ρ' => br c (u ρ' Q E) (Q false ρ')) E) := by
  obtain ⟨te, pe, run⟩ := h
  obtain ⟨ue, pu, run2⟩ := h2
  refine ⟨_, pw_and pe pu, fun F H ρ σ Q E Q' R ex h k => run F H ρ σ _ E _ R ex h fun c ρ' F' H' st R' q => ?_⟩
  cases c with
  | true =>
    rw [if_pos rfl]
    exact run2 F' H' ρ' σ Q E Q' R' (ex.step st.st) q fun b r G J st' => k b r G J (st.trans st')
  | false =>
    rw [if_neg Bool.false_ne_true]
    exact k false ρ' F' H' st R' q
theorem dt_or {t u : TTr} (h : DT X W B a t) (h2 : DTW X W B (.BoolOp .Or (b :: es) pos) u) : DTW X W B (.BoolOp .Or (a :: b :: es) pos) (fun ρ Q E => t ρ (fun c ρ' => br c (Q true ρ') (u ρ' Q E)) E) := by
  obtain ⟨te, pe, run⟩ := h
  obtain ⟨ue, pu, run2⟩ := h2
  refine ⟨_, pw_or pe pu, fun F H ρ σ Q E Q' R ex h k => run F H ρ σ _ E _ R ex h fun c ρ' F' H' st R' q => ?_⟩
  cases c with
  | false =>
    rw [if_neg Bool.false_ne_true]
    exact run2 F' H' ρ' σ Q E Q' R' (ex.step st.st) q fun b r G J st' => k b r G J (st.trans st')
  | true =>
    rw [if_pos rfl]
    exact k true ρ' F' H' st R' q
theorem dt_not {t : TTr} (h : DT X W B a t) : DT X W B (.UnaryOp .Not a pos) (fun ρ Q E => t ρ (fun c ρ' => Q (!c) ρ') E) := by
  obtain ⟨te, pe, run⟩ := h
  exact ⟨_, pt_not pe, fun F H ρ σ Q E Q' R ex h k => run F H ρ σ _ E _ R ex h fun c ρ' F' H' st R' q => k (!c) ρ' F' H' st R' q⟩
/-! .. as values -/
theorem de_one {op} {t : ETr} (h : DE X W B a t) : DE X W B (.BoolOp op [a] pos) t := by
  obtain ⟨te, pe, run⟩ := h
  exact ⟨te, pe_one pe, run⟩
theorem de_and {t u : ETr} (h : DE X W B a t) (h2 : DE X W B (.BoolOp .And (b :: es) pos) u) : DE X W B (.BoolOp .And (a :: b :: es) pos) (fun ρ Q E => t ρ (fun d ρ' => onBl d fun c => br c (u ρ' Q E) (Q (.bl false) ρ')) E) := by
  obtain ⟨te, pe, run⟩ := h
  obtain ⟨ue, pu, run2⟩ := h2
  refine ⟨_, pe_and pe pu, fun F H ρ σ Q E Q' R ex h k => run F H ρ σ _ E _ R ex h fun d ρ' v F' H' st R' r q => ?_⟩
  obtain ⟨c, rfl, q⟩ := onBl_inv q
  refine ⟨c, rep_bl_inv r, ?_⟩
  cases c with
  | true =>
    rw [if_pos rfl]
    exact run2 F' H' ρ' σ Q E Q' R' (ex.step st.st) q fun b r v G J st' => k b r v G J (st.trans st')
  | false =>
    rw [if_neg Bool.false_ne_true]
    exact k _ ρ' _ F' H' st R' rep_bl q
theorem de_or {t u : ETr} (h : DE X W B a t) (h2 : DE X W B (.BoolOp .Or (b :: es) pos) u) : DE X W B (.BoolOp .Or (a :: b :: es) pos) (fun ρ Q E => t ρ (fun d ρ' => onBl d fun c => br c (Q (.bl true) ρ') (u ρ' Q E)) E) := by
  obtain ⟨te, pe, run⟩ := h
  obtain ⟨ue, pu, run2⟩ := h2
  refine ⟨_, pe_or pe pu, fun F H ρ σ Q E Q' R ex h k => run F H ρ σ _ E _ R ex h fun d ρ' v F' H' st R' r q => ?_⟩
  obtain ⟨c, rfl, q⟩ := onBl_inv q
  refine ⟨c, rep_bl_inv r, ?_⟩
  cases c with
  | false =>
    rw [if_neg Bool.false_ne_true]
    exact run2 F' H' ρ' σ Q E Q' R' (ex.step st.st) q fun b r v G J st' => k b r v G J (st.trans st')
  | true =>
    rw [if_pos rfl]
    exact k _ ρ' _ F' H' st R' rep_bl q
theorem de_not {t : ETr} (h : DE X W B a t) : DE X W B (.UnaryOp .Not a pos) (fun ρ Q E => t ρ (fun d ρ' => onBl d fun c => Q (.bl (!c)) ρ') E) := by
  obtain ⟨te, pe, run⟩ := h
  refine ⟨_, pe_not pe, fun F H ρ σ Q E Q' R ex h k => run F H ρ σ _ E _ R ex h fun d ρ' v F' H' st R' r q => ?_⟩
  obtain ⟨c, rfl, q⟩ := onBl_inv q
  exact ⟨c, rep_bl_inv r, k _ ρ' _ F' H' st R' rep_bl q⟩
theorem de_if {tc : TTr} {t u : ETr} (hc : DT X W B c tc) (h : DE X W B a t) (h2 : DE X W B b u) : DE X W B (.IfExp c a b pos) (fun ρ Q E => tc ρ (fun z ρ' => br z (t ρ' Q E) (u ρ' Q E)) E) := by
  obtain ⟨ce, pc, run0⟩ := hc
  obtain ⟨te, pe, run⟩ := h
  obtain ⟨ue, pu, run2⟩ := h2
  refine ⟨_, pe_ifExp pc pe pu, fun F H ρ σ Q E Q' R ex h k => run0 F H ρ σ _ E _ R ex h fun z ρ' F' H' st R' q => ?_⟩
  cases z with
  | false =>
    rw [if_neg Bool.false_ne_true]
    exact run2 F' H' ρ' σ Q E Q' R' (ex.step st.st) q fun b r v G J st' => k b r v G J (st.trans st')
  | true =>
    rw [if_pos rfl]
    exact run F' H' ρ' σ Q E Q' R' (ex.step st.st) q fun b r v G J st' => k b r v G J (st.trans st')

/-! ### blocks, small statements -/
theorem dss_nil : DSs X W B [] (fun D ρ => D.nx ρ) := ⟨_, pss_nil, fun F H ρ σ D' D R ER h => ER.nx ρ σ F H Stp.refl R h⟩
theorem dss_cons {t u : STr} (h1 : DS X W B st t) (h2 : DSs X W B sts u) : DSs X W B (st :: sts) (fun D ρ => t { D with nx := u D } ρ) := by
  obtain ⟨ts, p1, r1⟩ := h1
  obtain ⟨us, p2, r2⟩ := h2
  refine ⟨_, pss_cons p1 p2, fun F H ρ σ D' D R ER h => r1 F H ρ σ { D' with nx := u D' } { D with nx := us D } R ⟨fun ρ' σ' F' H' s R' q => r2 F' H' ρ' σ' D' D R' (ER.step s) q, ER.bk, ER.ct, ER.rt, ER.ex⟩ h⟩
theorem dss_one {t : STr} (h1 : DS X W B st t) : DSs X W B [st] t := by
  obtain ⟨ts, p1, r1⟩ := h1
  exact ⟨ts, pss_one p1, r1⟩
theorem ds_pass : DS X W B (.Pass pos) (fun D ρ => D.nx ρ) := ⟨_, ps_pass, fun F H ρ σ D' D R ER h => ER.nx ρ σ F H Stp.refl R h⟩
theorem ds_break : DS X W B (.Break pos) (fun D ρ => D.bk ρ) := ⟨_, ps_break, fun F H ρ σ D' D R ER h => ER.bk ρ σ F H Stp.refl R h⟩
theorem ds_continue : DS X W B (.Continue pos) (fun D ρ => D.ct ρ) := ⟨_, ps_continue, fun F H ρ σ D' D R ER h => ER.ct ρ σ F H Stp.refl R h⟩
theorem ds_never : DS X W B st (fun _ _ => False) := ⟨_, ps_never, fun F H ρ σ D' D R ER h => h.elim⟩
theorem ds_expr {t : ETr} (h : DE X W B e t) (hs : swapsWith e none pos.line X.env = pure false := by rfl) : DS X W B (.Expr e pos) (fun D ρ => t ρ (fun _ ρ' => D.nx ρ') D.ex) := by
  obtain ⟨te, pe, run⟩ := h
  exact ⟨_, ps_expr pe hs, fun F H ρ σ D' D R ER h => run F H ρ σ _ D'.ex _ R ER.ex h fun d ρ' v F' H' s R' r q => ER.nx ρ' σ F' H' s.st R' q⟩
theorem ds_ret {t : ETr} (h : DE X W B e t) : DS X W B (.Return (some e) pos) (fun D ρ => t ρ (fun d ρ' => D.rt (.val d) ρ') D.ex) := by
  obtain ⟨te, pe, run⟩ := h
  exact ⟨_, ps_ret pe, fun F H ρ σ D' D R ER h => run F H ρ σ _ D'.ex _ R ER.ex h fun d ρ' v F' H' s R' r q => ER.rt (.val d) ρ' σ v F' H' s.st R' r q⟩
theorem ds_retN : DS X W B (.Return none pos) (fun D ρ => D.rt (.val .non) ρ) := ⟨_, ps_retN, fun F H ρ σ D' D R ER h => ER.rt (.val .non) ρ σ .non F H Stp.refl R (show Rep X.K F .non .non from rep_non) h⟩
/-- return of a name whose slot owns: the thing is handed out, not frozen -/
theorem ds_retO (i : Nat) {x : Str} {pos' : Pos} (hB : i ∉ B := by decide) (hN : X.N[i]? = some x := by rfl) (hv : Vis X.env.scope x := by first | exact Or.inl rfl | exact Or.inr (Or.inl rfl) | exact Or.inr (Or.inr rfl)) (hd : (x == ("__debug__" : Str)) = false := by decide)
    (hcd : (x == ("__classdict__" : Str)) = false := by decide) : DS X W B (.Return (some (.Name x pos')) pos) (fun D ρ => onOwn (gt ρ i) fun m => D.rt (.own m) ρ) := by
  refine ⟨_, ps_ret (pe_var hN hv hd hcd), fun F H ρ σ D' D R ER h => ?_⟩
  obtain ⟨m, e, q⟩ := onOwn_inv h
  have e' := gt_some e (by intro z; cases z)
  obtain ⟨p, s, n, o⟩ := R.owns i m e'
  refine ⟨.ref p, s, ER.rt (.own m) ρ σ (.ref p) F H Stp.refl R ⟨p, rfl, n, o, .inr ⟨i, m, e', s⟩, fun j hj m' q1 q2 => ?_⟩ q⟩
  exact hB (R.apart i j m m' p e' q1 s q2 ▸ hj)
theorem ds_retNew {t : NTr} (h : DN X W B e t) : DS X W B (.Return (some e) pos) (fun D ρ => t ρ (fun m ρ' => D.rt (.own m) ρ') D.ex) := by
  obtain ⟨te, pe, run⟩ := h
  exact ⟨_, ps_ret pe, fun F H ρ σ D' D R ER h => run F H ρ σ _ D'.ex _ R ER.ex h fun m ρ' p F' H' s R' hp fp o no q => ER.rt (.own m) ρ' σ (.ref p) F' H' s.st R' ⟨p, rfl, fp, o, .inl hp, fun j _ m' q1 => no j m' q1⟩ q⟩
theorem ds_if {tc : TTr} {t u : STr} {sa sb : List Stmt} (hc : DT X W B c tc) (ha : DSs X W B sa t) (hb : DSs X W B sb u) : DS X W B (.If c sa sb pos) (fun D ρ => tc ρ (fun b ρ' => br b (t D ρ') (u D ρ')) D.ex) := by
  obtain ⟨ce, pc, run0⟩ := hc
  obtain ⟨te, pe, run⟩ := ha
  obtain ⟨ue, pu, run2⟩ := hb
  refine ⟨_, ps_if pc pe pu, fun F H ρ σ D' D R ER h => run0 F H ρ σ _ D'.ex _ R ER.ex h fun z ρ' F' H' s R' q => ?_⟩
  cases z with
  | false =>
    rw [if_neg Bool.false_ne_true]
    exact run2 F' H' ρ' σ D' D R' (ER.step s.st) q
  | true =>
    rw [if_pos rfl]
    exact run F' H' ρ' σ D' D R' (ER.step s.st) q

/-! ### targets, assignments -/
theorem set_val {i : Nat} {d : D} {v : V} (R : Rel X.K F H ρ σ) (r : Rep X.K F d v) (hB : i ∉ B) : Stp B F H ρ σ F H (ρ.set i (.val d)) (σ.set i (some v)) ∧ Rel X.K F H (ρ.set i (.val d)) (σ.set i (some v)) := by
  have sub : ∀ (j : Nat) (m' : MO), (ρ.set i (Sl.val d))[j]? = some (Sl.own m') → i ≠ j ∧ ρ[j]? = some (Sl.own m') := fun j m' q => by
    rcases get_set q with ⟨_, z⟩ | z
    · cases z
    · exact ⟨Ne.symm z.1, z.2⟩
  refine ⟨⟨Le.refl F, fun a o h _ => h, fun a o h => ⟨o, h⟩, fun a o h n => (by rw [n] at h; cases h), fun a ⟨j, m', q, t⟩ => ?_, fun j hj => ?_⟩, R.le, by rw [List.length_set, List.length_set]; exact R.len, fun j d' q => ?_, fun j m' q => ?_, fun j k m' n' a q1 q2 t1 t2 => ?_⟩
  · obtain ⟨ne, q'⟩ := sub j m' q
    rw [List.getElem?_set_ne ne] at t
    exact .inl ⟨j, m', q', t⟩
  · have ne : i ≠ j := fun z => hB (z ▸ hj)
    rw [List.getElem?_set_ne ne]
    exact ⟨rfl, fun m' q => ⟨m', by rw [List.getElem?_set_ne ne]; exact q⟩⟩
  · rcases get_set q with ⟨z1, z2⟩ | ⟨z1, z2⟩
    · subst z1; cases z2
      have hl : j < (ρ.set j (Sl.val d)).length := (List.getElem?_eq_some_iff.mp q).1
      rw [List.length_set, R.len] at hl
      exact ⟨v, by rw [List.getElem?_set_self hl], r⟩
    · obtain ⟨u, t, r'⟩ := R.vals j d' z2
      exact ⟨u, by rw [List.getElem?_set_ne (Ne.symm z1)]; exact t, r'⟩
  · obtain ⟨ne, q'⟩ := sub j m' q
    obtain ⟨a, t, n, o⟩ := R.owns j m' q'
    exact ⟨a, by rw [List.getElem?_set_ne ne]; exact t, n, o⟩
  · obtain ⟨ne1, q1'⟩ := sub j m' q1
    obtain ⟨ne2, q2'⟩ := sub k n' q2
    rw [List.getElem?_set_ne ne1] at t1
    rw [List.getElem?_set_ne ne2] at t2
    exact R.apart j k m' n' a q1' q2' t1 t2
theorem dg_name (i : Nat) {x : Str} (hN : X.N.Nodup) (hB : i ∉ B := by decide) (hi : X.N[i]? = some x := by rfl) (hx : Loc X.env.scope x := by first | exact Or.inl rfl | exact Or.inr rfl)
    (hf : X.fn x = true ∨ X.env.scope.names.lookup x = some .local := by first | exact .inl rfl | exact .inr rfl | assumption) : DG X B (.Name x pos) [i] (fun d ρ Q => Q (ρ.set i (.val d))) := by
  refine ⟨_, pg_name hN hi hx hf, fun F H ρ σ d v Q Q' R r q k => ?_⟩
  obtain ⟨s, R'⟩ := set_val (B := B) R r hB
  refine k _ _ s ⟨fun j m' z => ?_, fun j hj => ?_, List.length_set⟩ R' q
  · rcases get_set z with ⟨_, z⟩ | ⟨_, z⟩
    · cases z
    · exact ⟨m', z⟩
  · rw [List.getElem?_set_ne fun z => hj (by simp [z])]
theorem ds_asg {tg : Expr} {S : List Nat} {t : ETr} {g : GTr} (h : DE X W B e t) (hg : DG X B tg S g) (hs : swapsWithSole [tg] e pos.line X.env = pure false := by rfl) (hw : swappedStores [tg] e X.env = pure none := by rfl) (h1 : (assignEach [tg] X.env).map (·.2) = [assign tg X.env] := by rfl) :
    DS X W B (.Assign [tg] e pos) (fun D ρ => t ρ (fun d ρ' => g d ρ' D.nx) D.ex) := by
  obtain ⟨te, pe, run⟩ := h
  obtain ⟨ge, pg, rung⟩ := hg
  exact ⟨_, ps_asg pe pg hs hw h1, fun F H ρ σ D' D R ER h => run F H ρ σ _ D'.ex _ R ER.ex h fun d ρ' v F' H' s R' r q => rung F' H' ρ' σ d v _ _ R' r q fun ρ2 σ2 s2 _ R2 q2 => ER.nx ρ2 σ2 F' H' (s.st.trans s2) R2 q2⟩
end
end DL

namespace DL
open PySem L2
section
variable {X : Cx} {W : WX} {B : List Nat} {F F' F'' H H' H'' : Hp} {ρ ρ' ρ'' : List Sl} {σ σ' σ'' : St} {e a b c : Expr} {es : List Expr} {st : Stmt} {sts : List Stmt} {pos : Pos}

/-! ### operators on data: the heap stays -/
abbrev KTr2 := D → D → (D → Prop) → Prop
def DOp2 (K : PySem.W.Frag) (r : R2) (k : KTr2) : Prop := ∀ (F H : Hp) (x y : V) (d e : D) (Q : D → Prop) (Q' : VK), Le F H → Rep K F d x → Rep K F e y → k d e Q → (∀ (z : D) (v : V), Rep K F z v → Q z → Q' v H) → r x y H Q'
def kI (C : Int → Int → Prop) (g : Int → Int → D) : KTr2
  | .int i, .int j, Q => C i j ∧ Q (g i j)
  | _, _, _ => False
theorem kI_inv {C : Int → Int → Prop} {g : Int → Int → D} {d e : D} {Q : D → Prop} (h : kI C g d e Q) : ∃ i j, d = .int i ∧ e = .int j ∧ C i j ∧ Q (g i j) := by
  unfold kI at h
  split at h
  · exact ⟨_, _, rfl, rfl, h⟩
  · exact h.elim
theorem dop_I {K : PySem.W.Frag} {C : Int → Int → Prop} {g : Int → Int → V} {g' : Int → Int → D} (hg : ∀ F i j, Rep K F (g' i j) (g i j)) : DOp2 K (rI C g) (kI C g') := fun F H x y d e Q Q' _ rx ry h k => by
  obtain ⟨i, j, rfl, rfl, hc, q⟩ := kI_inv h
  exact ⟨i, j, rep_int_inv rx, rep_int_inv ry, hc, k _ _ (hg F i j) q⟩
theorem dop_I0 {K : PySem.W.Frag} {g : Int → Int → V} {g' : Int → Int → D} (hg : ∀ F i j, Rep K F (g' i j) (g i j)) : DOp2 K (rI0 g) (kI (fun _ _ => True) g') := fun F H x y d e Q Q' _ rx ry h k => by
  obtain ⟨i, j, rfl, rfl, hc, q⟩ := kI_inv h
  exact ⟨i, j, rep_int_inv rx, rep_int_inv ry, k _ _ (hg F i j) q⟩
theorem de_op2 {r : R2} {k : KTr2} {t u : ETr} (pe : ∀ {ta tb : TE}, PE X a ta → PE X b tb → PE X e (tOp r ta tb)) (hr : DOp2 X.K r k) (ha : DE X W B a t) (hb : DE X W B b u) :
    DE X W B e (fun ρ Q E => t ρ (fun x ρ1 => u ρ1 (fun y ρ2 => k x y fun z => Q z ρ2) E) E) := by
  obtain ⟨ta, p1, r1⟩ := ha
  obtain ⟨tb, p2, r2⟩ := hb
  refine ⟨_, pe p1 p2, fun F H ρ σ Q E Q' R ex h kk => r1 F H ρ σ _ E _ R ex h fun d ρ1 v F1 H1 s1 R1 rv q1 => r2 F1 H1 ρ1 σ _ E _ R1 (ex.step s1.st) q1 fun d2 ρ2 v2 F2 H2 s2 R2 rv2 q2 => ?_⟩
  exact hr F2 H2 v v2 d d2 _ _ R2.le (rv.mono s2.st.fle) rv2 q2 fun z w rw qz => kk z ρ2 w F2 H2 (s1.trans s2) R2 rw qz
theorem dt_op2 {r : R2} {k : KTr2} {t u : ETr} (pt : ∀ {ta tb : TE}, PE X a ta → PE X b tb → PT X e (tTest (tOp r ta tb))) (hr : DOp2 X.K r k) (ha : DE X W B a t) (hb : DE X W B b u) :
    DT X W B e (fun ρ Q E => t ρ (fun x ρ1 => u ρ1 (fun y ρ2 => k x y fun z => onBl z fun w => Q w ρ2) E) E) := by
  obtain ⟨ta, p1, r1⟩ := ha
  obtain ⟨tb, p2, r2⟩ := hb
  refine ⟨_, pt p1 p2, fun F H ρ σ Q E Q' R ex h kk => r1 F H ρ σ _ E _ R ex h fun d ρ1 v F1 H1 s1 R1 rv q1 => r2 F1 H1 ρ1 σ _ E _ R1 (ex.step s1.st) q1 fun d2 ρ2 v2 F2 H2 s2 R2 rv2 q2 => ?_⟩
  refine hr F2 H2 v v2 d d2 _ _ R2.le (rv.mono s2.st.fle) rv2 q2 fun z w rw qz => ?_
  obtain ⟨b, rfl, qz⟩ := onBl_inv qz
  exact ⟨b, rep_bl_inv rw, kk b ρ2 F2 H2 (s1.trans s2) R2 qz⟩
/-! the operators -/
def C0 : Int → Int → Prop := fun _ _ => True
abbrev kAdd : KTr2 := kI (fun _ _ => True) fun i j => .int (i + j)
abbrev kSub : KTr2 := kI (fun _ _ => True) fun i j => .int (i - j)
abbrev kMul : KTr2 := kI CMul fun i j => .int (i * j)
abbrev kMod : KTr2 := kI (fun _ j => j ≠ 0) fun i j => .int (i.fmod j)
abbrev kDiv : KTr2 := kI CDivN fun i j => .int (i.fdiv j)
abbrev kPow : KTr2 := kI CPow fun i j => .int (i ^ j.toNat)
abbrev kShr : KTr2 := kI (fun _ j => 0 ≤ j) fun i j => .int (i / 2 ^ j.toNat)
abbrev kLt : KTr2 := kI (fun _ _ => True) fun i j => .bl (decide (i < j))
abbrev kLe : KTr2 := kI (fun _ _ => True) fun i j => .bl (decide (i ≤ j))
abbrev kGt : KTr2 := kI (fun _ _ => True) fun i j => .bl (decide (j < i))
abbrev kGe : KTr2 := kI (fun _ _ => True) fun i j => .bl (decide (j ≤ i))
theorem de_add {t u : ETr} (ha : DE X W B a t) (hb : DE X W B b u) : DE X W B (.BinOp a .Add b pos) (fun ρ Q E => t ρ (fun x ρ1 => u ρ1 (fun y ρ2 => kAdd x y fun z => Q z ρ2) E) E) := de_op2 (pe_op op_add) (dop_I0 fun _ _ _ => rep_int) ha hb
theorem de_sub {t u : ETr} (ha : DE X W B a t) (hb : DE X W B b u) : DE X W B (.BinOp a .Sub b pos) (fun ρ Q E => t ρ (fun x ρ1 => u ρ1 (fun y ρ2 => kSub x y fun z => Q z ρ2) E) E) := de_op2 (pe_op op_sub) (dop_I0 fun _ _ _ => rep_int) ha hb
theorem de_mul {t u : ETr} (ha : DE X W B a t) (hb : DE X W B b u) : DE X W B (.BinOp a .Mult b pos) (fun ρ Q E => t ρ (fun x ρ1 => u ρ1 (fun y ρ2 => kMul x y fun z => Q z ρ2) E) E) := de_op2 (pe_op op_mul) (dop_I fun _ _ _ => rep_int) ha hb
theorem de_mod {t u : ETr} (ha : DE X W B a t) (hb : DE X W B b u) : DE X W B (.BinOp a .Mod b pos) (fun ρ Q E => t ρ (fun x ρ1 => u ρ1 (fun y ρ2 => kMod x y fun z => Q z ρ2) E) E) := de_op2 (pe_op op_modN) (dop_I fun _ _ _ => rep_int) ha hb
theorem de_div {t u : ETr} (ha : DE X W B a t) (hb : DE X W B b u) : DE X W B (.BinOp a .FloorDiv b pos) (fun ρ Q E => t ρ (fun x ρ1 => u ρ1 (fun y ρ2 => kDiv x y fun z => Q z ρ2) E) E) := de_op2 (pe_op op_fdivN) (dop_I fun _ _ _ => rep_int) ha hb
theorem de_pow {t u : ETr} (ha : DE X W B a t) (hb : DE X W B b u) : DE X W B (.BinOp a .Pow b pos) (fun ρ Q E => t ρ (fun x ρ1 => u ρ1 (fun y ρ2 => kPow x y fun z => Q z ρ2) E) E) := de_op2 (pe_op op_pow) (dop_I fun _ _ _ => rep_int) ha hb
theorem de_shr {t u : ETr} (ha : DE X W B a t) (hb : DE X W B b u) : DE X W B (.BinOp a .RShift b pos) (fun ρ Q E => t ρ (fun x ρ1 => u ρ1 (fun y ρ2 => kShr x y fun z => Q z ρ2) E) E) := de_op2 (pe_op op_shr) (dop_I fun _ _ _ => rep_int) ha hb
def kAddS : KTr2
  | .str i, .str j, Q => i.length + j.length ≤ sizeLine ∧ Q (.str (i ++ j))
  | _, _, _ => False
theorem kAddS_inv {d e : D} {Q : D → Prop} (h : kAddS d e Q) : ∃ i j, d = .str i ∧ e = .str j ∧ i.length + j.length ≤ sizeLine ∧ Q (.str (i ++ j)) := by
  unfold kAddS at h
  split at h
  · exact ⟨_, _, rfl, rfl, h⟩
  · exact h.elim
theorem de_addS {t u : ETr} (ha : DE X W B a t) (hb : DE X W B b u) : DE X W B (.BinOp a .Add b pos) (fun ρ Q E => t ρ (fun x ρ1 => u ρ1 (fun y ρ2 => kAddS x y fun z => Q z ρ2) E) E) := de_op2 (pe_op op_add_str) (fun F H x y d e Q Q' _ rx ry h k => by
  obtain ⟨i, j, rfl, rfl, hl, q⟩ := kAddS_inv h
  exact ⟨i, j, rep_str_inv rx, rep_str_inv ry, hl, k _ _ rep_str q⟩) ha hb
/-! comparisons -/
theorem de_cmp {r : R2} {k : KTr2} {op : CmpOp} {t u : ETr} (ho : OpR X (compareOp op) r) (hr : DOp2 X.K r k) (ha : DE X W B a t) (hb : DE X W B b u) (hm : behindInMarks op b = false := by first | exact nomark _ | rfl) :
    DE X W B (.Compare a [op] [b] pos) (fun ρ Q E => t ρ (fun x ρ1 => u ρ1 (fun y ρ2 => k x y fun z => Q z ρ2) E) E) := de_op2 (fun p q => pe_cmpR ho p q hm) hr ha hb
theorem dt_cmp {r : R2} {k : KTr2} {op : CmpOp} {t u : ETr} (ho : OpR X (compareOp op) r) (hr : DOp2 X.K r k) (ha : DE X W B a t) (hb : DE X W B b u) (hm : behindInMarks op b = false := by first | exact nomark _ | rfl) :
    DT X W B (.Compare a [op] [b] pos) (fun ρ Q E => t ρ (fun x ρ1 => u ρ1 (fun y ρ2 => k x y fun z => onBl z fun w => Q w ρ2) E) E) := dt_op2 (fun p q => pt_cmpR ho p q hm) hr ha hb
theorem d_lt {K : PySem.W.Frag} : DOp2 K (rI0 fun i j => .bl (decide (i < j))) kLt := dop_I0 fun _ _ _ => rep_bl
theorem d_le {K : PySem.W.Frag} : DOp2 K (rI0 fun i j => .bl (decide (i ≤ j))) kLe := dop_I0 fun _ _ _ => rep_bl
theorem d_gt {K : PySem.W.Frag} : DOp2 K (rI0 fun i j => .bl (decide (j < i))) kGt := dop_I0 fun _ _ _ => rep_bl
theorem d_ge {K : PySem.W.Frag} : DOp2 K (rI0 fun i j => .bl (decide (j ≤ i))) kGe := dop_I0 fun _ _ _ => rep_bl
/-- == of flat data of one kind -/
def eqF : D → D → Option Bool
  | .int i, .int j => some (decide (i = j))
  | .str i, .str j => some (decide (i = j))
  | .bl i, .bl j => some (decide (i = j))
  | .non, .non => some true
  | .non, .int _ => some false
  | .int _, .non => some false
  | .non, .str _ => some false
  | .str _, .non => some false
  | .int _, .str _ => some false
  | .str _, .int _ => some false
  | _, _ => none
def kEq : KTr2 := fun d e Q => match eqF d e with
  | some b => Q (.bl b)
  | none => False
def kNe : KTr2 := fun d e Q => match eqF d e with
  | some b => Q (.bl (!b))
  | none => False
theorem eqF_ok {K : PySem.W.Frag} {d e : D} {x y : V} {b : Bool} (h : eqF d e = some b) (rx : Rep K F d x) (ry : Rep K F e y) : scal x y = true ∧ decide (x = y) = b := by
  cases d <;> cases e <;> simp only [eqF, reduceCtorEq, Option.some.injEq] at h <;> unfold Rep at rx ry <;> subst h rx ry <;> simp [scal]
theorem d_eq {K : PySem.W.Frag} : DOp2 K rEq kEq := fun F H x y d e Q Q' _ rx ry h k => by
  unfold kEq at h
  split at h
  · rename_i b hb
    obtain ⟨s, z⟩ := eqF_ok hb rx ry
    exact ⟨s, by rw [z]; exact k _ _ rep_bl h⟩
  · exact h.elim
theorem d_ne {K : PySem.W.Frag} : DOp2 K rNe kNe := fun F H x y d e Q Q' _ rx ry h k => by
  unfold kNe at h
  split at h
  · rename_i b hb
    obtain ⟨s, z⟩ := eqF_ok hb rx ry
    exact ⟨s, by rw [z]; exact k _ _ rep_bl h⟩
  · exact h.elim
/-! a sign in a text -/
def inSign (x : Str) (z : Str) (k : Bool → Prop) : Prop := match x.cps.toList with
  | [c] => k (decide (c ∈ z.cps.toList))
  | _ => False
theorem inSign_inv {x z : Str} {k : Bool → Prop} (h : inSign x z k) : ∃ c, x = ⟨#[c]⟩ ∧ k (decide (c ∈ z.cps.toList)) := by
  unfold inSign at h
  split at h
  · rename_i c e
    refine ⟨c, ?_, h⟩
    obtain ⟨cs⟩ := x
    have e' : cs = #[c] := by
      rw [← Array.toArray_toList (xs := cs)]
      exact congrArg List.toArray e
    rw [e']
  · exact h.elim
def kInS : KTr2
  | .str x, .str z, Q => inSign x z fun b => Q (.bl b)
  | _, _, _ => False
def kNotInS : KTr2
  | .str x, .str z, Q => inSign x z fun b => Q (.bl (!b))
  | _, _, _ => False
theorem d_inS {K : PySem.W.Frag} : DOp2 K (fun x y H Q => ∃ (c : Nat) (z : Str), x = .str ⟨#[c]⟩ ∧ y = .str z ∧ Q (.bl (decide (c ∈ z.cps.toList))) H) kInS := fun F H x y d e Q Q' _ rx ry h k => by
  unfold kInS at h
  split at h
  · obtain ⟨c, rfl, q⟩ := inSign_inv h
    exact ⟨_, _, rep_str_inv rx, rep_str_inv ry, k _ _ rep_bl q⟩
  · exact h.elim
theorem d_notInS {K : PySem.W.Frag} : DOp2 K (fun x y H Q => ∃ (c : Nat) (z : Str), x = .str ⟨#[c]⟩ ∧ y = .str z ∧ Q (.bl (!decide (c ∈ z.cps.toList))) H) kNotInS := fun F H x y d e Q Q' _ rx ry h k => by
  unfold kNotInS at h
  split at h
  · obtain ⟨c, rfl, q⟩ := inSign_inv h
    exact ⟨_, _, rep_str_inv rx, rep_str_inv ry, k _ _ rep_bl q⟩
  · exact h.elim
/-! is True, is False -/
def rIsBl : R2 := fun x y H Q => ∃ b : Bool, y = .bl b ∧ Q (.bl (decide (x = .bl b))) H
theorem op_isBl' : OpR X (compareOp .Is) rIsBl := by
  intro pins s σ H x y v u Q I rx ry h
  obtain ⟨b, rfl, q⟩ := h
  cases (show u = Value.bool b from ry)
  have fin : ∀ (z : Bool), z = decide (x = .bl b) → EP X pins σ Q (.bool z) s := fun z e => ⟨.bl z, H, I, rfl, by rw [e]; exact q⟩
  cases x with
  | bl a =>
    cases (show v = Value.bool a from rx)
    by_cases e : a = b
    · subst e
      exact wpAny_is_self rfl (fin true (by simp))
    · exact wpAny_is_other rfl (fun z => e (Value.bool.inj z)) (fin false (by simp [e]))
  | non => cases (show v = Value.none from rx); exact wpAny_is_other rfl (fun z => nomatch z) (fin false (by simp))
  | int i => obtain ⟨t, rfl⟩ := rx; exact wpAny_is_other rfl (fun z => nomatch z) (fin false (by simp))
  | str i => obtain ⟨t, rfl⟩ := rx; exact wpAny_is_other rfl (fun z => nomatch z) (fin false (by simp))
  | byt i => obtain ⟨t, rfl⟩ := rx; exact wpAny_is_other rfl (fun z => nomatch z) (fin false (by simp))
  | flt i => obtain ⟨t, rfl⟩ := rx; exact wpAny_is_other rfl (fun z => nomatch z) (fin false (by simp))
  | ref a => cases (show v = Value.ref a from rx); exact wpAny_is_other rfl (fun z => nomatch z) (fin false (by simp))
  | ty n => cases (show v = Value.type n from rx); exact wpAny_is_other rfl (fun z => nomatch z) (fin false (by simp))
def isBlD : D → Bool → Bool
  | .bl a, b => decide (a = b)
  | _, _ => false
theorem isBlD_ok {K : PySem.W.Frag} {d : D} {v : V} {b : Bool} (r : Rep K F d v) : decide (v = .bl b) = isBlD d b := by
  cases d <;> unfold Rep at r <;> first
    | (subst r; simp [isBlD])
    | (obtain ⟨_, _, rfl, _⟩ := r; simp [isBlD])
    | (obtain ⟨_, _, _, rfl, _⟩ := r; simp [isBlD])
def kIsBl : KTr2 := fun d e Q => match e with
  | .bl b => Q (.bl (isBlD d b))
  | _ => False
theorem d_isBl {K : PySem.W.Frag} : DOp2 K rIsBl kIsBl := fun F H x y d e Q Q' _ rx ry h k => by
  cases e with
  | bl b => exact ⟨b, rep_bl_inv ry, by rw [isBlD_ok rx]; exact k _ _ rep_bl h⟩
  | _ => exact h.elim
/-! chains -/
theorem dt_chain {r r' : R2} {k k' : KTr2} {op op' : CmpOp} {t u w : ETr} (ho : OpR X (compareOp op) r) (hr : DOp2 X.K r k) (ho' : OpR X (compareOp op') r') (hr' : DOp2 X.K r' k') (ha : DE X W B a t) (hb : DE X W B b u) (hc : DE X W B c w)
    (hm : lastMarks [op, op'] [b, c] = false := by with_unfolding_all rfl) : DT X W B (.Compare a [op, op'] [b, c] pos) (fun ρ Q E => t ρ (fun x ρ1 => u ρ1 (fun y ρ2 => k x y fun z => onBl z fun l => br l (w ρ2 (fun v ρ3 => k' y v fun z' => onBl z' fun l' => Q l' ρ3) E) (Q false ρ2)) E) E) := by
  obtain ⟨ta, p1, r1⟩ := ha
  obtain ⟨tb, p2, r2⟩ := hb
  obtain ⟨tc, p3, r3⟩ := hc
  refine ⟨_, pt_chain ho ho' p1 p2 p3 hm, fun F H ρ σ Q E Q' R ex h kk => r1 F H ρ σ _ E _ R ex h fun d ρ1 v F1 H1 s1 R1 rv q1 => r2 F1 H1 ρ1 σ _ E _ R1 (ex.step s1.st) q1 fun d2 ρ2 v2 F2 H2 s2 R2 rv2 q2 => ?_⟩
  refine hr F2 H2 v v2 d d2 _ _ R2.le (rv.mono s2.st.fle) rv2 q2 fun z w' rw' qz => ?_
  obtain ⟨l, rfl, qz⟩ := onBl_inv qz
  refine ⟨l, rep_bl_inv rw', ?_⟩
  cases l with
  | false =>
    rw [if_neg Bool.false_ne_true]
    exact ⟨false, rfl, kk false ρ2 F2 H2 (s1.trans s2) R2 qz⟩
  | true =>
    rw [if_pos rfl]
    refine r3 F2 H2 ρ2 σ _ E _ R2 (ex.step (s1.trans s2).st) qz fun d3 ρ3 v3 F3 H3 s3 R3 rv3 q3 => ?_
    refine hr' F3 H3 v2 v3 d2 d3 _ _ R3.le (rv2.mono s3.st.fle) rv3 q3 fun z w'' rw'' qz' => ?_
    obtain ⟨l', rfl, qz'⟩ := onBl_inv qz'
    exact ⟨l', rep_bl_inv rw'', kk l' ρ3 F3 H3 ((s1.trans s2).trans s3) R3 qz'⟩
theorem de_chain {r r' : R2} {k k' : KTr2} {op op' : CmpOp} {t u w : ETr} (ho : OpR X (compareOp op) r) (hr : DOp2 X.K r k) (ho' : OpR X (compareOp op') r') (hr' : DOp2 X.K r' k') (ha : DE X W B a t) (hb : DE X W B b u) (hc : DE X W B c w)
    (hm : lastMarks [op, op'] [b, c] = false := by with_unfolding_all rfl) : DE X W B (.Compare a [op, op'] [b, c] pos) (fun ρ Q E => t ρ (fun x ρ1 => u ρ1 (fun y ρ2 => k x y fun z => onBl z fun l => br l (w ρ2 (fun v ρ3 => k' y v fun z' => Q z' ρ3) E) (Q (.bl false) ρ2)) E) E) := by
  obtain ⟨ta, p1, r1⟩ := ha
  obtain ⟨tb, p2, r2⟩ := hb
  obtain ⟨tc, p3, r3⟩ := hc
  refine ⟨_, pe_chain ho ho' p1 p2 p3 hm, fun F H ρ σ Q E Q' R ex h kk => r1 F H ρ σ _ E _ R ex h fun d ρ1 v F1 H1 s1 R1 rv q1 => r2 F1 H1 ρ1 σ _ E _ R1 (ex.step s1.st) q1 fun d2 ρ2 v2 F2 H2 s2 R2 rv2 q2 => ?_⟩
  refine hr F2 H2 v v2 d d2 _ _ R2.le (rv.mono s2.st.fle) rv2 q2 fun z w' rw' qz => ?_
  obtain ⟨l, rfl, qz⟩ := onBl_inv qz
  refine ⟨l, rep_bl_inv rw', ?_⟩
  cases l with
  | false =>
    rw [if_neg Bool.false_ne_true]
    exact kk _ ρ2 _ F2 H2 (s1.trans s2) R2 rep_bl qz
  | true =>
    rw [if_pos rfl]
    refine r3 F2 H2 ρ2 σ _ E _ R2 (ex.step (s1.trans s2).st) qz fun d3 ρ3 v3 F3 H3 s3 R3 rv3 q3 => ?_
    exact hr' F3 H3 v2 v3 d2 d3 _ _ R3.le (rv2.mono s3.st.fle) rv3 q3 fun z w'' rw'' qz' => kk _ ρ3 _ F3 H3 ((s1.trans s2).trans s3) R3 rw'' qz'

/-! ### one place operators, is -/
theorem de_neg {t : ETr} (ha : DE X W B a t) : DE X W B (.UnaryOp .USub a pos) (fun ρ Q E => t ρ (fun x ρ1 => match x with | .int i => Q (.int (-i)) ρ1 | _ => False) E) := by
  obtain ⟨ta, p1, r1⟩ := ha
  refine ⟨_, pe_un un_neg p1, fun F H ρ σ Q E Q' R ex h kk => r1 F H ρ σ _ E _ R ex h fun d ρ1 v F1 H1 s1 R1 rv q1 => ?_⟩
  cases d with
  | int i => exact ⟨i, rep_int_inv rv, kk _ _ _ _ _ s1 R1 rep_int q1⟩
  | _ => exact q1.elim
def isNon : D → Bool
  | .non => true
  | _ => false
theorem isNon_ok {K : PySem.W.Frag} {d : D} {v : V} (r : Rep K F d v) : decide (v = .non) = isNon d := by
  cases d <;> unfold Rep at r <;> first
    | (subst r; simp [isNon])
    | (obtain ⟨_, _, rfl, _⟩ := r; simp [isNon])
    | (obtain ⟨_, _, _, rfl, _⟩ := r; simp [isNon])
theorem de_isN {t : ETr} {j pos'} (ha : DE X W B a t) : DE X W B (.Compare a [.Is] [.Constant .none j pos'] pos) (fun ρ Q E => t ρ (fun x ρ1 => Q (.bl (isNon x)) ρ1) E) := by
  obtain ⟨ta, p1, r1⟩ := ha
  exact ⟨_, pe_cmp (pc_isN p1) rfl, fun F H ρ σ Q E Q' R ex h kk => r1 F H ρ σ _ E _ R ex h fun d ρ1 v F1 H1 s1 R1 rv q1 => kk _ _ _ _ _ s1 R1 (by rw [isNon_ok rv]; exact rep_bl) q1⟩
theorem de_notN {t : ETr} {j pos'} (ha : DE X W B a t) : DE X W B (.Compare a [.IsNot] [.Constant .none j pos'] pos) (fun ρ Q E => t ρ (fun x ρ1 => Q (.bl (!isNon x)) ρ1) E) := by
  obtain ⟨ta, p1, r1⟩ := ha
  exact ⟨_, pe_cmp (pc_notN p1) rfl, fun F H ρ σ Q E Q' R ex h kk => r1 F H ρ σ _ E _ R ex h fun d ρ1 v F1 H1 s1 R1 rv q1 => kk _ _ _ _ _ s1 R1 (by rw [isNon_ok rv]; exact rep_bl) q1⟩
theorem dt_isN {t : ETr} {j pos'} (ha : DE X W B a t) : DT X W B (.Compare a [.Is] [.Constant .none j pos'] pos) (fun ρ Q E => t ρ (fun x ρ1 => Q (isNon x) ρ1) E) := by
  obtain ⟨ta, p1, r1⟩ := ha
  exact ⟨_, pt_cmp (pc_isN p1) rfl, fun F H ρ σ Q E Q' R ex h kk => r1 F H ρ σ _ E _ R ex h fun d ρ1 v F1 H1 s1 R1 rv q1 => ⟨_, rfl, kk _ _ _ _ s1 R1 (by rw [isNon_ok rv]; exact q1)⟩⟩
theorem dt_notN {t : ETr} {j pos'} (ha : DE X W B a t) : DT X W B (.Compare a [.IsNot] [.Constant .none j pos'] pos) (fun ρ Q E => t ρ (fun x ρ1 => Q (!isNon x) ρ1) E) := by
  obtain ⟨ta, p1, r1⟩ := ha
  exact ⟨_, pt_cmp (pc_notN p1) rfl, fun F H ρ σ Q E Q' R ex h kk => r1 F H ρ σ _ E _ R ex h fun d ρ1 v F1 H1 s1 R1 rv q1 => ⟨_, rfl, kk _ _ _ _ s1 R1 (by rw [isNon_ok rv]; exact q1)⟩⟩
end
end DL

namespace DL
open PySem L2
def onSome {α : Type} : Option α → (α → Prop) → Prop
  | some a, k => k a
  | none, _ => False
theorem onSome_inv {α : Type} {o : Option α} {k : α → Prop} (h : onSome o k) : ∃ a, o = some a ∧ k a := by
  cases o with
  | some a => exact ⟨a, rfl, h⟩
  | none => exact h.elim
section
variable {X : Cx} {W : WX} {B : List Nat} {F F' F'' H H' H'' : Hp} {ρ ρ' ρ'' : List Sl} {σ σ' σ'' : St} {e a b c : Expr} {es : List Expr} {st : Stmt} {sts : List Stmt} {pos : Pos}
/-! ### items -/
def kIx : KTr2
  | .lst ds, .int i, Q => onSome (L2.atI ds i) Q
  | .tup ds, .int i, Q => onSome (L2.atI ds i) Q
  | .str s, .int i, Q => s.length ≤ sizeLine ∧ onSome (L2.atI s.cps.toList i) fun c => Q (.str ⟨#[c]⟩)
  | _, _, _ => False
theorem d_ix {K : PySem.W.Frag} : DOp2 K (rIx K) kIx := fun F H x y d e Q Q' le rx ry h k => by
  unfold kIx at h
  split at h
  · obtain ⟨z, hz, q⟩ := onSome_inv h
    unfold Rep at rx
    obtain ⟨p, vs, rfl, sq, rs⟩ := rx
    obtain ⟨v, hv, rv⟩ := rs.atI hz
    exact .inl ⟨p, vs, _, v, rfl, rep_int_inv ry, le.sql sq, hv, k _ _ rv q⟩
  · obtain ⟨z, hz, q⟩ := onSome_inv h
    unfold Rep at rx
    obtain ⟨p, vs, rfl, sq, rs⟩ := rx
    obtain ⟨v, hv, rv⟩ := rs.atI hz
    exact .inr (.inl ⟨p, vs, _, v, rfl, rep_int_inv ry, le.sqt sq, hv, k _ _ rv q⟩)
  · obtain ⟨hl, h⟩ := h
    obtain ⟨z, hz, q⟩ := onSome_inv h
    exact .inr (.inr ⟨_, _, z, rep_str_inv rx, rep_int_inv ry, hl, hz, k _ _ rep_str q⟩)
  · exact h.elim
theorem de_ix {t u : ETr} (ha : DE X W B a t) (hb : DE X W B b u) (hs : PlainIx b := by exact fun _ _ => rfl) : DE X W B (.Subscript a b pos) (fun ρ Q E => t ρ (fun x ρ1 => u ρ1 (fun y ρ2 => kIx x y fun z => Q z ρ2) E) E) := de_op2 (fun p q => pe_ix ix_seq p q hs) d_ix ha hb
/-- an item of a list that a slot owns -/
def kIxO : MO → D → (D → Prop) → Prop
  | .lst ds, .int i, Q => onSome (L2.atI ds i) Q
  | _, _, _ => False
theorem slot_ref (R : Rel X.K F H ρ σ) {i : Nat} {m : MO} (e : gt ρ i = .own m) : ∃ p, σ[i]? = some (some (V.ref p)) ∧ F p = none ∧ OwnAt X.K F H p m := R.owns i m (gt_some e (by intro z; cases z))
theorem de_ixO (i : Nat) {u : ETr} {x : Str} {pos' : Pos} (hb : DE X W B b u) (hs : PlainIx b := by exact fun _ _ => rfl) (hN : X.N[i]? = some x := by rfl) (hv : Vis X.env.scope x := by first | exact Or.inl rfl | exact Or.inr (Or.inl rfl) | exact Or.inr (Or.inr rfl)) (hd : (x == ("__debug__" : Str)) = false := by decide)
    (hcd : (x == ("__classdict__" : Str)) = false := by decide) : DE X W B (.Subscript (.Name x pos') b pos) (fun ρ Q E => onOwn (gt ρ i) fun _ => u ρ (fun y ρ2 => onOwn (gt ρ2 i) fun m => kIxO m y fun z => Q z ρ2) E) := by
  obtain ⟨tb, p2, r2⟩ := hb
  refine ⟨_, pe_ix ix_list (pe_var hN hv hd hcd) p2 hs, fun F H ρ σ Q E Q' R ex h kk => ?_⟩
  obtain ⟨m0, e0, h⟩ := onOwn_inv h
  obtain ⟨p, s, n, o⟩ := slot_ref R e0
  refine ⟨.ref p, s, r2 F H ρ σ _ E _ R ex h fun d2 ρ2 v2 F2 H2 s2 R2 rv2 q2 => ?_⟩
  obtain ⟨m, e, q⟩ := onOwn_inv q2
  obtain ⟨p', s', n', o'⟩ := slot_ref R2 e
  rw [s] at s'; cases s'
  unfold kIxO at q
  split at q
  · obtain ⟨z, hz, q⟩ := onSome_inv q
    obtain ⟨vs, hvs, rs⟩ := o'
    obtain ⟨v, hv', rv⟩ := rs.atI hz
    exact ⟨p, vs, _, v, rfl, rep_int_inv rv2, .inl (.inl hvs), hv', kk _ _ _ _ _ s2 R2 rv q⟩
  · exact q.elim

/-! ### fields -/
def lk (f : Str) : List Str → List D → Option D
  | n :: ns, d :: ds => if f = n then some d else lk f ns ds
  | _, _ => none
theorem lk_ok {K : PySem.W.Frag} {f : Str} : ∀ {gs : List (Str × V)} {ns : List Str} {ds : List D} {d : D}, gs.map (·.1) = ns → Reps K F ds (gs.map (·.2)) → lk f ns ds = some d → ∃ v, gs.lookup f = some v ∧ Rep K F d v
  | [], ns, ds, d, e, r, h => by
    cases e
    cases ds <;> simp [lk] at h
  | g :: gs, ns, ds, d, e, r, h => by
    subst e
    cases ds with
    | nil => simp [lk] at h
    | cons d0 ds =>
      obtain ⟨v, rr, e2, r0, r1⟩ := r.cons_inv
      simp only [List.map_cons, List.cons.injEq] at e2
      obtain ⟨e3, e4⟩ := e2
      obtain ⟨n, v0⟩ := g
      simp only [List.map_cons, lk] at h
      by_cases q : f = n
      · rw [if_pos q] at h
        cases h
        refine ⟨v0, by rw [List.lookup_cons, q]; simp, by rw [show v0 = v from e3]; exact r0⟩
      · rw [if_neg q] at h
        obtain ⟨u, hu, ru⟩ := lk_ok (gs := gs) rfl (by rw [e4]; exact r1) h
        exact ⟨u, by rw [List.lookup_cons, (by simpa using q : (f == n) = false)]; exact hu, ru⟩
structure FldOk (K : PySem.W.Frag) (C : Addr) (f : Str) : Prop where
  cl : Cls K C
  na : NoAttr K C f
def kFld (K : PySem.W.Frag) (f : Str) : D → (D → Prop) → Prop
  | .obj C ns ds, Q => FldOk K C f ∧ onSome (lk f ns ds) Q
  | _, _ => False
theorem de_fld (K : PySem.W.Frag) {t : ETr} {f : Str} (ha : DE X W B a t) (hK : X.K = K := by rfl) (hb : attributeBase a f X.env (eval a X.env) = eval a X.env := by rfl) : DE X W B (.Attribute a f pos) (fun ρ Q E => t ρ (fun x ρ1 => kFld K f x fun z => Q z ρ1) E) := by
  subst hK
  obtain ⟨ta, p1, r1⟩ := ha
  refine ⟨_, pe_fld p1 hb, fun F H ρ σ Q E Q' R ex h kk => r1 F H ρ σ _ E _ R ex h fun d ρ1 v F1 H1 s1 R1 rv q1 => ?_⟩
  unfold kFld at q1
  split at q1
  · obtain ⟨fo, q⟩ := q1
    obtain ⟨z, hz, q⟩ := onSome_inv q
    unfold Rep at rv
    obtain ⟨p, dx, gs, rfl, hp, hn, rs⟩ := rv
    obtain ⟨u, hu, ru⟩ := lk_ok hn rs hz
    exact ⟨p, _, dx, gs, u, rfl, R1.le _ _ hp, fo.cl, fo.na, hu, kk _ _ _ _ _ s1 R1 ru q⟩
  · exact q1.elim

/-! ### argument lists, displays -/
theorem da_nil : DA X W B [] (fun ρ Q E => Q [] ρ) := ⟨_, pa_nil, fun F H ρ σ Q E Q' R ex h kk => kk [] ρ [] F H Est.refl R .nil rfl h⟩
theorem da_cons {t : ETr} {u : ATr} (ha : DE X W B e t) (hr : DA X W B es u) (hs : starEach (e :: es) X.env = (false, eval e X.env) :: starEach es X.env := by rfl) :
    DA X W B (e :: es) (fun ρ Q E => t ρ (fun d ρ1 => u ρ1 (fun ds ρ2 => Q (d :: ds) ρ2) E) E) := by
  obtain ⟨ta, p1, r1⟩ := ha
  obtain ⟨tb, p2, r2⟩ := hr
  refine ⟨_, pa_cons p1 p2 hs, fun F H ρ σ Q E Q' R ex h kk => r1 F H ρ σ _ E _ R ex h fun d ρ1 v F1 H1 s1 R1 rv q1 => r2 F1 H1 ρ1 σ _ E _ R1 (ex.step s1.st) q1 fun ds ρ2 vs F2 H2 s2 R2 rs hl q2 => ?_⟩
  exact kk (d :: ds) ρ2 (v :: vs) F2 H2 (s1.trans s2) R2 (.cons (rv.mono s2.st.fle) rs) (by simp [hl]) q2
/-- the common end of what makes a new thing -/
theorem made {p : Addr} {o : HO} {m : MO} (R : Rel X.K F H ρ σ) (hp : H p = none) (ho : OwnAt X.K F (upd H p o) p m) :
    Est B F H ρ F (upd H p o) ρ σ ∧ Rel X.K F (upd H p o) ρ σ ∧ F p = none ∧ OwnAt X.K F (upd H p o) p m ∧ ∀ (i : Nat) (m' : MO), ρ[i]? = some (Sl.own m') → σ[i]? ≠ some (some (V.ref p)) := by
  obtain ⟨s, R'⟩ := Est.laid (B := B) (o := o) R hp
  refine ⟨s, R', R.le.free hp, ho, fun i m' q z => ?_⟩
  obtain ⟨a, t, _, o'⟩ := R.owns i m' q
  rw [z] at t; cases t
  obtain ⟨u, hu⟩ := o'.here
  rw [hp] at hu; cases hu
theorem sz_small {n : Nat} (h : n ≤ 1000000) : n ≤ sizeLine := Nat.le_trans h (by decide)
theorem dn_lst {t : ATr} (h : DA X W B es t) (hz : es.length ≤ 1000000 := by decide) : DN X W B (.List es pos) (fun ρ Q E => t ρ (fun ds ρ1 => Q (.lst ds) ρ1) E) := by
  obtain ⟨ta, p1, r1⟩ := h
  refine ⟨_, pe_lst p1, fun F H ρ σ Q E Q' R ex h kk => r1 F H ρ σ _ E _ R ex h fun ds ρ1 vs F1 H1 s1 R1 rs hl q1 => ⟨by rw [← rs.length, hl]; exact sz_small hz, fun p hp => ?_⟩⟩
  obtain ⟨s, R', n, o, no⟩ := made (B := B) (o := .lst vs) (m := .lst ds) R1 hp ⟨vs, upd_same, rs⟩
  exact kk _ _ p _ _ (s1.trans s) R' (s1.st.fresh hp) n o no q1
/-- a new tuple: frozen at once -/
theorem laidT {p : Addr} {vs : List V} {ds : List D} (R : Rel X.K F H ρ σ) (hp : H p = none) (rs : Reps X.K F ds vs) :
    Est B F H ρ (upd F p (.tup vs)) (upd H p (.tup vs)) ρ σ ∧ Rel X.K (upd F p (.tup vs)) (upd H p (.tup vs)) ρ σ ∧ Rep X.K (upd F p (.tup vs)) (.tup ds) (.ref p) := by
  obtain ⟨s, R'⟩ := Est.laid (B := B) (o := .tup vs) R hp
  have n := R.le.free hp
  have no : ∀ (i : Nat) (m' : MO), ρ[i]? = some (Sl.own m') → σ[i]? ≠ some (some (V.ref p)) := fun i m' q z => by
    obtain ⟨a, t, _, o'⟩ := R.owns i m' q
    rw [z] at t; cases t
    obtain ⟨u, hu⟩ := o'.here
    rw [hp] at hu; cases hu
  refine ⟨⟨⟨s.st.fle.trans (Le.new n), s.st.keep, s.st.there, fun a o h na => ?_, s.st.own, s.st.bor⟩, s.pat⟩, Est.freeze R' upd_same n no, ?_⟩
  · by_cases q : a = p
    · subst q; exact .inl hp
    · rw [upd_ne q, na] at h; cases h
  · unfold Rep
    exact ⟨p, vs, rfl, .inl (.inl upd_same), rs.mono (Le.new n)⟩
theorem de_tup {t : ATr} {x1} (h : DA X W B es t) (hz : es.length ≤ 1000000 := by decide) : DE X W B (.Tuple es x1 pos) (fun ρ Q E => t ρ (fun ds ρ1 => Q (.tup ds) ρ1) E) := by
  obtain ⟨ta, p1, r1⟩ := h
  refine ⟨_, pe_tup p1, fun F H ρ σ Q E Q' R ex h kk => r1 F H ρ σ _ E _ R ex h fun ds ρ1 vs F1 H1 s1 R1 rs hl q1 => ⟨by rw [← rs.length, hl]; exact sz_small hz, fun p hp => ?_⟩⟩
  obtain ⟨s, R', r⟩ := laidT (B := B) R1 hp rs
  exact kk _ _ _ _ _ (s1.trans s) R' r q1

/-! ### calls of built-ins -/
abbrev KTrN := List D → (D → Prop) → Prop
def DCl (K : PySem.W.Frag) (r : List V → Hp → VK → Prop) (k : KTrN) : Prop := ∀ (F H : Hp) (vs : List V) (ds : List D) (Q : D → Prop) (Q' : VK), Le F H → Reps K F ds vs → k ds Q → (∀ (z : D) (v : V), Rep K F z v → Q z → Q' v H) → r vs H Q'
variable {x : Str} {p : Pos} {id T : String} {r : List V → Hp → VK → Prop} {k : KTrN}
theorem de_callB {t : ATr} (hc : CallR X (.builtin id) r) (hk : DCl X.K r k) (hm : X.mg x = none) (hv : bootBuiltins x = some (.builtin id)) (ha : DA X W B (e :: es) t) (hg : Gl X x := by rfl) (hn : x ≠ "__name__" := by decide) (hdb : (x == ("__debug__" : Str)) = false := by decide)
    (he : starEach (e :: es) X.env = (false, eval e X.env) :: starEach es X.env := by rfl) (hpl : (backTo pos (starEach es X.env)).any (·.1) = false := by rfl) : DE X W B (.Call (.Name x p) (e :: es) [] pos) (fun ρ Q E => t ρ (fun ds ρ1 => k ds fun z => Q z ρ1) E) := by
  obtain ⟨ta, p1, r1⟩ := ha
  exact ⟨_, pe_callB hc hg hm hv p1 hn hdb he hpl, fun F H ρ σ Q E Q' R ex h kk => r1 F H ρ σ _ E _ R ex h fun ds ρ1 vs F1 H1 s1 R1 rs hl q1 => hk F1 H1 vs ds _ _ R1.le rs q1 fun z v rz qz => kk z ρ1 v F1 H1 s1 R1 rz qz⟩
theorem de_callT {t : ATr} (hc : CallR X (.type T) r) (hk : DCl X.K r k) (hm : X.mg x = none) (hv : bootBuiltins x = some (.type T)) (ha : DA X W B (e :: es) t) (hg : Gl X x := by rfl) (hn : x ≠ "__name__" := by decide) (hdb : (x == ("__debug__" : Str)) = false := by decide)
    (he : starEach (e :: es) X.env = (false, eval e X.env) :: starEach es X.env := by rfl) (hpl : (backTo pos (starEach es X.env)).any (·.1) = false := by rfl) : DE X W B (.Call (.Name x p) (e :: es) [] pos) (fun ρ Q E => t ρ (fun ds ρ1 => k ds fun z => Q z ρ1) E) := by
  obtain ⟨ta, p1, r1⟩ := ha
  exact ⟨_, pe_callTy hc hg hm hv p1 hn hdb he hpl, fun F H ρ σ Q E Q' R ex h kk => r1 F H ρ σ _ E _ R ex h fun ds ρ1 vs F1 H1 s1 R1 rs hl q1 => hk F1 H1 vs ds _ _ R1.le rs q1 fun z v rz qz => kk z ρ1 v F1 H1 s1 R1 rz qz⟩
/-! len, abs, int, sum, min, max -/
def kLen : KTrN
  | [.str s], Q => s.length ≤ sizeLine ∧ Q (.int s.length)
  | [.lst ds], Q => Q (.int ds.length)
  | [.tup ds], Q => Q (.int ds.length)
  | _, _ => False
theorem reps1 {K : PySem.W.Frag} {d : D} {vs : List V} (h : Reps K F [d] vs) : ∃ v, vs = [v] ∧ Rep K F d v := by
  obtain ⟨v, r, rfl, q, t⟩ := h.cons_inv
  rw [t.nil_inv]; exact ⟨v, rfl, q⟩
theorem reps2 {K : PySem.W.Frag} {d d' : D} {vs : List V} (h : Reps K F [d, d'] vs) : ∃ v v', vs = [v, v'] ∧ Rep K F d v ∧ Rep K F d' v' := by
  obtain ⟨v, r, rfl, q, t⟩ := h.cons_inv
  obtain ⟨v', rfl, q'⟩ := reps1 t
  exact ⟨v, v', rfl, q, q'⟩
theorem d_len {K : PySem.W.Frag} : DCl K (fun xs H Q => ∃ x n, xs = [x] ∧ LenV K x H n ∧ Q (.int n) H) kLen := fun F H vs ds Q Q' le rs h k => by
  unfold kLen at h
  split at h
  · obtain ⟨v, rfl, rv⟩ := reps1 rs
    cases rep_str_inv rv
    exact ⟨_, _, rfl, ⟨h.1, rfl⟩, k _ _ rep_int h.2⟩
  · obtain ⟨v, rfl, rv⟩ := reps1 rs
    unfold Rep at rv
    obtain ⟨p, us, rfl, sq, rr⟩ := rv
    exact ⟨_, _, rfl, .inl ⟨us, le.sql sq, rfl⟩, k _ _ (by rw [← rr.length]; exact rep_int) h⟩
  · obtain ⟨v, rfl, rv⟩ := reps1 rs
    unfold Rep at rv
    obtain ⟨p, us, rfl, sq, rr⟩ := rv
    exact ⟨_, _, rfl, .inr ⟨us, le.sqt sq, rfl⟩, k _ _ (by rw [← rr.length]; exact rep_int) h⟩
  · exact h.elim
def kAbs : KTrN
  | [.int i], Q => Q (.int (i.natAbs : Int))
  | _, _ => False
theorem d_abs {K : PySem.W.Frag} : DCl K (fun xs H Q => ∃ i, xs = [.int i] ∧ Q (.int (if i < 0 then -i else i)) H) kAbs := fun F H vs ds Q Q' le rs h k => by
  unfold kAbs at h
  split at h
  · obtain ⟨v, rfl, rv⟩ := reps1 rs
    cases rep_int_inv rv
    rename_i i
    have e : (if i < 0 then -i else i) = (i.natAbs : Int) := by split <;> omega
    exact ⟨_, rfl, by rw [e]; exact k _ _ rep_int h⟩
  · exact h.elim
def kInt1 : KTrN
  | [.int i], Q => Q (.int i)
  | [.bl b], Q => Q (.int (if b then 1 else 0))
  | _, _ => False
theorem d_int1 {K : PySem.W.Frag} : DCl K (fun xs H Q => (∃ i, xs = [.int i] ∧ Q (.int i) H) ∨ ∃ k, xs = [.bl k] ∧ Q (.int (if k then 1 else 0)) H) kInt1 := fun F H vs ds Q Q' le rs h k => by
  unfold kInt1 at h
  split at h
  · obtain ⟨v, rfl, rv⟩ := reps1 rs
    cases rep_int_inv rv
    exact .inl ⟨_, rfl, k _ _ rep_int h⟩
  · obtain ⟨v, rfl, rv⟩ := reps1 rs
    cases rep_bl_inv rv
    exact .inr ⟨_, rfl, k _ _ rep_int h⟩
  · exact h.elim
def asInts : List D → Option (List Int)
  | [] => some []
  | .int i :: r => (asInts r).map (i :: ·)
  | _ :: _ => none
theorem asInts_map : ∀ ns : List Int, asInts (ns.map D.int) = some ns
  | [] => rfl
  | n :: ns => by simp [asInts, asInts_map ns]
theorem asInts_eq : ∀ {ds : List D} {ns : List Int}, asInts ds = some ns → ds = ns.map D.int
  | [], ns, h => by simp [asInts] at h; subst h; rfl
  | .int i :: r, ns, h => by
    simp only [asInts, Option.map_eq_some_iff] at h
    obtain ⟨ms, h, rfl⟩ := h
    rw [List.map_cons, asInts_eq h]
  | .non :: _, _, h => by simp [asInts] at h
  | .bl _ :: _, _, h => by simp [asInts] at h
  | .str _ :: _, _, h => by simp [asInts] at h
  | .ref _ :: _, _, h => by simp [asInts] at h
  | .ty _ :: _, _, h => by simp [asInts] at h
  | .tup _ :: _, _, h => by simp [asInts] at h
  | .lst _ :: _, _, h => by simp [asInts] at h
  | .obj _ _ _ :: _, _, h => by simp [asInts] at h
def lmin : List Int → Int
  | [] => 0
  | n :: ns => ns.foldl min n
def lmax : List Int → Int
  | [] => 0
  | n :: ns => ns.foldl max n
theorem foldl_min_mem : ∀ (ns : List Int) (n : Int), (ns.foldl min n = n ∨ ns.foldl min n ∈ ns) ∧ ns.foldl min n ≤ n ∧ ∀ y ∈ ns, ns.foldl min n ≤ y
  | [], n => ⟨.inl rfl, Int.le_refl _, fun _ h => by simp at h⟩
  | m :: ns, n => by
    obtain ⟨h1, h2, h3⟩ := foldl_min_mem ns (min n m)
    rw [List.foldl_cons]
    refine ⟨?_, Int.le_trans h2 (Int.min_le_left _ _), fun y hy => ?_⟩
    · rcases h1 with h1 | h1
      · rw [h1]
        by_cases c : n ≤ m
        · exact .inl (Int.min_eq_left c)
        · refine .inr ?_
          rw [Int.min_eq_right (by omega)]; exact List.mem_cons_self
      · exact .inr (List.mem_cons_of_mem _ h1)
    · rcases List.mem_cons.mp hy with rfl | hy
      · exact Int.le_trans h2 (Int.min_le_right _ _)
      · exact h3 y hy
theorem foldl_max_mem : ∀ (ns : List Int) (n : Int), (ns.foldl max n = n ∨ ns.foldl max n ∈ ns) ∧ n ≤ ns.foldl max n ∧ ∀ y ∈ ns, y ≤ ns.foldl max n
  | [], n => ⟨.inl rfl, Int.le_refl _, fun _ h => by simp at h⟩
  | m :: ns, n => by
    obtain ⟨h1, h2, h3⟩ := foldl_max_mem ns (max n m)
    rw [List.foldl_cons]
    refine ⟨?_, Int.le_trans (Int.le_max_left _ _) h2, fun y hy => ?_⟩
    · rcases h1 with h1 | h1
      · rw [h1]
        by_cases c : m ≤ n
        · exact .inl (Int.max_eq_left c)
        · refine .inr ?_
          rw [Int.max_eq_right (by omega)]; exact List.mem_cons_self
      · exact .inr (List.mem_cons_of_mem _ h1)
    · rcases List.mem_cons.mp hy with rfl | hy
      · exact Int.le_trans (Int.le_max_right _ _) h2
      · exact h3 y hy
theorem lmin_mem : ∀ {ns : List Int}, ns ≠ [] → lmin ns ∈ ns
  | [], h => absurd rfl h
  | n :: ns, _ => by
    rcases (foldl_min_mem ns n).1 with h | h
    · show ns.foldl min n ∈ n :: ns
      rw [h]; exact List.mem_cons_self
    · exact List.mem_cons_of_mem _ h
theorem lmin_le : ∀ {ns : List Int} {y : Int}, y ∈ ns → lmin ns ≤ y
  | [], _, h => by simp at h
  | n :: ns, y, h => by
    rcases List.mem_cons.mp h with rfl | h
    · exact (foldl_min_mem ns y).2.1
    · exact (foldl_min_mem ns n).2.2 y h
theorem lmax_mem : ∀ {ns : List Int}, ns ≠ [] → lmax ns ∈ ns
  | [], h => absurd rfl h
  | n :: ns, _ => by
    rcases (foldl_max_mem ns n).1 with h | h
    · show ns.foldl max n ∈ n :: ns
      rw [h]; exact List.mem_cons_self
    · exact List.mem_cons_of_mem _ h
theorem le_lmax : ∀ {ns : List Int} {y : Int}, y ∈ ns → y ≤ lmax ns
  | [], _, h => by simp at h
  | n :: ns, y, h => by
    rcases List.mem_cons.mp h with rfl | h
    · exact (foldl_max_mem ns y).2.1
    · exact (foldl_max_mem ns n).2.2 y h
theorem lmin_uniq {ns : List Int} {m : Int} (h : m ∈ ns) (l : ∀ y ∈ ns, m ≤ y) : lmin ns = m :=
  Int.le_antisymm (lmin_le h) (l _ (lmin_mem (List.ne_nil_of_mem h)))
theorem lmax_uniq {ns : List Int} {m : Int} (h : m ∈ ns) (l : ∀ y ∈ ns, y ≤ m) : lmax ns = m :=
  Int.le_antisymm (l _ (lmax_mem (List.ne_nil_of_mem h))) (le_lmax h)
def kMinL : KTrN
  | [.lst ds], Q => onSome (asInts ds) fun ns => ns ≠ [] ∧ Q (.int (lmin ns))
  | _, _ => False
def kMaxL : KTrN
  | [.lst ds], Q => onSome (asInts ds) fun ns => ns ≠ [] ∧ Q (.int (lmax ns))
  | _, _ => False
def kSum : KTrN
  | [.lst ds], Q => onSome (asInts ds) fun ns => Q (.int ns.sum)
  | _, _ => False
theorem rep_ints {K : PySem.W.Frag} {ds : List D} {ns : List Int} {v : V} (le : Le F H) (h : asInts ds = some ns) (r : Rep K F (.lst ds) v) : ∃ p, v = .ref p ∧ SqL K H p (ns.map V.int) := by
  unfold Rep at r
  obtain ⟨p, vs, rfl, sq, rs⟩ := r
  rw [asInts_eq h] at rs
  rw [rs.ints] at sq
  exact ⟨p, rfl, le.sql sq⟩
theorem d_minL {K : PySem.W.Frag} : DCl K (rMin K) kMinL := fun F H vs ds Q Q' le rs h k => by
  unfold kMinL at h
  split at h
  · obtain ⟨ns, hi, hn, q⟩ := onSome_inv h
    obtain ⟨v, rfl, rv⟩ := reps1 rs
    obtain ⟨p, rfl, sq⟩ := rep_ints le hi rv
    exact ⟨p, ns, rfl, sq, List.length_pos_iff.mpr hn, fun m hm hle => by rw [← lmin_uniq hm hle]; exact k _ _ rep_int q⟩
  · exact h.elim
theorem d_maxL {K : PySem.W.Frag} : DCl K (rMax K) kMaxL := fun F H vs ds Q Q' le rs h k => by
  unfold kMaxL at h
  split at h
  · obtain ⟨ns, hi, hn, q⟩ := onSome_inv h
    obtain ⟨v, rfl, rv⟩ := reps1 rs
    obtain ⟨p, rfl, sq⟩ := rep_ints le hi rv
    exact ⟨p, ns, rfl, sq, List.length_pos_iff.mpr hn, fun m hm hle => by rw [← lmax_uniq hm hle]; exact k _ _ rep_int q⟩
  · exact h.elim
theorem d_sum {K : PySem.W.Frag} : DCl K (rSum K) kSum := fun F H vs ds Q Q' le rs h k => by
  unfold kSum at h
  split at h
  · obtain ⟨ns, hi, q⟩ := onSome_inv h
    obtain ⟨v, rfl, rv⟩ := reps1 rs
    obtain ⟨p, rfl, sq⟩ := rep_ints le hi rv
    exact ⟨p, ns, rfl, sq, k _ _ rep_int q⟩
  · exact h.elim
def kMax2 : KTrN
  | [.int i, .int j], Q => Q (.int (max i j))
  | _, _ => False
def kMin2 : KTrN
  | [.int i, .int j], Q => Q (.int (min i j))
  | _, _ => False
theorem d_max2 {K : PySem.W.Frag} : DCl K (fun xs H Q => ∃ i j, xs = [.int i, .int j] ∧ Q (.int (if j > i then j else i)) H) kMax2 := fun F H vs ds Q Q' le rs h k => by
  unfold kMax2 at h
  split at h
  · obtain ⟨v, v', rfl, rv, rv'⟩ := reps2 rs
    cases rep_int_inv rv
    cases rep_int_inv rv'
    rename_i i j
    have e : (if j > i then j else i) = max i j := by split <;> omega
    exact ⟨_, _, rfl, by rw [e]; exact k _ _ rep_int h⟩
  · exact h.elim
theorem d_min2 {K : PySem.W.Frag} : DCl K (fun xs H Q => ∃ i j, xs = [.int i, .int j] ∧ Q (.int (if j < i then j else i)) H) kMin2 := fun F H vs ds Q Q' le rs h k => by
  unfold kMin2 at h
  split at h
  · obtain ⟨v, v', rfl, rv, rv'⟩ := reps2 rs
    cases rep_int_inv rv
    cases rep_int_inv rv'
    rename_i i j
    have e : (if j < i then j else i) = min i j := by split <;> omega
    exact ⟨_, _, rfl, by rw [e]; exact k _ _ rep_int h⟩
  · exact h.elim
end
end DL

namespace DL
open PySem L2 PySem.Spec PyProof.Rows
section
variable {X : Cx} {W : WX} {B : List Nat} {F F' F'' H H' H'' : Hp} {ρ ρ' ρ'' : List Sl} {σ σ' σ'' : L2.St} {e a b c : Expr} {es : List Expr} {st : Stmt} {sts : List Stmt} {pos : Pos}

/-! ### what a slot owns is changed -/
theorem own_upd {i : Nat} {m m' : MO} {p : Addr} {o : HO} (R : Rel X.K F H ρ σ) (e : gt ρ i = .own m) (s : σ[i]? = some (some (V.ref p))) (ho : OwnAt X.K F (upd H p o) p m') :
    Est B F H ρ F (upd H p o) (ρ.set i (.own m')) σ ∧ Rel X.K F (upd H p o) (ρ.set i (.own m')) σ := by
  have e' := gt_some e (by intro z; cases z)
  obtain ⟨p', s', n, o'⟩ := R.owns i m e'
  rw [s] at s'; cases s'
  obtain ⟨u0, hu0⟩ := o'.here
  have hi : i < ρ.length := (List.getElem?_eq_some_iff.mp e').1
  have sub : ∀ (j : Nat) (k : MO), (ρ.set i (Sl.own m'))[j]? = some (Sl.own k) → ∃ k', ρ[j]? = some (Sl.own k') := fun j k q => by
    rcases get_set q with ⟨z, _⟩ | ⟨_, z⟩
    · exact ⟨m, z ▸ e'⟩
    · exact ⟨k, z⟩
  refine ⟨⟨⟨Le.refl F, fun a w h na => ?_, fun a w h => ?_, fun a w h na => (by rw [na] at h; cases h), fun a ⟨j, k, q, t⟩ => ?_, fun j hj => ⟨rfl, fun k q => ?_⟩⟩, sub⟩, fun a w h => ?_, by rw [List.length_set]; exact R.len, fun j d q => ?_, fun j k q => ?_, fun j k m1 n1 a q1 q2 t1 t2 => ?_⟩
  · rw [upd_ne fun z => na ⟨i, m, e', by rw [z]; exact s⟩]; exact h
  · by_cases q : a = p
    · subst q; exact ⟨o, upd_same⟩
    · exact ⟨w, by rw [upd_ne q]; exact h⟩
  · obtain ⟨k', q'⟩ := sub j k q
    exact .inl ⟨j, k', q', t⟩
  · by_cases z : i = j
    · subst z; exact ⟨m', by rw [List.getElem?_set_self hi]⟩
    · exact ⟨k, by rw [List.getElem?_set_ne z]; exact q⟩
  · rw [upd_ne fun z => by rw [z, n] at h; cases h]; exact R.le a w h
  · rcases get_set q with ⟨_, z⟩ | ⟨_, z⟩
    · cases z
    · exact R.vals j d z
  · rcases get_set q with ⟨z1, z2⟩ | ⟨z1, z2⟩
    · subst z1; cases z2
      exact ⟨p, s, n, ho⟩
    · obtain ⟨a, t, na, oa⟩ := R.owns j k z2
      have ne : a ≠ p := fun z => z1 (R.apart j i k m p z2 e' (z ▸ t) s)
      exact ⟨a, t, na, oa.mono (Le.refl F) fun u z => by rw [upd_ne ne]; exact z⟩
  · obtain ⟨k1, q1'⟩ := sub j m1 q1
    obtain ⟨k2, q2'⟩ := sub k n1 q2
    exact R.apart j k k1 k2 a q1' q2' t1 t2
def onLst : Sl → (List D → Prop) → Prop
  | .own (.lst ds), k => k ds
  | _, _ => False
theorem onLst_inv {s : Sl} {k : List D → Prop} (h : onLst s k) : ∃ ds, s = .own (.lst ds) ∧ k ds := by
  unfold onLst at h
  split at h
  · exact ⟨_, rfl, h⟩
  · exact h.elim
section
variable {x : Str} {pos' apos cpos : Pos}
/-- x.append(e), x a slot that owns a list -/
theorem ds_append (i : Nat) {t : ETr} (he : DE X W B e t) (hN : X.N[i]? = some x := by rfl) (hv : Vis X.env.scope x := by first | exact Or.inl rfl | exact Or.inr (Or.inl rfl) | exact Or.inr (Or.inr rfl)) (hd : (x == ("__debug__" : Str)) = false := by decide)
    (hcd : (x == ("__classdict__" : Str)) = false := by decide)
    (hbase : attributeBase (.Name x pos') "append" X.env (eval (.Name x pos') X.env) = eval (.Name x pos') X.env := by rfl)
    (hfew : ((backTo cpos (starEach (e :: []) X.env)).all (fun x => !x.1) && (backToKw cpos (keywordEach [] X.env)).all (fun x => x.1.isSome) && decide ((e :: []).length + ([] : List Keyword).length + (if ([] : List Keyword).isEmpty then 0 else 1) < 30)) = true := by rfl)
    (hline : (apos.endLine == cpos.line) = true := by rfl) (hs : starEach (e :: []) X.env = (false, eval e X.env) :: starEach [] X.env := by rfl) (hpl : (backTo cpos (starEach [] X.env)).any (·.1) = false := by rfl)
    (hsw : swapsWith (.Call (.Attribute (.Name x pos') "append" apos) [e] [] cpos) none pos.line X.env = pure false := by rfl) :
    DS X W B (.Expr (.Call (.Attribute (.Name x pos') "append" apos) [e] [] cpos) pos) (fun D ρ => onLst (gt ρ i) fun _ => t ρ (fun d ρ1 => onLst (gt ρ1 i) fun ds => ds.length < sizeLine ∧ D.nx (ρ1.set i (.own (.lst (ds ++ [d]))))) D.ex) := by
  obtain ⟨te, pe, run⟩ := he
  refine ⟨_, ps_expr (pe_bm PySem.F.plainAttrs_list PySem.F.slot_list_append PySem.F.type_list_append mt_append (pe_var hN hv hd hcd) (pa_cons pe pa_nil hs) hbase hfew hline hs hpl) hsw, fun F H ρ σ D' D R ER h => ?_⟩
  obtain ⟨ds0, e0, h⟩ := onLst_inv h
  obtain ⟨p, s, n, vs0, hp0, _⟩ := slot_ref R e0
  refine ⟨.ref p, s, .inl ⟨rfl, vs0, SqL.of hp0⟩, run F H ρ σ _ D'.ex _ R ER.ex h fun d ρ1 v F1 H1 s1 R1 r1 q => ?_⟩
  obtain ⟨ds, e1, hz, q⟩ := onLst_inv q
  obtain ⟨p', s', n', vs, hp, rs⟩ := slot_ref R1 e1
  rw [s] at s'; cases s'
  refine ⟨p, vs, v, rfl, rfl, hp, by rw [← rs.length]; exact hz, ?_⟩
  obtain ⟨s2, R2⟩ := own_upd (B := B) (o := .lst (vs ++ [v])) (m' := .lst (ds ++ [d])) R1 e1 s ⟨_, upd_same, rs.append (.cons r1 .nil)⟩
  exact ER.nx _ σ _ _ (s1.st.trans s2.st) R2 q
/-- x[j] = e -/
theorem ds_setIx (i : Nat) {jx : Expr} {t u : ETr} (he : DE X W B e t) (hj : DE X W B jx u) (hN : X.N[i]? = some x := by rfl) (hv : Vis X.env.scope x := by first | exact Or.inl rfl | exact Or.inr (Or.inl rfl) | exact Or.inr (Or.inr rfl)) (hd : (x == ("__debug__" : Str)) = false := by decide)
    (hcd : (x == ("__classdict__" : Str)) = false := by decide)
    (ha : ∀ v, assign (.Subscript (.Name x pos') jx apos) X.env v = (do
      let ov ← holding [v] (eval (.Name x pos') X.env); let iv ← holding [v, ov] (eval jx X.env); standAt apos; holding [v, ov, iv] (setItem ov iv v); release [v, ov, iv] []) := by intro _; rfl)
    (hs : swapsWithSole [.Subscript (.Name x pos') jx apos] e pos.line X.env = pure false := by rfl) (hw : swappedStores [.Subscript (.Name x pos') jx apos] e X.env = pure none := by rfl) (h1 : (assignEach [.Subscript (.Name x pos') jx apos] X.env).map (·.2) = [assign (.Subscript (.Name x pos') jx apos) X.env] := by rfl) :
    DS X W B (.Assign [.Subscript (.Name x pos') jx apos] e pos) (fun D ρ => t ρ (fun d ρ1 => onLst (gt ρ1 i) fun _ => u ρ1 (fun y ρ2 => onLst (gt ρ2 i) fun ds => match y with
      | .int k => onSome (ixN ds.length k) fun j => D.nx (ρ2.set i (.own (.lst (ds.set j d))))
      | _ => False) D.ex) D.ex) := by
  obtain ⟨te, pe, run⟩ := he
  obtain ⟨ue, pj, run2⟩ := hj
  refine ⟨_, ps_asg pe (pg_sub (pe_var hN hv hd hcd) pj set_list ha) hs hw h1, fun F H ρ σ D' D R ER h => run F H ρ σ _ D'.ex _ R ER.ex h fun d ρ1 v F1 H1 s1 R1 r1 q => ?_⟩
  obtain ⟨ds0, e0, q⟩ := onLst_inv q
  obtain ⟨p, s, n, vs0, hp0, _⟩ := slot_ref R1 e0
  refine ⟨.ref p, s, run2 F1 H1 ρ1 σ _ D'.ex _ R1 (ER.ex.step s1.st) q fun y ρ2 w F2 H2 s2 R2 r2 q2 => ?_⟩
  obtain ⟨ds, e1, q2⟩ := onLst_inv q2
  obtain ⟨p', s', n', vs, hp, rs⟩ := slot_ref R2 e1
  rw [s] at s'; cases s'
  split at q2
  · obtain ⟨j, hj, q2⟩ := onSome_inv q2
    refine ⟨p, vs, _, j, rfl, rep_int_inv r2, hp, by rw [← rs.length]; exact hj, ?_⟩
    obtain ⟨s3, R3⟩ := own_upd (B := B) (o := .lst (vs.set j v)) (m' := .lst (ds.set j d)) R2 e1 s ⟨_, upd_same, rs.set (r1.mono s2.st.fle) j⟩
    exact ER.nx _ σ _ _ ((s1.st.trans s2.st).trans s3.st) R3 q2
  · exact q2.elim
end

/-! ### a new thing to a name of its own -/
theorem set_own {i : Nat} {m : MO} {p : Addr} (R : Rel X.K F H ρ σ) (n : F p = none) (o : OwnAt X.K F H p m) (no : ∀ (j : Nat) (m' : MO), ρ[j]? = some (Sl.own m') → σ[j]? ≠ some (some (V.ref p))) : Rel X.K F H (ρ.set i (.own m)) (σ.set i (some (.ref p))) := by
  have sub : ∀ (j : Nat) (m' : MO), (ρ.set i (Sl.own m))[j]? = some (Sl.own m') → (j = i ∧ m' = m) ∨ (j ≠ i ∧ ρ[j]? = some (Sl.own m')) := fun j m' q => by
    rcases get_set q with ⟨z, z2⟩ | z
    · cases z2; exact .inl ⟨z, rfl⟩
    · exact .inr z
  refine ⟨R.le, by rw [List.length_set, List.length_set]; exact R.len, fun j d' q => ?_, fun j m' q => ?_, fun j k m' n' a q1 q2 t1 t2 => ?_⟩
  · rcases get_set q with ⟨z1, z2⟩ | ⟨z1, z2⟩
    · cases z2
    · obtain ⟨u, t, r'⟩ := R.vals j d' z2
      exact ⟨u, by rw [List.getElem?_set_ne (Ne.symm z1)]; exact t, r'⟩
  · rcases sub j m' q with ⟨z1, z2⟩ | ⟨z1, z2⟩
    · subst z1 z2
      have hl : j < (ρ.set j (Sl.own m')).length := (List.getElem?_eq_some_iff.mp q).1
      rw [List.length_set, R.len] at hl
      exact ⟨p, by rw [List.getElem?_set_self hl], n, o⟩
    · obtain ⟨a, t, na, oa⟩ := R.owns j m' z2
      exact ⟨a, by rw [List.getElem?_set_ne (Ne.symm z1)]; exact t, na, oa⟩
  · have key : ∀ (j : Nat) (m' : MO), j ≠ i → ρ[j]? = some (Sl.own m') → (σ.set i (some (V.ref p)))[j]? = some (some (V.ref a)) → σ[j]? = some (some (V.ref a)) ∧ a ≠ p := fun j m' ne q t => by
      rw [List.getElem?_set_ne (Ne.symm ne)] at t
      exact ⟨t, fun z => no j m' q (z ▸ t)⟩
    have self : ∀ j, j = i → (σ.set i (some (V.ref p)))[j]? = some (some (V.ref a)) → a = p := fun j e t => by
      subst e
      rw [List.getElem?_set] at t
      simp only [if_true] at t
      split at t
      · exact (V.ref.inj (Option.some.inj (Option.some.inj t))).symm
      · cases t
    rcases sub j m' q1 with ⟨z1, z2⟩ | ⟨z1, z2⟩
    · rcases sub k n' q2 with ⟨y1, y2⟩ | ⟨y1, y2⟩
      · rw [z1, y1]
      · exact absurd (self j z1 t1) (key k n' y1 y2 t2).2
    · rcases sub k n' q2 with ⟨y1, y2⟩ | ⟨y1, y2⟩
      · exact absurd (self k y1 t2) (key j m' z1 z2 t1).2
      · exact R.apart j k m' n' a z2 y2 (key j m' z1 z2 t1).1 (key k n' y1 y2 t2).1
theorem stp_own {i : Nat} {m : MO} {p : Addr} (s : Est B F H ρ F' H' ρ' σ) (hp : H p = none) (hB : i ∉ B) : Stp B F H ρ σ F' H' (ρ'.set i (.own m)) (σ.set i (some (.ref p))) where
  fle := s.st.fle
  keep := s.st.keep
  there := s.st.there
  new := s.st.new
  own := fun a ⟨j, m', q, t⟩ => by
    rcases get_set q with ⟨z, z2⟩ | ⟨z, z2⟩
    · subst z
      rw [List.getElem?_set] at t
      simp only [if_true] at t
      split at t
      · rw [← V.ref.inj (Option.some.inj (Option.some.inj t))]; exact .inr hp
      · cases t
    · rw [List.getElem?_set_ne (Ne.symm z)] at t
      exact s.st.own a ⟨j, m', z2, t⟩
  bor := fun j hj => by
    have ne : i ≠ j := fun z => hB (z ▸ hj)
    rw [List.getElem?_set_ne ne, List.getElem?_set_ne ne]
    exact s.st.bor j hj
/-- x = (a new thing), x to own it -/
theorem ds_own (i : Nat) {x : Str} {pos' : Pos} {t : NTr} (h : DN X W B e t) (nd : X.N.Nodup) (hB : i ∉ B := by decide) (hi : X.N[i]? = some x := by rfl) (hx : Loc X.env.scope x := by first | exact Or.inl rfl | exact Or.inr rfl)
    (hs : swapsWith e (some (.Name x pos')) pos.line X.env = pure false := by rfl) (hf : X.fn x = true ∨ X.env.scope.names.lookup x = some .local := by first | exact .inl rfl | exact .inr rfl | assumption) :
    DS X W B (.Assign [.Name x pos'] e pos) (fun D ρ => t ρ (fun m ρ' => D.nx (ρ'.set i (.own m))) D.ex) := by
  obtain ⟨te, pe, run⟩ := h
  exact ⟨_, ps_set nd hi hx pe hs hf, fun F H ρ σ D' D R ER h => run F H ρ σ _ D'.ex _ R ER.ex h fun m ρ' p F' H' s R' hp n o no q => ER.nx _ _ F' H' (stp_own s hp hB) (set_own R' n o no) q⟩

/-! ### loops -/
def Yld (K : PySem.W.Frag) (F H H' : Hp) (d : D) (x : V) : Prop :=
  (H' = H ∧ Rep K F d x) ∨ ∃ T vs ds, H T = none ∧ H' = upd H T (.tup vs) ∧ x = .ref T ∧ d = .tup ds ∧ Reps K F ds vs
structure Feed (K : PySem.W.Frag) (ds : List D) (J : It) (F : Hp) : Prop where
  go : ∀ (i : Nat) (d : D), ds[i]? = some d → ∀ F2 H2 : Hp, Le F F2 → Le F2 H2 → J.go i H2 ∧ ∀ (x : V) (H3 : Hp), J.yld i H2 x H3 → Yld K F2 H2 H3 d x
  stop : ∀ F2 H2 : Hp, Le F F2 → Le F2 H2 → J.stop ds.length H2
abbrev ITr := List Sl → (List D → List Sl → Prop) → QE → Prop
def DI (X : Cx) (W : WX) (B : List Nat) (tg iter : Expr) (t : ITr) : Prop := ∃ wi, PI X tg iter wi ∧ ∀ (F H : Hp) (ρ : List Sl) (σ : L2.St) (Q : List D → List Sl → Prop) (E : QE) (R' : It → Hp → Prop), Rel X.K F H ρ σ → Exk X W B F H ρ σ E → t ρ Q E →
  (∀ (ds : List D) (ρ' : List Sl) (J : It) (F' H' : Hp), Est B F H ρ F' H' ρ' σ → Rel X.K F' H' ρ' σ → Feed X.K ds J F' → Q ds ρ' → R' J H') → wi σ H R'
theorem Yld.rel {d : D} {v : V} (y : Yld X.K F H H' d v) (R : Rel X.K F H ρ σ) : ∃ F', Est B F H ρ F' H' ρ σ ∧ Rel X.K F' H' ρ σ ∧ Rep X.K F' d v := by
  rcases y with ⟨rfl, r⟩ | ⟨T, vs, ds, n, rfl, rfl, rfl, r⟩
  · exact ⟨F, Est.refl, R, r⟩
  · obtain ⟨s, R', r'⟩ := laidT (B := B) R n r
    exact ⟨_, s, R', r'⟩
/-- the turns of a for -/
def forL (g : GTr) (tb : STr) (D : DEnds) : List DL.D → List Sl → Prop
  | [], ρ => D.nx ρ
  | d :: ds, ρ => g d ρ fun ρ' => tb { D with nx := forL g tb D ds, ct := forL g tb D ds, bk := D.nx } ρ'
theorem ds_for {tg iter : Expr} {S : List Nat} {body : List Stmt} {t : ITr} {g : GTr} {tb : STr} (ok : Cok X W) (hi : DI X W B tg iter t) (hg : DG X B tg S g) (hb : DSs X W B body tb)
    (hs : ∀ x, foldedSetIterable iter X.env x = pure x := by intro _; rfl) : DS X W B (.For tg iter body [] pos) (fun D ρ => t ρ (fun ds ρ' => forL g tb D ds ρ') D.ex) := by
  obtain ⟨wi, p1, r1⟩ := hi
  obtain ⟨gg, p2, r2⟩ := hg
  obtain ⟨bb, p3, r3⟩ := hb
  refine ⟨_, ps_for ok.po ok.calm p1 p2 p3 hs, fun F H ρ σ D' D R ER h => r1 F H ρ σ _ D'.ex _ R ER.ex h fun ds ρ1 J F1 H1 s1 R1 fd q => ?_⟩
  refine ⟨fun i m σ2 H2 => m = ds.length - i ∧ i ≤ ds.length ∧ ∃ ρ2 F2, Stp B F H ρ σ F2 H2 ρ2 σ2 ∧ Rel X.K F2 H2 ρ2 σ2 ∧ Le F1 F2 ∧ forL g tb D' (ds.drop i) ρ2, ⟨ds.length, by simp, Nat.zero_le _, ρ1, F1, s1.st, R1, Le.refl _, q⟩, ?_⟩
  rintro i m σ2 H2 ⟨rfl, hi, ρ2, F2, s2, R2, l2, q2⟩
  cases hd : ds[i]? with
  | none =>
    have e : i = ds.length := Nat.le_antisymm hi (List.getElem?_eq_none_iff.mp hd)
    subst e
    rw [List.drop_length] at q2
    exact .inl ⟨fd.stop F2 H2 l2 R2.le, ER.nx _ _ _ _ s2 R2 q2⟩
  | some d =>
    have hlt : i < ds.length := (List.getElem?_eq_some_iff.mp hd).1
    have e : ds.drop i = d :: ds.drop (i + 1) := by
      rw [List.drop_eq_getElem_cons hlt, (List.getElem?_eq_some_iff.mp hd).2]
    rw [e] at q2
    obtain ⟨go, yl⟩ := fd.go i d hd F2 H2 l2 R2.le
    refine .inr ⟨go, fun σ' H' => ∃ ρ' F', Stp B F H ρ σ F' H' ρ' σ' ∧ Rel X.K F' H' ρ' σ' ∧ Le F1 F' ∧ forL g tb D' (ds.drop (i + 1)) ρ', fun σ' H' ⟨ρ', F', a1, a2, a3, a4⟩ => ⟨ds.length - (i + 1), by omega, rfl, hlt, ρ', F', a1, a2, a3, a4⟩, fun x H3 hy => ?_⟩
    obtain ⟨F3, s3, R3, r⟩ := (yl x H3 hy).rel (B := B) R2
    refine r2 F3 H3 ρ2 σ2 d x _ _ R3 r q2 fun ρ4 σ4 s4 _ R4 q4 => ?_
    have tot := (s2.trans s3.st).trans s4
    have lt3 : Le F1 F3 := l2.trans s3.st.fle
    exact r3 F3 H3 ρ4 σ4 { D' with nx := forL g tb D' (ds.drop (i + 1)), ct := forL g tb D' (ds.drop (i + 1)), bk := D'.nx } _ R4 ⟨fun ρ' σ' F' H' s' R' q => ⟨ρ', F', tot.trans s', R', lt3.trans s'.fle, q⟩, fun ρ' σ' F' H' s' R' q => ER.nx ρ' σ' F' H' (tot.trans s') R' q,
      fun ρ' σ' F' H' s' R' q => ⟨ρ', F', tot.trans s', R', lt3.trans s'.fle, q⟩, (ER.step tot).rt, ER.ex.step tot⟩ q4
/-- the turns of a while -/
def whlN (c : TTr) (tb : STr) (D : DEnds) : Nat → List Sl → Prop
  | 0, _ => False
  | n + 1, ρ => c ρ (fun z ρ' => br z (tb { D with nx := whlN c tb D n, ct := whlN c tb D n, bk := D.nx } ρ') (D.nx ρ')) D.ex
theorem ds_while {body : List Stmt} {tc : TTr} {tb : STr} (ok : Cok X W) (hc : DT X W B c tc) (hb : DSs X W B body tb) : DS X W B (.While c body [] pos) (fun D ρ => ∃ n, whlN tc tb D n ρ) := by
  obtain ⟨cc, p1, r1⟩ := hc
  obtain ⟨bb, p3, r3⟩ := hb
  refine ⟨_, ps_while ok.po p1 p3, fun F H ρ σ D' D R ER ⟨n, q⟩ => ?_⟩
  refine ⟨fun m σ2 H2 => ∃ ρ2 F2, Stp B F H ρ σ F2 H2 ρ2 σ2 ∧ Rel X.K F2 H2 ρ2 σ2 ∧ whlN tc tb D' m ρ2, ⟨n, ρ, F, Stp.refl, R, q⟩, ?_⟩
  rintro m σ2 H2 ⟨ρ2, F2, s2, R2, q2⟩
  cases m with
  | zero => exact q2.elim
  | succ m =>
    refine r1 F2 H2 ρ2 σ2 _ D'.ex _ R2 (ER.ex.step s2) q2 fun z ρ3 F3 H3 s3 R3 q3 => ?_
    cases z with
    | false =>
      rw [if_neg Bool.false_ne_true]
      exact ER.nx _ _ _ _ (s2.trans s3.st) R3 q3
    | true =>
      rw [if_pos rfl]
      have tot := s2.trans s3.st
      refine ⟨fun σ' H' => ∃ ρ' F', Stp B F H ρ σ F' H' ρ' σ' ∧ Rel X.K F' H' ρ' σ' ∧ whlN tc tb D' m ρ', fun σ' H' h => ⟨m, Nat.lt_succ_self m, h⟩, ?_⟩
      exact r3 F3 H3 ρ3 σ2 { D' with nx := whlN tc tb D' m, ct := whlN tc tb D' m, bk := D'.nx } _ R3 ⟨fun ρ' σ' F' H' s' R' q => ⟨ρ', F', tot.trans s', R', q⟩, fun ρ' σ' F' H' s' R' q => ER.nx ρ' σ' F' H' (tot.trans s') R' q,
        fun ρ' σ' F' H' s' R' q => ⟨ρ', F', tot.trans s', R', q⟩, (ER.step tot).rt, ER.ex.step tot⟩ q3
end
end DL

namespace DL
open PySem L2 PySem.Spec PyProof.Rows
section
variable {X : Cx} {W : WX} {B : List Nat} {F F' F'' H H' H'' : Hp} {ρ ρ' ρ'' : List Sl} {σ σ' σ'' : L2.St} {e a b c tg : Expr} {es : List Expr} {st : Stmt} {sts : List Stmt} {pos : Pos}
/-! ### what is walked -/
/-- a list, a tuple or a text -/
def iSeq (K : PySem.W.Frag) (te : TE) : TI := fun σ H R => te σ H fun x H1 => (∃ p, x = .ref p ∧ (∃ xs, SqL K H1 p xs) ∧ R (Itl K p) H1) ∨ (∃ p, x = .ref p ∧ (∃ xs, SqT K H1 p xs) ∧ R (Itt K p) H1) ∨ ∃ z, x = .str z ∧ R (Its z) H1
theorem pi_seq {te : TE} (he : PE X e te) : PI X tg e (iSeq X.K te) := by
  refine ⟨fun pins s σ H R I h => thn (he.run pins s σ H _ I h) fun v s1 ⟨x, H1, I1, r1, q1⟩ => ?_⟩
  have fresh : ∀ b ∈ [s1.heap.objs.size], FpOk X pins H1 b := fun b hb => by
    obtain rfl : b = s1.heap.objs.size := by simpa using hb
    exact I1.fpOk (Nat.le_refl _) (I1.hok.fresh (Nat.le_refl _))
  rcases q1 with ⟨p, rfl, ⟨xs, hq⟩, q⟩ | ⟨p, rfl, ⟨xs, hq⟩, q⟩ | ⟨z, rfl, q⟩
  · cases r1
    obtain ⟨its, rv, pl, hz⟩ := I1.list hq
    exact wpAny_pyIter_list pl.isList ⟨_, _, _, _, H1, rfl, I1.kept (t' := s1.toks) fun b o e => Heap.get?_push_of_some _ e, turn_list p _, ⟨_, Heap.get?_push_size _ rfl, rfl, rfl⟩, fresh, q⟩
  · cases r1
    obtain ⟨its, rv, pl, hz⟩ := I1.tuple hq
    exact wpAny_pyIter_tuple (show s1.heap.IsTuple p its.toArray from pl) ⟨_, _, _, _, H1, rfl, I1.kept (t' := s1.toks) fun b o e => Heap.get?_push_of_some _ e, turn_tuple p _, ⟨_, Heap.get?_push_size _ rfl, rfl, rfl⟩, fresh, q⟩
  · obtain ⟨t, rfl⟩ := r1
    cases ha : z.cps.all (· < 128)
    · exact wpAny_pyIter_wide ha (pi_one (tk := s1.toks) I1 _ (turn_str _ z t "str_iterator" (.inr rfl)) ⟨_, Heap.get?_push_size _ rfl, rfl, rfl⟩ q)
    · exact wpAny_pyIter_ascii ha (pi_one (tk := s1.toks) I1 _ (turn_str _ z t "str_ascii_iterator" (.inl rfl)) ⟨_, Heap.get?_push_size _ rfl, rfl, rfl⟩ q)
def signs (s : Str) : List D := s.cps.toList.map fun c => .str ⟨#[c]⟩
/-- the items of what is walked -/
def items : D → (List D → Prop) → Prop
  | .lst ds, k => k ds
  | .tup ds, k => k ds
  | .str s, k => k (signs s)
  | _, _ => False
theorem di_seq {t : ETr} (h : DE X W B e t) : DI X W B tg e (fun ρ Q E => t ρ (fun d ρ1 => items d fun ds => Q ds ρ1) E) := by
  obtain ⟨te, pe, run⟩ := h
  refine ⟨_, pi_seq pe, fun F H ρ σ Q E R' R ex h k => run F H ρ σ _ E _ R ex h fun d ρ1 v F1 H1 s1 R1 r1 q => ?_⟩
  unfold items at q
  split at q
  · unfold Rep at r1
    obtain ⟨p, vs, rfl, sq, rs⟩ := r1
    refine .inl ⟨p, rfl, ⟨vs, R1.le.sql sq⟩, k _ _ _ _ _ s1 R1 ⟨fun i d hd F2 H2 l1 l2 => ?_, fun F2 H2 l1 l2 => ⟨vs, (l1.trans l2).sql sq, by rw [rs.length]; exact Nat.le_refl _⟩⟩ q⟩
    obtain ⟨u, hu, ru⟩ := rs.get hd
    exact ⟨⟨vs, u, (l1.trans l2).sql sq, hu⟩, fun x H3 ⟨e3, y⟩ => .inl ⟨e3, by
      have z := y vs ((l1.trans l2).sql sq)
      rw [hu] at z; cases z
      exact ru.mono l1⟩⟩
  · unfold Rep at r1
    obtain ⟨p, vs, rfl, sq, rs⟩ := r1
    refine .inr (.inl ⟨p, rfl, ⟨vs, R1.le.sqt sq⟩, k _ _ _ _ _ s1 R1 ⟨fun i d hd F2 H2 l1 l2 => ?_, fun F2 H2 l1 l2 => ⟨vs, (l1.trans l2).sqt sq, by rw [rs.length]; exact Nat.le_refl _⟩⟩ q⟩)
    obtain ⟨u, hu, ru⟩ := rs.get hd
    exact ⟨⟨vs, u, (l1.trans l2).sqt sq, hu⟩, fun x H3 ⟨e3, y⟩ => .inl ⟨e3, by
      have z := y vs ((l1.trans l2).sqt sq)
      rw [hu] at z; cases z
      exact ru.mono l1⟩⟩
  · rename_i z
    cases rep_str_inv r1
    refine .inr (.inr ⟨_, rfl, k _ _ _ _ _ s1 R1 ⟨fun i d hd F2 H2 l1 l2 => ?_, fun F2 H2 l1 l2 => by show z.cps.size ≤ (signs z).length; unfold signs; simp⟩ q⟩)
    have hlt : i < z.cps.size := by
      have := (List.getElem?_eq_some_iff.mp hd).1
      unfold signs at this; simpa using this
    refine ⟨hlt, fun x H3 ⟨e3, cc, hc, ex⟩ => .inl ⟨e3, ?_⟩⟩
    subst ex
    have : d = .str ⟨#[cc]⟩ := by
      unfold signs at hd
      rw [List.getElem?_map, Array.getElem?_toList, hc] at hd
      exact (Option.some.inj hd).symm
    rw [this]; exact rep_str
  · exact q.elim
/-- range -/
def rng (lo : Int) (n : Nat) : List D := (List.range n).map fun i : Nat => .int (lo + i)
theorem feed_rng {K : PySem.W.Frag} {lo : Int} {n : Nat} : Feed K (rng lo n) (Itr lo n) F := by
  refine ⟨fun i d hd F2 H2 l1 l2 => ?_, fun F2 H2 l1 l2 => by show n ≤ (rng lo n).length; unfold rng; simp⟩
  unfold rng at hd
  rw [List.getElem?_map] at hd
  obtain ⟨j, hj, rfl⟩ := Option.map_eq_some_iff.mp hd
  obtain ⟨hlt, rfl⟩ : i < n ∧ i = j := by
    have := List.getElem?_eq_some_iff.mp hj
    simpa [eq_comm] using this
  exact ⟨hlt, fun x H3 ⟨e3, ex⟩ => .inl ⟨e3, by subst ex; exact rep_int⟩⟩
def kRng1 : List D → (List D → Prop) → Prop
  | [.int j], k => (-(2 ^ 62) ≤ j ∧ j < 2 ^ 62) ∧ k (rng 0 j.toNat)
  | _, _ => False
def kRng2 : List D → (List D → Prop) → Prop
  | [.int i, .int j], k => (-(2 ^ 62) ≤ i ∧ i < 2 ^ 62 ∧ -(2 ^ 62) ≤ j ∧ j < 2 ^ 62) ∧ k (rng i (j - i).toNat)
  | _, _ => False
theorem di_rng1 {p : Pos} {t : ATr} (ha : DA X W B [a] t) (hm : X.mg "range" = none) (hg : Gl X "range" := by rfl) (hs : starEach [a] X.env = [(false, eval a X.env)] := by rfl) :
    DI X W B tg (.Call (.Name "range" p) [a] [] pos) (fun ρ Q E => t ρ (fun ds ρ1 => kRng1 ds fun is => Q is ρ1) E) := by
  obtain ⟨te, pe, run⟩ := ha
  refine ⟨_, pi_range1 hg hm pe hs, fun F H ρ σ Q E R' R ex h k => run F H ρ σ _ E _ R ex h fun ds ρ1 vs F1 H1 s1 R1 rs hl q => ?_⟩
  unfold kRng1 at q
  split at q
  · obtain ⟨v, rfl, rv⟩ := reps1 rs
    cases rep_int_inv rv
    exact ⟨_, rfl, q.1.1, q.1.2, k _ _ _ _ _ s1 R1 feed_rng q.2⟩
  · exact q.elim
theorem di_rng2 {p : Pos} {t : ATr} (ha : DA X W B [a, b] t) (hm : X.mg "range" = none) (hg : Gl X "range" := by rfl) (hs : starEach [a, b] X.env = [(false, eval a X.env), (false, eval b X.env)] := by rfl) (hs2 : starEach [b] X.env = [(false, eval b X.env)] := by rfl) :
    DI X W B tg (.Call (.Name "range" p) [a, b] [] pos) (fun ρ Q E => t ρ (fun ds ρ1 => kRng2 ds fun is => Q is ρ1) E) := by
  obtain ⟨te, pe, run⟩ := ha
  refine ⟨_, pi_range2 hg hm pe hs hs2, fun F H ρ σ Q E R' R ex h k => run F H ρ σ _ E _ R ex h fun ds ρ1 vs F1 H1 s1 R1 rs hl q => ?_⟩
  unfold kRng2 at q
  split at q
  · obtain ⟨v, v', rfl, rv, rv'⟩ := reps2 rs
    cases rep_int_inv rv
    cases rep_int_inv rv'
    exact ⟨_, _, rfl, q.1, k _ _ _ _ _ s1 R1 feed_rng q.2⟩
  · exact q.elim
/-- zip of two lists or two tuples -/
def zipD : List D → List D → List D
  | d :: ds, e :: es => .tup [d, e] :: zipD ds es
  | _, _ => []
theorem zipD_get : ∀ {ds es : List D} {i : Nat} {z : D}, (zipD ds es)[i]? = some z → ∃ d e, ds[i]? = some d ∧ es[i]? = some e ∧ z = .tup [d, e]
  | [], _, i, z, h => by simp [zipD] at h
  | _ :: _, [], i, z, h => by simp [zipD] at h
  | d :: ds, e :: es, 0, z, h => by simp [zipD] at h; exact ⟨d, e, by simp, by simp, h.symm⟩
  | d :: ds, e :: es, i + 1, z, h => by
    obtain ⟨d', e', h1, h2, h3⟩ := zipD_get (i := i) (by simpa [zipD] using h)
    exact ⟨d', e', by simpa using h1, by simpa using h2, h3⟩
theorem zipD_length : ∀ ds es : List D, (zipD ds es).length = min ds.length es.length
  | [], _ => by simp [zipD]
  | _ :: _, [] => by simp [zipD]
  | d :: ds, e :: es => by
    show (zipD ds es).length + 1 = _
    rw [zipD_length ds es, List.length_cons, List.length_cons]; omega
def kZip : List D → (List D → Prop) → Prop
  | [.lst ds, .lst es], k => k (zipD ds es)
  | [.tup ds, .tup es], k => k (zipD ds es)
  | _, _ => False
theorem di_zip {e2 : Expr} {p tpos : Pos} {elts : List Expr} {kk : Nat} {t : ATr} (ha : DA X W B [e, e2] t) (hm : X.mg "zip" = none) (hg : Gl X "zip" := by rfl) (hs : starEach [e, e2] X.env = (false, eval e X.env) :: starEach [e2] X.env := by rfl) (hpl : (backTo pos (starEach [e2] X.env)).any (·.1) = false := by rfl) :
    DI X W B (.Tuple elts kk tpos) (.Call (.Name "zip" p) [e, e2] [] pos) (fun ρ Q E => t ρ (fun ds ρ1 => kZip ds fun is => Q is ρ1) E) := by
  obtain ⟨te, pe, run⟩ := ha
  refine ⟨_, RZ.pi_zipA hg hm pe hs hpl, fun F H ρ σ Q E R' R ex h k => run F H ρ σ _ E _ R ex h fun ds ρ1 vs F1 H1 s1 R1 rs hl q => ?_⟩
  unfold kZip at q
  split at q
  · obtain ⟨v, v', rfl, rv, rv'⟩ := reps2 rs
    unfold Rep at rv rv'
    obtain ⟨p1, us, rfl, sq, rr⟩ := rv
    obtain ⟨p2, us', rfl, sq', rr'⟩ := rv'
    refine ⟨p1, p2, us, us', rfl, .inl ⟨R1.le.sql sq, R1.le.sql sq', k _ _ _ _ _ s1 R1 ⟨fun i d hd F2 H2 l1 l2 => ?_, fun F2 H2 l1 l2 => ⟨us, us', (l1.trans l2).sql sq, (l1.trans l2).sql sq', ?_⟩⟩ q⟩⟩
    · obtain ⟨d1, d2, h1, h2, rfl⟩ := zipD_get hd
      obtain ⟨u1, g1, ru1⟩ := rr.get h1
      obtain ⟨u2, g2, ru2⟩ := rr'.get h2
      refine ⟨⟨us, us', u1, u2, (l1.trans l2).sql sq, (l1.trans l2).sql sq', g1, g2⟩, fun x H3 ⟨T, y1, y2, ex, hT, e3, z1, z2⟩ => .inr ⟨T, [y1, y2], [d1, d2], hT, e3, ex, rfl, ?_⟩⟩
      have w1 := z1 us ((l1.trans l2).sql sq)
      have w2 := z2 us' ((l1.trans l2).sql sq')
      rw [g1] at w1; cases w1
      rw [g2] at w2; cases w2
      exact .cons (ru1.mono l1) (.cons (ru2.mono l1) .nil)
    · rw [zipD_length, rr.length, rr'.length]; omega
  · obtain ⟨v, v', rfl, rv, rv'⟩ := reps2 rs
    unfold Rep at rv rv'
    obtain ⟨p1, us, rfl, sq, rr⟩ := rv
    obtain ⟨p2, us', rfl, sq', rr'⟩ := rv'
    refine ⟨p1, p2, us, us', rfl, .inr ⟨R1.le.sqt sq, R1.le.sqt sq', k _ _ _ _ _ s1 R1 ⟨fun i d hd F2 H2 l1 l2 => ?_, fun F2 H2 l1 l2 => ⟨us, us', (l1.trans l2).sqt sq, (l1.trans l2).sqt sq', ?_⟩⟩ q⟩⟩
    · obtain ⟨d1, d2, h1, h2, rfl⟩ := zipD_get hd
      obtain ⟨u1, g1, ru1⟩ := rr.get h1
      obtain ⟨u2, g2, ru2⟩ := rr'.get h2
      refine ⟨⟨us, us', u1, u2, (l1.trans l2).sqt sq, (l1.trans l2).sqt sq', g1, g2⟩, fun x H3 ⟨T, y1, y2, ex, hT, e3, z1, z2⟩ => .inr ⟨T, [y1, y2], [d1, d2], hT, e3, ex, rfl, ?_⟩⟩
      have w1 := z1 us ((l1.trans l2).sqt sq)
      have w2 := z2 us' ((l1.trans l2).sqt sq')
      rw [g1] at w1; cases w1
      rw [g2] at w2; cases w2
      exact .cons (ru1.mono l1) (.cons (ru2.mono l1) .nil)
    · rw [zipD_length, rr.length, rr'.length]; omega
  · exact q.elim

/-! ### targets of several names -/
abbrev GsTr := List D → List Sl → (List Sl → Prop) → Prop
def DGs (X : Cx) (B : List Nat) (tgs : List Expr) (S : List Nat) (g : GsTr) : Prop := ∃ tg', PGs X tgs tg' ∧ ∀ (F H : Hp) (ρ : List Sl) (σ : L2.St) (ds : List D) (vs : List V) (Q : List Sl → Prop) (Q' : L2.St → Hp → Prop), Rel X.K F H ρ σ → Reps X.K F ds vs → g ds ρ Q →
  (∀ (ρ' : List Sl) (σ' : L2.St), Stp B F H ρ σ F H ρ' σ' → Tgt S ρ ρ' σ σ' → Rel X.K F H ρ' σ' → Q ρ' → Q' σ' H) → tg' vs σ H Q'
def gNilD : GsTr := fun ds ρ Q => match ds with
  | [] => Q ρ
  | _ => False
def gConsD (g : GTr) (gs : GsTr) : GsTr := fun ds ρ Q => match ds with
  | d :: r => g d ρ fun ρ' => gs r ρ' Q
  | [] => False
theorem dgs_nil : DGs X B [] [] gNilD := ⟨_, pgs_nil, fun F H ρ σ ds vs Q Q' R r h k => by
  cases ds with
  | nil => exact ⟨r.nil_inv, k ρ σ Stp.refl ⟨fun _ m e => ⟨m, e⟩, fun _ _ => rfl, rfl⟩ R h⟩
  | cons _ _ => exact h.elim⟩
theorem dgs_cons {tgs : List Expr} {S S' : List Nat} {g : GTr} {gs : GsTr} (h1 : DG X B e S g) (h2 : DGs X B tgs S' gs) (hs : (assignEach (e :: tgs) X.env).map (·.2) = assign e X.env :: (assignEach tgs X.env).map (·.2) := by rfl) : DGs X B (e :: tgs) (S ++ S') (gConsD g gs) := by
  obtain ⟨ge, p1, r1⟩ := h1
  obtain ⟨gr, p2, r2⟩ := h2
  refine ⟨_, pgs_cons p1 p2 hs, fun F H ρ σ ds vs Q Q' R r h k => ?_⟩
  cases ds with
  | nil => exact h.elim
  | cons d ds =>
    obtain ⟨v, rr, rfl, rd, rs⟩ := r.cons_inv
    exact ⟨v, rr, rfl, r1 F H ρ σ d v _ _ R rd h fun ρ1 σ1 s1 t1 R1 q1 => r2 F H ρ1 σ1 ds rr Q Q' R1 rs q1 fun ρ2 σ2 s2 t2 R2 q2 => k ρ2 σ2 (s1.trans s2) ⟨fun i m h => (by obtain ⟨n, h⟩ := t2.1 i m h; exact t1.1 i n h), fun j hj => (t2.2.1 j fun z => hj (List.mem_append_right _ z)).trans (t1.2.1 j fun z => hj (List.mem_append_left _ z)), t2.2.2.trans t1.2.2⟩ R2 q2⟩
def seqD : D → (List D → Prop) → Prop
  | .tup ds, k => k ds
  | .lst ds, k => k ds
  | _, _ => False
theorem dg_tup {tgs : List Expr} {S : List Nat} {gs : GsTr} {k n : Nat} (hc : X.calm = true) (h : DGs X B tgs S gs) (hn : (assignEach tgs X.env).length = n := by rfl) (hst : (assignEach tgs X.env).findIdx? (·.1) = none := by rfl) :
    DG X B (.Tuple tgs k pos) S (fun d ρ Q => seqD d fun ds => ds.length = n ∧ gs ds ρ Q) := by
  obtain ⟨ge, p1, r1⟩ := h
  have pt := pg_tup (pos := pos) (k := k) hc p1 hn hst
  have pu := pg_unl (pos := pos) (k := k) hc p1 hn hst
  refine ⟨fun v σ H Q => gTup X.K n ge v σ H Q ∨ gUnl X.K n ge v σ H Q, ⟨fun pins s σ H v u Q I r h => ?_⟩, fun F H ρ σ d v Q Q' R r h k => ?_⟩
  · rcases h with h | h
    · exact pt.run pins s σ H v u Q I r h
    · exact pu.run pins s σ H v u Q I r h
  · have h : seqD d (fun ds => ds.length = n ∧ gs ds ρ Q) := h
    unfold seqD at h
    split at h
    · unfold Rep at r
      obtain ⟨p, vs, rfl, sq, rs⟩ := r
      exact .inl ⟨p, vs, rfl, R.le.sqt sq, by rw [← rs.length]; exact h.1, r1 F H ρ σ _ vs Q Q' R rs h.2 k⟩
    · unfold Rep at r
      obtain ⟨p, vs, rfl, sq, rs⟩ := r
      exact .inr ⟨p, vs, rfl, R.le.sql sq, by rw [← rs.length]; exact h.1, r1 F H ρ σ _ vs Q Q' R rs h.2 k⟩
    · exact h.elim

/-! ### list(), tuple() -/
theorem dn_list {x : Str} {p : Pos} {t : ATr} (ha : DA X W B (e :: es) t) (hm : X.mg x = none) (hv : bootBuiltins x = some (.type "list")) (hg : Gl X x := by rfl) (hn : x ≠ "__name__" := by decide) (hdb : (x == ("__debug__" : Str)) = false := by decide)
    (he : starEach (e :: es) X.env = (false, eval e X.env) :: starEach es X.env := by rfl) (hpl : (backTo pos (starEach es X.env)).any (·.1) = false := by rfl) : DN X W B (.Call (.Name x p) (e :: es) [] pos) (fun ρ Q E => t ρ (fun ds ρ1 => match ds with
      | [d] => seqD d fun is => Q (.lst is) ρ1
      | _ => False) E) := by
  obtain ⟨ta, p1, r1⟩ := ha
  refine ⟨_, pe_callTy call_list_of hg hm hv p1 hn hdb he hpl, fun F H ρ σ Q E Q' R ex h kk => r1 F H ρ σ _ E _ R ex h fun ds ρ1 vs F1 H1 s1 R1 rs hl q => ?_⟩
  split at q
  · obtain ⟨v, rfl, rv⟩ := reps1 rs
    unfold seqD at q
    split at q
    · unfold Rep at rv
      obtain ⟨p, us, rfl, sq, rr⟩ := rv
      refine ⟨p, us, rfl, .inr (R1.le.sqt sq), fun l hl => ?_⟩
      obtain ⟨s, R', n, o, no⟩ := made (B := B) (o := .lst us) (m := .lst _) R1 hl ⟨us, upd_same, rr⟩
      exact kk _ _ l _ _ (s1.trans s) R' (s1.st.fresh hl) n o no q
    · unfold Rep at rv
      obtain ⟨p, us, rfl, sq, rr⟩ := rv
      refine ⟨p, us, rfl, .inl (R1.le.sql sq), fun l hl => ?_⟩
      obtain ⟨s, R', n, o, no⟩ := made (B := B) (o := .lst us) (m := .lst _) R1 hl ⟨us, upd_same, rr⟩
      exact kk _ _ l _ _ (s1.trans s) R' (s1.st.fresh hl) n o no q
    · exact q.elim
  · exact q.elim
theorem de_tuple {x : Str} {p : Pos} {t : ATr} (ha : DA X W B (e :: es) t) (hm : X.mg x = none) (hv : bootBuiltins x = some (.type "tuple")) (hg : Gl X x := by rfl) (hn : x ≠ "__name__" := by decide) (hdb : (x == ("__debug__" : Str)) = false := by decide)
    (he : starEach (e :: es) X.env = (false, eval e X.env) :: starEach es X.env := by rfl) (hpl : (backTo pos (starEach es X.env)).any (·.1) = false := by rfl) : DE X W B (.Call (.Name x p) (e :: es) [] pos) (fun ρ Q E => t ρ (fun ds ρ1 => match ds with
      | [d] => seqD d fun is => Q (.tup is) ρ1
      | _ => False) E) := by
  obtain ⟨ta, p1, r1⟩ := ha
  refine ⟨_, pe_callTy call_tuple_of hg hm hv p1 hn hdb he hpl, fun F H ρ σ Q E Q' R ex h kk => r1 F H ρ σ _ E _ R ex h fun ds ρ1 vs F1 H1 s1 R1 rs hl q => ?_⟩
  split at q
  · obtain ⟨v, rfl, rv⟩ := reps1 rs
    unfold seqD at q
    split at q
    · have rv' := rv
      unfold Rep at rv
      obtain ⟨p, us, rfl, sq, rr⟩ := rv
      exact ⟨p, us, rfl, .inr ⟨R1.le.sqt sq, kk _ _ _ _ _ s1 R1 rv' q⟩⟩
    · unfold Rep at rv
      obtain ⟨p, us, rfl, sq, rr⟩ := rv
      refine ⟨p, us, rfl, .inl ⟨R1.le.sql sq, fun l hl => ?_⟩⟩
      obtain ⟨s, R', r⟩ := laidT (B := B) R1 hl rr
      exact kk _ _ _ _ _ (s1.trans s) R' r q
    · exact q.elim
  · exact q.elim

/-! ### texts -/
def kFind : KTr2
  | .str a, .str b, Q => Q (.int (Txt.find a b))
  | _, _, _ => False
theorem de_find {o : Expr} {apos : Pos} {t u : ETr} (ho : DE X W B o t) (he : DE X W B e u) (hs : starEach [e] X.env = [(false, eval e X.env)] := by rfl) (hbase : attributeBase o "find" X.env (eval o X.env) = eval o X.env := by rfl) (hline : (apos.endLine == pos.line) = true := by rfl) :
    DE X W B (.Call (.Attribute o "find" apos) [e] [] pos) (fun ρ Q E => t ρ (fun x ρ1 => (match x with | .str _ => True | _ => False) ∧ u ρ1 (fun y ρ2 => kFind x y fun z => Q z ρ2) E) E) := by
  obtain ⟨ta, p1, r1⟩ := ho
  obtain ⟨tb, p2, r2⟩ := he
  refine ⟨_, pe_m1 F.slot_str_find F.type_str_find mt_find p1 p2 hs hbase hline, fun F H ρ σ Q E Q' R ex h kk => r1 F H ρ σ _ E _ R ex h fun d ρ1 v F1 H1 s1 R1 rv q => ?_⟩
  obtain ⟨hx, q⟩ := q
  cases d with
  | str a =>
    cases rep_str_inv rv
    refine ⟨⟨a, rfl⟩, r2 F1 H1 ρ1 σ _ E _ R1 (ex.step s1.st) q fun d2 ρ2 v2 F2 H2 s2 R2 rv2 q2 => ?_⟩
    cases d2 with
    | str b =>
      cases rep_str_inv rv2
      exact ⟨_, _, rfl, rfl, kk _ _ _ _ _ (s1.trans s2) R2 rep_int q2⟩
    | _ => exact q2.elim
  | _ => exact hx.elim
def asStrs : List D → Option (List Str)
  | [] => some []
  | .str i :: r => (asStrs r).map (i :: ·)
  | _ :: _ => none
theorem asStrs_eq : ∀ {ds : List D} {ns : List Str}, asStrs ds = some ns → ds = ns.map D.str
  | [], ns, h => by simp [asStrs] at h; subst h; rfl
  | .str i :: r, ns, h => by
    simp only [asStrs, Option.map_eq_some_iff] at h
    obtain ⟨ms, h, rfl⟩ := h
    rw [List.map_cons, asStrs_eq h]
  | .non :: _, _, h => by simp [asStrs] at h
  | .bl _ :: _, _, h => by simp [asStrs] at h
  | .int _ :: _, _, h => by simp [asStrs] at h
  | .ref _ :: _, _, h => by simp [asStrs] at h
  | .ty _ :: _, _, h => by simp [asStrs] at h
  | .tup _ :: _, _, h => by simp [asStrs] at h
  | .lst _ :: _, _, h => by simp [asStrs] at h
  | .obj _ _ _ :: _, _, h => by simp [asStrs] at h
theorem asStrs_map : ∀ ns : List Str, asStrs (ns.map D.str) = some ns
  | [] => rfl
  | n :: ns => by simp [asStrs, asStrs_map ns]
theorem Reps.strs {K : PySem.W.Frag} : ∀ {ns : List Str} {vs : List V}, Reps K F (ns.map D.str) vs → vs = ns.map V.str
  | [], _, h => h.nil_inv
  | n :: ns, _, h => by
    obtain ⟨v, r, rfl, q, s⟩ := Reps.cons_inv (ds := ns.map D.str) h
    rw [rep_str_inv q, Reps.strs s]; rfl
def kJoin : KTr2
  | .str a, d, Q => seqD d fun ds => onSome (asStrs ds) fun ys => (ys.map (·.length)).sum + ys.length * a.length ≤ 16777216 ∧ Q (.str (Txt.join a ys))
  | _, _, _ => False
theorem de_join {o : Expr} {apos : Pos} {t u : ETr} (ho : DE X W B o t) (he : DE X W B e u) (hs : starEach [e] X.env = [(false, eval e X.env)] := by rfl) (hbase : attributeBase o "join" X.env (eval o X.env) = eval o X.env := by rfl) (hline : (apos.endLine == pos.line) = true := by rfl) :
    DE X W B (.Call (.Attribute o "join" apos) [e] [] pos) (fun ρ Q E => t ρ (fun x ρ1 => (match x with | .str _ => True | _ => False) ∧ u ρ1 (fun y ρ2 => kJoin x y fun z => Q z ρ2) E) E) := by
  obtain ⟨ta, p1, r1⟩ := ho
  obtain ⟨tb, p2, r2⟩ := he
  refine ⟨_, pe_join p1 p2 hs hbase hline, fun F H ρ σ Q E Q' R ex h kk => r1 F H ρ σ _ E _ R ex h fun d ρ1 v F1 H1 s1 R1 rv q => ?_⟩
  obtain ⟨hx, q⟩ := q
  cases d with
  | str a =>
    cases rep_str_inv rv
    refine ⟨⟨a, rfl⟩, r2 F1 H1 ρ1 σ _ E _ R1 (ex.step s1.st) q fun d2 ρ2 v2 F2 H2 s2 R2 rv2 q2 => ?_⟩
    unfold kJoin seqD at q2
    simp only at q2
    split at q2
    · obtain ⟨ys, hy, hz, q2⟩ := onSome_inv q2
      unfold Rep at rv2
      obtain ⟨p, vs, rfl, sq, rs⟩ := rv2
      rw [asStrs_eq hy] at rs
      rw [rs.strs] at sq
      exact ⟨a, p, ys, rfl, rfl, .inr (R2.le.sqt sq), hz, kk _ _ _ _ _ (s1.trans s2) R2 rep_str q2⟩
    · obtain ⟨ys, hy, hz, q2⟩ := onSome_inv q2
      unfold Rep at rv2
      obtain ⟨p, vs, rfl, sq, rs⟩ := rv2
      rw [asStrs_eq hy] at rs
      rw [rs.strs] at sq
      exact ⟨a, p, ys, rfl, rfl, .inl (R2.le.sql sq), hz, kk _ _ _ _ _ (s1.trans s2) R2 rep_str q2⟩
    · exact q2.elim
  | _ => exact hx.elim

/-! ### isinstance -/
/-- the name of a datum's built-in type -/
def tyN : D → Option String
  | .non => some "NoneType" | .bl _ => some "bool" | .int _ => some "int" | .str _ => some "str" | .tup _ => some "tuple" | .lst _ => some "list" | _ => none
theorem tyx_ok {K : PySem.W.Frag} {d : D} {v : V} {n : String} (le : Le F H) (r : Rep K F d v) (h : tyN d = some n) : TyX K H v (.type n) := by
  cases d <;> simp only [tyN, Option.some.injEq, reduceCtorEq] at h <;> subst h
  · cases r; exact .base .non
  · cases rep_bl_inv r; exact .base (.bl _)
  · cases rep_int_inv r; exact .base (.int _)
  · cases rep_str_inv r; exact .base (.str _)
  · unfold Rep at r
    obtain ⟨p, vs, rfl, sq, _⟩ := r
    rcases le.sqt sq with (z | ⟨o, z⟩) | ⟨o, its, n, k, c, _⟩
    · exact .base (.tup z)
    · exact .fTuple z
    · exact .kTuple k c
  · unfold Rep at r
    obtain ⟨p, vs, rfl, sq, _⟩ := r
    rcases le.sql sq with (z | ⟨o, z⟩) | ⟨o, its, n, k, c, _⟩
    · exact .base (.lst z)
    · exact .base (.frz z)
    · exact .kList k c
theorem rep_ty_inv {K : PySem.W.Frag} {n : String} {v : V} (h : Rep K F (.ty n) v) : v = .ty n := by unfold Rep at h; exact h
/-- isinstance(a, T) by a table of the built-in types: g tells the answer -/
def kIsi (g : D → Option Bool) : KTrN
  | [d, .ty _], Q => onSome (g d) fun b => Q (.bl b)
  | _, _ => False
def isTab (T : String) (g : D → Option Bool) : Prop := ∀ d b, g d = some b → ∃ n, tyN d = some n ∧ kitB n T = some b
theorem de_isi {T : String} {g : D → Option Bool} {t : ETr} {x y : Str} {p p2 : Pos} (hT : isTab T g) (ha : DE X W B a t) (hm : X.mg "isinstance" = none) (hm2 : X.mg y = none) (hv2 : bootBuiltins y = some (.type T)) (hg : Gl X "isinstance" := by rfl) (hg2 : Gl X y := by rfl)
    (hn2 : y ≠ "__name__" := by decide) (hd2 : (y == ("__debug__" : Str)) = false := by decide)
    (he : starEach [a, .Name y p2] X.env = (false, eval a X.env) :: starEach [.Name y p2] X.env := by rfl) (he2 : starEach [.Name y p2] X.env = (false, eval (.Name y p2) X.env) :: starEach [] X.env := by rfl) (hpl : (backTo pos (starEach [.Name y p2] X.env)).any (·.1) = false := by rfl) :
    DE X W B (.Call (.Name "isinstance" p) [a, .Name y p2] [] pos) (fun ρ Q E => t ρ (fun d ρ1 => onSome (g d) fun b => Q (.bl b) ρ1) E) := by
  obtain ⟨ta, p1, r1⟩ := ha
  refine ⟨_, pe_callB call_isi hg hm boot_isinstance (pa_cons p1 (pa_cons (pe_bltn (v := .ty T) hg2 hm2 hv2 rfl hn2 hd2) pa_nil he2) he) (by decide) (by decide) he hpl, fun F H ρ σ Q E Q' R ex h kk => r1 F H ρ σ _ E _ R ex h fun d ρ1 v F1 H1 s1 R1 rv q => ?_⟩
  obtain ⟨b, hb, q⟩ := onSome_inv q
  obtain ⟨n, hn, hk⟩ := hT d b hb
  exact ⟨v, .ty T, .type n, .type T, b, rfl, .ty T, tyx_ok R1.le rv hn, kit_ty hk, kk _ _ _ _ _ s1 R1 rep_bl q⟩
/-- isinstance(a, (S, T)) -/
theorem de_isi2 {S T : String} {g : D → Option Bool} {t : ETr} {y z : Str} {p p2 p3 p4 : Pos} {x1} (hT : ∀ d b, g d = some b → ∃ n b1 b2, tyN d = some n ∧ kitB n S = some b1 ∧ kitB n T = some b2 ∧ b = (b1 || b2)) (ha : DE X W B a t) (hm : X.mg "isinstance" = none)
    (hm2 : X.mg y = none) (hv2 : bootBuiltins y = some (.type S)) (hm3 : X.mg z = none) (hv3 : bootBuiltins z = some (.type T)) (hg : Gl X "isinstance" := by rfl) (hg2 : Gl X y := by rfl) (hg3 : Gl X z := by rfl)
    (hn2 : y ≠ "__name__" := by decide) (hd2 : (y == ("__debug__" : Str)) = false := by decide) (hn3 : z ≠ "__name__" := by decide) (hd3 : (z == ("__debug__" : Str)) = false := by decide)
    (he : starEach [a, .Tuple [.Name y p2, .Name z p3] x1 p4] X.env = (false, eval a X.env) :: starEach [.Tuple [.Name y p2, .Name z p3] x1 p4] X.env := by rfl) (he2 : starEach [.Tuple [.Name y p2, .Name z p3] x1 p4] X.env = (false, eval (.Tuple [.Name y p2, .Name z p3] x1 p4) X.env) :: starEach [] X.env := by rfl)
    (he3 : starEach [.Name y p2, .Name z p3] X.env = (false, eval (.Name y p2) X.env) :: starEach [.Name z p3] X.env := by rfl) (he4 : starEach [.Name z p3] X.env = (false, eval (.Name z p3) X.env) :: starEach [] X.env := by rfl)
    (hpl : (backTo pos (starEach [.Tuple [.Name y p2, .Name z p3] x1 p4] X.env)).any (·.1) = false := by rfl) :
    DE X W B (.Call (.Name "isinstance" p) [a, .Tuple [.Name y p2, .Name z p3] x1 p4] [] pos) (fun ρ Q E => t ρ (fun d ρ1 => onSome (g d) fun b => Q (.bl b) ρ1) E) := by
  obtain ⟨ta, p1, r1⟩ := ha
  refine ⟨_, pe_callB call_isiT hg hm boot_isinstance (pa_cons p1 (pa_cons (pe_tup (pa_cons (pe_bltn (v := .ty S) hg2 hm2 hv2 rfl hn2 hd2) (pa_cons (pe_bltn (v := .ty T) hg3 hm3 hv3 rfl hn3 hd3) pa_nil he4) he3)) pa_nil he2) he) (by decide) (by decide) he hpl,
    fun F H ρ σ Q E Q' R ex h kk => r1 F H ρ σ _ E _ R ex h fun d ρ1 v F1 H1 s1 R1 rv q => ⟨by show 2 ≤ sizeLine; decide, fun tp htp => ?_⟩⟩
  obtain ⟨b, hb, q⟩ := onSome_inv q
  obtain ⟨n, b1, b2, hn, hk1, hk2, rfl⟩ := hT d b hb
  obtain ⟨s2, R2⟩ := Est.laid (B := B) (o := .tup [.ty S, .ty T]) R1 htp
  refine ⟨v, tp, [.ty S, .ty T], .type n, [.type S, .type T], _, rfl, upd_same, .cons (.ty S) (.cons (.ty T) .nil), tyx_ok R2.le rv hn, kitAny_cons (r := b1 || b2) (kit_ty hk1) (fun e => ?_) (fun e => by rw [e]; rfl), kk _ _ _ _ _ (s1.trans s2) R2 rep_bl q⟩
  rw [e, Bool.false_or]
  exact kitAny_cons (kit_ty hk2) (fun e => by rw [e]; exact kitAny_nil) fun e => e
def isInt : D → Option Bool
  | .int _ => some true | .bl _ => some true | .non => some false | .str _ => some false | .tup _ => some false | .lst _ => some false | _ => none
def isBool : D → Option Bool
  | .int _ => some false | .bl _ => some true | .non => some false | .str _ => some false | .tup _ => some false | .lst _ => some false | _ => none
def isStr : D → Option Bool
  | .int _ => some false | .bl _ => some false | .non => some false | .str _ => some true | .tup _ => some false | .lst _ => some false | _ => none
def isTup : D → Option Bool
  | .int _ => some false | .bl _ => some false | .non => some false | .str _ => some false | .tup _ => some true | .lst _ => some false | _ => none
def isLst : D → Option Bool
  | .int _ => some false | .bl _ => some false | .non => some false | .str _ => some false | .tup _ => some false | .lst _ => some true | _ => none
def isSeq : D → Option Bool
  | .int _ => some false | .bl _ => some false | .non => some false | .str _ => some false | .tup _ => some true | .lst _ => some true | _ => none
theorem tab_int : isTab "int" isInt := by
  intro d b h
  cases d <;> simp only [isInt, Option.some.injEq, reduceCtorEq] at h <;> subst h <;> exact ⟨_, rfl, by decide +kernel⟩
theorem tab_bool : isTab "bool" isBool := by
  intro d b h
  cases d <;> simp only [isBool, Option.some.injEq, reduceCtorEq] at h <;> subst h <;> exact ⟨_, rfl, by decide +kernel⟩
theorem tab_str : isTab "str" isStr := by
  intro d b h
  cases d <;> simp only [isStr, Option.some.injEq, reduceCtorEq] at h <;> subst h <;> exact ⟨_, rfl, by decide +kernel⟩
theorem tab_tup : isTab "tuple" isTup := by
  intro d b h
  cases d <;> simp only [isTup, Option.some.injEq, reduceCtorEq] at h <;> subst h <;> exact ⟨_, rfl, by decide +kernel⟩
theorem tab_lst : isTab "list" isLst := by
  intro d b h
  cases d <;> simp only [isLst, Option.some.injEq, reduceCtorEq] at h <;> subst h <;> exact ⟨_, rfl, by decide +kernel⟩
theorem tab_tl : ∀ d b, isSeq d = some b → ∃ n b1 b2, tyN d = some n ∧ kitB n "tuple" = some b1 ∧ kitB n "list" = some b2 ∧ b = (b1 || b2) := by
  intro d b h
  cases d <;> simp only [isSeq, Option.some.injEq, reduceCtorEq] at h <;> subst h <;> first
    | exact ⟨_, false, false, rfl, by decide +kernel, by decide +kernel, rfl⟩
    | exact ⟨_, true, false, rfl, by decide +kernel, by decide +kernel, rfl⟩
    | exact ⟨_, false, true, rfl, by decide +kernel, by decide +kernel, rfl⟩
theorem tab_lt : ∀ d b, isSeq d = some b → ∃ n b1 b2, tyN d = some n ∧ kitB n "list" = some b1 ∧ kitB n "tuple" = some b2 ∧ b = (b1 || b2) := by
  intro d b h
  obtain ⟨n, b1, b2, h1, h2, h3, h4⟩ := tab_tl d b h
  exact ⟨n, b2, b1, h1, h3, h2, by rw [h4, Bool.or_comm]⟩
end
end DL

namespace DL
open PySem L2 PySem.Spec PyProof.Rows
section
variable {X : Cx} {W : WX} {B : List Nat} {F F' F'' H H' H'' : Hp} {ρ ρ' ρ'' : List Sl} {σ σ' σ'' : L2.St} {e a b c tg : Expr} {es : List Expr} {st : Stmt} {sts : List Stmt} {pos : Pos}
/-! ### comprehensions -/
def wipeD (ρ : List Sl) : List Nat → List Sl
  | [] => ρ
  | v :: vs => (wipeD ρ vs).set v .un
/-- behind the block: its own names' slots are as ahead -/
def back (ρ ρ3 : List Sl) : List Nat → List Sl
  | [] => ρ3
  | v :: vs => (back ρ ρ3 vs).set v (gt ρ v)
def noOwn (ρ : List Sl) : List Nat → Prop
  | [] => True
  | v :: vs => (match gt ρ v with | .own _ => False | _ => True) ∧ noOwn ρ vs
theorem gt_get : ∀ {ρ : List Sl} {i : Nat} {s : Sl}, ρ[i]? = some s → gt ρ i = s
  | [], _, _, h => by simp at h
  | x :: r, 0, s, h => by simp at h; subst h; rfl
  | x :: r, i + 1, s, h => by unfold gt; exact gt_get (by simpa using h)
theorem noOwn_at : ∀ {vs : List Nat} {i : Nat} {m : MO}, noOwn ρ vs → i ∈ vs → ρ[i]? = some (Sl.own m) → False
  | v :: vs, i, m, h, hi, e => by
    rcases List.mem_cons.mp hi with rfl | hi
    · have z := h.1
      rw [gt_get e] at z
      exact z
    · exact noOwn_at h.2 hi e
theorem wipeD_length : ∀ vs : List Nat, (wipeD ρ vs).length = ρ.length
  | [] => rfl
  | v :: vs => by unfold wipeD; rw [List.length_set, wipeD_length vs]
theorem wipeD_some : ∀ {vs : List Nat} {i : Nat} {s : Sl}, (wipeD ρ vs)[i]? = some s → s ≠ .un → i ∉ vs ∧ ρ[i]? = some s
  | [], _, _, h, _ => ⟨by simp, h⟩
  | v :: vs, i, s, h, n => by
    unfold wipeD at h
    rcases get_set h with ⟨_, z⟩ | ⟨z1, z2⟩
    · exact absurd z n
    · obtain ⟨h1, h2⟩ := wipeD_some z2 n
      exact ⟨by simp [z1, h1], h2⟩
theorem wipeD_out : ∀ {vs : List Nat} {i : Nat}, i ∉ vs → (wipeD ρ vs)[i]? = ρ[i]?
  | [], _, _ => rfl
  | v :: vs, i, h => by
    unfold wipeD
    rw [List.getElem?_set_ne fun z => h (by simp [z])]
    exact wipeD_out fun z => h (List.mem_cons_of_mem _ z)
theorem back_length : ∀ vs : List Nat, (back ρ ρ' vs).length = ρ'.length
  | [] => rfl
  | v :: vs => by unfold back; rw [List.length_set, back_length vs]
theorem back_out : ∀ {vs : List Nat} {i : Nat}, i ∉ vs → (back ρ ρ' vs)[i]? = ρ'[i]?
  | [], _, _ => rfl
  | v :: vs, i, h => by
    unfold back
    rw [List.getElem?_set_ne fun z => h (by simp [z])]
    exact back_out fun z => h (List.mem_cons_of_mem _ z)
theorem back_in : ∀ {vs : List Nat} {i : Nat} {s : Sl}, i ∈ vs → (back ρ ρ' vs)[i]? = some s → s = gt ρ i
  | v :: vs, i, s, h, q => by
    unfold back at q
    rcases get_set q with ⟨z1, z2⟩ | ⟨z1, z2⟩
    · rw [z2, z1]
    · rcases List.mem_cons.mp h with y | y
      · exact absurd y z1
      · exact back_in y z2
theorem Rel.wiped (R : Rel X.K F H ρ σ) (vs : List Nat) : Rel X.K F H (wipeD ρ vs) (wipe σ vs) := by
  refine ⟨R.le, by rw [wipeD_length, wipe_length]; exact R.len, fun i d q => ?_, fun i m q => ?_, fun i j m n a q1 q2 t1 t2 => ?_⟩
  · obtain ⟨h, q⟩ := wipeD_some q (by intro z; cases z)
    rw [wipe_out h]; exact R.vals i d q
  · obtain ⟨h, q⟩ := wipeD_some q (by intro z; cases z)
    rw [wipe_out h]; exact R.owns i m q
  · obtain ⟨h1, q1⟩ := wipeD_some q1 (by intro z; cases z)
    obtain ⟨h2, q2⟩ := wipeD_some q2 (by intro z; cases z)
    rw [wipe_out h1] at t1
    rw [wipe_out h2] at t2
    exact R.apart i j m n a q1 q2 t1 t2
theorem wipe_at {σ : L2.St} : ∀ {vs : List Nat} {i : Nat}, i ∈ vs → i < σ.length → (wipe σ vs)[i]? = some none
  | v :: vs, i, h, hl => by
    unfold wipe
    by_cases q : v = i
    · subst q; rw [List.getElem?_set_self (by rw [wipe_length]; exact hl)]
    · rw [List.getElem?_set_ne q]
      exact wipe_at ((List.mem_cons.mp h).resolve_left fun z => q z.symm) hl
theorem wipe_eq {S vs : List Nat} (hS : ∀ j ∈ S, j ∈ vs) (hl : σ'.length = σ.length) (h : ∀ j, j ∉ S → σ'[j]? = (wipe σ vs)[j]?) : wipe σ' vs = wipe σ vs := by
  refine List.ext_getElem? fun i => ?_
  by_cases q : i ∈ vs
  · by_cases hi : i < σ.length
    · rw [wipe_at q hi, wipe_at q (by omega)]
    · rw [List.getElem?_eq_none (by rw [wipe_length]; omega), List.getElem?_eq_none (by rw [wipe_length]; omega)]
  · rw [wipe_out q, h i fun z => q (hS i z)]
theorem wipe_eq_out {vs : List Nat} {i : Nat} (h : wipe σ' vs = wipe σ vs) (q : i ∉ vs) : σ'[i]? = σ[i]? := by
  rw [← wipe_out q, h, wipe_out q]
/-- back from a block -/
theorem backed {vs : List Nat} (R : Rel X.K F H ρ σ) (no : noOwn ρ vs) (s : Stp B F H (wipeD ρ vs) (wipe σ vs) F' H' ρ' σ') (pat : ∀ (i : Nat) (m' : MO), ρ'[i]? = some (Sl.own m') → ∃ m : MO, (wipeD ρ vs)[i]? = some (Sl.own m)) (R' : Rel X.K F' H' ρ' σ') (hw : wipe σ' vs = wipe σ vs) :
    Est B F H ρ F' H' (back ρ ρ' vs) σ ∧ Rel X.K F' H' (back ρ ρ' vs) σ := by
  have ow : ∀ (i : Nat) (m' : MO), (back ρ ρ' vs)[i]? = some (Sl.own m') → i ∉ vs ∧ ρ'[i]? = some (Sl.own m') := fun i m' q => by
    by_cases h : i ∈ vs
    · have z := back_in h q
      exact (noOwn_at no h (gt_some z.symm (by intro y; cases y))).elim
    · exact ⟨h, by rw [back_out h] at q; exact q⟩
  have own0 : ∀ a, Own (wipeD ρ vs) (wipe σ vs) a → Own ρ σ a := fun a ⟨i, m, q, t⟩ => by
    obtain ⟨h, q⟩ := wipeD_some q (by intro z; cases z)
    rw [wipe_out h] at t
    exact ⟨i, m, q, t⟩
  refine ⟨⟨⟨s.fle, fun a o h n => s.keep a o h fun z => n (own0 a z), s.there, fun a o h n => (s.new a o h n).imp id (own0 a), fun a ⟨i, m', q, t⟩ => ?_, fun i hi => ⟨rfl, fun m q => ?_⟩⟩, fun i m' q => ?_⟩, R'.le, ?_, fun i d q => ?_, fun i m' q => ?_, fun i j m n a q1 q2 t1 t2 => ?_⟩
  · obtain ⟨h, q⟩ := ow i m' q
    rw [← wipe_eq_out hw h] at t
    exact (s.own a ⟨i, m', q, t⟩).imp (own0 a) id
  · have h : i ∉ vs := fun z => noOwn_at no z q
    obtain ⟨m', q'⟩ := (s.bor i hi).2 m (by rw [wipeD_out h]; exact q)
    exact ⟨m', by rw [back_out h]; exact q'⟩
  · obtain ⟨h, q⟩ := ow i m' q
    obtain ⟨m, q⟩ := pat i m' q
    exact ⟨m, (wipeD_some q (by intro z; cases z)).2⟩
  · rw [back_length, R'.len]
    have z := congrArg List.length hw
    rw [wipe_length, wipe_length] at z
    exact z
  · by_cases h : i ∈ vs
    · have z := back_in h q
      obtain ⟨v, t, r⟩ := R.vals i d (gt_some z.symm (by intro y; cases y))
      exact ⟨v, t, r.mono s.fle⟩
    · rw [back_out h] at q
      rw [← wipe_eq_out hw h]
      exact R'.vals i d q
  · obtain ⟨h, q⟩ := ow i m' q
    rw [← wipe_eq_out hw h]
    exact R'.owns i m' q
  · obtain ⟨h1, q1⟩ := ow i m q1
    obtain ⟨h2, q2⟩ := ow j n q2
    rw [← wipe_eq_out hw h1] at t1
    rw [← wipe_eq_out hw h2] at t2
    exact R'.apart i j m n a q1 q2 t1 t2
/-- an object that nobody owns, new since the start, is written -/
theorem Est.wr {p : Addr} {o : HO} (s : Est B F H ρ F' H' ρ' σ) (R : Rel X.K F' H' ρ' σ) (hp : H p = none) (n : F' p = none) (no : ∀ (i : Nat) (m' : MO), ρ'[i]? = some (Sl.own m') → σ[i]? ≠ some (some (V.ref p))) :
    Est B F H ρ F' (upd H' p o) ρ' σ ∧ Rel X.K F' (upd H' p o) ρ' σ := by
  refine ⟨⟨⟨s.st.fle, fun a u h na => ?_, fun a u h => ?_, s.st.new, s.st.own, s.st.bor⟩, s.pat⟩, fun a u h => ?_, R.len, R.vals, fun i m q => ?_, R.apart⟩
  · rw [upd_ne fun z => by rw [z, hp] at h; cases h]; exact s.st.keep a u h na
  · obtain ⟨u', h'⟩ := s.st.there a u h
    exact ⟨u', by rw [upd_ne fun z => by rw [z, hp] at h; cases h]; exact h'⟩
  · rw [upd_ne fun z => by rw [z, n] at h; cases h]; exact R.le a u h
  · obtain ⟨a, t, na, o'⟩ := R.owns i m q
    exact ⟨a, t, na, o'.mono (Le.refl _) fun u z => by rw [upd_ne fun y => no i m q (by rw [← y]; exact t)]; exact z⟩
def DTs (X : Cx) (W : WX) (B : List Nat) (ifs : List Expr) (t : TTr) : Prop := ∃ te, PTs X ifs te ∧ ∀ (F H : Hp) (ρ : List Sl) (σ : L2.St) (Q : Bool → List Sl → Prop) (E : QE) (Q' : Bool → Hp → Prop), Rel X.K F H ρ σ → Exk X W B F H ρ σ E → t ρ Q E →
  (∀ (b : Bool) (ρ' : List Sl) (F' H' : Hp), Est B F H ρ F' H' ρ' σ → Rel X.K F' H' ρ' σ → Q b ρ' → Q' b H') → te σ H Q'
theorem dts_nil : DTs X W B [] (fun ρ Q _ => Q true ρ) := ⟨_, pts_nil, fun F H ρ σ Q E Q' R ex h k => k true ρ F H Est.refl R h⟩
theorem dts_one {t : TTr} (h : DT X W B c t) : DTs X W B [c] t := by
  obtain ⟨te, pe, run⟩ := h
  exact ⟨_, pts_one pe, run⟩
def E0D : QE := fun _ _ => False
abbrev W0 : WX := fun _ _ _ _ => False
theorem exk0 : Exk X W B F H ρ σ E0D := fun _ _ _ _ _ _ _ _ _ _ h => h.elim
def compL (g : GTr) (tt : TTr) (te : ETr) (vs : List Nat) : List D → List D → List Sl → (MO → List Sl → Prop) → Prop
  | [], acc, ρ, Q => Q (.lst acc) ρ
  | d :: ds, acc, ρ, Q => noOwn ρ vs ∧ g d (wipeD ρ vs) fun ρ1 => tt ρ1 (fun b ρ2 => br b (te ρ2 (fun z ρ3 => acc.length < sizeLine ∧ compL g tt te vs ds (acc ++ [z]) (back ρ ρ3 vs) Q) E0D) (compL g tt te vs ds acc (back ρ ρ2 vs) Q)) E0D
/-- the block of a comprehension -/
abbrev Blk (X X' : Cx) (scope : Scope) : Prop := ∃ (s : Shared) (H : Hp) (C : Addr) (cl : List (Str × Addr)) (fp : List Addr), X' = X.blk s H scope (compEnvC scope cl C X.env) fp
theorem lc_sem {S vs : List Nat} {wi : TI} {ti : ITr} {gg : TG} {g : GTr} {tte : TT} {tt : TTr} {te : TE} {t : ETr}
    (r1 : ∀ (F H : Hp) (ρ : List Sl) (σ : L2.St) (Q : List D → List Sl → Prop) (E : QE) (R' : It → Hp → Prop), Rel X.K F H ρ σ → Exk X W B F H ρ σ E → ti ρ Q E → (∀ (ds : List D) (ρ' : List Sl) (J : It) (F' H' : Hp), Est B F H ρ F' H' ρ' σ → Rel X.K F' H' ρ' σ → Feed X.K ds J F' → Q ds ρ' → R' J H') → wi σ H R')
    (hS : ∀ j ∈ S, j ∈ vs)
    (rg : ∀ (F H : Hp) (ρ : List Sl) (σ : L2.St) (d : D) (v : V) (Q : List Sl → Prop) (Q' : L2.St → Hp → Prop), Rel X.K F H ρ σ → Rep X.K F d v → g d ρ Q → (∀ (ρ' : List Sl) (σ' : L2.St), Stp B F H ρ σ F H ρ' σ' → Tgt S ρ ρ' σ σ' → Rel X.K F H ρ' σ' → Q ρ' → Q' σ' H) → gg v σ H Q')
    (rt : ∀ (F H : Hp) (ρ : List Sl) (σ : L2.St) (Q : Bool → List Sl → Prop) (Q' : Bool → Hp → Prop), Rel X.K F H ρ σ → tt ρ Q E0D → (∀ (b : Bool) (ρ' : List Sl) (F' H' : Hp), Est B F H ρ F' H' ρ' σ → Rel X.K F' H' ρ' σ → Q b ρ' → Q' b H') → tte σ H Q')
    (re : ∀ (F H : Hp) (ρ : List Sl) (σ : L2.St) (Q : D → List Sl → Prop) (Q' : VK), Rel X.K F H ρ σ → t ρ Q E0D → (∀ (d : D) (ρ' : List Sl) (v : V) (F' H' : Hp), Est B F H ρ F' H' ρ' σ → Rel X.K F' H' ρ' σ → Rep X.K F' d v → Q d ρ' → Q' v H') → te σ H Q') :
    ∀ (F H : Hp) (ρ : List Sl) (σ : L2.St) (Q : MO → List Sl → Prop) (E : QE) (Q' : VK), Rel X.K F H ρ σ → Exk X W B F H ρ σ E → ti ρ (fun ds ρ1 => compL g tt t vs ds [] ρ1 Q) E →
  (∀ (m : MO) (ρ' : List Sl) (p : Addr) (F' H' : Hp), Est B F H ρ F' H' ρ' σ → Rel X.K F' H' ρ' σ → H p = none → F' p = none → OwnAt X.K F' H' p m →
    (∀ (i : Nat) (m' : MO), ρ'[i]? = some (Sl.own m') → σ[i]? ≠ some (some (V.ref p))) → Q m ρ' → Q' (.ref p) H') → tLc wi gg tte te vs σ H Q' := by
  refine fun F H ρ σ Q E Q' R ex h kk => r1 F H ρ σ _ E _ R ex h fun ds ρ1 J F1 H1 s1 R1 fd q => fun D hD => ?_
  have hD0 : H D = none := s1.st.fresh hD
  obtain ⟨sD, RD, nD, oD, noD⟩ := made (B := B) (o := .lst []) (m := .lst []) R1 hD ⟨[], upd_same, .nil⟩
  refine ⟨fun i m H2 => m = ds.length - i ∧ i ≤ ds.length ∧ ∃ ρ2 F2 acc accv, Est B F H ρ F2 H2 ρ2 σ ∧ Rel X.K F2 H2 ρ2 σ ∧ Le F1 F2 ∧ F2 D = none ∧ H2 D = some (.lst accv) ∧ Reps X.K F2 acc accv ∧
    (∀ (i : Nat) (m' : MO), ρ2[i]? = some (Sl.own m') → σ[i]? ≠ some (some (V.ref D))) ∧ compL g tt t vs (ds.drop i) acc ρ2 Q, ⟨ds.length, by simp, Nat.zero_le _, ρ1, F1, [], [], s1.trans sD, RD, Le.refl _, nD, upd_same, .nil, noD, q⟩, ?_⟩
  rintro i m H2 ⟨rfl, hi, ρ2, F2, acc, accv, s2, R2, l2, n2, h2, rs, no, q2⟩
  cases hd : ds[i]? with
  | none =>
    have e : i = ds.length := Nat.le_antisymm hi (List.getElem?_eq_none_iff.mp hd)
    subst e
    rw [List.drop_length] at q2
    exact .inl ⟨fd.stop F2 H2 l2 R2.le, kk (.lst acc) _ D F2 H2 s2 R2 hD0 n2 ⟨accv, h2, rs⟩ no q2⟩
  | some d =>
    have hlt : i < ds.length := (List.getElem?_eq_some_iff.mp hd).1
    have e : ds.drop i = d :: ds.drop (i + 1) := by
      rw [List.drop_eq_getElem_cons hlt, (List.getElem?_eq_some_iff.mp hd).2]
    rw [e] at q2
    obtain ⟨noo, q2⟩ := q2
    obtain ⟨go, yl⟩ := fd.go i d hd F2 H2 l2 R2.le
    refine .inr ⟨go, fun H' => ∃ ρ' F' acc' accv', Est B F H ρ F' H' ρ' σ ∧ Rel X.K F' H' ρ' σ ∧ Le F1 F' ∧ F' D = none ∧ H' D = some (.lst accv') ∧ Reps X.K F' acc' accv' ∧
      (∀ (i : Nat) (m' : MO), ρ'[i]? = some (Sl.own m') → σ[i]? ≠ some (some (V.ref D))) ∧ compL g tt t vs (ds.drop (i + 1)) acc' ρ' Q, fun H' ⟨ρ', F', a1, a2, a3⟩ => ⟨ds.length - (i + 1), by omega, rfl, hlt, ρ', F', a1, a2, a3⟩, fun x H3 hy => ?_⟩
    obtain ⟨F3, s3, R3, r⟩ := (yl x H3 hy).rel (B := B) R2
    have notOwn : ¬ Own ρ2 σ D := fun ⟨j, m', q, t⟩ => no j m' q t
    refine rg F3 H3 (wipeD ρ2 vs) (wipe σ vs) d x _ _ (R3.wiped vs) r q2 fun ρ4 σ4 s4 t4 R4 q4 => ?_
    have hw : wipe σ4 vs = wipe σ vs := wipe_eq hS (by rw [t4.2.2, wipe_length]) t4.2.1
    refine ⟨hw, rt F3 H3 ρ4 σ4 _ _ R4 q4 fun z ρ5 F5 H5 s5 R5 q5 => ?_⟩
    have fin : ∀ (ρ6 : List Sl) (F6 H6 : Hp), Est B F3 H3 ρ4 F6 H6 ρ6 σ4 → Rel X.K F6 H6 ρ6 σ4 → Est B F2 H2 ρ2 F6 H6 (back ρ2 ρ6 vs) σ ∧ Rel X.K F6 H6 (back ρ2 ρ6 vs) σ ∧ F6 D = none ∧ H6 D = some (.lst accv) ∧ ∀ (i : Nat) (m' : MO), (back ρ2 ρ6 vs)[i]? = some (Sl.own m') → σ[i]? ≠ some (some (V.ref D)) := fun ρ6 F6 H6 s6 R6 => by
      obtain ⟨sb, Rb⟩ := backed R3 noo (s4.trans s6.st) (fun i m' z => by obtain ⟨m, z⟩ := s6.pat i m' z; exact t4.1 i m z) R6 hw
      have sx := s3.trans sb
      refine ⟨sx, Rb, ?_, sx.st.keep D _ h2 notOwn, fun i m' z => ?_⟩
      · cases z : F6 D with
        | none => rfl
        | some u =>
          rcases sx.st.new D u z n2 with y | y
          · rw [h2] at y; cases y
          · exact (notOwn y).elim
      · obtain ⟨m, z⟩ := sx.pat i m' z
        exact no i m z
    cases z with
    | false =>
      rw [if_neg Bool.false_ne_true]
      obtain ⟨sx, Rb, n6, h6, no6⟩ := fin ρ5 F5 H5 s5 R5
      exact ⟨_, F5, acc, accv, s2.trans sx, Rb, l2.trans sx.st.fle, n6, h6, rs.mono sx.st.fle, no6, q5⟩
    | true =>
      rw [if_pos rfl]
      refine re F5 H5 ρ5 σ4 _ _ R5 q5 fun y ρ6 v F6 H6 s6 R6 ry q6 => ?_
      obtain ⟨sx, Rb, n6, h6, no6⟩ := fin ρ6 F6 H6 (s5.trans s6) R6
      obtain ⟨sw, Rw⟩ := Est.wr (o := .lst (accv ++ [v])) (s2.trans sx) Rb hD0 n6 no6
      exact ⟨accv, h6, by rw [← rs.length]; exact q6.1, _, F6, acc ++ [y], accv ++ [v], sw, Rw, l2.trans sx.st.fle, n6, upd_same, (rs.mono sx.st.fle).append (.cons ry .nil), no6, q6.2⟩

section
variable {elt iter : Expr} {ifs : List Expr} {scope : Scope} {own : List (Str × Nat)} {S : List Nat} {ti : ITr} {g : GTr} {tt : TTr} {t : ETr}
theorem dn_lc (ok : Cok X W) (hi : DI X W B tg iter ti) (bo : blkC X.N X.env.scope scope own = true) (hS : ∀ j ∈ S, j ∈ own.map (·.2))
    (hg : ∃ gg, (∀ X', Blk X X' scope → PG X' tg gg) ∧ ∀ (F H : Hp) (ρ : List Sl) (σ : L2.St) (d : D) (v : V) (Q : List Sl → Prop) (Q' : L2.St → Hp → Prop), Rel X.K F H ρ σ → Rep X.K F d v → g d ρ Q → (∀ (ρ' : List Sl) (σ' : L2.St), Stp B F H ρ σ F H ρ' σ' → Tgt S ρ ρ' σ σ' → Rel X.K F H ρ' σ' → Q ρ' → Q' σ' H) → gg v σ H Q')
    (ht : ∃ te, (∀ X', Blk X X' scope → PTs X' ifs te) ∧ ∀ (F H : Hp) (ρ : List Sl) (σ : L2.St) (Q : Bool → List Sl → Prop) (Q' : Bool → Hp → Prop), Rel X.K F H ρ σ → tt ρ Q E0D → (∀ (b : Bool) (ρ' : List Sl) (F' H' : Hp), Est B F H ρ F' H' ρ' σ → Rel X.K F' H' ρ' σ → Q b ρ' → Q' b H') → te σ H Q')
    (he : ∃ te, (∀ X', Blk X X' scope → PE X' elt te) ∧ ∀ (F H : Hp) (ρ : List Sl) (σ : L2.St) (Q : D → List Sl → Prop) (Q' : VK), Rel X.K F H ρ σ → t ρ Q E0D → (∀ (d : D) (ρ' : List Sl) (v : V) (F' H' : Hp), Est B F H ρ F' H' ρ' σ → Rel X.K F' H' ρ' σ → Rep X.K F' d v → Q d ρ' → Q' v H') → te σ H Q')
    (hs : ∀ x, foldedSetIterable iter X.env x = pure x) :
    DN X W B (.ListComp elt [⟨tg, iter, ifs, 0⟩] scope pos) (fun ρ Q E => ti ρ (fun ds ρ1 => compL g tt t (own.map (·.2)) ds [] ρ1 Q) E) := by
  obtain ⟨wi, p1, r1⟩ := hi
  obtain ⟨gg, pg, rg⟩ := hg
  obtain ⟨tte, pt, rt⟩ := ht
  obtain ⟨te, pe, re⟩ := he
  exact ⟨_, pe_lc (own := own) ok.calm ok.nd p1 (blkOk_by bo) (fun s H C cl fp => pg _ ⟨s, H, C, cl, fp, rfl⟩) (fun s H C cl fp => pt _ ⟨s, H, C, cl, fp, rfl⟩) (fun s H C cl fp => pe _ ⟨s, H, C, cl, fp, rfl⟩) hs, lc_sem r1 hS rg rt re⟩
/-- name = [..], the name a local: the sem of a statement -/
theorem ds_lc (i : Nat) {y : Str} {py spos : Pos} (ok : Cok X W) (hi : DI X W B tg iter ti) (bo : blkC X.N X.env.scope scope own = true) (hS : ∀ j ∈ S, j ∈ own.map (·.2))
    (hg : ∃ gg, (∀ X', Blk X X' scope → PG X' tg gg) ∧ ∀ (F H : Hp) (ρ : List Sl) (σ : L2.St) (d : D) (v : V) (Q : List Sl → Prop) (Q' : L2.St → Hp → Prop), Rel X.K F H ρ σ → Rep X.K F d v → g d ρ Q → (∀ (ρ' : List Sl) (σ' : L2.St), Stp B F H ρ σ F H ρ' σ' → Tgt S ρ ρ' σ σ' → Rel X.K F H ρ' σ' → Q ρ' → Q' σ' H) → gg v σ H Q')
    (ht : ∃ te, (∀ X', Blk X X' scope → PTs X' ifs te) ∧ ∀ (F H : Hp) (ρ : List Sl) (σ : L2.St) (Q : Bool → List Sl → Prop) (Q' : Bool → Hp → Prop), Rel X.K F H ρ σ → tt ρ Q E0D → (∀ (b : Bool) (ρ' : List Sl) (F' H' : Hp), Est B F H ρ F' H' ρ' σ → Rel X.K F' H' ρ' σ → Q b ρ' → Q' b H') → te σ H Q')
    (he : ∃ te, (∀ X', Blk X X' scope → PE X' elt te) ∧ ∀ (F H : Hp) (ρ : List Sl) (σ : L2.St) (Q : D → List Sl → Prop) (Q' : VK), Rel X.K F H ρ σ → t ρ Q E0D → (∀ (d : D) (ρ' : List Sl) (v : V) (F' H' : Hp), Est B F H ρ F' H' ρ' σ → Rel X.K F' H' ρ' σ → Rep X.K F' d v → Q d ρ' → Q' v H') → te σ H Q')
    (hs : ∀ x, foldedSetIterable iter X.env x = pure x) (hy : X.N[i]? = some y) (hyl : X.env.scope.names.lookup y = some .local)
    (hsw : swapsWith (.ListComp elt [⟨tg, iter, ifs, 0⟩] scope pos) (some (.Name y py)) spos.line X.env = pure true) (hB : i ∉ B) :
    DS X W B (.Assign [.Name y py] (.ListComp elt [⟨tg, iter, ifs, 0⟩] scope pos) spos) (fun D ρ => ti ρ (fun ds ρ1 => compL g tt t (own.map (·.2)) ds [] ρ1 fun m ρ2 => D.nx (ρ2.set i (.own m))) D.ex) ∧
    DS X W B (.Assign [.Name y py] (.ListComp elt [⟨tg, iter, ifs, 0⟩] scope pos) spos) (fun D ρ => ti ρ (fun ds ρ1 => compL g tt t (own.map (·.2)) ds [] ρ1 fun m ρ2 => D.nx (ρ2.set i (.val (frz m)))) D.ex) := by
  obtain ⟨wi, p1, r1⟩ := hi
  obtain ⟨gg, pg, rg⟩ := hg
  obtain ⟨tte, pt, rt⟩ := ht
  obtain ⟨te, pe, re⟩ := he
  have ps := ps_setLc (i := i) (own := own) ok.calm ok.nd hy hyl hsw p1 (blkOk_by bo) (fun s H C cl fp => pg _ ⟨s, H, C, cl, fp, rfl⟩) (fun s H C cl fp => pt _ ⟨s, H, C, cl, fp, rfl⟩) (fun s H C cl fp => pe _ ⟨s, H, C, cl, fp, rfl⟩) hs
  refine ⟨⟨_, ps, fun F H ρ σ D' D R ER h => lc_sem r1 hS rg rt re F H ρ σ _ D'.ex _ R ER.ex h fun m ρ' p F' H' s R' hp n o no q => ER.nx _ _ F' H' (stp_own s hp hB) (set_own R' n o no) q⟩,
    ⟨_, ps, fun F H ρ σ D' D R ER h => lc_sem r1 hS rg rt re F H ρ σ _ D'.ex _ R ER.ex h fun m ρ' p F' H' s R' hp n o no q => ?_⟩⟩
  obtain ⟨u, hu, r⟩ := o.rep n
  have R2 := Est.freeze R' hu n no
  have s2 : Stp B F H ρ σ (upd F' p u) H' ρ' σ := ⟨s.st.fle.trans (Le.new n), s.st.keep, s.st.there, fun a w z na => by
    by_cases y : a = p
    · rw [y]; exact .inl hp
    · rw [upd_ne y] at z; exact s.st.new a w z na, s.st.own, s.st.bor⟩
  obtain ⟨s3, R3⟩ := set_val (B := B) (i := i) R2 r hB
  exact ER.nx _ _ _ _ (s2.trans s3) R3 q
end
end
end DL

namespace DL
open PySem L2 PySem.Spec PyProof.Rows
section
variable {X : Cx} {W : WX} {B : List Nat} {F F' F'' H H' H'' : Hp} {ρ ρ' ρ'' : List Sl} {σ σ' σ'' : L2.St} {e a b c tg : Expr} {es : List Expr} {st : Stmt} {sts : List Stmt} {pos : Pos}
/-! ### a family of contexts -/
theorem uni_e {ι : Type} {Y : ι → Cx} {K : PySem.W.Frag} {t : ETr} (hK : ∀ i, (Y i).K = K) (h : ∀ i, DE (Y i) W0 B e t) : ∃ te, (∀ i, PE (Y i) e te) ∧ ∀ (F H : Hp) (ρ : List Sl) (σ : L2.St) (Q : D → List Sl → Prop) (Q' : VK), Rel K F H ρ σ → t ρ Q E0D →
    (∀ (d : D) (ρ' : List Sl) (v : V) (F' H' : Hp), Est B F H ρ F' H' ρ' σ → Rel K F' H' ρ' σ → Rep K F' d v → Q d ρ' → Q' v H') → te σ H Q' := by
  obtain ⟨f, hf⟩ := Classical.axiomOfChoice h
  refine ⟨fun σ H Q => ∀ i, f i σ H Q, fun i => ⟨fun pins s σ H Q I q => (hf i).1.run pins s σ H Q I (q i)⟩, fun F H ρ σ Q Q' R q k i => ?_⟩
  have hk := hK i
  have z := (hf i).2 F H ρ σ Q E0D Q'
  rw [hk] at z
  exact z R exk0 q k
theorem uni_t {ι : Type} {Y : ι → Cx} {K : PySem.W.Frag} {ifs : List Expr} {t : TTr} (hK : ∀ i, (Y i).K = K) (h : ∀ i, DTs (Y i) W0 B ifs t) : ∃ te, (∀ i, PTs (Y i) ifs te) ∧ ∀ (F H : Hp) (ρ : List Sl) (σ : L2.St) (Q : Bool → List Sl → Prop) (Q' : Bool → Hp → Prop), Rel K F H ρ σ → t ρ Q E0D →
    (∀ (b : Bool) (ρ' : List Sl) (F' H' : Hp), Est B F H ρ F' H' ρ' σ → Rel K F' H' ρ' σ → Q b ρ' → Q' b H') → te σ H Q' := by
  obtain ⟨f, hf⟩ := Classical.axiomOfChoice h
  refine ⟨fun σ H Q => ∀ i, f i σ H Q, fun i => ⟨fun pins s σ H Q I q => (hf i).1.run pins s σ H Q I (q i)⟩, fun F H ρ σ Q Q' R q k i => ?_⟩
  have hk := hK i
  have z := (hf i).2 F H ρ σ Q E0D Q'
  rw [hk] at z
  exact z R exk0 q k
theorem uni_g {ι : Type} {Y : ι → Cx} {K : PySem.W.Frag} {S : List Nat} {g : GTr} (hK : ∀ i, (Y i).K = K) (h : ∀ i, DG (Y i) B tg S g) : ∃ gg, (∀ i, PG (Y i) tg gg) ∧ ∀ (F H : Hp) (ρ : List Sl) (σ : L2.St) (d : D) (v : V) (Q : List Sl → Prop) (Q' : L2.St → Hp → Prop), Rel K F H ρ σ → Rep K F d v → g d ρ Q →
    (∀ (ρ' : List Sl) (σ' : L2.St), Stp B F H ρ σ F H ρ' σ' → Tgt S ρ ρ' σ σ' → Rel K F H ρ' σ' → Q ρ' → Q' σ' H) → gg v σ H Q' := by
  obtain ⟨f, hf⟩ := Classical.axiomOfChoice h
  refine ⟨fun v σ H Q => ∀ i, f i v σ H Q, fun i => ⟨fun pins s σ H v u Q I r q => (hf i).1.run pins s σ H v u Q I r (q i)⟩, fun F H ρ σ d v Q Q' R r q k i => ?_⟩
  have hk := hK i
  have z := (hf i).2 F H ρ σ d v Q Q'
  rw [hk] at z
  exact z R r q k
abbrev BlkI := Shared × Hp × Addr × List (Str × Addr) × List Addr
abbrev blk (X : Cx) (scope : Scope) (i : BlkI) : Cx := X.blk i.1 i.2.1 scope (compEnvC scope i.2.2.2.1 i.2.2.1 X.env) i.2.2.2.2
theorem dn_comp {elt iter : Expr} {ifs : List Expr} {scope : Scope} {own : List (Str × Nat)} {S : List Nat} {ti : ITr} {g : GTr} {tt : TTr} {t : ETr} (ok : Cok X W) (hi : DI X W B tg iter ti) (bo : blkC X.N X.env.scope scope own = true)
    (hS : ∀ j ∈ S, j ∈ own.map (·.2)) (hg : ∀ i : BlkI, DG (blk X scope i) B tg S g) (ht : ∀ i : BlkI, DTs (blk X scope i) W0 B ifs tt) (he : ∀ i : BlkI, DE (blk X scope i) W0 B elt t)
    (hs : ∀ x, foldedSetIterable iter X.env x = pure x := by intro _; rfl) :
    DN X W B (.ListComp elt [⟨tg, iter, ifs, 0⟩] scope pos) (fun ρ Q E => ti ρ (fun ds ρ1 => compL g tt t (own.map (·.2)) ds [] ρ1 Q) E) := by
  obtain ⟨gg, g1, g2⟩ := uni_g (Y := blk X scope) (K := X.K) (fun _ => rfl) hg
  obtain ⟨tt', t1, t2⟩ := uni_t (Y := blk X scope) (K := X.K) (fun _ => rfl) ht
  obtain ⟨te, e1, e2⟩ := uni_e (Y := blk X scope) (K := X.K) (fun _ => rfl) he
  exact dn_lc (own := own) ok hi bo hS ⟨gg, fun X' ⟨s, H, C, cl, fp, z⟩ => z ▸ g1 (s, H, C, cl, fp), g2⟩ ⟨tt', fun X' ⟨s, H, C, cl, fp, z⟩ => z ▸ t1 (s, H, C, cl, fp), t2⟩ ⟨te, fun X' ⟨s, H, C, cl, fp, z⟩ => z ▸ e1 (s, H, C, cl, fp), e2⟩ hs
theorem ds_comp (i : Nat) {elt iter : Expr} {ifs : List Expr} {scope : Scope} {own : List (Str × Nat)} {S : List Nat} {ti : ITr} {g : GTr} {tt : TTr} {t : ETr} {y : Str} {py spos : Pos} (ok : Cok X W) (hi : DI X W B tg iter ti) (bo : blkC X.N X.env.scope scope own = true)
    (hS : ∀ j ∈ S, j ∈ own.map (·.2)) (hg : ∀ i : BlkI, DG (blk X scope i) B tg S g) (ht : ∀ i : BlkI, DTs (blk X scope i) W0 B ifs tt) (he : ∀ i : BlkI, DE (blk X scope i) W0 B elt t)
    (hB : i ∉ B := by decide) (hy : X.N[i]? = some y := by rfl) (hyl : X.env.scope.names.lookup y = some .local := by rfl)
    (hsw : swapsWith (.ListComp elt [⟨tg, iter, ifs, 0⟩] scope pos) (some (.Name y py)) spos.line X.env = pure true := by exact sw_true rfl rfl rfl (by decide +kernel)) (hs : ∀ x, foldedSetIterable iter X.env x = pure x := by intro _; rfl) :
    DS X W B (.Assign [.Name y py] (.ListComp elt [⟨tg, iter, ifs, 0⟩] scope pos) spos) (fun D ρ => ti ρ (fun ds ρ1 => compL g tt t (own.map (·.2)) ds [] ρ1 fun m ρ2 => D.nx (ρ2.set i (.own m))) D.ex) ∧
    DS X W B (.Assign [.Name y py] (.ListComp elt [⟨tg, iter, ifs, 0⟩] scope pos) spos) (fun D ρ => ti ρ (fun ds ρ1 => compL g tt t (own.map (·.2)) ds [] ρ1 fun m ρ2 => D.nx (ρ2.set i (.val (frz m)))) D.ex) := by
  obtain ⟨gg, g1, g2⟩ := uni_g (Y := blk X scope) (K := X.K) (fun _ => rfl) hg
  obtain ⟨tt', t1, t2⟩ := uni_t (Y := blk X scope) (K := X.K) (fun _ => rfl) ht
  obtain ⟨te, e1, e2⟩ := uni_e (Y := blk X scope) (K := X.K) (fun _ => rfl) he
  exact ds_lc i ok hi bo hS ⟨gg, fun X' ⟨s, H, C, cl, fp, z⟩ => z ▸ g1 (s, H, C, cl, fp), g2⟩ ⟨tt', fun X' ⟨s, H, C, cl, fp, z⟩ => z ▸ t1 (s, H, C, cl, fp), t2⟩ ⟨te, fun X' ⟨s, H, C, cl, fp, z⟩ => z ▸ e1 (s, H, C, cl, fp), e2⟩ hs hy hyl hsw hB
theorem takesW0 : Takes X W0 := fun _ _ ⟨_, _, _, _, _, _, _, _, _, _, _, _, _, _, _, _, z⟩ => z.elim
theorem Cok.blk (ok : Cok X W) {scope : Scope} {i : BlkI} : Cok (blk X scope i) W0 := ⟨takesW0, ok.calm, PassesOwn.never, ok.nd, ok.units⟩

/-! ### what a def promises, on data -/
abbrev DSp := List Sl → (Sl → List Sl → Prop) → QE → Prop
structure After (K : PySem.W.Frag) (F H : Hp) (sl : List Sl) (vs : List V) (F' H' : Hp) (sl' : List Sl) : Prop where
  fle : Le F F'
  keep : ∀ (a : Addr) (o : HO), H a = some o → ¬ Own sl (vs.map some) a → H' a = some o
  there : ∀ (a : Addr) (o : HO), H a = some o → ∃ o' : HO, H' a = some o'
  new : ∀ (a : Addr) (o : HO), F' a = some o → F a = none → H a = none ∨ Own sl (vs.map some) a
  rel : Rel K F' H' sl' (vs.map some)
  sub : ∀ (i : Nat) (m : MO), sl[i]? = some (Sl.own m) → ∃ m' : MO, sl'[i]? = some (Sl.own m')
  sup : ∀ (i : Nat) (m' : MO), sl'[i]? = some (Sl.own m') → ∃ m : MO, sl[i]? = some (Sl.own m)
def ResAt (K : PySem.W.Frag) (H F' H' : Hp) : Sl → V → Prop
  | .val d, v => Rep K F' d v
  | .own m, v => ∃ p, v = .ref p ∧ H p = none ∧ F' p = none ∧ OwnAt K F' H' p m
  | .un, _ => False
/-- the promise over the heap, of the promise on data -/
def spG (K : PySem.W.Frag) (n : Nat) (T : DSp) : Sp := fun vs H Q E => vs.length = n ∧ ∃ (F : Hp) (sl : List Sl) (QD : Sl → List Sl → Prop) (ED : QE), Rel K F H sl (vs.map some) ∧ T sl QD ED ∧
  (∀ (r : Sl) (sl' : List Sl) (v : V) (F' H' : Hp), QD r sl' → After K F H sl vs F' H' sl' → ResAt K H F' H' r v → Q v H') ∧
  ∀ (x : Exn) (sl' : List Sl) (cls : Value) (dd : Option Addr) (F' H' : Hp), ED x sl' → After K F H sl vs F' H' sl' → ExnAt K F' H' x cls dd → E cls dd H'

/-! ### calls of the text's own defs -/
/-- the arguments: a datum, or a slot that owns (by its name) -/
def mkSl : List (Option Nat) → List D → List Sl → List Sl
  | [], _, _ => []
  | none :: ms, d :: ds, ρ => .val d :: mkSl ms ds ρ
  | none :: ms, [], ρ => .un :: mkSl ms [] ρ
  | some i :: ms, ds, ρ => gt ρ i :: mkSl ms ds ρ
def ownAll : List (Option Nat) → List Sl → Prop
  | [], _ => True
  | none :: ms, ρ => ownAll ms ρ
  | some i :: ms, ρ => (match gt ρ i with | .own _ => True | _ => False) ∧ ownAll ms ρ
/-- what the callee left of the slots -/
def wb : List (Option Nat) → List Sl → List Sl → List Sl
  | some i :: ms, s :: sl, ρ => (wb ms sl ρ).set i s
  | none :: ms, _ :: sl, ρ => wb ms sl ρ
  | _, _, ρ => ρ
/-- how the arguments' values bear their data -/
def ArgRel (K : PySem.W.Frag) (F : Hp) (σ : L2.St) : List (Option Nat) → List D → List V → Prop
  | [], [], [] => True
  | none :: ms, d :: ds, v :: vs => Rep K F d v ∧ ArgRel K F σ ms ds vs
  | some i :: ms, ds, v :: vs => σ[i]? = some (some v) ∧ ArgRel K F σ ms ds vs
  | _, _, _ => False
def ndp : List (Option Nat) → Bool
  | [] => true
  | none :: ms => ndp ms
  | some i :: ms => !(ms.contains (some i)) && ndp ms
theorem ArgRel.mono {K : PySem.W.Frag} (l : Le F F') : ∀ {ms : List (Option Nat)} {ds : List D} {vs : List V}, ArgRel K F σ ms ds vs → ArgRel K F' σ ms ds vs
  | [], [], [], h => h
  | [], [], _ :: _, h => h.elim
  | [], _ :: _, _, h => by unfold ArgRel at h; exact h.elim
  | none :: ms, [], _, h => by unfold ArgRel at h; exact h.elim
  | none :: ms, _ :: _, [], h => by unfold ArgRel at h; exact h.elim
  | none :: ms, d :: ds, v :: vs, h => by unfold ArgRel at h ⊢; exact ⟨h.1.mono l, ArgRel.mono l h.2⟩
  | some i :: ms, ds, [], h => by cases ds <;> (unfold ArgRel at h; exact h.elim)
  | some i :: ms, ds, v :: vs, h => by unfold ArgRel at h ⊢; exact ⟨h.1, ArgRel.mono l h.2⟩
/-- the place j of the arguments -/
theorem ArgRel.at {K : PySem.W.Frag} {ρ : List Sl} : ∀ {ms : List (Option Nat)} {ds : List D} {vs : List V} {j : Nat} {s : Sl}, ArgRel K F σ ms ds vs → (mkSl ms ds ρ)[j]? = some s →
    (∃ d v, s = .val d ∧ ms[j]? = some none ∧ vs[j]? = some v ∧ Rep K F d v) ∨ ∃ (i : Nat) (v : V), ms[j]? = some (some i) ∧ s = gt ρ i ∧ vs[j]? = some v ∧ σ[i]? = some (some v)
  | [], _, _, _, _, _, e => by simp [mkSl] at e
  | none :: ms, [], _, _, _, h, _ => by unfold ArgRel at h; exact h.elim
  | none :: ms, _ :: _, [], _, _, h, _ => by unfold ArgRel at h; exact h.elim
  | none :: ms, d :: ds, v :: vs, 0, s, h, e => by
    unfold ArgRel at h
    simp [mkSl] at e
    exact .inl ⟨d, v, e.symm, by simp, by simp, h.1⟩
  | none :: ms, d :: ds, v :: vs, j + 1, s, h, e => by
    unfold ArgRel at h
    rcases ArgRel.at (j := j) h.2 (by simpa [mkSl] using e) with ⟨d', v', a1, a2, a3, a4⟩ | ⟨i, v', a1, a2, a3, a4⟩
    · exact .inl ⟨d', v', a1, by simpa using a2, by simpa using a3, a4⟩
    · exact .inr ⟨i, v', by simpa using a1, a2, by simpa using a3, a4⟩
  | some i :: ms, ds, [], _, _, h, _ => by cases ds <;> (unfold ArgRel at h; exact h.elim)
  | some i :: ms, ds, v :: vs, 0, s, h, e => by
    unfold ArgRel at h
    simp [mkSl] at e
    exact .inr ⟨i, v, by simp, e.symm, by simp, h.1⟩
  | some i :: ms, ds, v :: vs, j + 1, s, h, e => by
    unfold ArgRel at h
    rcases ArgRel.at (j := j) h.2 (by simpa [mkSl] using e) with ⟨d', v', a1, a2, a3, a4⟩ | ⟨i', v', a1, a2, a3, a4⟩
    · exact .inl ⟨d', v', a1, by simpa using a2, by simpa using a3, a4⟩
    · exact .inr ⟨i', v', by simpa using a1, a2, by simpa using a3, a4⟩
theorem ArgRel.lens {K : PySem.W.Frag} {ρ : List Sl} : ∀ {ms : List (Option Nat)} {ds : List D} {vs : List V}, ArgRel K F σ ms ds vs → vs.length = ms.length ∧ (mkSl ms ds ρ).length = ms.length
  | [], [], [], h => ⟨rfl, rfl⟩
  | [], [], _ :: _, h => h.elim
  | [], _ :: _, _, h => by unfold ArgRel at h; exact h.elim
  | none :: ms, [], _, h => by unfold ArgRel at h; exact h.elim
  | none :: ms, _ :: _, [], h => by unfold ArgRel at h; exact h.elim
  | none :: ms, d :: ds, v :: vs, h => by
    unfold ArgRel at h
    obtain ⟨a, b⟩ := ArgRel.lens (ρ := ρ) h.2
    exact ⟨by simp [a], by simp [mkSl, b]⟩
  | some i :: ms, ds, [], h => by cases ds <;> (unfold ArgRel at h; exact h.elim)
  | some i :: ms, ds, v :: vs, h => by
    unfold ArgRel at h
    obtain ⟨a, b⟩ := ArgRel.lens (ρ := ρ) h.2
    exact ⟨by simp [a], by simp [mkSl, b]⟩
theorem ownAll_at {ρ : List Sl} : ∀ {ms : List (Option Nat)} {j i : Nat}, ownAll ms ρ → ms[j]? = some (some i) → ∃ m, gt ρ i = .own m
  | [], j, i, _, e => by simp at e
  | none :: ms, 0, i, _, e => by simp at e
  | none :: ms, j + 1, i, h, e => ownAll_at (ms := ms) (j := j) h (by simpa using e)
  | some k :: ms, 0, i, h, e => by
    simp at e; subst e
    have z := h.1
    cases q : gt ρ k with
    | own m => exact ⟨m, rfl⟩
    | un => rw [q] at z; exact z.elim
    | val d => rw [q] at z; exact z.elim
  | some k :: ms, j + 1, i, h, e => ownAll_at (ms := ms) (j := j) h.2 (by simpa using e)
theorem ndp_at : ∀ {ms : List (Option Nat)} {j k i : Nat}, ndp ms = true → ms[j]? = some (some i) → ms[k]? = some (some i) → j = k
  | [], j, k, i, _, e, _ => by simp at e
  | none :: ms, 0, k, i, _, e, _ => by simp at e
  | none :: ms, j + 1, 0, i, _, _, e => by simp at e
  | none :: ms, j + 1, k + 1, i, h, e, e' => congrArg (· + 1) (ndp_at (ms := ms) (i := i) (j := j) (k := k) h (by simpa using e) (by simpa using e'))
  | some q :: ms, 0, 0, i, _, _, _ => rfl
  | some q :: ms, 0, k + 1, i, h, e, e' => by
    simp at e; subst e
    have z : some q ∈ ms := List.mem_of_getElem? (by simpa using e')
    unfold ndp at h
    simp [z] at h
  | some q :: ms, j + 1, 0, i, h, e', e => by
    simp at e; subst e
    have z : some q ∈ ms := List.mem_of_getElem? (by simpa using e')
    unfold ndp at h
    simp [z] at h
  | some q :: ms, j + 1, k + 1, i, h, e, e' => by
    unfold ndp at h
    simp only [Bool.and_eq_true] at h
    exact congrArg (· + 1) (ndp_at (ms := ms) (i := i) (j := j) (k := k) h.2 (by simpa using e) (by simpa using e'))
theorem wb_length {ρ : List Sl} : ∀ (ms : List (Option Nat)) (sl : List Sl), (wb ms sl ρ).length = ρ.length
  | [], _ => rfl
  | none :: ms, [] => rfl
  | some _ :: ms, [] => rfl
  | none :: ms, _ :: sl => wb_length ms sl
  | some _ :: ms, _ :: sl => by unfold wb; rw [List.length_set, wb_length ms sl]
theorem wb_get {ρ : List Sl} : ∀ {ms : List (Option Nat)} {sl : List Sl} {i : Nat} {s : Sl}, sl.length = ms.length → (wb ms sl ρ)[i]? = some s → (∃ j : Nat, ms[j]? = some (some i) ∧ sl[j]? = some s) ∨ ((∀ j : Nat, ms[j]? ≠ some (some i)) ∧ ρ[i]? = some s)
  | [], sl, i, s, _, h => .inr ⟨by simp, by cases sl <;> exact h⟩
  | none :: ms, [], i, s, hl, h => by simp at hl
  | some _ :: ms, [], i, s, hl, h => by simp at hl
  | none :: ms, _ :: sl, i, s, hl, h => by
    rcases wb_get (ms := ms) (by simpa using hl) h with ⟨j, a, b⟩ | ⟨a, b⟩
    · exact .inl ⟨j + 1, by simpa using a, by simpa using b⟩
    · exact .inr ⟨fun j => by cases j with
        | zero => simp
        | succ j => simpa using a j, b⟩
  | some k :: ms, s0 :: sl, i, s, hl, h => by
    unfold wb at h
    rcases get_set h with ⟨z1, z2⟩ | ⟨z1, z2⟩
    · exact .inl ⟨0, by simp [z1], by simp [z2]⟩
    · rcases wb_get (ms := ms) (by simpa using hl) z2 with ⟨j, a, b⟩ | ⟨a, b⟩
      · exact .inl ⟨j + 1, by simpa using a, by simpa using b⟩
      · exact .inr ⟨fun j => by cases j with
          | zero => simpa using fun z => z1 z.symm
          | succ j => simpa using a j, b⟩
/-- from the caller's state to the callee's arguments -/
theorem callee {ms : List (Option Nat)} {ds : List D} {vs : List V} (R : Rel X.K F H ρ σ) (ar : ArgRel X.K F σ ms ds vs) (oa : ownAll ms ρ) (nd : ndp ms = true) : Rel X.K F H (mkSl ms ds ρ) (vs.map some) ∧ ∀ a, Own (mkSl ms ds ρ) (vs.map some) a → ∃ (j i : Nat) (m : MO), ms[j]? = some (some i) ∧ ρ[i]? = some (Sl.own m) ∧ σ[i]? = some (some (V.ref a)) ∧ (vs.map some)[j]? = some (some (V.ref a)) := by
  have own : ∀ (j : Nat) (m : MO), (mkSl ms ds ρ)[j]? = some (Sl.own m) → ∃ i v, ms[j]? = some (some i) ∧ ρ[i]? = some (Sl.own m) ∧ vs[j]? = some v ∧ σ[i]? = some (some v) := fun j m e => by
    rcases ar.at e with ⟨d, v, z, _⟩ | ⟨i, v, a1, a2, a3, a4⟩
    · cases z
    · exact ⟨i, v, a1, gt_some a2.symm (by intro z; cases z), a3, a4⟩
  have up : ∀ {j : Nat} {v : V}, vs[j]? = some v → (vs.map some)[j]? = some (some v) := fun {j v} h => by rw [List.getElem?_map, h]; rfl
  refine ⟨⟨R.le, by rw [List.length_map, (ar.lens (ρ := ρ)).1, (ar.lens (ρ := ρ)).2], fun j d e => ?_, fun j m e => ?_, fun j k m n a e1 e2 t1 t2 => ?_⟩, fun a ⟨j, m, e, t⟩ => ?_⟩
  · rcases ar.at e with ⟨d', v, z, _, hv, r⟩ | ⟨i, v, a1, a2, a3, a4⟩
    · cases z; exact ⟨v, up hv, r⟩
    · obtain ⟨m, hm⟩ := ownAll_at oa a1
      rw [hm] at a2; cases a2
  · obtain ⟨i, v, a1, a2, a3, a4⟩ := own j m e
    obtain ⟨a, t, n, o⟩ := R.owns i m a2
    rw [a4] at t; cases t
    exact ⟨a, up a3, n, o⟩
  · obtain ⟨i, v, a1, a2, a3, a4⟩ := own j m e1
    obtain ⟨i', v', b1, b2, b3, b4⟩ := own k n e2
    rw [up a3] at t1
    rw [up b3] at t2
    have q := R.apart i i' m n a a2 b2 (a4.trans t1) (b4.trans t2)
    subst q
    exact ndp_at nd a1 b1
  · obtain ⟨i, v, a1, a2, a3, a4⟩ := own j m e
    rw [up a3] at t
    exact ⟨j, i, m, a1, a2, a4.trans t, by rw [up a3]; exact t⟩
/-- .. and back -/
theorem called {ms : List (Option Nat)} {ds : List D} {vs : List V} {sl' : List Sl} (R : Rel X.K F H ρ σ) (ar : ArgRel X.K F σ ms ds vs) (oa : ownAll ms ρ) (nd : ndp ms = true) (af : After X.K F H (mkSl ms ds ρ) vs F' H' sl') :
    Est B F H ρ F' H' (wb ms sl' ρ) σ ∧ Rel X.K F' H' (wb ms sl' ρ) σ := by
  obtain ⟨R0, ow⟩ := callee R ar oa nd
  have ow' : ∀ a, Own (mkSl ms ds ρ) (vs.map some) a → Own ρ σ a := fun a h => by
    obtain ⟨j, i, m, _, h1, h2, _⟩ := ow a h
    exact ⟨i, m, h1, h2⟩
  have hl : sl'.length = ms.length := by
    rw [af.rel.len, List.length_map, (ar.lens (ρ := ρ)).1]
  have inn : ∀ (j i : Nat), ms[j]? = some (some i) → ∃ m p m', ρ[i]? = some (Sl.own m) ∧ σ[i]? = some (some (V.ref p)) ∧ (vs.map some)[j]? = some (some (V.ref p)) ∧ sl'[j]? = some (Sl.own m') := fun j i h => by
    obtain ⟨m, hm⟩ := ownAll_at oa h
    have hm' := gt_some hm (by intro z; cases z)
    have hj : j < (mkSl ms ds ρ).length := by rw [(ar.lens (ρ := ρ)).2]; exact (List.getElem?_eq_some_iff.mp h).1
    obtain ⟨s, hs⟩ : ∃ s, (mkSl ms ds ρ)[j]? = some s := ⟨_, List.getElem?_eq_getElem hj⟩
    rcases ar.at hs with ⟨d, v, _, z, _⟩ | ⟨i', v, a1, a2, a3, a4⟩
    · rw [h] at z; cases z
    · rw [h] at a1; cases a1
      rw [hm] at a2; subst a2
      obtain ⟨p, t, _, _⟩ := R.owns i m hm'
      rw [a4] at t; cases t
      obtain ⟨m', hm2⟩ := af.sub j m hs
      exact ⟨m, p, m', hm', a4, by rw [List.getElem?_map, a3]; rfl, hm2⟩
  have pat : ∀ (i : Nat) (m' : MO), (wb ms sl' ρ)[i]? = some (Sl.own m') → ∃ m, ρ[i]? = some (Sl.own m) := fun i m' q => by
    rcases wb_get hl q with ⟨j, a, b⟩ | ⟨a, b⟩
    · obtain ⟨m, p, m2, h1, _⟩ := inn j i a
      exact ⟨m, h1⟩
    · exact ⟨m', b⟩
  have out : ∀ (i : Nat) (m : MO) (p : Addr), (∀ j : Nat, ms[j]? ≠ some (some i)) → ρ[i]? = some (Sl.own m) → σ[i]? = some (some (V.ref p)) → ¬ Own (mkSl ms ds ρ) (vs.map some) p := fun i m p hi h1 h2 ho => by
    obtain ⟨j, i', m', b1, b2, b3, _⟩ := ow p ho
    exact hi j (R.apart i i' m m' p h1 b2 h2 b3 ▸ b1)
  refine ⟨⟨⟨af.fle, fun a o h n => af.keep a o h fun z => n (ow' a z), af.there, fun a o h n => (af.new a o h n).imp id (ow' a), fun a ⟨i, m', q, t⟩ => ?_, fun i hi => ⟨rfl, fun m q => ?_⟩⟩, pat⟩, af.rel.le, by rw [wb_length]; exact R.len, fun i d q => ?_, fun i m' q => ?_, fun i k m n a q1 q2 t1 t2 => ?_⟩
  · obtain ⟨m, h⟩ := pat i m' q
    exact .inl ⟨i, m, h, t⟩
  · have hi' : i < (wb ms sl' ρ).length := by rw [wb_length]; exact (List.getElem?_eq_some_iff.mp q).1
    obtain ⟨s, hs⟩ : ∃ s, (wb ms sl' ρ)[i]? = some s := ⟨_, List.getElem?_eq_getElem hi'⟩
    rcases wb_get hl hs with ⟨j, a, b⟩ | ⟨a, b⟩
    · obtain ⟨_, _, m2, _, _, _, h4⟩ := inn j i a
      rw [b] at h4
      exact ⟨m2, by rw [hs]; exact h4⟩
    · exact ⟨m, by rw [hs, ← b, q]⟩
  · rcases wb_get hl q with ⟨j, a, b⟩ | ⟨a, b⟩
    · obtain ⟨_, _, m2, _, _, _, h4⟩ := inn j i a
      rw [b] at h4; cases h4
    · obtain ⟨v, t, r⟩ := R.vals i d b
      exact ⟨v, t, r.mono af.fle⟩
  · rcases wb_get hl q with ⟨j, a, b⟩ | ⟨a, b⟩
    · obtain ⟨m, p, m2, h1, h2, h3, h4⟩ := inn j i a
      obtain ⟨p', t, n, o⟩ := af.rel.owns j m' b
      rw [h3] at t; cases t
      exact ⟨p, h2, n, o⟩
    · obtain ⟨p, t, n, o⟩ := R.owns i m' b
      have no := out i m' p a b t
      refine ⟨p, t, ?_, o.mono af.fle fun u z => af.keep p u z no⟩
      cases z : F' p with
      | none => rfl
      | some u =>
        rcases af.new p u z n with y | y
        · obtain ⟨u', hu⟩ := o.here
          rw [y] at hu; cases hu
        · exact (no y).elim
  · rcases wb_get hl q1 with ⟨j, c1, c2⟩ | ⟨c1, c2⟩
    · obtain ⟨m1, p, m2, h1, h2, h3, h4⟩ := inn j i c1
      obtain ⟨mk, hk⟩ := pat k n q2
      exact R.apart i k m1 mk a h1 hk t1 t2
    · obtain ⟨mk, hk⟩ := pat k n q2
      exact R.apart i k m mk a c2 hk t1 t2
abbrev AsTr := List Sl → (List D → List Sl → Prop) → QE → Prop
/-- the arguments of a call; ms says which are slots that own -/
def DAs (X : Cx) (W : WX) (B : List Nat) (es : List Expr) (ms : List (Option Nat)) (t : AsTr) : Prop := ∃ te, PA X es te ∧ ∀ (F H : Hp) (ρ : List Sl) (σ : L2.St) (Q : List D → List Sl → Prop) (E : QE) (Q' : List V → Hp → Prop), Rel X.K F H ρ σ → Exk X W B F H ρ σ E → ownAll ms ρ → t ρ Q E →
  (∀ (ds : List D) (ρ' : List Sl) (vs : List V) (F' H' : Hp), Est B F H ρ F' H' ρ' σ → Rel X.K F' H' ρ' σ → ArgRel X.K F' σ ms ds vs → Q ds ρ' → Q' vs H') → te σ H Q'
theorem das_nil : DAs X W B [] [] (fun ρ Q _ => Q [] ρ) := ⟨_, pa_nil, fun F H ρ σ Q E Q' R ex _ h kk => kk [] ρ [] F H Est.refl R trivial h⟩
theorem das_val {ms : List (Option Nat)} {t : ETr} {u : AsTr} (ha : DE X W B e t) (hr : DAs X W B es ms u) (hs : starEach (e :: es) X.env = (false, eval e X.env) :: starEach es X.env := by rfl) :
    DAs X W B (e :: es) (none :: ms) (fun ρ Q E => t ρ (fun d ρ1 => ownAll ms ρ1 ∧ u ρ1 (fun ds ρ2 => Q (d :: ds) ρ2) E) E) := by
  obtain ⟨ta, p1, r1⟩ := ha
  obtain ⟨tb, p2, r2⟩ := hr
  refine ⟨_, pa_cons p1 p2 hs, fun F H ρ σ Q E Q' R ex oa h kk => r1 F H ρ σ _ E _ R ex h fun d ρ1 v F1 H1 s1 R1 rv ⟨oa1, q1⟩ => r2 F1 H1 ρ1 σ _ E _ R1 (ex.step s1.st) oa1 q1 fun ds ρ2 vs F2 H2 s2 R2 ar q2 => ?_⟩
  exact kk (d :: ds) ρ2 (v :: vs) F2 H2 (s1.trans s2) R2 ⟨rv.mono s2.st.fle, ar⟩ q2
theorem das_own (i : Nat) {x : Str} {pos' : Pos} {ms : List (Option Nat)} {u : AsTr} (hr : DAs X W B es ms u) (hN : X.N[i]? = some x := by rfl) (hv : Vis X.env.scope x := by first | exact Or.inl rfl | exact Or.inr (Or.inl rfl) | exact Or.inr (Or.inr rfl)) (hd : (x == ("__debug__" : Str)) = false := by decide)
    (hcd : (x == ("__classdict__" : Str)) = false := by decide) (hs : starEach (.Name x pos' :: es) X.env = (false, eval (.Name x pos') X.env) :: starEach es X.env := by rfl) :
    DAs X W B (.Name x pos' :: es) (some i :: ms) u := by
  obtain ⟨tb, p2, r2⟩ := hr
  refine ⟨_, pa_cons (pe_var hN hv hd hcd) p2 hs, fun F H ρ σ Q E Q' R ex oa h kk => ?_⟩
  obtain ⟨m, hm⟩ := ownAll_at (ms := some i :: ms) (i := i) (j := 0) oa (by simp)
  obtain ⟨p, s, _, _⟩ := slot_ref R hm
  exact ⟨.ref p, s, r2 F H ρ σ Q E _ R ex oa.2 h fun ds ρ2 vs F2 H2 s2 R2 ar q2 => kk ds ρ2 (.ref p :: vs) F2 H2 s2 R2 ⟨s, ar⟩ q2⟩
section
variable {k n : Nat} {f : Addr} {fd : FuncData} {ps : List Str} {x : Str} {p : Pos} {T : DSp} {ms : List (Option Nat)} {u : AsTr}
theorem spec_call {ds : List D} {vs : List V} {Q' : VK} {Q : Sl → List Sl → Prop} {E : QE} (R : Rel X.K F H ρ σ) (ex : Exk X W B F H ρ σ E) (ar : ArgRel X.K F σ ms ds vs) (oa : ownAll ms ρ) (nd : ndp ms = true) (hn : ms.length = n)
    (h : T (mkSl ms ds ρ) (fun r sl' => Q r (wb ms sl' ρ)) (fun x sl' => E x (wb ms sl' ρ)))
    (k : ∀ (r : Sl) (ρ' : List Sl) (v : V) (F' H' : Hp), Est B F H ρ F' H' ρ' σ → Rel X.K F' H' ρ' σ → ResAt X.K H F' H' r v → Q r ρ' → Q' v H') : spG X.K n T vs H Q' (fun cls d H' => W cls d σ H') := by
  refine ⟨by rw [(ar.lens (ρ := ρ)).1, hn], F, mkSl ms ds ρ, _, _, (callee R ar oa nd).1, h, fun r sl' v F' H' q af ra => ?_, fun x sl' cls dd F' H' q af ea => ?_⟩
  · obtain ⟨s, R'⟩ := called (B := B) R ar oa nd af
    exact k r _ v F' H' s R' ra q
  · obtain ⟨s, R'⟩ := called (B := B) R ar oa nd af
    exact ex x _ σ F' H' cls dd s.st R' ea q
/-- f(e, ..): the general form, by what is wanted of its answer -/
theorem call_any (G : FnOk X.prog X.w X.K X.mg X.base (L2.CX X.prog X.w) k f fd ps (spG X.K n T)) (hr : Room k X.A) (ok : Cok X W) (hm : X.mg x = some (.ref f)) (hk : PySem.W.keepIn X.K (.ref f) = true) (hb : Binds X.K fd ps []) (ha : DAs X W B (e :: es) ms u) (nd : ndp ms = true) (hn : ms.length = n)
    (hg : Gl X x) (hdb : (x == ("__debug__" : Str)) = false) (he : starEach (e :: es) X.env = (false, eval e X.env) :: starEach es X.env) (hpl : (backTo pos (starEach es X.env)).any (·.1) = false) :
    ∃ te, PE X (.Call (.Name x p) (e :: es) [] pos) te ∧ ∀ (F H : Hp) (ρ : List Sl) (σ : L2.St) (Q : Sl → List Sl → Prop) (E : QE) (Q' : VK), Rel X.K F H ρ σ → Exk X W B F H ρ σ E → ownAll ms ρ ∧ u ρ (fun ds ρ1 => ownAll ms ρ1 ∧ T (mkSl ms ds ρ1) (fun r sl' => Q r (wb ms sl' ρ1)) (fun y sl' => E y (wb ms sl' ρ1))) E →
      (∀ (r : Sl) (ρ' : List Sl) (v : V) (F1 H1 F' H' : Hp), Est B F H ρ F' H' ρ' σ → Rel X.K F' H' ρ' σ → (H1 = H1 ∧ ∀ p, H1 p = none → H p = none) → (∀ (i : Nat) (m' : MO) (a : Addr), ρ'[i]? = some (Sl.own m') → σ[i]? = some (some (V.ref a)) → ∃ o, H1 a = some o) → ResAt X.K H1 F' H' r v → Q r ρ' → Q' v H') → te σ H Q' := by
  obtain ⟨ta, p1, r1⟩ := ha
  refine ⟨_, pe_callS G hr hg hm hk hb (fun σ => passAt ok.tk σ) p1 hdb he hpl, fun F H ρ σ Q E Q' R ex ⟨oa, h⟩ kk => r1 F H ρ σ _ E _ R ex oa h fun ds ρ1 vs F1 H1 s1 R1 ar ⟨oa1, q1⟩ => ?_⟩
  exact spec_call (B := B) R1 (ex.step s1.st) ar oa1 nd hn q1 fun r ρ' v F' H' s2 R2 ra q => kk r ρ' v F1 H1 F' H' (s1.trans s2) R2 ⟨rfl, fun p hp => s1.st.fresh hp⟩ (fun i m' a h1 h2 => by
    obtain ⟨m, h3⟩ := s2.pat i m' h1
    obtain ⟨a', t, _, o⟩ := R1.owns i m h3
    rw [h2] at t; cases t
    exact o.here) ra q
theorem de_call (G : FnOk X.prog X.w X.K X.mg X.base (L2.CX X.prog X.w) k f fd ps (spG X.K n T)) (hr : Room k X.A) (ok : Cok X W) (hm : X.mg x = some (.ref f)) (hk : PySem.W.keepIn X.K (.ref f) = true) (hb : Binds X.K fd ps []) (ha : DAs X W B (e :: es) ms u) (nd : ndp ms = true := by rfl) (hn : ms.length = n := by rfl)
    (hg : Gl X x := by rfl) (hdb : (x == ("__debug__" : Str)) = false := by decide) (he : starEach (e :: es) X.env = (false, eval e X.env) :: starEach es X.env := by rfl) (hpl : (backTo pos (starEach es X.env)).any (·.1) = false := by rfl) :
    DE X W B (.Call (.Name x p) (e :: es) [] pos) (fun ρ Q E => ownAll ms ρ ∧ u ρ (fun ds ρ1 => ownAll ms ρ1 ∧ T (mkSl ms ds ρ1) (fun r sl' => onVal r fun d => Q d (wb ms sl' ρ1)) (fun y sl' => E y (wb ms sl' ρ1))) E) := by
  obtain ⟨te, pe, run⟩ := call_any (p := p) (pos := pos) G hr ok hm hk hb ha nd hn hg hdb he hpl
  refine ⟨te, pe, fun F H ρ σ Q E Q' R ex h kk => run F H ρ σ (fun r ρ' => onVal r fun d => Q d ρ') E Q' R ex h fun r ρ' v F1 H1 F' H' s R' _ _ ra q => ?_⟩
  obtain ⟨d, rfl, q⟩ := onVal_inv q
  exact kk d ρ' v F' H' s R' ra q
theorem dn_call (G : FnOk X.prog X.w X.K X.mg X.base (L2.CX X.prog X.w) k f fd ps (spG X.K n T)) (hr : Room k X.A) (ok : Cok X W) (hm : X.mg x = some (.ref f)) (hk : PySem.W.keepIn X.K (.ref f) = true) (hb : Binds X.K fd ps []) (ha : DAs X W B (e :: es) ms u) (nd : ndp ms = true := by rfl) (hn : ms.length = n := by rfl)
    (hg : Gl X x := by rfl) (hdb : (x == ("__debug__" : Str)) = false := by decide) (he : starEach (e :: es) X.env = (false, eval e X.env) :: starEach es X.env := by rfl) (hpl : (backTo pos (starEach es X.env)).any (·.1) = false := by rfl) :
    DN X W B (.Call (.Name x p) (e :: es) [] pos) (fun ρ Q E => ownAll ms ρ ∧ u ρ (fun ds ρ1 => ownAll ms ρ1 ∧ T (mkSl ms ds ρ1) (fun r sl' => onOwn r fun d => Q d (wb ms sl' ρ1)) (fun y sl' => E y (wb ms sl' ρ1))) E) := by
  obtain ⟨te, pe, run⟩ := call_any (p := p) (pos := pos) G hr ok hm hk hb ha nd hn hg hdb he hpl
  refine ⟨te, pe, fun F H ρ σ Q E Q' R ex h kk => run F H ρ σ (fun r ρ' => onOwn r fun d => Q d ρ') E Q' R ex h fun r ρ' v F1 H1 F' H' s R' hf ho ra q => ?_⟩
  obtain ⟨m, rfl, q⟩ := onOwn_inv q
  obtain ⟨p, rfl, hp, n, o⟩ := ra
  exact kk m ρ' p F' H' s R' (hf.2 p hp) n o (fun i m' h1 h2 => by
    obtain ⟨o, ho⟩ := ho i m' p h1 h2
    rw [hp] at ho; cases ho) q
end

/-! ### the rule for a def -/
def startD (N : List Str) (sl : List Sl) : List Sl := sl ++ List.replicate (N.length - sl.length) .un
/-- the arguments behind the call: those that own are as the body left them -/
def mrg : List Nat → List Sl → List Sl → List Sl
  | [], sl, _ => sl
  | i :: B, sl, ρ => (mrg B sl ρ).set i (gt ρ i)
theorem mrg_length : ∀ (B : List Nat) (sl : List Sl), (mrg B sl ρ).length = sl.length
  | [], _ => rfl
  | i :: B, sl => by unfold mrg; rw [List.length_set, mrg_length B sl]
theorem mrg_out : ∀ {B : List Nat} {sl : List Sl} {i : Nat}, i ∉ B → (mrg B sl ρ)[i]? = sl[i]?
  | [], _, _, _ => rfl
  | b :: B, sl, i, h => by
    unfold mrg
    rw [List.getElem?_set_ne fun z => h (by simp [z])]
    exact mrg_out fun z => h (List.mem_cons_of_mem _ z)
theorem mrg_in : ∀ {B : List Nat} {sl : List Sl} {i : Nat} {s : Sl}, i ∈ B → (mrg B sl ρ)[i]? = some s → s = gt ρ i
  | b :: B, sl, i, s, h, q => by
    unfold mrg at q
    rcases get_set q with ⟨z1, z2⟩ | ⟨z1, z2⟩
    · rw [z2, z1]
    · exact mrg_in ((List.mem_cons.mp h).resolve_left z1) z2
def endsD (B : List Nat) (sl : List Sl) (Q : Sl → List Sl → Prop) (E : QE) : DEnds where
  nx := fun ρ => Q (.val .non) (mrg B sl ρ)
  rt := fun r ρ => Q r (mrg B sl ρ)
  bk := fun _ => False
  ct := fun _ => False
  ex := fun x ρ => E x (mrg B sl ρ)
theorem start_get {N : List Str} {sl : List Sl} {i : Nat} {s : Sl} (h : (startD N sl)[i]? = some s) (n : s ≠ .un) : sl[i]? = some s := by
  unfold startD at h
  by_cases q : i < sl.length
  · rw [List.getElem?_append_left q] at h; exact h
  · rw [List.getElem?_append_right (by omega)] at h
    have := List.mem_of_getElem? h
    exact absurd (List.mem_replicate.mp this).2 n
theorem start_in {N : List Str} {sl : List Sl} {i : Nat} {s : Sl} (h : sl[i]? = some s) : (startD N sl)[i]? = some s := by
  unfold startD
  rw [List.getElem?_append_left (List.getElem?_eq_some_iff.mp h).1]; exact h
theorem startV {N : List Str} {vs : List V} {i : Nat} (h : i < vs.length) : (L2.start N vs)[i]? = (vs.map some)[i]? := by
  unfold L2.start
  rw [List.getElem?_append_left (by simpa using h)]
/-- from the body's end to the caller -/
theorem def_after {K : PySem.W.Frag} {N : List Str} {sl : List Sl} {vs : List V} (hN : vs.length ≤ N.length) (R : Rel K F H sl (vs.map some)) (hB1 : ∀ (i : Nat) (m : MO), sl[i]? = some (Sl.own m) → i ∈ B) (hB2 : ∀ i ∈ B, ∃ m : MO, sl[i]? = some (Sl.own m))
    (s : Stp B F H (startD N sl) (L2.start N vs) F' H' ρ' σ') (R' : Rel K F' H' ρ' σ') : After K F H sl vs F' H' (mrg B sl ρ') := by
  have hl : sl.length = vs.length := by have := R.len; rw [List.length_map] at this; exact this
  have st : ∀ (i : Nat) (m : MO), sl[i]? = some (Sl.own m) → (L2.start N vs)[i]? = (vs.map some)[i]? := fun i m h => startV (by rw [← hl]; exact (List.getElem?_eq_some_iff.mp h).1)
  have ow : ∀ a, Own (startD N sl) (L2.start N vs) a → Own sl (vs.map some) a := fun a ⟨i, m, q, t⟩ => by
    have q' := start_get q (by intro z; cases z)
    rw [st i m q'] at t
    exact ⟨i, m, q', t⟩
  have bin : ∀ i ∈ B, ∃ m' a, ρ'[i]? = some (Sl.own m') ∧ σ'[i]? = some (some (V.ref a)) ∧ (vs.map some)[i]? = some (some (V.ref a)) := fun i hi => by
    obtain ⟨m, hm⟩ := hB2 i hi
    obtain ⟨m', hm'⟩ := (s.bor i hi).2 m (start_in hm)
    obtain ⟨a, t, _, _⟩ := R'.owns i m' hm'
    exact ⟨m', a, hm', t, by rw [← st i m hm, ← (s.bor i hi).1]; exact t⟩
  have cas : ∀ (i : Nat) (x : Sl), (mrg B sl ρ')[i]? = some x → (i ∈ B ∧ ρ'[i]? = some x) ∨ (i ∉ B ∧ sl[i]? = some x) := fun i x h => by
    by_cases hi : i ∈ B
    · obtain ⟨m', a, h1, _⟩ := bin i hi
      have z := mrg_in hi h
      rw [gt_get h1] at z
      exact .inl ⟨hi, by rw [z]; exact h1⟩
    · rw [mrg_out hi] at h
      exact .inr ⟨hi, h⟩
  have own2 : ∀ (i : Nat) (m : MO), (mrg B sl ρ')[i]? = some (Sl.own m) → ρ'[i]? = some (Sl.own m) ∧ σ'[i]? = (vs.map some)[i]? ∧ ∃ m0, sl[i]? = some (Sl.own m0) := fun i m h => by
    rcases cas i _ h with ⟨hi, h⟩ | ⟨hi, h⟩
    · obtain ⟨m', a, h1, h2, h3⟩ := bin i hi
      exact ⟨h, h2.trans h3.symm, hB2 i hi⟩
    · exact absurd (hB1 i m h) hi
  refine ⟨s.fle, fun a o h n => s.keep a o h fun z => n (ow a z), s.there, fun a o h n => (s.new a o h n).imp id (ow a), ⟨R'.le, by rw [mrg_length]; exact R.len, fun i d h => ?_, fun i m h => ?_, fun i j m n a q1 q2 t1 t2 => ?_⟩, fun i m h => ?_, fun i m h => (own2 i m h).2.2⟩
  · rcases cas i _ h with ⟨hi, h⟩ | ⟨hi, h⟩
    · obtain ⟨m', a, h1, _⟩ := bin i hi
      rw [h] at h1; cases h1
    · obtain ⟨v, t, r⟩ := R.vals i d h
      exact ⟨v, t, r.mono s.fle⟩
  · obtain ⟨h1, h2, _⟩ := own2 i m h
    obtain ⟨a, t, n, o⟩ := R'.owns i m h1
    exact ⟨a, by rw [← h2]; exact t, n, o⟩
  · obtain ⟨h1, h2, _⟩ := own2 i m q1
    obtain ⟨g1, g2, _⟩ := own2 j n q2
    rw [← h2] at t1
    rw [← g2] at t2
    exact R'.apart i j m n a h1 g1 t1 t2
  · have hi := hB1 i m h
    obtain ⟨m', a, h1, _⟩ := bin i hi
    have hlt : i < (mrg B sl ρ').length := by rw [mrg_length]; exact (List.getElem?_eq_some_iff.mp h).1
    obtain ⟨x, hx⟩ : ∃ x, (mrg B sl ρ')[i]? = some x := ⟨_, List.getElem?_eq_getElem hlt⟩
    have z := mrg_in hi hx
    rw [gt_get h1] at z
    exact ⟨m', by rw [hx, z]⟩
theorem start_rel {K : PySem.W.Frag} {N : List Str} {sl : List Sl} {vs : List V} (hN : vs.length ≤ N.length) (R : Rel K F H sl (vs.map some)) : Rel K F H (startD N sl) (L2.start N vs) := by
  have hl : sl.length = vs.length := by have := R.len; rw [List.length_map] at this; exact this
  have st : ∀ (i : Nat) (x : Sl), sl[i]? = some x → (L2.start N vs)[i]? = (vs.map some)[i]? := fun i m h => startV (by rw [← hl]; exact (List.getElem?_eq_some_iff.mp h).1)
  refine ⟨R.le, by unfold startD L2.start; simp [hl], fun i d h => ?_, fun i m h => ?_, fun i j m n a q1 q2 t1 t2 => ?_⟩
  · have h := start_get h (by intro z; cases z)
    rw [st i _ h]; exact R.vals i d h
  · have h := start_get h (by intro z; cases z)
    rw [st i _ h]; exact R.owns i m h
  · have q1 := start_get q1 (by intro z; cases z)
    have q2 := start_get q2 (by intro z; cases z)
    rw [st i _ q1] at t1
    rw [st j _ q2] at t2
    exact R.apart i j m n a q1 q2 t1 t2
/-- the wish about exceptions in a def's body -/
abbrev WD (E : XK) : WX := fun cls d _ H => E cls d H
theorem def_ok {P : Program} {w : World} {K : PySem.W.Frag} {mg : Str → Option Value} {base : Heap} {x qual : Str} {params : Arguments} {body : List Stmt} {scope : Scope} {dvs : List V} {kws : List (Str × V)} {f : Addr} {fd : FuncData} {N ps : List Str} {k : Nat} {T : DSp}
    (Fn : FunD K x qual params body scope dvs kws f fd) (S : FnScope N ps scope) (hT : ∀ sl Q E, T sl Q E → (∀ (i : Nat) (m : MO), sl[i]? = some (Sl.own m) → i ∈ B) ∧ ∀ i ∈ B, ∃ m : MO, sl[i]? = some (Sl.own m))
    (hbody : ∀ (cdv : Value) (A : Around) (outer : List Env) (s : Shared) (H : Hp) (E : XK), Room k (A.deeper (envOfC qual scope s.heap.objs.size f cdv)) → Cok (cxOf (L2.CX P w) P w K mg base N qual scope f cdv A outer s H E) (WD E) →
      ∃ t, DSs (cxOf (L2.CX P w) P w K mg base N qual scope f cdv A outer s H E) (WD E) B body t ∧ ∀ sl Q E', T sl Q E' → t (endsD B sl Q E') (startD N sl)) :
    FnOk P w K mg base (L2.CX P w) (k + 1) f fd ps (spG K ps.length T) := by
  refine Fn.ok S (fun vs H Q E h => h.1) (fun cdv A outer s H vs Q E hr h => ?_)
  obtain ⟨hl, F, sl, QD, ED, R, hT0, hq, he⟩ := h
  obtain ⟨hB1, hB2⟩ := hT sl QD ED hT0
  have hN : vs.length ≤ N.length := by
    have := congrArg List.length S.pre
    rw [List.length_take] at this
    omega
  obtain ⟨t, ⟨ts, ps', run⟩, ht⟩ := hbody cdv A outer s H E hr ⟨takes_of rfl rfl rfl rfl, rfl, passes_of rfl, S.nd, by have := hr.un; show (A.deeper _).units + 64 < cLine; omega⟩
  refine ⟨ts, ps', run F H (startD N sl) (L2.start N vs) (endsD B sl QD ED) _ (start_rel hN R) ⟨fun ρ' σ' F' H' s' R' q => ?_, fun _ _ _ _ _ _ q => q.elim, fun _ _ _ _ _ _ q => q.elim, fun r ρ' σ' v F' H' s' R' ra q => ?_, fun x ρ' σ' F' H' cls dd s' R' ea q => ?_⟩ (ht sl QD ED hT0)⟩
  · exact hq _ _ .non F' H' q (def_after hN R hB1 hB2 s' R') (show Rep K F' .non .non from rep_non)
  · refine hq r _ v F' H' q (def_after hN R hB1 hB2 s' R') ?_
    cases r with
    | un => exact ra
    | val d => exact ra
    | own m =>
      obtain ⟨p, e, n, o, z, nb⟩ := ra
      refine ⟨p, e, ?_, n, o⟩
      rcases z with z | ⟨i, m0, q1, q2⟩
      · exact z
      · have q1' := start_get q1 (by intro z; cases z)
        have hi := hB1 i m0 q1'
        obtain ⟨m1, hm1⟩ := (s'.bor i hi).2 m0 q1
        exact (nb i hi m1 hm1 (by rw [(s'.bor i hi).1]; exact q2)).elim
  · exact he x _ cls dd F' H' q (def_after hN R hB1 hB2 s' R') ea
end
end DL

namespace DL
open PySem L2 PySem.Spec PyProof.Rows
section
variable {X : Cx} {W : WX} {B : List Nat} {F F' F'' H H' H'' : Hp} {ρ ρ' ρ'' : List Sl} {σ σ' σ'' : L2.St} {e a b c tg : Expr} {es : List Expr} {st : Stmt} {sts : List Stmt} {pos : Pos}
/-! ### instances -/
/-- a field of an instance is set -/
def putL (f : Str) (d : D) : List Str → List D → (List Str → List D → Prop) → Prop
  | n :: ns, e :: ds, k => if n = f then k (n :: ns) (d :: ds) else putL f d ns ds fun ns' ds' => k (n :: ns') (e :: ds')
  | [], [], k => k [f] [d]
  | _, _, _ => False
theorem putL_ok {K : PySem.W.Frag} {f : Str} {d : D} {v : V} (rd : Rep K F d v) : ∀ {gs : List (Str × V)} {ns : List Str} {ds : List D} {k : List Str → List D → Prop}, gs.map (·.1) = ns → Reps K F ds (gs.map (·.2)) → putL f d ns ds k →
    ∃ ns' ds', (putF f v gs).map (·.1) = ns' ∧ Reps K F ds' ((putF f v gs).map (·.2)) ∧ k ns' ds'
  | [], ns, ds, k, e, r, h => by
    cases e
    cases ds with
    | nil => exact ⟨[f], [d], rfl, .cons rd .nil, h⟩
    | cons _ _ => exact h.elim
  | (n, u) :: gs, ns, ds, k, e, r, h => by
    subst e
    cases ds with
    | nil => exact h.elim
    | cons e0 ds =>
      obtain ⟨v0, rr, e2, r0, r1⟩ := r.cons_inv
      simp only [List.map_cons, List.cons.injEq] at e2
      obtain ⟨e3, e4⟩ := e2
      simp only [List.map_cons, putL] at h
      by_cases q : n = f
      · rw [if_pos q] at h
        refine ⟨_, _, ?_, ?_, h⟩
        · unfold putF; rw [if_pos q]; rfl
        · unfold putF; rw [if_pos q]
          exact .cons rd (by rw [e4]; exact r1)
      · rw [if_neg q] at h
        obtain ⟨ns', ds', h1, h2, h3⟩ := putL_ok rd (gs := gs) rfl (by rw [e4]; exact r1) h
        refine ⟨_, _, ?_, ?_, h3⟩
        · unfold putF; rw [if_neg q, List.map_cons, h1]
        · unfold putF; rw [if_neg q, List.map_cons]
          exact .cons (by rw [show u = v0 from e3]; exact r0) h2
def onIns : Sl → (Addr → List Str → List D → Prop) → Prop
  | .own (.ins C ns ds), k => k C ns ds
  | _, _ => False
theorem onIns_inv {s : Sl} {k : Addr → List Str → List D → Prop} (h : onIns s k) : ∃ C ns ds, s = .own (.ins C ns ds) ∧ k C ns ds := by
  unfold onIns at h
  split at h
  · exact ⟨_, _, _, rfl, h⟩
  · exact h.elim
/-- self.f = e -/
theorem ds_fld (K : PySem.W.Frag) (i : Nat) {f : Str} {t : ETr} {x : Str} {pos' pos2 : Pos} (he : DE X W B e t) (hK : X.K = K := by rfl) (hN : X.N[i]? = some x := by rfl) (hv : Vis X.env.scope x := by first | exact Or.inl rfl | exact Or.inr (Or.inl rfl) | exact Or.inr (Or.inr rfl)) (hd : (x == ("__debug__" : Str)) = false := by decide)
    (hcd : (x == ("__classdict__" : Str)) = false := by decide) (hs : swapsWith e (some (.Attribute (.Name x pos') f pos2)) pos.line X.env = pure false := by rfl) :
    DS X W B (.Assign [.Attribute (.Name x pos') f pos2] e pos) (fun D ρ => t ρ (fun d ρ1 => onIns (gt ρ1 i) fun C ns ds => (FldOk K C f ∧ ns.length < 1000) ∧ putL f d ns ds fun ns' ds' => D.nx (ρ1.set i (.own (.ins C ns' ds')))) D.ex) := by
  subst hK
  obtain ⟨te, pe, run⟩ := he
  refine ⟨_, L2.ps_fld (pe_var hN hv hd hcd) pe hs, fun F H ρ σ D' D R ER h => run F H ρ σ _ D'.ex _ R ER.ex h fun d ρ1 v F1 H1 s1 R1 r1 q => ?_⟩
  obtain ⟨C, ns, ds, e0, ⟨fo, hl⟩, q⟩ := onIns_inv q
  obtain ⟨p, s, n, dx, gs, hp, hn, rs⟩ := slot_ref R1 e0
  obtain ⟨ns', ds', h1, h2, h3⟩ := putL_ok r1 hn rs q
  refine ⟨.ref p, s, p, C, dx, gs, rfl, hp, fo.cl, fo.na, by rw [← hn, List.length_map] at hl; exact hl, ?_⟩
  obtain ⟨s2, R2⟩ := own_upd (B := B) (o := .ins C dx (putF f v gs)) (m' := .ins C ns' ds') R1 e0 s ⟨dx, _, upd_same, h1, h2⟩
  exact ER.nx _ σ _ _ (s1.st.trans s2.st) R2 h3
/-- self.f, self an instance that the slot owns -/
theorem de_fldO (K : PySem.W.Frag) (i : Nat) {f : Str} {x : Str} {pos' : Pos} (hK : X.K = K := by rfl) (hN : X.N[i]? = some x := by rfl) (hv : Vis X.env.scope x := by first | exact Or.inl rfl | exact Or.inr (Or.inl rfl) | exact Or.inr (Or.inr rfl)) (hd : (x == ("__debug__" : Str)) = false := by decide)
    (hcd : (x == ("__classdict__" : Str)) = false := by decide) (hb : attributeBase (.Name x pos') f X.env (eval (.Name x pos') X.env) = eval (.Name x pos') X.env := by rfl) :
    DE X W B (.Attribute (.Name x pos') f pos) (fun ρ Q E => onIns (gt ρ i) fun C ns ds => FldOk K C f ∧ onSome (lk f ns ds) fun d => Q d ρ) := by
  subst hK
  refine ⟨_, pe_fld (pe_var hN hv hd hcd) hb, fun F H ρ σ Q E Q' R ex h kk => ?_⟩
  obtain ⟨C, ns, ds, e0, fo, h⟩ := onIns_inv h
  obtain ⟨d, hd, h⟩ := onSome_inv h
  obtain ⟨p, s, n, dx, gs, hp, hn, rs⟩ := slot_ref R e0
  obtain ⟨u, hu, ru⟩ := lk_ok hn rs hd
  exact ⟨.ref p, s, p, C, dx, gs, u, rfl, hp, fo.cl, fo.na, hu, kk d ρ u F H Est.refl R ru h⟩
/-- C(e, ..) -/
def onMade (r : Sl) (sl : List Sl) (k : MO → Prop) : Prop := match r, sl with
  | .val .non, .own m :: _ => k m
  | _, _ => False
theorem onMade_inv {r : Sl} {sl : List Sl} {k : MO → Prop} (h : onMade r sl k) : ∃ m sl2, r = .val .non ∧ sl = .own m :: sl2 ∧ k m := by
  unfold onMade at h
  split at h
  · exact ⟨_, _, rfl, rfl, h⟩
  · exact h.elim
theorem dn_make {k n : Nat} {C f : Addr} {fd : FuncData} {ps : List Str} {x : Str} {p : Pos} {T : DSp} {u : ATr} (M : Mk X.K C f) (G : FnOk X.prog X.w X.K X.mg X.base (L2.CX X.prog X.w) k f fd ps (spG X.K (n + 1) T)) (hr : Room (k + 1) X.A) (ok : Cok X W)
    (hm : X.mg x = some (.ref C)) (hb : Binds X.K fd ps []) (ha : DA X W B (e :: es) u) (hW : ∀ cls d σ σ' H, W cls d σ H → W cls d σ' H := by exact fun _ _ _ _ _ h => h) (hn : (e :: es).length = n := by rfl) (hg : Gl X x := by rfl) (hdb : (x == ("__debug__" : Str)) = false := by decide)
    (he : starEach (e :: es) X.env = (false, eval e X.env) :: starEach es X.env := by rfl) (hpl : (backTo pos (starEach es X.env)).any (·.1) = false := by rfl) :
    DN X W B (.Call (.Name x p) (e :: es) [] pos) (fun ρ Q E => u ρ (fun ds ρ1 => T (.own (.ins C [] []) :: ds.map Sl.val) (fun r sl' => onMade r sl' fun m => Q m ρ1) (fun y _ => E y ρ1)) E) := by
  obtain ⟨ta, p1, r1⟩ := ha
  refine ⟨_, pe_make (E := fun cls d H => ∀ σ, W cls d σ H) M G hr hg hm hb .nil (passes_call ok.tk fun cls d σ H h => h σ) p1 hdb he hpl, fun F H ρ σ Q E Q' R ex h kk => r1 F H ρ σ _ E _ R ex h fun ds ρ1 vs F1 H1 s1 R1 rs hl q => fun o dx ho hdx ne => ?_⟩
  rw [List.append_nil]
  have k1 : ∀ (a : Addr) (u : HO), H1 a = some u → (upd (upd H1 dx (.own o)) o (.ins C dx [])) a = some u := fun a u h => by
    rw [upd_ne (ne_of_none h ho), upd_ne (ne_of_none h hdx)]; exact h
  have fo : F1 o = none := R1.le.free ho
  have own : ∀ (j : Nat) (m : MO), (Sl.own (.ins C [] []) :: ds.map Sl.val)[j]? = some (Sl.own m) → j = 0 ∧ m = .ins C [] [] := fun j m h => by
    cases j with
    | zero => simp at h; exact ⟨rfl, h.symm⟩
    | succ j => simp at h
  have R2 : Rel X.K F1 (upd (upd H1 dx (.own o)) o (.ins C dx [])) (.own (.ins C [] []) :: ds.map Sl.val) ((V.ref o :: vs).map some) := by
    refine ⟨fun a u h => k1 a u (R1.le a u h), by simp [rs.length], fun j d h => ?_, fun j m h => ?_, fun i j m n a q1 q2 _ _ => by rw [(own i m q1).1, (own j n q2).1]⟩
    · cases j with
      | zero => simp at h
      | succ j =>
        simp only [List.getElem?_cons_succ, List.getElem?_map, Option.map_eq_some_iff] at h
        obtain ⟨d', hd, e⟩ := h
        cases e
        obtain ⟨v, hv, rv⟩ := rs.get hd
        exact ⟨v, by simp [hv], rv⟩
    · obtain ⟨rfl, rfl⟩ := own j m h
      exact ⟨o, by simp, fo, dx, [], upd_same, rfl, .nil⟩
  have ownA : ∀ a, Own (.own (.ins C [] []) :: ds.map Sl.val) ((V.ref o :: vs).map some) a → a = o := fun a ⟨j, m, h, t⟩ => by
    obtain ⟨rfl, _⟩ := own j m h
    simp at t; exact t.symm
  have after : ∀ (F' H' : Hp) (sl' : List Sl), After X.K F1 (upd (upd H1 dx (.own o)) o (.ins C dx [])) (.own (.ins C [] []) :: ds.map Sl.val) (V.ref o :: vs) F' H' sl' → Est B F1 H1 ρ1 F' H' ρ1 σ ∧ Rel X.K F' H' ρ1 σ := fun F' H' sl' af => by
    have kp : ∀ (a : Addr) (u : HO), H1 a = some u → H' a = some u := fun a u h => af.keep a u (k1 a u h) fun z => by
      rw [ownA a z] at h; rw [ho] at h; cases h
    have nw : ∀ (a : Addr) (u : HO), F' a = some u → F1 a = none → H1 a = none := fun a u h n => by
      rcases af.new a u h n with z | z
      · cases y : H1 a with
        | none => rfl
        | some w => rw [k1 a w y] at z; cases z
      · rw [ownA a z]; exact ho
    refine ⟨⟨⟨af.fle, fun a u h _ => kp a u h, fun a u h => ⟨u, kp a u h⟩, fun a u h n => .inl (nw a u h n), fun a z => .inl z, fun i hi => ⟨rfl, fun m q => ⟨m, q⟩⟩⟩, fun i m q => ⟨m, q⟩⟩, af.rel.le, R1.len, fun i d q => ?_, fun i m q => ?_, R1.apart⟩
    · obtain ⟨v, t, r⟩ := R1.vals i d q
      exact ⟨v, t, r.mono af.fle⟩
    · obtain ⟨a, t, n, oo⟩ := R1.owns i m q
      refine ⟨a, t, ?_, oo.mono af.fle fun u z => kp a u z⟩
      cases z : F' a with
      | none => rfl
      | some u =>
        obtain ⟨w, hw⟩ := oo.here
        rw [nw a u z n] at hw; cases hw
  refine ⟨by simp [← rs.length, hl, ← hn], F1, _, _, _, R2, q, fun r sl' v F' H' q af ra => ?_, fun y sl' cls dd F' H' q af ea => ?_⟩
  · obtain ⟨m, sl2, rfl, rfl, q⟩ := onMade_inv q
    obtain ⟨s2, R3⟩ := after F' H' _ af
    obtain ⟨a, t, n, oo⟩ := af.rel.owns 0 m (by simp)
    simp at t
    subst t
    refine ⟨by cases ra; rfl, kk m ρ1 o F' H' (s1.trans s2) R3 (s1.st.fresh ho) n oo (fun i m' q1 q2 => ?_) q⟩
    obtain ⟨a, t, _, o3⟩ := R1.owns i m' q1
    rw [q2] at t; cases t
    obtain ⟨w, hw⟩ := o3.here
    rw [ho] at hw; cases hw
  · obtain ⟨s2, R3⟩ := after F' H' _ af
    exact fun σ' => hW _ _ σ σ' _ (ex y ρ1 σ F' H' cls dd (s1.trans s2).st R3 ea q)
end
end DL

namespace DL
open PySem L2 PySem.Spec PyProof.Rows
section
variable {X : Cx} {W : WX} {B : List Nat} {F F' F'' H H' H'' : Hp} {ρ ρ' ρ'' : List Sl} {σ σ' σ'' : L2.St} {e a b c tg : Expr} {es : List Expr} {st : Stmt} {sts : List Stmt} {pos : Pos}
/-! ### more of lists that slots own -/
theorem de_lenO (i : Nat) {x : Str} {p pos' : Pos} (hm : X.mg "len" = none) (hN : X.N[i]? = some x := by rfl) (hg : Gl X "len" := by rfl) (hv : Vis X.env.scope x := by first | exact Or.inl rfl | exact Or.inr (Or.inl rfl) | exact Or.inr (Or.inr rfl)) (hd : (x == ("__debug__" : Str)) = false := by decide)
    (hcd : (x == ("__classdict__" : Str)) = false := by decide) (he : starEach [.Name x pos'] X.env = (false, eval (.Name x pos') X.env) :: starEach [] X.env := by rfl) (hpl : (backTo pos (starEach [] X.env)).any (·.1) = false := by rfl) :
    DE X W B (.Call (.Name "len" p) [.Name x pos'] [] pos) (fun ρ Q E => onLst (gt ρ i) fun ds => Q (.int ds.length) ρ) := by
  refine ⟨_, pe_callB call_len hg hm boot_len (pa_cons (pe_var hN hv hd hcd) pa_nil he) (by decide) (by decide) he hpl, fun F H ρ σ Q E Q' R ex h kk => ?_⟩
  obtain ⟨ds, e0, h⟩ := onLst_inv h
  obtain ⟨p, s, n, vs, hp, rs⟩ := slot_ref R e0
  exact ⟨.ref p, s, _, _, rfl, .inl ⟨vs, SqL.of hp, rfl⟩, kk _ _ _ _ _ Est.refl R (by rw [← rs.length]; exact rep_int) h⟩
/-- what is made is kept over an expression's step -/
theorem kept_over {p : Addr} {m : MO} (R : Rel X.K F H ρ σ) (s : Est B F H ρ F' H' ρ' σ) (n : F p = none) (o : OwnAt X.K F H p m) (no : ∀ (i : Nat) (m' : MO), ρ[i]? = some (Sl.own m') → σ[i]? ≠ some (some (V.ref p))) :
    F' p = none ∧ OwnAt X.K F' H' p m ∧ ∀ (i : Nat) (m' : MO), ρ'[i]? = some (Sl.own m') → σ[i]? ≠ some (some (V.ref p)) := by
  have nn : ¬ Own ρ σ p := fun ⟨j, m', q, t⟩ => no j m' q t
  refine ⟨?_, o.mono s.st.fle fun u z => s.st.keep p u z nn, fun i m' q => ?_⟩
  · cases z : F' p with
    | none => rfl
    | some u =>
      rcases s.st.new p u z n with y | y
      · obtain ⟨w, hw⟩ := o.here
        rw [y] at hw; cases hw
      · exact (nn y).elim
  · obtain ⟨m, q⟩ := s.pat i m' q
    exact no i m q
def onL : MO → (List D → Prop) → Prop
  | .lst ds, k => k ds
  | _, _ => False
theorem onL_inv {m : MO} {k : List D → Prop} (h : onL m k) : ∃ ds, m = .lst ds ∧ k ds := by
  cases m with
  | lst ds => exact ⟨ds, rfl, h⟩
  | ins _ _ _ => exact h.elim
theorem dn_rep {t : NTr} {u : ETr} (ha : DN X W B a t) (hb : DE X W B b u) : DN X W B (.BinOp a .Mult b pos) (fun ρ Q E => t ρ (fun m ρ1 => u ρ1 (fun y ρ2 => onL m fun ds => match y with
      | .int k => (-(2 ^ 63) ≤ k ∧ k < 2 ^ 63 ∧ ds.length * k.toNat ≤ sizeLine) ∧ Q (.lst (List.replicate k.toNat ds).flatten) ρ2
      | _ => False) E) E) := by
  obtain ⟨ta, p1, r1⟩ := ha
  obtain ⟨tb, p2, r2⟩ := hb
  refine ⟨_, pe_op op_rep p1 p2, fun F H ρ σ Q E Q' R ex h kk => r1 F H ρ σ _ E _ R ex h fun m ρ1 p F1 H1 s1 R1 hp n1 o1 no1 q1 => r2 F1 H1 ρ1 σ _ E _ R1 (ex.step s1.st) q1 fun y ρ2 v F2 H2 s2 R2 ry q2 => ?_⟩
  obtain ⟨n2, o2, no2⟩ := kept_over R1 s2 n1 o1 no1
  obtain ⟨ds, rfl, q2⟩ := onL_inv q2
  cases y with
  | int k =>
    obtain ⟨⟨h1, h2, h3⟩, q2⟩ := q2
    obtain ⟨vs, hvs, rs⟩ := o2
    refine ⟨p, k, vs, rfl, rep_int_inv ry, hvs, h1, h2, by rw [← rs.length]; exact h3, fun l hl => ?_⟩
    have rr : ∀ j : Nat, Reps X.K F2 (List.replicate j ds).flatten (List.replicate j vs).flatten := fun j => by
      induction j with
      | zero => exact .nil
      | succ j ih => rw [List.replicate_succ, List.replicate_succ, List.flatten_cons, List.flatten_cons]; exact rs.append ih
    obtain ⟨s, R', n, o, no⟩ := made (B := B) (o := .lst (List.replicate k.toNat vs).flatten) (m := .lst _) R2 hl ⟨_, upd_same, rr k.toNat⟩
    exact kk _ _ l _ _ ((s1.trans s2).trans s) R' ((s1.trans s2).st.fresh hl) n o no q2
  | _ => exact q2.elim
theorem dn_cat {t u : NTr} (ha : DN X W B a t) (hb : DN X W B b u) : DN X W B (.BinOp a .Add b pos) (fun ρ Q E => t ρ (fun m ρ1 => u ρ1 (fun m2 ρ2 => onL m fun ds => onL m2 fun es => ds.length + es.length ≤ sizeLine ∧ Q (.lst (ds ++ es)) ρ2) E) E) := by
  obtain ⟨ta, p1, r1⟩ := ha
  obtain ⟨tb, p2, r2⟩ := hb
  refine ⟨_, pe_op op_cat p1 p2, fun F H ρ σ Q E Q' R ex h kk => r1 F H ρ σ _ E _ R ex h fun m ρ1 p F1 H1 s1 R1 hp n1 o1 no1 q1 => r2 F1 H1 ρ1 σ _ E _ R1 (ex.step s1.st) q1 fun m2 ρ2 p2 F2 H2 s2 R2 hp2 n2 o2 no2 q2 => ?_⟩
  obtain ⟨n3, o3, no3⟩ := kept_over R1 s2 n1 o1 no1
  obtain ⟨ds, rfl, q3⟩ := onL_inv q2
  obtain ⟨es, rfl, hz, q2⟩ := onL_inv (m := m2) q3
  obtain ⟨vs, hvs, rs⟩ := o3
  obtain ⟨us, hus, rs2⟩ := o2
  refine ⟨p, p2, vs, us, rfl, rfl, hvs, hus, by rw [← rs.length, ← rs2.length]; exact hz, fun l hl => ?_⟩
  obtain ⟨s, R', n, o, no⟩ := made (B := B) (o := .lst (vs ++ us)) (m := .lst (ds ++ es)) R2 hl ⟨_, upd_same, rs.append rs2⟩
  exact kk _ _ l _ _ ((s1.trans s2).trans s) R' ((s1.trans s2).st.fresh hl) n o no q2
/-- + where the left one is a list that a slot owns -/
theorem dn_catO (i : Nat) {u : NTr} {x : Str} {pos' : Pos} (hb : DN X W B b u) (hN : X.N[i]? = some x := by rfl) (hv : Vis X.env.scope x := by first | exact Or.inl rfl | exact Or.inr (Or.inl rfl) | exact Or.inr (Or.inr rfl)) (hd : (x == ("__debug__" : Str)) = false := by decide)
    (hcd : (x == ("__classdict__" : Str)) = false := by decide) : DN X W B (.BinOp (.Name x pos') .Add b pos) (fun ρ Q E => onLst (gt ρ i) fun _ => u ρ (fun m2 ρ2 => onLst (gt ρ2 i) fun ds => onL m2 fun es => ds.length + es.length ≤ sizeLine ∧ Q (.lst (ds ++ es)) ρ2) E) := by
  obtain ⟨tb, p2, r2⟩ := hb
  refine ⟨_, pe_op op_cat (pe_var hN hv hd hcd) p2, fun F H ρ σ Q E Q' R ex h kk => ?_⟩
  obtain ⟨ds0, e0, h⟩ := onLst_inv h
  obtain ⟨p, s, n, vs0, hp0, _⟩ := slot_ref R e0
  refine ⟨.ref p, s, r2 F H ρ σ _ E _ R ex h fun m2 ρ2 p2 F2 H2 s2 R2 hp2 n2 o2 no2 q2 => ?_⟩
  obtain ⟨ds, e1, q3⟩ := onLst_inv q2
  obtain ⟨es, rfl, hz, q2⟩ := onL_inv (m := m2) q3
  obtain ⟨p', s', n', vs, hvs, rs⟩ := slot_ref R2 e1
  rw [s] at s'; cases s'
  obtain ⟨us, hus, rs2⟩ := o2
  refine ⟨p, p2, vs, us, rfl, rfl, hvs, hus, by rw [← rs.length, ← rs2.length]; exact hz, fun l hl => ?_⟩
  obtain ⟨s3, R', n, o, no⟩ := made (B := B) (o := .lst (vs ++ us)) (m := .lst (ds ++ es)) R2 hl ⟨_, upd_same, rs.append rs2⟩
  exact kk _ _ l _ _ (s2.trans s3) R' (s2.st.fresh hl) n o no q2
/-! slices of lists -/
def cutD (xs : List D) (lo hi : Option Int) : List D := (xs.drop (HT.sIx xs.length 0 lo)).take (HT.sIx xs.length xs.length hi - HT.sIx xs.length 0 lo)
def DO (X : Cx) (W : WX) (B : List Nat) (o : Option Expr) (t : List Sl → (Option Int → List Sl → Prop) → QE → Prop) : Prop := ∃ te, PO X o te ∧ ∀ (F H : Hp) (ρ : List Sl) (σ : L2.St) (Q : Option Int → List Sl → Prop) (E : QE) (Q' : Option Int → Hp → Prop), Rel X.K F H ρ σ → Exk X W B F H ρ σ E → t ρ Q E →
  (∀ (z : Option Int) (ρ' : List Sl) (F' H' : Hp), Est B F H ρ F' H' ρ' σ → Rel X.K F' H' ρ' σ → Q z ρ' → Q' z H') → te σ H Q'
theorem do_none : DO X W B none (fun ρ Q _ => Q none ρ) := ⟨_, po_none, fun F H ρ σ Q E Q' R ex h k => k none ρ F H Est.refl R h⟩
theorem do_some {t : ETr} (h : DE X W B e t) : DO X W B (some e) (fun ρ Q E => t ρ (fun y ρ1 => match y with
      | .int i => Q (some i) ρ1
      | _ => False) E) := by
  obtain ⟨te, pe, run⟩ := h
  refine ⟨_, po_some pe, fun F H ρ σ Q E Q' R ex h k => run F H ρ σ _ E _ R ex h fun y ρ1 v F1 H1 s1 R1 ry q => ?_⟩
  split at q
  · exact ⟨_, rep_int_inv ry, k _ _ _ _ s1 R1 q⟩
  · exact q.elim
theorem dn_slice {lo hi : Option Expr} {p2 : Pos} {t : ETr} {tl th : List Sl → (Option Int → List Sl → Prop) → QE → Prop} (he : DE X W B e t) (hl : DO X W B lo tl) (hh : DO X W B hi th) :
    DN X W B (.Subscript e (.Slice lo hi none p2) pos) (fun ρ Q E => t ρ (fun d ρ1 => tl ρ1 (fun l ρ2 => th ρ2 (fun h ρ3 => match d with
      | .lst ds => Q (.lst (cutD ds l h)) ρ3
      | _ => False) E) E) E) := by
  obtain ⟨te, pe, run⟩ := he
  obtain ⟨tl', pl, runl⟩ := hl
  obtain ⟨th', ph, runh⟩ := hh
  refine ⟨_, pe_slice sl_list pe pl ph, fun F H ρ σ Q E Q' R ex h kk => run F H ρ σ _ E _ R ex h fun d ρ1 v F1 H1 s1 R1 rv q1 => runl F1 H1 ρ1 σ _ E _ R1 (ex.step s1.st) q1 fun l ρ2 F2 H2 s2 R2 q2 => runh F2 H2 ρ2 σ _ E _ R2 (ex.step (s1.trans s2).st) q2 fun h ρ3 F3 H3 s3 R3 q3 => ?_⟩
  split at q3
  · have rv' := rv.mono (s2.trans s3).st.fle
    unfold Rep at rv'
    obtain ⟨p, vs, rfl, sq, rs⟩ := rv'
    refine ⟨p, vs, rfl, R3.le.sql sq, fun l' hl' => ?_⟩
    obtain ⟨s, R', n, o, no⟩ := made (B := B) (o := .lst (cutV vs l h)) (m := .lst (cutD _ l h)) R3 hl' ⟨_, upd_same, by unfold cutD cutV; rw [rs.length]; exact (rs.drop _).take _⟩
    exact kk _ _ l' _ _ (((s1.trans s2).trans s3).trans s) R' (((s1.trans s2).trans s3).st.fresh hl') n o no q3
  · exact q3.elim

/-! ### constants of the module -/
theorem de_gint {x : Str} {i : Int} (hm : ∃ u, X.mg x = some u ∧ RelV (.int i) u) (hg : Gl X x := by rfl) (hd : (x == ("__debug__" : Str)) = false := by decide) : DE X W B (.Name x pos) (fun ρ Q _ => Q (.int i) ρ) := by
  obtain ⟨u, h, r⟩ := hm
  exact de_c (pe_glob hg h r hd) fun _ => rep_int
theorem de_gstr {x : Str} {i : Str} (hm : ∃ u, X.mg x = some u ∧ RelV (.str i) u) (hg : Gl X x := by rfl) (hd : (x == ("__debug__" : Str)) = false := by decide) : DE X W B (.Name x pos) (fun ρ Q _ => Q (.str i) ρ) := by
  obtain ⟨u, h, r⟩ := hm
  exact de_c (pe_glob hg h r hd) fun _ => rep_str
end

/-! ### a def as callers see it -/
structure Cal (P : Program) (w : World) (K : PySem.W.Frag) (mg : Str → Option Value) (base : Heap) (k : Nat) (x : Str) (n : Nat) (T : DSp) : Prop where
  ex : ∃ (f : Addr) (fd : FuncData) (ps : List Str), FnOk P w K mg base (L2.CX P w) k f fd ps (spG K n T) ∧ mg x = some (.ref f) ∧ PySem.W.keepIn K (.ref f) = true ∧ Binds K fd ps []
theorem Cal.mono {P : Program} {w : World} {K : PySem.W.Frag} {mg : Str → Option Value} {base : Heap} {j k : Nat} {x : Str} {n : Nat} {T : DSp} (c : Cal P w K mg base j x n T) (h : j ≤ k) : Cal P w K mg base k x n T := by
  obtain ⟨f, fd, ps, a, b⟩ := c.ex
  exact ⟨f, fd, ps, a.mono h, b⟩
/-- a class as callers see it -/
structure Mak (P : Program) (w : World) (K : PySem.W.Frag) (mg : Str → Option Value) (base : Heap) (k : Nat) (x : Str) (C : Addr) (n : Nat) (T : DSp) : Prop where
  ex : ∃ (f : Addr) (fd : FuncData) (ps : List Str), Mk K C f ∧ FnOk P w K mg base (L2.CX P w) k f fd ps (spG K (n + 1) T) ∧ mg x = some (.ref C) ∧ Binds K fd ps []
section
variable {X : Cx} {W : WX} {B : List Nat} {e : Expr} {es : List Expr} {pos p : Pos} {k n : Nat} {x : Str} {T : DSp} {ms : List (Option Nat)} {u : AsTr}
theorem e_call (G : Cal X.prog X.w X.K X.mg X.base k x n T) (hr : Room k X.A) (ok : Cok X W) (ha : DAs X W B (e :: es) ms u) (nd : ndp ms = true := by rfl) (hn : ms.length = n := by rfl)
    (hg : Gl X x := by rfl) (hdb : (x == ("__debug__" : Str)) = false := by decide) (he : starEach (e :: es) X.env = (false, eval e X.env) :: starEach es X.env := by rfl) (hpl : (backTo pos (starEach es X.env)).any (·.1) = false := by rfl) :
    DE X W B (.Call (.Name x p) (e :: es) [] pos) (fun ρ Q E => ownAll ms ρ ∧ u ρ (fun ds ρ1 => ownAll ms ρ1 ∧ T (mkSl ms ds ρ1) (fun r sl' => onVal r fun d => Q d (wb ms sl' ρ1)) (fun y sl' => E y (wb ms sl' ρ1))) E) := by
  obtain ⟨f, fd, ps, F, hm, hk, hb⟩ := G.ex
  exact de_call F hr ok hm hk hb ha nd hn hg hdb he hpl
theorem n_call (G : Cal X.prog X.w X.K X.mg X.base k x n T) (hr : Room k X.A) (ok : Cok X W) (ha : DAs X W B (e :: es) ms u) (nd : ndp ms = true := by rfl) (hn : ms.length = n := by rfl)
    (hg : Gl X x := by rfl) (hdb : (x == ("__debug__" : Str)) = false := by decide) (he : starEach (e :: es) X.env = (false, eval e X.env) :: starEach es X.env := by rfl) (hpl : (backTo pos (starEach es X.env)).any (·.1) = false := by rfl) :
    DN X W B (.Call (.Name x p) (e :: es) [] pos) (fun ρ Q E => ownAll ms ρ ∧ u ρ (fun ds ρ1 => ownAll ms ρ1 ∧ T (mkSl ms ds ρ1) (fun r sl' => onOwn r fun d => Q d (wb ms sl' ρ1)) (fun y sl' => E y (wb ms sl' ρ1))) E) := by
  obtain ⟨f, fd, ps, F, hm, hk, hb⟩ := G.ex
  exact dn_call F hr ok hm hk hb ha nd hn hg hdb he hpl
theorem n_make {C : Addr} {u : ATr} (G : Mak X.prog X.w X.K X.mg X.base k x C n T) (hr : Room (k + 1) X.A) (ok : Cok X W) (ha : DA X W B (e :: es) u) (hW : ∀ cls d σ σ' H, W cls d σ H → W cls d σ' H := by exact fun _ _ _ _ _ h => h) (hn : (e :: es).length = n := by rfl) (hg : Gl X x := by rfl) (hdb : (x == ("__debug__" : Str)) = false := by decide)
    (he : starEach (e :: es) X.env = (false, eval e X.env) :: starEach es X.env := by rfl) (hpl : (backTo pos (starEach es X.env)).any (·.1) = false := by rfl) :
    DN X W B (.Call (.Name x p) (e :: es) [] pos) (fun ρ Q E => u ρ (fun ds ρ1 => T (.own (.ins C [] []) :: ds.map Sl.val) (fun r sl' => onMade r sl' fun m => Q m ρ1) (fun y _ => E y ρ1)) E) := by
  obtain ⟨f, fd, ps, M, F, hm, hb⟩ := G.ex
  exact dn_make M F hr ok hm hb ha hW hn hg hdb he hpl
end
section
variable {X : Cx} {W : WX} {B : List Nat} {F F' F'' H H' H'' : Hp} {ρ ρ' ρ'' : List Sl} {σ σ' σ'' : L2.St} {e : Expr} {es : List Expr} {pos p : Pos} {k n : Nat} {x : Str} {T : DSp}
/-- a call whose first argument is a new thing, which the callee may change and nobody has behind it -/
theorem call_tmp {t : NTr} {u : ATr} (G : Cal X.prog X.w X.K X.mg X.base k x (n + 1) T) (hr : Room k X.A) (ok : Cok X W) (h0 : DN X W B e t) (ha : DA X W B es u) (hn : es.length = n)
    (hg : Gl X x) (hdb : (x == ("__debug__" : Str)) = false) (he : starEach (e :: es) X.env = (false, eval e X.env) :: starEach es X.env) (hpl : (backTo pos (starEach es X.env)).any (·.1) = false) :
    ∃ te, PE X (.Call (.Name x p) (e :: es) [] pos) te ∧ ∀ (F H : Hp) (ρ : List Sl) (σ : L2.St) (Q : Sl → List Sl → Prop) (E : QE) (Q' : VK), Rel X.K F H ρ σ → Exk X W B F H ρ σ E →
      t ρ (fun m ρ1 => u ρ1 (fun ds ρ2 => T (.own m :: ds.map Sl.val) (fun r _ => Q r ρ2) (fun y _ => E y ρ2)) E) E →
      (∀ (r : Sl) (ρ' : List Sl) (v : V) (H1 F' H' : Hp), Est B F H ρ F' H' ρ' σ → Rel X.K F' H' ρ' σ → (∀ p, H1 p = none → H p = none) → (∀ (i : Nat) (m' : MO) (a : Addr), ρ'[i]? = some (Sl.own m') → σ[i]? = some (some (V.ref a)) → ∃ o, H1 a = some o) → ResAt X.K H1 F' H' r v → Q r ρ' → Q' v H') → te σ H Q' := by
  obtain ⟨f, fd, ps, Fn, hm, hk, hb⟩ := G.ex
  obtain ⟨t0, p0, r0⟩ := h0
  obtain ⟨ta, p1, r1⟩ := ha
  refine ⟨_, pe_callS Fn hr hg hm hk hb (fun σ => passAt ok.tk σ) (pa_cons p0 p1 he) hdb he hpl, fun F H ρ σ Q E Q' R ex h kk => r0 F H ρ σ _ E _ R ex h fun m ρ1 p F1 H1 s1 R1 hp n1 o1 no1 q1 => r1 F1 H1 ρ1 σ _ E _ R1 (ex.step s1.st) q1 fun ds ρ2 vs F2 H2 s2 R2 rs hl q2 => ?_⟩
  obtain ⟨n2, o2, no2⟩ := kept_over R1 s2 n1 o1 no1
  have s := s1.trans s2
  have own : ∀ (j : Nat) (m' : MO), (Sl.own m :: ds.map Sl.val)[j]? = some (Sl.own m') → j = 0 ∧ m' = m := fun j m' h => by
    cases j with
    | zero => simp at h; exact ⟨rfl, h.symm⟩
    | succ j => simp at h
  have R3 : Rel X.K F2 H2 (.own m :: ds.map Sl.val) ((V.ref p :: vs).map some) := by
    refine ⟨R2.le, by simp [rs.length], fun j d h => ?_, fun j m' h => ?_, fun i j m1 m2 a q1 q2 _ _ => by rw [(own i m1 q1).1, (own j m2 q2).1]⟩
    · cases j with
      | zero => simp at h
      | succ j =>
        simp only [List.getElem?_cons_succ, List.getElem?_map, Option.map_eq_some_iff] at h
        obtain ⟨d', hd, e⟩ := h
        cases e
        obtain ⟨v, hv, rv⟩ := rs.get hd
        exact ⟨v, by simp [hv], rv⟩
    · obtain ⟨rfl, rfl⟩ := own j m' h
      exact ⟨p, by simp, n2, o2⟩
  have ownA : ∀ a, Own (.own m :: ds.map Sl.val) ((V.ref p :: vs).map some) a → a = p := fun a ⟨j, m', h, t⟩ => by
    obtain ⟨rfl, _⟩ := own j m' h
    simp at t; exact t.symm
  have after : ∀ (F' H' : Hp) (sl' : List Sl), After X.K F2 H2 (.own m :: ds.map Sl.val) (V.ref p :: vs) F' H' sl' → Est B F H ρ F' H' ρ2 σ ∧ Rel X.K F' H' ρ2 σ := fun F' H' sl' af => by
    have kp : ∀ (a : Addr) (u : HO), H2 a = some u → a ≠ p → H' a = some u := fun a u h ne => af.keep a u h fun z => ne (ownA a z)
    have ne : ∀ {a : Addr} {u : HO}, H a = some u → a ≠ p := fun {a u} h z => by rw [z, hp] at h; cases h
    refine ⟨⟨⟨s.st.fle.trans af.fle, fun a u h na => kp a u (s.st.keep a u h na) (ne h), fun a u h => ?_, fun a u h na => ?_, s.st.own, s.st.bor⟩, s.pat⟩, af.rel.le, R2.len, fun i d q => ?_, fun i m' q => ?_, R2.apart⟩
    · obtain ⟨u', h'⟩ := s.st.there a u h
      exact af.there a u' h'
    · cases z : F2 a with
      | some w => exact s.st.new a w z na
      | none =>
        rcases af.new a u h z with y | y
        · exact .inl (s.st.fresh y)
        · rw [ownA a y]; exact .inl hp
    · obtain ⟨v, t, r⟩ := R2.vals i d q
      exact ⟨v, t, r.mono af.fle⟩
    · obtain ⟨a, t, na, oo⟩ := R2.owns i m' q
      have nap : a ≠ p := fun z => no2 i m' q (by rw [← z]; exact t)
      refine ⟨a, t, ?_, oo.mono af.fle fun u z => kp a u z nap⟩
      cases z : F' a with
      | none => rfl
      | some u =>
        rcases af.new a u z na with y | y
        · obtain ⟨w, hw⟩ := oo.here
          rw [y] at hw; cases hw
        · exact (nap (ownA a y)).elim
  refine ⟨by simp [← rs.length, hl, ← hn], F2, _, _, _, R3, q2, fun r sl' v F' H' q af ra => ?_, fun y sl' cls dd F' H' q af ea => ?_⟩
  · obtain ⟨sA, RA⟩ := after F' H' sl' af
    exact kk r ρ2 v H2 F' H' sA RA (fun q hq => s.st.fresh hq) (fun i m' a h1 h2 => by
      obtain ⟨a', t, _, o⟩ := R2.owns i m' h1
      rw [h2] at t; cases t
      exact o.here) ra q
  · obtain ⟨sA, RA⟩ := after F' H' sl' af
    exact ex y ρ2 σ F' H' cls dd sA.st RA ea q
theorem e_callT {t : NTr} {u : ATr} (G : Cal X.prog X.w X.K X.mg X.base k x (n + 1) T) (hr : Room k X.A) (ok : Cok X W) (h0 : DN X W B e t) (ha : DA X W B es u) (hn : es.length = n := by rfl)
    (hg : Gl X x := by rfl) (hdb : (x == ("__debug__" : Str)) = false := by decide) (he : starEach (e :: es) X.env = (false, eval e X.env) :: starEach es X.env := by rfl) (hpl : (backTo pos (starEach es X.env)).any (·.1) = false := by rfl) :
    DE X W B (.Call (.Name x p) (e :: es) [] pos) (fun ρ Q E => t ρ (fun m ρ1 => u ρ1 (fun ds ρ2 => T (.own m :: ds.map Sl.val) (fun r _ => onVal r fun d => Q d ρ2) (fun y _ => E y ρ2)) E) E) := by
  obtain ⟨te, pe, run⟩ := call_tmp (p := p) (pos := pos) G hr ok h0 ha hn hg hdb he hpl
  refine ⟨te, pe, fun F H ρ σ Q E Q' R ex h kk => run F H ρ σ (fun r ρ' => onVal r fun d => Q d ρ') E Q' R ex h fun r ρ' v H1 F' H' s R' _ _ ra q => ?_⟩
  obtain ⟨d, rfl, q⟩ := onVal_inv q
  exact kk d ρ' v F' H' s R' ra q
theorem n_callT {t : NTr} {u : ATr} (G : Cal X.prog X.w X.K X.mg X.base k x (n + 1) T) (hr : Room k X.A) (ok : Cok X W) (h0 : DN X W B e t) (ha : DA X W B es u) (hn : es.length = n := by rfl)
    (hg : Gl X x := by rfl) (hdb : (x == ("__debug__" : Str)) = false := by decide) (he : starEach (e :: es) X.env = (false, eval e X.env) :: starEach es X.env := by rfl) (hpl : (backTo pos (starEach es X.env)).any (·.1) = false := by rfl) :
    DN X W B (.Call (.Name x p) (e :: es) [] pos) (fun ρ Q E => t ρ (fun m ρ1 => u ρ1 (fun ds ρ2 => T (.own m :: ds.map Sl.val) (fun r _ => onOwn r fun d => Q d ρ2) (fun y _ => E y ρ2)) E) E) := by
  obtain ⟨te, pe, run⟩ := call_tmp (p := p) (pos := pos) G hr ok h0 ha hn hg hdb he hpl
  refine ⟨te, pe, fun F H ρ σ Q E Q' R ex h kk => run F H ρ σ (fun r ρ' => onOwn r fun d => Q d ρ') E Q' R ex h fun r ρ' v H1 F' H' s R' hf ho ra q => ?_⟩
  obtain ⟨m, rfl, q⟩ := onOwn_inv q
  obtain ⟨p, rfl, hp, n, o⟩ := ra
  exact kk m ρ' p F' H' s R' (hf p hp) n o (fun i m' h1 h2 => by
    obtain ⟨o, ho⟩ := ho i m' p h1 h2
    rw [hp] at ho; cases ho) q
end
end DL

/-! The readings by name. -/
namespace DL
open PySem L2
abbrev OTr := List Sl → (Option Int → List Sl → Prop) → QE → Prop
abbrev eVar (i : Nat) : ETr := fun ρ Q _ => onVal (gt ρ i) fun d => Q d ρ
abbrev eFrz (i : Nat) : ETr := fun ρ Q _ => onOwn (gt ρ i) fun m => Q (frz m) (ρ.set i (.val (frz m)))
abbrev eC (d : D) : ETr := fun ρ Q _ => Q d ρ
abbrev eNew (t : NTr) : ETr := fun ρ Q E => t ρ (fun m ρ' => Q (frz m) ρ') E
abbrev eAnd (t u : ETr) : ETr := fun ρ Q E => t ρ (fun d ρ' => onBl d fun c => br c (u ρ' Q E) (Q (.bl false) ρ')) E
abbrev eOr (t u : ETr) : ETr := fun ρ Q E => t ρ (fun d ρ' => onBl d fun c => br c (Q (.bl true) ρ') (u ρ' Q E)) E
abbrev eNot (t : ETr) : ETr := fun ρ Q E => t ρ (fun d ρ' => onBl d fun c => Q (.bl (!c)) ρ') E
abbrev eIf (c : TTr) (t u : ETr) : ETr := fun ρ Q E => c ρ (fun z ρ' => br z (t ρ' Q E) (u ρ' Q E)) E
abbrev eOp (k : KTr2) (t u : ETr) : ETr := fun ρ Q E => t ρ (fun x ρ1 => u ρ1 (fun y ρ2 => k x y fun z => Q z ρ2) E) E
abbrev eNeg (t : ETr) : ETr := fun ρ Q E => t ρ (fun x ρ1 => match x with | .int i => Q (.int (-i)) ρ1 | _ => False) E
abbrev eIsN (t : ETr) : ETr := fun ρ Q E => t ρ (fun x ρ1 => Q (.bl (isNon x)) ρ1) E
abbrev eNotN (t : ETr) : ETr := fun ρ Q E => t ρ (fun x ρ1 => Q (.bl (!isNon x)) ρ1) E
abbrev eFld (K : PySem.W.Frag) (f : Str) (t : ETr) : ETr := fun ρ Q E => t ρ (fun x ρ1 => kFld K f x fun z => Q z ρ1) E
abbrev eFldO (K : PySem.W.Frag) (i : Nat) (f : Str) : ETr := fun ρ Q E => onIns (gt ρ i) fun C ns ds => FldOk K C f ∧ onSome (lk f ns ds) fun d => Q d ρ
abbrev eIxO (i : Nat) (u : ETr) : ETr := fun ρ Q E => onOwn (gt ρ i) fun _ => u ρ (fun y ρ2 => onOwn (gt ρ2 i) fun m => kIxO m y fun z => Q z ρ2) E
abbrev eLenO (i : Nat) : ETr := fun ρ Q E => onLst (gt ρ i) fun ds => Q (.int ds.length) ρ
abbrev eTup (t : ATr) : ETr := fun ρ Q E => t ρ (fun ds ρ1 => Q (.tup ds) ρ1) E
abbrev eB (k : KTrN) (t : ATr) : ETr := fun ρ Q E => t ρ (fun ds ρ1 => k ds fun z => Q z ρ1) E
abbrev eTuple (t : ATr) : ETr := fun ρ Q E => t ρ (fun ds ρ1 => match ds with
      | [d] => seqD d fun is => Q (.tup is) ρ1
      | _ => False) E
abbrev eFind (t u : ETr) : ETr := fun ρ Q E => t ρ (fun x ρ1 => (match x with | .str _ => True | _ => False) ∧ u ρ1 (fun y ρ2 => kFind x y fun z => Q z ρ2) E) E
abbrev eJoin (t u : ETr) : ETr := fun ρ Q E => t ρ (fun x ρ1 => (match x with | .str _ => True | _ => False) ∧ u ρ1 (fun y ρ2 => kJoin x y fun z => Q z ρ2) E) E
abbrev eIsi (g : D → Option Bool) (t : ETr) : ETr := fun ρ Q E => t ρ (fun d ρ1 => onSome (g d) fun b => Q (.bl b) ρ1) E
abbrev eCall (ms : List (Option Nat)) (T : DSp) (u : AsTr) : ETr := fun ρ Q E => ownAll ms ρ ∧ u ρ (fun ds ρ1 => ownAll ms ρ1 ∧ T (mkSl ms ds ρ1) (fun r sl' => onVal r fun d => Q d (wb ms sl' ρ1)) (fun y sl' => E y (wb ms sl' ρ1))) E
abbrev eCallT (T : DSp) (t : NTr) (u : ATr) : ETr := fun ρ Q E => t ρ (fun m ρ1 => u ρ1 (fun ds ρ2 => T (.own m :: ds.map Sl.val) (fun r _ => onVal r fun d => Q d ρ2) (fun y _ => E y ρ2)) E) E
abbrev eChain (k k' : KTr2) (t u w : ETr) : ETr := fun ρ Q E => t ρ (fun x ρ1 => u ρ1 (fun y ρ2 => k x y fun z => onBl z fun l => br l (w ρ2 (fun v ρ3 => k' y v fun z' => Q z' ρ3) E) (Q (.bl false) ρ2)) E) E
abbrev nLst (t : ATr) : NTr := fun ρ Q E => t ρ (fun ds ρ1 => Q (.lst ds) ρ1) E
abbrev nList (t : ATr) : NTr := fun ρ Q E => t ρ (fun ds ρ1 => match ds with
      | [d] => seqD d fun is => Q (.lst is) ρ1
      | _ => False) E
abbrev nComp (ti : ITr) (g : GTr) (tt : TTr) (t : ETr) (vs : List Nat) : NTr := fun ρ Q E => ti ρ (fun ds ρ1 => compL g tt t vs ds [] ρ1 Q) E
abbrev nCall (ms : List (Option Nat)) (T : DSp) (u : AsTr) : NTr := fun ρ Q E => ownAll ms ρ ∧ u ρ (fun ds ρ1 => ownAll ms ρ1 ∧ T (mkSl ms ds ρ1) (fun r sl' => onOwn r fun d => Q d (wb ms sl' ρ1)) (fun y sl' => E y (wb ms sl' ρ1))) E
abbrev nCallT (T : DSp) (t : NTr) (u : ATr) : NTr := fun ρ Q E => t ρ (fun m ρ1 => u ρ1 (fun ds ρ2 => T (.own m :: ds.map Sl.val) (fun r _ => onOwn r fun d => Q d ρ2) (fun y _ => E y ρ2)) E) E
abbrev nMake (C : Addr) (T : DSp) (u : ATr) : NTr := fun ρ Q E => u ρ (fun ds ρ1 => T (.own (.ins C [] []) :: ds.map Sl.val) (fun r sl' => onMade r sl' fun m => Q m ρ1) (fun y _ => E y ρ1)) E
abbrev nRep (t : NTr) (u : ETr) : NTr := fun ρ Q E => t ρ (fun m ρ1 => u ρ1 (fun y ρ2 => onL m fun ds => match y with
      | .int k => (-(2 ^ 63) ≤ k ∧ k < 2 ^ 63 ∧ ds.length * k.toNat ≤ sizeLine) ∧ Q (.lst (List.replicate k.toNat ds).flatten) ρ2
      | _ => False) E) E
abbrev nCat (t u : NTr) : NTr := fun ρ Q E => t ρ (fun m ρ1 => u ρ1 (fun m2 ρ2 => onL m fun ds => onL m2 fun es => ds.length + es.length ≤ sizeLine ∧ Q (.lst (ds ++ es)) ρ2) E) E
abbrev nCatO (i : Nat) (u : NTr) : NTr := fun ρ Q E => onLst (gt ρ i) fun _ => u ρ (fun m2 ρ2 => onLst (gt ρ2 i) fun ds => onL m2 fun es => ds.length + es.length ≤ sizeLine ∧ Q (.lst (ds ++ es)) ρ2) E
abbrev oNone : OTr := fun ρ Q _ => Q none ρ
abbrev oSome (t : ETr) : OTr := fun ρ Q E => t ρ (fun y ρ1 => match y with
      | .int i => Q (some i) ρ1
      | _ => False) E
abbrev nSlice (t : ETr) (tl th : OTr) : NTr := fun ρ Q E => t ρ (fun d ρ1 => tl ρ1 (fun l ρ2 => th ρ2 (fun h ρ3 => match d with
      | .lst ds => Q (.lst (cutD ds l h)) ρ3
      | _ => False) E) E) E
abbrev bVal (t : ETr) : TTr := fun ρ Q E => t ρ (fun d ρ' => onBl d fun b => Q b ρ') E
abbrev bAnd (t u : TTr) : TTr := fun ρ Q E => t ρ (fun c ρ' => br c (u ρ' Q E) (Q false ρ')) E
abbrev bOr (t u : TTr) : TTr := fun ρ Q E => t ρ (fun c ρ' => br c (Q true ρ') (u ρ' Q E)) E
abbrev bNot (t : TTr) : TTr := fun ρ Q E => t ρ (fun c ρ' => Q (!c) ρ') E
abbrev bOp (k : KTr2) (t u : ETr) : TTr := fun ρ Q E => t ρ (fun x ρ1 => u ρ1 (fun y ρ2 => k x y fun z => onBl z fun w => Q w ρ2) E) E
abbrev bChain (k k' : KTr2) (t u w : ETr) : TTr := fun ρ Q E => t ρ (fun x ρ1 => u ρ1 (fun y ρ2 => k x y fun z => onBl z fun l => br l (w ρ2 (fun v ρ3 => k' y v fun z' => onBl z' fun l' => Q l' ρ3) E) (Q false ρ2)) E) E
abbrev bIsN (t : ETr) : TTr := fun ρ Q E => t ρ (fun x ρ1 => Q (isNon x) ρ1) E
abbrev bNotN (t : ETr) : TTr := fun ρ Q E => t ρ (fun x ρ1 => Q (!isNon x) ρ1) E
abbrev bYes : TTr := fun ρ Q _ => Q true ρ
abbrev aNil : ATr := fun ρ Q E => Q [] ρ
abbrev aCons (t : ETr) (u : ATr) : ATr := fun ρ Q E => t ρ (fun d ρ1 => u ρ1 (fun ds ρ2 => Q (d :: ds) ρ2) E) E
abbrev qNil : AsTr := fun ρ Q _ => Q [] ρ
abbrev qVal (ms : List (Option Nat)) (t : ETr) (u : AsTr) : AsTr := fun ρ Q E => t ρ (fun d ρ1 => ownAll ms ρ1 ∧ u ρ1 (fun ds ρ2 => Q (d :: ds) ρ2) E) E
abbrev iSq (t : ETr) : ITr := fun ρ Q E => t ρ (fun d ρ1 => items d fun ds => Q ds ρ1) E
abbrev iR1 (t : ATr) : ITr := fun ρ Q E => t ρ (fun ds ρ1 => kRng1 ds fun is => Q is ρ1) E
abbrev iR2 (t : ATr) : ITr := fun ρ Q E => t ρ (fun ds ρ1 => kRng2 ds fun is => Q is ρ1) E
abbrev iZp (t : ATr) : ITr := fun ρ Q E => t ρ (fun ds ρ1 => kZip ds fun is => Q is ρ1) E
abbrev gNm (i : Nat) : GTr := fun d ρ Q => Q (ρ.set i (.val d))
abbrev gTp (n : Nat) (gs : GsTr) : GTr := fun d ρ Q => seqD d fun ds => ds.length = n ∧ gs ds ρ Q
abbrev sNil : STr := fun D ρ => D.nx ρ
abbrev sCons (t u : STr) : STr := fun D ρ => t { D with nx := u D } ρ
abbrev sIf (c : TTr) (t u : STr) : STr := fun D ρ => c ρ (fun b ρ' => br b (t D ρ') (u D ρ')) D.ex
abbrev sAsg (t : ETr) (g : GTr) : STr := fun D ρ => t ρ (fun d ρ' => g d ρ' D.nx) D.ex
abbrev sOwn (i : Nat) (t : NTr) : STr := fun D ρ => t ρ (fun m ρ' => D.nx (ρ'.set i (.own m))) D.ex
abbrev sLcO (i : Nat) (ti : ITr) (g : GTr) (tt : TTr) (t : ETr) (vs : List Nat) : STr := fun D ρ => ti ρ (fun ds ρ1 => compL g tt t vs ds [] ρ1 fun m ρ2 => D.nx (ρ2.set i (.own m))) D.ex
abbrev sLcV (i : Nat) (ti : ITr) (g : GTr) (tt : TTr) (t : ETr) (vs : List Nat) : STr := fun D ρ => ti ρ (fun ds ρ1 => compL g tt t vs ds [] ρ1 fun m ρ2 => D.nx (ρ2.set i (.val (frz m)))) D.ex
abbrev sFor (t : ITr) (g : GTr) (tb : STr) : STr := fun D ρ => t ρ (fun ds ρ' => forL g tb D ds ρ') D.ex
abbrev sWhile (c : TTr) (tb : STr) : STr := fun D ρ => ∃ n, whlN c tb D n ρ
abbrev sRet (t : ETr) : STr := fun D ρ => t ρ (fun d ρ' => D.rt (.val d) ρ') D.ex
abbrev sRetN : STr := fun D ρ => D.rt (.val .non) ρ
abbrev sRetO (i : Nat) : STr := fun D ρ => onOwn (gt ρ i) fun m => D.rt (.own m) ρ
abbrev sRetNew (t : NTr) : STr := fun D ρ => t ρ (fun m ρ' => D.rt (.own m) ρ') D.ex
abbrev sExpr (t : ETr) : STr := fun D ρ => t ρ (fun _ ρ' => D.nx ρ') D.ex
abbrev sApp (i : Nat) (t : ETr) : STr := fun D ρ => onLst (gt ρ i) fun _ => t ρ (fun d ρ1 => onLst (gt ρ1 i) fun ds => ds.length < sizeLine ∧ D.nx (ρ1.set i (.own (.lst (ds ++ [d]))))) D.ex
abbrev sSetIx (i : Nat) (t u : ETr) : STr := fun D ρ => t ρ (fun d ρ1 => onLst (gt ρ1 i) fun _ => u ρ1 (fun y ρ2 => onLst (gt ρ2 i) fun ds => match y with
      | .int k => onSome (ixN ds.length k) fun j => D.nx (ρ2.set i (.own (.lst (ds.set j d))))
      | _ => False) D.ex) D.ex
abbrev sFld (K : PySem.W.Frag) (i : Nat) (f : Str) (t : ETr) : STr := fun D ρ => t ρ (fun d ρ1 => onIns (gt ρ1 i) fun C ns ds => (FldOk K C f ∧ ns.length < 1000) ∧ putL f d ns ds fun ns' ds' => D.nx (ρ1.set i (.own (.ins C ns' ds')))) D.ex
abbrev sPass : STr := fun D ρ => D.nx ρ
abbrev sBrk : STr := fun D ρ => D.bk ρ
abbrev sCnt : STr := fun D ρ => D.ct ρ
abbrev sNever : STr := fun _ _ => False

/-! ### promises: of data alone; with a first argument that owns a list; of an __init__ -/
def valsOf : List Sl → Option (List D)
  | [] => some []
  | .val d :: r => (valsOf r).map (d :: ·)
  | _ :: _ => none
theorem valsOf_map : ∀ ds : List D, valsOf (ds.map Sl.val) = some ds
  | [] => rfl
  | d :: ds => by simp [valsOf, valsOf_map ds]
theorem valsOf_own : ∀ {sl : List Sl} {ds : List D} {i : Nat} {m : MO}, valsOf sl = some ds → sl[i]? = some (Sl.own m) → False
  | [], _, _, _, _, e => by simp at e
  | .val d :: r, ds, 0, m, _, e => by simp at e
  | .val d :: r, ds, i + 1, m, h, e => by
    simp only [valsOf, Option.map_eq_some_iff] at h
    obtain ⟨es, h, _⟩ := h
    exact valsOf_own (i := i) h (by simpa using e)
  | .un :: r, _, _, _, h, _ => by simp [valsOf] at h
  | .own _ :: r, _, _, _, h, _ => by simp [valsOf] at h
def pT (T : List D → (Sl → Prop) → (Exn → Prop) → Prop) : DSp := fun sl Q E => onSome (valsOf sl) fun ds => T ds (fun r => Q r sl) (fun x => E x sl)
def oT (T : List D → List D → (Sl → List D → Prop) → (Exn → List D → Prop) → Prop) : DSp := fun sl Q E => match sl with
  | .own (.lst src) :: r => onSome (valsOf r) fun ds => T src ds (fun v src' => Q v (.own (.lst src') :: r)) (fun x src' => E x (.own (.lst src') :: r))
  | _ => False
def iT (T : Addr → List D → (List Str → List D → Prop) → (Exn → Prop) → Prop) : DSp := fun sl Q E => match sl with
  | .own (.ins C [] []) :: r => onSome (valsOf r) fun ds => T C ds (fun ns fs => Q (.val .non) (.own (.ins C ns fs) :: r)) (fun x => E x sl)
  | _ => False
def OwnB (B : List Nat) (sl : List Sl) : Prop := (∀ (i : Nat) (m : MO), sl[i]? = some (Sl.own m) → i ∈ B) ∧ ∀ i ∈ B, ∃ m : MO, sl[i]? = some (Sl.own m)
theorem ownB_p {T : List D → (Sl → Prop) → (Exn → Prop) → Prop} (sl : List Sl) (Q : Sl → List Sl → Prop) (E : QE) (h : pT T sl Q E) : OwnB [] sl := by
  obtain ⟨ds, h, _⟩ := onSome_inv h
  exact ⟨fun i m e => (valsOf_own h e).elim, fun i hi => by simp at hi⟩
theorem ownB_o {T : List D → List D → (Sl → List D → Prop) → (Exn → List D → Prop) → Prop} (sl : List Sl) (Q : Sl → List Sl → Prop) (E : QE) (h : oT T sl Q E) : OwnB [0] sl := by
  unfold oT at h
  split at h
  · obtain ⟨ds, h, _⟩ := onSome_inv h
    refine ⟨fun i m e => ?_, fun i hi => ?_⟩
    · cases i with
      | zero => simp
      | succ i => exact (valsOf_own (i := i) h (by simpa using e)).elim
    · simp at hi; subst hi; exact ⟨_, by simp; rfl⟩
  · exact h.elim
theorem ownB_i {T : Addr → List D → (List Str → List D → Prop) → (Exn → Prop) → Prop} (sl : List Sl) (Q : Sl → List Sl → Prop) (E : QE) (h : iT T sl Q E) : OwnB [0] sl := by
  unfold iT at h
  split at h
  · obtain ⟨ds, h, _⟩ := onSome_inv h
    refine ⟨fun i m e => ?_, fun i hi => ?_⟩
    · cases i with
      | zero => simp
      | succ i => exact (valsOf_own (i := i) h (by simpa using e)).elim
    · simp at hi; subst hi; exact ⟨_, by simp; rfl⟩
  · exact h.elim
section
variable {X : Cx} {W : WX} {B : List Nat} {a b : Expr} {pos : Pos}
/-- + of ints, of texts -/
def kAddA : KTr2
  | .int i, .int j, Q => Q (.int (i + j))
  | .str i, .str j, Q => i.length + j.length ≤ sizeLine ∧ Q (.str (i ++ j))
  | _, _, _ => False
theorem opR_or {f : Value → Value → Sem Value} {r r' : R2} (h : OpR X f r) (h' : OpR X f r') : OpR X f (fun x y H Q => r x y H Q ∨ r' x y H Q) := fun pins s σ H x y v u Q I rx ry q => q.elim (h pins s σ H x y v u Q I rx ry) (h' pins s σ H x y v u Q I rx ry)
theorem de_addA {t u : ETr} (ha : DE X W B a t) (hb : DE X W B b u) : DE X W B (.BinOp a .Add b pos) (eOp kAddA t u) := de_op2 (pe_op (opR_or op_add op_add_str)) (fun F H x y d e Q Q' _ rx ry h k => by
  unfold kAddA at h
  split at h
  · exact .inl ⟨_, _, rep_int_inv rx, rep_int_inv ry, k _ _ rep_int h⟩
  · exact .inr ⟨_, _, rep_str_inv rx, rep_str_inv ry, h.1, k _ _ rep_str h.2⟩
  · exact h.elim) ha hb
end
end DL

namespace DL
open PySem L2 PySem.Spec PyProof.Rows
section
variable {X : Cx} {W : WX} {B : List Nat} {F F' F'' H H' H'' : Hp} {ρ ρ' ρ'' : List Sl} {σ σ' σ'' : L2.St} {e a b c tg : Expr} {es : List Expr} {st : Stmt} {sts : List Stmt} {pos : Pos}
/-! ### enumerate of a list -/
def enumD : Nat → List D → List D
  | _, [] => []
  | i, d :: ds => .tup [.int (i : Int), d] :: enumD (i + 1) ds
theorem enumD_length : ∀ (i : Nat) (ds : List D), (enumD i ds).length = ds.length
  | _, [] => rfl
  | i, d :: ds => by unfold enumD; rw [List.length_cons, List.length_cons, enumD_length]
theorem enumD_get : ∀ {ds : List D} {k i : Nat} {z : D}, (enumD k ds)[i]? = some z → ∃ d, ds[i]? = some d ∧ z = .tup [.int ((k + i : Nat) : Int), d]
  | [], _, i, z, h => by simp [enumD] at h
  | d :: ds, k, 0, z, h => by simp [enumD] at h; exact ⟨d, by simp, h.symm⟩
  | d :: ds, k, i + 1, z, h => by
    obtain ⟨d', h1, h2⟩ := enumD_get (k := k + 1) (i := i) (by simpa [enumD] using h)
    refine ⟨d', by simpa using h1, ?_⟩
    rw [h2, show k + 1 + i = k + (i + 1) by omega]
def kEnum : List D → (List D → Prop) → Prop
  | [.lst ds], k => k (enumD 0 ds)
  | _, _ => False
abbrev iEn (t : ATr) : ITr := fun ρ Q E => t ρ (fun ds ρ1 => kEnum ds fun is => Q is ρ1) E
theorem di_enum {p tpos : Pos} {elts : List Expr} {kk : Nat} {t : ATr} (ha : DA X W B [e] t) (hm : X.mg "enumerate" = none) (hg : Gl X "enumerate" := by rfl) (hs : starEach [e] X.env = [(false, eval e X.env)] := by rfl) :
    DI X W B (.Tuple elts kk tpos) (.Call (.Name "enumerate" p) [e] [] pos) (iEn t) := by
  obtain ⟨te, pe, run⟩ := ha
  refine ⟨_, pi_enum hg hm pe hs, fun F H ρ σ Q E R' R ex h k => run F H ρ σ _ E _ R ex h fun ds ρ1 vs F1 H1 s1 R1 rs hl q => ?_⟩
  unfold kEnum at q
  split at q
  · obtain ⟨v, rfl, rv⟩ := reps1 rs
    unfold Rep at rv
    obtain ⟨p1, us, rfl, sq, rr⟩ := rv
    refine ⟨p1, us, rfl, R1.le.sql sq, k _ _ _ _ _ s1 R1 ⟨fun i d hd F2 H2 l1 l2 => ?_, fun F2 H2 l1 l2 => ⟨us, (l1.trans l2).sql sq, by rw [enumD_length, rr.length]; exact Nat.le_refl _⟩⟩ q⟩
    obtain ⟨d1, h1, rfl⟩ := enumD_get hd
    obtain ⟨u1, g1, ru1⟩ := rr.get h1
    refine ⟨⟨us, u1, (l1.trans l2).sql sq, g1⟩, fun x H3 ⟨T, y, ex, hT, e3, z1⟩ => .inr ⟨T, [.int (i : Nat), y], [.int ((0 + i : Nat) : Int), d1], hT, e3, ex, rfl, ?_⟩⟩
    have w1 := z1 us ((l1.trans l2).sql sq)
    rw [g1] at w1; cases w1
    rw [Nat.zero_add]
    exact .cons rep_int (.cons (ru1.mono l1) .nil)
  · exact q.elim
/-! ### x.pop(e) as a statement -/
abbrev sPopAt (i : Nat) (t : ETr) : STr := fun D ρ => onLst (gt ρ i) fun _ => t ρ (fun d ρ1 => onLst (gt ρ1 i) fun ds => match d with
      | .int j => (-(2 ^ 63) ≤ j ∧ j < 2 ^ 63) ∧ onSome (seqIndex? j ds.length) fun k => k < ds.length ∧ D.nx (ρ1.set i (.own (.lst (ds.eraseIdx k))))
      | _ => False) D.ex
theorem Reps.eraseIdx {K : PySem.W.Frag} : ∀ {ds : List D} {vs : List V} (k : Nat), Reps K F ds vs → Reps K F (ds.eraseIdx k) (vs.eraseIdx k)
  | [], _, k, h => by rw [h.nil_inv]; exact .nil
  | d :: ds, _, 0, h => by
    obtain ⟨v, r, rfl, q, s⟩ := h.cons_inv
    exact s
  | d :: ds, _, k + 1, h => by
    obtain ⟨v, r, rfl, q, s⟩ := h.cons_inv
    exact .cons q (Reps.eraseIdx k s)
section
variable {x : Str} {pos' apos cpos : Pos}
theorem ds_popAt (i : Nat) {t : ETr} (he : DE X W B e t) (hN : X.N[i]? = some x := by rfl) (hv : Vis X.env.scope x := by first | exact Or.inl rfl | exact Or.inr (Or.inl rfl) | exact Or.inr (Or.inr rfl)) (hd : (x == ("__debug__" : Str)) = false := by decide)
    (hcd : (x == ("__classdict__" : Str)) = false := by decide)
    (hbase : attributeBase (.Name x pos') "pop" X.env (eval (.Name x pos') X.env) = eval (.Name x pos') X.env := by rfl)
    (hfew : ((backTo cpos (starEach (e :: []) X.env)).all (fun x => !x.1) && (backToKw cpos (keywordEach [] X.env)).all (fun x => x.1.isSome) && decide ((e :: []).length + ([] : List Keyword).length + (if ([] : List Keyword).isEmpty then 0 else 1) < 30)) = true := by rfl)
    (hline : (apos.endLine == cpos.line) = true := by rfl) (hs : starEach (e :: []) X.env = (false, eval e X.env) :: starEach [] X.env := by rfl) (hpl : (backTo cpos (starEach [] X.env)).any (·.1) = false := by rfl)
    (hsw : swapsWith (.Call (.Attribute (.Name x pos') "pop" apos) [e] [] cpos) none pos.line X.env = pure false := by rfl) :
    DS X W B (.Expr (.Call (.Attribute (.Name x pos') "pop" apos) [e] [] cpos) pos) (sPopAt i t) := by
  obtain ⟨te, pe, run⟩ := he
  refine ⟨_, ps_expr (pe_bm PySem.F.plainAttrs_list PySem.F.slot_list_pop PySem.F.type_list_pop mt_popAt (pe_var hN hv hd hcd) (pa_cons pe pa_nil hs) hbase hfew hline hs hpl) hsw, fun F H ρ σ D' D R ER h => ?_⟩
  obtain ⟨ds0, e0, h⟩ := onLst_inv h
  obtain ⟨p, s, n, vs0, hp0, _⟩ := slot_ref R e0
  refine ⟨.ref p, s, .inl ⟨rfl, vs0, SqL.of hp0⟩, run F H ρ σ _ D'.ex _ R ER.ex h fun d ρ1 v F1 H1 s1 R1 r1 q => ?_⟩
  obtain ⟨ds, e1, q⟩ := onLst_inv q
  obtain ⟨p', s', n', vs, hp, rs⟩ := slot_ref R1 e1
  rw [s] at s'; cases s'
  cases d with
  | int j =>
    obtain ⟨⟨h1, h2⟩, q⟩ := q
    obtain ⟨k, hk, hlt, q⟩ := onSome_inv q
    cases rep_int_inv r1
    have hlt' : k < vs.length := by rw [← rs.length]; exact hlt
    refine ⟨p, vs, j, k, vs[k], rfl, rfl, hp, h1, h2, by rw [← rs.length]; exact hk, by simp [hlt'], ?_⟩
    obtain ⟨s2, R2⟩ := own_upd (B := B) (o := .lst (vs.eraseIdx k)) (m' := .lst (ds.eraseIdx k)) R1 e1 s ⟨_, upd_same, rs.eraseIdx k⟩
    exact ER.nx _ σ _ _ (s1.st.trans s2.st) R2 q
  | _ => exact q.elim
end
end
/-- a def that is never called -/
theorem cal_false {P : Program} {w : World} {K : PySem.W.Frag} {mg : Str → Option Value} {base : Heap} {x qual : Str} {params : Arguments} {body : List Stmt} {scope : Scope} {dvs : List V} {kws : List (Str × V)} {f : Addr} {fd : FuncData} {ps : List Str} {k n : Nat}
    (Fn : FunD K x qual params body scope dvs kws f fd) (hm : mg x = some (.ref f)) (hb : Binds K fd ps []) : Cal P w K mg base k x n (fun _ _ _ => False) :=
  ⟨f, fd, ps, ⟨fun vs H Q E ⟨_, _, _, _, _, _, h, _⟩ => h.elim, fun A outer s H args us vs Q E _ _ _ _ ⟨_, _, _, _, _, _, h, _⟩ => h.elim⟩, hm, Fn.kp, hb⟩
end DL

/-! Lemmas for the plain side. -/
namespace DL
open PySem L2
theorem valsOf_inv : ∀ {sl : List Sl} {ds : List D}, valsOf sl = some ds → sl = ds.map Sl.val
  | [], ds, h => by simp [valsOf] at h; subst h; rfl
  | .val d :: r, ds, h => by
    simp only [valsOf, Option.map_eq_some_iff] at h
    obtain ⟨es, h, rfl⟩ := h
    rw [valsOf_inv h]; rfl
  | .un :: r, _, h => by simp [valsOf] at h
  | .own _ :: r, _, h => by simp [valsOf] at h
theorem pT_in {T : List D → (Sl → Prop) → (Exn → Prop) → Prop} {G : List Sl → (Sl → List Sl → Prop) → QE → Prop}
    (h : ∀ ds Q E, T ds (fun r => Q r (ds.map Sl.val)) (fun x => E x (ds.map Sl.val)) → G (ds.map Sl.val) Q E) : ∀ sl Q E, pT T sl Q E → G sl Q E := by
  intro sl Q E q
  obtain ⟨ds, e, q⟩ := onSome_inv q
  cases valsOf_inv e
  exact h ds Q E q
theorem oT_in {T : List D → List D → (Sl → List D → Prop) → (Exn → List D → Prop) → Prop} {G : List Sl → (Sl → List Sl → Prop) → QE → Prop}
    (h : ∀ src ds Q E, T src ds (fun v s => Q v (.own (.lst s) :: ds.map Sl.val)) (fun x s => E x (.own (.lst s) :: ds.map Sl.val)) → G (.own (.lst src) :: ds.map Sl.val) Q E) : ∀ sl Q E, oT T sl Q E → G sl Q E := by
  intro sl Q E q
  unfold oT at q
  split at q
  · obtain ⟨ds, e, q⟩ := onSome_inv q
    cases valsOf_inv e
    exact h _ ds Q E q
  · exact q.elim
theorem iT_in {T : Addr → List D → (List Str → List D → Prop) → (Exn → Prop) → Prop} {G : List Sl → (Sl → List Sl → Prop) → QE → Prop}
    (h : ∀ C ds Q E, T C ds (fun ns fs => Q (.val .non) (.own (.ins C ns fs) :: ds.map Sl.val)) (fun x => E x (.own (.ins C [] []) :: ds.map Sl.val)) → G (.own (.ins C [] []) :: ds.map Sl.val) Q E) : ∀ sl Q E, iT T sl Q E → G sl Q E := by
  intro sl Q E q
  unfold iT at q
  split at q
  · obtain ⟨ds, e, q⟩ := onSome_inv q
    cases valsOf_inv e
    exact h _ ds Q E q
  · exact q.elim
theorem pT_v {T : List D → (Sl → Prop) → (Exn → Prop) → Prop} {ds : List D} {Q : Sl → List Sl → Prop} {E : QE} : pT T (ds.map Sl.val) Q E = T ds (fun r => Q r (ds.map Sl.val)) (fun x => E x (ds.map Sl.val)) := by
  unfold pT; rw [valsOf_map]; rfl
theorem oT_v {T : List D → List D → (Sl → List D → Prop) → (Exn → List D → Prop) → Prop} {src ds : List D} {Q : Sl → List Sl → Prop} {E : QE} :
    oT T (.own (.lst src) :: ds.map Sl.val) Q E = T src ds (fun v s => Q v (.own (.lst s) :: ds.map Sl.val)) (fun x s => E x (.own (.lst s) :: ds.map Sl.val)) := by
  unfold oT; simp only [valsOf_map]; rfl
theorem br_t {p q : Prop} : br true p q = p := rfl
theorem br_f {p q : Prop} : br false p q = q := rfl
theorem br_ite {b : Bool} {p q : Prop} : br b p q = if b = true then p else q := by cases b <;> rfl
theorem br_pq {b : Bool} {p q : Prop} (h1 : b = true → p) (h2 : b = false → q) : br b p q := by
  cases b
  · exact h2 rfl
  · exact h1 rfl
/-- a comprehension that maps: the slots stay -/
theorem compL_map {g : GTr} {te : ETr} {vs : List Nat} {ρ : List Sl} {Q : MO → List Sl → Prop} (f : D → D) (r3 : D → List Sl) (hn : noOwn ρ vs) : ∀ (ds acc : List D), acc.length + ds.length ≤ sizeLine →
    (∀ d ∈ ds, back ρ (r3 d) vs = ρ) → (∀ d ∈ ds, ∀ k : D → List Sl → Prop, k (f d) (r3 d) → g d (wipeD ρ vs) fun ρ1 => te ρ1 k E0D) → Q (.lst (acc ++ ds.map f)) ρ → compL g bYes te vs ds acc ρ Q
  | [], acc, _, _, _, q => by simpa [compL] using q
  | d :: ds, acc, hl, hb, h, q => by
    unfold compL
    refine ⟨hn, ?_⟩
    have hl' : (acc ++ [f d]).length + ds.length ≤ sizeLine := by simp only [List.length_append, List.length_cons, List.length_nil] at hl ⊢; omega
    have go := compL_map f r3 hn ds (acc ++ [f d]) hl' (fun d hd => hb d (List.mem_cons_of_mem _ hd)) (fun d hd => h d (List.mem_cons_of_mem _ hd)) (Q := Q) (by simpa using q)
    refine h d List.mem_cons_self _ ?_
    show acc.length < sizeLine ∧ compL g bYes te vs ds (acc ++ [f d]) (back ρ (r3 d) vs) Q
    rw [hb d List.mem_cons_self]
    exact ⟨by simp only [List.length_cons] at hl; omega, go⟩
inductive All2 {α β : Type} (P : α → β → Prop) : List α → List β → Prop
  | nil : All2 P [] []
  | cons {a b as bs} : P a b → All2 P as bs → All2 P (a :: as) (b :: bs)
theorem All2.length {α β : Type} {P : α → β → Prop} {as : List α} {bs : List β} (h : All2 P as bs) : as.length = bs.length := by
  induction h with
  | nil => rfl
  | cons _ _ ih => simp [ih]
theorem All2.right {α β : Type} {P : α → β → Prop} {R : β → Prop} (hr : ∀ a b, P a b → R b) {as : List α} {bs : List β} (h : All2 P as bs) : ∀ b ∈ bs, R b := by
  induction h with
  | nil => simp
  | cons p _ ih => intro b hb; exact (List.mem_cons.mp hb).elim (fun e => e ▸ hr _ _ p) (ih b)
theorem All2.mp {α β γ : Type} {P : α → β → Prop} {R : α → γ → Prop} {f : γ → β} (h : ∀ a b, P a b → ∃ c, b = f c ∧ R a c) {as : List α} {bs : List β} (a : All2 P as bs) : ∃ cs : List γ, bs = cs.map f ∧ All2 R as cs := by
  induction a with
  | nil => exact ⟨[], rfl, .nil⟩
  | cons p _ ih =>
    obtain ⟨c, rfl, r⟩ := h _ _ p
    obtain ⟨cs, rfl, rs⟩ := ih
    exact ⟨c :: cs, rfl, .cons r rs⟩
/-- a comprehension whose elements are drawn: an invariant of the slots, a relation of item and element -/
theorem compL_any {g : GTr} {te : ETr} {vs : List Nat} {Q : MO → List Sl → Prop} (I : List Sl → Prop) (P : D → D → Prop) : ∀ (ds acc : List D) (ρ : List Sl), acc.length + ds.length ≤ sizeLine →
    (∀ d ∈ ds, ∀ ρ, I ρ → noOwn ρ vs ∧ ∀ k : D → List Sl → Prop, (∀ z ρ3, P d z → I (back ρ ρ3 vs) → k z ρ3) → g d (wipeD ρ vs) fun ρ1 => te ρ1 k E0D) → I ρ → (∀ zs ρ, All2 P ds zs → I ρ → Q (.lst (acc ++ zs)) ρ) → compL g bYes te vs ds acc ρ Q
  | [], acc, ρ, _, _, i, q => by
    have := q [] ρ .nil i
    simpa [compL] using this
  | d :: ds, acc, ρ, hl, h, i, q => by
    unfold compL
    obtain ⟨hn, hk⟩ := h d List.mem_cons_self ρ i
    refine ⟨hn, hk _ fun z ρ3 pz iz => ?_⟩
    show acc.length < sizeLine ∧ compL g bYes te vs ds (acc ++ [z]) (back ρ ρ3 vs) Q
    have hl' : (acc ++ [z]).length + ds.length ≤ sizeLine := by simp only [List.length_append, List.length_cons, List.length_nil] at hl ⊢; omega
    refine ⟨by simp only [List.length_cons] at hl; omega, compL_any I P ds (acc ++ [z]) _ hl' (fun d hd => h d (List.mem_cons_of_mem _ hd)) iz fun zs ρ' a i' => ?_⟩
    have := q (z :: zs) ρ' (.cons pz a) i'
    simpa using this
/-- a for: an invariant of what is left and the slots -/
theorem forL_inv {g : GTr} {tb : STr} {D' : DEnds} (I : List D → List Sl → Prop) : ∀ (ds : List D) (ρ : List Sl), (∀ ρ, I [] ρ → D'.nx ρ) →
    (∀ d ds ρ, I (d :: ds) ρ → ∀ nx : List Sl → Prop, (∀ ρ', I ds ρ' → nx ρ') → g d ρ fun ρ' => tb { D' with nx := nx, ct := nx, bk := D'.nx } ρ') → I ds ρ → forL g tb D' ds ρ
  | [], ρ, h0, _, i => by unfold forL; exact h0 ρ i
  | d :: ds, ρ, h0, h1, i => by
    unfold forL
    exact h1 d ds ρ i _ fun ρ' i' => forL_inv I ds ρ' h0 h1 i'
theorem rng_length {lo : Int} {n : Nat} : (rng lo n).length = n := by unfold rng; simp
theorem rng_mem {lo : Int} {n : Nat} {d : D} : d ∈ rng lo n ↔ ∃ i : Nat, i < n ∧ d = .int (lo + i) := by
  unfold rng; simp [eq_comm]
/-- ints, lists of ints -/
def iL (l : List Int) : D := .lst (l.map D.int)
def tL (t : List (List Int)) : D := .lst (t.map iL)
theorem atI_map {α β : Type} {f : α → β} {l : List α} {i : Int} : L2.atI (l.map f) i = (L2.atI l i).map f := by
  unfold L2.atI
  rw [List.length_map]
  cases L2.ixN l.length i with
  | none => rfl
  | some j => simp
theorem atI_nat {α : Type} {l : List α} {j : Nat} (h : j < l.length) : L2.atI l (j : Int) = some l[j] := by
  unfold L2.atI L2.ixN
  rw [if_pos (by omega), if_pos (by omega)]
  simp [h]
theorem atI_pos {α : Type} {l : List α} {i : Int} (h0 : 0 ≤ i) (h1 : i < l.length) : ∃ h : i.toNat < l.length, L2.atI l i = some l[i.toNat] := by
  refine ⟨by omega, ?_⟩
  unfold L2.atI L2.ixN
  rw [if_pos h0, if_pos h1]
  simp
theorem atI_last {α : Type} {l : List α} (h : l ≠ []) : L2.atI l (-1) = some (l.getLast h) := by
  have := List.length_pos_iff.mpr h
  unfold L2.atI L2.ixN
  rw [if_neg (by omega), if_pos (by omega)]
  simp only [Option.bind_some]
  rw [show ((-1 : Int) + (l.length : Int)).toNat = l.length - 1 by omega, List.getLast_eq_getElem]
  exact List.getElem?_eq_getElem (by omega)
/-! the readings' parts, by cases -/
theorem s_onVal {d : D} {k : D → Prop} : onVal (.val d) k = k d := rfl
theorem s_onOwn {m : MO} {k : MO → Prop} : onOwn (.own m) k = k m := rfl
theorem s_onLst {ds : List D} {k : List D → Prop} : onLst (.own (.lst ds)) k = k ds := rfl
theorem s_onIns {C : Addr} {ns : List Str} {ds : List D} {k : Addr → List Str → List D → Prop} : onIns (.own (.ins C ns ds)) k = k C ns ds := rfl
theorem s_onL {ds : List D} {k : List D → Prop} : onL (.lst ds) k = k ds := rfl
theorem s_onBl {b : Bool} {k : Bool → Prop} : onBl (.bl b) k = k b := rfl
theorem s_some {α : Type} {a : α} {k : α → Prop} : onSome (some a) k = k a := rfl
theorem s_kI {C : Int → Int → Prop} {g : Int → Int → D} {i j : Int} {Q : D → Prop} : kI C g (.int i) (.int j) Q = (C i j ∧ Q (g i j)) := rfl
theorem s_addI {i j : Int} {Q : D → Prop} : kAddA (.int i) (.int j) Q = Q (.int (i + j)) := rfl
theorem s_addS {i j : Str} {Q : D → Prop} : kAddA (.str i) (.str j) Q = (i.length + j.length ≤ sizeLine ∧ Q (.str (i ++ j))) := rfl
theorem s_neg {i : Int} {P : Prop} {Q : D → Prop} : (match D.int i with | .int i => Q (.int (-i)) | _ => P) = Q (.int (-i)) := rfl
theorem s_eqI {i j : Int} {Q : D → Prop} : kEq (.int i) (.int j) Q = Q (.bl (decide (i = j))) := rfl
theorem s_neI {i j : Int} {Q : D → Prop} : kNe (.int i) (.int j) Q = Q (.bl (!decide (i = j))) := rfl
theorem s_eqS {i j : Str} {Q : D → Prop} : kEq (.str i) (.str j) Q = Q (.bl (decide (i = j))) := rfl
theorem s_neS {i j : Str} {Q : D → Prop} : kNe (.str i) (.str j) Q = Q (.bl (!decide (i = j))) := rfl
theorem s_ixL {ds : List D} {i : Int} {Q : D → Prop} : kIx (.lst ds) (.int i) Q = onSome (L2.atI ds i) Q := rfl
theorem s_ixT {ds : List D} {i : Int} {Q : D → Prop} : kIx (.tup ds) (.int i) Q = onSome (L2.atI ds i) Q := rfl
theorem s_ixS {s : Str} {i : Int} {Q : D → Prop} : kIx (.str s) (.int i) Q = (s.length ≤ sizeLine ∧ onSome (L2.atI s.cps.toList i) fun c => Q (.str ⟨#[c]⟩)) := rfl
theorem s_ixO {ds : List D} {i : Int} {Q : D → Prop} : kIxO (.lst ds) (.int i) Q = onSome (L2.atI ds i) Q := rfl
theorem s_lenS {s : Str} {Q : D → Prop} : kLen [.str s] Q = (s.length ≤ sizeLine ∧ Q (.int s.length)) := rfl
theorem s_lenL {s : List D} {Q : D → Prop} : kLen [.lst s] Q = Q (.int s.length) := rfl
theorem s_lenT {s : List D} {Q : D → Prop} : kLen [.tup s] Q = Q (.int s.length) := rfl
theorem s_abs {i : Int} {Q : D → Prop} : kAbs [.int i] Q = Q (.int (i.natAbs : Int)) := rfl
theorem s_intI {i : Int} {Q : D → Prop} : kInt1 [.int i] Q = Q (.int i) := rfl
theorem s_intB {i : Bool} {Q : D → Prop} : kInt1 [.bl i] Q = Q (.int (if i then 1 else 0)) := rfl
theorem s_max2 {i j : Int} {Q : D → Prop} : kMax2 [.int i, .int j] Q = Q (.int (max i j)) := rfl
theorem s_min2 {i j : Int} {Q : D → Prop} : kMin2 [.int i, .int j] Q = Q (.int (min i j)) := rfl
theorem s_itL {s : List D} {k : List D → Prop} : items (.lst s) k = k s := rfl
theorem s_itT {s : List D} {k : List D → Prop} : items (.tup s) k = k s := rfl
theorem s_itS {s : Str} {k : List D → Prop} : items (.str s) k = k (signs s) := rfl
theorem s_rng1 {j : Int} {k : List D → Prop} : kRng1 [.int j] k = ((-(2 ^ 62) ≤ j ∧ j < 2 ^ 62) ∧ k (rng 0 j.toNat)) := rfl
theorem s_rng2 {i j : Int} {k : List D → Prop} : kRng2 [.int i, .int j] k = ((-(2 ^ 62) ≤ i ∧ i < 2 ^ 62 ∧ -(2 ^ 62) ≤ j ∧ j < 2 ^ 62) ∧ k (rng i (j - i).toNat)) := rfl
theorem s_zipL {a b : List D} {k : List D → Prop} : kZip [.lst a, .lst b] k = k (zipD a b) := rfl
theorem s_zipT {a b : List D} {k : List D → Prop} : kZip [.tup a, .tup b] k = k (zipD a b) := rfl
theorem s_enL {a : List D} {k : List D → Prop} : kEnum [.lst a] k = k (enumD 0 a) := rfl
theorem s_seqL {a : List D} {k : List D → Prop} : seqD (.lst a) k = k a := rfl
theorem s_seqT {a : List D} {k : List D → Prop} : seqD (.tup a) k = k a := rfl
theorem s_minL {l : List Int} {Q : D → Prop} : kMinL [.lst (l.map D.int)] Q = (l ≠ [] ∧ Q (.int (lmin l))) := by
  show onSome (asInts (l.map D.int)) (fun ns => ns ≠ [] ∧ Q (.int (lmin ns))) = _
  rw [asInts_map]; rfl
theorem s_maxL {l : List Int} {Q : D → Prop} : kMaxL [.lst (l.map D.int)] Q = (l ≠ [] ∧ Q (.int (lmax l))) := by
  show onSome (asInts (l.map D.int)) (fun ns => ns ≠ [] ∧ Q (.int (lmax ns))) = _
  rw [asInts_map]; rfl
theorem s_sum {l : List Int} {Q : D → Prop} : kSum [.lst (l.map D.int)] Q = Q (.int l.sum) := by
  show onSome (asInts (l.map D.int)) (fun ns => Q (.int ns.sum)) = _
  rw [asInts_map]; rfl
theorem s_isBl {d : D} {b : Bool} {Q : D → Prop} : kIsBl d (.bl b) Q = Q (.bl (isBlD d b)) := rfl
theorem s_fld {K : PySem.W.Frag} {f : Str} {C : Addr} {ns : List Str} {ds : List D} {Q : D → Prop} : kFld K f (.obj C ns ds) Q = (FldOk K C f ∧ onSome (lk f ns ds) Q) := rfl
theorem s_vNil : valsOf [] = some [] := rfl
theorem s_vCons {d : D} {r : List Sl} : valsOf (.val d :: r) = (valsOf r).map (d :: ·) := rfl
theorem s_frzL {ds : List D} : frz (.lst ds) = .lst ds := rfl
theorem s_frzI {C : Addr} {ns : List Str} {ds : List D} : frz (.ins C ns ds) = .obj C ns ds := rfl
theorem s_gt0 {s : Sl} {r : List Sl} : gt (s :: r) 0 = s := rfl
theorem at0 {α : Type} {a : α} {l : List α} : L2.atI (a :: l) 0 = some a := by
  obtain ⟨_, e⟩ := atI_pos (l := a :: l) (i := 0) (by omega) (by simp only [List.length_cons]; omega); exact e
theorem at1 {α : Type} {a b : α} {l : List α} : L2.atI (a :: b :: l) 1 = some b := by
  obtain ⟨_, e⟩ := atI_pos (l := a :: b :: l) (i := 1) (by omega) (by simp only [List.length_cons]; omega); exact e
theorem at2 {α : Type} {a b c : α} {l : List α} : L2.atI (a :: b :: c :: l) 2 = some c := by
  obtain ⟨_, e⟩ := atI_pos (l := a :: b :: c :: l) (i := 2) (by omega) (by simp only [List.length_cons]; omega); exact e
theorem at3 {α : Type} {a b c d : α} {l : List α} : L2.atI (a :: b :: c :: d :: l) 3 = some d := by
  obtain ⟨_, e⟩ := atI_pos (l := a :: b :: c :: d :: l) (i := 3) (by omega) (by simp only [List.length_cons]; omega); exact e
theorem ix30 : L2.ixN 3 0 = some 0 := by decide
theorem ix31 : L2.ixN 3 1 = some 1 := by decide
theorem ix32 : L2.ixN 3 2 = some 2 := by decide
theorem eqS {a b : Str} (h : a = b) : decide (a = b) = true := by simp [h]
theorem isInt_int {i : Int} : isInt (.int i) = some true := rfl
/-- what a family of promises says of a slot list of values -/
theorem pT_cons {T : List D → (Sl → Prop) → (Exn → Prop) → Prop} {sl : List Sl} {Q : Sl → List Sl → Prop} {E : QE} : pT T sl Q E = onSome (valsOf sl) fun ds => T ds (fun r => Q r sl) (fun x => E x sl) := rfl
theorem oT_cons {T : List D → List D → (Sl → List D → Prop) → (Exn → List D → Prop) → Prop} {src : List D} {r : List Sl} {Q : Sl → List Sl → Prop} {E : QE} :
    oT T (.own (.lst src) :: r) Q E = onSome (valsOf r) fun ds => T src ds (fun v s => Q v (.own (.lst s) :: r)) (fun x s => E x (.own (.lst s) :: r)) := rfl
theorem iT_cons {T : Addr → List D → (List Str → List D → Prop) → (Exn → Prop) → Prop} {C : Addr} {r : List Sl} {Q : Sl → List Sl → Prop} {E : QE} :
    iT T (.own (.ins C [] []) :: r) Q E = onSome (valsOf r) fun ds => T C ds (fun ns fs => Q (.val .non) (.own (.ins C ns fs) :: r)) (fun x => E x (.own (.ins C [] []) :: r)) := rfl
theorem s_none {α : Type} {k : α → Prop} : onSome none k = False := rfl
theorem s_put0 {f : Str} {d : D} {k : List Str → List D → Prop} : putL f d [] [] k = k [f] [d] := rfl
theorem s_put {f n : Str} {d e : D} {ns : List Str} {ds : List D} {k : List Str → List D → Prop} : putL f d (n :: ns) (e :: ds) k = if n = f then k (n :: ns) (d :: ds) else putL f d ns ds fun ns' ds' => k (n :: ns') (e :: ds') := rfl
theorem s_lk {f n : Str} {d : D} {ns : List Str} {ds : List D} : lk f (n :: ns) (d :: ds) = if f = n then some d else lk f ns ds := rfl
theorem s_find {a b : Str} {Q : D → Prop} : kFind (.str a) (.str b) Q = Q (.int (Txt.find a b)) := rfl
theorem s_join {a : Str} {d : D} {Q : D → Prop} : kJoin (.str a) d Q = seqD d fun ds => onSome (asStrs ds) fun ys => (ys.map (·.length)).sum + ys.length * a.length ≤ 16777216 ∧ Q (.str (Txt.join a ys)) := rfl
theorem ixN_pos {n : Nat} {i : Int} (h0 : 0 ≤ i) (h1 : i < n) : L2.ixN n i = some i.toNat := by unfold L2.ixN; rw [if_pos h0, if_pos h1]
theorem at_neg {α : Type} {l : List α} {i : Int} (h0 : i < 0) (h1 : -(l.length : Int) ≤ i) : ∃ h : (i + l.length).toNat < l.length, L2.atI l i = some l[(i + l.length).toNat] := by
  refine ⟨by omega, ?_⟩
  unfold L2.atI L2.ixN
  rw [if_neg (by omega), if_pos h1]
  simp
theorem tru_and {p : Prop} : (True ∧ p) = p := by simp
theorem notInS_of {c : Nat} {z : Str} {Q : D → Prop} : kNotInS (.str ⟨#[c]⟩) (.str z) Q = Q (.bl (!decide (c ∈ z.cps.toList))) := rfl
theorem inS_of {c : Nat} {z : Str} {Q : D → Prop} : kInS (.str ⟨#[c]⟩) (.str z) Q = Q (.bl (decide (c ∈ z.cps.toList))) := rfl
end DL

/-! Stores, rows, draws as plain data. -/
namespace DL
open PySem L2
theorem fmod_in (a : Int) {b : Int} (h : 0 < b) : 0 ≤ a.fmod b ∧ a.fmod b < b := by
  rw [Int.fmod_eq_emod_of_nonneg a (Int.le_of_lt h)]
  exact ⟨Int.emod_nonneg a (by omega), Int.emod_lt_of_pos a h⟩
theorem cmul_r {i j : Int} (h : -(2 ^ 64) < j ∧ j < 2 ^ 64) : CMul i j := .inr h
theorem cmul_l {i j : Int} (h : -(2 ^ 64) < i ∧ i < 2 ^ 64) : CMul i j := .inl h
/-- a for that asks all, and returns False at the first that is not -/
theorem forL_all {g : GTr} {tb : STr} {D' : DEnds} (I : List Sl → Prop) (ok : D → Prop) : ∀ (ds : List D) (ρ : List Sl),
    (∀ d ∈ ds, ∀ ρ, I ρ → ∀ nx : List Sl → Prop, (ok d → ∀ ρ', I ρ' → nx ρ') → (¬ ok d → ∀ ρ', I ρ' → D'.rt (.val (.bl false)) ρ') → g d ρ fun ρ' => tb { D' with nx := nx, ct := nx, bk := D'.nx } ρ') →
    ((∀ d ∈ ds, ok d) → ∀ ρ, I ρ → D'.nx ρ) → ((∃ d ∈ ds, ¬ ok d) → ∀ ρ, I ρ → D'.rt (.val (.bl false)) ρ) → I ρ → forL g tb D' ds ρ
  | [], ρ, _, h1, _, i => by unfold forL; exact h1 (by simp) ρ i
  | d :: ds, ρ, h0, h1, h2, i => by
    unfold forL
    refine h0 d List.mem_cons_self ρ i _ (fun hd ρ' i' => forL_all I ok ds ρ' (fun e he => h0 e (List.mem_cons_of_mem _ he)) (fun h => h1 fun e he => ?_) (fun ⟨e, he, hn⟩ => h2 ⟨e, List.mem_cons_of_mem _ he, hn⟩) i') fun hd ρ' i' => h2 ⟨d, List.mem_cons_self, hd⟩ ρ' i'
    exact (List.mem_cons.mp he).elim (fun z => z ▸ hd) (h e)
/-- a source of draws -/
def Src (s : List D) : Prop := ∃ n m c : Int, s = [.int n, .int m, .int c] ∧ 0 ≤ m ∧ m < 2147483647
def ScriptOk (ns : List Int) : Prop := ns.length ≤ 63
/-- stores -/
structure Wd where
  a : Str
  b : List Int
  c : List (List (List Int))
  e : List Int
def Sq (n : Nat) (t : List (List Int)) : Prop := t.length = n ∧ ∀ l ∈ t, l.length = n
structure WOk (n : Nat) (w : Wd) : Prop where
  b : w.b.length = n
  e : w.e.length = n
  c : w.c.length = w.a.length
  q : ∀ t ∈ w.c, Sq n t
def wL (w : Wd) : List D := [.str w.a, iL w.b, .lst (w.c.map tL), iL w.e]
def wD (w : Wd) : D := .lst (wL w)
def iU (l : List Int) : D := .tup (l.map D.int)
def tT (t : List (List Int)) : D := .tup (t.map iU)
def sL (w : Wd) : List D := [.str w.a, iU w.b, .tup (w.c.map tT), iU w.e]
def asksL : List Str := ["ab", "bf", "acd", "ah", "a", "ce"]
def AOk (a : Str) : Prop := a ∈ asksL
/-- the price of the ask k from s to t -/
def pr (c : List (List (List Int))) (k s t : Nat) : Int := ((c.getD k []).getD s []).getD t 0
theorem getD_get {α : Type} {l : List α} {i : Nat} {x : α} (h : i < l.length) : l.getD i x = l[i] := by
  rw [List.getD_eq_getElem?_getD, List.getElem?_eq_getElem h]; rfl
theorem at_int {l : List Int} {i : Int} (h0 : 0 ≤ i) (h1 : i < l.length) : L2.atI (l.map D.int) i = some (.int (l.getD i.toNat 0)) := by
  rw [atI_map]
  obtain ⟨h, e⟩ := atI_pos h0 h1
  rw [e, getD_get h]; rfl
theorem at_nat {l : List Int} {i : Nat} (h1 : i < l.length) : L2.atI (l.map D.int) (i : Int) = some (.int (l.getD i 0)) := by
  have := at_int (l := l) (i := i) (by omega) (by omega)
  simpa using this
theorem at_map {α : Type} {f : α → D} {l : List α} {i : Int} {x : α} (h0 : 0 ≤ i) (h1 : i < l.length) : L2.atI (l.map f) i = some (f (l.getD i.toNat x)) := by
  rw [atI_map]
  obtain ⟨h, e⟩ := atI_pos h0 h1
  rw [e, getD_get h]; rfl
theorem WOk.tab {n : Nat} {w : Wd} (h : WOk n w) {k : Nat} (hk : k < w.a.length) : Sq n (w.c.getD k []) := by
  have hk' : k < w.c.length := by rw [h.c]; exact hk
  rw [getD_get hk']; exact h.q _ (List.getElem_mem hk')
theorem Sq.line {n : Nat} {t : List (List Int)} (h : Sq n t) {s : Nat} (hs : s < n) : (t.getD s []).length = n := by
  have hs' : s < t.length := by rw [h.1]; exact hs
  rw [getD_get hs']; exact h.2 _ (List.getElem_mem hs')
/-- numbers -/
def isNum : D → Option Bool
  | .int _ => some true | .bl _ => some false | .non => some false | .str _ => some false | .tup _ => some false | .lst _ => some false | _ => none
theorem isNum_true {d : D} (h : isNum d = some true) : ∃ i, d = .int i := by cases d <;> simp [isNum] at h; exact ⟨_, rfl⟩
/-- equal data that a test of equality takes -/
def ExOk : Nat → D → Prop
  | 0, _ => False
  | n + 1, .tup ds => ∀ d ∈ ds, ExOk n d
  | _ + 1, .int _ => True
  | _ + 1, .bl _ => True
  | _ + 1, .str _ => True
  | _ + 1, .non => True
  | _ + 1, _ => False
theorem zipD_self {ds : List D} {d : D} (h : d ∈ zipD ds ds) : ∃ e ∈ ds, d = .tup [e, e] := by
  induction ds with
  | nil => simp [zipD] at h
  | cons x xs ih =>
    rcases List.mem_cons.mp (by simpa [zipD] using h : d ∈ D.tup [x, x] :: zipD xs xs) with rfl | h
    · exact ⟨x, List.mem_cons_self, rfl⟩
    · obtain ⟨e, he, rfl⟩ := ih h
      exact ⟨e, List.mem_cons_of_mem _ he, rfl⟩
/-- tuples in the place of lists -/
def dp : Nat → D → D
  | 0, d => d
  | n + 1, .lst ds => .tup (ds.map (dp n))
  | n + 1, .tup ds => .tup (ds.map (dp n))
  | _ + 1, d => d
def DpOk : Nat → D → Prop
  | 0, _ => False
  | n + 1, .lst ds => ds.length ≤ 1000000 ∧ ∀ d ∈ ds, DpOk n d
  | n + 1, .tup ds => ds.length ≤ 1000000 ∧ ∀ d ∈ ds, DpOk n d
  | _ + 1, .int _ => True
  | _ + 1, .bl _ => True
  | _ + 1, .str _ => True
  | _ + 1, .non => True
  | _ + 1, _ => False
theorem dp_iL {n : Nat} (l : List Int) (h : l.length ≤ 1000000) : DpOk (n + 2) (iL l) ∧ dp (n + 2) (iL l) = iU l := by
  refine ⟨?_, ?_⟩
  · unfold iL DpOk
    refine ⟨by simpa using h, fun d hd => ?_⟩
    obtain ⟨i, _, rfl⟩ := List.mem_map.mp hd
    unfold DpOk; trivial
  · unfold iL iU dp
    rw [List.map_map]
    rfl
theorem dp_tL {n : Nat} (t : List (List Int)) (h : t.length ≤ 1000000) (h2 : ∀ l ∈ t, l.length ≤ 1000000) : DpOk (n + 3) (tL t) ∧ dp (n + 3) (tL t) = tT t := by
  refine ⟨?_, ?_⟩
  · unfold tL DpOk
    refine ⟨by simpa using h, fun d hd => ?_⟩
    obtain ⟨i, hi, rfl⟩ := List.mem_map.mp hd
    exact (dp_iL i (h2 i hi)).1
  · unfold tL tT dp
    rw [List.map_map]
    congr 1
    exact List.map_congr_left fun l hl => (dp_iL l (h2 l hl)).2
theorem dp_cL {n : Nat} (c : List (List (List Int))) (h : c.length ≤ 1000000) (h2 : ∀ t ∈ c, t.length ≤ 1000000 ∧ ∀ l ∈ t, l.length ≤ 1000000) : DpOk (n + 4) (.lst (c.map tL)) ∧ dp (n + 4) (.lst (c.map tL)) = .tup (c.map tT) := by
  refine ⟨?_, ?_⟩
  · unfold DpOk
    refine ⟨by simpa using h, fun d hd => ?_⟩
    obtain ⟨i, hi, rfl⟩ := List.mem_map.mp hd
    exact (dp_tL i (h2 i hi).1 (h2 i hi).2).1
  · unfold dp
    rw [List.map_map]
    congr 1
    exact List.map_congr_left fun l hl => (dp_tL l (h2 l hl).1 (h2 l hl).2).2
/-- letters -/
def ixOf (a : Str) (c : Nat) : Int := Txt.find a ⟨#[c]⟩
theorem ixOf_ok : ∀ a ∈ asksL, ∀ c ∈ a.cps.toList, ∃ j, j < a.length ∧ ixOf a c = (j : Int) := by decide +kernel
theorem AOk.ix {a : Str} (h : AOk a) {c : Nat} (hc : c ∈ a.cps.toList) : 0 ≤ ixOf a c ∧ ixOf a c < a.length := by
  obtain ⟨j, h1, h2⟩ := ixOf_ok a h c hc
  rw [h2]; omega
theorem AOk.len {a : Str} (h : AOk a) : 1 ≤ a.length ∧ a.length ≤ 4 := by
  have : ∀ a ∈ asksL, 1 ≤ a.length ∧ a.length ≤ 4 := by decide +kernel
  exact this a h
theorem Str.len_toList (s : Str) : s.cps.toList.length = s.length := by simp [Str.length]
/-- the sum of the first n numbers f 0, f 1, .. and t -/
def acc (f : Nat → Int) (t : Int) : Nat → Int
  | 0 => t
  | n + 1 => acc f t n + f n
/-- what a course pays -/
def payAt (w : Wd) (r : Str) (cs : List Nat) (k : Nat) : Int := pr w.c (ixOf w.a (r.cps.toList.getD k 0)).toNat (cs.getD k 0) (cs.getD (k + 1) 0)
def pay (w : Wd) (r : Str) (cs : List Nat) : Int := acc (payAt w r cs) (w.b.getD (cs.getD 0 0) 0 + w.e.getD (cs.getD r.length 0) 0) r.length
def RowOk (a r : Str) : Prop := (∀ c ∈ r.cps.toList, c ∈ a.cps.toList) ∧ r.length ≤ 2000
structure CrsOk (n : Nat) (r : Str) (cs : List Nat) : Prop where
  len : cs.length = r.length + 1
  lt : ∀ s ∈ cs, s < n
def nL (l : List Nat) : D := .lst (l.map fun n : Nat => D.int n)
theorem zipD_ints : ∀ {l s : List Int} {d : D}, d ∈ zipD (l.map D.int) (s.map D.int) → ∃ x y : Int, d = .tup [.int x, .int y]
  | [], _, d, h => by simp [zipD] at h
  | _ :: _, [], d, h => by simp [zipD] at h
  | x :: l, y :: s, d, h => by
    rcases List.mem_cons.mp (by simpa [zipD] using h : d ∈ D.tup [.int x, .int y] :: zipD (l.map D.int) (s.map D.int)) with rfl | h
    · exact ⟨x, y, rfl⟩
    · exact zipD_ints h
def ascB : Int → List Nat → Bool
  | _, [] => true
  | last, c :: r => decide (last < ixOf "abcdefgh" c) && ascB (ixOf "abcdefgh" c) r
theorem AOk.asc {a : Str} (h : AOk a) : ascB (-1) a.cps.toList = true := by
  have : ∀ a ∈ asksL, ascB (-1) a.cps.toList = true := by decide +kernel
  exact this a h
theorem small {n m : Nat} (h : n ≤ m) (hm : m ≤ 1000000 := by decide) : n ≤ sizeLine := sz_small (Nat.le_trans h hm)
theorem small' {n m : Nat} (h : n < m) (hm : m ≤ 1000000 := by decide) : n < sizeLine := Nat.lt_of_lt_of_le h (sz_small hm)
def sNs : List Str := ["asks", "begins", "costs", "ends"]
def sD (K : PySem.W.Frag) (w : Wd) : D := .obj (He.ga K "Store") ["asks", "begins", "costs", "ends"] (sL w)
/-! folds -/
def IsPair (n : Nat) (d : D) (p : Int × Int) : Prop := (d = .tup [.int p.1, .int p.2] ∨ d = .lst [.int p.1, .int p.2]) ∧ 0 ≤ p.1 ∧ p.1 < n
def IsFold (m n : Nat) (f : D) (ps : List (Int × Int)) : Prop := ps.length = m ∧ ∃ ds, (f = .lst ds ∨ f = .tup ds) ∧ All2 (IsPair n) ds ps
def Flat : D → Prop
  | .int _ => True | .bl _ => True | .str _ => True | .non => True | _ => False
def PairD (d : D) : Prop := Flat d ∨ ∃ ds, (d = .lst ds ∨ d = .tup ds) ∧ ∀ e ∈ ds, Flat e
/-- what may be asked whether it is a fold; a tuple of the right length is not -/
def FoldD (m : Nat) (f : D) : Prop := (∃ i, f = .int i) ∨ f = .non ∨ (∃ s, f = .str s) ∨ (∃ ds, f = .lst ds ∧ ∀ d ∈ ds, PairD d) ∨ (f = .tup [] ∧ m ≠ 0)
def pb (w : Wd) (s : Nat) : Int := w.b.getD s 0
def pe (w : Wd) (s : Nat) : Int := w.e.getD s 0
def pf (ps : List (Int × Int)) (s : Nat) : Nat := (ps.getD s (0, 0)).1.toNat
def ph (ps : List (Int × Int)) (s : Nat) : Int := (ps.getD s (0, 0)).2
def Dir1 (w o : Wd) (ps : List (Int × Int)) (s : Nat) : Prop := pb o (pf ps s) + ph ps s ≤ pb w s ∧ pe o (pf ps s) ≤ pe w s + ph ps s
def Dir2 (w o : Wd) (ps : List (Int × Int)) (s t : Nat) : Prop := ∀ k < w.a.length, pr o.c k (pf ps s) (pf ps t) + ph ps t ≤ pr w.c k s t + ph ps s
def Dir (m : Nat) (w o : Wd) (ps : List (Int × Int)) : Prop := ∀ s < m, Dir1 w o ps s ∧ ∀ t < m, Dir2 w o ps s t
def Rt (m n : Nat) (w o : Wd) (f : D) : Prop := ∃ ps, IsFold m n f ps ∧ Dir m w o ps
theorem All2.get {α β : Type} {P : α → β → Prop} : ∀ {as : List α} {bs : List β} {i : Nat} {a : α}, All2 P as bs → as[i]? = some a → ∃ b, bs[i]? = some b ∧ P a b
  | _, _, _, _, .nil, h => by simp at h
  | _, _, 0, _, .cons p _, h => by simp at h; subst h; exact ⟨_, by simp, p⟩
  | _, _, i + 1, _, .cons _ q, h => by
    obtain ⟨b, hb, p⟩ := All2.get (i := i) q (by simpa using h)
    exact ⟨b, by simpa using hb, p⟩
theorem All2.all {α β : Type} {P : α → β → Prop} : ∀ {as : List α}, (∀ a ∈ as, ∃ b, P a b) → ∃ bs, All2 P as bs
  | [], _ => ⟨[], .nil⟩
  | a :: as, h => by
    obtain ⟨b, hb⟩ := h a List.mem_cons_self
    obtain ⟨bs, hbs⟩ := All2.all fun a ha => h a (List.mem_cons_of_mem _ ha)
    exact ⟨b :: bs, .cons hb hbs⟩
theorem All2.left {α β : Type} {P : α → β → Prop} {as : List α} {bs : List β} (h : All2 P as bs) : ∀ a ∈ as, ∃ b, P a b := by
  induction h with
  | nil => simp
  | cons p _ ih => intro a ha; exact (List.mem_cons.mp ha).elim (fun e => e ▸ ⟨_, p⟩) (ih a)
theorem IsPair.fn {n : Nat} {d : D} {p q : Int × Int} (h : IsPair n d p) (h' : IsPair n d q) : p = q := by
  obtain ⟨e, _⟩ := h
  obtain ⟨e', _⟩ := h'
  rcases e with rfl | rfl <;> rcases e' with e' | e' <;> simp at e' <;> exact Prod.ext e'.1 e'.2
theorem All2.fn {α β : Type} {P : α → β → Prop} (hf : ∀ a b c, P a b → P a c → b = c) : ∀ {as : List α} {bs cs : List β}, All2 P as bs → All2 P as cs → bs = cs
  | _, _, _, .nil, .nil => rfl
  | _, _, _, .cons p q, .cons p' q' => by rw [hf _ _ _ p p', All2.fn hf q q']
theorem IsFold.fn {m n : Nat} {f : D} {p q : List (Int × Int)} (h : IsFold m n f p) (h' : IsFold m n f q) : p = q := by
  obtain ⟨_, ds, e, a⟩ := h
  obtain ⟨_, ds', e', a'⟩ := h'
  have : ds = ds' := by rcases e with rfl | rfl <;> rcases e' with e' | e' <;> simp at e' <;> exact e'
  subst this
  exact All2.fn (fun _ _ _ h h' => h.fn h') a a'
/-- the price in the tables as the law's own readings reach it -/
theorem at_tab {c : List (List (List Int))} {k : Int} (h0 : 0 ≤ k) (h1 : k < c.length) : L2.atI (c.map tL) k = some (tL (c.getD k.toNat [])) := at_map h0 h1
theorem at_line {t : List (List Int)} {k : Int} (h0 : 0 ≤ k) (h1 : k < t.length) : L2.atI (t.map iL) k = some (iL (t.getD k.toNat [])) := at_map h0 h1
theorem at_tabU {c : List (List (List Int))} {k : Int} (h0 : 0 ≤ k) (h1 : k < c.length) : L2.atI (c.map tT) k = some (tT (c.getD k.toNat [])) := at_map h0 h1
theorem at_lineU {t : List (List Int)} {k : Int} (h0 : 0 ≤ k) (h1 : k < t.length) : L2.atI (t.map iU) k = some (iU (t.getD k.toNat [])) := at_map h0 h1
theorem at_nL {l : List Nat} {k : Int} (h0 : 0 ≤ k) (h1 : k < l.length) : L2.atI (l.map fun n : Nat => D.int n) k = some (.int (l.getD k.toNat 0 : Nat)) := at_map (f := fun n : Nat => D.int n) h0 h1
theorem getD_mem {α : Type} {l : List α} {i : Nat} {x : α} (h : i < l.length) : l.getD i x ∈ l := by rw [getD_get h]; exact List.getElem_mem h
theorem mem_zipD_map {α : Type} {f g : α → D} : ∀ {l : List α} {r : List α} {d : D}, d ∈ zipD (l.map f) (r.map g) → ∃ (i : Nat) (x y : α), l[i]? = some x ∧ r[i]? = some y ∧ d = .tup [f x, g y] := by
  intro l r d h
  obtain ⟨i, hi⟩ := List.mem_iff_getElem?.mp h
  obtain ⟨a, b, h1, h2, rfl⟩ := zipD_get hi
  simp only [List.getElem?_map, Option.map_eq_some_iff] at h1 h2
  obtain ⟨x, hx, rfl⟩ := h1
  obtain ⟨y, hy, rfl⟩ := h2
  exact ⟨i, x, y, hx, hy, rfl⟩
theorem getD_some {α : Type} {l : List α} {i : Nat} {x d : α} (h : l[i]? = some x) : l.getD i d = x := by rw [List.getD_eq_getElem?_getD, h]; rfl
theorem lt_some {α : Type} {l : List α} {i : Nat} {x : α} (h : l[i]? = some x) : i < l.length := (List.getElem?_eq_some_iff.mp h).1
theorem IsPair.seq {n : Nat} {d : D} {p : Int × Int} (h : IsPair n d p) {k : List D → Prop} : seqD d k = k [.int p.1, .int p.2] := by rcases h.1 with rfl | rfl <;> rfl
theorem IsPair.ix0 {n : Nat} {d : D} {p : Int × Int} (h : IsPair n d p) {k : D → Prop} : kIx d (.int 0) k = k (.int p.1) := by
  rcases h.1 with rfl | rfl <;> simp only [s_ixL, s_ixT, at0, s_some]
theorem IsPair.ix1 {n : Nat} {d : D} {p : Int × Int} (h : IsPair n d p) {k : D → Prop} : kIx d (.int 1) k = k (.int p.2) := by
  rcases h.1 with rfl | rfl <;> simp only [s_ixL, s_ixT, at1, s_some]
theorem at_get {α : Type} {l : List α} {i : Nat} {x : α} (h : l[i]? = some x) : L2.atI l (i : Int) = some x := by
  rw [atI_nat (lt_some h)]
  exact (List.getElem?_eq_getElem (lt_some h)).symm.trans h
theorem flat_num {d : D} (h : Flat d) : ∃ b, isNum d = some b := by cases d <;> simp [Flat] at h <;> exact ⟨_, rfl⟩
theorem flat_seq {d : D} (h : Flat d) : isSeq d = some false := by cases d <;> simp [Flat] at h <;> rfl
theorem rng_get {lo : Int} {n i : Nat} {d : D} (h : (rng lo n)[i]? = some d) : i < n ∧ d = .int (lo + i) := by
  unfold rng at h
  rw [List.getElem?_map] at h
  obtain ⟨j, hj, rfl⟩ := Option.map_eq_some_iff.mp h
  have := List.getElem?_eq_some_iff.mp hj
  obtain ⟨h1, h2⟩ := this
  simp at h1 h2
  subst h2
  exact ⟨h1, rfl⟩
/-- a for that asks all, by places -/
theorem forL_ix {g : GTr} {tb : STr} {D' : DEnds} (I : List Sl → Prop) : ∀ (ok : Nat → Prop) (ds : List D) (ρ : List Sl),
    (∀ i d, ds[i]? = some d → ∀ ρ, I ρ → ∀ nx : List Sl → Prop, (ok i → ∀ ρ', I ρ' → nx ρ') → (¬ ok i → ∀ ρ', I ρ' → D'.rt (.val (.bl false)) ρ') → g d ρ fun ρ' => tb { D' with nx := nx, ct := nx, bk := D'.nx } ρ') →
    ((∀ i < ds.length, ok i) → ∀ ρ, I ρ → D'.nx ρ) → ((∃ i, i < ds.length ∧ ¬ ok i) → ∀ ρ, I ρ → D'.rt (.val (.bl false)) ρ) → I ρ → forL g tb D' ds ρ
  | ok, [], ρ, _, h1, _, i => by unfold forL; exact h1 (by simp) ρ i
  | ok, d :: ds, ρ, h0, h1, h2, i => by
    unfold forL
    refine h0 0 d (by simp) ρ i _ (fun hd ρ' i' => forL_ix I (fun i => ok (i + 1)) ds ρ' (fun j e he => h0 (j + 1) e (by simpa using he)) (fun h => h1 fun j hj => ?_) (fun ⟨j, hj, hn⟩ => h2 ⟨j + 1, by simpa using hj, hn⟩) i') fun hd ρ' i' => h2 ⟨0, by simp, hd⟩ ρ' i'
    cases j with
    | zero => exact hd
    | succ j => exact h j (by simpa using hj)
end DL

/-! Loops and comprehensions by places; ifs on a number. -/
namespace DL
open PySem L2
theorem forL_at {g : GTr} {tb : STr} {D' : DEnds} (I : Nat → List Sl → Prop) : ∀ (ds : List D) (k : Nat) (ρ : List Sl),
    (∀ i d, ds[i]? = some d → ∀ ρ, I (k + i) ρ → ∀ nx : List Sl → Prop, (∀ ρ', I (k + i + 1) ρ' → nx ρ') → g d ρ fun ρ' => tb { D' with nx := nx, ct := nx, bk := D'.nx } ρ') →
    (∀ ρ, I (k + ds.length) ρ → D'.nx ρ) → I k ρ → forL g tb D' ds ρ
  | [], k, ρ, _, h1, i => by unfold forL; exact h1 ρ i
  | d :: ds, k, ρ, h0, h1, i => by
    unfold forL
    refine h0 0 d (by simp) ρ i _ fun ρ' i' => forL_at I ds (k + 1) ρ' (fun j e he ρ i nx hn => ?_) (fun ρ i => h1 ρ ?_) i'
    · rw [show k + 1 + j = k + (j + 1) by omega] at i hn
      exact h0 (j + 1) e (by simpa using he) ρ i nx hn
    · rw [List.length_cons, show k + (ds.length + 1) = k + 1 + ds.length by omega]; exact i
/-- a for by places, from the first one -/
theorem forL_n {g : GTr} {tb : STr} {D' : DEnds} (I : Nat → List Sl → Prop) {ds : List D} {ρ : List Sl}
    (h0 : ∀ i d, ds[i]? = some d → ∀ ρ, I i ρ → ∀ nx : List Sl → Prop, (∀ ρ', I (i + 1) ρ' → nx ρ') → g d ρ fun ρ' => tb { D' with nx := nx, ct := nx, bk := D'.nx } ρ')
    (h1 : ∀ ρ, I ds.length ρ → D'.nx ρ) (i : I 0 ρ) : forL g tb D' ds ρ :=
  forL_at I ds 0 ρ (fun i d hd ρ h nx hn => by rw [Nat.zero_add] at h hn; exact h0 i d hd ρ h nx hn) (fun ρ h => h1 ρ (by rwa [Nat.zero_add] at h)) i
theorem list_of {α : Type} (f : α → D) (x0 : α) (R : Nat → α → Prop) : ∀ (zs : List D), (∀ i z, zs[i]? = some z → ∃ x, z = f x ∧ R i x) → ∃ l : List α, zs = l.map f ∧ l.length = zs.length ∧ ∀ i < zs.length, R i (l.getD i x0)
  | zs, h => by
    induction zs generalizing R with
    | nil => exact ⟨[], rfl, rfl, fun i h => by simp at h⟩
    | cons z zs ih =>
      obtain ⟨x, rfl, r⟩ := h 0 z (by simp)
      obtain ⟨l, rfl, hl, hr⟩ := ih (fun i => R (i + 1)) fun i z hz => h (i + 1) z (by simpa using hz)
      refine ⟨x :: l, rfl, by simp, fun i hi => ?_⟩
      cases i with
      | zero => simpa using r
      | succ i => simpa using hr i (by simpa using hi)
theorem compL_at {g : GTr} {te : ETr} {vs : List Nat} {Q : MO → List Sl → Prop} (I : List Sl → Prop) (P : Nat → D → Prop) : ∀ (ds acc : List D) (ρ : List Sl), acc.length + ds.length ≤ sizeLine →
    (∀ i d, ds[i]? = some d → ∀ ρ, I ρ → noOwn ρ vs ∧ ∀ k : D → List Sl → Prop, (∀ z ρ3, P (acc.length + i) z → I (back ρ ρ3 vs) → k z ρ3) → g d (wipeD ρ vs) fun ρ1 => te ρ1 k E0D) → I ρ → (∀ i z, acc[i]? = some z → P i z) →
    (∀ zs ρ, zs.length = acc.length + ds.length → (∀ i z, zs[i]? = some z → P i z) → I ρ → Q (.lst zs) ρ) → compL g bYes te vs ds acc ρ Q
  | [], acc, ρ, _, _, i, ha, q => by
    have := q acc ρ (by simp) ha i
    simpa [compL] using this
  | d :: ds, acc, ρ, hl, h, i, ha, q => by
    unfold compL
    obtain ⟨hn, hk⟩ := h 0 d (by simp) ρ i
    refine ⟨hn, hk _ fun z ρ3 pz iz => ?_⟩
    show acc.length < sizeLine ∧ compL g bYes te vs ds (acc ++ [z]) (back ρ ρ3 vs) Q
    have hl' : (acc ++ [z]).length + ds.length ≤ sizeLine := by simp only [List.length_append, List.length_cons, List.length_nil] at hl ⊢; omega
    refine ⟨by simp only [List.length_cons] at hl; omega, compL_at I P ds (acc ++ [z]) _ hl' (fun j e he ρ i => ?_) iz (fun j y hy => ?_) fun zs ρ' a b i' => q zs ρ' ?_ b i'⟩
    · have := h (j + 1) e (by simpa using he) ρ i
      rw [show acc.length + (j + 1) = (acc ++ [z]).length + j by simp; omega] at this
      exact this
    · rcases Nat.lt_or_ge j acc.length with c | c
      · rw [List.getElem?_append_left c] at hy; exact ha j y hy
      · rw [List.getElem?_append_right c] at hy
        have : j - acc.length = 0 := by
          have := lt_some hy
          simp at this; omega
        rw [this] at hy
        simp at hy
        subst hy
        rw [Nat.add_zero, show acc.length = j by omega] at pz
        exact pz
    · rw [a]; simp; omega
/-- a comprehension of drawn or computed elements, by places -/
theorem compL_of {α : Type} (f : α → D) (x0 : α) {g : GTr} {te : ETr} {vs : List Nat} {Q : MO → List Sl → Prop} {ds : List D} {ρ : List Sl} (I : List Sl → Prop) (R : Nat → α → Prop) (hl : ds.length ≤ 1000000)
    (h : ∀ i d, ds[i]? = some d → ∀ ρ, I ρ → noOwn ρ vs ∧ ∀ k : D → List Sl → Prop, (∀ x ρ3, R i x → I (back ρ ρ3 vs) → k (f x) ρ3) → g d (wipeD ρ vs) fun ρ1 => te ρ1 k E0D) (i0 : I ρ)
    (q : ∀ (l : List α) ρ, l.length = ds.length → (∀ i < ds.length, R i (l.getD i x0)) → I ρ → Q (.lst (l.map f)) ρ) : compL g bYes te vs ds [] ρ Q := by
  refine compL_at I (fun i z => ∃ x, z = f x ∧ R i x) ds [] ρ (by simp only [List.length_nil, Nat.zero_add]; exact sz_small hl) (fun i d hd ρ hi => ?_) i0 (by simp) fun zs ρ a b i => ?_
  · obtain ⟨h1, h2⟩ := h i d hd ρ hi
    exact ⟨h1, fun k hk => h2 k fun x ρ3 r i => hk _ _ ⟨x, rfl, by simpa using r⟩ i⟩
  · obtain ⟨l, rfl, e1, e2⟩ := list_of f x0 R zs b
    simp only [List.length_nil, Nat.zero_add] at a
    refine q l ρ (by rw [e1, a]) (fun i hi => e2 i (by rw [a]; exact hi)) i
/-- ifs on a number in a slot -/
theorem eqSkip {i : Nat} {j r : Int} {t rest : STr} {D' : DEnds} {ρ : List Sl} (hg : gt ρ i = .val (.int r)) (hne : r ≠ j) (h : rest D' ρ) : sCons (sIf (bOp kEq (eVar i) (eC (.int j))) t sNil) rest D' ρ := by
  simp only [sCons, sIf, bOp, eVar, eC, hg, s_onVal, s_eqI, s_onBl, decide_eq_false hne, br_f, sNil]
  exact h
theorem eqTake {i : Nat} {j r : Int} {t rest : STr} {D' : DEnds} {ρ : List Sl} (hg : gt ρ i = .val (.int r)) (he : r = j) (h : t { D' with nx := rest D' } ρ) : sCons (sIf (bOp kEq (eVar i) (eC (.int j))) t sNil) rest D' ρ := by
  simp only [sCons, sIf, bOp, eVar, eC, hg, s_onVal, s_eqI, s_onBl, decide_eq_true he, br_t]
  exact h
theorem psOf_get {α : Type} [Inhabited α] {f : Nat → α} {n s : Nat} {d : α} (h : s < n) : ((List.range n).map f).getD s d = f s := by
  rw [getD_get (by simpa using h)]; simp
theorem reps_ints {K : PySem.W.Frag} {F : Hp} : ∀ ns : List Int, Reps K F (ns.map D.int) (ns.map V.int)
  | [] => .nil
  | n :: ns => .cons rep_int (reps_ints ns)
/-- the law's own promise, of a list of ints -/
theorem law_sp {K : PySem.W.Frag} {H : Hp} {a : Addr} {ns : List Int} {T : DSp} (hS : SqL K H a (ns.map V.int)) (hT : ∀ (Q : Sl → List Sl → Prop) (E : QE), Q (.val (.bl true)) [.val (iL ns)] → T [.val (iL ns)] Q E) :
    spG K 1 T [.ref a] H (fun v _ => v = .bl true) fun _ _ _ => False := by
  refine ⟨rfl, H, [.val (iL ns)], fun r _ => r = .val (.bl true), fun _ _ => False, ⟨Le.refl H, rfl, fun i d e => ?_, fun i m e => ?_, fun i j m m' b e _ _ _ => ?_⟩, hT _ _ rfl, fun r sl' v F' H' q _ ra => ?_, fun _ _ _ _ _ _ q _ _ => q.elim⟩
  · cases i with
    | zero =>
      simp at e
      subst e
      refine ⟨.ref a, rfl, ?_⟩
      unfold iL Rep
      exact ⟨a, _, rfl, hS, reps_ints ns⟩
    | succ i => simp at e
  · cases i <;> simp at e
  · cases i <;> simp at e
  · subst q
    unfold ResAt at ra
    exact rep_bl_inv ra
theorem cal_none {P : Program} {w : World} {K : PySem.W.Frag} {mg : Str → Option Value} {base : Heap} {x qual : Str} {params : Arguments} {body : List Stmt} {scope : Scope} {dvs : List V} {kws : List (Str × V)} {f : Addr} {fd : FuncData} {ps : List Str} {k n : Nat} {T : DSp}
    (Fn : FunD K x qual params body scope dvs kws f fd) (hm : mg x = some (.ref f)) (hb : Binds K fd ps []) (hT : ∀ sl Q E, ¬ T sl Q E) : Cal P w K mg base k x n T :=
  ⟨f, fd, ps, ⟨fun vs H Q E ⟨_, _, _, _, _, _, h, _⟩ => (hT _ _ _ h).elim, fun A outer s H args us vs Q E _ _ _ _ ⟨_, _, _, _, _, _, h, _⟩ => (hT _ _ _ h).elim⟩, hm, Fn.kp, hb⟩
theorem pT_none {T : List D → (Sl → Prop) → (Exn → Prop) → Prop} (h : ∀ ds Q E, ¬ T ds Q E) : ∀ sl Q E, ¬ pT T sl Q E := fun sl Q E q => by
  obtain ⟨ds, _, q⟩ := onSome_inv q
  exact h _ _ _ q
/-- the air of exceptions, over any world -/
def CXA : CXT := fun a H s E e s' => ∃ (P : Program) (w : World), L2.CX P w a H s E e s'
theorem cxa_none (H : Hp) (s : Shared) (e : Value) (s' : Shared) (h : CXA [] H s (fun _ _ _ => False) e s') : False := by
  obtain ⟨_, _, _, _, _, _, _, _, _, _, _, _, _, _, z⟩ := h
  exact z
theorem fn_any {P : Program} {w : World} {K : PySem.W.Frag} {mg : Str → Option Value} {base : Heap} {k : Nat} {f : Addr} {fd : FuncData} {ps : List Str} {sp : Sp} (F : FnOk P w K mg base (L2.CX P w) k f fd ps sp) : FnOk P w K mg base CXA k f fd ps sp :=
  ⟨F.len, fun A outer s H args us vs Q E hr he hb hv hs => codeAny_mono (F.run A outer s H args us vs Q E hr he hb hv hs) fun r s' h => by
    cases r with
    | ok x => cases x <;> exact h
    | error e => exact ⟨P, w, h⟩⟩
end DL

namespace Q
open PySem L2 DL
structure KF (K : PySem.W.Frag) : Prop where
  cl_Store : Cls K (He.ga K "Store")
  na_Store_asks : NoAttr K (He.ga K "Store") "asks"
  na_Store_begins : NoAttr K (He.ga K "Store") "begins"
  na_Store_costs : NoAttr K (He.ga K "Store") "costs"
  na_Store_ends : NoAttr K (He.ga K "Store") "ends"
def T__law_cell (_ : PySem.W.Frag) : DSp := pT fun ds Q _ => ∃ ns k, ds = [iL ns, .int k] ∧ ScriptOk ns ∧ 0 ≤ k ∧ k < 1000000 ∧ ∀ r, Q (.val (.int r))

def T__law_source (_ : PySem.W.Frag) : DSp := pT fun ds Q _ => ∃ ns k, ds = [iL ns, .int k] ∧ ScriptOk ns ∧ 0 ≤ k ∧ k < 1000000 ∧ ∀ r, Src r → Q (.own (.lst r))

def T__law_draw (_ : PySem.W.Frag) : DSp := oT fun src ds Q _ => match ds with
  | [.int many] => (0 < many ∧ many < 1073741824) ∧ Src src ∧ ∀ r src', Src src' → (0 ≤ r ∧ r < many) → Q (.val (.int r)) src'
  | _ => False

def T__law_asks (_ : PySem.W.Frag) : DSp := oT fun src ds Q _ => ds = [] ∧ Src src ∧ ∀ (a : Str) (src' : List D), Src src' → AOk a → Q (.val (.str a)) src'

def T__law_states (_ : PySem.W.Frag) : DSp := oT fun src ds Q _ => ds = [] ∧ Src src ∧ ∀ (n : Nat) (src' : List D), Src src' → (1 ≤ n ∧ n ≤ 3) → Q (.val (.int n)) src'

def T__law_prices (_ : PySem.W.Frag) : DSp := oT fun src ds Q _ => ∃ (many : Nat) (most : Int), ds = [.int many, .int most] ∧ many ≤ 1000000 ∧ (0 ≤ most ∧ most < 1000000) ∧ Src src ∧
  ∀ (l : List Int) (src' : List D), Src src' → l.length = many → (∀ x ∈ l, 0 ≤ x ∧ x ≤ most) → Q (.own (.lst (l.map D.int))) src'

def T__law_change (_ : PySem.W.Frag) : DSp := oT fun src ds Q _ => match ds with
  | [.int s, .int t, .int most] => (0 < most ∧ most < 1000000) ∧ Src src ∧ ∀ r src', Src src' → 0 ≤ r → Q (.val (.int r)) src'
  | _ => False

def T__law_changes (_ : PySem.W.Frag) : DSp := oT fun src ds Q _ => ∃ (many : Nat) (most : Int), ds = [.int many, .int most] ∧ many ≤ 1000000 ∧ (0 < most ∧ most < 1000000) ∧ Src src ∧
  ∀ (t : List (List Int)) (src' : List D), Src src' → Sq many t → Q (.own (.lst (t.map iL))) src'

def T__law_any_table (_ : PySem.W.Frag) : DSp := oT fun src ds Q _ => ∃ (many : Nat) (most : Int), ds = [.int many, .int most] ∧ many ≤ 1000000 ∧ (0 ≤ most ∧ most < 1000000) ∧ Src src ∧
  ∀ (t : List (List Int)) (src' : List D), Src src' → Sq many t → Q (.own (.lst (t.map iL))) src'

def T__law_served (_ : PySem.W.Frag) : DSp := pT fun ds Q _ => ∃ (n : Nat) (t : List (List Int)) (s : List Int), ds = [tL t, iL s] ∧ n ≤ 1000000 ∧ Sq n t ∧ s.length = n ∧ ∀ t' : List (List Int), Sq n t' → Q (.own (.lst (t'.map iL)))

def T__law_world (_ : PySem.W.Frag) : DSp := oT fun src ds Q _ => ∃ (many : Nat) (a : Str) (most : Int), ds = [.int many, .str a, .int most] ∧ (1 ≤ many ∧ many ≤ 1000) ∧ a.length ≤ 1000 ∧ (1 ≤ most ∧ most < 100000) ∧ Src src ∧
  ∀ (w : Wd) (src' : List D), Src src' → WOk many w → w.a = a → Q (.own (.lst (wL w))) src'

def T__law_small (_ : PySem.W.Frag) : DSp := oT fun src ds Q _ => ∃ (a : Str) (most : Int), ds = [.str a, .int most] ∧ a.length ≤ 1000 ∧ (1 ≤ most ∧ most < 100000) ∧ Src src ∧
  ∀ (n : Nat) (w : Wd) (src' : List D), Src src' → (1 ≤ n ∧ n ≤ 3) → WOk n w → w.a = a → Q (.own (.lst (wL w))) src'

def T__law_raised (_ : PySem.W.Frag) : DSp := pT fun ds Q _ => ∃ (n : Nat) (w : Wd) (m : List Int), ds = [wD w, iL m] ∧ WOk n w ∧ n ≤ 1000 ∧ w.a.length ≤ 1000 ∧ m.length = w.a.length + 2 ∧ ∀ w' : Wd, WOk n w' → w'.a = w.a → Q (.own (.lst (wL w')))

def T__law_moved (_ : PySem.W.Frag) : DSp := oT fun src ds Q _ => ∃ (n : Nat) (w : Wd), ds = [wD w] ∧ WOk n w ∧ n ≤ 1000 ∧ w.a.length ≤ 1000 ∧ Src src ∧ ∀ (w' : Wd) (src' : List D), Src src' → WOk n w' → w'.a = w.a → Q (.val (wD w')) src'

def psOf (ns : List Nat) (hs : List Int) : List (Int × Int) := (List.range ns.length).map fun s => ((ns.getD s 0 : Int), hs.getD s 0)
theorem psOf_f {ns : List Nat} {hs : List Int} {s : Nat} (h : s < ns.length) : pf (psOf ns hs) s = ns.getD s 0 ∧ ph (psOf ns hs) s = hs.getD s 0 := by
  unfold pf ph psOf
  rw [psOf_get h]
  exact ⟨by simp, rfl⟩
def T__law_above_image (_ : PySem.W.Frag) : DSp := oT fun src ds Q _ => ∃ (m n : Nat) (o : Wd) (ns : List Nat) (hs : List Int), ds = [wD o, nL ns, iL hs] ∧ WOk n o ∧ (o.a.length ≤ 1000 ∧ n ≤ 1000 ∧ m ≤ 1000) ∧ ns.length = m ∧ (∀ x ∈ ns, x < n) ∧ hs.length = m ∧ Src src ∧
  ∀ (w : Wd) (src' : List D), Src src' → WOk m w → w.a = o.a → Dir m w o (psOf ns hs) → Q (.own (.lst (wL w))) src'

def T__law_is_int (_ : PySem.W.Frag) : DSp := pT fun ds Q _ => match ds with
  | [d] => onSome (isNum d) fun b => Q (.val (.bl b))
  | _ => False

def T__law_right (_ : PySem.W.Frag) : DSp := pT fun ds Q _ => ∃ (m n : Nat) (w o : Wd) (f : D), ds = [wD w, wD o, f] ∧ WOk m w ∧ WOk n o ∧ w.a = o.a ∧ w.a.length ≤ 1000 ∧ m ≤ 1000 ∧ FoldD m f ∧ ∀ b : Bool, (b = true ↔ Rt m n w o f) → Q (.val (.bl b))

def T__law_lists (_ : PySem.W.Frag) : DSp := pT fun ds Q _ => ∃ (n : Nat) (w : Wd), ds = [wD w] ∧ WOk n w ∧ n ≤ 1000 ∧ w.a.length ≤ 1000 ∧ Q (.own (.lst (wL w)))

def T_is_asks (_ : PySem.W.Frag) : DSp := pT fun ds Q _ => ∃ a, ds = [.str a] ∧ AOk a ∧ Q (.val (.bl true))

def T_check_asks (_ : PySem.W.Frag) : DSp := pT fun ds Q _ => ∃ a, ds = [.str a] ∧ AOk a ∧ Q (.val .non)

def T_is_listed (_ : PySem.W.Frag) : DSp := pT fun ds Q _ => match ds with
  | [d] => onSome (isSeq d) fun b => Q (.val (.bl b))
  | _ => False

def T_is_integer (_ : PySem.W.Frag) : DSp := pT fun ds Q _ => match ds with
  | [d] => onSome (isNum d) fun b => Q (.val (.bl b))
  | _ => False

def T_integers (_ : PySem.W.Frag) : DSp := pT fun ds Q _ => ∃ (l : List Int) (n : Int), ds = [iL l, .int n] ∧ n = l.length ∧ Q (.val (.bl true))

def T_is_table (_ : PySem.W.Frag) : DSp := pT fun ds Q _ => ∃ (t : List (List Int)) (n : Nat), ds = [tL t, .int n] ∧ Sq n t ∧ Q (.val (.bl true))

def T_are_costs (_ : PySem.W.Frag) : DSp := pT fun ds Q _ => ∃ (c : List (List (List Int))) (a : Str) (n : Nat), ds = [.lst (c.map tL), .str a, .int n] ∧ c.length = a.length ∧ a.length ≤ 1000 ∧ (∀ t ∈ c, Sq n t) ∧ Q (.val (.bl true))

def T_deep (_ : PySem.W.Frag) (n : Nat) : DSp := pT fun ds Q _ => ∃ d, ds = [d] ∧ DpOk n d ∧ Q (.val (dp n d))

def T_Store___init__ (K : PySem.W.Frag) : DSp := iT fun C ds Q _ => ∃ (n : Nat) (w : Wd), C = He.ga K "Store" ∧ ds = wL w ∧ WOk n w ∧ AOk w.a ∧ (1 ≤ n ∧ n ≤ 1000) ∧ Q ["asks", "begins", "costs", "ends"] (sL w)

def T__law_stored (K : PySem.W.Frag) : DSp := pT fun ds Q _ => ∃ (n : Nat) (w : Wd), ds = [wD w] ∧ WOk n w ∧ AOk w.a ∧ (1 ≤ n ∧ n ≤ 1000) ∧ Q (.own (.ins (He.ga K "Store") ["asks", "begins", "costs", "ends"] (sL w)))

def pairT (p : Int × Int) : D := .tup [.int p.1, .int p.2]
def T__law_changed (_ : PySem.W.Frag) : DSp := oT fun src ds Q _ => ∃ (ps : List (Int × Int)) (many : Int), ds = [.lst (ps.map pairT), .int many] ∧ (1 ≤ ps.length ∧ ps.length ≤ 1000) ∧ (0 < many ∧ many < 1000000) ∧ Src src ∧
  ∀ (zs src' : List D), Src src' → (∀ d ∈ zs, PairD d) → Q (.own (.lst zs)) src'

def T_check_stores (K : PySem.W.Frag) : DSp := pT fun ds Q _ => ∃ w o : Wd, ds = [sD K w, sD K o] ∧ w.a = o.a ∧ Q (.val .non)

def T_is_count (_ : PySem.W.Frag) : DSp := pT fun ds Q _ => ∃ (d : D) (lo hi : Int) (b : Bool), ds = [d, .int lo, .int hi] ∧ isNum d = some b ∧ ∀ c : Bool, (c = true ↔ ∃ i, d = .int i ∧ lo ≤ i ∧ i ≤ hi) → Q (.val (.bl c))

def T_is_direct (K : PySem.W.Frag) : DSp := pT fun ds Q _ => ∃ (m n : Nat) (w o : Wd) (f : D), ds = [sD K w, sD K o, f] ∧ WOk m w ∧ WOk n o ∧ FoldD m f ∧ ∀ b : Bool, (b = true ↔ ∃ ps, IsFold m n f ps) → Q (.val (.bl b))

def gap (w o : Wd) (l : List Int) (s t k : Nat) : Int := pr w.c k s t - pr o.c k (l.getD s 0).toNat (l.getD t 0).toNat
def T_slack (K : PySem.W.Frag) : DSp := pT fun ds Q _ => ∃ (m n : Nat) (w o : Wd) (l : List Int) (s t : Nat), ds = [sD K w, sD K o, iL l, .int s, .int t] ∧ WOk m w ∧ WOk n o ∧ w.a = o.a ∧ (1 ≤ w.a.length ∧ w.a.length ≤ 1000) ∧ (s < m ∧ t < m) ∧ l.length = m ∧ (∀ x ∈ l, 0 ≤ x ∧ x < n) ∧
  ∀ r, (∀ k < w.a.length, r ≤ gap w o l s t k) → (∃ k, k < w.a.length ∧ r = gap w o l s t k) → Q (.val (.int r))

def T_judge_direct (K : PySem.W.Frag) : DSp := pT fun ds Q _ => ∃ (m n : Nat) (w o : Wd) (f : D), ds = [sD K w, sD K o, f] ∧ WOk m w ∧ WOk n o ∧ w.a = o.a ∧ (1 ≤ w.a.length ∧ w.a.length ≤ 1000) ∧ (1 ≤ m ∧ m ≤ 1000) ∧ FoldD m f ∧ ∀ b : Bool, (b = true ↔ Rt m n w o f) → Q (.val (.bl b))

def T__law_exact (_ : PySem.W.Frag) (n : Nat) : DSp := pT fun ds Q _ => ∃ d, ds = [d, d] ∧ ExOk n d ∧ Q (.val (.bl true))

theorem joinL_nil : ∀ l : List Nat, TL.joinL [] (l.map fun c => [c]) = l
  | [] => rfl
  | [_] => rfl
  | a :: b :: r => by
    show [a] ++ ([] ++ TL.joinL [] ((b :: r).map fun c => [c])) = a :: b :: r
    rw [joinL_nil (b :: r)]; rfl
theorem join_signs (l : List Nat) : (Txt.join "" (l.map fun c => (⟨#[c]⟩ : Str))).cps.toList = l := by
  rw [TL.join_eq]
  have := TL.tl_join "" (l.map fun c => (⟨#[c]⟩ : Str))
  rw [List.map_map] at this
  exact this.trans (joinL_nil l)
theorem sum_ones (l : List Nat) : ((l.map fun c => (⟨#[c]⟩ : Str)).map (·.length)).sum = l.length := by
  induction l with
  | nil => rfl
  | cons a l ih => simp only [List.map_cons, List.sum_cons, List.length_cons, ih]; simp [Str.length]; omega
def T__law_row (_ : PySem.W.Frag) : DSp := oT fun src ds Q _ => ∃ (a : Str) (longest : Int), ds = [.str a, .int longest] ∧ (1 ≤ a.length ∧ a.length ≤ 1000) ∧ (0 ≤ longest ∧ longest ≤ 1000) ∧ Src src ∧
  ∀ (r : Str) (src' : List D), Src src' → (∀ c ∈ r.cps.toList, c ∈ a.cps.toList) → r.length ≤ longest → Q (.val (.str r)) src'

theorem payAt_ok {n : Nat} {w : Wd} {r : Str} {cs : List Nat} (hw : WOk n w) (ha : AOk w.a) (hr : RowOk w.a r) (hc : CrsOk n r cs) {k : Nat} (hk : k < r.length) :
    ∃ c, r.cps.toList[k]? = some c ∧ 0 ≤ ixOf w.a c ∧ ixOf w.a c < w.c.length ∧ cs.getD k 0 < n ∧ cs.getD (k + 1) 0 < n ∧ payAt w r cs k = ((w.c.getD (ixOf w.a c).toNat []).getD (cs.getD k 0) []).getD (cs.getD (k + 1) 0) 0 ∧ Sq n (w.c.getD (ixOf w.a c).toNat []) := by
  have l := hc.len
  have hk' : k < r.cps.toList.length := by rw [Str.len_toList]; exact hk
  have e := List.getElem?_eq_getElem hk'
  have hm := hr.1 _ (List.getElem_mem hk')
  obtain ⟨i0, i1⟩ := ha.ix hm
  refine ⟨_, e, i0, by rw [hw.c]; exact i1, hc.lt _ (DL.getD_mem (by omega)), hc.lt _ (DL.getD_mem (by omega)), ?_, hw.tab (by omega)⟩
  unfold payAt pr
  rw [getD_some e]
theorem crs_last {n : Nat} {r : Str} {cs : List Nat} (hc : CrsOk n r cs) : L2.atI (cs.map fun n : Nat => D.int n) (-1) = some (.int (cs.getD r.length 0 : Nat)) := by
  have l := hc.len
  obtain ⟨h, e⟩ := at_neg (l := cs.map fun n : Nat => D.int n) (i := -1) (by omega) (by rw [List.length_map]; omega)
  rw [e, List.getElem_map, getD_get (by omega)]
  simp only [List.length_map, l]
  congr 4
  omega
def T__law_course_pays (_ : PySem.W.Frag) : DSp := pT fun ds Q _ => ∃ (n : Nat) (w : Wd) (r : Str) (cs : List Nat), ds = [wD w, .str r, nL cs] ∧ WOk n w ∧ AOk w.a ∧ RowOk w.a r ∧ CrsOk n r cs ∧ Q (.val (.int (pay w r cs)))

def T_row_over (_ : PySem.W.Frag) : DSp := pT fun ds Q _ => ∃ a r, ds = [.str a, .str r] ∧ RowOk a r ∧ Q (.val (.bl true))

def T_check_row (_ : PySem.W.Frag) : DSp := pT fun ds Q _ => ∃ a r, ds = [.str a, .str r] ∧ RowOk a r ∧ Q (.val .non)

def T_is_course (K : PySem.W.Frag) : DSp := pT fun ds Q _ => ∃ (n : Nat) (w : Wd) (r : Str) (cs : List Nat), ds = [sD K w, nL cs, .int r.length] ∧ WOk n w ∧ CrsOk n r cs ∧ Q (.val (.bl true))

def T_numbers_of (_ : PySem.W.Frag) : DSp := pT fun ds Q _ => ∃ a r, ds = [.str a, .str r] ∧ r.length ≤ 2000 ∧ Q (.own (.lst (r.cps.toList.map fun c => .int (ixOf a c))))

def T_paid (K : PySem.W.Frag) : DSp := pT fun ds Q _ => ∃ (n : Nat) (w : Wd) (r : Str) (cs : List Nat), ds = [sD K w, .str r, nL cs] ∧ WOk n w ∧ AOk w.a ∧ RowOk w.a r ∧ CrsOk n r cs ∧ Q (.val (.int (pay w r cs)))

theorem psOf_ext {ns : List Nat} {hs : List Int} {l : List (Int × Int)} (h1 : l.length = ns.length) (h2 : ∀ i < ns.length, l.getD i (0, 0) = ((ns.getD i 0 : Int), hs.getD i 0)) : l = psOf ns hs := by
  apply List.ext_getElem?
  intro i
  unfold psOf
  rcases Nat.lt_or_ge i ns.length with c | c
  · have := h2 i c
    rw [getD_get (by omega)] at this
    rw [List.getElem?_eq_getElem (by omega), this]
    simp [c]
  · rw [List.getElem?_eq_none (by omega), List.getElem?_eq_none (by simpa using c)]
theorem pay_le {m : Nat} {w o : Wd} {ns : List Nat} {hs : List Int} {r : Str} {cs : List Nat} (ha : w.a = o.a) (hA : AOk w.a) (hr : RowOk w.a r) (hn : ns.length = m) (hc : CrsOk m r cs) (d : Dir m w o (psOf ns hs)) :
    pay o r (cs.map fun s => ns.getD s 0) ≤ pay w r cs := by
  have l := hc.len
  have cm : ∀ k, k ≤ r.length → (cs.map fun s => ns.getD s 0).getD k 0 = ns.getD (cs.getD k 0) 0 := fun k hk => by
    rw [getD_get (by rw [List.length_map]; omega), List.getElem_map, getD_get (l := cs) (by omega)]
  have cl : ∀ k, k ≤ r.length → cs.getD k 0 < m := fun k hk => hc.lt _ (DL.getD_mem (by omega))
  have key : ∀ (A B : Int) (k : Nat), k ≤ r.length → A + hs.getD (cs.getD 0 0) 0 ≤ B → acc (payAt o r (cs.map fun s => ns.getD s 0)) A k + hs.getD (cs.getD k 0) 0 ≤ acc (payAt w r cs) B k := by
    intro A B k
    induction k with
    | zero => intro _ h; exact h
    | succ k ih =>
      intro hk h
      have := ih (by omega) h
      have hk' : k < r.cps.toList.length := by rw [Str.len_toList]; omega
      have e := List.getElem?_eq_getElem hk'
      obtain ⟨i0, i1⟩ := hA.ix (hr.1 _ (List.getElem_mem hk'))
      have s1 := cl k (by omega)
      have s2 := cl (k + 1) (by omega)
      have q := (d (cs.getD k 0) s1).2 (cs.getD (k + 1) 0) s2 (ixOf w.a (r.cps.toList.getD k 0)).toNat (by rw [getD_some e]; omega)
      rw [(psOf_f (by omega)).1, (psOf_f (by omega)).2, (psOf_f (by omega)).1, (psOf_f (by omega)).2] at q
      show acc _ A k + payAt o r _ k + _ ≤ acc _ B k + payAt w r cs k
      have e1 : payAt o r (cs.map fun s => ns.getD s 0) k = pr o.c (ixOf w.a (r.cps.toList.getD k 0)).toNat (ns.getD (cs.getD k 0) 0) (ns.getD (cs.getD (k + 1) 0) 0) := by
        unfold payAt
        rw [cm k (by omega), cm (k + 1) hk, ha]
      have e2 : payAt w r cs k = pr w.c (ixOf w.a (r.cps.toList.getD k 0)).toNat (cs.getD k 0) (cs.getD (k + 1) 0) := rfl
      rw [e1, e2]
      omega
  have d0 := (d (cs.getD 0 0) (cl 0 (by omega))).1
  have dl := (d (cs.getD r.length 0) (cl r.length (by omega))).1
  unfold Dir1 pb pe at d0 dl
  rw [(psOf_f (by have := cl 0 (by omega); omega)).1, (psOf_f (by have := cl 0 (by omega); omega)).2] at d0
  rw [(psOf_f (by have := cl r.length (by omega); omega)).1, (psOf_f (by have := cl r.length (by omega); omega)).2] at dl
  have := key (o.b.getD (ns.getD (cs.getD 0 0) 0) 0 + (o.e.getD (ns.getD (cs.getD r.length 0) 0) 0) - hs.getD (cs.getD r.length 0) 0) (w.b.getD (cs.getD 0 0) 0 + w.e.getD (cs.getD r.length 0) 0) r.length (by omega) (by omega)
  unfold pay
  rw [cm 0 (by omega), cm r.length (by omega)]
  have shift : ∀ (f : Nat → Int) (A c : Int) (k : Nat), acc f (A - c) k = acc f A k - c := by
    intro f A c k
    induction k with
    | zero => rfl
    | succ k ih => show acc f (A - c) k + f k = acc f A k + f k - c; rw [ih]; omega
  rw [shift] at this
  omega
def T_law (_ : PySem.W.Frag) : DSp := pT fun ds Q _ => ∃ ns, ds = [iL ns] ∧ ScriptOk ns ∧ Q (.val (.bl true))

def m__law_cell (K : PySem.W.Frag) : STr := sCons (sIf (bOp kLt (eVar 1) (eB kLen (aCons (eVar 0) (aNil)))) (sRet (eOp kIx (eVar 0) (eVar 1))) (sNil)) (sRet (eOp kAddA (eOp kMul (eC (.int 7919)) (eOp kAddA (eVar 1) (eC (.int 1)))) (eOp kMul (eC (.int 31)) (eOp kMod (eB kInt1 (aCons (eB kSum (aCons (eNew (nSlice (eVar 0) (oNone) (oSome (eC (.int 1))))) (aNil))) (aNil))) (eC (.int 1000003))))))
abbrev N__law_cell : List Str := ["script", "k"]
def m__law_source_c1 (K : PySem.W.Frag) : STr := sCons (sAsg (eOp kMod (eB kInt1 (aCons (eOp kAddA (eOp kAddA (eOp kAddA (eOp kMul (eOp kMod (eB kInt1 (aCons (eVar 3) (aNil))) (eC (.int 2147483629))) (eC (.int 48271))) (eOp kMul (eC (.int 40692)) (eVar 1))) (eC (.int 12345))) (eB kInt1 (aCons (eOp kLt (eVar 2) (eC (.int 0))) (aNil)))) (aNil))) (eC (.int 2147483647))) (gNm 4)) (sCons (sIf (bOp kGe (eVar 3) (eOp kPow (eC (.int 10)) (eC (.int 18)))) (sRetNew (nLst (aCons (eVar 3) (aCons (eVar 4) (aCons (eC (.int 0)) (aNil)))))) (sNil)) (sRetNew (nLst (aCons (eC (.int 0)) (aCons (eVar 4) (aCons (eC (.int 0)) (aNil)))))))
def m__law_source (K : PySem.W.Frag) : STr := sCons (sAsg (eCall [none, none] (T__law_cell K) (qVal [none] (eVar 0) (qVal [] (eVar 1) (qNil)))) (gNm 2)) (sCons (sAsg (eB kAbs (aCons (eVar 2) (aNil))) (gNm 3)) (sCons (sIf (bOp kNe (eOp kShr (eVar 3) (eC (.int 36000))) (eC (.int 0))) (sAsg (eOp kMod (eB kInt1 (aCons (eVar 3) (aNil))) (eOp kPow (eC (.int 10)) (eC (.int 60)))) (gNm 3)) (sNil)) (m__law_source_c1 K)))
abbrev N__law_source : List Str := ["script", "k", "cell", "number", "mixed"]
def m__law_draw (K : PySem.W.Frag) : STr := sCons (sIf (bOp kGt (eIxO 0 (eC (.int 0))) (eC (.int 0))) (sCons (sAsg (eOp kMod (eB kInt1 (aCons (eIxO 0 (eC (.int 0))) (aNil))) (eVar 1)) (gNm 2)) (sCons (sSetIx 0 (eOp kDiv (eIxO 0 (eC (.int 0))) (eVar 1)) (eC (.int 0))) (sRet (eVar 2)))) (sNil)) (sCons (sSetIx 0 (eOp kAddA (eIxO 0 (eC (.int 2))) (eC (.int 1))) (eC (.int 2))) (sCons (sSetIx 0 (eOp kMod (eB kInt1 (aCons (eOp kAddA (eOp kAddA (eOp kMul (eIxO 0 (eC (.int 1))) (eC (.int 48271))) (eOp kMul (eIxO 0 (eC (.int 2))) (eC (.int 69621)))) (eC (.int 11))) (aNil))) (eC (.int 2147483647))) (eC (.int 1))) (sCons (sAsg (eOp kMod (eB kInt1 (aCons (eOp kAddA (eOp kMul (eIxO 0 (eC (.int 1))) (eOp kAddA (eIxO 0 (eC (.int 1))) (eC (.int 31)))) (eOp kMul (eIxO 0 (eC (.int 2))) (eC (.int 40692)))) (aNil))) (eC (.int 2147483629))) (gNm 3)) (sRet (eOp kMod (eB kInt1 (aCons (eOp kDiv (eVar 3) (eC (.int 512))) (aNil))) (eVar 1))))))
abbrev N__law_draw : List Str := ["source", "many", "digit", "mixed"]
def m__law_asks (K : PySem.W.Frag) : STr := sRet (eOp kIx (eNew (nLst (aCons (eC (.str "ab")) (aCons (eC (.str "ab")) (aCons (eC (.str "bf")) (aCons (eC (.str "acd")) (aCons (eC (.str "ah")) (aCons (eC (.str "a")) (aCons (eC (.str "ab")) (aCons (eC (.str "ce")) (aNil))))))))))) (eCall [some 0, none] (T__law_draw K) (qVal [] (eC (.int 8)) (qNil))))
abbrev N__law_asks : List Str := ["source"]
def m__law_states (K : PySem.W.Frag) : STr := sRet (eOp kIx (eNew (nLst (aCons (eC (.int 2)) (aCons (eC (.int 2)) (aCons (eC (.int 3)) (aCons (eC (.int 2)) (aCons (eC (.int 3)) (aCons (eC (.int 1)) (aCons (eC (.int 2)) (aCons (eC (.int 3)) (aNil))))))))))) (eCall [some 0, none] (T__law_draw K) (qVal [] (eC (.int 8)) (qNil))))
abbrev N__law_states : List Str := ["source"]
def m__law_prices (K : PySem.W.Frag) : STr := sRetNew (nComp (iR1 (aCons (eVar 1) (aNil))) (gNm 3) (bYes) (eCall [some 0, none] (T__law_draw K) (qVal [] (eOp kAddA (eVar 2) (eC (.int 1))) (qNil))) [3])
abbrev N__law_prices : List Str := ["source", "many", "most", "k"]
def m__law_change (K : PySem.W.Frag) : STr := sCons (sIf (bOp kEq (eVar 1) (eVar 2)) (sRet (eC (.int 0))) (sNil)) (sRet (eOp kAddA (eC (.int 1)) (eCall [some 0, none] (T__law_draw K) (qVal [] (eVar 3) (qNil)))))
abbrev N__law_change : List Str := ["source", "s", "t", "most"]
def m__law_changes_1 (K : PySem.W.Frag) : STr := sApp 3 (eNew (nComp (iR1 (aCons (eVar 1) (aNil))) (gNm 5) (bYes) (eCall [some 0, none, none, none] (T__law_change K) (qVal [none, none] (eVar 4) (qVal [none] (eVar 5) (qVal [] (eVar 2) (qNil))))) [5]))
def m__law_changes (K : PySem.W.Frag) : STr := sCons (sOwn 3 (nLst (aNil))) (sCons (sFor (iR1 (aCons (eVar 1) (aNil))) (gNm 4) (m__law_changes_1 K)) (sRetO 3))
abbrev N__law_changes : List Str := ["source", "many", "most", "found", "s", "t"]
def m__law_any_table (K : PySem.W.Frag) : STr := sRetNew (nComp (iR1 (aCons (eVar 1) (aNil))) (gNm 3) (bYes) (eNew (nCall [some 0, none, none] (T__law_prices K) (qVal [none] (eVar 1) (qVal [] (eVar 2) (qNil))))) [3])
abbrev N__law_any_table : List Str := ["source", "many", "most", "s"]
def m__law_served (K : PySem.W.Frag) : STr := sRetNew (nComp (iSq (eVar 0)) (gNm 4) (bYes) (eNew (nComp (iZp (aCons (eVar 4) (aCons (eVar 1) (aNil)))) (gTp 2 (gConsD (gNm 2) (gConsD (gNm 3) (gNilD)))) (bYes) (eOp kAddA (eVar 2) (eVar 3)) [2, 3])) [4])
abbrev N__law_served : List Str := ["changes", "serves", "price", "serve", "line"]
def m__law_world_c1 (K : PySem.W.Frag) : STr := sApp 8 (eNew (nCall [none, none] (T__law_served K) (qVal [none] (eVar 7) (qVal [] (eFrz 10) (qNil)))))
def m__law_world_1 (K : PySem.W.Frag) : STr := sIf (bOp kEq (eVar 4) (eC (.int 0))) (sApp 8 (eNew (nCall [some 0, none, none] (T__law_any_table K) (qVal [none] (eVar 1) (qVal [] (eVar 3) (qNil)))))) (sCons (sOwn 10 (nCall [some 0, none, none] (T__law_prices K) (qVal [none] (eVar 1) (qVal [] (eVar 3) (qNil))))) (sCons (sIf (bOp kGt (eVar 4) (eC (.int 1))) (sCons (sLcO 10 (iSq (eFrz 10)) (gNm 11) (bYes) (eB kMax2 (aCons (eVar 11) (aCons (eC (.int 1)) (aNil)))) [11]) (sSetIx 10 (eC (.int 0)) (eOp kMod (eB kInt1 (aCons (eVar 9) (aNil))) (eVar 1)))) (sNil)) (m__law_world_c1 K)))
def m__law_world_c2 (K : PySem.W.Frag) : STr := sCons (sAsg (eNew (nCall [some 0, none, none] (T__law_changes K) (qVal [none] (eVar 1) (qVal [] (eVar 3) (qNil))))) (gNm 7)) (sCons (sOwn 8 (nLst (aNil))) (sCons (sFor (iR1 (aCons (eB kLen (aCons (eVar 2) (aNil))) (aNil))) (gNm 9) (m__law_world_1 K)) (sRetNew (nLst (aCons (eVar 2) (aCons (eVar 5) (aCons (eFrz 8) (aCons (eVar 6) (aNil)))))))))
def m__law_world (K : PySem.W.Frag) : STr := sCons (sAsg (eCall [some 0, none] (T__law_draw K) (qVal [] (eC (.int 7)) (qNil))) (gNm 4)) (sCons (sAsg (eNew (nCall [some 0, none, none] (T__law_prices K) (qVal [none] (eVar 1) (qVal [] (eVar 3) (qNil))))) (gNm 5)) (sCons (sAsg (eNew (nCall [some 0, none, none] (T__law_prices K) (qVal [none] (eVar 1) (qVal [] (eVar 3) (qNil))))) (gNm 6)) (sCons (sIf (bOp kEq (eCall [some 0, none] (T__law_draw K) (qVal [] (eC (.int 2)) (qNil))) (eC (.int 0))) (sAsg (eNew (nRep (nLst (aCons (eC (.int 0)) (aNil))) (eVar 1))) (gNm 6)) (sNil)) (m__law_world_c2 K))))
abbrev N__law_world : List Str := ["source", "many", "asks", "most", "manner", "begins", "ends", "changes", "costs", "k", "serves", "price"]
def m__law_small (K : PySem.W.Frag) : STr := sCons (sAsg (eCall [some 0] (T__law_states K) (qNil)) (gNm 3)) (sCons (sIf (bOp kEq (eVar 3) (eC (.int 3))) (sRetNew (nCall [some 0, none, none, none] (T__law_world K) (qVal [none, none] (eC (.int 3)) (qVal [none] (eVar 1) (qVal [] (eB kMin2 (aCons (eVar 2) (aCons (eC (.int 2)) (aNil)))) (qNil)))))) (sNil)) (sRetNew (nCall [some 0, none, none, none] (T__law_world K) (qVal [none, none] (eVar 3) (qVal [none] (eVar 1) (qVal [] (eVar 2) (qNil)))))))
abbrev N__law_small : List Str := ["source", "asks", "most", "many"]
def m__law_raised_1 (K : PySem.W.Frag) : STr := sApp 6 (eNew (nComp (iSq (eOp kIx (eVar 4) (eVar 7))) (gNm 9) (bYes) (eNew (nComp (iSq (eVar 9)) (gNm 8) (bYes) (eOp kAddA (eVar 8) (eOp kIx (eVar 1) (eVar 7))) [8])) [9]))
def m__law_raised (K : PySem.W.Frag) : STr := sCons (sAsg (eVar 0) (gTp 4 (gConsD (gNm 2) (gConsD (gNm 3) (gConsD (gNm 4) (gConsD (gNm 5) (gNilD))))))) (sCons (sOwn 6 (nLst (aNil))) (sCons (sFor (iR1 (aCons (eB kLen (aCons (eVar 2) (aNil))) (aNil))) (gNm 7) (m__law_raised_1 K)) (sRetNew (nLst (aCons (eVar 2) (aCons (eNew (nComp (iSq (eVar 3)) (gNm 8) (bYes) (eOp kAddA (eVar 8) (eOp kIx (eVar 1) (eNeg (eC (.int 1))))) [8])) (aCons (eFrz 6) (aCons (eNew (nComp (iSq (eVar 5)) (gNm 8) (bYes) (eOp kSub (eVar 8) (eOp kIx (eVar 1) (eNeg (eC (.int 2))))) [8])) (aNil)))))))))
abbrev N__law_raised : List Str := ["world", "more", "asks", "begins", "costs", "ends", "found", "k", "price", "line"]
def m__law_moved_c1 (K : PySem.W.Frag) : STr := sRet (eNew (nCall [none, none] (T__law_raised K) (qVal [none] (eVar 1) (qVal [] (eVar 2) (qNil)))))
def m__law_moved (K : PySem.W.Frag) : STr := sCons (sIf (bOp kEq (eCall [some 0, none] (T__law_draw K) (qVal [] (eC (.int 3)) (qNil))) (eC (.int 0))) (sRet (eVar 1)) (sNil)) (sCons (sLcV 2 (iR1 (aCons (eOp kAddA (eB kLen (aCons (eOp kIx (eVar 1) (eC (.int 0))) (aNil))) (eC (.int 2))) (aNil))) (gNm 3) (bYes) (eOp kSub (eCall [some 0, none] (T__law_draw K) (qVal [] (eC (.int 9)) (qNil))) (eC (.int 4))) [3]) (sCons (sIf (bOp kEq (eCall [some 0, none] (T__law_draw K) (qVal [] (eC (.int 8)) (qNil))) (eC (.int 3))) (sLcV 2 (iSq (eVar 2)) (gNm 4) (bYes) (eOp kMul (eVar 4) (eOp kPow (eC (.int 10)) (eC (.int 15)))) [4]) (sNil)) (m__law_moved_c1 K)))
abbrev N__law_moved : List Str := ["source", "world", "more", "k", "number"]
def m__law_above_image_2 (K : PySem.W.Frag) : STr := sCons (sLcV 9 (iR1 (aCons (eVar 4) (aNil))) (gNm 10) (bYes) (eOp kSub (eOp kAddA (eOp kIx (eOp kIx (eVar 6) (eOp kIx (eVar 2) (eVar 8))) (eOp kIx (eVar 2) (eVar 10))) (eOp kIx (eVar 3) (eVar 10))) (eOp kIx (eVar 3) (eVar 8))) [10]) (sApp 7 (eNew (nComp (iSq (eVar 9)) (gNm 11) (bYes) (eOp kAddA (eVar 11) (eCall [some 0, none] (T__law_draw K) (qVal [] (eC (.int 3)) (qNil)))) [11])))
def m__law_above_image_1 (K : PySem.W.Frag) : STr := sCons (sOwn 7 (nLst (aNil))) (sCons (sFor (iR1 (aCons (eVar 4) (aNil))) (gNm 8) (m__law_above_image_2 K)) (sApp 5 (eFrz 7)))
def m__law_above_image (K : PySem.W.Frag) : STr := sCons (sAsg (eB kLen (aCons (eVar 2) (aNil))) (gNm 4)) (sCons (sOwn 5 (nLst (aNil))) (sCons (sFor (iSq (eOp kIx (eVar 1) (eC (.int 2)))) (gNm 6) (m__law_above_image_1 K)) (sCons (sLcV 12 (iR1 (aCons (eVar 4) (aNil))) (gNm 8) (bYes) (eOp kAddA (eOp kAddA (eOp kIx (eOp kIx (eVar 1) (eC (.int 1))) (eOp kIx (eVar 2) (eVar 8))) (eOp kIx (eVar 3) (eVar 8))) (eCall [some 0, none] (T__law_draw K) (qVal [] (eC (.int 2)) (qNil)))) [8]) (sCons (sLcV 13 (iR1 (aCons (eVar 4) (aNil))) (gNm 8) (bYes) (eOp kAddA (eOp kSub (eOp kIx (eOp kIx (eVar 1) (eC (.int 3))) (eOp kIx (eVar 2) (eVar 8))) (eOp kIx (eVar 3) (eVar 8))) (eCall [some 0, none] (T__law_draw K) (qVal [] (eC (.int 2)) (qNil)))) [8]) (sRetNew (nLst (aCons (eOp kIx (eVar 1) (eC (.int 0))) (aCons (eVar 12) (aCons (eFrz 5) (aCons (eVar 13) (aNil)))))))))))
abbrev N__law_above_image : List Str := ["source", "other", "names", "shifts", "many", "costs", "table", "lines", "s", "line", "t", "price", "begins", "ends"]
def m__law_is_int (K : PySem.W.Frag) : STr := sRet (eAnd (eIsi isInt (eVar 0)) (eNot (eIsi isBool (eVar 0))))
abbrev N__law_is_int : List Str := ["thing"]
def m__law_right_3 (K : PySem.W.Frag) : STr := sIf (bOp kLt (eOp kAddA (eOp kIx (eOp kIx (eVar 9) (eVar 5)) (eVar 8)) (eVar 7)) (eOp kAddA (eOp kIx (eOp kIx (eVar 10) (eVar 6)) (eOp kIx (eOp kIx (eVar 2) (eVar 8)) (eC (.int 0)))) (eOp kIx (eOp kIx (eVar 2) (eVar 8)) (eC (.int 1))))) (sRet (eC (.bl false))) (sNil)
def m__law_right_2 (K : PySem.W.Frag) : STr := sFor (iZp (aCons (eOp kIx (eVar 0) (eC (.int 2))) (aCons (eOp kIx (eVar 1) (eC (.int 2))) (aNil)))) (gTp 2 (gConsD (gNm 9) (gConsD (gNm 10) (gNilD)))) (m__law_right_3 K)
def m__law_right_1 (K : PySem.W.Frag) : STr := sCons (sAsg (eOp kIx (eVar 2) (eVar 5)) (gTp 2 (gConsD (gNm 6) (gConsD (gNm 7) (gNilD))))) (sCons (sIf (bOr (bOp kLt (eOp kIx (eOp kIx (eVar 0) (eC (.int 1))) (eVar 5)) (eOp kAddA (eOp kIx (eOp kIx (eVar 1) (eC (.int 1))) (eVar 6)) (eVar 7))) (bOp kLt (eOp kAddA (eOp kIx (eOp kIx (eVar 0) (eC (.int 3))) (eVar 5)) (eVar 7)) (eOp kIx (eOp kIx (eVar 1) (eC (.int 3))) (eVar 6)))) (sRet (eC (.bl false))) (sNil)) (sFor (iR1 (aCons (eVar 3) (aNil))) (gNm 8) (m__law_right_2 K)))
def m__law_right_4 (K : PySem.W.Frag) : STr := sCons (sIf (bOr (bNot (bVal (eIsi isSeq (eVar 4)))) (bOp kNe (eB kLen (aCons (eVar 4) (aNil))) (eC (.int 2)))) (sRet (eC (.bl false))) (sNil)) (sCons (sIf (bOr (bNot (bVal (eCall [none] (T__law_is_int K) (qVal [] (eOp kIx (eVar 4) (eC (.int 0))) (qNil))))) (bNot (bVal (eCall [none] (T__law_is_int K) (qVal [] (eOp kIx (eVar 4) (eC (.int 1))) (qNil)))))) (sRet (eC (.bl false))) (sNil)) (sIf (bNot (bChain kLe kLt (eC (.int 0)) (eOp kIx (eVar 4) (eC (.int 0))) (eB kLen (aCons (eOp kIx (eVar 1) (eC (.int 1))) (aNil))))) (sRet (eC (.bl false))) (sNil)))
def m__law_right (K : PySem.W.Frag) : STr := sCons (sAsg (eB kLen (aCons (eOp kIx (eVar 0) (eC (.int 1))) (aNil))) (gNm 3)) (sCons (sIf (bOr (bNot (bVal (eIsi isSeq (eVar 2)))) (bOp kNe (eB kLen (aCons (eVar 2) (aNil))) (eVar 3))) (sRet (eC (.bl false))) (sNil)) (sCons (sFor (iSq (eVar 2)) (gNm 4) (m__law_right_4 K)) (sCons (sFor (iR1 (aCons (eVar 3) (aNil))) (gNm 5) (m__law_right_1 K)) (sRet (eC (.bl true))))))
abbrev N__law_right : List Str := ["world", "other", "fold", "many", "pair", "s", "image", "shift", "t", "table", "prices"]
def m__law_lists (K : PySem.W.Frag) : STr := sCons (sLcV 1 (iSq (eOp kIx (eVar 0) (eC (.int 2)))) (gNm 3) (bYes) (eNew (nComp (iSq (eVar 3)) (gNm 2) (bYes) (eNew (nList (aCons (eVar 2) (aNil)))) [2])) [3]) (sRetNew (nLst (aCons (eOp kIx (eVar 0) (eC (.int 0))) (aCons (eNew (nList (aCons (eOp kIx (eVar 0) (eC (.int 1))) (aNil)))) (aCons (eVar 1) (aCons (eNew (nList (aCons (eOp kIx (eVar 0) (eC (.int 3))) (aNil)))) (aNil)))))))
abbrev N__law_lists : List Str := ["world", "costs", "line", "table"]
def m_is_asks_1 (K : PySem.W.Frag) : STr := sCons (sAsg (eFind (eC (.str "abcdefgh")) (eVar 2)) (gNm 3)) (sCons (sIf (bOp kLe (eVar 3) (eVar 1)) (sRet (eC (.bl false))) (sNil)) (sAsg (eVar 3) (gNm 1)))
def m_is_asks (K : PySem.W.Frag) : STr := sCons (sIf (bOr (bNot (bVal (eIsi isStr (eVar 0)))) (bNot (bChain kLe kLe (eC (.int 1)) (eB kLen (aCons (eVar 0) (aNil))) (eC (.int 4))))) (sRet (eC (.bl false))) (sNil)) (sCons (sAsg (eNeg (eC (.int 1))) (gNm 1)) (sCons (sFor (iSq (eVar 0)) (gNm 2) (m_is_asks_1 K)) (sRet (eC (.bl true)))))
abbrev N_is_asks : List Str := ["thing", "last", "letter", "place"]
def m_check_asks (K : PySem.W.Frag) : STr := sIf (bNot (bVal (eCall [none] (T_is_asks K) (qVal [] (eVar 0) (qNil))))) (sNever) (sNil)
abbrev N_check_asks : List Str := ["thing"]
def m_is_listed (K : PySem.W.Frag) : STr := sRet (eIsi isSeq (eVar 0))
abbrev N_is_listed : List Str := ["thing"]
def m_is_integer (K : PySem.W.Frag) : STr := sRet (eAnd (eIsi isInt (eVar 0)) (eNot (eIsi isBool (eVar 0))))
abbrev N_is_integer : List Str := ["thing"]
def m_integers_1 (K : PySem.W.Frag) : STr := sIf (bNot (bVal (eCall [none] (T_is_integer K) (qVal [] (eVar 2) (qNil))))) (sRet (eC (.bl false))) (sNil)
def m_integers (K : PySem.W.Frag) : STr := sCons (sIf (bOr (bNot (bVal (eCall [none] (T_is_listed K) (qVal [] (eVar 0) (qNil))))) (bOp kNe (eB kLen (aCons (eVar 0) (aNil))) (eVar 1))) (sRet (eC (.bl false))) (sNil)) (sCons (sFor (iSq (eVar 0)) (gNm 2) (m_integers_1 K)) (sRet (eC (.bl true))))
abbrev N_integers : List Str := ["thing", "many", "part"]
def m_is_table_1 (K : PySem.W.Frag) : STr := sIf (bNot (bVal (eCall [none, none] (T_integers K) (qVal [none] (eVar 2) (qVal [] (eVar 1) (qNil)))))) (sRet (eC (.bl false))) (sNil)
def m_is_table (K : PySem.W.Frag) : STr := sCons (sIf (bOr (bNot (bVal (eCall [none] (T_is_listed K) (qVal [] (eVar 0) (qNil))))) (bOp kNe (eB kLen (aCons (eVar 0) (aNil))) (eVar 1))) (sRet (eC (.bl false))) (sNil)) (sCons (sFor (iSq (eVar 0)) (gNm 2) (m_is_table_1 K)) (sRet (eC (.bl true))))
abbrev N_is_table : List Str := ["thing", "many", "line"]
def m_are_costs_1 (K : PySem.W.Frag) : STr := sIf (bNot (bVal (eCall [none, none] (T_is_table K) (qVal [none] (eVar 3) (qVal [] (eVar 2) (qNil)))))) (sRet (eC (.bl false))) (sNil)
def m_are_costs (K : PySem.W.Frag) : STr := sCons (sIf (bOr (bNot (bVal (eCall [none] (T_is_listed K) (qVal [] (eVar 0) (qNil))))) (bOp kNe (eB kLen (aCons (eVar 0) (aNil))) (eB kLen (aCons (eVar 1) (aNil))))) (sRet (eC (.bl false))) (sNil)) (sCons (sFor (iSq (eVar 0)) (gNm 3) (m_are_costs_1 K)) (sRet (eC (.bl true))))
abbrev N_are_costs : List Str := ["thing", "asks", "many", "table"]
def m_deep (K : PySem.W.Frag) (R_ : DSp) : STr := sCons (sIf (bVal (eCall [none] (T_is_listed K) (qVal [] (eVar 0) (qNil)))) (sRet (eTuple (aCons (eNew (nComp (iSq (eVar 0)) (gNm 1) (bYes) (eCall [none] R_ (qVal [] (eVar 1) (qNil))) [1])) (aNil)))) (sNil)) (sRet (eVar 0))
abbrev N_deep : List Str := ["thing", "part"]
def m_Store___init__ (K : PySem.W.Frag) : STr := sCons (sExpr (eCall [none] (T_check_asks K) (qVal [] (eVar 1) (qNil)))) (sCons (sIf (bOr (bNot (bVal (eCall [none] (T_is_listed K) (qVal [] (eVar 2) (qNil))))) (bOr (bNot (bChain kLe kLe (eC (.int 1)) (eB kLen (aCons (eVar 2) (aNil))) (eC (.int 1000)))) (bNot (bVal (eCall [none, none] (T_integers K) (qVal [none] (eVar 2) (qVal [] (eB kLen (aCons (eVar 2) (aNil))) (qNil)))))))) (sNever) (sNil)) (sCons (sIf (bNot (bVal (eCall [none, none, none] (T_are_costs K) (qVal [none, none] (eVar 3) (qVal [none] (eVar 1) (qVal [] (eB kLen (aCons (eVar 2) (aNil))) (qNil))))))) (sNever) (sNil)) (sCons (sIf (bNot (bVal (eCall [none, none] (T_integers K) (qVal [none] (eVar 4) (qVal [] (eB kLen (aCons (eVar 2) (aNil))) (qNil)))))) (sNever) (sNil)) (sCons (sFld K 0 "asks" (eVar 1)) (sCons (sFld K 0 "begins" (eCall [none] (T_deep K 6) (qVal [] (eVar 2) (qNil)))) (sCons (sFld K 0 "costs" (eCall [none] (T_deep K 6) (qVal [] (eVar 3) (qNil)))) (sFld K 0 "ends" (eCall [none] (T_deep K 6) (qVal [] (eVar 4) (qNil))))))))))
abbrev N_Store___init__ : List Str := ["self", "asks", "begins", "costs", "ends"]
def m__law_stored (K : PySem.W.Frag) : STr := sCons (sAsg (eNew (nCall [none] (T__law_lists K) (qVal [] (eVar 0) (qNil)))) (gNm 1)) (sRetNew (nMake (He.ga K "Store") (T_Store___init__ K) (aCons (eOp kIx (eVar 1) (eC (.int 0))) (aCons (eOp kIx (eVar 1) (eC (.int 1))) (aCons (eOp kIx (eVar 1) (eC (.int 2))) (aCons (eOp kIx (eVar 1) (eC (.int 3))) (aNil)))))))
abbrev N__law_stored : List Str := ["world", "lists"]
def m__law_changed_c1 (K : PySem.W.Frag) : STr := sRetO 3
def m__law_changed_c2 (K : PySem.W.Frag) : STr := sCons (sIf (bOp kEq (eVar 7) (eC (.int 6))) (sApp 3 (eIxO 3 (eVar 4))) (sNil)) (m__law_changed_c1 K)
def m__law_changed_c3 (K : PySem.W.Frag) : STr := sCons (sIf (bOp kEq (eVar 7) (eC (.int 5))) (sPopAt 3 (eVar 4)) (sNil)) (m__law_changed_c2 K)
def m__law_changed_c4 (K : PySem.W.Frag) : STr := sCons (sIf (bOp kEq (eVar 7) (eC (.int 4))) (sSetIx 3 (eOp kIx (eNew (nLst (aCons (eTup (aCons (eVar 5) (aCons (eC (.bl true)) (aNil)))) (aCons (eTup (aCons (eVar 5) (aNil))) (aCons (eC .non) (aCons (eC (.int 3)) (aCons (eTup (aCons (eVar 5) (aCons (eVar 6) (aCons (eC (.int 0)) (aNil))))) (aCons (eTup (aCons (eVar 5) (aCons (eC (.str "1")) (aNil)))) (aNil))))))))) (eCall [some 0, none] (T__law_draw K) (qVal [] (eC (.int 6)) (qNil)))) (eVar 4)) (sNil)) (m__law_changed_c3 K)
def m__law_changed_c5 (K : PySem.W.Frag) : STr := sCons (sIf (bOp kEq (eVar 7) (eC (.int 3))) (sSetIx 3 (eTup (aCons (eOp kIx (eNew (nLst (aCons (eVar 2) (aCons (eNeg (eC (.int 1))) (aCons (eC (.bl true)) (aCons (eC .non) (aNil))))))) (eCall [some 0, none] (T__law_draw K) (qVal [] (eC (.int 4)) (qNil)))) (aCons (eVar 6) (aNil)))) (eVar 4)) (sNil)) (m__law_changed_c4 K)
def m__law_changed_c6 (K : PySem.W.Frag) : STr := sCons (sIf (bOp kEq (eVar 7) (eC (.int 2))) (sSetIx 3 (eTup (aCons (eCall [some 0, none] (T__law_draw K) (qVal [] (eVar 2) (qNil))) (aCons (eVar 6) (aNil)))) (eVar 4)) (sNil)) (m__law_changed_c5 K)
def m__law_changed_c7 (K : PySem.W.Frag) : STr := sCons (sIf (bOp kEq (eVar 7) (eC (.int 1))) (sSetIx 3 (eTup (aCons (eVar 5) (aCons (eOp kSub (eVar 6) (eC (.int 1))) (aNil)))) (eVar 4)) (sNil)) (m__law_changed_c6 K)
def m__law_changed (K : PySem.W.Frag) : STr := sCons (sOwn 3 (nList (aCons (eVar 1) (aNil)))) (sCons (sAsg (eCall [some 0, none] (T__law_draw K) (qVal [] (eLenO 3) (qNil))) (gNm 4)) (sCons (sAsg (eIxO 3 (eVar 4)) (gTp 2 (gConsD (gNm 5) (gConsD (gNm 6) (gNilD))))) (sCons (sAsg (eCall [some 0, none] (T__law_draw K) (qVal [] (eC (.int 7)) (qNil))) (gNm 7)) (sCons (sIf (bOp kEq (eVar 7) (eC (.int 0))) (sSetIx 3 (eTup (aCons (eVar 5) (aCons (eOp kAddA (eVar 6) (eC (.int 1))) (aNil)))) (eVar 4)) (sNil)) (m__law_changed_c7 K)))))
abbrev N__law_changed : List Str := ["source", "fold", "many", "found", "at", "image", "shift", "way"]
def m_check_stores (K : PySem.W.Frag) : STr := sIf (bOp kNe (eFld K "asks" (eVar 0)) (eFld K "asks" (eVar 1))) (sNever) (sNil)
abbrev N_check_stores : List Str := ["store", "other"]
def m_is_count (K : PySem.W.Frag) : STr := sRet (eAnd (eCall [none] (T_is_integer K) (qVal [] (eVar 0) (qNil))) (eChain kLe kLe (eVar 1) (eVar 0) (eVar 2)))
abbrev N_is_count : List Str := ["thing", "low", "high"]
def m_is_direct_1 (K : PySem.W.Frag) : STr := sCons (sIf (bOr (bNot (bVal (eCall [none] (T_is_listed K) (qVal [] (eVar 3) (qNil))))) (bOr (bOp kNe (eB kLen (aCons (eVar 3) (aNil))) (eC (.int 2))) (bNot (bVal (eCall [none, none, none] (T_is_count K) (qVal [none, none] (eOp kIx (eVar 3) (eC (.int 0))) (qVal [none] (eC (.int 0)) (qVal [] (eOp kSub (eB kLen (aCons (eFld K "begins" (eVar 1)) (aNil))) (eC (.int 1))) (qNil))))))))) (sRet (eC (.bl false))) (sNil)) (sIf (bNot (bVal (eCall [none] (T_is_integer K) (qVal [] (eOp kIx (eVar 3) (eC (.int 1))) (qNil))))) (sRet (eC (.bl false))) (sNil))
def m_is_direct (K : PySem.W.Frag) : STr := sCons (sIf (bOr (bNot (bVal (eCall [none] (T_is_listed K) (qVal [] (eVar 2) (qNil))))) (bOp kNe (eB kLen (aCons (eVar 2) (aNil))) (eB kLen (aCons (eFld K "begins" (eVar 0)) (aNil))))) (sRet (eC (.bl false))) (sNil)) (sCons (sFor (iSq (eVar 2)) (gNm 3) (m_is_direct_1 K)) (sRet (eC (.bl true))))
abbrev N_is_direct : List Str := ["store", "other", "thing", "pair"]
def m_slack (K : PySem.W.Frag) : STr := sCons (sLcV 5 (iZp (aCons (eFld K "costs" (eVar 0)) (aCons (eFld K "costs" (eVar 1)) (aNil)))) (gTp 2 (gConsD (gNm 6) (gConsD (gNm 7) (gNilD)))) (bYes) (eOp kSub (eOp kIx (eOp kIx (eVar 6) (eVar 3)) (eVar 4)) (eOp kIx (eOp kIx (eVar 7) (eOp kIx (eVar 2) (eVar 3))) (eOp kIx (eVar 2) (eVar 4)))) [6, 7]) (sRet (eB kMinL (aCons (eVar 5) (aNil))))
abbrev N_slack : List Str := ["store", "other", "names", "one", "two", "gaps", "table", "image"]
def m_judge_direct_2 (K : PySem.W.Frag) : STr := sIf (bOp kGt (eOp kSub (eOp kIx (eVar 9) (eC (.int 1))) (eVar 7)) (eCall [none, none, none, none, none] (T_slack K) (qVal [none, none, none, none] (eVar 0) (qVal [none, none, none] (eVar 1) (qVal [none, none] (eVar 3) (qVal [none] (eVar 5) (qVal [] (eVar 8) (qNil)))))))) (sRet (eC (.bl false))) (sNil)
def m_judge_direct_1 (K : PySem.W.Frag) : STr := sCons (sAsg (eVar 4) (gTp 2 (gConsD (gNm 6) (gConsD (gNm 7) (gNilD))))) (sCons (sIf (bOr (bOp kLt (eOp kIx (eFld K "begins" (eVar 0)) (eVar 5)) (eOp kAddA (eOp kIx (eFld K "begins" (eVar 1)) (eVar 6)) (eVar 7))) (bOp kLt (eOp kAddA (eOp kIx (eFld K "ends" (eVar 0)) (eVar 5)) (eVar 7)) (eOp kIx (eFld K "ends" (eVar 1)) (eVar 6)))) (sRet (eC (.bl false))) (sNil)) (sFor (iEn (aCons (eVar 2) (aNil))) (gTp 2 (gConsD (gNm 8) (gConsD (gNm 9) (gNilD)))) (m_judge_direct_2 K)))
def m_judge_direct (K : PySem.W.Frag) : STr := sCons (sExpr (eCall [none, none] (T_check_stores K) (qVal [none] (eVar 0) (qVal [] (eVar 1) (qNil))))) (sCons (sIf (bNot (bVal (eCall [none, none, none] (T_is_direct K) (qVal [none, none] (eVar 0) (qVal [none] (eVar 1) (qVal [] (eVar 2) (qNil))))))) (sRet (eC (.bl false))) (sNil)) (sCons (sLcV 3 (iSq (eVar 2)) (gNm 4) (bYes) (eOp kIx (eVar 4) (eC (.int 0))) [4]) (sCons (sFor (iEn (aCons (eVar 2) (aNil))) (gTp 2 (gConsD (gNm 5) (gConsD (gNm 4) (gNilD)))) (m_judge_direct_1 K)) (sRet (eC (.bl true))))))
abbrev N_judge_direct : List Str := ["store", "other", "fold", "names", "pair", "s", "state", "shift", "t", "later"]
def m__law_exact_1 (K : PySem.W.Frag) (R_ : DSp) : STr := sIf (bNot (bVal (eCall [none, none] R_ (qVal [none] (eVar 2) (qVal [] (eVar 3) (qNil)))))) (sRet (eC (.bl false))) (sNil)
def m__law_exact (K : PySem.W.Frag) (R_ : DSp) : STr := sCons (sIf (bVal (eIsi isTup (eVar 1))) (sCons (sIf (bOr (bNot (bVal (eIsi isTup (eVar 0)))) (bOp kNe (eB kLen (aCons (eVar 0) (aNil))) (eB kLen (aCons (eVar 1) (aNil))))) (sRet (eC (.bl false))) (sNil)) (sCons (sFor (iZp (aCons (eVar 0) (aCons (eVar 1) (aNil)))) (gTp 2 (gConsD (gNm 2) (gConsD (gNm 3) (gNilD)))) (m__law_exact_1 K R_)) (sRet (eC (.bl true))))) (sNil)) (sCons (sIf (bIsN (eVar 1)) (sRet (eIsN (eVar 0))) (sNil)) (sCons (sIf (bOp kIsBl (eVar 1) (eC (.bl true))) (sRet (eOp kIsBl (eVar 0) (eC (.bl true)))) (sNil)) (sCons (sIf (bOp kIsBl (eVar 1) (eC (.bl false))) (sRet (eOp kIsBl (eVar 0) (eC (.bl false)))) (sNil)) (sCons (sIf (bVal (eIsi isStr (eVar 1))) (sRet (eAnd (eIsi isStr (eVar 0)) (eOp kEq (eVar 0) (eVar 1)))) (sNil)) (sRet (eAnd (eCall [none] (T__law_is_int K) (qVal [] (eVar 0) (qNil))) (eOp kEq (eVar 0) (eVar 1))))))))
abbrev N__law_exact : List Str := ["told", "due", "one", "other"]
def m__law_row (K : PySem.W.Frag) : STr := sCons (sAsg (eCall [some 0, none] (T__law_draw K) (qVal [] (eOp kAddA (eVar 2) (eC (.int 1))) (qNil))) (gNm 3)) (sRet (eJoin (eC (.str "")) (eNew (nComp (iR1 (aCons (eVar 3) (aNil))) (gNm 4) (bYes) (eOp kIx (eVar 1) (eCall [some 0, none] (T__law_draw K) (qVal [] (eB kLen (aCons (eVar 1) (aNil))) (qNil)))) [4]))))
abbrev N__law_row : List Str := ["source", "asks", "longest", "size", "k"]
def m__law_course_pays_1 (K : PySem.W.Frag) : STr := sAsg (eOp kAddA (eVar 3) (eOp kIx (eOp kIx (eOp kIx (eOp kIx (eVar 0) (eC (.int 2))) (eFind (eOp kIx (eVar 0) (eC (.int 0))) (eOp kIx (eVar 1) (eVar 4)))) (eOp kIx (eVar 2) (eVar 4))) (eOp kIx (eVar 2) (eOp kAddA (eVar 4) (eC (.int 1)))))) (gNm 3)
def m__law_course_pays (K : PySem.W.Frag) : STr := sCons (sAsg (eOp kAddA (eOp kIx (eOp kIx (eVar 0) (eC (.int 1))) (eOp kIx (eVar 2) (eC (.int 0)))) (eOp kIx (eOp kIx (eVar 0) (eC (.int 3))) (eOp kIx (eVar 2) (eNeg (eC (.int 1)))))) (gNm 3)) (sCons (sFor (iR1 (aCons (eB kLen (aCons (eVar 1) (aNil))) (aNil))) (gNm 4) (m__law_course_pays_1 K)) (sRet (eVar 3)))
abbrev N__law_course_pays : List Str := ["world", "row", "course", "total", "k"]
def m_row_over_1 (K : PySem.W.Frag) : STr := sIf (bOp kNotInS (eVar 2) (eVar 0)) (sRet (eC (.bl false))) (sNil)
def m_row_over (K : PySem.W.Frag) : STr := sCons (sIf (bOr (bNot (bVal (eIsi isStr (eVar 1)))) (bOp kGt (eB kLen (aCons (eVar 1) (aNil))) (eC (.int 2000)))) (sRet (eC (.bl false))) (sNil)) (sCons (sFor (iSq (eVar 1)) (gNm 2) (m_row_over_1 K)) (sRet (eC (.bl true))))
abbrev N_row_over : List Str := ["asks", "thing", "letter"]
def m_check_row (K : PySem.W.Frag) : STr := sIf (bNot (bVal (eCall [none, none] (T_row_over K) (qVal [none] (eVar 0) (qVal [] (eVar 1) (qNil)))))) (sNever) (sNil)
abbrev N_check_row : List Str := ["asks", "thing"]
def m_is_course_1 (K : PySem.W.Frag) : STr := sIf (bOr (bNot (bVal (eCall [none] (T_is_integer K) (qVal [] (eVar 3) (qNil))))) (bNot (bChain kLe kLt (eC (.int 0)) (eVar 3) (eB kLen (aCons (eFld K "begins" (eVar 0)) (aNil)))))) (sRet (eC (.bl false))) (sNil)
def m_is_course (K : PySem.W.Frag) : STr := sCons (sIf (bOr (bNot (bVal (eCall [none] (T_is_listed K) (qVal [] (eVar 1) (qNil))))) (bOp kNe (eB kLen (aCons (eVar 1) (aNil))) (eOp kAddA (eVar 2) (eC (.int 1))))) (sRet (eC (.bl false))) (sNil)) (sCons (sFor (iSq (eVar 1)) (gNm 3) (m_is_course_1 K)) (sRet (eC (.bl true))))
abbrev N_is_course : List Str := ["store", "thing", "length", "state"]
def m_numbers_of (K : PySem.W.Frag) : STr := sRetNew (nComp (iSq (eVar 1)) (gNm 2) (bYes) (eFind (eVar 0) (eVar 2)) [2])
abbrev N_numbers_of : List Str := ["asks", "row", "letter"]
def m_paid_1 (K : PySem.W.Frag) : STr := sAsg (eOp kAddA (eVar 3) (eOp kIx (eOp kIx (eOp kIx (eFld K "costs" (eVar 0)) (eVar 5)) (eOp kIx (eVar 2) (eVar 4))) (eOp kIx (eVar 2) (eOp kAddA (eVar 4) (eC (.int 1)))))) (gNm 3)
def m_paid (K : PySem.W.Frag) : STr := sCons (sExpr (eCall [none, none] (T_check_row K) (qVal [none] (eFld K "asks" (eVar 0)) (qVal [] (eVar 1) (qNil))))) (sCons (sIf (bNot (bVal (eCall [none, none, none] (T_is_course K) (qVal [none, none] (eVar 0) (qVal [none] (eVar 2) (qVal [] (eB kLen (aCons (eVar 1) (aNil))) (qNil))))))) (sNever) (sNil)) (sCons (sAsg (eOp kAddA (eOp kIx (eFld K "begins" (eVar 0)) (eOp kIx (eVar 2) (eC (.int 0)))) (eOp kIx (eFld K "ends" (eVar 0)) (eOp kIx (eVar 2) (eNeg (eC (.int 1)))))) (gNm 3)) (sCons (sFor (iEn (aCons (eNew (nCall [none, none] (T_numbers_of K) (qVal [none] (eFld K "asks" (eVar 0)) (qVal [] (eVar 1) (qNil))))) (aNil))) (gTp 2 (gConsD (gNm 4) (gConsD (gNm 5) (gNilD)))) (m_paid_1 K)) (sRet (eVar 3)))))
abbrev N_paid : List Str := ["store", "row", "course", "total", "k", "number"]
def m_law_1 (K : PySem.W.Frag) : STr := sIf (bNot (bVal (eCall [none, none] (T__law_exact K 6) (qVal [none] (eCall [none, none, none] (T_judge_direct K) (qVal [none, none] (eVar 10) (qVal [none] (eVar 11) (qVal [] (eVar 17) (qNil))))) (qVal [] (eCall [none, none, none] (T__law_right K) (qVal [none, none] (eVar 8) (qVal [none] (eVar 3) (qVal [] (eVar 17) (qNil))))) (qNil)))))) (sRet (eC (.bl false))) (sNil)
def m_law_2 (K : PySem.W.Frag) : STr := sCons (sAsg (eCall [some 1, none] (T__law_draw K) (qVal [] (eB kLen (aCons (eOp kIx (eVar 3) (eC (.int 1))) (aNil))) (qNil))) (gNm 16)) (sApp 15 (eTup (aCons (eVar 16) (aCons (eOp kSub (eOp kSub (eOp kIx (eOp kIx (eVar 8) (eC (.int 1))) (eVar 6)) (eOp kIx (eOp kIx (eVar 3) (eC (.int 1))) (eVar 16))) (eCall [some 1, none] (T__law_draw K) (qVal [] (eC (.int 2)) (qNil)))) (aNil)))))
def m_law_3 (K : PySem.W.Frag) : STr := sApp 12 (eNew (nCallT (T__law_changed K) (nCall [none, none] (T__law_source K) (qVal [none] (eVar 0) (qVal [] (eOp kAddA (eC (.int 4)) (eVar 14)) (qNil)))) (aCons (eVar 9) (aCons (eB kLen (aCons (eOp kIx (eVar 3) (eC (.int 1))) (aNil))) (aNil)))))
def m_law (K : PySem.W.Frag) : STr := sCons (sOwn 1 (nCall [none, none] (T__law_source K) (qVal [none] (eVar 0) (qVal [] (eC (.int 0)) (qNil))))) (sCons (sAsg (eCall [some 1] (T__law_asks K) (qNil)) (gNm 2)) (sCons (sAsg (eCallT (T__law_moved K) (nCall [none, none] (T__law_source K) (qVal [none] (eVar 0) (qVal [] (eC (.int 1)) (qNil)))) (aCons (eNew (nCallT (T__law_small K) (nCall [none, none] (T__law_source K) (qVal [none] (eVar 0) (qVal [] (eC (.int 2)) (qNil)))) (aCons (eVar 2) (aCons (eC (.int 4)) (aNil))))) (aNil))) (gNm 3)) (sCons (sAsg (eOp kAddA (eC (.int 1)) (eCall [some 1, none] (T__law_draw K) (qVal [] (eC (.int 3)) (qNil)))) (gNm 4)) (sCons (sAsg (eNew (nComp (iR1 (aCons (eVar 4) (aNil))) (gNm 6) (bYes) (eCall [some 1, none] (T__law_draw K) (qVal [] (eB kLen (aCons (eOp kIx (eVar 3) (eC (.int 1))) (aNil))) (qNil))) [6])) (gNm 5)) (sCons (sAsg (eNew (nComp (iR1 (aCons (eVar 4) (aNil))) (gNm 6) (bYes) (eOp kSub (eCall [some 1, none] (T__law_draw K) (qVal [] (eC (.int 7)) (qNil))) (eC (.int 3))) [6])) (gNm 7)) (sCons (sAsg (eNew (nCallT (T__law_above_image K) (nCall [none, none] (T__law_source K) (qVal [none] (eVar 0) (qVal [] (eC (.int 3)) (qNil)))) (aCons (eVar 3) (aCons (eVar 5) (aCons (eVar 7) (aNil)))))) (gNm 8)) (sCons (sLcV 9 (iR1 (aCons (eVar 4) (aNil))) (gNm 6) (bYes) (eTup (aCons (eOp kIx (eVar 5) (eVar 6)) (aCons (eOp kIx (eVar 7) (eVar 6)) (aNil)))) [6]) (sCons (sIf (bNot (bVal (eCall [none, none, none] (T__law_right K) (qVal [none, none] (eVar 8) (qVal [none] (eVar 3) (qVal [] (eVar 9) (qNil))))))) (sRet (eC (.bl false))) (sNil)) (sCons (sAsg (eNew (nCall [none] (T__law_stored K) (qVal [] (eVar 8) (qNil)))) (gNm 10)) (sCons (sAsg (eNew (nCall [none] (T__law_stored K) (qVal [] (eVar 3) (qNil)))) (gNm 11)) (sCons (sOwn 12 (nLst (aCons (eVar 9) (aCons (eNew (nComp (iSq (eVar 9)) (gNm 13) (bYes) (eNew (nList (aCons (eVar 13) (aNil)))) [13])) (aNil))))) (sCons (sFor (iR1 (aCons (eC (.int 4)) (aNil))) (gNm 14) (m_law_3 K)) (sCons (sOwn 15 (nLst (aNil))) (sCons (sFor (iR1 (aCons (eVar 4) (aNil))) (gNm 6) (m_law_2 K)) (sCons (sApp 12 (eFrz 15)) (sCons (sFor (iSq (eNew (nCatO 12 (nLst (aCons (eC .non) (aCons (eC (.int 5)) (aCons (eC (.str "ab")) (aCons (eTup (aNil)) (aNil))))))))) (gNm 17) (m_law_1 K)) (sCons (sAsg (eCall [some 1, none, none] (T__law_row K) (qVal [none] (eVar 2) (qVal [] (eC (.int 7)) (qNil)))) (gNm 18)) (sCons (sLcV 19 (iR1 (aCons (eOp kAddA (eB kLen (aCons (eVar 18) (aNil))) (eC (.int 1))) (aNil))) (gNm 20) (bYes) (eCall [some 1, none] (T__law_draw K) (qVal [] (eVar 4) (qNil))) [20]) (sCons (sLcV 16 (iSq (eVar 19)) (gNm 6) (bYes) (eOp kIx (eVar 5) (eVar 6)) [6]) (sCons (sAsg (eCall [none, none, none] (T__law_course_pays K) (qVal [none, none] (eVar 8) (qVal [none] (eVar 18) (qVal [] (eVar 19) (qNil))))) (gNm 21)) (sCons (sAsg (eCall [none, none, none] (T__law_course_pays K) (qVal [none, none] (eVar 3) (qVal [none] (eVar 18) (qVal [] (eVar 16) (qNil))))) (gNm 22)) (sRet (eAnd (eOp kGe (eVar 21) (eVar 22)) (eAnd (eCall [none, none] (T__law_exact K 6) (qVal [none] (eCall [none, none, none] (T_paid K) (qVal [none, none] (eVar 10) (qVal [none] (eVar 18) (qVal [] (eVar 19) (qNil))))) (qVal [] (eVar 21) (qNil)))) (eCall [none, none] (T__law_exact K 6) (qVal [none] (eCall [none, none, none] (T_paid K) (qVal [none, none] (eVar 11) (qVal [none] (eVar 18) (qVal [] (eVar 16) (qNil))))) (qVal [] (eVar 22) (qNil))))))))))))))))))))))))))))
abbrev N_law : List Str := ["script", "source", "asks", "other", "many", "names", "s", "shifts", "world", "fold", "store", "second", "tried", "pair", "turn", "drawn", "image", "passed", "row", "course", "k", "first", "last"]
theorem p__law_cell (K : PySem.W.Frag) (kf : KF K) : ∀ sl Q E, T__law_cell K sl Q E → m__law_cell K (endsD [] sl Q E) (startD N__law_cell sl) := by
  refine pT_in ?_
  rintro ds Q E ⟨ns, k, rfl, hs, k0, k1, h⟩
  unfold m__law_cell
  simp only [iL, sNil, sCons, sIf, sAsg, sOwn, sFor, sRet, sRetN, sRetO, sRetNew, sExpr, sApp, sSetIx, sPass, DL.sFld, sNever, s_lk, sLcO, sLcV, eVar, eFrz, eC, eNew, eAnd, eOr, eNot, eIf, eOp, eNeg, eIsN, eNotN, eFld, eFldO, eIxO, eLenO, eTup, eB, eTuple, eFind, eJoin, eIsi, eCall, eCallT, eChain, nLst, nList, nComp, nCall, nCallT, nMake, nRep, nCat, nCatO, oNone, oSome, nSlice, bVal, bAnd, bOr, bNot, bOp, bChain, bIsN, bNotN, bYes, aNil, aCons, qNil, qVal, iSq, iR1, iR2, iZp, iEn, sPopAt, gNm, gTp, gConsD, gNilD, onMade, gt, ownAll, mkSl, wb, endsD, mrg, startD, kAdd, kSub, kMul, kMod, kDiv, kPow, kShr, kLt, kLe, kGt, kGe, isNon, br_decide, br_t, br_f, Bool.not_true, Bool.not_false, List.map_cons, List.map_nil, List.length_cons, List.length_nil, List.replicate, List.cons_append, List.nil_append, List.set_cons_zero, List.set_cons_succ, List.set_nil, wipeD, back, noOwn, true_and, and_true, List.length_map, List.reduceReplicate, Nat.reduceSub, Nat.reduceAdd, Int.reduceNeg, reduceCtorEq, if_true, if_false, Bool.true_eq_false, Bool.false_eq_true, ite_true, ite_false, s_onVal, s_onOwn, s_onLst, s_onIns, s_onL, s_onBl, s_some, s_kI, s_addI, s_addS, s_neg, s_eqI, s_neI, s_eqS, s_neS, s_ixL, s_ixT, s_ixS, s_ixO, s_lenS, s_lenL, s_lenT, s_abs, s_intI, s_intB, s_max2, s_min2, s_itL, s_itT, s_itS, s_rng1, s_rng2, s_zipL, s_zipT, s_enL, s_seqL, s_seqT, s_minL, s_maxL, s_sum, s_isBl, s_fld, s_vNil, s_vCons, s_frzL, s_frzI, at0, at1, at2, at3, ix30, ix31, ix32, pT_cons, oT_cons, iT_cons, Option.map_some, s_none, s_put0, s_put, s_find, s_join, notInS_of, inS_of, eq_self]
  refine ⟨fun hk => ?_, fun _ => ⟨cmul_l (by omega), ?_⟩⟩
  · rw [at_int k0 hk]
    exact h _
  · obtain ⟨ms, e⟩ : ∃ ms : List Int, cutD (ns.map D.int) none (some 1) = ms.map D.int := ⟨_, by unfold cutD; rw [← List.map_drop, ← List.map_take]⟩
    rw [e]
    simp only [sNil, sCons, sIf, sAsg, sOwn, sFor, sRet, sRetN, sRetO, sRetNew, sExpr, sApp, sSetIx, sPass, DL.sFld, sNever, s_lk, sLcO, sLcV, eVar, eFrz, eC, eNew, eAnd, eOr, eNot, eIf, eOp, eNeg, eIsN, eNotN, eFld, eFldO, eIxO, eLenO, eTup, eB, eTuple, eFind, eJoin, eIsi, eCall, eCallT, eChain, nLst, nList, nComp, nCall, nCallT, nMake, nRep, nCat, nCatO, oNone, oSome, nSlice, bVal, bAnd, bOr, bNot, bOp, bChain, bIsN, bNotN, bYes, aNil, aCons, qNil, qVal, iSq, iR1, iR2, iZp, iEn, sPopAt, gNm, gTp, gConsD, gNilD, onMade, gt, ownAll, mkSl, wb, endsD, mrg, startD, kAdd, kSub, kMul, kMod, kDiv, kPow, kShr, kLt, kLe, kGt, kGe, isNon, br_decide, br_t, br_f, Bool.not_true, Bool.not_false, List.map_cons, List.map_nil, List.length_cons, List.length_nil, List.replicate, List.cons_append, List.nil_append, List.set_cons_zero, List.set_cons_succ, List.set_nil, wipeD, back, noOwn, true_and, and_true, List.length_map, List.reduceReplicate, Nat.reduceSub, Nat.reduceAdd, Int.reduceNeg, reduceCtorEq, if_true, if_false, Bool.true_eq_false, Bool.false_eq_true, ite_true, ite_false, s_onVal, s_onOwn, s_onLst, s_onIns, s_onL, s_onBl, s_some, s_kI, s_addI, s_addS, s_neg, s_eqI, s_neI, s_eqS, s_neS, s_ixL, s_ixT, s_ixS, s_ixO, s_lenS, s_lenL, s_lenT, s_abs, s_intI, s_intB, s_max2, s_min2, s_itL, s_itT, s_itS, s_rng1, s_rng2, s_zipL, s_zipT, s_enL, s_seqL, s_seqT, s_minL, s_maxL, s_sum, s_isBl, s_fld, s_vNil, s_vCons, s_frzL, s_frzI, at0, at1, at2, at3, ix30, ix31, ix32, pT_cons, oT_cons, iT_cons, Option.map_some, s_none, s_put0, s_put, s_find, s_join, notInS_of, inS_of, eq_self]
    have := fmod_in ms.sum (b := 1000003) (by decide)
    exact ⟨by decide, cmul_l (by omega), h _⟩

theorem p__law_source (K : PySem.W.Frag) (kf : KF K) : ∀ sl Q E, T__law_source K sl Q E → m__law_source K (endsD [] sl Q E) (startD N__law_source sl) := by
  refine pT_in ?_
  rintro ds Q E ⟨ns, k, rfl, hs, k0, k1, h⟩
  unfold m__law_source
  simp only [m__law_source_c1, T__law_cell, iL, sNil, sCons, sIf, sAsg, sOwn, sFor, sRet, sRetN, sRetO, sRetNew, sExpr, sApp, sSetIx, sPass, DL.sFld, sNever, s_lk, sLcO, sLcV, eVar, eFrz, eC, eNew, eAnd, eOr, eNot, eIf, eOp, eNeg, eIsN, eNotN, eFld, eFldO, eIxO, eLenO, eTup, eB, eTuple, eFind, eJoin, eIsi, eCall, eCallT, eChain, nLst, nList, nComp, nCall, nCallT, nMake, nRep, nCat, nCatO, oNone, oSome, nSlice, bVal, bAnd, bOr, bNot, bOp, bChain, bIsN, bNotN, bYes, aNil, aCons, qNil, qVal, iSq, iR1, iR2, iZp, iEn, sPopAt, gNm, gTp, gConsD, gNilD, onMade, gt, ownAll, mkSl, wb, endsD, mrg, startD, kAdd, kSub, kMul, kMod, kDiv, kPow, kShr, kLt, kLe, kGt, kGe, isNon, br_decide, br_t, br_f, Bool.not_true, Bool.not_false, List.map_cons, List.map_nil, List.length_cons, List.length_nil, List.replicate, List.cons_append, List.nil_append, List.set_cons_zero, List.set_cons_succ, List.set_nil, wipeD, back, noOwn, true_and, and_true, List.length_map, List.reduceReplicate, Nat.reduceSub, Nat.reduceAdd, Int.reduceNeg, reduceCtorEq, if_true, if_false, Bool.true_eq_false, Bool.false_eq_true, ite_true, ite_false, s_onVal, s_onOwn, s_onLst, s_onIns, s_onL, s_onBl, s_some, s_kI, s_addI, s_addS, s_neg, s_eqI, s_neI, s_eqS, s_neS, s_ixL, s_ixT, s_ixS, s_ixO, s_lenS, s_lenL, s_lenT, s_abs, s_intI, s_intB, s_max2, s_min2, s_itL, s_itT, s_itS, s_rng1, s_rng2, s_zipL, s_zipT, s_enL, s_seqL, s_seqT, s_minL, s_maxL, s_sum, s_isBl, s_fld, s_vNil, s_vCons, s_frzL, s_frzI, at0, at1, at2, at3, ix30, ix31, ix32, pT_cons, oT_cons, iT_cons, Option.map_some, s_none, s_put0, s_put, s_find, s_join, notInS_of, inS_of, eq_self]
  refine ⟨ns, k, rfl, hs, k0, k1, fun r => ⟨by omega, br_pq (fun _ => ?_) fun _ => ?_⟩⟩
  · have f1 := fun a => fmod_in a (b := 2147483629) (by decide)
    have f2 := fun a => fmod_in a (b := 2147483647) (by decide)
    have z : ((10 : Int) ^ Int.toNat 60) ≠ 0 := Int.pow_ne_zero (by decide)
    refine ⟨⟨by decide, by decide, by decide⟩, z, by decide, cmul_r (by omega), cmul_l (by omega), by decide, ⟨by decide, by decide, by decide⟩, fun _ => ?_, fun _ => ?_⟩
    all_goals exact h _ ⟨_, _, _, rfl, (f2 _).1, (f2 _).2⟩
  · have f1 := fun a => fmod_in a (b := 2147483629) (by decide)
    have f2 := fun a => fmod_in a (b := 2147483647) (by decide)
    refine ⟨by decide, cmul_r (by omega), cmul_l (by omega), by decide, ⟨by decide, by decide, by decide⟩, fun _ => ?_, fun _ => ?_⟩
    all_goals exact h _ ⟨_, _, _, rfl, (f2 _).1, (f2 _).2⟩

theorem p__law_draw (K : PySem.W.Frag) (kf : KF K) : ∀ sl Q E, T__law_draw K sl Q E → m__law_draw K (endsD [0] sl Q E) (startD N__law_draw sl) := by
  refine oT_in ?_
  intro src ds Q E h
  split at h
  · rename_i many
    obtain ⟨⟨h0, h1⟩, ⟨n, m, c, rfl, m0, m1⟩, h⟩ := h
    unfold m__law_draw
    simp only [sNil, sCons, sIf, sAsg, sOwn, sFor, sRet, sRetN, sRetO, sRetNew, sExpr, sApp, sSetIx, sPass, DL.sFld, sNever, s_lk, sLcO, sLcV, eVar, eFrz, eC, eNew, eAnd, eOr, eNot, eIf, eOp, eNeg, eIsN, eNotN, eFld, eFldO, eIxO, eLenO, eTup, eB, eTuple, eFind, eJoin, eIsi, eCall, eCallT, eChain, nLst, nList, nComp, nCall, nCallT, nMake, nRep, nCat, nCatO, oNone, oSome, nSlice, bVal, bAnd, bOr, bNot, bOp, bChain, bIsN, bNotN, bYes, aNil, aCons, qNil, qVal, iSq, iR1, iR2, iZp, iEn, sPopAt, gNm, gTp, gConsD, gNilD, onMade, gt, ownAll, mkSl, wb, endsD, mrg, startD, kAdd, kSub, kMul, kMod, kDiv, kPow, kShr, kLt, kLe, kGt, kGe, isNon, br_decide, br_t, br_f, Bool.not_true, Bool.not_false, List.map_cons, List.map_nil, List.length_cons, List.length_nil, List.replicate, List.cons_append, List.nil_append, List.set_cons_zero, List.set_cons_succ, List.set_nil, wipeD, back, noOwn, true_and, and_true, List.length_map, List.reduceReplicate, Nat.reduceSub, Nat.reduceAdd, Int.reduceNeg, reduceCtorEq, if_true, if_false, Bool.true_eq_false, Bool.false_eq_true, ite_true, ite_false, s_onVal, s_onOwn, s_onLst, s_onIns, s_onL, s_onBl, s_some, s_kI, s_addI, s_addS, s_neg, s_eqI, s_neI, s_eqS, s_neS, s_ixL, s_ixT, s_ixS, s_ixO, s_lenS, s_lenL, s_lenT, s_abs, s_intI, s_intB, s_max2, s_min2, s_itL, s_itT, s_itS, s_rng1, s_rng2, s_zipL, s_zipT, s_enL, s_seqL, s_seqT, s_minL, s_maxL, s_sum, s_isBl, s_fld, s_vNil, s_vCons, s_frzL, s_frzI, at0, at1, at2, at3, ix30, ix31, ix32, pT_cons, oT_cons, iT_cons, Option.map_some, s_none, s_put0, s_put, s_find, s_join, notInS_of, inS_of, eq_self]
    have f0 := fun a => fmod_in a (b := many) h0
    have f1 := fun a => fmod_in a (b := 2147483629) (by decide)
    have f2 := fun a => fmod_in a (b := 2147483647) (by decide)
    refine ⟨fun _ => ⟨by omega, ⟨by omega, by omega⟩, ?_⟩, fun _ => ⟨cmul_r (by omega), cmul_r (by omega), by decide, cmul_l ?_, cmul_r (by omega), by decide, ⟨by decide, by decide⟩, by omega, ?_⟩⟩
    · exact h _ _ ⟨_, _, _, rfl, m0, m1⟩ (f0 _)
    · have := f2 (m * 48271 + (c + 1) * 69621 + 11)
      omega
    · exact h _ _ ⟨_, _, _, rfl, (f2 _).1, (f2 _).2⟩ (f0 _)
  · exact h.elim

theorem p__law_asks (K : PySem.W.Frag) (kf : KF K) : ∀ sl Q E, T__law_asks K sl Q E → m__law_asks K (endsD [0] sl Q E) (startD N__law_asks sl) := by
  refine oT_in ?_
  rintro src ds Q E ⟨rfl, hs, h⟩
  unfold m__law_asks
  simp only [T__law_draw, sNil, sCons, sIf, sAsg, sOwn, sFor, sRet, sRetN, sRetO, sRetNew, sExpr, sApp, sSetIx, sPass, DL.sFld, sNever, s_lk, sLcO, sLcV, eVar, eFrz, eC, eNew, eAnd, eOr, eNot, eIf, eOp, eNeg, eIsN, eNotN, eFld, eFldO, eIxO, eLenO, eTup, eB, eTuple, eFind, eJoin, eIsi, eCall, eCallT, eChain, nLst, nList, nComp, nCall, nCallT, nMake, nRep, nCat, nCatO, oNone, oSome, nSlice, bVal, bAnd, bOr, bNot, bOp, bChain, bIsN, bNotN, bYes, aNil, aCons, qNil, qVal, iSq, iR1, iR2, iZp, iEn, sPopAt, gNm, gTp, gConsD, gNilD, onMade, gt, ownAll, mkSl, wb, endsD, mrg, startD, kAdd, kSub, kMul, kMod, kDiv, kPow, kShr, kLt, kLe, kGt, kGe, isNon, br_decide, br_t, br_f, Bool.not_true, Bool.not_false, List.map_cons, List.map_nil, List.length_cons, List.length_nil, List.replicate, List.cons_append, List.nil_append, List.set_cons_zero, List.set_cons_succ, List.set_nil, wipeD, back, noOwn, true_and, and_true, List.length_map, List.reduceReplicate, Nat.reduceSub, Nat.reduceAdd, Int.reduceNeg, reduceCtorEq, if_true, if_false, Bool.true_eq_false, Bool.false_eq_true, ite_true, ite_false, s_onVal, s_onOwn, s_onLst, s_onIns, s_onL, s_onBl, s_some, s_kI, s_addI, s_addS, s_neg, s_eqI, s_neI, s_eqS, s_neS, s_ixL, s_ixT, s_ixS, s_ixO, s_lenS, s_lenL, s_lenT, s_abs, s_intI, s_intB, s_max2, s_min2, s_itL, s_itT, s_itS, s_rng1, s_rng2, s_zipL, s_zipT, s_enL, s_seqL, s_seqT, s_minL, s_maxL, s_sum, s_isBl, s_fld, s_vNil, s_vCons, s_frzL, s_frzI, at0, at1, at2, at3, ix30, ix31, ix32, pT_cons, oT_cons, iT_cons, Option.map_some, s_none, s_put0, s_put, s_find, s_join, notInS_of, inS_of, eq_self]
  refine ⟨by omega, hs, fun r s' hs' hr => ?_⟩
  obtain ⟨h0, h1⟩ := hr
  rw [show ([D.str "ab", .str "ab", .str "bf", .str "acd", .str "ah", .str "a", .str "ab", .str "ce"] : List D) = (["ab", "ab", "bf", "acd", "ah", "a", "ab", "ce"] : List Str).map D.str from rfl, at_map (x := ("" : Str)) h0]
  rotate_left
  · exact h1
  refine h _ s' hs' ?_
  have : ∀ k < 8, AOk ((["ab", "ab", "bf", "acd", "ah", "a", "ab", "ce"] : List Str).getD k "") := by unfold AOk; decide
  exact this _ (by omega)

theorem p__law_states (K : PySem.W.Frag) (kf : KF K) : ∀ sl Q E, T__law_states K sl Q E → m__law_states K (endsD [0] sl Q E) (startD N__law_states sl) := by
  refine oT_in ?_
  rintro src ds Q E ⟨rfl, hs, h⟩
  unfold m__law_states
  simp only [T__law_draw, sNil, sCons, sIf, sAsg, sOwn, sFor, sRet, sRetN, sRetO, sRetNew, sExpr, sApp, sSetIx, sPass, DL.sFld, sNever, s_lk, sLcO, sLcV, eVar, eFrz, eC, eNew, eAnd, eOr, eNot, eIf, eOp, eNeg, eIsN, eNotN, eFld, eFldO, eIxO, eLenO, eTup, eB, eTuple, eFind, eJoin, eIsi, eCall, eCallT, eChain, nLst, nList, nComp, nCall, nCallT, nMake, nRep, nCat, nCatO, oNone, oSome, nSlice, bVal, bAnd, bOr, bNot, bOp, bChain, bIsN, bNotN, bYes, aNil, aCons, qNil, qVal, iSq, iR1, iR2, iZp, iEn, sPopAt, gNm, gTp, gConsD, gNilD, onMade, gt, ownAll, mkSl, wb, endsD, mrg, startD, kAdd, kSub, kMul, kMod, kDiv, kPow, kShr, kLt, kLe, kGt, kGe, isNon, br_decide, br_t, br_f, Bool.not_true, Bool.not_false, List.map_cons, List.map_nil, List.length_cons, List.length_nil, List.replicate, List.cons_append, List.nil_append, List.set_cons_zero, List.set_cons_succ, List.set_nil, wipeD, back, noOwn, true_and, and_true, List.length_map, List.reduceReplicate, Nat.reduceSub, Nat.reduceAdd, Int.reduceNeg, reduceCtorEq, if_true, if_false, Bool.true_eq_false, Bool.false_eq_true, ite_true, ite_false, s_onVal, s_onOwn, s_onLst, s_onIns, s_onL, s_onBl, s_some, s_kI, s_addI, s_addS, s_neg, s_eqI, s_neI, s_eqS, s_neS, s_ixL, s_ixT, s_ixS, s_ixO, s_lenS, s_lenL, s_lenT, s_abs, s_intI, s_intB, s_max2, s_min2, s_itL, s_itT, s_itS, s_rng1, s_rng2, s_zipL, s_zipT, s_enL, s_seqL, s_seqT, s_minL, s_maxL, s_sum, s_isBl, s_fld, s_vNil, s_vCons, s_frzL, s_frzI, at0, at1, at2, at3, ix30, ix31, ix32, pT_cons, oT_cons, iT_cons, Option.map_some, s_none, s_put0, s_put, s_find, s_join, notInS_of, inS_of, eq_self]
  refine ⟨by omega, hs, fun r s' hs' hr => ?_⟩
  obtain ⟨h0, h1⟩ := hr
  rw [show ([D.int 2, .int 2, .int 3, .int 2, .int 3, .int 1, .int 2, .int 3] : List D) = ([2, 2, 3, 2, 3, 1, 2, 3] : List Nat).map (fun n : Nat => D.int n) from rfl, at_map (x := 1) h0]
  rotate_left
  · exact h1
  refine h _ s' hs' ?_
  have : ∀ k < 8, 1 ≤ ([2, 2, 3, 2, 3, 1, 2, 3] : List Nat).getD k 1 ∧ ([2, 2, 3, 2, 3, 1, 2, 3] : List Nat).getD k 1 ≤ 3 := by decide
  exact this _ (by omega)

theorem p__law_prices (K : PySem.W.Frag) (kf : KF K) : ∀ sl Q E, T__law_prices K sl Q E → m__law_prices K (endsD [0] sl Q E) (startD N__law_prices sl) := by
  refine oT_in ?_
  rintro src ds Q E ⟨many, most, rfl, hm, ⟨h0, h1⟩, hs, h⟩
  unfold m__law_prices
  simp only [sNil, sCons, sIf, sAsg, sOwn, sFor, sRet, sRetN, sRetO, sRetNew, sExpr, sApp, sSetIx, sPass, DL.sFld, sNever, s_lk, sLcO, sLcV, eVar, eFrz, eC, eNew, eAnd, eOr, eNot, eIf, eOp, eNeg, eIsN, eNotN, eFld, eFldO, eIxO, eLenO, eTup, eB, eTuple, eFind, eJoin, eIsi, eCall, eCallT, eChain, nLst, nList, nComp, nCall, nCallT, nMake, nRep, nCat, nCatO, oNone, oSome, nSlice, bVal, bAnd, bOr, bNot, bOp, bChain, bIsN, bNotN, bYes, aNil, aCons, qNil, qVal, iSq, iR1, iR2, iZp, iEn, sPopAt, gNm, gTp, gConsD, gNilD, onMade, gt, ownAll, mkSl, wb, endsD, mrg, startD, kAdd, kSub, kMul, kMod, kDiv, kPow, kShr, kLt, kLe, kGt, kGe, isNon, br_decide, br_t, br_f, Bool.not_true, Bool.not_false, List.map_cons, List.map_nil, List.length_cons, List.length_nil, List.replicate, List.cons_append, List.nil_append, List.set_cons_zero, List.set_cons_succ, List.set_nil, wipeD, back, noOwn, true_and, and_true, List.length_map, List.reduceReplicate, Nat.reduceSub, Nat.reduceAdd, Int.reduceNeg, reduceCtorEq, if_true, if_false, Bool.true_eq_false, Bool.false_eq_true, ite_true, ite_false, s_onVal, s_onOwn, s_onLst, s_onIns, s_onL, s_onBl, s_some, s_kI, s_addI, s_addS, s_neg, s_eqI, s_neI, s_eqS, s_neS, s_ixL, s_ixT, s_ixS, s_ixO, s_lenS, s_lenL, s_lenT, s_abs, s_intI, s_intB, s_max2, s_min2, s_itL, s_itT, s_itS, s_rng1, s_rng2, s_zipL, s_zipT, s_enL, s_seqL, s_seqT, s_minL, s_maxL, s_sum, s_isBl, s_fld, s_vNil, s_vCons, s_frzL, s_frzI, at0, at1, at2, at3, ix30, ix31, ix32, pT_cons, oT_cons, iT_cons, Option.map_some, s_none, s_put0, s_put, s_find, s_join, notInS_of, inS_of, eq_self]
  refine ⟨by omega, compL_any (fun ρ => ∃ s, Src s ∧ ρ = [.own (.lst s), .val (.int many), .val (.int most), .un]) (fun _ z => ∃ i : Int, z = .int i ∧ 0 ≤ i ∧ i ≤ most) _ _ _ (by rw [rng_length]; exact sz_small (by simp only [List.length_nil]; omega)) (fun d hd ρ ⟨s, hs, e⟩ => ?_) ⟨_, hs, rfl⟩ fun zs ρ a ⟨s, hs, e⟩ => ?_⟩
  · subst e
    simp only [T__law_draw, sNil, sCons, sIf, sAsg, sOwn, sFor, sRet, sRetN, sRetO, sRetNew, sExpr, sApp, sSetIx, sPass, DL.sFld, sNever, s_lk, sLcO, sLcV, eVar, eFrz, eC, eNew, eAnd, eOr, eNot, eIf, eOp, eNeg, eIsN, eNotN, eFld, eFldO, eIxO, eLenO, eTup, eB, eTuple, eFind, eJoin, eIsi, eCall, eCallT, eChain, nLst, nList, nComp, nCall, nCallT, nMake, nRep, nCat, nCatO, oNone, oSome, nSlice, bVal, bAnd, bOr, bNot, bOp, bChain, bIsN, bNotN, bYes, aNil, aCons, qNil, qVal, iSq, iR1, iR2, iZp, iEn, sPopAt, gNm, gTp, gConsD, gNilD, onMade, gt, ownAll, mkSl, wb, endsD, mrg, startD, kAdd, kSub, kMul, kMod, kDiv, kPow, kShr, kLt, kLe, kGt, kGe, isNon, br_decide, br_t, br_f, Bool.not_true, Bool.not_false, List.map_cons, List.map_nil, List.length_cons, List.length_nil, List.replicate, List.cons_append, List.nil_append, List.set_cons_zero, List.set_cons_succ, List.set_nil, wipeD, back, noOwn, true_and, and_true, List.length_map, List.reduceReplicate, Nat.reduceSub, Nat.reduceAdd, Int.reduceNeg, reduceCtorEq, if_true, if_false, Bool.true_eq_false, Bool.false_eq_true, ite_true, ite_false, s_onVal, s_onOwn, s_onLst, s_onIns, s_onL, s_onBl, s_some, s_kI, s_addI, s_addS, s_neg, s_eqI, s_neI, s_eqS, s_neS, s_ixL, s_ixT, s_ixS, s_ixO, s_lenS, s_lenL, s_lenT, s_abs, s_intI, s_intB, s_max2, s_min2, s_itL, s_itT, s_itS, s_rng1, s_rng2, s_zipL, s_zipT, s_enL, s_seqL, s_seqT, s_minL, s_maxL, s_sum, s_isBl, s_fld, s_vNil, s_vCons, s_frzL, s_frzI, at0, at1, at2, at3, ix30, ix31, ix32, pT_cons, oT_cons, iT_cons, Option.map_some, s_none, s_put0, s_put, s_find, s_join, notInS_of, inS_of, eq_self]
    exact fun k hk => ⟨by omega, hs, fun r s' hs' hr => hk _ _ ⟨_, rfl, by omega⟩ ⟨s', hs', rfl⟩⟩
  · subst e
    obtain ⟨l, rfl, a2⟩ := a.mp (f := D.int) (R := fun _ i => 0 ≤ i ∧ i ≤ most) fun _ b ⟨i, e, p⟩ => ⟨i, e, p⟩
    refine h l s hs ?_ (a2.right (R := fun i => 0 ≤ i ∧ i ≤ most) fun _ _ p => p)
    rw [← a2.length, rng_length]; simp

theorem p__law_change (K : PySem.W.Frag) (kf : KF K) : ∀ sl Q E, T__law_change K sl Q E → m__law_change K (endsD [0] sl Q E) (startD N__law_change sl) := by
  refine oT_in ?_
  intro src ds Q E h
  split at h
  · rename_i s t most
    obtain ⟨⟨h0, h1⟩, hs, h⟩ := h
    unfold m__law_change
    simp only [T__law_draw, sNil, sCons, sIf, sAsg, sOwn, sFor, sRet, sRetN, sRetO, sRetNew, sExpr, sApp, sSetIx, sPass, DL.sFld, sNever, s_lk, sLcO, sLcV, eVar, eFrz, eC, eNew, eAnd, eOr, eNot, eIf, eOp, eNeg, eIsN, eNotN, eFld, eFldO, eIxO, eLenO, eTup, eB, eTuple, eFind, eJoin, eIsi, eCall, eCallT, eChain, nLst, nList, nComp, nCall, nCallT, nMake, nRep, nCat, nCatO, oNone, oSome, nSlice, bVal, bAnd, bOr, bNot, bOp, bChain, bIsN, bNotN, bYes, aNil, aCons, qNil, qVal, iSq, iR1, iR2, iZp, iEn, sPopAt, gNm, gTp, gConsD, gNilD, onMade, gt, ownAll, mkSl, wb, endsD, mrg, startD, kAdd, kSub, kMul, kMod, kDiv, kPow, kShr, kLt, kLe, kGt, kGe, isNon, br_decide, br_t, br_f, Bool.not_true, Bool.not_false, List.map_cons, List.map_nil, List.length_cons, List.length_nil, List.replicate, List.cons_append, List.nil_append, List.set_cons_zero, List.set_cons_succ, List.set_nil, wipeD, back, noOwn, true_and, and_true, List.length_map, List.reduceReplicate, Nat.reduceSub, Nat.reduceAdd, Int.reduceNeg, reduceCtorEq, if_true, if_false, Bool.true_eq_false, Bool.false_eq_true, ite_true, ite_false, s_onVal, s_onOwn, s_onLst, s_onIns, s_onL, s_onBl, s_some, s_kI, s_addI, s_addS, s_neg, s_eqI, s_neI, s_eqS, s_neS, s_ixL, s_ixT, s_ixS, s_ixO, s_lenS, s_lenL, s_lenT, s_abs, s_intI, s_intB, s_max2, s_min2, s_itL, s_itT, s_itS, s_rng1, s_rng2, s_zipL, s_zipT, s_enL, s_seqL, s_seqT, s_minL, s_maxL, s_sum, s_isBl, s_fld, s_vNil, s_vCons, s_frzL, s_frzI, at0, at1, at2, at3, ix30, ix31, ix32, pT_cons, oT_cons, iT_cons, Option.map_some, s_none, s_put0, s_put, s_find, s_join, notInS_of, inS_of, eq_self]
    exact ⟨fun _ => h _ _ hs (by omega), fun _ => ⟨by omega, hs, fun r s' hs' hr => h _ _ hs' (by omega)⟩⟩
  · exact h.elim

theorem p__law_changes (K : PySem.W.Frag) (kf : KF K) : ∀ sl Q E, T__law_changes K sl Q E → m__law_changes K (endsD [0] sl Q E) (startD N__law_changes sl) := by
  refine oT_in ?_
  rintro src ds Q E ⟨many, most, rfl, hm, ⟨h0, h1⟩, hs, h⟩
  unfold m__law_changes
  simp only [sNil, sCons, sIf, sAsg, sOwn, sFor, sRet, sRetN, sRetO, sRetNew, sExpr, sApp, sSetIx, sPass, DL.sFld, sNever, s_lk, sLcO, sLcV, eVar, eFrz, eC, eNew, eAnd, eOr, eNot, eIf, eOp, eNeg, eIsN, eNotN, eFld, eFldO, eIxO, eLenO, eTup, eB, eTuple, eFind, eJoin, eIsi, eCall, eCallT, eChain, nLst, nList, nComp, nCall, nCallT, nMake, nRep, nCat, nCatO, oNone, oSome, nSlice, bVal, bAnd, bOr, bNot, bOp, bChain, bIsN, bNotN, bYes, aNil, aCons, qNil, qVal, iSq, iR1, iR2, iZp, iEn, sPopAt, gNm, gTp, gConsD, gNilD, onMade, gt, ownAll, mkSl, wb, endsD, mrg, startD, kAdd, kSub, kMul, kMod, kDiv, kPow, kShr, kLt, kLe, kGt, kGe, isNon, br_decide, br_t, br_f, Bool.not_true, Bool.not_false, List.map_cons, List.map_nil, List.length_cons, List.length_nil, List.replicate, List.cons_append, List.nil_append, List.set_cons_zero, List.set_cons_succ, List.set_nil, wipeD, back, noOwn, true_and, and_true, List.length_map, List.reduceReplicate, Nat.reduceSub, Nat.reduceAdd, Int.reduceNeg, reduceCtorEq, if_true, if_false, Bool.true_eq_false, Bool.false_eq_true, ite_true, ite_false, s_onVal, s_onOwn, s_onLst, s_onIns, s_onL, s_onBl, s_some, s_kI, s_addI, s_addS, s_neg, s_eqI, s_neI, s_eqS, s_neS, s_ixL, s_ixT, s_ixS, s_ixO, s_lenS, s_lenL, s_lenT, s_abs, s_intI, s_intB, s_max2, s_min2, s_itL, s_itT, s_itS, s_rng1, s_rng2, s_zipL, s_zipT, s_enL, s_seqL, s_seqT, s_minL, s_maxL, s_sum, s_isBl, s_fld, s_vNil, s_vCons, s_frzL, s_frzI, at0, at1, at2, at3, ix30, ix31, ix32, pT_cons, oT_cons, iT_cons, Option.map_some, s_none, s_put0, s_put, s_find, s_join, notInS_of, inS_of, eq_self]
  refine ⟨by omega, forL_inv (fun rest ρ => ∃ (s : List D) (x : Sl) (t : List (List Int)), Src s ∧ t.length + rest.length = many ∧ (∀ l ∈ t, l.length = many) ∧ (∀ d ∈ rest, ∃ i : Int, d = .int i) ∧ ρ = [.own (.lst s), .val (.int many), .val (.int most), .own (.lst (t.map iL)), x, .un]) _ _ (fun ρ ⟨s, x, t, hs, hl, ht, _, e⟩ => ?_) (fun d ds ρ ⟨s, x, t, hs, hl, ht, hd, e⟩ nx hn => ?_) ⟨_, _, [], hs, by rw [rng_length]; simp, by simp, fun d hd => ?_, rfl⟩⟩
  · subst e
    simp only [sNil, sCons, sIf, sAsg, sOwn, sFor, sRet, sRetN, sRetO, sRetNew, sExpr, sApp, sSetIx, sPass, DL.sFld, sNever, s_lk, sLcO, sLcV, eVar, eFrz, eC, eNew, eAnd, eOr, eNot, eIf, eOp, eNeg, eIsN, eNotN, eFld, eFldO, eIxO, eLenO, eTup, eB, eTuple, eFind, eJoin, eIsi, eCall, eCallT, eChain, nLst, nList, nComp, nCall, nCallT, nMake, nRep, nCat, nCatO, oNone, oSome, nSlice, bVal, bAnd, bOr, bNot, bOp, bChain, bIsN, bNotN, bYes, aNil, aCons, qNil, qVal, iSq, iR1, iR2, iZp, iEn, sPopAt, gNm, gTp, gConsD, gNilD, onMade, gt, ownAll, mkSl, wb, endsD, mrg, startD, kAdd, kSub, kMul, kMod, kDiv, kPow, kShr, kLt, kLe, kGt, kGe, isNon, br_decide, br_t, br_f, Bool.not_true, Bool.not_false, List.map_cons, List.map_nil, List.length_cons, List.length_nil, List.replicate, List.cons_append, List.nil_append, List.set_cons_zero, List.set_cons_succ, List.set_nil, wipeD, back, noOwn, true_and, and_true, List.length_map, List.reduceReplicate, Nat.reduceSub, Nat.reduceAdd, Int.reduceNeg, reduceCtorEq, if_true, if_false, Bool.true_eq_false, Bool.false_eq_true, ite_true, ite_false, s_onVal, s_onOwn, s_onLst, s_onIns, s_onL, s_onBl, s_some, s_kI, s_addI, s_addS, s_neg, s_eqI, s_neI, s_eqS, s_neS, s_ixL, s_ixT, s_ixS, s_ixO, s_lenS, s_lenL, s_lenT, s_abs, s_intI, s_intB, s_max2, s_min2, s_itL, s_itT, s_itS, s_rng1, s_rng2, s_zipL, s_zipT, s_enL, s_seqL, s_seqT, s_minL, s_maxL, s_sum, s_isBl, s_fld, s_vNil, s_vCons, s_frzL, s_frzI, at0, at1, at2, at3, ix30, ix31, ix32, pT_cons, oT_cons, iT_cons, Option.map_some, s_none, s_put0, s_put, s_find, s_join, notInS_of, inS_of, eq_self]
    exact h t s hs ⟨by simpa using hl, ht⟩
  · subst e
    obtain ⟨i, rfl⟩ := hd d List.mem_cons_self
    unfold m__law_changes_1
    simp only [sNil, sCons, sIf, sAsg, sOwn, sFor, sRet, sRetN, sRetO, sRetNew, sExpr, sApp, sSetIx, sPass, DL.sFld, sNever, s_lk, sLcO, sLcV, eVar, eFrz, eC, eNew, eAnd, eOr, eNot, eIf, eOp, eNeg, eIsN, eNotN, eFld, eFldO, eIxO, eLenO, eTup, eB, eTuple, eFind, eJoin, eIsi, eCall, eCallT, eChain, nLst, nList, nComp, nCall, nCallT, nMake, nRep, nCat, nCatO, oNone, oSome, nSlice, bVal, bAnd, bOr, bNot, bOp, bChain, bIsN, bNotN, bYes, aNil, aCons, qNil, qVal, iSq, iR1, iR2, iZp, iEn, sPopAt, gNm, gTp, gConsD, gNilD, onMade, gt, ownAll, mkSl, wb, endsD, mrg, startD, kAdd, kSub, kMul, kMod, kDiv, kPow, kShr, kLt, kLe, kGt, kGe, isNon, br_decide, br_t, br_f, Bool.not_true, Bool.not_false, List.map_cons, List.map_nil, List.length_cons, List.length_nil, List.replicate, List.cons_append, List.nil_append, List.set_cons_zero, List.set_cons_succ, List.set_nil, wipeD, back, noOwn, true_and, and_true, List.length_map, List.reduceReplicate, Nat.reduceSub, Nat.reduceAdd, Int.reduceNeg, reduceCtorEq, if_true, if_false, Bool.true_eq_false, Bool.false_eq_true, ite_true, ite_false, s_onVal, s_onOwn, s_onLst, s_onIns, s_onL, s_onBl, s_some, s_kI, s_addI, s_addS, s_neg, s_eqI, s_neI, s_eqS, s_neS, s_ixL, s_ixT, s_ixS, s_ixO, s_lenS, s_lenL, s_lenT, s_abs, s_intI, s_intB, s_max2, s_min2, s_itL, s_itT, s_itS, s_rng1, s_rng2, s_zipL, s_zipT, s_enL, s_seqL, s_seqT, s_minL, s_maxL, s_sum, s_isBl, s_fld, s_vNil, s_vCons, s_frzL, s_frzI, at0, at1, at2, at3, ix30, ix31, ix32, pT_cons, oT_cons, iT_cons, Option.map_some, s_none, s_put0, s_put, s_find, s_join, notInS_of, inS_of, eq_self]
    refine ⟨by omega, compL_any (fun ρ => ∃ s, Src s ∧ ρ = [.own (.lst s), .val (.int many), .val (.int most), .own (.lst (t.map iL)), .val (.int i), .un]) (fun _ z => ∃ i : Int, z = .int i) _ _ _ (by rw [rng_length]; exact sz_small (by simp only [List.length_nil]; omega)) (fun d hd ρ ⟨s, hs, e⟩ => ?_) ⟨_, hs, rfl⟩ fun zs ρ a ⟨s, hs, e⟩ => ?_⟩
    · subst e
      obtain ⟨j, _, rfl⟩ := rng_mem.mp hd
      simp only [T__law_change, sNil, sCons, sIf, sAsg, sOwn, sFor, sRet, sRetN, sRetO, sRetNew, sExpr, sApp, sSetIx, sPass, DL.sFld, sNever, s_lk, sLcO, sLcV, eVar, eFrz, eC, eNew, eAnd, eOr, eNot, eIf, eOp, eNeg, eIsN, eNotN, eFld, eFldO, eIxO, eLenO, eTup, eB, eTuple, eFind, eJoin, eIsi, eCall, eCallT, eChain, nLst, nList, nComp, nCall, nCallT, nMake, nRep, nCat, nCatO, oNone, oSome, nSlice, bVal, bAnd, bOr, bNot, bOp, bChain, bIsN, bNotN, bYes, aNil, aCons, qNil, qVal, iSq, iR1, iR2, iZp, iEn, sPopAt, gNm, gTp, gConsD, gNilD, onMade, gt, ownAll, mkSl, wb, endsD, mrg, startD, kAdd, kSub, kMul, kMod, kDiv, kPow, kShr, kLt, kLe, kGt, kGe, isNon, br_decide, br_t, br_f, Bool.not_true, Bool.not_false, List.map_cons, List.map_nil, List.length_cons, List.length_nil, List.replicate, List.cons_append, List.nil_append, List.set_cons_zero, List.set_cons_succ, List.set_nil, wipeD, back, noOwn, true_and, and_true, List.length_map, List.reduceReplicate, Nat.reduceSub, Nat.reduceAdd, Int.reduceNeg, reduceCtorEq, if_true, if_false, Bool.true_eq_false, Bool.false_eq_true, ite_true, ite_false, s_onVal, s_onOwn, s_onLst, s_onIns, s_onL, s_onBl, s_some, s_kI, s_addI, s_addS, s_neg, s_eqI, s_neI, s_eqS, s_neS, s_ixL, s_ixT, s_ixS, s_ixO, s_lenS, s_lenL, s_lenT, s_abs, s_intI, s_intB, s_max2, s_min2, s_itL, s_itT, s_itS, s_rng1, s_rng2, s_zipL, s_zipT, s_enL, s_seqL, s_seqT, s_minL, s_maxL, s_sum, s_isBl, s_fld, s_vNil, s_vCons, s_frzL, s_frzI, at0, at1, at2, at3, ix30, ix31, ix32, pT_cons, oT_cons, iT_cons, Option.map_some, s_none, s_put0, s_put, s_find, s_join, notInS_of, inS_of, eq_self]
      exact fun k hk => ⟨by omega, hs, fun r s' hs' hr => hk _ _ ⟨_, rfl⟩ ⟨s', hs', rfl⟩⟩
    · subst e
      obtain ⟨l, rfl, a2⟩ := a.mp (f := D.int) (R := fun _ _ => True) fun _ b ⟨i, e⟩ => ⟨i, e, trivial⟩
      have hl2 : l.length = many := by rw [← a2.length, rng_length]; simp
      simp only [sNil, sCons, sIf, sAsg, sOwn, sFor, sRet, sRetN, sRetO, sRetNew, sExpr, sApp, sSetIx, sPass, DL.sFld, sNever, s_lk, sLcO, sLcV, eVar, eFrz, eC, eNew, eAnd, eOr, eNot, eIf, eOp, eNeg, eIsN, eNotN, eFld, eFldO, eIxO, eLenO, eTup, eB, eTuple, eFind, eJoin, eIsi, eCall, eCallT, eChain, nLst, nList, nComp, nCall, nCallT, nMake, nRep, nCat, nCatO, oNone, oSome, nSlice, bVal, bAnd, bOr, bNot, bOp, bChain, bIsN, bNotN, bYes, aNil, aCons, qNil, qVal, iSq, iR1, iR2, iZp, iEn, sPopAt, gNm, gTp, gConsD, gNilD, onMade, gt, ownAll, mkSl, wb, endsD, mrg, startD, kAdd, kSub, kMul, kMod, kDiv, kPow, kShr, kLt, kLe, kGt, kGe, isNon, br_decide, br_t, br_f, Bool.not_true, Bool.not_false, List.map_cons, List.map_nil, List.length_cons, List.length_nil, List.replicate, List.cons_append, List.nil_append, List.set_cons_zero, List.set_cons_succ, List.set_nil, wipeD, back, noOwn, true_and, and_true, List.length_map, List.reduceReplicate, Nat.reduceSub, Nat.reduceAdd, Int.reduceNeg, reduceCtorEq, if_true, if_false, Bool.true_eq_false, Bool.false_eq_true, ite_true, ite_false, s_onVal, s_onOwn, s_onLst, s_onIns, s_onL, s_onBl, s_some, s_kI, s_addI, s_addS, s_neg, s_eqI, s_neI, s_eqS, s_neS, s_ixL, s_ixT, s_ixS, s_ixO, s_lenS, s_lenL, s_lenT, s_abs, s_intI, s_intB, s_max2, s_min2, s_itL, s_itT, s_itS, s_rng1, s_rng2, s_zipL, s_zipT, s_enL, s_seqL, s_seqT, s_minL, s_maxL, s_sum, s_isBl, s_fld, s_vNil, s_vCons, s_frzL, s_frzI, at0, at1, at2, at3, ix30, ix31, ix32, pT_cons, oT_cons, iT_cons, Option.map_some, s_none, s_put0, s_put, s_find, s_join, notInS_of, inS_of, eq_self]
      refine ⟨?_, hn _ ⟨s, .val (.int i), t ++ [l], hs, ?_, ?_, fun d h => hd d (List.mem_cons_of_mem _ h), ?_⟩⟩
      · refine Nat.lt_of_lt_of_le (m := 1000001) ?_ (by decide)
        simp only [List.length_cons] at hl; omega
      · simp only [List.length_append, List.length_cons, List.length_nil] at hl ⊢; omega
      · intro l' h'
        rcases List.mem_append.mp h' with h' | h'
        · exact ht l' h'
        · simp at h'; rw [h']; exact hl2
      · simp [iL]
  · obtain ⟨j, _, rfl⟩ := rng_mem.mp hd
    exact ⟨_, rfl⟩

theorem p__law_any_table (K : PySem.W.Frag) (kf : KF K) : ∀ sl Q E, T__law_any_table K sl Q E → m__law_any_table K (endsD [0] sl Q E) (startD N__law_any_table sl) := by
  refine oT_in ?_
  rintro src ds Q E ⟨many, most, rfl, hm, ⟨h0, h1⟩, hs, h⟩
  unfold m__law_any_table
  simp only [sNil, sCons, sIf, sAsg, sOwn, sFor, sRet, sRetN, sRetO, sRetNew, sExpr, sApp, sSetIx, sPass, DL.sFld, sNever, s_lk, sLcO, sLcV, eVar, eFrz, eC, eNew, eAnd, eOr, eNot, eIf, eOp, eNeg, eIsN, eNotN, eFld, eFldO, eIxO, eLenO, eTup, eB, eTuple, eFind, eJoin, eIsi, eCall, eCallT, eChain, nLst, nList, nComp, nCall, nCallT, nMake, nRep, nCat, nCatO, oNone, oSome, nSlice, bVal, bAnd, bOr, bNot, bOp, bChain, bIsN, bNotN, bYes, aNil, aCons, qNil, qVal, iSq, iR1, iR2, iZp, iEn, sPopAt, gNm, gTp, gConsD, gNilD, onMade, gt, ownAll, mkSl, wb, endsD, mrg, startD, kAdd, kSub, kMul, kMod, kDiv, kPow, kShr, kLt, kLe, kGt, kGe, isNon, br_decide, br_t, br_f, Bool.not_true, Bool.not_false, List.map_cons, List.map_nil, List.length_cons, List.length_nil, List.replicate, List.cons_append, List.nil_append, List.set_cons_zero, List.set_cons_succ, List.set_nil, wipeD, back, noOwn, true_and, and_true, List.length_map, List.reduceReplicate, Nat.reduceSub, Nat.reduceAdd, Int.reduceNeg, reduceCtorEq, if_true, if_false, Bool.true_eq_false, Bool.false_eq_true, ite_true, ite_false, s_onVal, s_onOwn, s_onLst, s_onIns, s_onL, s_onBl, s_some, s_kI, s_addI, s_addS, s_neg, s_eqI, s_neI, s_eqS, s_neS, s_ixL, s_ixT, s_ixS, s_ixO, s_lenS, s_lenL, s_lenT, s_abs, s_intI, s_intB, s_max2, s_min2, s_itL, s_itT, s_itS, s_rng1, s_rng2, s_zipL, s_zipT, s_enL, s_seqL, s_seqT, s_minL, s_maxL, s_sum, s_isBl, s_fld, s_vNil, s_vCons, s_frzL, s_frzI, at0, at1, at2, at3, ix30, ix31, ix32, pT_cons, oT_cons, iT_cons, Option.map_some, s_none, s_put0, s_put, s_find, s_join, notInS_of, inS_of, eq_self]
  refine ⟨by omega, compL_any (fun ρ => ∃ s, Src s ∧ ρ = [.own (.lst s), .val (.int many), .val (.int most), .un]) (fun _ z => ∃ l : List Int, z = iL l ∧ l.length = many) _ _ _ (by rw [rng_length]; exact sz_small (by simp only [List.length_nil]; omega)) (fun d hd ρ ⟨s, hs, e⟩ => ?_) ⟨_, hs, rfl⟩ fun zs ρ a ⟨s, hs, e⟩ => ?_⟩
  · subst e
    simp only [T__law_prices, sNil, sCons, sIf, sAsg, sOwn, sFor, sRet, sRetN, sRetO, sRetNew, sExpr, sApp, sSetIx, sPass, DL.sFld, sNever, s_lk, sLcO, sLcV, eVar, eFrz, eC, eNew, eAnd, eOr, eNot, eIf, eOp, eNeg, eIsN, eNotN, eFld, eFldO, eIxO, eLenO, eTup, eB, eTuple, eFind, eJoin, eIsi, eCall, eCallT, eChain, nLst, nList, nComp, nCall, nCallT, nMake, nRep, nCat, nCatO, oNone, oSome, nSlice, bVal, bAnd, bOr, bNot, bOp, bChain, bIsN, bNotN, bYes, aNil, aCons, qNil, qVal, iSq, iR1, iR2, iZp, iEn, sPopAt, gNm, gTp, gConsD, gNilD, onMade, gt, ownAll, mkSl, wb, endsD, mrg, startD, kAdd, kSub, kMul, kMod, kDiv, kPow, kShr, kLt, kLe, kGt, kGe, isNon, br_decide, br_t, br_f, Bool.not_true, Bool.not_false, List.map_cons, List.map_nil, List.length_cons, List.length_nil, List.replicate, List.cons_append, List.nil_append, List.set_cons_zero, List.set_cons_succ, List.set_nil, wipeD, back, noOwn, true_and, and_true, List.length_map, List.reduceReplicate, Nat.reduceSub, Nat.reduceAdd, Int.reduceNeg, reduceCtorEq, if_true, if_false, Bool.true_eq_false, Bool.false_eq_true, ite_true, ite_false, s_onVal, s_onOwn, s_onLst, s_onIns, s_onL, s_onBl, s_some, s_kI, s_addI, s_addS, s_neg, s_eqI, s_neI, s_eqS, s_neS, s_ixL, s_ixT, s_ixS, s_ixO, s_lenS, s_lenL, s_lenT, s_abs, s_intI, s_intB, s_max2, s_min2, s_itL, s_itT, s_itS, s_rng1, s_rng2, s_zipL, s_zipT, s_enL, s_seqL, s_seqT, s_minL, s_maxL, s_sum, s_isBl, s_fld, s_vNil, s_vCons, s_frzL, s_frzI, at0, at1, at2, at3, ix30, ix31, ix32, pT_cons, oT_cons, iT_cons, Option.map_some, s_none, s_put0, s_put, s_find, s_join, notInS_of, inS_of, eq_self]
    exact fun k hk => ⟨many, most, rfl, hm, ⟨h0, h1⟩, hs, fun l s' hs' hl _ => hk _ _ ⟨l, rfl, hl⟩ ⟨s', hs', rfl⟩⟩
  · subst e
    obtain ⟨t, rfl, a2⟩ := a.mp (f := iL) (R := fun _ (l : List Int) => l.length = many) fun _ b ⟨i, e, p⟩ => ⟨i, e, p⟩
    refine h t s hs ⟨?_, a2.right (R := fun l : List Int => l.length = many) fun _ _ p => p⟩
    rw [← a2.length, rng_length]; simp


theorem p__law_served (K : PySem.W.Frag) (kf : KF K) : ∀ sl Q E, T__law_served K sl Q E → m__law_served K (endsD [] sl Q E) (startD N__law_served sl) := by
  refine pT_in ?_
  rintro ds Q E ⟨n, t, s, rfl, hn, ht, hs, h⟩
  unfold m__law_served
  simp only [tL, sNil, sCons, sIf, sAsg, sOwn, sFor, sRet, sRetN, sRetO, sRetNew, sExpr, sApp, sSetIx, sPass, DL.sFld, sNever, s_lk, sLcO, sLcV, eVar, eFrz, eC, eNew, eAnd, eOr, eNot, eIf, eOp, eNeg, eIsN, eNotN, eFld, eFldO, eIxO, eLenO, eTup, eB, eTuple, eFind, eJoin, eIsi, eCall, eCallT, eChain, nLst, nList, nComp, nCall, nCallT, nMake, nRep, nCat, nCatO, oNone, oSome, nSlice, bVal, bAnd, bOr, bNot, bOp, bChain, bIsN, bNotN, bYes, aNil, aCons, qNil, qVal, iSq, iR1, iR2, iZp, iEn, sPopAt, gNm, gTp, gConsD, gNilD, onMade, gt, ownAll, mkSl, wb, endsD, mrg, startD, kAdd, kSub, kMul, kMod, kDiv, kPow, kShr, kLt, kLe, kGt, kGe, isNon, br_decide, br_t, br_f, Bool.not_true, Bool.not_false, List.map_cons, List.map_nil, List.length_cons, List.length_nil, List.replicate, List.cons_append, List.nil_append, List.set_cons_zero, List.set_cons_succ, List.set_nil, wipeD, back, noOwn, true_and, and_true, List.length_map, List.reduceReplicate, Nat.reduceSub, Nat.reduceAdd, Int.reduceNeg, reduceCtorEq, if_true, if_false, Bool.true_eq_false, Bool.false_eq_true, ite_true, ite_false, s_onVal, s_onOwn, s_onLst, s_onIns, s_onL, s_onBl, s_some, s_kI, s_addI, s_addS, s_neg, s_eqI, s_neI, s_eqS, s_neS, s_ixL, s_ixT, s_ixS, s_ixO, s_lenS, s_lenL, s_lenT, s_abs, s_intI, s_intB, s_max2, s_min2, s_itL, s_itT, s_itS, s_rng1, s_rng2, s_zipL, s_zipT, s_enL, s_seqL, s_seqT, s_minL, s_maxL, s_sum, s_isBl, s_fld, s_vNil, s_vCons, s_frzL, s_frzI, at0, at1, at2, at3, ix30, ix31, ix32, pT_cons, oT_cons, iT_cons, Option.map_some, s_none, s_put0, s_put, s_find, s_join, notInS_of, inS_of, eq_self]
  refine compL_any (fun ρ => ρ = [.val (tL t), .val (iL s), .un, .un, .un]) (fun _ z => ∃ l : List Int, z = iL l ∧ l.length = n) _ _ _ (by rw [List.length_map, ht.1]; exact small (m := 1000000) (by simpa using hn)) (fun d hd ρ e => ?_) rfl fun zs ρ a e => ?_
  · subst e
    obtain ⟨l, hl, rfl⟩ := List.mem_map.mp hd
    simp only [iL, sNil, sCons, sIf, sAsg, sOwn, sFor, sRet, sRetN, sRetO, sRetNew, sExpr, sApp, sSetIx, sPass, DL.sFld, sNever, s_lk, sLcO, sLcV, eVar, eFrz, eC, eNew, eAnd, eOr, eNot, eIf, eOp, eNeg, eIsN, eNotN, eFld, eFldO, eIxO, eLenO, eTup, eB, eTuple, eFind, eJoin, eIsi, eCall, eCallT, eChain, nLst, nList, nComp, nCall, nCallT, nMake, nRep, nCat, nCatO, oNone, oSome, nSlice, bVal, bAnd, bOr, bNot, bOp, bChain, bIsN, bNotN, bYes, aNil, aCons, qNil, qVal, iSq, iR1, iR2, iZp, iEn, sPopAt, gNm, gTp, gConsD, gNilD, onMade, gt, ownAll, mkSl, wb, endsD, mrg, startD, kAdd, kSub, kMul, kMod, kDiv, kPow, kShr, kLt, kLe, kGt, kGe, isNon, br_decide, br_t, br_f, Bool.not_true, Bool.not_false, List.map_cons, List.map_nil, List.length_cons, List.length_nil, List.replicate, List.cons_append, List.nil_append, List.set_cons_zero, List.set_cons_succ, List.set_nil, wipeD, back, noOwn, true_and, and_true, List.length_map, List.reduceReplicate, Nat.reduceSub, Nat.reduceAdd, Int.reduceNeg, reduceCtorEq, if_true, if_false, Bool.true_eq_false, Bool.false_eq_true, ite_true, ite_false, s_onVal, s_onOwn, s_onLst, s_onIns, s_onL, s_onBl, s_some, s_kI, s_addI, s_addS, s_neg, s_eqI, s_neI, s_eqS, s_neS, s_ixL, s_ixT, s_ixS, s_ixO, s_lenS, s_lenL, s_lenT, s_abs, s_intI, s_intB, s_max2, s_min2, s_itL, s_itT, s_itS, s_rng1, s_rng2, s_zipL, s_zipT, s_enL, s_seqL, s_seqT, s_minL, s_maxL, s_sum, s_isBl, s_fld, s_vNil, s_vCons, s_frzL, s_frzI, at0, at1, at2, at3, ix30, ix31, ix32, pT_cons, oT_cons, iT_cons, Option.map_some, s_none, s_put0, s_put, s_find, s_join, notInS_of, inS_of, eq_self]
    intro k hk
    refine compL_any (fun ρ => ρ = [.val (tL t), .val (iL s), .un, .un, .val (iL l)]) (fun _ z => ∃ i : Int, z = .int i) _ _ _ ?_ (fun d hd ρ e => ?_) rfl fun zs ρ a e => ?_
    · rw [zipD_length, List.length_map, List.length_map, ht.2 l hl, hs]; exact small (m := 1000000) (by simpa using hn)
    · subst e
      obtain ⟨x, y, rfl⟩ := zipD_ints hd
      simp only [sNil, sCons, sIf, sAsg, sOwn, sFor, sRet, sRetN, sRetO, sRetNew, sExpr, sApp, sSetIx, sPass, DL.sFld, sNever, s_lk, sLcO, sLcV, eVar, eFrz, eC, eNew, eAnd, eOr, eNot, eIf, eOp, eNeg, eIsN, eNotN, eFld, eFldO, eIxO, eLenO, eTup, eB, eTuple, eFind, eJoin, eIsi, eCall, eCallT, eChain, nLst, nList, nComp, nCall, nCallT, nMake, nRep, nCat, nCatO, oNone, oSome, nSlice, bVal, bAnd, bOr, bNot, bOp, bChain, bIsN, bNotN, bYes, aNil, aCons, qNil, qVal, iSq, iR1, iR2, iZp, iEn, sPopAt, gNm, gTp, gConsD, gNilD, onMade, gt, ownAll, mkSl, wb, endsD, mrg, startD, kAdd, kSub, kMul, kMod, kDiv, kPow, kShr, kLt, kLe, kGt, kGe, isNon, br_decide, br_t, br_f, Bool.not_true, Bool.not_false, List.map_cons, List.map_nil, List.length_cons, List.length_nil, List.replicate, List.cons_append, List.nil_append, List.set_cons_zero, List.set_cons_succ, List.set_nil, wipeD, back, noOwn, true_and, and_true, List.length_map, List.reduceReplicate, Nat.reduceSub, Nat.reduceAdd, Int.reduceNeg, reduceCtorEq, if_true, if_false, Bool.true_eq_false, Bool.false_eq_true, ite_true, ite_false, s_onVal, s_onOwn, s_onLst, s_onIns, s_onL, s_onBl, s_some, s_kI, s_addI, s_addS, s_neg, s_eqI, s_neI, s_eqS, s_neS, s_ixL, s_ixT, s_ixS, s_ixO, s_lenS, s_lenL, s_lenT, s_abs, s_intI, s_intB, s_max2, s_min2, s_itL, s_itT, s_itS, s_rng1, s_rng2, s_zipL, s_zipT, s_enL, s_seqL, s_seqT, s_minL, s_maxL, s_sum, s_isBl, s_fld, s_vNil, s_vCons, s_frzL, s_frzI, at0, at1, at2, at3, ix30, ix31, ix32, pT_cons, oT_cons, iT_cons, Option.map_some, s_none, s_put0, s_put, s_find, s_join, notInS_of, inS_of, eq_self]
      exact fun k hk => hk _ _ ⟨_, rfl⟩ rfl
    · subst e
      obtain ⟨l', rfl, a2⟩ := a.mp (f := D.int) (R := fun _ _ => True) fun _ b ⟨i, e⟩ => ⟨i, e, trivial⟩
      refine hk _ _ ⟨l', rfl, ?_⟩ rfl
      rw [← a2.length, zipD_length, List.length_map, List.length_map, ht.2 l hl, hs]; simp
  · subst e
    obtain ⟨t', rfl, a2⟩ := a.mp (f := iL) (R := fun _ (l : List Int) => l.length = n) fun _ b ⟨i, e, p⟩ => ⟨i, e, p⟩
    refine h t' ⟨?_, a2.right (R := fun l : List Int => l.length = n) fun _ _ p => p⟩
    rw [← a2.length, List.length_map, ht.1]

theorem p__law_world (K : PySem.W.Frag) (kf : KF K) : ∀ sl Q E, T__law_world K sl Q E → m__law_world K (endsD [0] sl Q E) (startD N__law_world sl) := by
  refine oT_in ?_
  rintro src ds Q E ⟨many, a, most, rfl, ⟨m1, m2⟩, ha, ⟨h0, h1⟩, hs, h⟩
  unfold m__law_world
  simp only [T__law_draw, sNil, sCons, sIf, sAsg, sOwn, sFor, sRet, sRetN, sRetO, sRetNew, sExpr, sApp, sSetIx, sPass, DL.sFld, sNever, s_lk, sLcO, sLcV, eVar, eFrz, eC, eNew, eAnd, eOr, eNot, eIf, eOp, eNeg, eIsN, eNotN, eFld, eFldO, eIxO, eLenO, eTup, eB, eTuple, eFind, eJoin, eIsi, eCall, eCallT, eChain, nLst, nList, nComp, nCall, nCallT, nMake, nRep, nCat, nCatO, oNone, oSome, nSlice, bVal, bAnd, bOr, bNot, bOp, bChain, bIsN, bNotN, bYes, aNil, aCons, qNil, qVal, iSq, iR1, iR2, iZp, iEn, sPopAt, gNm, gTp, gConsD, gNilD, onMade, gt, ownAll, mkSl, wb, endsD, mrg, startD, kAdd, kSub, kMul, kMod, kDiv, kPow, kShr, kLt, kLe, kGt, kGe, isNon, br_decide, br_t, br_f, Bool.not_true, Bool.not_false, List.map_cons, List.map_nil, List.length_cons, List.length_nil, List.replicate, List.cons_append, List.nil_append, List.set_cons_zero, List.set_cons_succ, List.set_nil, wipeD, back, noOwn, true_and, and_true, List.length_map, List.reduceReplicate, Nat.reduceSub, Nat.reduceAdd, Int.reduceNeg, reduceCtorEq, if_true, if_false, Bool.true_eq_false, Bool.false_eq_true, ite_true, ite_false, s_onVal, s_onOwn, s_onLst, s_onIns, s_onL, s_onBl, s_some, s_kI, s_addI, s_addS, s_neg, s_eqI, s_neI, s_eqS, s_neS, s_ixL, s_ixT, s_ixS, s_ixO, s_lenS, s_lenL, s_lenT, s_abs, s_intI, s_intB, s_max2, s_min2, s_itL, s_itT, s_itS, s_rng1, s_rng2, s_zipL, s_zipT, s_enL, s_seqL, s_seqT, s_minL, s_maxL, s_sum, s_isBl, s_fld, s_vNil, s_vCons, s_frzL, s_frzI, at0, at1, at2, at3, ix30, ix31, ix32, pT_cons, oT_cons, iT_cons, Option.map_some, s_none, s_put0, s_put, s_find, s_join, notInS_of, inS_of, eq_self]
  refine ⟨by omega, hs, fun mr s1 hs1 _ => ?_⟩
  simp only [T__law_prices, sNil, sCons, sIf, sAsg, sOwn, sFor, sRet, sRetN, sRetO, sRetNew, sExpr, sApp, sSetIx, sPass, DL.sFld, sNever, s_lk, sLcO, sLcV, eVar, eFrz, eC, eNew, eAnd, eOr, eNot, eIf, eOp, eNeg, eIsN, eNotN, eFld, eFldO, eIxO, eLenO, eTup, eB, eTuple, eFind, eJoin, eIsi, eCall, eCallT, eChain, nLst, nList, nComp, nCall, nCallT, nMake, nRep, nCat, nCatO, oNone, oSome, nSlice, bVal, bAnd, bOr, bNot, bOp, bChain, bIsN, bNotN, bYes, aNil, aCons, qNil, qVal, iSq, iR1, iR2, iZp, iEn, sPopAt, gNm, gTp, gConsD, gNilD, onMade, gt, ownAll, mkSl, wb, endsD, mrg, startD, kAdd, kSub, kMul, kMod, kDiv, kPow, kShr, kLt, kLe, kGt, kGe, isNon, br_decide, br_t, br_f, Bool.not_true, Bool.not_false, List.map_cons, List.map_nil, List.length_cons, List.length_nil, List.replicate, List.cons_append, List.nil_append, List.set_cons_zero, List.set_cons_succ, List.set_nil, wipeD, back, noOwn, true_and, and_true, List.length_map, List.reduceReplicate, Nat.reduceSub, Nat.reduceAdd, Int.reduceNeg, reduceCtorEq, if_true, if_false, Bool.true_eq_false, Bool.false_eq_true, ite_true, ite_false, s_onVal, s_onOwn, s_onLst, s_onIns, s_onL, s_onBl, s_some, s_kI, s_addI, s_addS, s_neg, s_eqI, s_neI, s_eqS, s_neS, s_ixL, s_ixT, s_ixS, s_ixO, s_lenS, s_lenL, s_lenT, s_abs, s_intI, s_intB, s_max2, s_min2, s_itL, s_itT, s_itS, s_rng1, s_rng2, s_zipL, s_zipT, s_enL, s_seqL, s_seqT, s_minL, s_maxL, s_sum, s_isBl, s_fld, s_vNil, s_vCons, s_frzL, s_frzI, at0, at1, at2, at3, ix30, ix31, ix32, pT_cons, oT_cons, iT_cons, Option.map_some, s_none, s_put0, s_put, s_find, s_join, notInS_of, inS_of, eq_self]
  refine ⟨many, most, rfl, by omega, by omega, hs1, fun bg s2 hs2 hb _ => ⟨many, most, rfl, by omega, by omega, hs2, fun en s3 hs3 he _ => ⟨by omega, hs3, fun r4 s4 hs4 _ => ?_⟩⟩⟩
  have key : ∀ (en : List Int), en.length = many → m__law_world_c2 K (endsD [0] [.own (.lst src), .val (.int many), .val (.str a), .val (.int most)] Q E)
      [.own (.lst s4), .val (.int many), .val (.str a), .val (.int most), .val (.int mr), .val (iL bg), .val (iL en), .un, .un, .un, .un, .un] := by
    intro en he
    unfold m__law_world_c2
    simp only [T__law_changes, sNil, sCons, sIf, sAsg, sOwn, sFor, sRet, sRetN, sRetO, sRetNew, sExpr, sApp, sSetIx, sPass, DL.sFld, sNever, s_lk, sLcO, sLcV, eVar, eFrz, eC, eNew, eAnd, eOr, eNot, eIf, eOp, eNeg, eIsN, eNotN, eFld, eFldO, eIxO, eLenO, eTup, eB, eTuple, eFind, eJoin, eIsi, eCall, eCallT, eChain, nLst, nList, nComp, nCall, nCallT, nMake, nRep, nCat, nCatO, oNone, oSome, nSlice, bVal, bAnd, bOr, bNot, bOp, bChain, bIsN, bNotN, bYes, aNil, aCons, qNil, qVal, iSq, iR1, iR2, iZp, iEn, sPopAt, gNm, gTp, gConsD, gNilD, onMade, gt, ownAll, mkSl, wb, endsD, mrg, startD, kAdd, kSub, kMul, kMod, kDiv, kPow, kShr, kLt, kLe, kGt, kGe, isNon, br_decide, br_t, br_f, Bool.not_true, Bool.not_false, List.map_cons, List.map_nil, List.length_cons, List.length_nil, List.replicate, List.cons_append, List.nil_append, List.set_cons_zero, List.set_cons_succ, List.set_nil, wipeD, back, noOwn, true_and, and_true, List.length_map, List.reduceReplicate, Nat.reduceSub, Nat.reduceAdd, Int.reduceNeg, reduceCtorEq, if_true, if_false, Bool.true_eq_false, Bool.false_eq_true, ite_true, ite_false, s_onVal, s_onOwn, s_onLst, s_onIns, s_onL, s_onBl, s_some, s_kI, s_addI, s_addS, s_neg, s_eqI, s_neI, s_eqS, s_neS, s_ixL, s_ixT, s_ixS, s_ixO, s_lenS, s_lenL, s_lenT, s_abs, s_intI, s_intB, s_max2, s_min2, s_itL, s_itT, s_itS, s_rng1, s_rng2, s_zipL, s_zipT, s_enL, s_seqL, s_seqT, s_minL, s_maxL, s_sum, s_isBl, s_fld, s_vNil, s_vCons, s_frzL, s_frzI, at0, at1, at2, at3, ix30, ix31, ix32, pT_cons, oT_cons, iT_cons, Option.map_some, s_none, s_put0, s_put, s_find, s_join, notInS_of, inS_of, eq_self]
    refine ⟨many, most, rfl, by omega, by omega, hs4, fun ch s5 hs5 hch => ⟨small (m := 1000) ha, by omega, ?_⟩⟩
    refine forL_inv (fun rest ρ => ∃ (s : List D) (x9 x10 : Sl) (c : List (List (List Int))), Src s ∧ c.length + rest.length = a.length ∧ (∀ t ∈ c, Sq many t) ∧ (∀ d ∈ rest, ∃ i : Nat, d = .int i) ∧
      ρ = [.own (.lst s), .val (.int many), .val (.str a), .val (.int most), .val (.int mr), .val (iL bg), .val (iL en), .val (tL ch), .own (.lst (c.map tL)), x9, x10, .un]) _ _ (fun ρ ⟨s, x9, x10, c, hs, hl, hc, _, e⟩ => ?_) (fun d ds ρ ⟨s, x9, x10, c, hs, hl, hc, hd, e⟩ nx hn => ?_) ⟨s5, _, _, [], hs5, by rw [rng_length]; simp, by simp, fun d hd => ?_, rfl⟩
    · subst e
      simp only [sNil, sCons, sIf, sAsg, sOwn, sFor, sRet, sRetN, sRetO, sRetNew, sExpr, sApp, sSetIx, sPass, DL.sFld, sNever, s_lk, sLcO, sLcV, eVar, eFrz, eC, eNew, eAnd, eOr, eNot, eIf, eOp, eNeg, eIsN, eNotN, eFld, eFldO, eIxO, eLenO, eTup, eB, eTuple, eFind, eJoin, eIsi, eCall, eCallT, eChain, nLst, nList, nComp, nCall, nCallT, nMake, nRep, nCat, nCatO, oNone, oSome, nSlice, bVal, bAnd, bOr, bNot, bOp, bChain, bIsN, bNotN, bYes, aNil, aCons, qNil, qVal, iSq, iR1, iR2, iZp, iEn, sPopAt, gNm, gTp, gConsD, gNilD, onMade, gt, ownAll, mkSl, wb, endsD, mrg, startD, kAdd, kSub, kMul, kMod, kDiv, kPow, kShr, kLt, kLe, kGt, kGe, isNon, br_decide, br_t, br_f, Bool.not_true, Bool.not_false, List.map_cons, List.map_nil, List.length_cons, List.length_nil, List.replicate, List.cons_append, List.nil_append, List.set_cons_zero, List.set_cons_succ, List.set_nil, wipeD, back, noOwn, true_and, and_true, List.length_map, List.reduceReplicate, Nat.reduceSub, Nat.reduceAdd, Int.reduceNeg, reduceCtorEq, if_true, if_false, Bool.true_eq_false, Bool.false_eq_true, ite_true, ite_false, s_onVal, s_onOwn, s_onLst, s_onIns, s_onL, s_onBl, s_some, s_kI, s_addI, s_addS, s_neg, s_eqI, s_neI, s_eqS, s_neS, s_ixL, s_ixT, s_ixS, s_ixO, s_lenS, s_lenL, s_lenT, s_abs, s_intI, s_intB, s_max2, s_min2, s_itL, s_itT, s_itS, s_rng1, s_rng2, s_zipL, s_zipT, s_enL, s_seqL, s_seqT, s_minL, s_maxL, s_sum, s_isBl, s_fld, s_vNil, s_vCons, s_frzL, s_frzI, at0, at1, at2, at3, ix30, ix31, ix32, pT_cons, oT_cons, iT_cons, Option.map_some, s_none, s_put0, s_put, s_find, s_join, notInS_of, inS_of, eq_self]
      exact h ⟨a, bg, c, en⟩ s hs ⟨hb, he, by simpa using hl, hc⟩ rfl
    · subst e
      obtain ⟨i, rfl⟩ := hd d List.mem_cons_self
      have sz : c.length < sizeLine := small' (m := 1001) (by simp only [List.length_cons] at hl; omega)
      have stp : ∀ (s : List D) (x9 x10 : Sl) (t : List (List Int)), Src s → Sq many t → nx [.own (.lst s), .val (.int many), .val (.str a), .val (.int most), .val (.int mr), .val (iL bg), .val (iL en), .val (tL ch), .own (.lst (c.map tL ++ [tL t])), x9, x10, .un] := fun s x9 x10 t hs ht => hn _ ⟨s, x9, x10, c ++ [t], hs, by simp only [List.length_append, List.length_cons, List.length_nil] at hl ⊢; omega, fun t' h' => by
        rcases List.mem_append.mp h' with h' | h'
        · exact hc t' h'
        · simp at h'; rw [h']; exact ht, fun d h => hd d (List.mem_cons_of_mem _ h), by simp⟩
      unfold m__law_world_1
      simp only [m__law_world_c1, T__law_any_table, T__law_prices, T__law_served, sNil, sCons, sIf, sAsg, sOwn, sFor, sRet, sRetN, sRetO, sRetNew, sExpr, sApp, sSetIx, sPass, DL.sFld, sNever, s_lk, sLcO, sLcV, eVar, eFrz, eC, eNew, eAnd, eOr, eNot, eIf, eOp, eNeg, eIsN, eNotN, eFld, eFldO, eIxO, eLenO, eTup, eB, eTuple, eFind, eJoin, eIsi, eCall, eCallT, eChain, nLst, nList, nComp, nCall, nCallT, nMake, nRep, nCat, nCatO, oNone, oSome, nSlice, bVal, bAnd, bOr, bNot, bOp, bChain, bIsN, bNotN, bYes, aNil, aCons, qNil, qVal, iSq, iR1, iR2, iZp, iEn, sPopAt, gNm, gTp, gConsD, gNilD, onMade, gt, ownAll, mkSl, wb, endsD, mrg, startD, kAdd, kSub, kMul, kMod, kDiv, kPow, kShr, kLt, kLe, kGt, kGe, isNon, br_decide, br_t, br_f, Bool.not_true, Bool.not_false, List.map_cons, List.map_nil, List.length_cons, List.length_nil, List.replicate, List.cons_append, List.nil_append, List.set_cons_zero, List.set_cons_succ, List.set_nil, wipeD, back, noOwn, true_and, and_true, List.length_map, List.reduceReplicate, Nat.reduceSub, Nat.reduceAdd, Int.reduceNeg, reduceCtorEq, if_true, if_false, Bool.true_eq_false, Bool.false_eq_true, ite_true, ite_false, s_onVal, s_onOwn, s_onLst, s_onIns, s_onL, s_onBl, s_some, s_kI, s_addI, s_addS, s_neg, s_eqI, s_neI, s_eqS, s_neS, s_ixL, s_ixT, s_ixS, s_ixO, s_lenS, s_lenL, s_lenT, s_abs, s_intI, s_intB, s_max2, s_min2, s_itL, s_itT, s_itS, s_rng1, s_rng2, s_zipL, s_zipT, s_enL, s_seqL, s_seqT, s_minL, s_maxL, s_sum, s_isBl, s_fld, s_vNil, s_vCons, s_frzL, s_frzI, at0, at1, at2, at3, ix30, ix31, ix32, pT_cons, oT_cons, iT_cons, Option.map_some, s_none, s_put0, s_put, s_find, s_join, notInS_of, inS_of, eq_self]
      have fm := fmod_in (i : Int) (b := (many : Int)) (by omega)
      refine ⟨fun _ => ⟨many, most, rfl, by omega, by omega, hs, fun t s' hs' ht => ⟨sz, stp s' _ _ t hs' ht⟩⟩, fun _ => ⟨many, most, rfl, by omega, by omega, hs, fun l s' hs' hl _ => ⟨fun _ => ?_, fun _ => ⟨many, ch, l, rfl, by omega, hch, hl, fun t ht => ⟨sz, stp s' _ _ t hs' ht⟩⟩⟩⟩⟩
      refine compL_any (fun ρ => ρ = [.own (.lst s'), .val (.int many), .val (.str a), .val (.int most), .val (.int mr), .val (iL bg), .val (iL en), .val (tL ch), .own (.lst (c.map tL)), .val (.int i), .val (iL l), .un]) (fun _ z => ∃ i : Int, z = .int i) _ _ _ (by rw [List.length_map, hl]; exact small (m := 1000) (by simpa using m2)) (fun d hd ρ e => ?_) rfl fun zs ρ a e => ?_
      · subst e
        obtain ⟨j, _, rfl⟩ := List.mem_map.mp hd
        simp only [sNil, sCons, sIf, sAsg, sOwn, sFor, sRet, sRetN, sRetO, sRetNew, sExpr, sApp, sSetIx, sPass, DL.sFld, sNever, s_lk, sLcO, sLcV, eVar, eFrz, eC, eNew, eAnd, eOr, eNot, eIf, eOp, eNeg, eIsN, eNotN, eFld, eFldO, eIxO, eLenO, eTup, eB, eTuple, eFind, eJoin, eIsi, eCall, eCallT, eChain, nLst, nList, nComp, nCall, nCallT, nMake, nRep, nCat, nCatO, oNone, oSome, nSlice, bVal, bAnd, bOr, bNot, bOp, bChain, bIsN, bNotN, bYes, aNil, aCons, qNil, qVal, iSq, iR1, iR2, iZp, iEn, sPopAt, gNm, gTp, gConsD, gNilD, onMade, gt, ownAll, mkSl, wb, endsD, mrg, startD, kAdd, kSub, kMul, kMod, kDiv, kPow, kShr, kLt, kLe, kGt, kGe, isNon, br_decide, br_t, br_f, Bool.not_true, Bool.not_false, List.map_cons, List.map_nil, List.length_cons, List.length_nil, List.replicate, List.cons_append, List.nil_append, List.set_cons_zero, List.set_cons_succ, List.set_nil, wipeD, back, noOwn, true_and, and_true, List.length_map, List.reduceReplicate, Nat.reduceSub, Nat.reduceAdd, Int.reduceNeg, reduceCtorEq, if_true, if_false, Bool.true_eq_false, Bool.false_eq_true, ite_true, ite_false, s_onVal, s_onOwn, s_onLst, s_onIns, s_onL, s_onBl, s_some, s_kI, s_addI, s_addS, s_neg, s_eqI, s_neI, s_eqS, s_neS, s_ixL, s_ixT, s_ixS, s_ixO, s_lenS, s_lenL, s_lenT, s_abs, s_intI, s_intB, s_max2, s_min2, s_itL, s_itT, s_itS, s_rng1, s_rng2, s_zipL, s_zipT, s_enL, s_seqL, s_seqT, s_minL, s_maxL, s_sum, s_isBl, s_fld, s_vNil, s_vCons, s_frzL, s_frzI, at0, at1, at2, at3, ix30, ix31, ix32, pT_cons, oT_cons, iT_cons, Option.map_some, s_none, s_put0, s_put, s_find, s_join, notInS_of, inS_of, eq_self]
        exact fun k hk => hk _ _ ⟨_, rfl⟩ rfl
      · subst e
        obtain ⟨l', rfl, a2⟩ := a.mp (f := D.int) (R := fun _ _ => True) fun _ b ⟨i, e⟩ => ⟨i, e, trivial⟩
        have hl' : l'.length = many := by rw [← a2.length, List.length_map]; exact hl
        simp only [sNil, sCons, sIf, sAsg, sOwn, sFor, sRet, sRetN, sRetO, sRetNew, sExpr, sApp, sSetIx, sPass, DL.sFld, sNever, s_lk, sLcO, sLcV, eVar, eFrz, eC, eNew, eAnd, eOr, eNot, eIf, eOp, eNeg, eIsN, eNotN, eFld, eFldO, eIxO, eLenO, eTup, eB, eTuple, eFind, eJoin, eIsi, eCall, eCallT, eChain, nLst, nList, nComp, nCall, nCallT, nMake, nRep, nCat, nCatO, oNone, oSome, nSlice, bVal, bAnd, bOr, bNot, bOp, bChain, bIsN, bNotN, bYes, aNil, aCons, qNil, qVal, iSq, iR1, iR2, iZp, iEn, sPopAt, gNm, gTp, gConsD, gNilD, onMade, gt, ownAll, mkSl, wb, endsD, mrg, startD, kAdd, kSub, kMul, kMod, kDiv, kPow, kShr, kLt, kLe, kGt, kGe, isNon, br_decide, br_t, br_f, Bool.not_true, Bool.not_false, List.map_cons, List.map_nil, List.length_cons, List.length_nil, List.replicate, List.cons_append, List.nil_append, List.set_cons_zero, List.set_cons_succ, List.set_nil, wipeD, back, noOwn, true_and, and_true, List.length_map, List.reduceReplicate, Nat.reduceSub, Nat.reduceAdd, Int.reduceNeg, reduceCtorEq, if_true, if_false, Bool.true_eq_false, Bool.false_eq_true, ite_true, ite_false, s_onVal, s_onOwn, s_onLst, s_onIns, s_onL, s_onBl, s_some, s_kI, s_addI, s_addS, s_neg, s_eqI, s_neI, s_eqS, s_neS, s_ixL, s_ixT, s_ixS, s_ixO, s_lenS, s_lenL, s_lenT, s_abs, s_intI, s_intB, s_max2, s_min2, s_itL, s_itT, s_itS, s_rng1, s_rng2, s_zipL, s_zipT, s_enL, s_seqL, s_seqT, s_minL, s_maxL, s_sum, s_isBl, s_fld, s_vNil, s_vCons, s_frzL, s_frzI, at0, at1, at2, at3, ix30, ix31, ix32, pT_cons, oT_cons, iT_cons, Option.map_some, s_none, s_put0, s_put, s_find, s_join, notInS_of, inS_of, eq_self]
        rw [ixN_pos fm.1 (by omega)]
        simp only [sNil, sCons, sIf, sAsg, sOwn, sFor, sRet, sRetN, sRetO, sRetNew, sExpr, sApp, sSetIx, sPass, DL.sFld, sNever, s_lk, sLcO, sLcV, eVar, eFrz, eC, eNew, eAnd, eOr, eNot, eIf, eOp, eNeg, eIsN, eNotN, eFld, eFldO, eIxO, eLenO, eTup, eB, eTuple, eFind, eJoin, eIsi, eCall, eCallT, eChain, nLst, nList, nComp, nCall, nCallT, nMake, nRep, nCat, nCatO, oNone, oSome, nSlice, bVal, bAnd, bOr, bNot, bOp, bChain, bIsN, bNotN, bYes, aNil, aCons, qNil, qVal, iSq, iR1, iR2, iZp, iEn, sPopAt, gNm, gTp, gConsD, gNilD, onMade, gt, ownAll, mkSl, wb, endsD, mrg, startD, kAdd, kSub, kMul, kMod, kDiv, kPow, kShr, kLt, kLe, kGt, kGe, isNon, br_decide, br_t, br_f, Bool.not_true, Bool.not_false, List.map_cons, List.map_nil, List.length_cons, List.length_nil, List.replicate, List.cons_append, List.nil_append, List.set_cons_zero, List.set_cons_succ, List.set_nil, wipeD, back, noOwn, true_and, and_true, List.length_map, List.reduceReplicate, Nat.reduceSub, Nat.reduceAdd, Int.reduceNeg, reduceCtorEq, if_true, if_false, Bool.true_eq_false, Bool.false_eq_true, ite_true, ite_false, s_onVal, s_onOwn, s_onLst, s_onIns, s_onL, s_onBl, s_some, s_kI, s_addI, s_addS, s_neg, s_eqI, s_neI, s_eqS, s_neS, s_ixL, s_ixT, s_ixS, s_ixO, s_lenS, s_lenL, s_lenT, s_abs, s_intI, s_intB, s_max2, s_min2, s_itL, s_itT, s_itS, s_rng1, s_rng2, s_zipL, s_zipT, s_enL, s_seqL, s_seqT, s_minL, s_maxL, s_sum, s_isBl, s_fld, s_vNil, s_vCons, s_frzL, s_frzI, at0, at1, at2, at3, ix30, ix31, ix32, pT_cons, oT_cons, iT_cons, Option.map_some, s_none, s_put0, s_put, s_find, s_join, notInS_of, inS_of, eq_self]
        refine ⟨by omega, many, ch, l'.set ((i : Int).fmod many).toNat 0, by rw [iL, List.map_set], by omega, hch, by rw [List.length_set]; exact hl', fun t ht => ⟨sz, ?_⟩⟩
        exact stp s' _ _ t hs' ht
    · obtain ⟨j, _, rfl⟩ := rng_mem.mp hd
      exact ⟨j, by simp⟩
  refine ⟨fun _ => ⟨⟨by omega, by omega, by simp; exact small (m := 1000) m2⟩, ?_⟩, fun _ => key en he⟩
  have e0 : (List.replicate (many : Int).toNat [D.int 0]).flatten = (List.replicate many (0 : Int)).map D.int := by
    rw [Int.toNat_natCast, List.map_replicate]
    induction many with
    | zero => rfl
    | succ m ih => rw [List.replicate_succ, List.flatten_cons]; simp [List.replicate_succ]
  rw [e0]
  exact key (List.replicate many 0) (by simp)

theorem p__law_small (K : PySem.W.Frag) (kf : KF K) : ∀ sl Q E, T__law_small K sl Q E → m__law_small K (endsD [0] sl Q E) (startD N__law_small sl) := by
  refine oT_in ?_
  rintro src ds Q E ⟨a, most, rfl, ha, ⟨h0, h1⟩, hs, h⟩
  unfold m__law_small
  simp only [T__law_states, T__law_world, sNil, sCons, sIf, sAsg, sOwn, sFor, sRet, sRetN, sRetO, sRetNew, sExpr, sApp, sSetIx, sPass, DL.sFld, sNever, s_lk, sLcO, sLcV, eVar, eFrz, eC, eNew, eAnd, eOr, eNot, eIf, eOp, eNeg, eIsN, eNotN, eFld, eFldO, eIxO, eLenO, eTup, eB, eTuple, eFind, eJoin, eIsi, eCall, eCallT, eChain, nLst, nList, nComp, nCall, nCallT, nMake, nRep, nCat, nCatO, oNone, oSome, nSlice, bVal, bAnd, bOr, bNot, bOp, bChain, bIsN, bNotN, bYes, aNil, aCons, qNil, qVal, iSq, iR1, iR2, iZp, iEn, sPopAt, gNm, gTp, gConsD, gNilD, onMade, gt, ownAll, mkSl, wb, endsD, mrg, startD, kAdd, kSub, kMul, kMod, kDiv, kPow, kShr, kLt, kLe, kGt, kGe, isNon, br_decide, br_t, br_f, Bool.not_true, Bool.not_false, List.map_cons, List.map_nil, List.length_cons, List.length_nil, List.replicate, List.cons_append, List.nil_append, List.set_cons_zero, List.set_cons_succ, List.set_nil, wipeD, back, noOwn, true_and, and_true, List.length_map, List.reduceReplicate, Nat.reduceSub, Nat.reduceAdd, Int.reduceNeg, reduceCtorEq, if_true, if_false, Bool.true_eq_false, Bool.false_eq_true, ite_true, ite_false, s_onVal, s_onOwn, s_onLst, s_onIns, s_onL, s_onBl, s_some, s_kI, s_addI, s_addS, s_neg, s_eqI, s_neI, s_eqS, s_neS, s_ixL, s_ixT, s_ixS, s_ixO, s_lenS, s_lenL, s_lenT, s_abs, s_intI, s_intB, s_max2, s_min2, s_itL, s_itT, s_itS, s_rng1, s_rng2, s_zipL, s_zipT, s_enL, s_seqL, s_seqT, s_minL, s_maxL, s_sum, s_isBl, s_fld, s_vNil, s_vCons, s_frzL, s_frzI, at0, at1, at2, at3, ix30, ix31, ix32, pT_cons, oT_cons, iT_cons, Option.map_some, s_none, s_put0, s_put, s_find, s_join, notInS_of, inS_of, eq_self]
  refine ⟨hs, fun n s1 hs1 hn => ⟨fun e => ⟨3, a, min most 2, rfl, by omega, ha, by omega, hs1, fun w s2 hs2 hw hwa => h 3 w s2 hs2 (by omega) hw hwa⟩, fun e => ⟨n, a, most, rfl, by omega, ha, by omega, hs1, fun w s2 hs2 hw hwa => h n w s2 hs2 hn hw hwa⟩⟩⟩


theorem p__law_raised (K : PySem.W.Frag) (kf : KF K) : ∀ sl Q E, T__law_raised K sl Q E → m__law_raised K (endsD [] sl Q E) (startD N__law_raised sl) := by
  refine pT_in ?_
  rintro ds Q E ⟨n, w, m, rfl, hw, hn, ha, hm, h⟩
  unfold m__law_raised
  simp only [wD, wL, iL, sNil, sCons, sIf, sAsg, sOwn, sFor, sRet, sRetN, sRetO, sRetNew, sExpr, sApp, sSetIx, sPass, DL.sFld, sNever, s_lk, sLcO, sLcV, eVar, eFrz, eC, eNew, eAnd, eOr, eNot, eIf, eOp, eNeg, eIsN, eNotN, eFld, eFldO, eIxO, eLenO, eTup, eB, eTuple, eFind, eJoin, eIsi, eCall, eCallT, eChain, nLst, nList, nComp, nCall, nCallT, nMake, nRep, nCat, nCatO, oNone, oSome, nSlice, bVal, bAnd, bOr, bNot, bOp, bChain, bIsN, bNotN, bYes, aNil, aCons, qNil, qVal, iSq, iR1, iR2, iZp, iEn, sPopAt, gNm, gTp, gConsD, gNilD, onMade, gt, ownAll, mkSl, wb, endsD, mrg, startD, kAdd, kSub, kMul, kMod, kDiv, kPow, kShr, kLt, kLe, kGt, kGe, isNon, br_decide, br_t, br_f, Bool.not_true, Bool.not_false, List.map_cons, List.map_nil, List.length_cons, List.length_nil, List.replicate, List.cons_append, List.nil_append, List.set_cons_zero, List.set_cons_succ, List.set_nil, wipeD, back, noOwn, true_and, and_true, List.length_map, List.reduceReplicate, Nat.reduceSub, Nat.reduceAdd, Int.reduceNeg, reduceCtorEq, if_true, if_false, Bool.true_eq_false, Bool.false_eq_true, ite_true, ite_false, s_onVal, s_onOwn, s_onLst, s_onIns, s_onL, s_onBl, s_some, s_kI, s_addI, s_addS, s_neg, s_eqI, s_neI, s_eqS, s_neS, s_ixL, s_ixT, s_ixS, s_ixO, s_lenS, s_lenL, s_lenT, s_abs, s_intI, s_intB, s_max2, s_min2, s_itL, s_itT, s_itS, s_rng1, s_rng2, s_zipL, s_zipT, s_enL, s_seqL, s_seqT, s_minL, s_maxL, s_sum, s_isBl, s_fld, s_vNil, s_vCons, s_frzL, s_frzI, at0, at1, at2, at3, ix30, ix31, ix32, pT_cons, oT_cons, iT_cons, Option.map_some, s_none, s_put0, s_put, s_find, s_join, notInS_of, inS_of, eq_self]
  refine ⟨small (m := 1000) ha, by omega, ?_⟩
  refine forL_inv (fun rest ρ => ∃ (x7 : Sl) (c : List (List (List Int))), c.length + rest.length = w.a.length ∧ (∀ t ∈ c, Sq n t) ∧ (∀ d ∈ rest, ∃ i : Nat, d = .int i ∧ i < w.a.length) ∧
      ρ = [.val (wD w), .val (iL m), .val (.str w.a), .val (iL w.b), .val (.lst (w.c.map tL)), .val (iL w.e), .own (.lst (c.map tL)), x7, .un, .un]) _ _ (fun ρ ⟨x7, c, hl, hc, _, e⟩ => ?_) (fun d ds ρ ⟨x7, c, hl, hc, hd, e⟩ nx hn => ?_) ⟨_, [], by rw [rng_length]; simp, by simp, fun d hd => ?_, rfl⟩
  · subst e
    obtain ⟨z1, e1⟩ := at_neg (l := m.map D.int) (i := -1) (by omega) (by rw [List.length_map]; omega)
    obtain ⟨z2, e2⟩ := at_neg (l := m.map D.int) (i := -2) (by omega) (by rw [List.length_map]; omega)
    simp only [iL, sNil, sCons, sIf, sAsg, sOwn, sFor, sRet, sRetN, sRetO, sRetNew, sExpr, sApp, sSetIx, sPass, DL.sFld, sNever, s_lk, sLcO, sLcV, eVar, eFrz, eC, eNew, eAnd, eOr, eNot, eIf, eOp, eNeg, eIsN, eNotN, eFld, eFldO, eIxO, eLenO, eTup, eB, eTuple, eFind, eJoin, eIsi, eCall, eCallT, eChain, nLst, nList, nComp, nCall, nCallT, nMake, nRep, nCat, nCatO, oNone, oSome, nSlice, bVal, bAnd, bOr, bNot, bOp, bChain, bIsN, bNotN, bYes, aNil, aCons, qNil, qVal, iSq, iR1, iR2, iZp, iEn, sPopAt, gNm, gTp, gConsD, gNilD, onMade, gt, ownAll, mkSl, wb, endsD, mrg, startD, kAdd, kSub, kMul, kMod, kDiv, kPow, kShr, kLt, kLe, kGt, kGe, isNon, br_decide, br_t, br_f, Bool.not_true, Bool.not_false, List.map_cons, List.map_nil, List.length_cons, List.length_nil, List.replicate, List.cons_append, List.nil_append, List.set_cons_zero, List.set_cons_succ, List.set_nil, wipeD, back, noOwn, true_and, and_true, List.length_map, List.reduceReplicate, Nat.reduceSub, Nat.reduceAdd, Int.reduceNeg, reduceCtorEq, if_true, if_false, Bool.true_eq_false, Bool.false_eq_true, ite_true, ite_false, s_onVal, s_onOwn, s_onLst, s_onIns, s_onL, s_onBl, s_some, s_kI, s_addI, s_addS, s_neg, s_eqI, s_neI, s_eqS, s_neS, s_ixL, s_ixT, s_ixS, s_ixO, s_lenS, s_lenL, s_lenT, s_abs, s_intI, s_intB, s_max2, s_min2, s_itL, s_itT, s_itS, s_rng1, s_rng2, s_zipL, s_zipT, s_enL, s_seqL, s_seqT, s_minL, s_maxL, s_sum, s_isBl, s_fld, s_vNil, s_vCons, s_frzL, s_frzI, at0, at1, at2, at3, ix30, ix31, ix32, pT_cons, oT_cons, iT_cons, Option.map_some, s_none, s_put0, s_put, s_find, s_join, notInS_of, inS_of, eq_self]
    refine compL_any (fun ρ => ρ = [.val (wD w), .val (iL m), .val (.str w.a), .val (iL w.b), .val (.lst (w.c.map tL)), .val (iL w.e), .own (.lst (c.map tL)), x7, .un, .un]) (fun _ z => ∃ i : Int, z = .int i) _ _ _ (by rw [List.length_map, hw.b]; exact small (m := 1000) (by simpa using hn)) (fun d hd ρ e => ?_) rfl fun zs ρ a e => ?_
    · subst e
      obtain ⟨j, _, rfl⟩ := List.mem_map.mp hd
      simp only [iL, sNil, sCons, sIf, sAsg, sOwn, sFor, sRet, sRetN, sRetO, sRetNew, sExpr, sApp, sSetIx, sPass, DL.sFld, sNever, s_lk, sLcO, sLcV, eVar, eFrz, eC, eNew, eAnd, eOr, eNot, eIf, eOp, eNeg, eIsN, eNotN, eFld, eFldO, eIxO, eLenO, eTup, eB, eTuple, eFind, eJoin, eIsi, eCall, eCallT, eChain, nLst, nList, nComp, nCall, nCallT, nMake, nRep, nCat, nCatO, oNone, oSome, nSlice, bVal, bAnd, bOr, bNot, bOp, bChain, bIsN, bNotN, bYes, aNil, aCons, qNil, qVal, iSq, iR1, iR2, iZp, iEn, sPopAt, gNm, gTp, gConsD, gNilD, onMade, gt, ownAll, mkSl, wb, endsD, mrg, startD, kAdd, kSub, kMul, kMod, kDiv, kPow, kShr, kLt, kLe, kGt, kGe, isNon, br_decide, br_t, br_f, Bool.not_true, Bool.not_false, List.map_cons, List.map_nil, List.length_cons, List.length_nil, List.replicate, List.cons_append, List.nil_append, List.set_cons_zero, List.set_cons_succ, List.set_nil, wipeD, back, noOwn, true_and, and_true, List.length_map, List.reduceReplicate, Nat.reduceSub, Nat.reduceAdd, Int.reduceNeg, reduceCtorEq, if_true, if_false, Bool.true_eq_false, Bool.false_eq_true, ite_true, ite_false, s_onVal, s_onOwn, s_onLst, s_onIns, s_onL, s_onBl, s_some, s_kI, s_addI, s_addS, s_neg, s_eqI, s_neI, s_eqS, s_neS, s_ixL, s_ixT, s_ixS, s_ixO, s_lenS, s_lenL, s_lenT, s_abs, s_intI, s_intB, s_max2, s_min2, s_itL, s_itT, s_itS, s_rng1, s_rng2, s_zipL, s_zipT, s_enL, s_seqL, s_seqT, s_minL, s_maxL, s_sum, s_isBl, s_fld, s_vNil, s_vCons, s_frzL, s_frzI, at0, at1, at2, at3, ix30, ix31, ix32, pT_cons, oT_cons, iT_cons, Option.map_some, s_none, s_put0, s_put, s_find, s_join, notInS_of, inS_of, eq_self]
      rw [e1]
      simp only [List.getElem_map, sNil, sCons, sIf, sAsg, sOwn, sFor, sRet, sRetN, sRetO, sRetNew, sExpr, sApp, sSetIx, sPass, DL.sFld, sNever, s_lk, sLcO, sLcV, eVar, eFrz, eC, eNew, eAnd, eOr, eNot, eIf, eOp, eNeg, eIsN, eNotN, eFld, eFldO, eIxO, eLenO, eTup, eB, eTuple, eFind, eJoin, eIsi, eCall, eCallT, eChain, nLst, nList, nComp, nCall, nCallT, nMake, nRep, nCat, nCatO, oNone, oSome, nSlice, bVal, bAnd, bOr, bNot, bOp, bChain, bIsN, bNotN, bYes, aNil, aCons, qNil, qVal, iSq, iR1, iR2, iZp, iEn, sPopAt, gNm, gTp, gConsD, gNilD, onMade, gt, ownAll, mkSl, wb, endsD, mrg, startD, kAdd, kSub, kMul, kMod, kDiv, kPow, kShr, kLt, kLe, kGt, kGe, isNon, br_decide, br_t, br_f, Bool.not_true, Bool.not_false, List.map_cons, List.map_nil, List.length_cons, List.length_nil, List.replicate, List.cons_append, List.nil_append, List.set_cons_zero, List.set_cons_succ, List.set_nil, wipeD, back, noOwn, true_and, and_true, List.length_map, List.reduceReplicate, Nat.reduceSub, Nat.reduceAdd, Int.reduceNeg, reduceCtorEq, if_true, if_false, Bool.true_eq_false, Bool.false_eq_true, ite_true, ite_false, s_onVal, s_onOwn, s_onLst, s_onIns, s_onL, s_onBl, s_some, s_kI, s_addI, s_addS, s_neg, s_eqI, s_neI, s_eqS, s_neS, s_ixL, s_ixT, s_ixS, s_ixO, s_lenS, s_lenL, s_lenT, s_abs, s_intI, s_intB, s_max2, s_min2, s_itL, s_itT, s_itS, s_rng1, s_rng2, s_zipL, s_zipT, s_enL, s_seqL, s_seqT, s_minL, s_maxL, s_sum, s_isBl, s_fld, s_vNil, s_vCons, s_frzL, s_frzI, at0, at1, at2, at3, ix30, ix31, ix32, pT_cons, oT_cons, iT_cons, Option.map_some, s_none, s_put0, s_put, s_find, s_join, notInS_of, inS_of, eq_self]
      exact fun k hk => hk _ _ ⟨_, rfl⟩ rfl
    · subst e
      obtain ⟨b', rfl, a2⟩ := a.mp (f := D.int) (R := fun _ _ => True) fun _ b ⟨i, e⟩ => ⟨i, e, trivial⟩
      simp only [iL, sNil, sCons, sIf, sAsg, sOwn, sFor, sRet, sRetN, sRetO, sRetNew, sExpr, sApp, sSetIx, sPass, DL.sFld, sNever, s_lk, sLcO, sLcV, eVar, eFrz, eC, eNew, eAnd, eOr, eNot, eIf, eOp, eNeg, eIsN, eNotN, eFld, eFldO, eIxO, eLenO, eTup, eB, eTuple, eFind, eJoin, eIsi, eCall, eCallT, eChain, nLst, nList, nComp, nCall, nCallT, nMake, nRep, nCat, nCatO, oNone, oSome, nSlice, bVal, bAnd, bOr, bNot, bOp, bChain, bIsN, bNotN, bYes, aNil, aCons, qNil, qVal, iSq, iR1, iR2, iZp, iEn, sPopAt, gNm, gTp, gConsD, gNilD, onMade, gt, ownAll, mkSl, wb, endsD, mrg, startD, kAdd, kSub, kMul, kMod, kDiv, kPow, kShr, kLt, kLe, kGt, kGe, isNon, br_decide, br_t, br_f, Bool.not_true, Bool.not_false, List.map_cons, List.map_nil, List.length_cons, List.length_nil, List.replicate, List.cons_append, List.nil_append, List.set_cons_zero, List.set_cons_succ, List.set_nil, wipeD, back, noOwn, true_and, and_true, List.length_map, List.reduceReplicate, Nat.reduceSub, Nat.reduceAdd, Int.reduceNeg, reduceCtorEq, if_true, if_false, Bool.true_eq_false, Bool.false_eq_true, ite_true, ite_false, s_onVal, s_onOwn, s_onLst, s_onIns, s_onL, s_onBl, s_some, s_kI, s_addI, s_addS, s_neg, s_eqI, s_neI, s_eqS, s_neS, s_ixL, s_ixT, s_ixS, s_ixO, s_lenS, s_lenL, s_lenT, s_abs, s_intI, s_intB, s_max2, s_min2, s_itL, s_itT, s_itS, s_rng1, s_rng2, s_zipL, s_zipT, s_enL, s_seqL, s_seqT, s_minL, s_maxL, s_sum, s_isBl, s_fld, s_vNil, s_vCons, s_frzL, s_frzI, at0, at1, at2, at3, ix30, ix31, ix32, pT_cons, oT_cons, iT_cons, Option.map_some, s_none, s_put0, s_put, s_find, s_join, notInS_of, inS_of, eq_self]
      refine compL_any (fun ρ => ρ = [.val (wD w), .val (iL m), .val (.str w.a), .val (iL w.b), .val (.lst (w.c.map tL)), .val (iL w.e), .val (.lst (c.map tL)), x7, .un, .un]) (fun _ z => ∃ i : Int, z = .int i) _ _ _ (by rw [List.length_map, hw.e]; exact small (m := 1000) (by simpa using hn)) (fun d hd ρ e => ?_) rfl fun zs ρ a3 e => ?_
      · subst e
        obtain ⟨j, _, rfl⟩ := List.mem_map.mp hd
        simp only [iL, sNil, sCons, sIf, sAsg, sOwn, sFor, sRet, sRetN, sRetO, sRetNew, sExpr, sApp, sSetIx, sPass, DL.sFld, sNever, s_lk, sLcO, sLcV, eVar, eFrz, eC, eNew, eAnd, eOr, eNot, eIf, eOp, eNeg, eIsN, eNotN, eFld, eFldO, eIxO, eLenO, eTup, eB, eTuple, eFind, eJoin, eIsi, eCall, eCallT, eChain, nLst, nList, nComp, nCall, nCallT, nMake, nRep, nCat, nCatO, oNone, oSome, nSlice, bVal, bAnd, bOr, bNot, bOp, bChain, bIsN, bNotN, bYes, aNil, aCons, qNil, qVal, iSq, iR1, iR2, iZp, iEn, sPopAt, gNm, gTp, gConsD, gNilD, onMade, gt, ownAll, mkSl, wb, endsD, mrg, startD, kAdd, kSub, kMul, kMod, kDiv, kPow, kShr, kLt, kLe, kGt, kGe, isNon, br_decide, br_t, br_f, Bool.not_true, Bool.not_false, List.map_cons, List.map_nil, List.length_cons, List.length_nil, List.replicate, List.cons_append, List.nil_append, List.set_cons_zero, List.set_cons_succ, List.set_nil, wipeD, back, noOwn, true_and, and_true, List.length_map, List.reduceReplicate, Nat.reduceSub, Nat.reduceAdd, Int.reduceNeg, reduceCtorEq, if_true, if_false, Bool.true_eq_false, Bool.false_eq_true, ite_true, ite_false, s_onVal, s_onOwn, s_onLst, s_onIns, s_onL, s_onBl, s_some, s_kI, s_addI, s_addS, s_neg, s_eqI, s_neI, s_eqS, s_neS, s_ixL, s_ixT, s_ixS, s_ixO, s_lenS, s_lenL, s_lenT, s_abs, s_intI, s_intB, s_max2, s_min2, s_itL, s_itT, s_itS, s_rng1, s_rng2, s_zipL, s_zipT, s_enL, s_seqL, s_seqT, s_minL, s_maxL, s_sum, s_isBl, s_fld, s_vNil, s_vCons, s_frzL, s_frzI, at0, at1, at2, at3, ix30, ix31, ix32, pT_cons, oT_cons, iT_cons, Option.map_some, s_none, s_put0, s_put, s_find, s_join, notInS_of, inS_of, eq_self]
        rw [e2]
        simp only [List.getElem_map, sNil, sCons, sIf, sAsg, sOwn, sFor, sRet, sRetN, sRetO, sRetNew, sExpr, sApp, sSetIx, sPass, DL.sFld, sNever, s_lk, sLcO, sLcV, eVar, eFrz, eC, eNew, eAnd, eOr, eNot, eIf, eOp, eNeg, eIsN, eNotN, eFld, eFldO, eIxO, eLenO, eTup, eB, eTuple, eFind, eJoin, eIsi, eCall, eCallT, eChain, nLst, nList, nComp, nCall, nCallT, nMake, nRep, nCat, nCatO, oNone, oSome, nSlice, bVal, bAnd, bOr, bNot, bOp, bChain, bIsN, bNotN, bYes, aNil, aCons, qNil, qVal, iSq, iR1, iR2, iZp, iEn, sPopAt, gNm, gTp, gConsD, gNilD, onMade, gt, ownAll, mkSl, wb, endsD, mrg, startD, kAdd, kSub, kMul, kMod, kDiv, kPow, kShr, kLt, kLe, kGt, kGe, isNon, br_decide, br_t, br_f, Bool.not_true, Bool.not_false, List.map_cons, List.map_nil, List.length_cons, List.length_nil, List.replicate, List.cons_append, List.nil_append, List.set_cons_zero, List.set_cons_succ, List.set_nil, wipeD, back, noOwn, true_and, and_true, List.length_map, List.reduceReplicate, Nat.reduceSub, Nat.reduceAdd, Int.reduceNeg, reduceCtorEq, if_true, if_false, Bool.true_eq_false, Bool.false_eq_true, ite_true, ite_false, s_onVal, s_onOwn, s_onLst, s_onIns, s_onL, s_onBl, s_some, s_kI, s_addI, s_addS, s_neg, s_eqI, s_neI, s_eqS, s_neS, s_ixL, s_ixT, s_ixS, s_ixO, s_lenS, s_lenL, s_lenT, s_abs, s_intI, s_intB, s_max2, s_min2, s_itL, s_itT, s_itS, s_rng1, s_rng2, s_zipL, s_zipT, s_enL, s_seqL, s_seqT, s_minL, s_maxL, s_sum, s_isBl, s_fld, s_vNil, s_vCons, s_frzL, s_frzI, at0, at1, at2, at3, ix30, ix31, ix32, pT_cons, oT_cons, iT_cons, Option.map_some, s_none, s_put0, s_put, s_find, s_join, notInS_of, inS_of, eq_self]
        exact fun k hk => hk _ _ ⟨_, rfl⟩ rfl
      · subst e
        obtain ⟨e', rfl, a4⟩ := a3.mp (f := D.int) (R := fun _ _ => True) fun _ b ⟨i, e⟩ => ⟨i, e, trivial⟩
        simp only [sNil, sCons, sIf, sAsg, sOwn, sFor, sRet, sRetN, sRetO, sRetNew, sExpr, sApp, sSetIx, sPass, DL.sFld, sNever, s_lk, sLcO, sLcV, eVar, eFrz, eC, eNew, eAnd, eOr, eNot, eIf, eOp, eNeg, eIsN, eNotN, eFld, eFldO, eIxO, eLenO, eTup, eB, eTuple, eFind, eJoin, eIsi, eCall, eCallT, eChain, nLst, nList, nComp, nCall, nCallT, nMake, nRep, nCat, nCatO, oNone, oSome, nSlice, bVal, bAnd, bOr, bNot, bOp, bChain, bIsN, bNotN, bYes, aNil, aCons, qNil, qVal, iSq, iR1, iR2, iZp, iEn, sPopAt, gNm, gTp, gConsD, gNilD, onMade, gt, ownAll, mkSl, wb, endsD, mrg, startD, kAdd, kSub, kMul, kMod, kDiv, kPow, kShr, kLt, kLe, kGt, kGe, isNon, br_decide, br_t, br_f, Bool.not_true, Bool.not_false, List.map_cons, List.map_nil, List.length_cons, List.length_nil, List.replicate, List.cons_append, List.nil_append, List.set_cons_zero, List.set_cons_succ, List.set_nil, wipeD, back, noOwn, true_and, and_true, List.length_map, List.reduceReplicate, Nat.reduceSub, Nat.reduceAdd, Int.reduceNeg, reduceCtorEq, if_true, if_false, Bool.true_eq_false, Bool.false_eq_true, ite_true, ite_false, s_onVal, s_onOwn, s_onLst, s_onIns, s_onL, s_onBl, s_some, s_kI, s_addI, s_addS, s_neg, s_eqI, s_neI, s_eqS, s_neS, s_ixL, s_ixT, s_ixS, s_ixO, s_lenS, s_lenL, s_lenT, s_abs, s_intI, s_intB, s_max2, s_min2, s_itL, s_itT, s_itS, s_rng1, s_rng2, s_zipL, s_zipT, s_enL, s_seqL, s_seqT, s_minL, s_maxL, s_sum, s_isBl, s_fld, s_vNil, s_vCons, s_frzL, s_frzI, at0, at1, at2, at3, ix30, ix31, ix32, pT_cons, oT_cons, iT_cons, Option.map_some, s_none, s_put0, s_put, s_find, s_join, notInS_of, inS_of, eq_self]
        exact h ⟨w.a, b', c, e'⟩ ⟨by rw [← a2.length, List.length_map]; exact hw.b, by rw [← a4.length, List.length_map]; exact hw.e, by simpa using hl, hc⟩ rfl
  · subst e
    obtain ⟨i, rfl, hi⟩ := hd d List.mem_cons_self
    unfold m__law_raised_1
    simp only [sNil, sCons, sIf, sAsg, sOwn, sFor, sRet, sRetN, sRetO, sRetNew, sExpr, sApp, sSetIx, sPass, DL.sFld, sNever, s_lk, sLcO, sLcV, eVar, eFrz, eC, eNew, eAnd, eOr, eNot, eIf, eOp, eNeg, eIsN, eNotN, eFld, eFldO, eIxO, eLenO, eTup, eB, eTuple, eFind, eJoin, eIsi, eCall, eCallT, eChain, nLst, nList, nComp, nCall, nCallT, nMake, nRep, nCat, nCatO, oNone, oSome, nSlice, bVal, bAnd, bOr, bNot, bOp, bChain, bIsN, bNotN, bYes, aNil, aCons, qNil, qVal, iSq, iR1, iR2, iZp, iEn, sPopAt, gNm, gTp, gConsD, gNilD, onMade, gt, ownAll, mkSl, wb, endsD, mrg, startD, kAdd, kSub, kMul, kMod, kDiv, kPow, kShr, kLt, kLe, kGt, kGe, isNon, br_decide, br_t, br_f, Bool.not_true, Bool.not_false, List.map_cons, List.map_nil, List.length_cons, List.length_nil, List.replicate, List.cons_append, List.nil_append, List.set_cons_zero, List.set_cons_succ, List.set_nil, wipeD, back, noOwn, true_and, and_true, List.length_map, List.reduceReplicate, Nat.reduceSub, Nat.reduceAdd, Int.reduceNeg, reduceCtorEq, if_true, if_false, Bool.true_eq_false, Bool.false_eq_true, ite_true, ite_false, s_onVal, s_onOwn, s_onLst, s_onIns, s_onL, s_onBl, s_some, s_kI, s_addI, s_addS, s_neg, s_eqI, s_neI, s_eqS, s_neS, s_ixL, s_ixT, s_ixS, s_ixO, s_lenS, s_lenL, s_lenT, s_abs, s_intI, s_intB, s_max2, s_min2, s_itL, s_itT, s_itS, s_rng1, s_rng2, s_zipL, s_zipT, s_enL, s_seqL, s_seqT, s_minL, s_maxL, s_sum, s_isBl, s_fld, s_vNil, s_vCons, s_frzL, s_frzI, at0, at1, at2, at3, ix30, ix31, ix32, pT_cons, oT_cons, iT_cons, Option.map_some, s_none, s_put0, s_put, s_find, s_join, notInS_of, inS_of, eq_self]
    rw [at_map (f := tL) (x := []) (by omega) (by rw [hw.c]; omega)]
    simp only [Int.toNat_natCast, tL, sNil, sCons, sIf, sAsg, sOwn, sFor, sRet, sRetN, sRetO, sRetNew, sExpr, sApp, sSetIx, sPass, DL.sFld, sNever, s_lk, sLcO, sLcV, eVar, eFrz, eC, eNew, eAnd, eOr, eNot, eIf, eOp, eNeg, eIsN, eNotN, eFld, eFldO, eIxO, eLenO, eTup, eB, eTuple, eFind, eJoin, eIsi, eCall, eCallT, eChain, nLst, nList, nComp, nCall, nCallT, nMake, nRep, nCat, nCatO, oNone, oSome, nSlice, bVal, bAnd, bOr, bNot, bOp, bChain, bIsN, bNotN, bYes, aNil, aCons, qNil, qVal, iSq, iR1, iR2, iZp, iEn, sPopAt, gNm, gTp, gConsD, gNilD, onMade, gt, ownAll, mkSl, wb, endsD, mrg, startD, kAdd, kSub, kMul, kMod, kDiv, kPow, kShr, kLt, kLe, kGt, kGe, isNon, br_decide, br_t, br_f, Bool.not_true, Bool.not_false, List.map_cons, List.map_nil, List.length_cons, List.length_nil, List.replicate, List.cons_append, List.nil_append, List.set_cons_zero, List.set_cons_succ, List.set_nil, wipeD, back, noOwn, true_and, and_true, List.length_map, List.reduceReplicate, Nat.reduceSub, Nat.reduceAdd, Int.reduceNeg, reduceCtorEq, if_true, if_false, Bool.true_eq_false, Bool.false_eq_true, ite_true, ite_false, s_onVal, s_onOwn, s_onLst, s_onIns, s_onL, s_onBl, s_some, s_kI, s_addI, s_addS, s_neg, s_eqI, s_neI, s_eqS, s_neS, s_ixL, s_ixT, s_ixS, s_ixO, s_lenS, s_lenL, s_lenT, s_abs, s_intI, s_intB, s_max2, s_min2, s_itL, s_itT, s_itS, s_rng1, s_rng2, s_zipL, s_zipT, s_enL, s_seqL, s_seqT, s_minL, s_maxL, s_sum, s_isBl, s_fld, s_vNil, s_vCons, s_frzL, s_frzI, at0, at1, at2, at3, ix30, ix31, ix32, pT_cons, oT_cons, iT_cons, Option.map_some, s_none, s_put0, s_put, s_find, s_join, notInS_of, inS_of, eq_self]
    have ht := hw.tab hi
    refine compL_any (fun ρ => ρ = [.val (wD w), .val (iL m), .val (.str w.a), .val (iL w.b), .val (.lst (w.c.map tL)), .val (iL w.e), .own (.lst (c.map tL)), .val (.int i), .un, .un]) (fun _ z => ∃ l : List Int, z = iL l ∧ l.length = n) _ _ _ (by rw [List.length_map, ht.1]; exact small (m := 1000) (by simpa using ‹n ≤ 1000›)) (fun d hd ρ e => ?_) rfl fun zs ρ a e => ?_
    · subst e
      obtain ⟨l, hl, rfl⟩ := List.mem_map.mp hd
      simp only [iL, sNil, sCons, sIf, sAsg, sOwn, sFor, sRet, sRetN, sRetO, sRetNew, sExpr, sApp, sSetIx, sPass, DL.sFld, sNever, s_lk, sLcO, sLcV, eVar, eFrz, eC, eNew, eAnd, eOr, eNot, eIf, eOp, eNeg, eIsN, eNotN, eFld, eFldO, eIxO, eLenO, eTup, eB, eTuple, eFind, eJoin, eIsi, eCall, eCallT, eChain, nLst, nList, nComp, nCall, nCallT, nMake, nRep, nCat, nCatO, oNone, oSome, nSlice, bVal, bAnd, bOr, bNot, bOp, bChain, bIsN, bNotN, bYes, aNil, aCons, qNil, qVal, iSq, iR1, iR2, iZp, iEn, sPopAt, gNm, gTp, gConsD, gNilD, onMade, gt, ownAll, mkSl, wb, endsD, mrg, startD, kAdd, kSub, kMul, kMod, kDiv, kPow, kShr, kLt, kLe, kGt, kGe, isNon, br_decide, br_t, br_f, Bool.not_true, Bool.not_false, List.map_cons, List.map_nil, List.length_cons, List.length_nil, List.replicate, List.cons_append, List.nil_append, List.set_cons_zero, List.set_cons_succ, List.set_nil, wipeD, back, noOwn, true_and, and_true, List.length_map, List.reduceReplicate, Nat.reduceSub, Nat.reduceAdd, Int.reduceNeg, reduceCtorEq, if_true, if_false, Bool.true_eq_false, Bool.false_eq_true, ite_true, ite_false, s_onVal, s_onOwn, s_onLst, s_onIns, s_onL, s_onBl, s_some, s_kI, s_addI, s_addS, s_neg, s_eqI, s_neI, s_eqS, s_neS, s_ixL, s_ixT, s_ixS, s_ixO, s_lenS, s_lenL, s_lenT, s_abs, s_intI, s_intB, s_max2, s_min2, s_itL, s_itT, s_itS, s_rng1, s_rng2, s_zipL, s_zipT, s_enL, s_seqL, s_seqT, s_minL, s_maxL, s_sum, s_isBl, s_fld, s_vNil, s_vCons, s_frzL, s_frzI, at0, at1, at2, at3, ix30, ix31, ix32, pT_cons, oT_cons, iT_cons, Option.map_some, s_none, s_put0, s_put, s_find, s_join, notInS_of, inS_of, eq_self]
      intro k hk
      refine compL_any (fun ρ => ρ = [.val (wD w), .val (iL m), .val (.str w.a), .val (iL w.b), .val (.lst (w.c.map tL)), .val (iL w.e), .own (.lst (c.map tL)), .val (.int i), .un, .val (iL l)]) (fun _ z => ∃ i : Int, z = .int i) _ _ _ (by rw [List.length_map, ht.2 l hl]; exact small (m := 1000) (by simpa using ‹n ≤ 1000›)) (fun d hd ρ e => ?_) rfl fun zs ρ a e => ?_
      · subst e
        obtain ⟨j, _, rfl⟩ := List.mem_map.mp hd
        simp only [iL, sNil, sCons, sIf, sAsg, sOwn, sFor, sRet, sRetN, sRetO, sRetNew, sExpr, sApp, sSetIx, sPass, DL.sFld, sNever, s_lk, sLcO, sLcV, eVar, eFrz, eC, eNew, eAnd, eOr, eNot, eIf, eOp, eNeg, eIsN, eNotN, eFld, eFldO, eIxO, eLenO, eTup, eB, eTuple, eFind, eJoin, eIsi, eCall, eCallT, eChain, nLst, nList, nComp, nCall, nCallT, nMake, nRep, nCat, nCatO, oNone, oSome, nSlice, bVal, bAnd, bOr, bNot, bOp, bChain, bIsN, bNotN, bYes, aNil, aCons, qNil, qVal, iSq, iR1, iR2, iZp, iEn, sPopAt, gNm, gTp, gConsD, gNilD, onMade, gt, ownAll, mkSl, wb, endsD, mrg, startD, kAdd, kSub, kMul, kMod, kDiv, kPow, kShr, kLt, kLe, kGt, kGe, isNon, br_decide, br_t, br_f, Bool.not_true, Bool.not_false, List.map_cons, List.map_nil, List.length_cons, List.length_nil, List.replicate, List.cons_append, List.nil_append, List.set_cons_zero, List.set_cons_succ, List.set_nil, wipeD, back, noOwn, true_and, and_true, List.length_map, List.reduceReplicate, Nat.reduceSub, Nat.reduceAdd, Int.reduceNeg, reduceCtorEq, if_true, if_false, Bool.true_eq_false, Bool.false_eq_true, ite_true, ite_false, s_onVal, s_onOwn, s_onLst, s_onIns, s_onL, s_onBl, s_some, s_kI, s_addI, s_addS, s_neg, s_eqI, s_neI, s_eqS, s_neS, s_ixL, s_ixT, s_ixS, s_ixO, s_lenS, s_lenL, s_lenT, s_abs, s_intI, s_intB, s_max2, s_min2, s_itL, s_itT, s_itS, s_rng1, s_rng2, s_zipL, s_zipT, s_enL, s_seqL, s_seqT, s_minL, s_maxL, s_sum, s_isBl, s_fld, s_vNil, s_vCons, s_frzL, s_frzI, at0, at1, at2, at3, ix30, ix31, ix32, pT_cons, oT_cons, iT_cons, Option.map_some, s_none, s_put0, s_put, s_find, s_join, notInS_of, inS_of, eq_self]
        rw [at_nat (by omega)]
        simp only [sNil, sCons, sIf, sAsg, sOwn, sFor, sRet, sRetN, sRetO, sRetNew, sExpr, sApp, sSetIx, sPass, DL.sFld, sNever, s_lk, sLcO, sLcV, eVar, eFrz, eC, eNew, eAnd, eOr, eNot, eIf, eOp, eNeg, eIsN, eNotN, eFld, eFldO, eIxO, eLenO, eTup, eB, eTuple, eFind, eJoin, eIsi, eCall, eCallT, eChain, nLst, nList, nComp, nCall, nCallT, nMake, nRep, nCat, nCatO, oNone, oSome, nSlice, bVal, bAnd, bOr, bNot, bOp, bChain, bIsN, bNotN, bYes, aNil, aCons, qNil, qVal, iSq, iR1, iR2, iZp, iEn, sPopAt, gNm, gTp, gConsD, gNilD, onMade, gt, ownAll, mkSl, wb, endsD, mrg, startD, kAdd, kSub, kMul, kMod, kDiv, kPow, kShr, kLt, kLe, kGt, kGe, isNon, br_decide, br_t, br_f, Bool.not_true, Bool.not_false, List.map_cons, List.map_nil, List.length_cons, List.length_nil, List.replicate, List.cons_append, List.nil_append, List.set_cons_zero, List.set_cons_succ, List.set_nil, wipeD, back, noOwn, true_and, and_true, List.length_map, List.reduceReplicate, Nat.reduceSub, Nat.reduceAdd, Int.reduceNeg, reduceCtorEq, if_true, if_false, Bool.true_eq_false, Bool.false_eq_true, ite_true, ite_false, s_onVal, s_onOwn, s_onLst, s_onIns, s_onL, s_onBl, s_some, s_kI, s_addI, s_addS, s_neg, s_eqI, s_neI, s_eqS, s_neS, s_ixL, s_ixT, s_ixS, s_ixO, s_lenS, s_lenL, s_lenT, s_abs, s_intI, s_intB, s_max2, s_min2, s_itL, s_itT, s_itS, s_rng1, s_rng2, s_zipL, s_zipT, s_enL, s_seqL, s_seqT, s_minL, s_maxL, s_sum, s_isBl, s_fld, s_vNil, s_vCons, s_frzL, s_frzI, at0, at1, at2, at3, ix30, ix31, ix32, pT_cons, oT_cons, iT_cons, Option.map_some, s_none, s_put0, s_put, s_find, s_join, notInS_of, inS_of, eq_self]
        exact fun k hk => hk _ _ ⟨_, rfl⟩ rfl
      · subst e
        obtain ⟨l', rfl, a2⟩ := a.mp (f := D.int) (R := fun _ _ => True) fun _ b ⟨i, e⟩ => ⟨i, e, trivial⟩
        refine hk _ _ ⟨l', rfl, ?_⟩ rfl
        rw [← a2.length, List.length_map]; exact ht.2 l hl
    · subst e
      obtain ⟨t', rfl, a2⟩ := a.mp (f := iL) (R := fun _ (l : List Int) => l.length = n) fun _ b ⟨i, e, p⟩ => ⟨i, e, p⟩
      simp only [sNil, sCons, sIf, sAsg, sOwn, sFor, sRet, sRetN, sRetO, sRetNew, sExpr, sApp, sSetIx, sPass, DL.sFld, sNever, s_lk, sLcO, sLcV, eVar, eFrz, eC, eNew, eAnd, eOr, eNot, eIf, eOp, eNeg, eIsN, eNotN, eFld, eFldO, eIxO, eLenO, eTup, eB, eTuple, eFind, eJoin, eIsi, eCall, eCallT, eChain, nLst, nList, nComp, nCall, nCallT, nMake, nRep, nCat, nCatO, oNone, oSome, nSlice, bVal, bAnd, bOr, bNot, bOp, bChain, bIsN, bNotN, bYes, aNil, aCons, qNil, qVal, iSq, iR1, iR2, iZp, iEn, sPopAt, gNm, gTp, gConsD, gNilD, onMade, gt, ownAll, mkSl, wb, endsD, mrg, startD, kAdd, kSub, kMul, kMod, kDiv, kPow, kShr, kLt, kLe, kGt, kGe, isNon, br_decide, br_t, br_f, Bool.not_true, Bool.not_false, List.map_cons, List.map_nil, List.length_cons, List.length_nil, List.replicate, List.cons_append, List.nil_append, List.set_cons_zero, List.set_cons_succ, List.set_nil, wipeD, back, noOwn, true_and, and_true, List.length_map, List.reduceReplicate, Nat.reduceSub, Nat.reduceAdd, Int.reduceNeg, reduceCtorEq, if_true, if_false, Bool.true_eq_false, Bool.false_eq_true, ite_true, ite_false, s_onVal, s_onOwn, s_onLst, s_onIns, s_onL, s_onBl, s_some, s_kI, s_addI, s_addS, s_neg, s_eqI, s_neI, s_eqS, s_neS, s_ixL, s_ixT, s_ixS, s_ixO, s_lenS, s_lenL, s_lenT, s_abs, s_intI, s_intB, s_max2, s_min2, s_itL, s_itT, s_itS, s_rng1, s_rng2, s_zipL, s_zipT, s_enL, s_seqL, s_seqT, s_minL, s_maxL, s_sum, s_isBl, s_fld, s_vNil, s_vCons, s_frzL, s_frzI, at0, at1, at2, at3, ix30, ix31, ix32, pT_cons, oT_cons, iT_cons, Option.map_some, s_none, s_put0, s_put, s_find, s_join, notInS_of, inS_of, eq_self]
      refine ⟨small' (m := 1001) (by simp only [List.length_cons] at hl; omega), hn _ ⟨_, c ++ [t'], by simp only [List.length_append, List.length_cons, List.length_nil] at hl ⊢; omega, fun t h' => ?_, fun d h => hd d (List.mem_cons_of_mem _ h), by simp [tL]; rfl⟩⟩
      rcases List.mem_append.mp h' with h' | h'
      · exact hc t h'
      · simp at h'; rw [h']; exact ⟨by rw [← a2.length, List.length_map]; exact ht.1, a2.right (R := fun l : List Int => l.length = n) fun _ _ p => p⟩
  · obtain ⟨j, hj, rfl⟩ := rng_mem.mp hd
    exact ⟨j, by simp, by simpa using hj⟩

theorem p__law_moved (K : PySem.W.Frag) (kf : KF K) : ∀ sl Q E, T__law_moved K sl Q E → m__law_moved K (endsD [0] sl Q E) (startD N__law_moved sl) := by
  refine oT_in ?_
  rintro src ds Q E ⟨n, w, rfl, hw, hn, ha, hs, h⟩
  unfold m__law_moved
  simp only [T__law_draw, sNil, sCons, sIf, sAsg, sOwn, sFor, sRet, sRetN, sRetO, sRetNew, sExpr, sApp, sSetIx, sPass, DL.sFld, sNever, s_lk, sLcO, sLcV, eVar, eFrz, eC, eNew, eAnd, eOr, eNot, eIf, eOp, eNeg, eIsN, eNotN, eFld, eFldO, eIxO, eLenO, eTup, eB, eTuple, eFind, eJoin, eIsi, eCall, eCallT, eChain, nLst, nList, nComp, nCall, nCallT, nMake, nRep, nCat, nCatO, oNone, oSome, nSlice, bVal, bAnd, bOr, bNot, bOp, bChain, bIsN, bNotN, bYes, aNil, aCons, qNil, qVal, iSq, iR1, iR2, iZp, iEn, sPopAt, gNm, gTp, gConsD, gNilD, onMade, gt, ownAll, mkSl, wb, endsD, mrg, startD, kAdd, kSub, kMul, kMod, kDiv, kPow, kShr, kLt, kLe, kGt, kGe, isNon, br_decide, br_t, br_f, Bool.not_true, Bool.not_false, List.map_cons, List.map_nil, List.length_cons, List.length_nil, List.replicate, List.cons_append, List.nil_append, List.set_cons_zero, List.set_cons_succ, List.set_nil, wipeD, back, noOwn, true_and, and_true, List.length_map, List.reduceReplicate, Nat.reduceSub, Nat.reduceAdd, Int.reduceNeg, reduceCtorEq, if_true, if_false, Bool.true_eq_false, Bool.false_eq_true, ite_true, ite_false, s_onVal, s_onOwn, s_onLst, s_onIns, s_onL, s_onBl, s_some, s_kI, s_addI, s_addS, s_neg, s_eqI, s_neI, s_eqS, s_neS, s_ixL, s_ixT, s_ixS, s_ixO, s_lenS, s_lenL, s_lenT, s_abs, s_intI, s_intB, s_max2, s_min2, s_itL, s_itT, s_itS, s_rng1, s_rng2, s_zipL, s_zipT, s_enL, s_seqL, s_seqT, s_minL, s_maxL, s_sum, s_isBl, s_fld, s_vNil, s_vCons, s_frzL, s_frzI, at0, at1, at2, at3, ix30, ix31, ix32, pT_cons, oT_cons, iT_cons, Option.map_some, s_none, s_put0, s_put, s_find, s_join, notInS_of, inS_of, eq_self]
  refine ⟨by omega, hs, fun r s1 hs1 _ => ⟨fun _ => h w s1 hs1 hw rfl, fun _ => ?_⟩⟩
  simp only [wD, wL, sNil, sCons, sIf, sAsg, sOwn, sFor, sRet, sRetN, sRetO, sRetNew, sExpr, sApp, sSetIx, sPass, DL.sFld, sNever, s_lk, sLcO, sLcV, eVar, eFrz, eC, eNew, eAnd, eOr, eNot, eIf, eOp, eNeg, eIsN, eNotN, eFld, eFldO, eIxO, eLenO, eTup, eB, eTuple, eFind, eJoin, eIsi, eCall, eCallT, eChain, nLst, nList, nComp, nCall, nCallT, nMake, nRep, nCat, nCatO, oNone, oSome, nSlice, bVal, bAnd, bOr, bNot, bOp, bChain, bIsN, bNotN, bYes, aNil, aCons, qNil, qVal, iSq, iR1, iR2, iZp, iEn, sPopAt, gNm, gTp, gConsD, gNilD, onMade, gt, ownAll, mkSl, wb, endsD, mrg, startD, kAdd, kSub, kMul, kMod, kDiv, kPow, kShr, kLt, kLe, kGt, kGe, isNon, br_decide, br_t, br_f, Bool.not_true, Bool.not_false, List.map_cons, List.map_nil, List.length_cons, List.length_nil, List.replicate, List.cons_append, List.nil_append, List.set_cons_zero, List.set_cons_succ, List.set_nil, wipeD, back, noOwn, true_and, and_true, List.length_map, List.reduceReplicate, Nat.reduceSub, Nat.reduceAdd, Int.reduceNeg, reduceCtorEq, if_true, if_false, Bool.true_eq_false, Bool.false_eq_true, ite_true, ite_false, s_onVal, s_onOwn, s_onLst, s_onIns, s_onL, s_onBl, s_some, s_kI, s_addI, s_addS, s_neg, s_eqI, s_neI, s_eqS, s_neS, s_ixL, s_ixT, s_ixS, s_ixO, s_lenS, s_lenL, s_lenT, s_abs, s_intI, s_intB, s_max2, s_min2, s_itL, s_itT, s_itS, s_rng1, s_rng2, s_zipL, s_zipT, s_enL, s_seqL, s_seqT, s_minL, s_maxL, s_sum, s_isBl, s_fld, s_vNil, s_vCons, s_frzL, s_frzI, at0, at1, at2, at3, ix30, ix31, ix32, pT_cons, oT_cons, iT_cons, Option.map_some, s_none, s_put0, s_put, s_find, s_join, notInS_of, inS_of, eq_self]
  refine ⟨small (m := 1000) ha, by omega, ?_⟩
  refine compL_any (fun ρ => ∃ s, Src s ∧ ρ = [.own (.lst s), .val (wD w), .un, .un, .un]) (fun _ z => ∃ i : Int, z = .int i) _ _ _ (by rw [rng_length]; exact small (m := 1002) (by simp only [List.length_nil]; omega)) (fun d hd ρ ⟨s, hs, e⟩ => ?_) ⟨_, hs1, rfl⟩ fun zs ρ a ⟨s, hs, e⟩ => ?_
  · subst e
    simp only [T__law_draw, sNil, sCons, sIf, sAsg, sOwn, sFor, sRet, sRetN, sRetO, sRetNew, sExpr, sApp, sSetIx, sPass, DL.sFld, sNever, s_lk, sLcO, sLcV, eVar, eFrz, eC, eNew, eAnd, eOr, eNot, eIf, eOp, eNeg, eIsN, eNotN, eFld, eFldO, eIxO, eLenO, eTup, eB, eTuple, eFind, eJoin, eIsi, eCall, eCallT, eChain, nLst, nList, nComp, nCall, nCallT, nMake, nRep, nCat, nCatO, oNone, oSome, nSlice, bVal, bAnd, bOr, bNot, bOp, bChain, bIsN, bNotN, bYes, aNil, aCons, qNil, qVal, iSq, iR1, iR2, iZp, iEn, sPopAt, gNm, gTp, gConsD, gNilD, onMade, gt, ownAll, mkSl, wb, endsD, mrg, startD, kAdd, kSub, kMul, kMod, kDiv, kPow, kShr, kLt, kLe, kGt, kGe, isNon, br_decide, br_t, br_f, Bool.not_true, Bool.not_false, List.map_cons, List.map_nil, List.length_cons, List.length_nil, List.replicate, List.cons_append, List.nil_append, List.set_cons_zero, List.set_cons_succ, List.set_nil, wipeD, back, noOwn, true_and, and_true, List.length_map, List.reduceReplicate, Nat.reduceSub, Nat.reduceAdd, Int.reduceNeg, reduceCtorEq, if_true, if_false, Bool.true_eq_false, Bool.false_eq_true, ite_true, ite_false, s_onVal, s_onOwn, s_onLst, s_onIns, s_onL, s_onBl, s_some, s_kI, s_addI, s_addS, s_neg, s_eqI, s_neI, s_eqS, s_neS, s_ixL, s_ixT, s_ixS, s_ixO, s_lenS, s_lenL, s_lenT, s_abs, s_intI, s_intB, s_max2, s_min2, s_itL, s_itT, s_itS, s_rng1, s_rng2, s_zipL, s_zipT, s_enL, s_seqL, s_seqT, s_minL, s_maxL, s_sum, s_isBl, s_fld, s_vNil, s_vCons, s_frzL, s_frzI, at0, at1, at2, at3, ix30, ix31, ix32, pT_cons, oT_cons, iT_cons, Option.map_some, s_none, s_put0, s_put, s_find, s_join, notInS_of, inS_of, eq_self]
    exact fun k hk => ⟨by omega, hs, fun r s' hs' hr => hk _ _ ⟨_, rfl⟩ ⟨s', hs', rfl⟩⟩
  · subst e
    obtain ⟨m, rfl, a2⟩ := a.mp (f := D.int) (R := fun _ _ => True) fun _ b ⟨i, e⟩ => ⟨i, e, trivial⟩
    have hm : m.length = w.a.length + 2 := by rw [← a2.length, rng_length]; omega
    simp only [m__law_moved_c1, T__law_draw, T__law_raised, sNil, sCons, sIf, sAsg, sOwn, sFor, sRet, sRetN, sRetO, sRetNew, sExpr, sApp, sSetIx, sPass, DL.sFld, sNever, s_lk, sLcO, sLcV, eVar, eFrz, eC, eNew, eAnd, eOr, eNot, eIf, eOp, eNeg, eIsN, eNotN, eFld, eFldO, eIxO, eLenO, eTup, eB, eTuple, eFind, eJoin, eIsi, eCall, eCallT, eChain, nLst, nList, nComp, nCall, nCallT, nMake, nRep, nCat, nCatO, oNone, oSome, nSlice, bVal, bAnd, bOr, bNot, bOp, bChain, bIsN, bNotN, bYes, aNil, aCons, qNil, qVal, iSq, iR1, iR2, iZp, iEn, sPopAt, gNm, gTp, gConsD, gNilD, onMade, gt, ownAll, mkSl, wb, endsD, mrg, startD, kAdd, kSub, kMul, kMod, kDiv, kPow, kShr, kLt, kLe, kGt, kGe, isNon, br_decide, br_t, br_f, Bool.not_true, Bool.not_false, List.map_cons, List.map_nil, List.length_cons, List.length_nil, List.replicate, List.cons_append, List.nil_append, List.set_cons_zero, List.set_cons_succ, List.set_nil, wipeD, back, noOwn, true_and, and_true, List.length_map, List.reduceReplicate, Nat.reduceSub, Nat.reduceAdd, Int.reduceNeg, reduceCtorEq, if_true, if_false, Bool.true_eq_false, Bool.false_eq_true, ite_true, ite_false, s_onVal, s_onOwn, s_onLst, s_onIns, s_onL, s_onBl, s_some, s_kI, s_addI, s_addS, s_neg, s_eqI, s_neI, s_eqS, s_neS, s_ixL, s_ixT, s_ixS, s_ixO, s_lenS, s_lenL, s_lenT, s_abs, s_intI, s_intB, s_max2, s_min2, s_itL, s_itT, s_itS, s_rng1, s_rng2, s_zipL, s_zipT, s_enL, s_seqL, s_seqT, s_minL, s_maxL, s_sum, s_isBl, s_fld, s_vNil, s_vCons, s_frzL, s_frzI, at0, at1, at2, at3, ix30, ix31, ix32, pT_cons, oT_cons, iT_cons, Option.map_some, s_none, s_put0, s_put, s_find, s_join, notInS_of, inS_of, eq_self]
    refine ⟨by omega, hs, fun r2 s2 hs2 _ => ⟨fun _ => ?_, fun _ => ⟨n, w, m, rfl, hw, hn, ha, hm, fun w' hw' e => h w' s2 hs2 hw' e⟩⟩⟩
    refine compL_any (fun ρ => ρ = [.own (.lst s2), .val (wD w), .val (iL m), .un, .un]) (fun _ z => ∃ i : Int, z = .int i) _ _ _ (by rw [List.length_map]; exact small (m := 1002) (by simp only [List.length_nil]; omega)) (fun d hd ρ e => ?_) rfl fun zs ρ a e => ?_
    · subst e
      obtain ⟨j, _, rfl⟩ := List.mem_map.mp hd
      simp only [sNil, sCons, sIf, sAsg, sOwn, sFor, sRet, sRetN, sRetO, sRetNew, sExpr, sApp, sSetIx, sPass, DL.sFld, sNever, s_lk, sLcO, sLcV, eVar, eFrz, eC, eNew, eAnd, eOr, eNot, eIf, eOp, eNeg, eIsN, eNotN, eFld, eFldO, eIxO, eLenO, eTup, eB, eTuple, eFind, eJoin, eIsi, eCall, eCallT, eChain, nLst, nList, nComp, nCall, nCallT, nMake, nRep, nCat, nCatO, oNone, oSome, nSlice, bVal, bAnd, bOr, bNot, bOp, bChain, bIsN, bNotN, bYes, aNil, aCons, qNil, qVal, iSq, iR1, iR2, iZp, iEn, sPopAt, gNm, gTp, gConsD, gNilD, onMade, gt, ownAll, mkSl, wb, endsD, mrg, startD, kAdd, kSub, kMul, kMod, kDiv, kPow, kShr, kLt, kLe, kGt, kGe, isNon, br_decide, br_t, br_f, Bool.not_true, Bool.not_false, List.map_cons, List.map_nil, List.length_cons, List.length_nil, List.replicate, List.cons_append, List.nil_append, List.set_cons_zero, List.set_cons_succ, List.set_nil, wipeD, back, noOwn, true_and, and_true, List.length_map, List.reduceReplicate, Nat.reduceSub, Nat.reduceAdd, Int.reduceNeg, reduceCtorEq, if_true, if_false, Bool.true_eq_false, Bool.false_eq_true, ite_true, ite_false, s_onVal, s_onOwn, s_onLst, s_onIns, s_onL, s_onBl, s_some, s_kI, s_addI, s_addS, s_neg, s_eqI, s_neI, s_eqS, s_neS, s_ixL, s_ixT, s_ixS, s_ixO, s_lenS, s_lenL, s_lenT, s_abs, s_intI, s_intB, s_max2, s_min2, s_itL, s_itT, s_itS, s_rng1, s_rng2, s_zipL, s_zipT, s_enL, s_seqL, s_seqT, s_minL, s_maxL, s_sum, s_isBl, s_fld, s_vNil, s_vCons, s_frzL, s_frzI, at0, at1, at2, at3, ix30, ix31, ix32, pT_cons, oT_cons, iT_cons, Option.map_some, s_none, s_put0, s_put, s_find, s_join, notInS_of, inS_of, eq_self]
      exact fun k hk => ⟨⟨by decide, by decide, by decide⟩, cmul_r (by decide), hk _ _ ⟨_, rfl⟩ rfl⟩
    · subst e
      obtain ⟨m', rfl, a3⟩ := a.mp (f := D.int) (R := fun _ _ => True) fun _ b ⟨i, e⟩ => ⟨i, e, trivial⟩
      simp only [sNil, sCons, sIf, sAsg, sOwn, sFor, sRet, sRetN, sRetO, sRetNew, sExpr, sApp, sSetIx, sPass, DL.sFld, sNever, s_lk, sLcO, sLcV, eVar, eFrz, eC, eNew, eAnd, eOr, eNot, eIf, eOp, eNeg, eIsN, eNotN, eFld, eFldO, eIxO, eLenO, eTup, eB, eTuple, eFind, eJoin, eIsi, eCall, eCallT, eChain, nLst, nList, nComp, nCall, nCallT, nMake, nRep, nCat, nCatO, oNone, oSome, nSlice, bVal, bAnd, bOr, bNot, bOp, bChain, bIsN, bNotN, bYes, aNil, aCons, qNil, qVal, iSq, iR1, iR2, iZp, iEn, sPopAt, gNm, gTp, gConsD, gNilD, onMade, gt, ownAll, mkSl, wb, endsD, mrg, startD, kAdd, kSub, kMul, kMod, kDiv, kPow, kShr, kLt, kLe, kGt, kGe, isNon, br_decide, br_t, br_f, Bool.not_true, Bool.not_false, List.map_cons, List.map_nil, List.length_cons, List.length_nil, List.replicate, List.cons_append, List.nil_append, List.set_cons_zero, List.set_cons_succ, List.set_nil, wipeD, back, noOwn, true_and, and_true, List.length_map, List.reduceReplicate, Nat.reduceSub, Nat.reduceAdd, Int.reduceNeg, reduceCtorEq, if_true, if_false, Bool.true_eq_false, Bool.false_eq_true, ite_true, ite_false, s_onVal, s_onOwn, s_onLst, s_onIns, s_onL, s_onBl, s_some, s_kI, s_addI, s_addS, s_neg, s_eqI, s_neI, s_eqS, s_neS, s_ixL, s_ixT, s_ixS, s_ixO, s_lenS, s_lenL, s_lenT, s_abs, s_intI, s_intB, s_max2, s_min2, s_itL, s_itT, s_itS, s_rng1, s_rng2, s_zipL, s_zipT, s_enL, s_seqL, s_seqT, s_minL, s_maxL, s_sum, s_isBl, s_fld, s_vNil, s_vCons, s_frzL, s_frzI, at0, at1, at2, at3, ix30, ix31, ix32, pT_cons, oT_cons, iT_cons, Option.map_some, s_none, s_put0, s_put, s_find, s_join, notInS_of, inS_of, eq_self]
      exact ⟨n, w, m', rfl, hw, hn, ha, by rw [← a3.length, List.length_map]; exact hm, fun w' hw' e => h w' s2 hs2 hw' e⟩

theorem p__law_above_image (K : PySem.W.Frag) (kf : KF K) : ∀ sl Q E, T__law_above_image K sl Q E → m__law_above_image K (endsD [0] sl Q E) (startD N__law_above_image sl) := by
  refine oT_in ?_
  rintro src ds Q E ⟨m, n, o, ns, hs, rfl, ho, ⟨z1, z2, z3⟩, hn, hlt, hh, hsr, h⟩
  unfold m__law_above_image
  have o0 : ∀ {k : D → Prop}, kIx (wD o) (.int 0) k = k (.str o.a) := fun {k} => by simp only [wD, wL, sNil, sCons, sIf, sAsg, sOwn, sFor, sRet, sRetN, sRetO, sRetNew, sExpr, sApp, sSetIx, sPass, DL.sFld, sNever, s_lk, sLcO, sLcV, eVar, eFrz, eC, eNew, eAnd, eOr, eNot, eIf, eOp, eNeg, eIsN, eNotN, eFld, eFldO, eIxO, eLenO, eTup, eB, eTuple, eFind, eJoin, eIsi, eCall, eCallT, eChain, nLst, nList, nComp, nCall, nCallT, nMake, nRep, nCat, nCatO, oNone, oSome, nSlice, bVal, bAnd, bOr, bNot, bOp, bChain, bIsN, bNotN, bYes, aNil, aCons, qNil, qVal, iSq, iR1, iR2, iZp, iEn, sPopAt, gNm, gTp, gConsD, gNilD, onMade, gt, ownAll, mkSl, wb, endsD, mrg, startD, kAdd, kSub, kMul, kMod, kDiv, kPow, kShr, kLt, kLe, kGt, kGe, isNon, br_decide, br_t, br_f, Bool.not_true, Bool.not_false, List.map_cons, List.map_nil, List.length_cons, List.length_nil, List.replicate, List.cons_append, List.nil_append, List.set_cons_zero, List.set_cons_succ, List.set_nil, wipeD, back, noOwn, true_and, and_true, List.length_map, List.reduceReplicate, Nat.reduceSub, Nat.reduceAdd, Int.reduceNeg, reduceCtorEq, if_true, if_false, Bool.true_eq_false, Bool.false_eq_true, ite_true, ite_false, s_onVal, s_onOwn, s_onLst, s_onIns, s_onL, s_onBl, s_some, s_kI, s_addI, s_addS, s_neg, s_eqI, s_neI, s_eqS, s_neS, s_ixL, s_ixT, s_ixS, s_ixO, s_lenS, s_lenL, s_lenT, s_abs, s_intI, s_intB, s_max2, s_min2, s_itL, s_itT, s_itS, s_rng1, s_rng2, s_zipL, s_zipT, s_enL, s_seqL, s_seqT, s_minL, s_maxL, s_sum, s_isBl, s_fld, s_vNil, s_vCons, s_frzL, s_frzI, at0, at1, at2, at3, ix30, ix31, ix32, pT_cons, oT_cons, iT_cons, Option.map_some, s_none, s_put0, s_put, s_find, s_join, notInS_of, inS_of, eq_self]
  have o1 : ∀ {k : D → Prop}, kIx (wD o) (.int 1) k = k (iL o.b) := fun {k} => by simp only [wD, wL, sNil, sCons, sIf, sAsg, sOwn, sFor, sRet, sRetN, sRetO, sRetNew, sExpr, sApp, sSetIx, sPass, DL.sFld, sNever, s_lk, sLcO, sLcV, eVar, eFrz, eC, eNew, eAnd, eOr, eNot, eIf, eOp, eNeg, eIsN, eNotN, eFld, eFldO, eIxO, eLenO, eTup, eB, eTuple, eFind, eJoin, eIsi, eCall, eCallT, eChain, nLst, nList, nComp, nCall, nCallT, nMake, nRep, nCat, nCatO, oNone, oSome, nSlice, bVal, bAnd, bOr, bNot, bOp, bChain, bIsN, bNotN, bYes, aNil, aCons, qNil, qVal, iSq, iR1, iR2, iZp, iEn, sPopAt, gNm, gTp, gConsD, gNilD, onMade, gt, ownAll, mkSl, wb, endsD, mrg, startD, kAdd, kSub, kMul, kMod, kDiv, kPow, kShr, kLt, kLe, kGt, kGe, isNon, br_decide, br_t, br_f, Bool.not_true, Bool.not_false, List.map_cons, List.map_nil, List.length_cons, List.length_nil, List.replicate, List.cons_append, List.nil_append, List.set_cons_zero, List.set_cons_succ, List.set_nil, wipeD, back, noOwn, true_and, and_true, List.length_map, List.reduceReplicate, Nat.reduceSub, Nat.reduceAdd, Int.reduceNeg, reduceCtorEq, if_true, if_false, Bool.true_eq_false, Bool.false_eq_true, ite_true, ite_false, s_onVal, s_onOwn, s_onLst, s_onIns, s_onL, s_onBl, s_some, s_kI, s_addI, s_addS, s_neg, s_eqI, s_neI, s_eqS, s_neS, s_ixL, s_ixT, s_ixS, s_ixO, s_lenS, s_lenL, s_lenT, s_abs, s_intI, s_intB, s_max2, s_min2, s_itL, s_itT, s_itS, s_rng1, s_rng2, s_zipL, s_zipT, s_enL, s_seqL, s_seqT, s_minL, s_maxL, s_sum, s_isBl, s_fld, s_vNil, s_vCons, s_frzL, s_frzI, at0, at1, at2, at3, ix30, ix31, ix32, pT_cons, oT_cons, iT_cons, Option.map_some, s_none, s_put0, s_put, s_find, s_join, notInS_of, inS_of, eq_self]
  have o2 : ∀ {k : D → Prop}, kIx (wD o) (.int 2) k = k (.lst (o.c.map tL)) := fun {k} => by simp only [wD, wL, sNil, sCons, sIf, sAsg, sOwn, sFor, sRet, sRetN, sRetO, sRetNew, sExpr, sApp, sSetIx, sPass, DL.sFld, sNever, s_lk, sLcO, sLcV, eVar, eFrz, eC, eNew, eAnd, eOr, eNot, eIf, eOp, eNeg, eIsN, eNotN, eFld, eFldO, eIxO, eLenO, eTup, eB, eTuple, eFind, eJoin, eIsi, eCall, eCallT, eChain, nLst, nList, nComp, nCall, nCallT, nMake, nRep, nCat, nCatO, oNone, oSome, nSlice, bVal, bAnd, bOr, bNot, bOp, bChain, bIsN, bNotN, bYes, aNil, aCons, qNil, qVal, iSq, iR1, iR2, iZp, iEn, sPopAt, gNm, gTp, gConsD, gNilD, onMade, gt, ownAll, mkSl, wb, endsD, mrg, startD, kAdd, kSub, kMul, kMod, kDiv, kPow, kShr, kLt, kLe, kGt, kGe, isNon, br_decide, br_t, br_f, Bool.not_true, Bool.not_false, List.map_cons, List.map_nil, List.length_cons, List.length_nil, List.replicate, List.cons_append, List.nil_append, List.set_cons_zero, List.set_cons_succ, List.set_nil, wipeD, back, noOwn, true_and, and_true, List.length_map, List.reduceReplicate, Nat.reduceSub, Nat.reduceAdd, Int.reduceNeg, reduceCtorEq, if_true, if_false, Bool.true_eq_false, Bool.false_eq_true, ite_true, ite_false, s_onVal, s_onOwn, s_onLst, s_onIns, s_onL, s_onBl, s_some, s_kI, s_addI, s_addS, s_neg, s_eqI, s_neI, s_eqS, s_neS, s_ixL, s_ixT, s_ixS, s_ixO, s_lenS, s_lenL, s_lenT, s_abs, s_intI, s_intB, s_max2, s_min2, s_itL, s_itT, s_itS, s_rng1, s_rng2, s_zipL, s_zipT, s_enL, s_seqL, s_seqT, s_minL, s_maxL, s_sum, s_isBl, s_fld, s_vNil, s_vCons, s_frzL, s_frzI, at0, at1, at2, at3, ix30, ix31, ix32, pT_cons, oT_cons, iT_cons, Option.map_some, s_none, s_put0, s_put, s_find, s_join, notInS_of, inS_of, eq_self]
  have o3 : ∀ {k : D → Prop}, kIx (wD o) (.int 3) k = k (iL o.e) := fun {k} => by simp only [wD, wL, sNil, sCons, sIf, sAsg, sOwn, sFor, sRet, sRetN, sRetO, sRetNew, sExpr, sApp, sSetIx, sPass, DL.sFld, sNever, s_lk, sLcO, sLcV, eVar, eFrz, eC, eNew, eAnd, eOr, eNot, eIf, eOp, eNeg, eIsN, eNotN, eFld, eFldO, eIxO, eLenO, eTup, eB, eTuple, eFind, eJoin, eIsi, eCall, eCallT, eChain, nLst, nList, nComp, nCall, nCallT, nMake, nRep, nCat, nCatO, oNone, oSome, nSlice, bVal, bAnd, bOr, bNot, bOp, bChain, bIsN, bNotN, bYes, aNil, aCons, qNil, qVal, iSq, iR1, iR2, iZp, iEn, sPopAt, gNm, gTp, gConsD, gNilD, onMade, gt, ownAll, mkSl, wb, endsD, mrg, startD, kAdd, kSub, kMul, kMod, kDiv, kPow, kShr, kLt, kLe, kGt, kGe, isNon, br_decide, br_t, br_f, Bool.not_true, Bool.not_false, List.map_cons, List.map_nil, List.length_cons, List.length_nil, List.replicate, List.cons_append, List.nil_append, List.set_cons_zero, List.set_cons_succ, List.set_nil, wipeD, back, noOwn, true_and, and_true, List.length_map, List.reduceReplicate, Nat.reduceSub, Nat.reduceAdd, Int.reduceNeg, reduceCtorEq, if_true, if_false, Bool.true_eq_false, Bool.false_eq_true, ite_true, ite_false, s_onVal, s_onOwn, s_onLst, s_onIns, s_onL, s_onBl, s_some, s_kI, s_addI, s_addS, s_neg, s_eqI, s_neI, s_eqS, s_neS, s_ixL, s_ixT, s_ixS, s_ixO, s_lenS, s_lenL, s_lenT, s_abs, s_intI, s_intB, s_max2, s_min2, s_itL, s_itT, s_itS, s_rng1, s_rng2, s_zipL, s_zipT, s_enL, s_seqL, s_seqT, s_minL, s_maxL, s_sum, s_isBl, s_fld, s_vNil, s_vCons, s_frzL, s_frzI, at0, at1, at2, at3, ix30, ix31, ix32, pT_cons, oT_cons, iT_cons, Option.map_some, s_none, s_put0, s_put, s_find, s_join, notInS_of, inS_of, eq_self]
  have ln : ∀ {k : D → Prop}, kLen [nL ns] k = k (.int m) := fun {k} => by simp only [nL, hn, sNil, sCons, sIf, sAsg, sOwn, sFor, sRet, sRetN, sRetO, sRetNew, sExpr, sApp, sSetIx, sPass, DL.sFld, sNever, s_lk, sLcO, sLcV, eVar, eFrz, eC, eNew, eAnd, eOr, eNot, eIf, eOp, eNeg, eIsN, eNotN, eFld, eFldO, eIxO, eLenO, eTup, eB, eTuple, eFind, eJoin, eIsi, eCall, eCallT, eChain, nLst, nList, nComp, nCall, nCallT, nMake, nRep, nCat, nCatO, oNone, oSome, nSlice, bVal, bAnd, bOr, bNot, bOp, bChain, bIsN, bNotN, bYes, aNil, aCons, qNil, qVal, iSq, iR1, iR2, iZp, iEn, sPopAt, gNm, gTp, gConsD, gNilD, onMade, gt, ownAll, mkSl, wb, endsD, mrg, startD, kAdd, kSub, kMul, kMod, kDiv, kPow, kShr, kLt, kLe, kGt, kGe, isNon, br_decide, br_t, br_f, Bool.not_true, Bool.not_false, List.map_cons, List.map_nil, List.length_cons, List.length_nil, List.replicate, List.cons_append, List.nil_append, List.set_cons_zero, List.set_cons_succ, List.set_nil, wipeD, back, noOwn, true_and, and_true, List.length_map, List.reduceReplicate, Nat.reduceSub, Nat.reduceAdd, Int.reduceNeg, reduceCtorEq, if_true, if_false, Bool.true_eq_false, Bool.false_eq_true, ite_true, ite_false, s_onVal, s_onOwn, s_onLst, s_onIns, s_onL, s_onBl, s_some, s_kI, s_addI, s_addS, s_neg, s_eqI, s_neI, s_eqS, s_neS, s_ixL, s_ixT, s_ixS, s_ixO, s_lenS, s_lenL, s_lenT, s_abs, s_intI, s_intB, s_max2, s_min2, s_itL, s_itT, s_itS, s_rng1, s_rng2, s_zipL, s_zipT, s_enL, s_seqL, s_seqT, s_minL, s_maxL, s_sum, s_isBl, s_fld, s_vNil, s_vCons, s_frzL, s_frzI, at0, at1, at2, at3, ix30, ix31, ix32, pT_cons, oT_cons, iT_cons, Option.map_some, s_none, s_put0, s_put, s_find, s_join, notInS_of, inS_of, eq_self]
  have nx : ∀ {s : Nat} {k : D → Prop}, s < m → kIx (nL ns) (.int s) k = k (.int (ns.getD s 0 : Nat)) := fun {s} {k} hs => by
    simp only [nL, s_ixL]; rw [at_nL (by omega) (by rw [hn]; omega), s_some, Int.toNat_natCast]
  have hx : ∀ {s : Nat} {k : D → Prop}, s < m → kIx (iL hs) (.int s) k = k (.int (hs.getD s 0)) := fun {s} {k} h => by
    simp only [iL, s_ixL]; rw [at_nat (by rw [hh]; exact h), s_some]
  have nlt : ∀ {s : Nat}, s < m → ns.getD s 0 < n := fun {s} h => hlt _ (getD_mem (by rw [hn]; exact h))
  simp only [ln, o2, sNil, sCons, sIf, sAsg, sOwn, sFor, sRet, sRetN, sRetO, sRetNew, sExpr, sApp, sSetIx, sPass, DL.sFld, sNever, s_lk, sLcO, sLcV, eVar, eFrz, eC, eNew, eAnd, eOr, eNot, eIf, eOp, eNeg, eIsN, eNotN, eFld, eFldO, eIxO, eLenO, eTup, eB, eTuple, eFind, eJoin, eIsi, eCall, eCallT, eChain, nLst, nList, nComp, nCall, nCallT, nMake, nRep, nCat, nCatO, oNone, oSome, nSlice, bVal, bAnd, bOr, bNot, bOp, bChain, bIsN, bNotN, bYes, aNil, aCons, qNil, qVal, iSq, iR1, iR2, iZp, iEn, sPopAt, gNm, gTp, gConsD, gNilD, onMade, gt, ownAll, mkSl, wb, endsD, mrg, startD, kAdd, kSub, kMul, kMod, kDiv, kPow, kShr, kLt, kLe, kGt, kGe, isNon, br_decide, br_t, br_f, Bool.not_true, Bool.not_false, List.map_cons, List.map_nil, List.length_cons, List.length_nil, List.replicate, List.cons_append, List.nil_append, List.set_cons_zero, List.set_cons_succ, List.set_nil, wipeD, back, noOwn, true_and, and_true, List.length_map, List.reduceReplicate, Nat.reduceSub, Nat.reduceAdd, Int.reduceNeg, reduceCtorEq, if_true, if_false, Bool.true_eq_false, Bool.false_eq_true, ite_true, ite_false, s_onVal, s_onOwn, s_onLst, s_onIns, s_onL, s_onBl, s_some, s_kI, s_addI, s_addS, s_neg, s_eqI, s_neI, s_eqS, s_neS, s_ixL, s_ixT, s_ixS, s_ixO, s_lenS, s_lenL, s_lenT, s_abs, s_intI, s_intB, s_max2, s_min2, s_itL, s_itT, s_itS, s_rng1, s_rng2, s_zipL, s_zipT, s_enL, s_seqL, s_seqT, s_minL, s_maxL, s_sum, s_isBl, s_fld, s_vNil, s_vCons, s_frzL, s_frzI, at0, at1, at2, at3, ix30, ix31, ix32, pT_cons, oT_cons, iT_cons, Option.map_some, s_none, s_put0, s_put, s_find, s_join, notInS_of, inS_of, eq_self]
  refine forL_n (fun j ρ => ∃ (s : List D) (x6 x7 x8 x9 : Sl) (c : List (List (List Int))), Src s ∧ c.length = j ∧ (∀ x, x7 ≠ .own x) ∧ (∀ k < c.length, Sq m (c.getD k []) ∧ ∀ s < m, ∀ t < m, pr o.c k (ns.getD s 0) (ns.getD t 0) + hs.getD t 0 ≤ pr c k s t + hs.getD s 0) ∧
    ρ = [.own (.lst s), .val (wD o), .val (nL ns), .val (iL hs), .val (.int m), .own (.lst (c.map tL)), x6, x7, x8, x9, .un, .un, .un, .un] ∧ (∀ x, x8 ≠ .own x)) (fun j d hj ρ ⟨s, x6, x7, x8, x9, c, hs1, hl, h7, hc, e, h8⟩ nx' hnx => ?_) (fun ρ ⟨s, x6, x7, x8, x9, c, hs1, hl, h7, hc, e, h8⟩ => ?_) ⟨src, _, _, _, _, [], hsr, rfl, by simp, by simp, rfl, by simp⟩
  · subst e
    simp only [List.getElem?_map, Option.map_eq_some_iff] at hj
    obtain ⟨tb, hj, rfl⟩ := hj
    have st := ho.q tb (List.mem_of_getElem? hj)
    unfold m__law_above_image_1
    simp only [sNil, sCons, sIf, sAsg, sOwn, sFor, sRet, sRetN, sRetO, sRetNew, sExpr, sApp, sSetIx, sPass, DL.sFld, sNever, s_lk, sLcO, sLcV, eVar, eFrz, eC, eNew, eAnd, eOr, eNot, eIf, eOp, eNeg, eIsN, eNotN, eFld, eFldO, eIxO, eLenO, eTup, eB, eTuple, eFind, eJoin, eIsi, eCall, eCallT, eChain, nLst, nList, nComp, nCall, nCallT, nMake, nRep, nCat, nCatO, oNone, oSome, nSlice, bVal, bAnd, bOr, bNot, bOp, bChain, bIsN, bNotN, bYes, aNil, aCons, qNil, qVal, iSq, iR1, iR2, iZp, iEn, sPopAt, gNm, gTp, gConsD, gNilD, onMade, gt, ownAll, mkSl, wb, endsD, mrg, startD, kAdd, kSub, kMul, kMod, kDiv, kPow, kShr, kLt, kLe, kGt, kGe, isNon, br_decide, br_t, br_f, Bool.not_true, Bool.not_false, List.map_cons, List.map_nil, List.length_cons, List.length_nil, List.replicate, List.cons_append, List.nil_append, List.set_cons_zero, List.set_cons_succ, List.set_nil, wipeD, back, noOwn, true_and, and_true, List.length_map, List.reduceReplicate, Nat.reduceSub, Nat.reduceAdd, Int.reduceNeg, reduceCtorEq, if_true, if_false, Bool.true_eq_false, Bool.false_eq_true, ite_true, ite_false, s_onVal, s_onOwn, s_onLst, s_onIns, s_onL, s_onBl, s_some, s_kI, s_addI, s_addS, s_neg, s_eqI, s_neI, s_eqS, s_neS, s_ixL, s_ixT, s_ixS, s_ixO, s_lenS, s_lenL, s_lenT, s_abs, s_intI, s_intB, s_max2, s_min2, s_itL, s_itT, s_itS, s_rng1, s_rng2, s_zipL, s_zipT, s_enL, s_seqL, s_seqT, s_minL, s_maxL, s_sum, s_isBl, s_fld, s_vNil, s_vCons, s_frzL, s_frzI, at0, at1, at2, at3, ix30, ix31, ix32, pT_cons, oT_cons, iT_cons, Option.map_some, s_none, s_put0, s_put, s_find, s_join, notInS_of, inS_of, eq_self]
    refine ⟨by omega, ?_⟩
    refine forL_n (fun i ρ => ∃ (s : List D) (x8 x9 : Sl) (L : List (List Int)), Src s ∧ L.length = i ∧ (∀ a < L.length, (L.getD a []).length = m ∧ ∀ t < m, (tb.getD (ns.getD a 0) []).getD (ns.getD t 0) 0 + hs.getD t 0 ≤ (L.getD a []).getD t 0 + hs.getD a 0) ∧
      ρ = [.own (.lst s), .val (wD o), .val (nL ns), .val (iL hs), .val (.int m), .own (.lst (c.map tL)), .val (tL tb), .own (.lst (L.map iL)), x8, x9, .un, .un, .un, .un] ∧ (∀ x, x8 ≠ .own x)) (fun i d hi ρ ⟨s, x8, x9, L, hs2, hl2, hL, e, h8⟩ nx2 hn2 => ?_) (fun ρ ⟨s, x8, x9, L, hs2, hl2, hL, e, h8⟩ => ?_) ⟨s, _, _, [], hs1, rfl, by simp, rfl, h8⟩
    · subst e
      obtain ⟨hi', rfl⟩ := rng_get hi
      rw [Int.toNat_natCast] at hi'
      clear hi
      have hi := hi'
      unfold m__law_above_image_2
      simp only [Int.zero_add, sNil, sCons, sIf, sAsg, sOwn, sFor, sRet, sRetN, sRetO, sRetNew, sExpr, sApp, sSetIx, sPass, DL.sFld, sNever, s_lk, sLcO, sLcV, eVar, eFrz, eC, eNew, eAnd, eOr, eNot, eIf, eOp, eNeg, eIsN, eNotN, eFld, eFldO, eIxO, eLenO, eTup, eB, eTuple, eFind, eJoin, eIsi, eCall, eCallT, eChain, nLst, nList, nComp, nCall, nCallT, nMake, nRep, nCat, nCatO, oNone, oSome, nSlice, bVal, bAnd, bOr, bNot, bOp, bChain, bIsN, bNotN, bYes, aNil, aCons, qNil, qVal, iSq, iR1, iR2, iZp, iEn, sPopAt, gNm, gTp, gConsD, gNilD, onMade, gt, ownAll, mkSl, wb, endsD, mrg, startD, kAdd, kSub, kMul, kMod, kDiv, kPow, kShr, kLt, kLe, kGt, kGe, isNon, br_decide, br_t, br_f, Bool.not_true, Bool.not_false, List.map_cons, List.map_nil, List.length_cons, List.length_nil, List.replicate, List.cons_append, List.nil_append, List.set_cons_zero, List.set_cons_succ, List.set_nil, wipeD, back, noOwn, true_and, and_true, List.length_map, List.reduceReplicate, Nat.reduceSub, Nat.reduceAdd, Int.reduceNeg, reduceCtorEq, if_true, if_false, Bool.true_eq_false, Bool.false_eq_true, ite_true, ite_false, s_onVal, s_onOwn, s_onLst, s_onIns, s_onL, s_onBl, s_some, s_kI, s_addI, s_addS, s_neg, s_eqI, s_neI, s_eqS, s_neS, s_ixL, s_ixT, s_ixS, s_ixO, s_lenS, s_lenL, s_lenT, s_abs, s_intI, s_intB, s_max2, s_min2, s_itL, s_itT, s_itS, s_rng1, s_rng2, s_zipL, s_zipT, s_enL, s_seqL, s_seqT, s_minL, s_maxL, s_sum, s_isBl, s_fld, s_vNil, s_vCons, s_frzL, s_frzI, at0, at1, at2, at3, ix30, ix31, ix32, pT_cons, oT_cons, iT_cons, Option.map_some, s_none, s_put0, s_put, s_find, s_join, notInS_of, inS_of, eq_self]
      refine ⟨by omega, ?_⟩
      refine compL_of D.int 0 (fun ρ => ρ = [.own (.lst s), .val (wD o), .val (nL ns), .val (iL hs), .val (.int m), .own (.lst (c.map tL)), .val (tL tb), .own (.lst (L.map iL)), .val (.int i), x9, .un, .un, .un, .un]) (fun t x => (tb.getD (ns.getD i 0) []).getD (ns.getD t 0) 0 + hs.getD t 0 - hs.getD i 0 = x) (by rw [rng_length]; omega) (fun t d ht ρ e => ?_) rfl fun l ρ l1 l2 e => ?_
      · subst e
        obtain ⟨ht', rfl⟩ := rng_get ht
        rw [Int.toNat_natCast] at ht'
        clear ht
        have ht := ht'
        have g1 := nlt hi
        have g2 := nlt ht
        simp only [Int.zero_add, nx hi, nx ht, at_nat (l := hs) (i := i) (by omega), at_nat (l := hs) (i := t) (by omega), tL, iL, at_line (t := tb) (k := ((ns.getD i 0 : Nat) : Int)) (by omega) (by rw [st.1]; omega), Int.toNat_natCast, at_nat (l := tb.getD (ns.getD i 0) []) (i := ns.getD t 0) (by rw [st.line g1]; exact g2), sNil, sCons, sIf, sAsg, sOwn, sFor, sRet, sRetN, sRetO, sRetNew, sExpr, sApp, sSetIx, sPass, DL.sFld, sNever, s_lk, sLcO, sLcV, eVar, eFrz, eC, eNew, eAnd, eOr, eNot, eIf, eOp, eNeg, eIsN, eNotN, eFld, eFldO, eIxO, eLenO, eTup, eB, eTuple, eFind, eJoin, eIsi, eCall, eCallT, eChain, nLst, nList, nComp, nCall, nCallT, nMake, nRep, nCat, nCatO, oNone, oSome, nSlice, bVal, bAnd, bOr, bNot, bOp, bChain, bIsN, bNotN, bYes, aNil, aCons, qNil, qVal, iSq, iR1, iR2, iZp, iEn, sPopAt, gNm, gTp, gConsD, gNilD, onMade, gt, ownAll, mkSl, wb, endsD, mrg, startD, kAdd, kSub, kMul, kMod, kDiv, kPow, kShr, kLt, kLe, kGt, kGe, isNon, br_decide, br_t, br_f, Bool.not_true, Bool.not_false, List.map_cons, List.map_nil, List.length_cons, List.length_nil, List.replicate, List.cons_append, List.nil_append, List.set_cons_zero, List.set_cons_succ, List.set_nil, wipeD, back, noOwn, true_and, and_true, List.length_map, List.reduceReplicate, Nat.reduceSub, Nat.reduceAdd, Int.reduceNeg, reduceCtorEq, if_true, if_false, Bool.true_eq_false, Bool.false_eq_true, ite_true, ite_false, s_onVal, s_onOwn, s_onLst, s_onIns, s_onL, s_onBl, s_some, s_kI, s_addI, s_addS, s_neg, s_eqI, s_neI, s_eqS, s_neS, s_ixL, s_ixT, s_ixS, s_ixO, s_lenS, s_lenL, s_lenT, s_abs, s_intI, s_intB, s_max2, s_min2, s_itL, s_itT, s_itS, s_rng1, s_rng2, s_zipL, s_zipT, s_enL, s_seqL, s_seqT, s_minL, s_maxL, s_sum, s_isBl, s_fld, s_vNil, s_vCons, s_frzL, s_frzI, at0, at1, at2, at3, ix30, ix31, ix32, pT_cons, oT_cons, iT_cons, Option.map_some, s_none, s_put0, s_put, s_find, s_join, notInS_of, inS_of, eq_self]
        exact fun k hk => hk _ _ rfl rfl
      · subst e
        rw [rng_length, Int.toNat_natCast] at l1 l2
        simp only [sNil, sCons, sIf, sAsg, sOwn, sFor, sRet, sRetN, sRetO, sRetNew, sExpr, sApp, sSetIx, sPass, DL.sFld, sNever, s_lk, sLcO, sLcV, eVar, eFrz, eC, eNew, eAnd, eOr, eNot, eIf, eOp, eNeg, eIsN, eNotN, eFld, eFldO, eIxO, eLenO, eTup, eB, eTuple, eFind, eJoin, eIsi, eCall, eCallT, eChain, nLst, nList, nComp, nCall, nCallT, nMake, nRep, nCat, nCatO, oNone, oSome, nSlice, bVal, bAnd, bOr, bNot, bOp, bChain, bIsN, bNotN, bYes, aNil, aCons, qNil, qVal, iSq, iR1, iR2, iZp, iEn, sPopAt, gNm, gTp, gConsD, gNilD, onMade, gt, ownAll, mkSl, wb, endsD, mrg, startD, kAdd, kSub, kMul, kMod, kDiv, kPow, kShr, kLt, kLe, kGt, kGe, isNon, br_decide, br_t, br_f, Bool.not_true, Bool.not_false, List.map_cons, List.map_nil, List.length_cons, List.length_nil, List.replicate, List.cons_append, List.nil_append, List.set_cons_zero, List.set_cons_succ, List.set_nil, wipeD, back, noOwn, true_and, and_true, List.length_map, List.reduceReplicate, Nat.reduceSub, Nat.reduceAdd, Int.reduceNeg, reduceCtorEq, if_true, if_false, Bool.true_eq_false, Bool.false_eq_true, ite_true, ite_false, s_onVal, s_onOwn, s_onLst, s_onIns, s_onL, s_onBl, s_some, s_kI, s_addI, s_addS, s_neg, s_eqI, s_neI, s_eqS, s_neS, s_ixL, s_ixT, s_ixS, s_ixO, s_lenS, s_lenL, s_lenT, s_abs, s_intI, s_intB, s_max2, s_min2, s_itL, s_itT, s_itS, s_rng1, s_rng2, s_zipL, s_zipT, s_enL, s_seqL, s_seqT, s_minL, s_maxL, s_sum, s_isBl, s_fld, s_vNil, s_vCons, s_frzL, s_frzI, at0, at1, at2, at3, ix30, ix31, ix32, pT_cons, oT_cons, iT_cons, Option.map_some, s_none, s_put0, s_put, s_find, s_join, notInS_of, inS_of, eq_self]
        refine compL_of D.int 0 (fun ρ => ∃ s, Src s ∧ ρ = [.own (.lst s), .val (wD o), .val (nL ns), .val (iL hs), .val (.int m), .own (.lst (c.map tL)), .val (tL tb), .own (.lst (L.map iL)), .val (.int i), .val (iL l), .un, .un, .un, .un]) (fun t x => l.getD t 0 ≤ x) (by rw [List.length_map]; omega) (fun t d ht ρ ⟨s, hs3, e⟩ => ?_) ⟨s, hs2, rfl⟩ fun l' ρ l1' l2' ⟨s, hs3, e⟩ => ?_
        · subst e
          simp only [List.getElem?_map, Option.map_eq_some_iff] at ht
          obtain ⟨x, ht, rfl⟩ := ht
          simp only [T__law_draw, sNil, sCons, sIf, sAsg, sOwn, sFor, sRet, sRetN, sRetO, sRetNew, sExpr, sApp, sSetIx, sPass, DL.sFld, sNever, s_lk, sLcO, sLcV, eVar, eFrz, eC, eNew, eAnd, eOr, eNot, eIf, eOp, eNeg, eIsN, eNotN, eFld, eFldO, eIxO, eLenO, eTup, eB, eTuple, eFind, eJoin, eIsi, eCall, eCallT, eChain, nLst, nList, nComp, nCall, nCallT, nMake, nRep, nCat, nCatO, oNone, oSome, nSlice, bVal, bAnd, bOr, bNot, bOp, bChain, bIsN, bNotN, bYes, aNil, aCons, qNil, qVal, iSq, iR1, iR2, iZp, iEn, sPopAt, gNm, gTp, gConsD, gNilD, onMade, gt, ownAll, mkSl, wb, endsD, mrg, startD, kAdd, kSub, kMul, kMod, kDiv, kPow, kShr, kLt, kLe, kGt, kGe, isNon, br_decide, br_t, br_f, Bool.not_true, Bool.not_false, List.map_cons, List.map_nil, List.length_cons, List.length_nil, List.replicate, List.cons_append, List.nil_append, List.set_cons_zero, List.set_cons_succ, List.set_nil, wipeD, back, noOwn, true_and, and_true, List.length_map, List.reduceReplicate, Nat.reduceSub, Nat.reduceAdd, Int.reduceNeg, reduceCtorEq, if_true, if_false, Bool.true_eq_false, Bool.false_eq_true, ite_true, ite_false, s_onVal, s_onOwn, s_onLst, s_onIns, s_onL, s_onBl, s_some, s_kI, s_addI, s_addS, s_neg, s_eqI, s_neI, s_eqS, s_neS, s_ixL, s_ixT, s_ixS, s_ixO, s_lenS, s_lenL, s_lenT, s_abs, s_intI, s_intB, s_max2, s_min2, s_itL, s_itT, s_itS, s_rng1, s_rng2, s_zipL, s_zipT, s_enL, s_seqL, s_seqT, s_minL, s_maxL, s_sum, s_isBl, s_fld, s_vNil, s_vCons, s_frzL, s_frzI, at0, at1, at2, at3, ix30, ix31, ix32, pT_cons, oT_cons, iT_cons, Option.map_some, s_none, s_put0, s_put, s_find, s_join, notInS_of, inS_of, eq_self]
          refine fun k hk => ⟨by omega, hs3, fun r s' hs' hr => hk _ _ (by rw [getD_some ht]; omega) ⟨s', hs', rfl⟩⟩
        · subst e
          rw [List.length_map] at l1' l2'
          simp only [sNil, sCons, sIf, sAsg, sOwn, sFor, sRet, sRetN, sRetO, sRetNew, sExpr, sApp, sSetIx, sPass, DL.sFld, sNever, s_lk, sLcO, sLcV, eVar, eFrz, eC, eNew, eAnd, eOr, eNot, eIf, eOp, eNeg, eIsN, eNotN, eFld, eFldO, eIxO, eLenO, eTup, eB, eTuple, eFind, eJoin, eIsi, eCall, eCallT, eChain, nLst, nList, nComp, nCall, nCallT, nMake, nRep, nCat, nCatO, oNone, oSome, nSlice, bVal, bAnd, bOr, bNot, bOp, bChain, bIsN, bNotN, bYes, aNil, aCons, qNil, qVal, iSq, iR1, iR2, iZp, iEn, sPopAt, gNm, gTp, gConsD, gNilD, onMade, gt, ownAll, mkSl, wb, endsD, mrg, startD, kAdd, kSub, kMul, kMod, kDiv, kPow, kShr, kLt, kLe, kGt, kGe, isNon, br_decide, br_t, br_f, Bool.not_true, Bool.not_false, List.map_cons, List.map_nil, List.length_cons, List.length_nil, List.replicate, List.cons_append, List.nil_append, List.set_cons_zero, List.set_cons_succ, List.set_nil, wipeD, back, noOwn, true_and, and_true, List.length_map, List.reduceReplicate, Nat.reduceSub, Nat.reduceAdd, Int.reduceNeg, reduceCtorEq, if_true, if_false, Bool.true_eq_false, Bool.false_eq_true, ite_true, ite_false, s_onVal, s_onOwn, s_onLst, s_onIns, s_onL, s_onBl, s_some, s_kI, s_addI, s_addS, s_neg, s_eqI, s_neI, s_eqS, s_neS, s_ixL, s_ixT, s_ixS, s_ixO, s_lenS, s_lenL, s_lenT, s_abs, s_intI, s_intB, s_max2, s_min2, s_itL, s_itT, s_itS, s_rng1, s_rng2, s_zipL, s_zipT, s_enL, s_seqL, s_seqT, s_minL, s_maxL, s_sum, s_isBl, s_fld, s_vNil, s_vCons, s_frzL, s_frzI, at0, at1, at2, at3, ix30, ix31, ix32, pT_cons, oT_cons, iT_cons, Option.map_some, s_none, s_put0, s_put, s_find, s_join, notInS_of, inS_of, eq_self]
          refine ⟨small' (m := 1001) (by omega), hn2 _ ⟨s, .val (.int i), .val (iL l), L ++ [l'], hs3, by simp; omega, fun a ha => ?_, by simp only [List.map_append, List.map_cons, List.map_nil]; rfl, by simp⟩⟩
          simp only [List.length_append, List.length_cons, List.length_nil] at ha
          rcases Nat.lt_or_ge a L.length with ca | ca
          · have : (L ++ [l']).getD a [] = L.getD a [] := by simp [List.getD_eq_getElem?_getD, List.getElem?_append_left ca]
            rw [this]; exact hL a ca
          · have ea : a = i := by omega
            have : (L ++ [l']).getD a [] = l' := by
              rw [List.getD_eq_getElem?_getD, List.getElem?_append_right ca, show a - L.length = 0 by omega]; rfl
            rw [this, ea]
            refine ⟨by omega, fun t ht => ?_⟩
            have a1 := l2 t ht
            have a2 := l2' t (by omega)
            omega
    · subst e
      rw [rng_length, Int.toNat_natCast] at hl2
      simp only [sNil, sCons, sIf, sAsg, sOwn, sFor, sRet, sRetN, sRetO, sRetNew, sExpr, sApp, sSetIx, sPass, DL.sFld, sNever, s_lk, sLcO, sLcV, eVar, eFrz, eC, eNew, eAnd, eOr, eNot, eIf, eOp, eNeg, eIsN, eNotN, eFld, eFldO, eIxO, eLenO, eTup, eB, eTuple, eFind, eJoin, eIsi, eCall, eCallT, eChain, nLst, nList, nComp, nCall, nCallT, nMake, nRep, nCat, nCatO, oNone, oSome, nSlice, bVal, bAnd, bOr, bNot, bOp, bChain, bIsN, bNotN, bYes, aNil, aCons, qNil, qVal, iSq, iR1, iR2, iZp, iEn, sPopAt, gNm, gTp, gConsD, gNilD, onMade, gt, ownAll, mkSl, wb, endsD, mrg, startD, kAdd, kSub, kMul, kMod, kDiv, kPow, kShr, kLt, kLe, kGt, kGe, isNon, br_decide, br_t, br_f, Bool.not_true, Bool.not_false, List.map_cons, List.map_nil, List.length_cons, List.length_nil, List.replicate, List.cons_append, List.nil_append, List.set_cons_zero, List.set_cons_succ, List.set_nil, wipeD, back, noOwn, true_and, and_true, List.length_map, List.reduceReplicate, Nat.reduceSub, Nat.reduceAdd, Int.reduceNeg, reduceCtorEq, if_true, if_false, Bool.true_eq_false, Bool.false_eq_true, ite_true, ite_false, s_onVal, s_onOwn, s_onLst, s_onIns, s_onL, s_onBl, s_some, s_kI, s_addI, s_addS, s_neg, s_eqI, s_neI, s_eqS, s_neS, s_ixL, s_ixT, s_ixS, s_ixO, s_lenS, s_lenL, s_lenT, s_abs, s_intI, s_intB, s_max2, s_min2, s_itL, s_itT, s_itS, s_rng1, s_rng2, s_zipL, s_zipT, s_enL, s_seqL, s_seqT, s_minL, s_maxL, s_sum, s_isBl, s_fld, s_vNil, s_vCons, s_frzL, s_frzI, at0, at1, at2, at3, ix30, ix31, ix32, pT_cons, oT_cons, iT_cons, Option.map_some, s_none, s_put0, s_put, s_find, s_join, notInS_of, inS_of, eq_self]
      refine ⟨small' (m := 1001) (by have := lt_some hj; rw [ho.c] at this; omega), hnx _ ⟨s, .val (tL tb), .val (tL L), x8, x9, c ++ [L], hs2, by simp; omega, by simp, fun k hk => ?_, by simp only [List.map_append, List.map_cons, List.map_nil]; rfl, h8⟩⟩
      simp only [List.length_append, List.length_cons, List.length_nil] at hk
      rcases Nat.lt_or_ge k c.length with ca | ca
      · have e1 : (c ++ [L]).getD k [] = c.getD k [] := by simp [List.getD_eq_getElem?_getD, List.getElem?_append_left ca]
        unfold pr
        rw [e1]; exact hc k ca
      · have ea : k = j := by omega
        have e1 : (c ++ [L]).getD k [] = L := by
          rw [List.getD_eq_getElem?_getD, List.getElem?_append_right ca, show k - c.length = 0 by omega]; rfl
        unfold pr
        rw [e1, ea, getD_some hj]
        refine ⟨⟨hl2, fun l hl => ?_⟩, fun s hs t ht => (hL s (by omega)).2 t ht⟩
        obtain ⟨a, ha⟩ := List.mem_iff_getElem?.mp hl
        rw [← getD_some (d := []) ha]
        exact (hL a (lt_some ha)).1
  · subst e
    rw [List.length_map] at hl
    simp only [sNil, sCons, sIf, sAsg, sOwn, sFor, sRet, sRetN, sRetO, sRetNew, sExpr, sApp, sSetIx, sPass, DL.sFld, sNever, s_lk, sLcO, sLcV, eVar, eFrz, eC, eNew, eAnd, eOr, eNot, eIf, eOp, eNeg, eIsN, eNotN, eFld, eFldO, eIxO, eLenO, eTup, eB, eTuple, eFind, eJoin, eIsi, eCall, eCallT, eChain, nLst, nList, nComp, nCall, nCallT, nMake, nRep, nCat, nCatO, oNone, oSome, nSlice, bVal, bAnd, bOr, bNot, bOp, bChain, bIsN, bNotN, bYes, aNil, aCons, qNil, qVal, iSq, iR1, iR2, iZp, iEn, sPopAt, gNm, gTp, gConsD, gNilD, onMade, gt, ownAll, mkSl, wb, endsD, mrg, startD, kAdd, kSub, kMul, kMod, kDiv, kPow, kShr, kLt, kLe, kGt, kGe, isNon, br_decide, br_t, br_f, Bool.not_true, Bool.not_false, List.map_cons, List.map_nil, List.length_cons, List.length_nil, List.replicate, List.cons_append, List.nil_append, List.set_cons_zero, List.set_cons_succ, List.set_nil, wipeD, back, noOwn, true_and, and_true, List.length_map, List.reduceReplicate, Nat.reduceSub, Nat.reduceAdd, Int.reduceNeg, reduceCtorEq, if_true, if_false, Bool.true_eq_false, Bool.false_eq_true, ite_true, ite_false, s_onVal, s_onOwn, s_onLst, s_onIns, s_onL, s_onBl, s_some, s_kI, s_addI, s_addS, s_neg, s_eqI, s_neI, s_eqS, s_neS, s_ixL, s_ixT, s_ixS, s_ixO, s_lenS, s_lenL, s_lenT, s_abs, s_intI, s_intB, s_max2, s_min2, s_itL, s_itT, s_itS, s_rng1, s_rng2, s_zipL, s_zipT, s_enL, s_seqL, s_seqT, s_minL, s_maxL, s_sum, s_isBl, s_fld, s_vNil, s_vCons, s_frzL, s_frzI, at0, at1, at2, at3, ix30, ix31, ix32, pT_cons, oT_cons, iT_cons, Option.map_some, s_none, s_put0, s_put, s_find, s_join, notInS_of, inS_of, eq_self]
    have n8 : (match x8 with | .own _ => False | _ => True) := by
      cases x8 with
      | own x => exact (h8 x rfl).elim
      | _ => trivial
    refine ⟨by omega, ?_⟩
    refine compL_of D.int 0 (fun ρ => ∃ s, Src s ∧ ρ = [.own (.lst s), .val (wD o), .val (nL ns), .val (iL hs), .val (.int m), .own (.lst (c.map tL)), x6, x7, x8, x9, .un, .un, .un, .un]) (fun a x => pb o (ns.getD a 0) + hs.getD a 0 ≤ x) (by rw [rng_length]; omega) (fun a d ht ρ ⟨s, hs3, e⟩ => ?_) ⟨s, hs1, rfl⟩ fun l ρ l1 l2 ⟨s, hs3, e⟩ => ?_
    · subst e
      obtain ⟨ht', rfl⟩ := rng_get ht
      rw [Int.toNat_natCast] at ht'
      clear ht
      have ht := ht'
      simp only [Int.zero_add, o1, nx ht, at_nat (l := hs) (i := a) (by omega), iL, at_nat (l := o.b) (i := ns.getD a 0) (by rw [ho.b]; exact nlt ht), T__law_draw, n8, sNil, sCons, sIf, sAsg, sOwn, sFor, sRet, sRetN, sRetO, sRetNew, sExpr, sApp, sSetIx, sPass, DL.sFld, sNever, s_lk, sLcO, sLcV, eVar, eFrz, eC, eNew, eAnd, eOr, eNot, eIf, eOp, eNeg, eIsN, eNotN, eFld, eFldO, eIxO, eLenO, eTup, eB, eTuple, eFind, eJoin, eIsi, eCall, eCallT, eChain, nLst, nList, nComp, nCall, nCallT, nMake, nRep, nCat, nCatO, oNone, oSome, nSlice, bVal, bAnd, bOr, bNot, bOp, bChain, bIsN, bNotN, bYes, aNil, aCons, qNil, qVal, iSq, iR1, iR2, iZp, iEn, sPopAt, gNm, gTp, gConsD, gNilD, onMade, gt, ownAll, mkSl, wb, endsD, mrg, startD, kAdd, kSub, kMul, kMod, kDiv, kPow, kShr, kLt, kLe, kGt, kGe, isNon, br_decide, br_t, br_f, Bool.not_true, Bool.not_false, List.map_cons, List.map_nil, List.length_cons, List.length_nil, List.replicate, List.cons_append, List.nil_append, List.set_cons_zero, List.set_cons_succ, List.set_nil, wipeD, back, noOwn, true_and, and_true, List.length_map, List.reduceReplicate, Nat.reduceSub, Nat.reduceAdd, Int.reduceNeg, reduceCtorEq, if_true, if_false, Bool.true_eq_false, Bool.false_eq_true, ite_true, ite_false, s_onVal, s_onOwn, s_onLst, s_onIns, s_onL, s_onBl, s_some, s_kI, s_addI, s_addS, s_neg, s_eqI, s_neI, s_eqS, s_neS, s_ixL, s_ixT, s_ixS, s_ixO, s_lenS, s_lenL, s_lenT, s_abs, s_intI, s_intB, s_max2, s_min2, s_itL, s_itT, s_itS, s_rng1, s_rng2, s_zipL, s_zipT, s_enL, s_seqL, s_seqT, s_minL, s_maxL, s_sum, s_isBl, s_fld, s_vNil, s_vCons, s_frzL, s_frzI, at0, at1, at2, at3, ix30, ix31, ix32, pT_cons, oT_cons, iT_cons, Option.map_some, s_none, s_put0, s_put, s_find, s_join, notInS_of, inS_of, eq_self]
      exact fun k hk => ⟨by omega, hs3, fun r s' hs' hr => hk _ _ (by unfold pb; omega) ⟨s', hs', rfl⟩⟩
    · subst e
      rw [rng_length, Int.toNat_natCast] at l1 l2
      simp only [sNil, sCons, sIf, sAsg, sOwn, sFor, sRet, sRetN, sRetO, sRetNew, sExpr, sApp, sSetIx, sPass, DL.sFld, sNever, s_lk, sLcO, sLcV, eVar, eFrz, eC, eNew, eAnd, eOr, eNot, eIf, eOp, eNeg, eIsN, eNotN, eFld, eFldO, eIxO, eLenO, eTup, eB, eTuple, eFind, eJoin, eIsi, eCall, eCallT, eChain, nLst, nList, nComp, nCall, nCallT, nMake, nRep, nCat, nCatO, oNone, oSome, nSlice, bVal, bAnd, bOr, bNot, bOp, bChain, bIsN, bNotN, bYes, aNil, aCons, qNil, qVal, iSq, iR1, iR2, iZp, iEn, sPopAt, gNm, gTp, gConsD, gNilD, onMade, gt, ownAll, mkSl, wb, endsD, mrg, startD, kAdd, kSub, kMul, kMod, kDiv, kPow, kShr, kLt, kLe, kGt, kGe, isNon, br_decide, br_t, br_f, Bool.not_true, Bool.not_false, List.map_cons, List.map_nil, List.length_cons, List.length_nil, List.replicate, List.cons_append, List.nil_append, List.set_cons_zero, List.set_cons_succ, List.set_nil, wipeD, back, noOwn, true_and, and_true, List.length_map, List.reduceReplicate, Nat.reduceSub, Nat.reduceAdd, Int.reduceNeg, reduceCtorEq, if_true, if_false, Bool.true_eq_false, Bool.false_eq_true, ite_true, ite_false, s_onVal, s_onOwn, s_onLst, s_onIns, s_onL, s_onBl, s_some, s_kI, s_addI, s_addS, s_neg, s_eqI, s_neI, s_eqS, s_neS, s_ixL, s_ixT, s_ixS, s_ixO, s_lenS, s_lenL, s_lenT, s_abs, s_intI, s_intB, s_max2, s_min2, s_itL, s_itT, s_itS, s_rng1, s_rng2, s_zipL, s_zipT, s_enL, s_seqL, s_seqT, s_minL, s_maxL, s_sum, s_isBl, s_fld, s_vNil, s_vCons, s_frzL, s_frzI, at0, at1, at2, at3, ix30, ix31, ix32, pT_cons, oT_cons, iT_cons, Option.map_some, s_none, s_put0, s_put, s_find, s_join, notInS_of, inS_of, eq_self]
      refine ⟨by omega, ?_⟩
      refine compL_of D.int 0 (fun ρ => ∃ s, Src s ∧ ρ = [.own (.lst s), .val (wD o), .val (nL ns), .val (iL hs), .val (.int m), .own (.lst (c.map tL)), x6, x7, x8, x9, .un, .un, .val (iL l), .un]) (fun a x => pe o (ns.getD a 0) ≤ x + hs.getD a 0) (by rw [rng_length]; omega) (fun a d ht ρ ⟨s, hs3, e⟩ => ?_) ⟨s, hs3, rfl⟩ fun l' ρ l1' l2' ⟨s, hs4, e⟩ => ?_
      · subst e
        obtain ⟨ht', rfl⟩ := rng_get ht
        rw [Int.toNat_natCast] at ht'
        clear ht
        have ht := ht'
        simp only [Int.zero_add, o3, nx ht, at_nat (l := hs) (i := a) (by omega), iL, at_nat (l := o.e) (i := ns.getD a 0) (by rw [ho.e]; exact nlt ht), T__law_draw, n8, sNil, sCons, sIf, sAsg, sOwn, sFor, sRet, sRetN, sRetO, sRetNew, sExpr, sApp, sSetIx, sPass, DL.sFld, sNever, s_lk, sLcO, sLcV, eVar, eFrz, eC, eNew, eAnd, eOr, eNot, eIf, eOp, eNeg, eIsN, eNotN, eFld, eFldO, eIxO, eLenO, eTup, eB, eTuple, eFind, eJoin, eIsi, eCall, eCallT, eChain, nLst, nList, nComp, nCall, nCallT, nMake, nRep, nCat, nCatO, oNone, oSome, nSlice, bVal, bAnd, bOr, bNot, bOp, bChain, bIsN, bNotN, bYes, aNil, aCons, qNil, qVal, iSq, iR1, iR2, iZp, iEn, sPopAt, gNm, gTp, gConsD, gNilD, onMade, gt, ownAll, mkSl, wb, endsD, mrg, startD, kAdd, kSub, kMul, kMod, kDiv, kPow, kShr, kLt, kLe, kGt, kGe, isNon, br_decide, br_t, br_f, Bool.not_true, Bool.not_false, List.map_cons, List.map_nil, List.length_cons, List.length_nil, List.replicate, List.cons_append, List.nil_append, List.set_cons_zero, List.set_cons_succ, List.set_nil, wipeD, back, noOwn, true_and, and_true, List.length_map, List.reduceReplicate, Nat.reduceSub, Nat.reduceAdd, Int.reduceNeg, reduceCtorEq, if_true, if_false, Bool.true_eq_false, Bool.false_eq_true, ite_true, ite_false, s_onVal, s_onOwn, s_onLst, s_onIns, s_onL, s_onBl, s_some, s_kI, s_addI, s_addS, s_neg, s_eqI, s_neI, s_eqS, s_neS, s_ixL, s_ixT, s_ixS, s_ixO, s_lenS, s_lenL, s_lenT, s_abs, s_intI, s_intB, s_max2, s_min2, s_itL, s_itT, s_itS, s_rng1, s_rng2, s_zipL, s_zipT, s_enL, s_seqL, s_seqT, s_minL, s_maxL, s_sum, s_isBl, s_fld, s_vNil, s_vCons, s_frzL, s_frzI, at0, at1, at2, at3, ix30, ix31, ix32, pT_cons, oT_cons, iT_cons, Option.map_some, s_none, s_put0, s_put, s_find, s_join, notInS_of, inS_of, eq_self]
        exact fun k hk => ⟨by omega, hs3, fun r s' hs' hr => hk _ _ (by unfold pe; omega) ⟨s', hs', rfl⟩⟩
      · subst e
        rw [rng_length, Int.toNat_natCast] at l1' l2'
        simp only [o0, sNil, sCons, sIf, sAsg, sOwn, sFor, sRet, sRetN, sRetO, sRetNew, sExpr, sApp, sSetIx, sPass, DL.sFld, sNever, s_lk, sLcO, sLcV, eVar, eFrz, eC, eNew, eAnd, eOr, eNot, eIf, eOp, eNeg, eIsN, eNotN, eFld, eFldO, eIxO, eLenO, eTup, eB, eTuple, eFind, eJoin, eIsi, eCall, eCallT, eChain, nLst, nList, nComp, nCall, nCallT, nMake, nRep, nCat, nCatO, oNone, oSome, nSlice, bVal, bAnd, bOr, bNot, bOp, bChain, bIsN, bNotN, bYes, aNil, aCons, qNil, qVal, iSq, iR1, iR2, iZp, iEn, sPopAt, gNm, gTp, gConsD, gNilD, onMade, gt, ownAll, mkSl, wb, endsD, mrg, startD, kAdd, kSub, kMul, kMod, kDiv, kPow, kShr, kLt, kLe, kGt, kGe, isNon, br_decide, br_t, br_f, Bool.not_true, Bool.not_false, List.map_cons, List.map_nil, List.length_cons, List.length_nil, List.replicate, List.cons_append, List.nil_append, List.set_cons_zero, List.set_cons_succ, List.set_nil, wipeD, back, noOwn, true_and, and_true, List.length_map, List.reduceReplicate, Nat.reduceSub, Nat.reduceAdd, Int.reduceNeg, reduceCtorEq, if_true, if_false, Bool.true_eq_false, Bool.false_eq_true, ite_true, ite_false, s_onVal, s_onOwn, s_onLst, s_onIns, s_onL, s_onBl, s_some, s_kI, s_addI, s_addS, s_neg, s_eqI, s_neI, s_eqS, s_neS, s_ixL, s_ixT, s_ixS, s_ixO, s_lenS, s_lenL, s_lenT, s_abs, s_intI, s_intB, s_max2, s_min2, s_itL, s_itT, s_itS, s_rng1, s_rng2, s_zipL, s_zipT, s_enL, s_seqL, s_seqT, s_minL, s_maxL, s_sum, s_isBl, s_fld, s_vNil, s_vCons, s_frzL, s_frzI, at0, at1, at2, at3, ix30, ix31, ix32, pT_cons, oT_cons, iT_cons, Option.map_some, s_none, s_put0, s_put, s_find, s_join, notInS_of, inS_of, eq_self]
        refine h ⟨o.a, l, c, l'⟩ s hs4 ⟨l1, l1', by rw [hl, ho.c], fun t ht => ?_⟩ rfl fun s hsm => ⟨?_, fun t ht k hk => ?_⟩
        · obtain ⟨a, ha⟩ := List.mem_iff_getElem?.mp ht
          rw [← getD_some (d := []) ha]
          exact (hc a (lt_some ha)).1
        · obtain ⟨e1, e2⟩ := psOf_f (ns := ns) (hs := hs) (s := s) (by omega)
          unfold Dir1
          rw [e1, e2]
          exact ⟨l2 s hsm, l2' s hsm⟩
        · rw [(psOf_f (by omega)).1, (psOf_f (by omega)).2, (psOf_f (by omega)).1, (psOf_f (by omega)).2]
          exact (hc k (by rw [hl, ho.c]; exact hk)).2 s hsm t ht


theorem p__law_is_int (K : PySem.W.Frag) (kf : KF K) : ∀ sl Q E, T__law_is_int K sl Q E → m__law_is_int K (endsD [] sl Q E) (startD N__law_is_int sl) := by
  refine pT_in ?_
  intro ds Q E h
  split at h
  · rename_i d
    unfold m__law_is_int
    cases d <;> simp only [isNum, sNil, sCons, sIf, sAsg, sOwn, sFor, sRet, sRetN, sRetO, sRetNew, sExpr, sApp, sSetIx, sPass, DL.sFld, sNever, s_lk, sLcO, sLcV, eVar, eFrz, eC, eNew, eAnd, eOr, eNot, eIf, eOp, eNeg, eIsN, eNotN, eFld, eFldO, eIxO, eLenO, eTup, eB, eTuple, eFind, eJoin, eIsi, eCall, eCallT, eChain, nLst, nList, nComp, nCall, nCallT, nMake, nRep, nCat, nCatO, oNone, oSome, nSlice, bVal, bAnd, bOr, bNot, bOp, bChain, bIsN, bNotN, bYes, aNil, aCons, qNil, qVal, iSq, iR1, iR2, iZp, iEn, sPopAt, gNm, gTp, gConsD, gNilD, onMade, gt, ownAll, mkSl, wb, endsD, mrg, startD, kAdd, kSub, kMul, kMod, kDiv, kPow, kShr, kLt, kLe, kGt, kGe, isNon, br_decide, br_t, br_f, Bool.not_true, Bool.not_false, List.map_cons, List.map_nil, List.length_cons, List.length_nil, List.replicate, List.cons_append, List.nil_append, List.set_cons_zero, List.set_cons_succ, List.set_nil, wipeD, back, noOwn, true_and, and_true, List.length_map, List.reduceReplicate, Nat.reduceSub, Nat.reduceAdd, Int.reduceNeg, reduceCtorEq, if_true, if_false, Bool.true_eq_false, Bool.false_eq_true, ite_true, ite_false, s_onVal, s_onOwn, s_onLst, s_onIns, s_onL, s_onBl, s_some, s_kI, s_addI, s_addS, s_neg, s_eqI, s_neI, s_eqS, s_neS, s_ixL, s_ixT, s_ixS, s_ixO, s_lenS, s_lenL, s_lenT, s_abs, s_intI, s_intB, s_max2, s_min2, s_itL, s_itT, s_itS, s_rng1, s_rng2, s_zipL, s_zipT, s_enL, s_seqL, s_seqT, s_minL, s_maxL, s_sum, s_isBl, s_fld, s_vNil, s_vCons, s_frzL, s_frzI, at0, at1, at2, at3, ix30, ix31, ix32, pT_cons, oT_cons, iT_cons, Option.map_some, s_none, s_put0, s_put, s_find, s_join, notInS_of, inS_of, eq_self] at h <;> simp only [isInt, isBool, sNil, sCons, sIf, sAsg, sOwn, sFor, sRet, sRetN, sRetO, sRetNew, sExpr, sApp, sSetIx, sPass, DL.sFld, sNever, s_lk, sLcO, sLcV, eVar, eFrz, eC, eNew, eAnd, eOr, eNot, eIf, eOp, eNeg, eIsN, eNotN, eFld, eFldO, eIxO, eLenO, eTup, eB, eTuple, eFind, eJoin, eIsi, eCall, eCallT, eChain, nLst, nList, nComp, nCall, nCallT, nMake, nRep, nCat, nCatO, oNone, oSome, nSlice, bVal, bAnd, bOr, bNot, bOp, bChain, bIsN, bNotN, bYes, aNil, aCons, qNil, qVal, iSq, iR1, iR2, iZp, iEn, sPopAt, gNm, gTp, gConsD, gNilD, onMade, gt, ownAll, mkSl, wb, endsD, mrg, startD, kAdd, kSub, kMul, kMod, kDiv, kPow, kShr, kLt, kLe, kGt, kGe, isNon, br_decide, br_t, br_f, Bool.not_true, Bool.not_false, List.map_cons, List.map_nil, List.length_cons, List.length_nil, List.replicate, List.cons_append, List.nil_append, List.set_cons_zero, List.set_cons_succ, List.set_nil, wipeD, back, noOwn, true_and, and_true, List.length_map, List.reduceReplicate, Nat.reduceSub, Nat.reduceAdd, Int.reduceNeg, reduceCtorEq, if_true, if_false, Bool.true_eq_false, Bool.false_eq_true, ite_true, ite_false, s_onVal, s_onOwn, s_onLst, s_onIns, s_onL, s_onBl, s_some, s_kI, s_addI, s_addS, s_neg, s_eqI, s_neI, s_eqS, s_neS, s_ixL, s_ixT, s_ixS, s_ixO, s_lenS, s_lenL, s_lenT, s_abs, s_intI, s_intB, s_max2, s_min2, s_itL, s_itT, s_itS, s_rng1, s_rng2, s_zipL, s_zipT, s_enL, s_seqL, s_seqT, s_minL, s_maxL, s_sum, s_isBl, s_fld, s_vNil, s_vCons, s_frzL, s_frzI, at0, at1, at2, at3, ix30, ix31, ix32, pT_cons, oT_cons, iT_cons, Option.map_some, s_none, s_put0, s_put, s_find, s_join, notInS_of, inS_of, eq_self] <;> exact h
  · exact h.elim

theorem p__law_right (K : PySem.W.Frag) (kf : KF K) : ∀ sl Q E, T__law_right K sl Q E → m__law_right K (endsD [] sl Q E) (startD N__law_right sl) := by
  refine pT_in ?_
  rintro ds Q E ⟨m, n, w, o, f, rfl, hw, ho, ha, hl, hm, hf, h⟩
  unfold m__law_right
  have e1 : ∀ {k : D → Prop}, kIx (wD w) (.int 1) k = k (iL w.b) := fun {k} => by simp only [wD, wL, sNil, sCons, sIf, sAsg, sOwn, sFor, sRet, sRetN, sRetO, sRetNew, sExpr, sApp, sSetIx, sPass, DL.sFld, sNever, s_lk, sLcO, sLcV, eVar, eFrz, eC, eNew, eAnd, eOr, eNot, eIf, eOp, eNeg, eIsN, eNotN, eFld, eFldO, eIxO, eLenO, eTup, eB, eTuple, eFind, eJoin, eIsi, eCall, eCallT, eChain, nLst, nList, nComp, nCall, nCallT, nMake, nRep, nCat, nCatO, oNone, oSome, nSlice, bVal, bAnd, bOr, bNot, bOp, bChain, bIsN, bNotN, bYes, aNil, aCons, qNil, qVal, iSq, iR1, iR2, iZp, iEn, sPopAt, gNm, gTp, gConsD, gNilD, onMade, gt, ownAll, mkSl, wb, endsD, mrg, startD, kAdd, kSub, kMul, kMod, kDiv, kPow, kShr, kLt, kLe, kGt, kGe, isNon, br_decide, br_t, br_f, Bool.not_true, Bool.not_false, List.map_cons, List.map_nil, List.length_cons, List.length_nil, List.replicate, List.cons_append, List.nil_append, List.set_cons_zero, List.set_cons_succ, List.set_nil, wipeD, back, noOwn, true_and, and_true, List.length_map, List.reduceReplicate, Nat.reduceSub, Nat.reduceAdd, Int.reduceNeg, reduceCtorEq, if_true, if_false, Bool.true_eq_false, Bool.false_eq_true, ite_true, ite_false, s_onVal, s_onOwn, s_onLst, s_onIns, s_onL, s_onBl, s_some, s_kI, s_addI, s_addS, s_neg, s_eqI, s_neI, s_eqS, s_neS, s_ixL, s_ixT, s_ixS, s_ixO, s_lenS, s_lenL, s_lenT, s_abs, s_intI, s_intB, s_max2, s_min2, s_itL, s_itT, s_itS, s_rng1, s_rng2, s_zipL, s_zipT, s_enL, s_seqL, s_seqT, s_minL, s_maxL, s_sum, s_isBl, s_fld, s_vNil, s_vCons, s_frzL, s_frzI, at0, at1, at2, at3, ix30, ix31, ix32, pT_cons, oT_cons, iT_cons, Option.map_some, s_none, s_put0, s_put, s_find, s_join, notInS_of, inS_of, eq_self]
  have e2 : ∀ {k : D → Prop}, kIx (wD w) (.int 2) k = k (.lst (w.c.map tL)) := fun {k} => by simp only [wD, wL, sNil, sCons, sIf, sAsg, sOwn, sFor, sRet, sRetN, sRetO, sRetNew, sExpr, sApp, sSetIx, sPass, DL.sFld, sNever, s_lk, sLcO, sLcV, eVar, eFrz, eC, eNew, eAnd, eOr, eNot, eIf, eOp, eNeg, eIsN, eNotN, eFld, eFldO, eIxO, eLenO, eTup, eB, eTuple, eFind, eJoin, eIsi, eCall, eCallT, eChain, nLst, nList, nComp, nCall, nCallT, nMake, nRep, nCat, nCatO, oNone, oSome, nSlice, bVal, bAnd, bOr, bNot, bOp, bChain, bIsN, bNotN, bYes, aNil, aCons, qNil, qVal, iSq, iR1, iR2, iZp, iEn, sPopAt, gNm, gTp, gConsD, gNilD, onMade, gt, ownAll, mkSl, wb, endsD, mrg, startD, kAdd, kSub, kMul, kMod, kDiv, kPow, kShr, kLt, kLe, kGt, kGe, isNon, br_decide, br_t, br_f, Bool.not_true, Bool.not_false, List.map_cons, List.map_nil, List.length_cons, List.length_nil, List.replicate, List.cons_append, List.nil_append, List.set_cons_zero, List.set_cons_succ, List.set_nil, wipeD, back, noOwn, true_and, and_true, List.length_map, List.reduceReplicate, Nat.reduceSub, Nat.reduceAdd, Int.reduceNeg, reduceCtorEq, if_true, if_false, Bool.true_eq_false, Bool.false_eq_true, ite_true, ite_false, s_onVal, s_onOwn, s_onLst, s_onIns, s_onL, s_onBl, s_some, s_kI, s_addI, s_addS, s_neg, s_eqI, s_neI, s_eqS, s_neS, s_ixL, s_ixT, s_ixS, s_ixO, s_lenS, s_lenL, s_lenT, s_abs, s_intI, s_intB, s_max2, s_min2, s_itL, s_itT, s_itS, s_rng1, s_rng2, s_zipL, s_zipT, s_enL, s_seqL, s_seqT, s_minL, s_maxL, s_sum, s_isBl, s_fld, s_vNil, s_vCons, s_frzL, s_frzI, at0, at1, at2, at3, ix30, ix31, ix32, pT_cons, oT_cons, iT_cons, Option.map_some, s_none, s_put0, s_put, s_find, s_join, notInS_of, inS_of, eq_self]
  have e3 : ∀ {k : D → Prop}, kIx (wD w) (.int 3) k = k (iL w.e) := fun {k} => by simp only [wD, wL, sNil, sCons, sIf, sAsg, sOwn, sFor, sRet, sRetN, sRetO, sRetNew, sExpr, sApp, sSetIx, sPass, DL.sFld, sNever, s_lk, sLcO, sLcV, eVar, eFrz, eC, eNew, eAnd, eOr, eNot, eIf, eOp, eNeg, eIsN, eNotN, eFld, eFldO, eIxO, eLenO, eTup, eB, eTuple, eFind, eJoin, eIsi, eCall, eCallT, eChain, nLst, nList, nComp, nCall, nCallT, nMake, nRep, nCat, nCatO, oNone, oSome, nSlice, bVal, bAnd, bOr, bNot, bOp, bChain, bIsN, bNotN, bYes, aNil, aCons, qNil, qVal, iSq, iR1, iR2, iZp, iEn, sPopAt, gNm, gTp, gConsD, gNilD, onMade, gt, ownAll, mkSl, wb, endsD, mrg, startD, kAdd, kSub, kMul, kMod, kDiv, kPow, kShr, kLt, kLe, kGt, kGe, isNon, br_decide, br_t, br_f, Bool.not_true, Bool.not_false, List.map_cons, List.map_nil, List.length_cons, List.length_nil, List.replicate, List.cons_append, List.nil_append, List.set_cons_zero, List.set_cons_succ, List.set_nil, wipeD, back, noOwn, true_and, and_true, List.length_map, List.reduceReplicate, Nat.reduceSub, Nat.reduceAdd, Int.reduceNeg, reduceCtorEq, if_true, if_false, Bool.true_eq_false, Bool.false_eq_true, ite_true, ite_false, s_onVal, s_onOwn, s_onLst, s_onIns, s_onL, s_onBl, s_some, s_kI, s_addI, s_addS, s_neg, s_eqI, s_neI, s_eqS, s_neS, s_ixL, s_ixT, s_ixS, s_ixO, s_lenS, s_lenL, s_lenT, s_abs, s_intI, s_intB, s_max2, s_min2, s_itL, s_itT, s_itS, s_rng1, s_rng2, s_zipL, s_zipT, s_enL, s_seqL, s_seqT, s_minL, s_maxL, s_sum, s_isBl, s_fld, s_vNil, s_vCons, s_frzL, s_frzI, at0, at1, at2, at3, ix30, ix31, ix32, pT_cons, oT_cons, iT_cons, Option.map_some, s_none, s_put0, s_put, s_find, s_join, notInS_of, inS_of, eq_self]
  have o1 : ∀ {k : D → Prop}, kIx (wD o) (.int 1) k = k (iL o.b) := fun {k} => by simp only [wD, wL, sNil, sCons, sIf, sAsg, sOwn, sFor, sRet, sRetN, sRetO, sRetNew, sExpr, sApp, sSetIx, sPass, DL.sFld, sNever, s_lk, sLcO, sLcV, eVar, eFrz, eC, eNew, eAnd, eOr, eNot, eIf, eOp, eNeg, eIsN, eNotN, eFld, eFldO, eIxO, eLenO, eTup, eB, eTuple, eFind, eJoin, eIsi, eCall, eCallT, eChain, nLst, nList, nComp, nCall, nCallT, nMake, nRep, nCat, nCatO, oNone, oSome, nSlice, bVal, bAnd, bOr, bNot, bOp, bChain, bIsN, bNotN, bYes, aNil, aCons, qNil, qVal, iSq, iR1, iR2, iZp, iEn, sPopAt, gNm, gTp, gConsD, gNilD, onMade, gt, ownAll, mkSl, wb, endsD, mrg, startD, kAdd, kSub, kMul, kMod, kDiv, kPow, kShr, kLt, kLe, kGt, kGe, isNon, br_decide, br_t, br_f, Bool.not_true, Bool.not_false, List.map_cons, List.map_nil, List.length_cons, List.length_nil, List.replicate, List.cons_append, List.nil_append, List.set_cons_zero, List.set_cons_succ, List.set_nil, wipeD, back, noOwn, true_and, and_true, List.length_map, List.reduceReplicate, Nat.reduceSub, Nat.reduceAdd, Int.reduceNeg, reduceCtorEq, if_true, if_false, Bool.true_eq_false, Bool.false_eq_true, ite_true, ite_false, s_onVal, s_onOwn, s_onLst, s_onIns, s_onL, s_onBl, s_some, s_kI, s_addI, s_addS, s_neg, s_eqI, s_neI, s_eqS, s_neS, s_ixL, s_ixT, s_ixS, s_ixO, s_lenS, s_lenL, s_lenT, s_abs, s_intI, s_intB, s_max2, s_min2, s_itL, s_itT, s_itS, s_rng1, s_rng2, s_zipL, s_zipT, s_enL, s_seqL, s_seqT, s_minL, s_maxL, s_sum, s_isBl, s_fld, s_vNil, s_vCons, s_frzL, s_frzI, at0, at1, at2, at3, ix30, ix31, ix32, pT_cons, oT_cons, iT_cons, Option.map_some, s_none, s_put0, s_put, s_find, s_join, notInS_of, inS_of, eq_self]
  have o2 : ∀ {k : D → Prop}, kIx (wD o) (.int 2) k = k (.lst (o.c.map tL)) := fun {k} => by simp only [wD, wL, sNil, sCons, sIf, sAsg, sOwn, sFor, sRet, sRetN, sRetO, sRetNew, sExpr, sApp, sSetIx, sPass, DL.sFld, sNever, s_lk, sLcO, sLcV, eVar, eFrz, eC, eNew, eAnd, eOr, eNot, eIf, eOp, eNeg, eIsN, eNotN, eFld, eFldO, eIxO, eLenO, eTup, eB, eTuple, eFind, eJoin, eIsi, eCall, eCallT, eChain, nLst, nList, nComp, nCall, nCallT, nMake, nRep, nCat, nCatO, oNone, oSome, nSlice, bVal, bAnd, bOr, bNot, bOp, bChain, bIsN, bNotN, bYes, aNil, aCons, qNil, qVal, iSq, iR1, iR2, iZp, iEn, sPopAt, gNm, gTp, gConsD, gNilD, onMade, gt, ownAll, mkSl, wb, endsD, mrg, startD, kAdd, kSub, kMul, kMod, kDiv, kPow, kShr, kLt, kLe, kGt, kGe, isNon, br_decide, br_t, br_f, Bool.not_true, Bool.not_false, List.map_cons, List.map_nil, List.length_cons, List.length_nil, List.replicate, List.cons_append, List.nil_append, List.set_cons_zero, List.set_cons_succ, List.set_nil, wipeD, back, noOwn, true_and, and_true, List.length_map, List.reduceReplicate, Nat.reduceSub, Nat.reduceAdd, Int.reduceNeg, reduceCtorEq, if_true, if_false, Bool.true_eq_false, Bool.false_eq_true, ite_true, ite_false, s_onVal, s_onOwn, s_onLst, s_onIns, s_onL, s_onBl, s_some, s_kI, s_addI, s_addS, s_neg, s_eqI, s_neI, s_eqS, s_neS, s_ixL, s_ixT, s_ixS, s_ixO, s_lenS, s_lenL, s_lenT, s_abs, s_intI, s_intB, s_max2, s_min2, s_itL, s_itT, s_itS, s_rng1, s_rng2, s_zipL, s_zipT, s_enL, s_seqL, s_seqT, s_minL, s_maxL, s_sum, s_isBl, s_fld, s_vNil, s_vCons, s_frzL, s_frzI, at0, at1, at2, at3, ix30, ix31, ix32, pT_cons, oT_cons, iT_cons, Option.map_some, s_none, s_put0, s_put, s_find, s_join, notInS_of, inS_of, eq_self]
  have o3 : ∀ {k : D → Prop}, kIx (wD o) (.int 3) k = k (iL o.e) := fun {k} => by simp only [wD, wL, sNil, sCons, sIf, sAsg, sOwn, sFor, sRet, sRetN, sRetO, sRetNew, sExpr, sApp, sSetIx, sPass, DL.sFld, sNever, s_lk, sLcO, sLcV, eVar, eFrz, eC, eNew, eAnd, eOr, eNot, eIf, eOp, eNeg, eIsN, eNotN, eFld, eFldO, eIxO, eLenO, eTup, eB, eTuple, eFind, eJoin, eIsi, eCall, eCallT, eChain, nLst, nList, nComp, nCall, nCallT, nMake, nRep, nCat, nCatO, oNone, oSome, nSlice, bVal, bAnd, bOr, bNot, bOp, bChain, bIsN, bNotN, bYes, aNil, aCons, qNil, qVal, iSq, iR1, iR2, iZp, iEn, sPopAt, gNm, gTp, gConsD, gNilD, onMade, gt, ownAll, mkSl, wb, endsD, mrg, startD, kAdd, kSub, kMul, kMod, kDiv, kPow, kShr, kLt, kLe, kGt, kGe, isNon, br_decide, br_t, br_f, Bool.not_true, Bool.not_false, List.map_cons, List.map_nil, List.length_cons, List.length_nil, List.replicate, List.cons_append, List.nil_append, List.set_cons_zero, List.set_cons_succ, List.set_nil, wipeD, back, noOwn, true_and, and_true, List.length_map, List.reduceReplicate, Nat.reduceSub, Nat.reduceAdd, Int.reduceNeg, reduceCtorEq, if_true, if_false, Bool.true_eq_false, Bool.false_eq_true, ite_true, ite_false, s_onVal, s_onOwn, s_onLst, s_onIns, s_onL, s_onBl, s_some, s_kI, s_addI, s_addS, s_neg, s_eqI, s_neI, s_eqS, s_neS, s_ixL, s_ixT, s_ixS, s_ixO, s_lenS, s_lenL, s_lenT, s_abs, s_intI, s_intB, s_max2, s_min2, s_itL, s_itT, s_itS, s_rng1, s_rng2, s_zipL, s_zipT, s_enL, s_seqL, s_seqT, s_minL, s_maxL, s_sum, s_isBl, s_fld, s_vNil, s_vCons, s_frzL, s_frzI, at0, at1, at2, at3, ix30, ix31, ix32, pT_cons, oT_cons, iT_cons, Option.map_some, s_none, s_put0, s_put, s_find, s_join, notInS_of, inS_of, eq_self]
  have lb : ∀ {k : D → Prop}, kLen [iL w.b] k = k (.int m) := fun {k} => by simp only [iL, hw.b, sNil, sCons, sIf, sAsg, sOwn, sFor, sRet, sRetN, sRetO, sRetNew, sExpr, sApp, sSetIx, sPass, DL.sFld, sNever, s_lk, sLcO, sLcV, eVar, eFrz, eC, eNew, eAnd, eOr, eNot, eIf, eOp, eNeg, eIsN, eNotN, eFld, eFldO, eIxO, eLenO, eTup, eB, eTuple, eFind, eJoin, eIsi, eCall, eCallT, eChain, nLst, nList, nComp, nCall, nCallT, nMake, nRep, nCat, nCatO, oNone, oSome, nSlice, bVal, bAnd, bOr, bNot, bOp, bChain, bIsN, bNotN, bYes, aNil, aCons, qNil, qVal, iSq, iR1, iR2, iZp, iEn, sPopAt, gNm, gTp, gConsD, gNilD, onMade, gt, ownAll, mkSl, wb, endsD, mrg, startD, kAdd, kSub, kMul, kMod, kDiv, kPow, kShr, kLt, kLe, kGt, kGe, isNon, br_decide, br_t, br_f, Bool.not_true, Bool.not_false, List.map_cons, List.map_nil, List.length_cons, List.length_nil, List.replicate, List.cons_append, List.nil_append, List.set_cons_zero, List.set_cons_succ, List.set_nil, wipeD, back, noOwn, true_and, and_true, List.length_map, List.reduceReplicate, Nat.reduceSub, Nat.reduceAdd, Int.reduceNeg, reduceCtorEq, if_true, if_false, Bool.true_eq_false, Bool.false_eq_true, ite_true, ite_false, s_onVal, s_onOwn, s_onLst, s_onIns, s_onL, s_onBl, s_some, s_kI, s_addI, s_addS, s_neg, s_eqI, s_neI, s_eqS, s_neS, s_ixL, s_ixT, s_ixS, s_ixO, s_lenS, s_lenL, s_lenT, s_abs, s_intI, s_intB, s_max2, s_min2, s_itL, s_itT, s_itS, s_rng1, s_rng2, s_zipL, s_zipT, s_enL, s_seqL, s_seqT, s_minL, s_maxL, s_sum, s_isBl, s_fld, s_vNil, s_vCons, s_frzL, s_frzI, at0, at1, at2, at3, ix30, ix31, ix32, pT_cons, oT_cons, iT_cons, Option.map_some, s_none, s_put0, s_put, s_find, s_join, notInS_of, inS_of, eq_self]
  have lo : ∀ {k : D → Prop}, kLen [iL o.b] k = k (.int n) := fun {k} => by simp only [iL, ho.b, sNil, sCons, sIf, sAsg, sOwn, sFor, sRet, sRetN, sRetO, sRetNew, sExpr, sApp, sSetIx, sPass, DL.sFld, sNever, s_lk, sLcO, sLcV, eVar, eFrz, eC, eNew, eAnd, eOr, eNot, eIf, eOp, eNeg, eIsN, eNotN, eFld, eFldO, eIxO, eLenO, eTup, eB, eTuple, eFind, eJoin, eIsi, eCall, eCallT, eChain, nLst, nList, nComp, nCall, nCallT, nMake, nRep, nCat, nCatO, oNone, oSome, nSlice, bVal, bAnd, bOr, bNot, bOp, bChain, bIsN, bNotN, bYes, aNil, aCons, qNil, qVal, iSq, iR1, iR2, iZp, iEn, sPopAt, gNm, gTp, gConsD, gNilD, onMade, gt, ownAll, mkSl, wb, endsD, mrg, startD, kAdd, kSub, kMul, kMod, kDiv, kPow, kShr, kLt, kLe, kGt, kGe, isNon, br_decide, br_t, br_f, Bool.not_true, Bool.not_false, List.map_cons, List.map_nil, List.length_cons, List.length_nil, List.replicate, List.cons_append, List.nil_append, List.set_cons_zero, List.set_cons_succ, List.set_nil, wipeD, back, noOwn, true_and, and_true, List.length_map, List.reduceReplicate, Nat.reduceSub, Nat.reduceAdd, Int.reduceNeg, reduceCtorEq, if_true, if_false, Bool.true_eq_false, Bool.false_eq_true, ite_true, ite_false, s_onVal, s_onOwn, s_onLst, s_onIns, s_onL, s_onBl, s_some, s_kI, s_addI, s_addS, s_neg, s_eqI, s_neI, s_eqS, s_neS, s_ixL, s_ixT, s_ixS, s_ixO, s_lenS, s_lenL, s_lenT, s_abs, s_intI, s_intB, s_max2, s_min2, s_itL, s_itT, s_itS, s_rng1, s_rng2, s_zipL, s_zipT, s_enL, s_seqL, s_seqT, s_minL, s_maxL, s_sum, s_isBl, s_fld, s_vNil, s_vCons, s_frzL, s_frzI, at0, at1, at2, at3, ix30, ix31, ix32, pT_cons, oT_cons, iT_cons, Option.map_some, s_none, s_put0, s_put, s_find, s_join, notInS_of, inS_of, eq_self]
  simp only [e1, lb, sNil, sCons, sIf, sAsg, sOwn, sFor, sRet, sRetN, sRetO, sRetNew, sExpr, sApp, sSetIx, sPass, DL.sFld, sNever, s_lk, sLcO, sLcV, eVar, eFrz, eC, eNew, eAnd, eOr, eNot, eIf, eOp, eNeg, eIsN, eNotN, eFld, eFldO, eIxO, eLenO, eTup, eB, eTuple, eFind, eJoin, eIsi, eCall, eCallT, eChain, nLst, nList, nComp, nCall, nCallT, nMake, nRep, nCat, nCatO, oNone, oSome, nSlice, bVal, bAnd, bOr, bNot, bOp, bChain, bIsN, bNotN, bYes, aNil, aCons, qNil, qVal, iSq, iR1, iR2, iZp, iEn, sPopAt, gNm, gTp, gConsD, gNilD, onMade, gt, ownAll, mkSl, wb, endsD, mrg, startD, kAdd, kSub, kMul, kMod, kDiv, kPow, kShr, kLt, kLe, kGt, kGe, isNon, br_decide, br_t, br_f, Bool.not_true, Bool.not_false, List.map_cons, List.map_nil, List.length_cons, List.length_nil, List.replicate, List.cons_append, List.nil_append, List.set_cons_zero, List.set_cons_succ, List.set_nil, wipeD, back, noOwn, true_and, and_true, List.length_map, List.reduceReplicate, Nat.reduceSub, Nat.reduceAdd, Int.reduceNeg, reduceCtorEq, if_true, if_false, Bool.true_eq_false, Bool.false_eq_true, ite_true, ite_false, s_onVal, s_onOwn, s_onLst, s_onIns, s_onL, s_onBl, s_some, s_kI, s_addI, s_addS, s_neg, s_eqI, s_neI, s_eqS, s_neS, s_ixL, s_ixT, s_ixS, s_ixO, s_lenS, s_lenL, s_lenT, s_abs, s_intI, s_intB, s_max2, s_min2, s_itL, s_itT, s_itS, s_rng1, s_rng2, s_zipL, s_zipT, s_enL, s_seqL, s_seqT, s_minL, s_maxL, s_sum, s_isBl, s_fld, s_vNil, s_vCons, s_frzL, s_frzI, at0, at1, at2, at3, ix30, ix31, ix32, pT_cons, oT_cons, iT_cons, Option.map_some, s_none, s_put0, s_put, s_find, s_join, notInS_of, inS_of, eq_self]
  have no : (¬ ∃ ps, IsFold m n f ps) → Q (.val (.bl false)) [.val (wD w), .val (wD o), .val f] := fun hn => h false ⟨fun z => by simp at z, fun ⟨ps, a, _⟩ => (hn ⟨ps, a⟩).elim⟩
  have bad : ∀ {f : D}, isSeq f = some false → ¬ ∃ ps, IsFold m n f ps := fun hs ⟨ps, _, ds, e, _⟩ => by rcases e with rfl | rfl <;> simp [isSeq] at hs
  rcases hf with ⟨i, rfl⟩ | rfl | ⟨s, rfl⟩ | ⟨ds, rfl, hd⟩ | ⟨rfl, h0⟩
  · simp only [isSeq, sNil, sCons, sIf, sAsg, sOwn, sFor, sRet, sRetN, sRetO, sRetNew, sExpr, sApp, sSetIx, sPass, DL.sFld, sNever, s_lk, sLcO, sLcV, eVar, eFrz, eC, eNew, eAnd, eOr, eNot, eIf, eOp, eNeg, eIsN, eNotN, eFld, eFldO, eIxO, eLenO, eTup, eB, eTuple, eFind, eJoin, eIsi, eCall, eCallT, eChain, nLst, nList, nComp, nCall, nCallT, nMake, nRep, nCat, nCatO, oNone, oSome, nSlice, bVal, bAnd, bOr, bNot, bOp, bChain, bIsN, bNotN, bYes, aNil, aCons, qNil, qVal, iSq, iR1, iR2, iZp, iEn, sPopAt, gNm, gTp, gConsD, gNilD, onMade, gt, ownAll, mkSl, wb, endsD, mrg, startD, kAdd, kSub, kMul, kMod, kDiv, kPow, kShr, kLt, kLe, kGt, kGe, isNon, br_decide, br_t, br_f, Bool.not_true, Bool.not_false, List.map_cons, List.map_nil, List.length_cons, List.length_nil, List.replicate, List.cons_append, List.nil_append, List.set_cons_zero, List.set_cons_succ, List.set_nil, wipeD, back, noOwn, true_and, and_true, List.length_map, List.reduceReplicate, Nat.reduceSub, Nat.reduceAdd, Int.reduceNeg, reduceCtorEq, if_true, if_false, Bool.true_eq_false, Bool.false_eq_true, ite_true, ite_false, s_onVal, s_onOwn, s_onLst, s_onIns, s_onL, s_onBl, s_some, s_kI, s_addI, s_addS, s_neg, s_eqI, s_neI, s_eqS, s_neS, s_ixL, s_ixT, s_ixS, s_ixO, s_lenS, s_lenL, s_lenT, s_abs, s_intI, s_intB, s_max2, s_min2, s_itL, s_itT, s_itS, s_rng1, s_rng2, s_zipL, s_zipT, s_enL, s_seqL, s_seqT, s_minL, s_maxL, s_sum, s_isBl, s_fld, s_vNil, s_vCons, s_frzL, s_frzI, at0, at1, at2, at3, ix30, ix31, ix32, pT_cons, oT_cons, iT_cons, Option.map_some, s_none, s_put0, s_put, s_find, s_join, notInS_of, inS_of, eq_self]
    exact no (bad rfl)
  · simp only [isSeq, sNil, sCons, sIf, sAsg, sOwn, sFor, sRet, sRetN, sRetO, sRetNew, sExpr, sApp, sSetIx, sPass, DL.sFld, sNever, s_lk, sLcO, sLcV, eVar, eFrz, eC, eNew, eAnd, eOr, eNot, eIf, eOp, eNeg, eIsN, eNotN, eFld, eFldO, eIxO, eLenO, eTup, eB, eTuple, eFind, eJoin, eIsi, eCall, eCallT, eChain, nLst, nList, nComp, nCall, nCallT, nMake, nRep, nCat, nCatO, oNone, oSome, nSlice, bVal, bAnd, bOr, bNot, bOp, bChain, bIsN, bNotN, bYes, aNil, aCons, qNil, qVal, iSq, iR1, iR2, iZp, iEn, sPopAt, gNm, gTp, gConsD, gNilD, onMade, gt, ownAll, mkSl, wb, endsD, mrg, startD, kAdd, kSub, kMul, kMod, kDiv, kPow, kShr, kLt, kLe, kGt, kGe, isNon, br_decide, br_t, br_f, Bool.not_true, Bool.not_false, List.map_cons, List.map_nil, List.length_cons, List.length_nil, List.replicate, List.cons_append, List.nil_append, List.set_cons_zero, List.set_cons_succ, List.set_nil, wipeD, back, noOwn, true_and, and_true, List.length_map, List.reduceReplicate, Nat.reduceSub, Nat.reduceAdd, Int.reduceNeg, reduceCtorEq, if_true, if_false, Bool.true_eq_false, Bool.false_eq_true, ite_true, ite_false, s_onVal, s_onOwn, s_onLst, s_onIns, s_onL, s_onBl, s_some, s_kI, s_addI, s_addS, s_neg, s_eqI, s_neI, s_eqS, s_neS, s_ixL, s_ixT, s_ixS, s_ixO, s_lenS, s_lenL, s_lenT, s_abs, s_intI, s_intB, s_max2, s_min2, s_itL, s_itT, s_itS, s_rng1, s_rng2, s_zipL, s_zipT, s_enL, s_seqL, s_seqT, s_minL, s_maxL, s_sum, s_isBl, s_fld, s_vNil, s_vCons, s_frzL, s_frzI, at0, at1, at2, at3, ix30, ix31, ix32, pT_cons, oT_cons, iT_cons, Option.map_some, s_none, s_put0, s_put, s_find, s_join, notInS_of, inS_of, eq_self]
    exact no (bad rfl)
  · simp only [isSeq, sNil, sCons, sIf, sAsg, sOwn, sFor, sRet, sRetN, sRetO, sRetNew, sExpr, sApp, sSetIx, sPass, DL.sFld, sNever, s_lk, sLcO, sLcV, eVar, eFrz, eC, eNew, eAnd, eOr, eNot, eIf, eOp, eNeg, eIsN, eNotN, eFld, eFldO, eIxO, eLenO, eTup, eB, eTuple, eFind, eJoin, eIsi, eCall, eCallT, eChain, nLst, nList, nComp, nCall, nCallT, nMake, nRep, nCat, nCatO, oNone, oSome, nSlice, bVal, bAnd, bOr, bNot, bOp, bChain, bIsN, bNotN, bYes, aNil, aCons, qNil, qVal, iSq, iR1, iR2, iZp, iEn, sPopAt, gNm, gTp, gConsD, gNilD, onMade, gt, ownAll, mkSl, wb, endsD, mrg, startD, kAdd, kSub, kMul, kMod, kDiv, kPow, kShr, kLt, kLe, kGt, kGe, isNon, br_decide, br_t, br_f, Bool.not_true, Bool.not_false, List.map_cons, List.map_nil, List.length_cons, List.length_nil, List.replicate, List.cons_append, List.nil_append, List.set_cons_zero, List.set_cons_succ, List.set_nil, wipeD, back, noOwn, true_and, and_true, List.length_map, List.reduceReplicate, Nat.reduceSub, Nat.reduceAdd, Int.reduceNeg, reduceCtorEq, if_true, if_false, Bool.true_eq_false, Bool.false_eq_true, ite_true, ite_false, s_onVal, s_onOwn, s_onLst, s_onIns, s_onL, s_onBl, s_some, s_kI, s_addI, s_addS, s_neg, s_eqI, s_neI, s_eqS, s_neS, s_ixL, s_ixT, s_ixS, s_ixO, s_lenS, s_lenL, s_lenT, s_abs, s_intI, s_intB, s_max2, s_min2, s_itL, s_itT, s_itS, s_rng1, s_rng2, s_zipL, s_zipT, s_enL, s_seqL, s_seqT, s_minL, s_maxL, s_sum, s_isBl, s_fld, s_vNil, s_vCons, s_frzL, s_frzI, at0, at1, at2, at3, ix30, ix31, ix32, pT_cons, oT_cons, iT_cons, Option.map_some, s_none, s_put0, s_put, s_find, s_join, notInS_of, inS_of, eq_self]
    exact no (bad rfl)
  rotate_left
  · simp only [isSeq, sNil, sCons, sIf, sAsg, sOwn, sFor, sRet, sRetN, sRetO, sRetNew, sExpr, sApp, sSetIx, sPass, DL.sFld, sNever, s_lk, sLcO, sLcV, eVar, eFrz, eC, eNew, eAnd, eOr, eNot, eIf, eOp, eNeg, eIsN, eNotN, eFld, eFldO, eIxO, eLenO, eTup, eB, eTuple, eFind, eJoin, eIsi, eCall, eCallT, eChain, nLst, nList, nComp, nCall, nCallT, nMake, nRep, nCat, nCatO, oNone, oSome, nSlice, bVal, bAnd, bOr, bNot, bOp, bChain, bIsN, bNotN, bYes, aNil, aCons, qNil, qVal, iSq, iR1, iR2, iZp, iEn, sPopAt, gNm, gTp, gConsD, gNilD, onMade, gt, ownAll, mkSl, wb, endsD, mrg, startD, kAdd, kSub, kMul, kMod, kDiv, kPow, kShr, kLt, kLe, kGt, kGe, isNon, br_decide, br_t, br_f, Bool.not_true, Bool.not_false, List.map_cons, List.map_nil, List.length_cons, List.length_nil, List.replicate, List.cons_append, List.nil_append, List.set_cons_zero, List.set_cons_succ, List.set_nil, wipeD, back, noOwn, true_and, and_true, List.length_map, List.reduceReplicate, Nat.reduceSub, Nat.reduceAdd, Int.reduceNeg, reduceCtorEq, if_true, if_false, Bool.true_eq_false, Bool.false_eq_true, ite_true, ite_false, s_onVal, s_onOwn, s_onLst, s_onIns, s_onL, s_onBl, s_some, s_kI, s_addI, s_addS, s_neg, s_eqI, s_neI, s_eqS, s_neS, s_ixL, s_ixT, s_ixS, s_ixO, s_lenS, s_lenL, s_lenT, s_abs, s_intI, s_intB, s_max2, s_min2, s_itL, s_itT, s_itS, s_rng1, s_rng2, s_zipL, s_zipT, s_enL, s_seqL, s_seqT, s_minL, s_maxL, s_sum, s_isBl, s_fld, s_vNil, s_vCons, s_frzL, s_frzI, at0, at1, at2, at3, ix30, ix31, ix32, pT_cons, oT_cons, iT_cons, Option.map_some, s_none, s_put0, s_put, s_find, s_join, notInS_of, inS_of, eq_self]
    refine br_pq (fun _ => no fun ⟨ps, e, ds, q, a⟩ => ?_) fun z => ?_
    · rcases q with q | q <;> simp at q
      subst q
      cases a
      simp at e
      exact h0 e.symm
    · simp at z; omega
  simp only [isSeq, sNil, sCons, sIf, sAsg, sOwn, sFor, sRet, sRetN, sRetO, sRetNew, sExpr, sApp, sSetIx, sPass, DL.sFld, sNever, s_lk, sLcO, sLcV, eVar, eFrz, eC, eNew, eAnd, eOr, eNot, eIf, eOp, eNeg, eIsN, eNotN, eFld, eFldO, eIxO, eLenO, eTup, eB, eTuple, eFind, eJoin, eIsi, eCall, eCallT, eChain, nLst, nList, nComp, nCall, nCallT, nMake, nRep, nCat, nCatO, oNone, oSome, nSlice, bVal, bAnd, bOr, bNot, bOp, bChain, bIsN, bNotN, bYes, aNil, aCons, qNil, qVal, iSq, iR1, iR2, iZp, iEn, sPopAt, gNm, gTp, gConsD, gNilD, onMade, gt, ownAll, mkSl, wb, endsD, mrg, startD, kAdd, kSub, kMul, kMod, kDiv, kPow, kShr, kLt, kLe, kGt, kGe, isNon, br_decide, br_t, br_f, Bool.not_true, Bool.not_false, List.map_cons, List.map_nil, List.length_cons, List.length_nil, List.replicate, List.cons_append, List.nil_append, List.set_cons_zero, List.set_cons_succ, List.set_nil, wipeD, back, noOwn, true_and, and_true, List.length_map, List.reduceReplicate, Nat.reduceSub, Nat.reduceAdd, Int.reduceNeg, reduceCtorEq, if_true, if_false, Bool.true_eq_false, Bool.false_eq_true, ite_true, ite_false, s_onVal, s_onOwn, s_onLst, s_onIns, s_onL, s_onBl, s_some, s_kI, s_addI, s_addS, s_neg, s_eqI, s_neI, s_eqS, s_neS, s_ixL, s_ixT, s_ixS, s_ixO, s_lenS, s_lenL, s_lenT, s_abs, s_intI, s_intB, s_max2, s_min2, s_itL, s_itT, s_itS, s_rng1, s_rng2, s_zipL, s_zipT, s_enL, s_seqL, s_seqT, s_minL, s_maxL, s_sum, s_isBl, s_fld, s_vNil, s_vCons, s_frzL, s_frzI, at0, at1, at2, at3, ix30, ix31, ix32, pT_cons, oT_cons, iT_cons, Option.map_some, s_none, s_put0, s_put, s_find, s_join, notInS_of, inS_of, eq_self]
  refine br_pq (fun z => no fun ⟨ps, e, ds', q, a⟩ => ?_) fun z => ?_
  · rcases q with q | q <;> simp at q
    subst q
    simp only [Bool.not_eq_true', decide_eq_false_iff_not] at z
    rw [a.length] at z; omega
  have hlen : ds.length = m := by simp at z; omega
  refine forL_ix (fun ρ => ∃ x, ρ = [.val (wD w), .val (wD o), .val (.lst ds), .val (.int m), x, .un, .un, .un, .un, .un, .un]) (fun i => ∃ d p, ds[i]? = some d ∧ IsPair n d p) _ _ (fun i d hi ρ ⟨x, e⟩ nx h1 h2 => ?_) (fun hall ρ ⟨x, e⟩ => ?_) (fun ⟨i, hi, hnot⟩ ρ ⟨x, e⟩ => ?_) ⟨_, rfl⟩
  · subst e
    unfold m__law_right_4
    have hp := hd d (List.mem_of_getElem? hi)
    have h2' : (¬ ∃ p, IsPair n d p) → Q (.val (.bl false)) [.val (wD w), .val (wD o), .val (.lst ds)] := fun hn => h2 (fun ⟨d', p, e, q⟩ => by rw [hi] at e; cases e; exact hn ⟨p, q⟩) _ ⟨.un, rfl⟩
    have h1' : (∃ p, IsPair n d p) → nx [.val (wD w), .val (wD o), .val (.lst ds), .val (.int m), .val d, .un, .un, .un, .un, .un, .un] := fun ⟨p, hn⟩ => h1 ⟨d, p, hi, hn⟩ _ ⟨_, rfl⟩
    rcases hp with hp | ⟨es, he, hfl⟩
    · simp only [flat_seq hp, sNil, sCons, sIf, sAsg, sOwn, sFor, sRet, sRetN, sRetO, sRetNew, sExpr, sApp, sSetIx, sPass, DL.sFld, sNever, s_lk, sLcO, sLcV, eVar, eFrz, eC, eNew, eAnd, eOr, eNot, eIf, eOp, eNeg, eIsN, eNotN, eFld, eFldO, eIxO, eLenO, eTup, eB, eTuple, eFind, eJoin, eIsi, eCall, eCallT, eChain, nLst, nList, nComp, nCall, nCallT, nMake, nRep, nCat, nCatO, oNone, oSome, nSlice, bVal, bAnd, bOr, bNot, bOp, bChain, bIsN, bNotN, bYes, aNil, aCons, qNil, qVal, iSq, iR1, iR2, iZp, iEn, sPopAt, gNm, gTp, gConsD, gNilD, onMade, gt, ownAll, mkSl, wb, endsD, mrg, startD, kAdd, kSub, kMul, kMod, kDiv, kPow, kShr, kLt, kLe, kGt, kGe, isNon, br_decide, br_t, br_f, Bool.not_true, Bool.not_false, List.map_cons, List.map_nil, List.length_cons, List.length_nil, List.replicate, List.cons_append, List.nil_append, List.set_cons_zero, List.set_cons_succ, List.set_nil, wipeD, back, noOwn, true_and, and_true, List.length_map, List.reduceReplicate, Nat.reduceSub, Nat.reduceAdd, Int.reduceNeg, reduceCtorEq, if_true, if_false, Bool.true_eq_false, Bool.false_eq_true, ite_true, ite_false, s_onVal, s_onOwn, s_onLst, s_onIns, s_onL, s_onBl, s_some, s_kI, s_addI, s_addS, s_neg, s_eqI, s_neI, s_eqS, s_neS, s_ixL, s_ixT, s_ixS, s_ixO, s_lenS, s_lenL, s_lenT, s_abs, s_intI, s_intB, s_max2, s_min2, s_itL, s_itT, s_itS, s_rng1, s_rng2, s_zipL, s_zipT, s_enL, s_seqL, s_seqT, s_minL, s_maxL, s_sum, s_isBl, s_fld, s_vNil, s_vCons, s_frzL, s_frzI, at0, at1, at2, at3, ix30, ix31, ix32, pT_cons, oT_cons, iT_cons, Option.map_some, s_none, s_put0, s_put, s_find, s_join, notInS_of, inS_of, eq_self]
      exact h2' fun ⟨p, q, _⟩ => by rcases q with rfl | rfl <;> simp [Flat] at hp
    · have sq : isSeq d = some true := by rcases he with rfl | rfl <;> rfl
      have ln : ∀ {k : D → Prop}, kLen [d] k = k (.int es.length) := fun {k} => by rcases he with rfl | rfl <;> rfl
      simp only [sq, ln, sNil, sCons, sIf, sAsg, sOwn, sFor, sRet, sRetN, sRetO, sRetNew, sExpr, sApp, sSetIx, sPass, DL.sFld, sNever, s_lk, sLcO, sLcV, eVar, eFrz, eC, eNew, eAnd, eOr, eNot, eIf, eOp, eNeg, eIsN, eNotN, eFld, eFldO, eIxO, eLenO, eTup, eB, eTuple, eFind, eJoin, eIsi, eCall, eCallT, eChain, nLst, nList, nComp, nCall, nCallT, nMake, nRep, nCat, nCatO, oNone, oSome, nSlice, bVal, bAnd, bOr, bNot, bOp, bChain, bIsN, bNotN, bYes, aNil, aCons, qNil, qVal, iSq, iR1, iR2, iZp, iEn, sPopAt, gNm, gTp, gConsD, gNilD, onMade, gt, ownAll, mkSl, wb, endsD, mrg, startD, kAdd, kSub, kMul, kMod, kDiv, kPow, kShr, kLt, kLe, kGt, kGe, isNon, br_decide, br_t, br_f, Bool.not_true, Bool.not_false, List.map_cons, List.map_nil, List.length_cons, List.length_nil, List.replicate, List.cons_append, List.nil_append, List.set_cons_zero, List.set_cons_succ, List.set_nil, wipeD, back, noOwn, true_and, and_true, List.length_map, List.reduceReplicate, Nat.reduceSub, Nat.reduceAdd, Int.reduceNeg, reduceCtorEq, if_true, if_false, Bool.true_eq_false, Bool.false_eq_true, ite_true, ite_false, s_onVal, s_onOwn, s_onLst, s_onIns, s_onL, s_onBl, s_some, s_kI, s_addI, s_addS, s_neg, s_eqI, s_neI, s_eqS, s_neS, s_ixL, s_ixT, s_ixS, s_ixO, s_lenS, s_lenL, s_lenT, s_abs, s_intI, s_intB, s_max2, s_min2, s_itL, s_itT, s_itS, s_rng1, s_rng2, s_zipL, s_zipT, s_enL, s_seqL, s_seqT, s_minL, s_maxL, s_sum, s_isBl, s_fld, s_vNil, s_vCons, s_frzL, s_frzI, at0, at1, at2, at3, ix30, ix31, ix32, pT_cons, oT_cons, iT_cons, Option.map_some, s_none, s_put0, s_put, s_find, s_join, notInS_of, inS_of, eq_self]
      refine br_pq (fun z => h2' fun ⟨p, q, _⟩ => ?_) fun z => ?_
      · rcases he with rfl | rfl <;> rcases q with q | q <;> simp at q <;> subst q <;> simp at z
      · have z2 : es.length = 2 := by simp at z; omega
        obtain ⟨x, y, rfl⟩ : ∃ x y, es = [x, y] := by
          match es, z2 with
          | [x, y], _ => exact ⟨x, y, rfl⟩
        have i0 : ∀ {k : D → Prop}, kIx d (.int 0) k = k x := fun {k} => by rcases he with rfl | rfl <;> simp only [sNil, sCons, sIf, sAsg, sOwn, sFor, sRet, sRetN, sRetO, sRetNew, sExpr, sApp, sSetIx, sPass, DL.sFld, sNever, s_lk, sLcO, sLcV, eVar, eFrz, eC, eNew, eAnd, eOr, eNot, eIf, eOp, eNeg, eIsN, eNotN, eFld, eFldO, eIxO, eLenO, eTup, eB, eTuple, eFind, eJoin, eIsi, eCall, eCallT, eChain, nLst, nList, nComp, nCall, nCallT, nMake, nRep, nCat, nCatO, oNone, oSome, nSlice, bVal, bAnd, bOr, bNot, bOp, bChain, bIsN, bNotN, bYes, aNil, aCons, qNil, qVal, iSq, iR1, iR2, iZp, iEn, sPopAt, gNm, gTp, gConsD, gNilD, onMade, gt, ownAll, mkSl, wb, endsD, mrg, startD, kAdd, kSub, kMul, kMod, kDiv, kPow, kShr, kLt, kLe, kGt, kGe, isNon, br_decide, br_t, br_f, Bool.not_true, Bool.not_false, List.map_cons, List.map_nil, List.length_cons, List.length_nil, List.replicate, List.cons_append, List.nil_append, List.set_cons_zero, List.set_cons_succ, List.set_nil, wipeD, back, noOwn, true_and, and_true, List.length_map, List.reduceReplicate, Nat.reduceSub, Nat.reduceAdd, Int.reduceNeg, reduceCtorEq, if_true, if_false, Bool.true_eq_false, Bool.false_eq_true, ite_true, ite_false, s_onVal, s_onOwn, s_onLst, s_onIns, s_onL, s_onBl, s_some, s_kI, s_addI, s_addS, s_neg, s_eqI, s_neI, s_eqS, s_neS, s_ixL, s_ixT, s_ixS, s_ixO, s_lenS, s_lenL, s_lenT, s_abs, s_intI, s_intB, s_max2, s_min2, s_itL, s_itT, s_itS, s_rng1, s_rng2, s_zipL, s_zipT, s_enL, s_seqL, s_seqT, s_minL, s_maxL, s_sum, s_isBl, s_fld, s_vNil, s_vCons, s_frzL, s_frzI, at0, at1, at2, at3, ix30, ix31, ix32, pT_cons, oT_cons, iT_cons, Option.map_some, s_none, s_put0, s_put, s_find, s_join, notInS_of, inS_of, eq_self]
        have i1 : ∀ {k : D → Prop}, kIx d (.int 1) k = k y := fun {k} => by rcases he with rfl | rfl <;> simp only [sNil, sCons, sIf, sAsg, sOwn, sFor, sRet, sRetN, sRetO, sRetNew, sExpr, sApp, sSetIx, sPass, DL.sFld, sNever, s_lk, sLcO, sLcV, eVar, eFrz, eC, eNew, eAnd, eOr, eNot, eIf, eOp, eNeg, eIsN, eNotN, eFld, eFldO, eIxO, eLenO, eTup, eB, eTuple, eFind, eJoin, eIsi, eCall, eCallT, eChain, nLst, nList, nComp, nCall, nCallT, nMake, nRep, nCat, nCatO, oNone, oSome, nSlice, bVal, bAnd, bOr, bNot, bOp, bChain, bIsN, bNotN, bYes, aNil, aCons, qNil, qVal, iSq, iR1, iR2, iZp, iEn, sPopAt, gNm, gTp, gConsD, gNilD, onMade, gt, ownAll, mkSl, wb, endsD, mrg, startD, kAdd, kSub, kMul, kMod, kDiv, kPow, kShr, kLt, kLe, kGt, kGe, isNon, br_decide, br_t, br_f, Bool.not_true, Bool.not_false, List.map_cons, List.map_nil, List.length_cons, List.length_nil, List.replicate, List.cons_append, List.nil_append, List.set_cons_zero, List.set_cons_succ, List.set_nil, wipeD, back, noOwn, true_and, and_true, List.length_map, List.reduceReplicate, Nat.reduceSub, Nat.reduceAdd, Int.reduceNeg, reduceCtorEq, if_true, if_false, Bool.true_eq_false, Bool.false_eq_true, ite_true, ite_false, s_onVal, s_onOwn, s_onLst, s_onIns, s_onL, s_onBl, s_some, s_kI, s_addI, s_addS, s_neg, s_eqI, s_neI, s_eqS, s_neS, s_ixL, s_ixT, s_ixS, s_ixO, s_lenS, s_lenL, s_lenT, s_abs, s_intI, s_intB, s_max2, s_min2, s_itL, s_itT, s_itS, s_rng1, s_rng2, s_zipL, s_zipT, s_enL, s_seqL, s_seqT, s_minL, s_maxL, s_sum, s_isBl, s_fld, s_vNil, s_vCons, s_frzL, s_frzI, at0, at1, at2, at3, ix30, ix31, ix32, pT_cons, oT_cons, iT_cons, Option.map_some, s_none, s_put0, s_put, s_find, s_join, notInS_of, inS_of, eq_self]
        obtain ⟨b1, hb1⟩ := flat_num (hfl x (by simp))
        obtain ⟨b2, hb2⟩ := flat_num (hfl y (by simp))
        have isp : ∀ p, IsPair n d p → x = .int p.1 ∧ y = .int p.2 := fun p ⟨q, _⟩ => by rcases he with rfl | rfl <;> rcases q with q | q <;> simp at q <;> exact q
        simp only [T__law_is_int, hb1, hb2, i0, i1, sNil, sCons, sIf, sAsg, sOwn, sFor, sRet, sRetN, sRetO, sRetNew, sExpr, sApp, sSetIx, sPass, DL.sFld, sNever, s_lk, sLcO, sLcV, eVar, eFrz, eC, eNew, eAnd, eOr, eNot, eIf, eOp, eNeg, eIsN, eNotN, eFld, eFldO, eIxO, eLenO, eTup, eB, eTuple, eFind, eJoin, eIsi, eCall, eCallT, eChain, nLst, nList, nComp, nCall, nCallT, nMake, nRep, nCat, nCatO, oNone, oSome, nSlice, bVal, bAnd, bOr, bNot, bOp, bChain, bIsN, bNotN, bYes, aNil, aCons, qNil, qVal, iSq, iR1, iR2, iZp, iEn, sPopAt, gNm, gTp, gConsD, gNilD, onMade, gt, ownAll, mkSl, wb, endsD, mrg, startD, kAdd, kSub, kMul, kMod, kDiv, kPow, kShr, kLt, kLe, kGt, kGe, isNon, br_decide, br_t, br_f, Bool.not_true, Bool.not_false, List.map_cons, List.map_nil, List.length_cons, List.length_nil, List.replicate, List.cons_append, List.nil_append, List.set_cons_zero, List.set_cons_succ, List.set_nil, wipeD, back, noOwn, true_and, and_true, List.length_map, List.reduceReplicate, Nat.reduceSub, Nat.reduceAdd, Int.reduceNeg, reduceCtorEq, if_true, if_false, Bool.true_eq_false, Bool.false_eq_true, ite_true, ite_false, s_onVal, s_onOwn, s_onLst, s_onIns, s_onL, s_onBl, s_some, s_kI, s_addI, s_addS, s_neg, s_eqI, s_neI, s_eqS, s_neS, s_ixL, s_ixT, s_ixS, s_ixO, s_lenS, s_lenL, s_lenT, s_abs, s_intI, s_intB, s_max2, s_min2, s_itL, s_itT, s_itS, s_rng1, s_rng2, s_zipL, s_zipT, s_enL, s_seqL, s_seqT, s_minL, s_maxL, s_sum, s_isBl, s_fld, s_vNil, s_vCons, s_frzL, s_frzI, at0, at1, at2, at3, ix30, ix31, ix32, pT_cons, oT_cons, iT_cons, Option.map_some, s_none, s_put0, s_put, s_find, s_join, notInS_of, inS_of, eq_self]
        cases b1 with
        | false =>
          simp only [sNil, sCons, sIf, sAsg, sOwn, sFor, sRet, sRetN, sRetO, sRetNew, sExpr, sApp, sSetIx, sPass, DL.sFld, sNever, s_lk, sLcO, sLcV, eVar, eFrz, eC, eNew, eAnd, eOr, eNot, eIf, eOp, eNeg, eIsN, eNotN, eFld, eFldO, eIxO, eLenO, eTup, eB, eTuple, eFind, eJoin, eIsi, eCall, eCallT, eChain, nLst, nList, nComp, nCall, nCallT, nMake, nRep, nCat, nCatO, oNone, oSome, nSlice, bVal, bAnd, bOr, bNot, bOp, bChain, bIsN, bNotN, bYes, aNil, aCons, qNil, qVal, iSq, iR1, iR2, iZp, iEn, sPopAt, gNm, gTp, gConsD, gNilD, onMade, gt, ownAll, mkSl, wb, endsD, mrg, startD, kAdd, kSub, kMul, kMod, kDiv, kPow, kShr, kLt, kLe, kGt, kGe, isNon, br_decide, br_t, br_f, Bool.not_true, Bool.not_false, List.map_cons, List.map_nil, List.length_cons, List.length_nil, List.replicate, List.cons_append, List.nil_append, List.set_cons_zero, List.set_cons_succ, List.set_nil, wipeD, back, noOwn, true_and, and_true, List.length_map, List.reduceReplicate, Nat.reduceSub, Nat.reduceAdd, Int.reduceNeg, reduceCtorEq, if_true, if_false, Bool.true_eq_false, Bool.false_eq_true, ite_true, ite_false, s_onVal, s_onOwn, s_onLst, s_onIns, s_onL, s_onBl, s_some, s_kI, s_addI, s_addS, s_neg, s_eqI, s_neI, s_eqS, s_neS, s_ixL, s_ixT, s_ixS, s_ixO, s_lenS, s_lenL, s_lenT, s_abs, s_intI, s_intB, s_max2, s_min2, s_itL, s_itT, s_itS, s_rng1, s_rng2, s_zipL, s_zipT, s_enL, s_seqL, s_seqT, s_minL, s_maxL, s_sum, s_isBl, s_fld, s_vNil, s_vCons, s_frzL, s_frzI, at0, at1, at2, at3, ix30, ix31, ix32, pT_cons, oT_cons, iT_cons, Option.map_some, s_none, s_put0, s_put, s_find, s_join, notInS_of, inS_of, eq_self]
          exact h2' fun ⟨p, q⟩ => by rw [(isp p q).1] at hb1; simp [isNum] at hb1
        | true =>
          cases b2 with
          | false =>
            simp only [sNil, sCons, sIf, sAsg, sOwn, sFor, sRet, sRetN, sRetO, sRetNew, sExpr, sApp, sSetIx, sPass, DL.sFld, sNever, s_lk, sLcO, sLcV, eVar, eFrz, eC, eNew, eAnd, eOr, eNot, eIf, eOp, eNeg, eIsN, eNotN, eFld, eFldO, eIxO, eLenO, eTup, eB, eTuple, eFind, eJoin, eIsi, eCall, eCallT, eChain, nLst, nList, nComp, nCall, nCallT, nMake, nRep, nCat, nCatO, oNone, oSome, nSlice, bVal, bAnd, bOr, bNot, bOp, bChain, bIsN, bNotN, bYes, aNil, aCons, qNil, qVal, iSq, iR1, iR2, iZp, iEn, sPopAt, gNm, gTp, gConsD, gNilD, onMade, gt, ownAll, mkSl, wb, endsD, mrg, startD, kAdd, kSub, kMul, kMod, kDiv, kPow, kShr, kLt, kLe, kGt, kGe, isNon, br_decide, br_t, br_f, Bool.not_true, Bool.not_false, List.map_cons, List.map_nil, List.length_cons, List.length_nil, List.replicate, List.cons_append, List.nil_append, List.set_cons_zero, List.set_cons_succ, List.set_nil, wipeD, back, noOwn, true_and, and_true, List.length_map, List.reduceReplicate, Nat.reduceSub, Nat.reduceAdd, Int.reduceNeg, reduceCtorEq, if_true, if_false, Bool.true_eq_false, Bool.false_eq_true, ite_true, ite_false, s_onVal, s_onOwn, s_onLst, s_onIns, s_onL, s_onBl, s_some, s_kI, s_addI, s_addS, s_neg, s_eqI, s_neI, s_eqS, s_neS, s_ixL, s_ixT, s_ixS, s_ixO, s_lenS, s_lenL, s_lenT, s_abs, s_intI, s_intB, s_max2, s_min2, s_itL, s_itT, s_itS, s_rng1, s_rng2, s_zipL, s_zipT, s_enL, s_seqL, s_seqT, s_minL, s_maxL, s_sum, s_isBl, s_fld, s_vNil, s_vCons, s_frzL, s_frzI, at0, at1, at2, at3, ix30, ix31, ix32, pT_cons, oT_cons, iT_cons, Option.map_some, s_none, s_put0, s_put, s_find, s_join, notInS_of, inS_of, eq_self]
            exact h2' fun ⟨p, q⟩ => by rw [(isp p q).2] at hb2; simp [isNum] at hb2
          | true =>
            obtain ⟨a, rfl⟩ := isNum_true hb1
            obtain ⟨c, rfl⟩ := isNum_true hb2
            simp only [o1, lo, sNil, sCons, sIf, sAsg, sOwn, sFor, sRet, sRetN, sRetO, sRetNew, sExpr, sApp, sSetIx, sPass, DL.sFld, sNever, s_lk, sLcO, sLcV, eVar, eFrz, eC, eNew, eAnd, eOr, eNot, eIf, eOp, eNeg, eIsN, eNotN, eFld, eFldO, eIxO, eLenO, eTup, eB, eTuple, eFind, eJoin, eIsi, eCall, eCallT, eChain, nLst, nList, nComp, nCall, nCallT, nMake, nRep, nCat, nCatO, oNone, oSome, nSlice, bVal, bAnd, bOr, bNot, bOp, bChain, bIsN, bNotN, bYes, aNil, aCons, qNil, qVal, iSq, iR1, iR2, iZp, iEn, sPopAt, gNm, gTp, gConsD, gNilD, onMade, gt, ownAll, mkSl, wb, endsD, mrg, startD, kAdd, kSub, kMul, kMod, kDiv, kPow, kShr, kLt, kLe, kGt, kGe, isNon, br_decide, br_t, br_f, Bool.not_true, Bool.not_false, List.map_cons, List.map_nil, List.length_cons, List.length_nil, List.replicate, List.cons_append, List.nil_append, List.set_cons_zero, List.set_cons_succ, List.set_nil, wipeD, back, noOwn, true_and, and_true, List.length_map, List.reduceReplicate, Nat.reduceSub, Nat.reduceAdd, Int.reduceNeg, reduceCtorEq, if_true, if_false, Bool.true_eq_false, Bool.false_eq_true, ite_true, ite_false, s_onVal, s_onOwn, s_onLst, s_onIns, s_onL, s_onBl, s_some, s_kI, s_addI, s_addS, s_neg, s_eqI, s_neI, s_eqS, s_neS, s_ixL, s_ixT, s_ixS, s_ixO, s_lenS, s_lenL, s_lenT, s_abs, s_intI, s_intB, s_max2, s_min2, s_itL, s_itT, s_itS, s_rng1, s_rng2, s_zipL, s_zipT, s_enL, s_seqL, s_seqT, s_minL, s_maxL, s_sum, s_isBl, s_fld, s_vNil, s_vCons, s_frzL, s_frzI, at0, at1, at2, at3, ix30, ix31, ix32, pT_cons, oT_cons, iT_cons, Option.map_some, s_none, s_put0, s_put, s_find, s_join, notInS_of, inS_of, eq_self]
            refine ⟨fun a0 => ?_, fun a0 => h2' fun ⟨p, q⟩ => ?_⟩
            · refine br_pq (fun z => h2' fun ⟨p, q⟩ => ?_) fun z => ?_
              · have := (isp p q).1
                simp at this z
                have := q.2
                omega
              · simp at z
                exact h1' ⟨(a, c), by rcases he with rfl | rfl <;> simp, a0, z⟩
            · have := (isp p q).1
              simp at this
              have := q.2
              omega
  · subst e
    have hall' : ∀ d ∈ ds, ∃ p, IsPair n d p := fun d hd' => by
      obtain ⟨i, hi⟩ := List.mem_iff_getElem?.mp hd'
      obtain ⟨d', p, e, q⟩ := hall i (lt_some hi)
      rw [hi] at e; cases e
      exact ⟨p, q⟩
    obtain ⟨ps, a2⟩ := All2.all hall'
    have isf : IsFold m n (.lst ds) ps := ⟨by rw [← a2.length, hlen], ds, .inl rfl, a2⟩
    have fin : ∀ b : Bool, (b = true ↔ Dir m w o ps) → Q (.val (.bl b)) [.val (wD w), .val (wD o), .val (.lst ds)] := fun b hb => h b (hb.trans ⟨fun z => ⟨ps, isf, z⟩, fun ⟨qs, z1, z2⟩ => by rw [isf.fn z1]; exact z2⟩)
    simp only [sNil, sCons, sIf, sAsg, sOwn, sFor, sRet, sRetN, sRetO, sRetNew, sExpr, sApp, sSetIx, sPass, DL.sFld, sNever, s_lk, sLcO, sLcV, eVar, eFrz, eC, eNew, eAnd, eOr, eNot, eIf, eOp, eNeg, eIsN, eNotN, eFld, eFldO, eIxO, eLenO, eTup, eB, eTuple, eFind, eJoin, eIsi, eCall, eCallT, eChain, nLst, nList, nComp, nCall, nCallT, nMake, nRep, nCat, nCatO, oNone, oSome, nSlice, bVal, bAnd, bOr, bNot, bOp, bChain, bIsN, bNotN, bYes, aNil, aCons, qNil, qVal, iSq, iR1, iR2, iZp, iEn, sPopAt, gNm, gTp, gConsD, gNilD, onMade, gt, ownAll, mkSl, wb, endsD, mrg, startD, kAdd, kSub, kMul, kMod, kDiv, kPow, kShr, kLt, kLe, kGt, kGe, isNon, br_decide, br_t, br_f, Bool.not_true, Bool.not_false, List.map_cons, List.map_nil, List.length_cons, List.length_nil, List.replicate, List.cons_append, List.nil_append, List.set_cons_zero, List.set_cons_succ, List.set_nil, wipeD, back, noOwn, true_and, and_true, List.length_map, List.reduceReplicate, Nat.reduceSub, Nat.reduceAdd, Int.reduceNeg, reduceCtorEq, if_true, if_false, Bool.true_eq_false, Bool.false_eq_true, ite_true, ite_false, s_onVal, s_onOwn, s_onLst, s_onIns, s_onL, s_onBl, s_some, s_kI, s_addI, s_addS, s_neg, s_eqI, s_neI, s_eqS, s_neS, s_ixL, s_ixT, s_ixS, s_ixO, s_lenS, s_lenL, s_lenT, s_abs, s_intI, s_intB, s_max2, s_min2, s_itL, s_itT, s_itS, s_rng1, s_rng2, s_zipL, s_zipT, s_enL, s_seqL, s_seqT, s_minL, s_maxL, s_sum, s_isBl, s_fld, s_vNil, s_vCons, s_frzL, s_frzI, at0, at1, at2, at3, ix30, ix31, ix32, pT_cons, oT_cons, iT_cons, Option.map_some, s_none, s_put0, s_put, s_find, s_join, notInS_of, inS_of, eq_self]
    refine ⟨by omega, ?_⟩
    refine forL_ix (fun ρ => ∃ x4 x5 x6 x7 x8 x9 x10, ρ = [.val (wD w), .val (wD o), .val (.lst ds), .val (.int m), x4, x5, x6, x7, x8, x9, x10]) (fun s => Dir1 w o ps s ∧ ∀ t < m, Dir2 w o ps s t) _ _ (fun s d hi ρ ⟨x4, x5, x6, x7, x8, x9, x10, e⟩ nx h1 h2 => ?_) (fun hall ρ ⟨x4, x5, x6, x7, x8, x9, x10, e⟩ => ?_) (fun ⟨i, hi, hnot⟩ ρ ⟨x4, x5, x6, x7, x8, x9, x10, e⟩ => ?_) ⟨_, _, _, _, _, _, _, rfl⟩
    · subst e
      obtain ⟨hs, rfl⟩ := rng_get hi
      rw [Int.toNat_natCast] at hs
      obtain ⟨p, hp, ip⟩ := a2.get (List.getElem?_eq_getElem (by omega : s < ds.length))
      have g1 := at_get (List.getElem?_eq_getElem (by omega : s < ds.length))
      have q1 : pf ps s = p.1.toNat := by unfold pf; rw [getD_some hp]
      have q2 : ph ps s = p.2 := by unfold ph; rw [getD_some hp]
      have r0 := ip.2.1
      have r1 := ip.2.2
      unfold m__law_right_1
      simp only [Int.zero_add, g1, ip.seq, e1, e3, o1, o3, iL, at_nat (l := w.b) (i := s) (by rw [hw.b]; exact hs), at_nat (l := w.e) (i := s) (by rw [hw.e]; exact hs), at_int (l := o.b) r0 (by rw [ho.b]; exact r1), at_int (l := o.e) r0 (by rw [ho.e]; exact r1), sNil, sCons, sIf, sAsg, sOwn, sFor, sRet, sRetN, sRetO, sRetNew, sExpr, sApp, sSetIx, sPass, DL.sFld, sNever, s_lk, sLcO, sLcV, eVar, eFrz, eC, eNew, eAnd, eOr, eNot, eIf, eOp, eNeg, eIsN, eNotN, eFld, eFldO, eIxO, eLenO, eTup, eB, eTuple, eFind, eJoin, eIsi, eCall, eCallT, eChain, nLst, nList, nComp, nCall, nCallT, nMake, nRep, nCat, nCatO, oNone, oSome, nSlice, bVal, bAnd, bOr, bNot, bOp, bChain, bIsN, bNotN, bYes, aNil, aCons, qNil, qVal, iSq, iR1, iR2, iZp, iEn, sPopAt, gNm, gTp, gConsD, gNilD, onMade, gt, ownAll, mkSl, wb, endsD, mrg, startD, kAdd, kSub, kMul, kMod, kDiv, kPow, kShr, kLt, kLe, kGt, kGe, isNon, br_decide, br_t, br_f, Bool.not_true, Bool.not_false, List.map_cons, List.map_nil, List.length_cons, List.length_nil, List.replicate, List.cons_append, List.nil_append, List.set_cons_zero, List.set_cons_succ, List.set_nil, wipeD, back, noOwn, true_and, and_true, List.length_map, List.reduceReplicate, Nat.reduceSub, Nat.reduceAdd, Int.reduceNeg, reduceCtorEq, if_true, if_false, Bool.true_eq_false, Bool.false_eq_true, ite_true, ite_false, s_onVal, s_onOwn, s_onLst, s_onIns, s_onL, s_onBl, s_some, s_kI, s_addI, s_addS, s_neg, s_eqI, s_neI, s_eqS, s_neS, s_ixL, s_ixT, s_ixS, s_ixO, s_lenS, s_lenL, s_lenT, s_abs, s_intI, s_intB, s_max2, s_min2, s_itL, s_itT, s_itS, s_rng1, s_rng2, s_zipL, s_zipT, s_enL, s_seqL, s_seqT, s_minL, s_maxL, s_sum, s_isBl, s_fld, s_vNil, s_vCons, s_frzL, s_frzI, at0, at1, at2, at3, ix30, ix31, ix32, pT_cons, oT_cons, iT_cons, Option.map_some, s_none, s_put0, s_put, s_find, s_join, notInS_of, inS_of, eq_self]
      have nod : ¬ Dir1 w o ps s → Q (.val (.bl false)) [.val (wD w), .val (wD o), .val (.lst ds)] := fun z => h2 (fun y => z y.1) _ ⟨.un, .un, .un, .un, .un, .un, .un, rfl⟩
      unfold Dir1 pb pe at nod
      rw [q1, q2] at nod
      refine ⟨fun c => nod fun y => by omega, fun c1 => ⟨fun c => nod fun y => by omega, fun c2 => ⟨by omega, ?_⟩⟩⟩
      have d1 : Dir1 w o ps s := by unfold Dir1 pb pe; rw [q1, q2]; omega
      refine forL_ix (fun ρ => ∃ x8 x9 x10, ρ = [.val (wD w), .val (wD o), .val (.lst ds), .val (.int m), x4, .val (.int s), .val (.int p.1), .val (.int p.2), x8, x9, x10]) (fun t => Dir2 w o ps s t) _ _ (fun t d hi ρ ⟨x8, x9, x10, e⟩ nx h1 h2 => ?_) (fun hall ρ ⟨x8, x9, x10, e⟩ => ?_) (fun ⟨t, hi, hnot⟩ ρ ⟨x8, x9, x10, e⟩ => ?_) ⟨_, _, _, rfl⟩
      · subst e
        obtain ⟨ht, rfl⟩ := rng_get hi
        rw [Int.toNat_natCast] at ht
        obtain ⟨p', hp', ip'⟩ := a2.get (List.getElem?_eq_getElem (by omega : t < ds.length))
        have g1' := at_get (List.getElem?_eq_getElem (by omega : t < ds.length))
        have q1' : pf ps t = p'.1.toNat := by unfold pf; rw [getD_some hp']
        have q2' : ph ps t = p'.2 := by unfold ph; rw [getD_some hp']
        have r0' := ip'.2.1
        have r1' := ip'.2.2
        unfold m__law_right_2
        simp only [Int.zero_add, e2, o2, sNil, sCons, sIf, sAsg, sOwn, sFor, sRet, sRetN, sRetO, sRetNew, sExpr, sApp, sSetIx, sPass, DL.sFld, sNever, s_lk, sLcO, sLcV, eVar, eFrz, eC, eNew, eAnd, eOr, eNot, eIf, eOp, eNeg, eIsN, eNotN, eFld, eFldO, eIxO, eLenO, eTup, eB, eTuple, eFind, eJoin, eIsi, eCall, eCallT, eChain, nLst, nList, nComp, nCall, nCallT, nMake, nRep, nCat, nCatO, oNone, oSome, nSlice, bVal, bAnd, bOr, bNot, bOp, bChain, bIsN, bNotN, bYes, aNil, aCons, qNil, qVal, iSq, iR1, iR2, iZp, iEn, sPopAt, gNm, gTp, gConsD, gNilD, onMade, gt, ownAll, mkSl, wb, endsD, mrg, startD, kAdd, kSub, kMul, kMod, kDiv, kPow, kShr, kLt, kLe, kGt, kGe, isNon, br_decide, br_t, br_f, Bool.not_true, Bool.not_false, List.map_cons, List.map_nil, List.length_cons, List.length_nil, List.replicate, List.cons_append, List.nil_append, List.set_cons_zero, List.set_cons_succ, List.set_nil, wipeD, back, noOwn, true_and, and_true, List.length_map, List.reduceReplicate, Nat.reduceSub, Nat.reduceAdd, Int.reduceNeg, reduceCtorEq, if_true, if_false, Bool.true_eq_false, Bool.false_eq_true, ite_true, ite_false, s_onVal, s_onOwn, s_onLst, s_onIns, s_onL, s_onBl, s_some, s_kI, s_addI, s_addS, s_neg, s_eqI, s_neI, s_eqS, s_neS, s_ixL, s_ixT, s_ixS, s_ixO, s_lenS, s_lenL, s_lenT, s_abs, s_intI, s_intB, s_max2, s_min2, s_itL, s_itT, s_itS, s_rng1, s_rng2, s_zipL, s_zipT, s_enL, s_seqL, s_seqT, s_minL, s_maxL, s_sum, s_isBl, s_fld, s_vNil, s_vCons, s_frzL, s_frzI, at0, at1, at2, at3, ix30, ix31, ix32, pT_cons, oT_cons, iT_cons, Option.map_some, s_none, s_put0, s_put, s_find, s_join, notInS_of, inS_of, eq_self]
        refine forL_ix (fun ρ => ∃ x9 x10, ρ = [.val (wD w), .val (wD o), .val (.lst ds), .val (.int m), x4, .val (.int s), .val (.int p.1), .val (.int p.2), .val (.int t), x9, x10]) (fun k => pr o.c k (pf ps s) (pf ps t) + ph ps t ≤ pr w.c k s t + ph ps s) _ _ (fun k d hi ρ ⟨x9, x10, e⟩ nx h1 h2 => ?_) (fun hall ρ ⟨x9, x10, e⟩ => ?_) (fun ⟨k, hi, hnot⟩ ρ ⟨x9, x10, e⟩ => ?_) ⟨_, _, rfl⟩
        · subst e
          obtain ⟨a, b, ea, eb, rfl⟩ := zipD_get hi
          simp only [List.getElem?_map, Option.map_eq_some_iff] at ea eb
          obtain ⟨ta, ea, rfl⟩ := ea
          obtain ⟨tb, eb, rfl⟩ := eb
          have sa := hw.q ta (List.mem_of_getElem? ea)
          have sb := ho.q tb (List.mem_of_getElem? eb)
          have la := sa.line hs
          have lb := sb.line (s := p.1.toNat) (by omega)
          unfold m__law_right_3
          simp only [g1', ip'.ix0, ip'.ix1, tL, iL, Int.toNat_natCast, at_line (t := ta) (k := (s : Int)) (by omega) (by rw [sa.1]; omega), at_nat (l := ta.getD s []) (i := t) (by rw [la]; exact ht), at_line (t := tb) (k := p.1) r0 (by rw [sb.1]; exact r1), at_int (l := tb.getD p.1.toNat []) (i := p'.1) r0' (by rw [lb]; exact r1'), sNil, sCons, sIf, sAsg, sOwn, sFor, sRet, sRetN, sRetO, sRetNew, sExpr, sApp, sSetIx, sPass, DL.sFld, sNever, s_lk, sLcO, sLcV, eVar, eFrz, eC, eNew, eAnd, eOr, eNot, eIf, eOp, eNeg, eIsN, eNotN, eFld, eFldO, eIxO, eLenO, eTup, eB, eTuple, eFind, eJoin, eIsi, eCall, eCallT, eChain, nLst, nList, nComp, nCall, nCallT, nMake, nRep, nCat, nCatO, oNone, oSome, nSlice, bVal, bAnd, bOr, bNot, bOp, bChain, bIsN, bNotN, bYes, aNil, aCons, qNil, qVal, iSq, iR1, iR2, iZp, iEn, sPopAt, gNm, gTp, gConsD, gNilD, onMade, gt, ownAll, mkSl, wb, endsD, mrg, startD, kAdd, kSub, kMul, kMod, kDiv, kPow, kShr, kLt, kLe, kGt, kGe, isNon, br_decide, br_t, br_f, Bool.not_true, Bool.not_false, List.map_cons, List.map_nil, List.length_cons, List.length_nil, List.replicate, List.cons_append, List.nil_append, List.set_cons_zero, List.set_cons_succ, List.set_nil, wipeD, back, noOwn, true_and, and_true, List.length_map, List.reduceReplicate, Nat.reduceSub, Nat.reduceAdd, Int.reduceNeg, reduceCtorEq, if_true, if_false, Bool.true_eq_false, Bool.false_eq_true, ite_true, ite_false, s_onVal, s_onOwn, s_onLst, s_onIns, s_onL, s_onBl, s_some, s_kI, s_addI, s_addS, s_neg, s_eqI, s_neI, s_eqS, s_neS, s_ixL, s_ixT, s_ixS, s_ixO, s_lenS, s_lenL, s_lenT, s_abs, s_intI, s_intB, s_max2, s_min2, s_itL, s_itT, s_itS, s_rng1, s_rng2, s_zipL, s_zipT, s_enL, s_seqL, s_seqT, s_minL, s_maxL, s_sum, s_isBl, s_fld, s_vNil, s_vCons, s_frzL, s_frzI, at0, at1, at2, at3, ix30, ix31, ix32, pT_cons, oT_cons, iT_cons, Option.map_some, s_none, s_put0, s_put, s_find, s_join, notInS_of, inS_of, eq_self]
          simp only [pr, getD_some ea, getD_some eb, q1, q2, q1', q2'] at h1 h2
          exact ⟨fun c => h2 (by omega) _ ⟨.un, .un, rfl⟩, fun c => h1 (by omega) _ ⟨_, _, rfl⟩⟩
        · subst e
          refine h1 (fun k hk => hall k ?_) _ ⟨_, _, _, rfl⟩
          rw [zipD_length, List.length_map, List.length_map, hw.c, ho.c, ← ha]; omega
        · subst e
          refine h2 (fun z => hnot (z k ?_)) _ ⟨.un, .un, .un, rfl⟩
          rw [zipD_length, List.length_map, List.length_map, hw.c, ho.c, ← ha] at hi; omega
      · subst e
        exact h1 ⟨d1, fun t ht => hall t (by rw [rng_length]; simpa using ht)⟩ _ ⟨_, _, _, _, _, _, _, rfl⟩
      · subst e
        exact h2 (fun z => hnot (z.2 t (by rw [rng_length] at hi; simpa using hi))) _ ⟨.un, .un, .un, .un, .un, .un, .un, rfl⟩
    · subst e
      simp only [sNil, sCons, sIf, sAsg, sOwn, sFor, sRet, sRetN, sRetO, sRetNew, sExpr, sApp, sSetIx, sPass, DL.sFld, sNever, s_lk, sLcO, sLcV, eVar, eFrz, eC, eNew, eAnd, eOr, eNot, eIf, eOp, eNeg, eIsN, eNotN, eFld, eFldO, eIxO, eLenO, eTup, eB, eTuple, eFind, eJoin, eIsi, eCall, eCallT, eChain, nLst, nList, nComp, nCall, nCallT, nMake, nRep, nCat, nCatO, oNone, oSome, nSlice, bVal, bAnd, bOr, bNot, bOp, bChain, bIsN, bNotN, bYes, aNil, aCons, qNil, qVal, iSq, iR1, iR2, iZp, iEn, sPopAt, gNm, gTp, gConsD, gNilD, onMade, gt, ownAll, mkSl, wb, endsD, mrg, startD, kAdd, kSub, kMul, kMod, kDiv, kPow, kShr, kLt, kLe, kGt, kGe, isNon, br_decide, br_t, br_f, Bool.not_true, Bool.not_false, List.map_cons, List.map_nil, List.length_cons, List.length_nil, List.replicate, List.cons_append, List.nil_append, List.set_cons_zero, List.set_cons_succ, List.set_nil, wipeD, back, noOwn, true_and, and_true, List.length_map, List.reduceReplicate, Nat.reduceSub, Nat.reduceAdd, Int.reduceNeg, reduceCtorEq, if_true, if_false, Bool.true_eq_false, Bool.false_eq_true, ite_true, ite_false, s_onVal, s_onOwn, s_onLst, s_onIns, s_onL, s_onBl, s_some, s_kI, s_addI, s_addS, s_neg, s_eqI, s_neI, s_eqS, s_neS, s_ixL, s_ixT, s_ixS, s_ixO, s_lenS, s_lenL, s_lenT, s_abs, s_intI, s_intB, s_max2, s_min2, s_itL, s_itT, s_itS, s_rng1, s_rng2, s_zipL, s_zipT, s_enL, s_seqL, s_seqT, s_minL, s_maxL, s_sum, s_isBl, s_fld, s_vNil, s_vCons, s_frzL, s_frzI, at0, at1, at2, at3, ix30, ix31, ix32, pT_cons, oT_cons, iT_cons, Option.map_some, s_none, s_put0, s_put, s_find, s_join, notInS_of, inS_of, eq_self]
      exact fin true ⟨fun _ s hs => hall s (by rw [rng_length]; simpa using hs), fun _ => rfl⟩
    · subst e
      exact fin false ⟨fun z => by simp at z, fun z => (hnot (z i (by rw [rng_length] at hi; simpa using hi))).elim⟩
  · subst e
    refine no fun ⟨ps, e, ds', q, a⟩ => ?_
    rcases q with q | q <;> simp at q
    subst q
    obtain ⟨p, hp, ip⟩ := a.get (List.getElem?_eq_getElem hi)
    exact hnot ⟨_, p, List.getElem?_eq_getElem hi, ip⟩


theorem p__law_lists (K : PySem.W.Frag) (kf : KF K) : ∀ sl Q E, T__law_lists K sl Q E → m__law_lists K (endsD [] sl Q E) (startD N__law_lists sl) := by
  refine pT_in ?_
  rintro ds Q E ⟨n, w, rfl, hw, hn, ha, h⟩
  unfold m__law_lists
  simp only [wD, wL, iL, sNil, sCons, sIf, sAsg, sOwn, sFor, sRet, sRetN, sRetO, sRetNew, sExpr, sApp, sSetIx, sPass, DL.sFld, sNever, s_lk, sLcO, sLcV, eVar, eFrz, eC, eNew, eAnd, eOr, eNot, eIf, eOp, eNeg, eIsN, eNotN, eFld, eFldO, eIxO, eLenO, eTup, eB, eTuple, eFind, eJoin, eIsi, eCall, eCallT, eChain, nLst, nList, nComp, nCall, nCallT, nMake, nRep, nCat, nCatO, oNone, oSome, nSlice, bVal, bAnd, bOr, bNot, bOp, bChain, bIsN, bNotN, bYes, aNil, aCons, qNil, qVal, iSq, iR1, iR2, iZp, iEn, sPopAt, gNm, gTp, gConsD, gNilD, onMade, gt, ownAll, mkSl, wb, endsD, mrg, startD, kAdd, kSub, kMul, kMod, kDiv, kPow, kShr, kLt, kLe, kGt, kGe, isNon, br_decide, br_t, br_f, Bool.not_true, Bool.not_false, List.map_cons, List.map_nil, List.length_cons, List.length_nil, List.replicate, List.cons_append, List.nil_append, List.set_cons_zero, List.set_cons_succ, List.set_nil, wipeD, back, noOwn, true_and, and_true, List.length_map, List.reduceReplicate, Nat.reduceSub, Nat.reduceAdd, Int.reduceNeg, reduceCtorEq, if_true, if_false, Bool.true_eq_false, Bool.false_eq_true, ite_true, ite_false, s_onVal, s_onOwn, s_onLst, s_onIns, s_onL, s_onBl, s_some, s_kI, s_addI, s_addS, s_neg, s_eqI, s_neI, s_eqS, s_neS, s_ixL, s_ixT, s_ixS, s_ixO, s_lenS, s_lenL, s_lenT, s_abs, s_intI, s_intB, s_max2, s_min2, s_itL, s_itT, s_itS, s_rng1, s_rng2, s_zipL, s_zipT, s_enL, s_seqL, s_seqT, s_minL, s_maxL, s_sum, s_isBl, s_fld, s_vNil, s_vCons, s_frzL, s_frzI, at0, at1, at2, at3, ix30, ix31, ix32, pT_cons, oT_cons, iT_cons, Option.map_some, s_none, s_put0, s_put, s_find, s_join, notInS_of, inS_of, eq_self]
  refine compL_map (fun d => d) (fun d => [.val (wD w), .un, .un, .val d]) ?_ _ _ (by rw [List.length_map, hw.c]; exact small (m := 1000) (by simpa using ha)) (fun d hd => ?_) (fun d hd k hk => ?_) ?_
  · simp only [sNil, sCons, sIf, sAsg, sOwn, sFor, sRet, sRetN, sRetO, sRetNew, sExpr, sApp, sSetIx, sPass, DL.sFld, sNever, s_lk, sLcO, sLcV, eVar, eFrz, eC, eNew, eAnd, eOr, eNot, eIf, eOp, eNeg, eIsN, eNotN, eFld, eFldO, eIxO, eLenO, eTup, eB, eTuple, eFind, eJoin, eIsi, eCall, eCallT, eChain, nLst, nList, nComp, nCall, nCallT, nMake, nRep, nCat, nCatO, oNone, oSome, nSlice, bVal, bAnd, bOr, bNot, bOp, bChain, bIsN, bNotN, bYes, aNil, aCons, qNil, qVal, iSq, iR1, iR2, iZp, iEn, sPopAt, gNm, gTp, gConsD, gNilD, onMade, gt, ownAll, mkSl, wb, endsD, mrg, startD, kAdd, kSub, kMul, kMod, kDiv, kPow, kShr, kLt, kLe, kGt, kGe, isNon, br_decide, br_t, br_f, Bool.not_true, Bool.not_false, List.map_cons, List.map_nil, List.length_cons, List.length_nil, List.replicate, List.cons_append, List.nil_append, List.set_cons_zero, List.set_cons_succ, List.set_nil, wipeD, back, noOwn, true_and, and_true, List.length_map, List.reduceReplicate, Nat.reduceSub, Nat.reduceAdd, Int.reduceNeg, reduceCtorEq, if_true, if_false, Bool.true_eq_false, Bool.false_eq_true, ite_true, ite_false, s_onVal, s_onOwn, s_onLst, s_onIns, s_onL, s_onBl, s_some, s_kI, s_addI, s_addS, s_neg, s_eqI, s_neI, s_eqS, s_neS, s_ixL, s_ixT, s_ixS, s_ixO, s_lenS, s_lenL, s_lenT, s_abs, s_intI, s_intB, s_max2, s_min2, s_itL, s_itT, s_itS, s_rng1, s_rng2, s_zipL, s_zipT, s_enL, s_seqL, s_seqT, s_minL, s_maxL, s_sum, s_isBl, s_fld, s_vNil, s_vCons, s_frzL, s_frzI, at0, at1, at2, at3, ix30, ix31, ix32, pT_cons, oT_cons, iT_cons, Option.map_some, s_none, s_put0, s_put, s_find, s_join, notInS_of, inS_of, eq_self]
  · simp only [wD, wL, iL, sNil, sCons, sIf, sAsg, sOwn, sFor, sRet, sRetN, sRetO, sRetNew, sExpr, sApp, sSetIx, sPass, DL.sFld, sNever, s_lk, sLcO, sLcV, eVar, eFrz, eC, eNew, eAnd, eOr, eNot, eIf, eOp, eNeg, eIsN, eNotN, eFld, eFldO, eIxO, eLenO, eTup, eB, eTuple, eFind, eJoin, eIsi, eCall, eCallT, eChain, nLst, nList, nComp, nCall, nCallT, nMake, nRep, nCat, nCatO, oNone, oSome, nSlice, bVal, bAnd, bOr, bNot, bOp, bChain, bIsN, bNotN, bYes, aNil, aCons, qNil, qVal, iSq, iR1, iR2, iZp, iEn, sPopAt, gNm, gTp, gConsD, gNilD, onMade, gt, ownAll, mkSl, wb, endsD, mrg, startD, kAdd, kSub, kMul, kMod, kDiv, kPow, kShr, kLt, kLe, kGt, kGe, isNon, br_decide, br_t, br_f, Bool.not_true, Bool.not_false, List.map_cons, List.map_nil, List.length_cons, List.length_nil, List.replicate, List.cons_append, List.nil_append, List.set_cons_zero, List.set_cons_succ, List.set_nil, wipeD, back, noOwn, true_and, and_true, List.length_map, List.reduceReplicate, Nat.reduceSub, Nat.reduceAdd, Int.reduceNeg, reduceCtorEq, if_true, if_false, Bool.true_eq_false, Bool.false_eq_true, ite_true, ite_false, s_onVal, s_onOwn, s_onLst, s_onIns, s_onL, s_onBl, s_some, s_kI, s_addI, s_addS, s_neg, s_eqI, s_neI, s_eqS, s_neS, s_ixL, s_ixT, s_ixS, s_ixO, s_lenS, s_lenL, s_lenT, s_abs, s_intI, s_intB, s_max2, s_min2, s_itL, s_itT, s_itS, s_rng1, s_rng2, s_zipL, s_zipT, s_enL, s_seqL, s_seqT, s_minL, s_maxL, s_sum, s_isBl, s_fld, s_vNil, s_vCons, s_frzL, s_frzI, at0, at1, at2, at3, ix30, ix31, ix32, pT_cons, oT_cons, iT_cons, Option.map_some, s_none, s_put0, s_put, s_find, s_join, notInS_of, inS_of, eq_self]
  · obtain ⟨t, ht, rfl⟩ := List.mem_map.mp hd
    have hq := hw.q t ht
    simp only [tL, sNil, sCons, sIf, sAsg, sOwn, sFor, sRet, sRetN, sRetO, sRetNew, sExpr, sApp, sSetIx, sPass, DL.sFld, sNever, s_lk, sLcO, sLcV, eVar, eFrz, eC, eNew, eAnd, eOr, eNot, eIf, eOp, eNeg, eIsN, eNotN, eFld, eFldO, eIxO, eLenO, eTup, eB, eTuple, eFind, eJoin, eIsi, eCall, eCallT, eChain, nLst, nList, nComp, nCall, nCallT, nMake, nRep, nCat, nCatO, oNone, oSome, nSlice, bVal, bAnd, bOr, bNot, bOp, bChain, bIsN, bNotN, bYes, aNil, aCons, qNil, qVal, iSq, iR1, iR2, iZp, iEn, sPopAt, gNm, gTp, gConsD, gNilD, onMade, gt, ownAll, mkSl, wb, endsD, mrg, startD, kAdd, kSub, kMul, kMod, kDiv, kPow, kShr, kLt, kLe, kGt, kGe, isNon, br_decide, br_t, br_f, Bool.not_true, Bool.not_false, List.map_cons, List.map_nil, List.length_cons, List.length_nil, List.replicate, List.cons_append, List.nil_append, List.set_cons_zero, List.set_cons_succ, List.set_nil, wipeD, back, noOwn, true_and, and_true, List.length_map, List.reduceReplicate, Nat.reduceSub, Nat.reduceAdd, Int.reduceNeg, reduceCtorEq, if_true, if_false, Bool.true_eq_false, Bool.false_eq_true, ite_true, ite_false, s_onVal, s_onOwn, s_onLst, s_onIns, s_onL, s_onBl, s_some, s_kI, s_addI, s_addS, s_neg, s_eqI, s_neI, s_eqS, s_neS, s_ixL, s_ixT, s_ixS, s_ixO, s_lenS, s_lenL, s_lenT, s_abs, s_intI, s_intB, s_max2, s_min2, s_itL, s_itT, s_itS, s_rng1, s_rng2, s_zipL, s_zipT, s_enL, s_seqL, s_seqT, s_minL, s_maxL, s_sum, s_isBl, s_fld, s_vNil, s_vCons, s_frzL, s_frzI, at0, at1, at2, at3, ix30, ix31, ix32, pT_cons, oT_cons, iT_cons, Option.map_some, s_none, s_put0, s_put, s_find, s_join, notInS_of, inS_of, eq_self]
    refine compL_map (fun d => d) (fun d => [.val (wD w), .un, .val d, .val (tL t)]) ?_ _ _ (by rw [List.length_map, hq.1]; exact small (m := 1000) (by simpa using hn)) (fun d hd => ?_) (fun d hd k hk => ?_) ?_
    · simp only [sNil, sCons, sIf, sAsg, sOwn, sFor, sRet, sRetN, sRetO, sRetNew, sExpr, sApp, sSetIx, sPass, DL.sFld, sNever, s_lk, sLcO, sLcV, eVar, eFrz, eC, eNew, eAnd, eOr, eNot, eIf, eOp, eNeg, eIsN, eNotN, eFld, eFldO, eIxO, eLenO, eTup, eB, eTuple, eFind, eJoin, eIsi, eCall, eCallT, eChain, nLst, nList, nComp, nCall, nCallT, nMake, nRep, nCat, nCatO, oNone, oSome, nSlice, bVal, bAnd, bOr, bNot, bOp, bChain, bIsN, bNotN, bYes, aNil, aCons, qNil, qVal, iSq, iR1, iR2, iZp, iEn, sPopAt, gNm, gTp, gConsD, gNilD, onMade, gt, ownAll, mkSl, wb, endsD, mrg, startD, kAdd, kSub, kMul, kMod, kDiv, kPow, kShr, kLt, kLe, kGt, kGe, isNon, br_decide, br_t, br_f, Bool.not_true, Bool.not_false, List.map_cons, List.map_nil, List.length_cons, List.length_nil, List.replicate, List.cons_append, List.nil_append, List.set_cons_zero, List.set_cons_succ, List.set_nil, wipeD, back, noOwn, true_and, and_true, List.length_map, List.reduceReplicate, Nat.reduceSub, Nat.reduceAdd, Int.reduceNeg, reduceCtorEq, if_true, if_false, Bool.true_eq_false, Bool.false_eq_true, ite_true, ite_false, s_onVal, s_onOwn, s_onLst, s_onIns, s_onL, s_onBl, s_some, s_kI, s_addI, s_addS, s_neg, s_eqI, s_neI, s_eqS, s_neS, s_ixL, s_ixT, s_ixS, s_ixO, s_lenS, s_lenL, s_lenT, s_abs, s_intI, s_intB, s_max2, s_min2, s_itL, s_itT, s_itS, s_rng1, s_rng2, s_zipL, s_zipT, s_enL, s_seqL, s_seqT, s_minL, s_maxL, s_sum, s_isBl, s_fld, s_vNil, s_vCons, s_frzL, s_frzI, at0, at1, at2, at3, ix30, ix31, ix32, pT_cons, oT_cons, iT_cons, Option.map_some, s_none, s_put0, s_put, s_find, s_join, notInS_of, inS_of, eq_self]
    · simp only [wD, wL, iL, tL, sNil, sCons, sIf, sAsg, sOwn, sFor, sRet, sRetN, sRetO, sRetNew, sExpr, sApp, sSetIx, sPass, DL.sFld, sNever, s_lk, sLcO, sLcV, eVar, eFrz, eC, eNew, eAnd, eOr, eNot, eIf, eOp, eNeg, eIsN, eNotN, eFld, eFldO, eIxO, eLenO, eTup, eB, eTuple, eFind, eJoin, eIsi, eCall, eCallT, eChain, nLst, nList, nComp, nCall, nCallT, nMake, nRep, nCat, nCatO, oNone, oSome, nSlice, bVal, bAnd, bOr, bNot, bOp, bChain, bIsN, bNotN, bYes, aNil, aCons, qNil, qVal, iSq, iR1, iR2, iZp, iEn, sPopAt, gNm, gTp, gConsD, gNilD, onMade, gt, ownAll, mkSl, wb, endsD, mrg, startD, kAdd, kSub, kMul, kMod, kDiv, kPow, kShr, kLt, kLe, kGt, kGe, isNon, br_decide, br_t, br_f, Bool.not_true, Bool.not_false, List.map_cons, List.map_nil, List.length_cons, List.length_nil, List.replicate, List.cons_append, List.nil_append, List.set_cons_zero, List.set_cons_succ, List.set_nil, wipeD, back, noOwn, true_and, and_true, List.length_map, List.reduceReplicate, Nat.reduceSub, Nat.reduceAdd, Int.reduceNeg, reduceCtorEq, if_true, if_false, Bool.true_eq_false, Bool.false_eq_true, ite_true, ite_false, s_onVal, s_onOwn, s_onLst, s_onIns, s_onL, s_onBl, s_some, s_kI, s_addI, s_addS, s_neg, s_eqI, s_neI, s_eqS, s_neS, s_ixL, s_ixT, s_ixS, s_ixO, s_lenS, s_lenL, s_lenT, s_abs, s_intI, s_intB, s_max2, s_min2, s_itL, s_itT, s_itS, s_rng1, s_rng2, s_zipL, s_zipT, s_enL, s_seqL, s_seqT, s_minL, s_maxL, s_sum, s_isBl, s_fld, s_vNil, s_vCons, s_frzL, s_frzI, at0, at1, at2, at3, ix30, ix31, ix32, pT_cons, oT_cons, iT_cons, Option.map_some, s_none, s_put0, s_put, s_find, s_join, notInS_of, inS_of, eq_self]
    · obtain ⟨l, hl, rfl⟩ := List.mem_map.mp hd
      simp only [iL, sNil, sCons, sIf, sAsg, sOwn, sFor, sRet, sRetN, sRetO, sRetNew, sExpr, sApp, sSetIx, sPass, DL.sFld, sNever, s_lk, sLcO, sLcV, eVar, eFrz, eC, eNew, eAnd, eOr, eNot, eIf, eOp, eNeg, eIsN, eNotN, eFld, eFldO, eIxO, eLenO, eTup, eB, eTuple, eFind, eJoin, eIsi, eCall, eCallT, eChain, nLst, nList, nComp, nCall, nCallT, nMake, nRep, nCat, nCatO, oNone, oSome, nSlice, bVal, bAnd, bOr, bNot, bOp, bChain, bIsN, bNotN, bYes, aNil, aCons, qNil, qVal, iSq, iR1, iR2, iZp, iEn, sPopAt, gNm, gTp, gConsD, gNilD, onMade, gt, ownAll, mkSl, wb, endsD, mrg, startD, kAdd, kSub, kMul, kMod, kDiv, kPow, kShr, kLt, kLe, kGt, kGe, isNon, br_decide, br_t, br_f, Bool.not_true, Bool.not_false, List.map_cons, List.map_nil, List.length_cons, List.length_nil, List.replicate, List.cons_append, List.nil_append, List.set_cons_zero, List.set_cons_succ, List.set_nil, wipeD, back, noOwn, true_and, and_true, List.length_map, List.reduceReplicate, Nat.reduceSub, Nat.reduceAdd, Int.reduceNeg, reduceCtorEq, if_true, if_false, Bool.true_eq_false, Bool.false_eq_true, ite_true, ite_false, s_onVal, s_onOwn, s_onLst, s_onIns, s_onL, s_onBl, s_some, s_kI, s_addI, s_addS, s_neg, s_eqI, s_neI, s_eqS, s_neS, s_ixL, s_ixT, s_ixS, s_ixO, s_lenS, s_lenL, s_lenT, s_abs, s_intI, s_intB, s_max2, s_min2, s_itL, s_itT, s_itS, s_rng1, s_rng2, s_zipL, s_zipT, s_enL, s_seqL, s_seqT, s_minL, s_maxL, s_sum, s_isBl, s_fld, s_vNil, s_vCons, s_frzL, s_frzI, at0, at1, at2, at3, ix30, ix31, ix32, pT_cons, oT_cons, iT_cons, Option.map_some, s_none, s_put0, s_put, s_find, s_join, notInS_of, inS_of, eq_self]
      exact hk
    · rw [List.map_id']; exact hk
  · rw [List.map_id']
    simp only [sNil, sCons, sIf, sAsg, sOwn, sFor, sRet, sRetN, sRetO, sRetNew, sExpr, sApp, sSetIx, sPass, DL.sFld, sNever, s_lk, sLcO, sLcV, eVar, eFrz, eC, eNew, eAnd, eOr, eNot, eIf, eOp, eNeg, eIsN, eNotN, eFld, eFldO, eIxO, eLenO, eTup, eB, eTuple, eFind, eJoin, eIsi, eCall, eCallT, eChain, nLst, nList, nComp, nCall, nCallT, nMake, nRep, nCat, nCatO, oNone, oSome, nSlice, bVal, bAnd, bOr, bNot, bOp, bChain, bIsN, bNotN, bYes, aNil, aCons, qNil, qVal, iSq, iR1, iR2, iZp, iEn, sPopAt, gNm, gTp, gConsD, gNilD, onMade, gt, ownAll, mkSl, wb, endsD, mrg, startD, kAdd, kSub, kMul, kMod, kDiv, kPow, kShr, kLt, kLe, kGt, kGe, isNon, br_decide, br_t, br_f, Bool.not_true, Bool.not_false, List.map_cons, List.map_nil, List.length_cons, List.length_nil, List.replicate, List.cons_append, List.nil_append, List.set_cons_zero, List.set_cons_succ, List.set_nil, wipeD, back, noOwn, true_and, and_true, List.length_map, List.reduceReplicate, Nat.reduceSub, Nat.reduceAdd, Int.reduceNeg, reduceCtorEq, if_true, if_false, Bool.true_eq_false, Bool.false_eq_true, ite_true, ite_false, s_onVal, s_onOwn, s_onLst, s_onIns, s_onL, s_onBl, s_some, s_kI, s_addI, s_addS, s_neg, s_eqI, s_neI, s_eqS, s_neS, s_ixL, s_ixT, s_ixS, s_ixO, s_lenS, s_lenL, s_lenT, s_abs, s_intI, s_intB, s_max2, s_min2, s_itL, s_itT, s_itS, s_rng1, s_rng2, s_zipL, s_zipT, s_enL, s_seqL, s_seqT, s_minL, s_maxL, s_sum, s_isBl, s_fld, s_vNil, s_vCons, s_frzL, s_frzI, at0, at1, at2, at3, ix30, ix31, ix32, pT_cons, oT_cons, iT_cons, Option.map_some, s_none, s_put0, s_put, s_find, s_join, notInS_of, inS_of, eq_self]
    exact h


theorem p_is_asks (K : PySem.W.Frag) (kf : KF K) : ∀ sl Q E, T_is_asks K sl Q E → m_is_asks K (endsD [] sl Q E) (startD N_is_asks sl) := by
  refine pT_in ?_
  rintro ds Q E ⟨a, rfl, ha, h⟩
  unfold m_is_asks
  simp only [isStr, sNil, sCons, sIf, sAsg, sOwn, sFor, sRet, sRetN, sRetO, sRetNew, sExpr, sApp, sSetIx, sPass, DL.sFld, sNever, s_lk, sLcO, sLcV, eVar, eFrz, eC, eNew, eAnd, eOr, eNot, eIf, eOp, eNeg, eIsN, eNotN, eFld, eFldO, eIxO, eLenO, eTup, eB, eTuple, eFind, eJoin, eIsi, eCall, eCallT, eChain, nLst, nList, nComp, nCall, nCallT, nMake, nRep, nCat, nCatO, oNone, oSome, nSlice, bVal, bAnd, bOr, bNot, bOp, bChain, bIsN, bNotN, bYes, aNil, aCons, qNil, qVal, iSq, iR1, iR2, iZp, iEn, sPopAt, gNm, gTp, gConsD, gNilD, onMade, gt, ownAll, mkSl, wb, endsD, mrg, startD, kAdd, kSub, kMul, kMod, kDiv, kPow, kShr, kLt, kLe, kGt, kGe, isNon, br_decide, br_t, br_f, Bool.not_true, Bool.not_false, List.map_cons, List.map_nil, List.length_cons, List.length_nil, List.replicate, List.cons_append, List.nil_append, List.set_cons_zero, List.set_cons_succ, List.set_nil, wipeD, back, noOwn, true_and, and_true, List.length_map, List.reduceReplicate, Nat.reduceSub, Nat.reduceAdd, Int.reduceNeg, reduceCtorEq, if_true, if_false, Bool.true_eq_false, Bool.false_eq_true, ite_true, ite_false, s_onVal, s_onOwn, s_onLst, s_onIns, s_onL, s_onBl, s_some, s_kI, s_addI, s_addS, s_neg, s_eqI, s_neI, s_eqS, s_neS, s_ixL, s_ixT, s_ixS, s_ixO, s_lenS, s_lenL, s_lenT, s_abs, s_intI, s_intB, s_max2, s_min2, s_itL, s_itT, s_itS, s_rng1, s_rng2, s_zipL, s_zipT, s_enL, s_seqL, s_seqT, s_minL, s_maxL, s_sum, s_isBl, s_fld, s_vNil, s_vCons, s_frzL, s_frzI, at0, at1, at2, at3, ix30, ix31, ix32, pT_cons, oT_cons, iT_cons, Option.map_some, s_none, s_put0, s_put, s_find, s_join, notInS_of, inS_of, eq_self]
  have l := ha.len
  have e1 : ¬ ((a.length : Int) < 1) := by omega
  refine ⟨small (m := 4) l.2, ?_⟩
  refine ⟨fun _ => ?_, fun c => absurd (by omega) c⟩
  rw [decide_eq_true (show (a.length : Int) ≤ 4 by omega)]
  simp only [sNil, sCons, sIf, sAsg, sOwn, sFor, sRet, sRetN, sRetO, sRetNew, sExpr, sApp, sSetIx, sPass, DL.sFld, sNever, s_lk, sLcO, sLcV, eVar, eFrz, eC, eNew, eAnd, eOr, eNot, eIf, eOp, eNeg, eIsN, eNotN, eFld, eFldO, eIxO, eLenO, eTup, eB, eTuple, eFind, eJoin, eIsi, eCall, eCallT, eChain, nLst, nList, nComp, nCall, nCallT, nMake, nRep, nCat, nCatO, oNone, oSome, nSlice, bVal, bAnd, bOr, bNot, bOp, bChain, bIsN, bNotN, bYes, aNil, aCons, qNil, qVal, iSq, iR1, iR2, iZp, iEn, sPopAt, gNm, gTp, gConsD, gNilD, onMade, gt, ownAll, mkSl, wb, endsD, mrg, startD, kAdd, kSub, kMul, kMod, kDiv, kPow, kShr, kLt, kLe, kGt, kGe, isNon, br_decide, br_t, br_f, Bool.not_true, Bool.not_false, List.map_cons, List.map_nil, List.length_cons, List.length_nil, List.replicate, List.cons_append, List.nil_append, List.set_cons_zero, List.set_cons_succ, List.set_nil, wipeD, back, noOwn, true_and, and_true, List.length_map, List.reduceReplicate, Nat.reduceSub, Nat.reduceAdd, Int.reduceNeg, reduceCtorEq, if_true, if_false, Bool.true_eq_false, Bool.false_eq_true, ite_true, ite_false, s_onVal, s_onOwn, s_onLst, s_onIns, s_onL, s_onBl, s_some, s_kI, s_addI, s_addS, s_neg, s_eqI, s_neI, s_eqS, s_neS, s_ixL, s_ixT, s_ixS, s_ixO, s_lenS, s_lenL, s_lenT, s_abs, s_intI, s_intB, s_max2, s_min2, s_itL, s_itT, s_itS, s_rng1, s_rng2, s_zipL, s_zipT, s_enL, s_seqL, s_seqT, s_minL, s_maxL, s_sum, s_isBl, s_fld, s_vNil, s_vCons, s_frzL, s_frzI, at0, at1, at2, at3, ix30, ix31, ix32, pT_cons, oT_cons, iT_cons, Option.map_some, s_none, s_put0, s_put, s_find, s_join, notInS_of, inS_of, eq_self]
  refine forL_inv (fun rest ρ => ∃ (last : Int) (x2 x3 : Sl) (cs : List Nat), rest = cs.map (fun c => D.str ⟨#[c]⟩) ∧ ascB last cs = true ∧ ρ = [.val (.str a), .val (.int last), x2, x3]) _ _ (fun ρ ⟨last, x2, x3, cs, _, _, e⟩ => ?_) (fun d ds ρ ⟨last, x2, x3, cs, hr, hb, e⟩ nx hn => ?_) ⟨-1, .un, .un, a.cps.toList, rfl, ha.asc, rfl⟩
  · subst e
    simp only [sNil, sCons, sIf, sAsg, sOwn, sFor, sRet, sRetN, sRetO, sRetNew, sExpr, sApp, sSetIx, sPass, DL.sFld, sNever, s_lk, sLcO, sLcV, eVar, eFrz, eC, eNew, eAnd, eOr, eNot, eIf, eOp, eNeg, eIsN, eNotN, eFld, eFldO, eIxO, eLenO, eTup, eB, eTuple, eFind, eJoin, eIsi, eCall, eCallT, eChain, nLst, nList, nComp, nCall, nCallT, nMake, nRep, nCat, nCatO, oNone, oSome, nSlice, bVal, bAnd, bOr, bNot, bOp, bChain, bIsN, bNotN, bYes, aNil, aCons, qNil, qVal, iSq, iR1, iR2, iZp, iEn, sPopAt, gNm, gTp, gConsD, gNilD, onMade, gt, ownAll, mkSl, wb, endsD, mrg, startD, kAdd, kSub, kMul, kMod, kDiv, kPow, kShr, kLt, kLe, kGt, kGe, isNon, br_decide, br_t, br_f, Bool.not_true, Bool.not_false, List.map_cons, List.map_nil, List.length_cons, List.length_nil, List.replicate, List.cons_append, List.nil_append, List.set_cons_zero, List.set_cons_succ, List.set_nil, wipeD, back, noOwn, true_and, and_true, List.length_map, List.reduceReplicate, Nat.reduceSub, Nat.reduceAdd, Int.reduceNeg, reduceCtorEq, if_true, if_false, Bool.true_eq_false, Bool.false_eq_true, ite_true, ite_false, s_onVal, s_onOwn, s_onLst, s_onIns, s_onL, s_onBl, s_some, s_kI, s_addI, s_addS, s_neg, s_eqI, s_neI, s_eqS, s_neS, s_ixL, s_ixT, s_ixS, s_ixO, s_lenS, s_lenL, s_lenT, s_abs, s_intI, s_intB, s_max2, s_min2, s_itL, s_itT, s_itS, s_rng1, s_rng2, s_zipL, s_zipT, s_enL, s_seqL, s_seqT, s_minL, s_maxL, s_sum, s_isBl, s_fld, s_vNil, s_vCons, s_frzL, s_frzI, at0, at1, at2, at3, ix30, ix31, ix32, pT_cons, oT_cons, iT_cons, Option.map_some, s_none, s_put0, s_put, s_find, s_join, notInS_of, inS_of, eq_self]
    exact h
  · subst e
    cases cs with
    | nil => cases hr
    | cons c cs =>
      simp only [List.map_cons, List.cons.injEq] at hr
      obtain ⟨rfl, rfl⟩ := hr
      simp only [ascB, Bool.and_eq_true, decide_eq_true_eq] at hb
      unfold m_is_asks_1
      simp only [sNil, sCons, sIf, sAsg, sOwn, sFor, sRet, sRetN, sRetO, sRetNew, sExpr, sApp, sSetIx, sPass, DL.sFld, sNever, s_lk, sLcO, sLcV, eVar, eFrz, eC, eNew, eAnd, eOr, eNot, eIf, eOp, eNeg, eIsN, eNotN, eFld, eFldO, eIxO, eLenO, eTup, eB, eTuple, eFind, eJoin, eIsi, eCall, eCallT, eChain, nLst, nList, nComp, nCall, nCallT, nMake, nRep, nCat, nCatO, oNone, oSome, nSlice, bVal, bAnd, bOr, bNot, bOp, bChain, bIsN, bNotN, bYes, aNil, aCons, qNil, qVal, iSq, iR1, iR2, iZp, iEn, sPopAt, gNm, gTp, gConsD, gNilD, onMade, gt, ownAll, mkSl, wb, endsD, mrg, startD, kAdd, kSub, kMul, kMod, kDiv, kPow, kShr, kLt, kLe, kGt, kGe, isNon, br_decide, br_t, br_f, Bool.not_true, Bool.not_false, List.map_cons, List.map_nil, List.length_cons, List.length_nil, List.replicate, List.cons_append, List.nil_append, List.set_cons_zero, List.set_cons_succ, List.set_nil, wipeD, back, noOwn, true_and, and_true, List.length_map, List.reduceReplicate, Nat.reduceSub, Nat.reduceAdd, Int.reduceNeg, reduceCtorEq, if_true, if_false, Bool.true_eq_false, Bool.false_eq_true, ite_true, ite_false, s_onVal, s_onOwn, s_onLst, s_onIns, s_onL, s_onBl, s_some, s_kI, s_addI, s_addS, s_neg, s_eqI, s_neI, s_eqS, s_neS, s_ixL, s_ixT, s_ixS, s_ixO, s_lenS, s_lenL, s_lenT, s_abs, s_intI, s_intB, s_max2, s_min2, s_itL, s_itT, s_itS, s_rng1, s_rng2, s_zipL, s_zipT, s_enL, s_seqL, s_seqT, s_minL, s_maxL, s_sum, s_isBl, s_fld, s_vNil, s_vCons, s_frzL, s_frzI, at0, at1, at2, at3, ix30, ix31, ix32, pT_cons, oT_cons, iT_cons, Option.map_some, s_none, s_put0, s_put, s_find, s_join, notInS_of, inS_of, eq_self]
      refine ⟨fun hh => ?_, fun _ => hn _ ⟨_, _, _, cs, rfl, hb.2, rfl⟩⟩
      exact absurd hb.1 (by unfold ixOf; omega)

theorem p_check_asks (K : PySem.W.Frag) (kf : KF K) : ∀ sl Q E, T_check_asks K sl Q E → m_check_asks K (endsD [] sl Q E) (startD N_check_asks sl) := by
  refine pT_in ?_
  rintro ds Q E ⟨a, rfl, ha, h⟩
  unfold m_check_asks
  simp only [T_is_asks, sNil, sCons, sIf, sAsg, sOwn, sFor, sRet, sRetN, sRetO, sRetNew, sExpr, sApp, sSetIx, sPass, DL.sFld, sNever, s_lk, sLcO, sLcV, eVar, eFrz, eC, eNew, eAnd, eOr, eNot, eIf, eOp, eNeg, eIsN, eNotN, eFld, eFldO, eIxO, eLenO, eTup, eB, eTuple, eFind, eJoin, eIsi, eCall, eCallT, eChain, nLst, nList, nComp, nCall, nCallT, nMake, nRep, nCat, nCatO, oNone, oSome, nSlice, bVal, bAnd, bOr, bNot, bOp, bChain, bIsN, bNotN, bYes, aNil, aCons, qNil, qVal, iSq, iR1, iR2, iZp, iEn, sPopAt, gNm, gTp, gConsD, gNilD, onMade, gt, ownAll, mkSl, wb, endsD, mrg, startD, kAdd, kSub, kMul, kMod, kDiv, kPow, kShr, kLt, kLe, kGt, kGe, isNon, br_decide, br_t, br_f, Bool.not_true, Bool.not_false, List.map_cons, List.map_nil, List.length_cons, List.length_nil, List.replicate, List.cons_append, List.nil_append, List.set_cons_zero, List.set_cons_succ, List.set_nil, wipeD, back, noOwn, true_and, and_true, List.length_map, List.reduceReplicate, Nat.reduceSub, Nat.reduceAdd, Int.reduceNeg, reduceCtorEq, if_true, if_false, Bool.true_eq_false, Bool.false_eq_true, ite_true, ite_false, s_onVal, s_onOwn, s_onLst, s_onIns, s_onL, s_onBl, s_some, s_kI, s_addI, s_addS, s_neg, s_eqI, s_neI, s_eqS, s_neS, s_ixL, s_ixT, s_ixS, s_ixO, s_lenS, s_lenL, s_lenT, s_abs, s_intI, s_intB, s_max2, s_min2, s_itL, s_itT, s_itS, s_rng1, s_rng2, s_zipL, s_zipT, s_enL, s_seqL, s_seqT, s_minL, s_maxL, s_sum, s_isBl, s_fld, s_vNil, s_vCons, s_frzL, s_frzI, at0, at1, at2, at3, ix30, ix31, ix32, pT_cons, oT_cons, iT_cons, Option.map_some, s_none, s_put0, s_put, s_find, s_join, notInS_of, inS_of, eq_self]
  exact ⟨a, rfl, ha, h⟩

theorem p_is_listed (K : PySem.W.Frag) (kf : KF K) : ∀ sl Q E, T_is_listed K sl Q E → m_is_listed K (endsD [] sl Q E) (startD N_is_listed sl) := by
  refine pT_in ?_
  intro ds Q E h
  split at h
  · rename_i d
    unfold m_is_listed
    cases d <;> simp only [isSeq, sNil, sCons, sIf, sAsg, sOwn, sFor, sRet, sRetN, sRetO, sRetNew, sExpr, sApp, sSetIx, sPass, DL.sFld, sNever, s_lk, sLcO, sLcV, eVar, eFrz, eC, eNew, eAnd, eOr, eNot, eIf, eOp, eNeg, eIsN, eNotN, eFld, eFldO, eIxO, eLenO, eTup, eB, eTuple, eFind, eJoin, eIsi, eCall, eCallT, eChain, nLst, nList, nComp, nCall, nCallT, nMake, nRep, nCat, nCatO, oNone, oSome, nSlice, bVal, bAnd, bOr, bNot, bOp, bChain, bIsN, bNotN, bYes, aNil, aCons, qNil, qVal, iSq, iR1, iR2, iZp, iEn, sPopAt, gNm, gTp, gConsD, gNilD, onMade, gt, ownAll, mkSl, wb, endsD, mrg, startD, kAdd, kSub, kMul, kMod, kDiv, kPow, kShr, kLt, kLe, kGt, kGe, isNon, br_decide, br_t, br_f, Bool.not_true, Bool.not_false, List.map_cons, List.map_nil, List.length_cons, List.length_nil, List.replicate, List.cons_append, List.nil_append, List.set_cons_zero, List.set_cons_succ, List.set_nil, wipeD, back, noOwn, true_and, and_true, List.length_map, List.reduceReplicate, Nat.reduceSub, Nat.reduceAdd, Int.reduceNeg, reduceCtorEq, if_true, if_false, Bool.true_eq_false, Bool.false_eq_true, ite_true, ite_false, s_onVal, s_onOwn, s_onLst, s_onIns, s_onL, s_onBl, s_some, s_kI, s_addI, s_addS, s_neg, s_eqI, s_neI, s_eqS, s_neS, s_ixL, s_ixT, s_ixS, s_ixO, s_lenS, s_lenL, s_lenT, s_abs, s_intI, s_intB, s_max2, s_min2, s_itL, s_itT, s_itS, s_rng1, s_rng2, s_zipL, s_zipT, s_enL, s_seqL, s_seqT, s_minL, s_maxL, s_sum, s_isBl, s_fld, s_vNil, s_vCons, s_frzL, s_frzI, at0, at1, at2, at3, ix30, ix31, ix32, pT_cons, oT_cons, iT_cons, Option.map_some, s_none, s_put0, s_put, s_find, s_join, notInS_of, inS_of, eq_self] at h <;> simp only [isSeq, sNil, sCons, sIf, sAsg, sOwn, sFor, sRet, sRetN, sRetO, sRetNew, sExpr, sApp, sSetIx, sPass, DL.sFld, sNever, s_lk, sLcO, sLcV, eVar, eFrz, eC, eNew, eAnd, eOr, eNot, eIf, eOp, eNeg, eIsN, eNotN, eFld, eFldO, eIxO, eLenO, eTup, eB, eTuple, eFind, eJoin, eIsi, eCall, eCallT, eChain, nLst, nList, nComp, nCall, nCallT, nMake, nRep, nCat, nCatO, oNone, oSome, nSlice, bVal, bAnd, bOr, bNot, bOp, bChain, bIsN, bNotN, bYes, aNil, aCons, qNil, qVal, iSq, iR1, iR2, iZp, iEn, sPopAt, gNm, gTp, gConsD, gNilD, onMade, gt, ownAll, mkSl, wb, endsD, mrg, startD, kAdd, kSub, kMul, kMod, kDiv, kPow, kShr, kLt, kLe, kGt, kGe, isNon, br_decide, br_t, br_f, Bool.not_true, Bool.not_false, List.map_cons, List.map_nil, List.length_cons, List.length_nil, List.replicate, List.cons_append, List.nil_append, List.set_cons_zero, List.set_cons_succ, List.set_nil, wipeD, back, noOwn, true_and, and_true, List.length_map, List.reduceReplicate, Nat.reduceSub, Nat.reduceAdd, Int.reduceNeg, reduceCtorEq, if_true, if_false, Bool.true_eq_false, Bool.false_eq_true, ite_true, ite_false, s_onVal, s_onOwn, s_onLst, s_onIns, s_onL, s_onBl, s_some, s_kI, s_addI, s_addS, s_neg, s_eqI, s_neI, s_eqS, s_neS, s_ixL, s_ixT, s_ixS, s_ixO, s_lenS, s_lenL, s_lenT, s_abs, s_intI, s_intB, s_max2, s_min2, s_itL, s_itT, s_itS, s_rng1, s_rng2, s_zipL, s_zipT, s_enL, s_seqL, s_seqT, s_minL, s_maxL, s_sum, s_isBl, s_fld, s_vNil, s_vCons, s_frzL, s_frzI, at0, at1, at2, at3, ix30, ix31, ix32, pT_cons, oT_cons, iT_cons, Option.map_some, s_none, s_put0, s_put, s_find, s_join, notInS_of, inS_of, eq_self] <;> exact h
  · exact h.elim

theorem p_is_integer (K : PySem.W.Frag) (kf : KF K) : ∀ sl Q E, T_is_integer K sl Q E → m_is_integer K (endsD [] sl Q E) (startD N_is_integer sl) := by
  refine pT_in ?_
  intro ds Q E h
  split at h
  · rename_i d
    unfold m_is_integer
    cases d <;> simp only [isNum, sNil, sCons, sIf, sAsg, sOwn, sFor, sRet, sRetN, sRetO, sRetNew, sExpr, sApp, sSetIx, sPass, DL.sFld, sNever, s_lk, sLcO, sLcV, eVar, eFrz, eC, eNew, eAnd, eOr, eNot, eIf, eOp, eNeg, eIsN, eNotN, eFld, eFldO, eIxO, eLenO, eTup, eB, eTuple, eFind, eJoin, eIsi, eCall, eCallT, eChain, nLst, nList, nComp, nCall, nCallT, nMake, nRep, nCat, nCatO, oNone, oSome, nSlice, bVal, bAnd, bOr, bNot, bOp, bChain, bIsN, bNotN, bYes, aNil, aCons, qNil, qVal, iSq, iR1, iR2, iZp, iEn, sPopAt, gNm, gTp, gConsD, gNilD, onMade, gt, ownAll, mkSl, wb, endsD, mrg, startD, kAdd, kSub, kMul, kMod, kDiv, kPow, kShr, kLt, kLe, kGt, kGe, isNon, br_decide, br_t, br_f, Bool.not_true, Bool.not_false, List.map_cons, List.map_nil, List.length_cons, List.length_nil, List.replicate, List.cons_append, List.nil_append, List.set_cons_zero, List.set_cons_succ, List.set_nil, wipeD, back, noOwn, true_and, and_true, List.length_map, List.reduceReplicate, Nat.reduceSub, Nat.reduceAdd, Int.reduceNeg, reduceCtorEq, if_true, if_false, Bool.true_eq_false, Bool.false_eq_true, ite_true, ite_false, s_onVal, s_onOwn, s_onLst, s_onIns, s_onL, s_onBl, s_some, s_kI, s_addI, s_addS, s_neg, s_eqI, s_neI, s_eqS, s_neS, s_ixL, s_ixT, s_ixS, s_ixO, s_lenS, s_lenL, s_lenT, s_abs, s_intI, s_intB, s_max2, s_min2, s_itL, s_itT, s_itS, s_rng1, s_rng2, s_zipL, s_zipT, s_enL, s_seqL, s_seqT, s_minL, s_maxL, s_sum, s_isBl, s_fld, s_vNil, s_vCons, s_frzL, s_frzI, at0, at1, at2, at3, ix30, ix31, ix32, pT_cons, oT_cons, iT_cons, Option.map_some, s_none, s_put0, s_put, s_find, s_join, notInS_of, inS_of, eq_self] at h <;> simp only [isInt, isBool, sNil, sCons, sIf, sAsg, sOwn, sFor, sRet, sRetN, sRetO, sRetNew, sExpr, sApp, sSetIx, sPass, DL.sFld, sNever, s_lk, sLcO, sLcV, eVar, eFrz, eC, eNew, eAnd, eOr, eNot, eIf, eOp, eNeg, eIsN, eNotN, eFld, eFldO, eIxO, eLenO, eTup, eB, eTuple, eFind, eJoin, eIsi, eCall, eCallT, eChain, nLst, nList, nComp, nCall, nCallT, nMake, nRep, nCat, nCatO, oNone, oSome, nSlice, bVal, bAnd, bOr, bNot, bOp, bChain, bIsN, bNotN, bYes, aNil, aCons, qNil, qVal, iSq, iR1, iR2, iZp, iEn, sPopAt, gNm, gTp, gConsD, gNilD, onMade, gt, ownAll, mkSl, wb, endsD, mrg, startD, kAdd, kSub, kMul, kMod, kDiv, kPow, kShr, kLt, kLe, kGt, kGe, isNon, br_decide, br_t, br_f, Bool.not_true, Bool.not_false, List.map_cons, List.map_nil, List.length_cons, List.length_nil, List.replicate, List.cons_append, List.nil_append, List.set_cons_zero, List.set_cons_succ, List.set_nil, wipeD, back, noOwn, true_and, and_true, List.length_map, List.reduceReplicate, Nat.reduceSub, Nat.reduceAdd, Int.reduceNeg, reduceCtorEq, if_true, if_false, Bool.true_eq_false, Bool.false_eq_true, ite_true, ite_false, s_onVal, s_onOwn, s_onLst, s_onIns, s_onL, s_onBl, s_some, s_kI, s_addI, s_addS, s_neg, s_eqI, s_neI, s_eqS, s_neS, s_ixL, s_ixT, s_ixS, s_ixO, s_lenS, s_lenL, s_lenT, s_abs, s_intI, s_intB, s_max2, s_min2, s_itL, s_itT, s_itS, s_rng1, s_rng2, s_zipL, s_zipT, s_enL, s_seqL, s_seqT, s_minL, s_maxL, s_sum, s_isBl, s_fld, s_vNil, s_vCons, s_frzL, s_frzI, at0, at1, at2, at3, ix30, ix31, ix32, pT_cons, oT_cons, iT_cons, Option.map_some, s_none, s_put0, s_put, s_find, s_join, notInS_of, inS_of, eq_self] <;> exact h
  · exact h.elim

theorem p_integers (K : PySem.W.Frag) (kf : KF K) : ∀ sl Q E, T_integers K sl Q E → m_integers K (endsD [] sl Q E) (startD N_integers sl) := by
  refine pT_in ?_
  rintro ds Q E ⟨l, n, rfl, rfl, h⟩
  unfold m_integers
  simp only [T_is_listed, isSeq, iL, decide_true, sNil, sCons, sIf, sAsg, sOwn, sFor, sRet, sRetN, sRetO, sRetNew, sExpr, sApp, sSetIx, sPass, DL.sFld, sNever, s_lk, sLcO, sLcV, eVar, eFrz, eC, eNew, eAnd, eOr, eNot, eIf, eOp, eNeg, eIsN, eNotN, eFld, eFldO, eIxO, eLenO, eTup, eB, eTuple, eFind, eJoin, eIsi, eCall, eCallT, eChain, nLst, nList, nComp, nCall, nCallT, nMake, nRep, nCat, nCatO, oNone, oSome, nSlice, bVal, bAnd, bOr, bNot, bOp, bChain, bIsN, bNotN, bYes, aNil, aCons, qNil, qVal, iSq, iR1, iR2, iZp, iEn, sPopAt, gNm, gTp, gConsD, gNilD, onMade, gt, ownAll, mkSl, wb, endsD, mrg, startD, kAdd, kSub, kMul, kMod, kDiv, kPow, kShr, kLt, kLe, kGt, kGe, isNon, br_decide, br_t, br_f, Bool.not_true, Bool.not_false, List.map_cons, List.map_nil, List.length_cons, List.length_nil, List.replicate, List.cons_append, List.nil_append, List.set_cons_zero, List.set_cons_succ, List.set_nil, wipeD, back, noOwn, true_and, and_true, List.length_map, List.reduceReplicate, Nat.reduceSub, Nat.reduceAdd, Int.reduceNeg, reduceCtorEq, if_true, if_false, Bool.true_eq_false, Bool.false_eq_true, ite_true, ite_false, s_onVal, s_onOwn, s_onLst, s_onIns, s_onL, s_onBl, s_some, s_kI, s_addI, s_addS, s_neg, s_eqI, s_neI, s_eqS, s_neS, s_ixL, s_ixT, s_ixS, s_ixO, s_lenS, s_lenL, s_lenT, s_abs, s_intI, s_intB, s_max2, s_min2, s_itL, s_itT, s_itS, s_rng1, s_rng2, s_zipL, s_zipT, s_enL, s_seqL, s_seqT, s_minL, s_maxL, s_sum, s_isBl, s_fld, s_vNil, s_vCons, s_frzL, s_frzI, at0, at1, at2, at3, ix30, ix31, ix32, pT_cons, oT_cons, iT_cons, Option.map_some, s_none, s_put0, s_put, s_find, s_join, notInS_of, inS_of, eq_self]
  refine forL_all (fun ρ => ∃ x, ρ = [.val (iL l), .val (.int l.length), x]) (fun _ => True) _ _ (fun d hd ρ ⟨x, e⟩ nx h1 _ => ?_) (fun _ ρ ⟨x, e⟩ => ?_) (fun ⟨_, _, z⟩ => (z trivial).elim) ⟨_, rfl⟩
  · subst e
    obtain ⟨i, _, rfl⟩ := List.mem_map.mp hd
    unfold m_integers_1
    simp only [T_is_integer, isNum, sNil, sCons, sIf, sAsg, sOwn, sFor, sRet, sRetN, sRetO, sRetNew, sExpr, sApp, sSetIx, sPass, DL.sFld, sNever, s_lk, sLcO, sLcV, eVar, eFrz, eC, eNew, eAnd, eOr, eNot, eIf, eOp, eNeg, eIsN, eNotN, eFld, eFldO, eIxO, eLenO, eTup, eB, eTuple, eFind, eJoin, eIsi, eCall, eCallT, eChain, nLst, nList, nComp, nCall, nCallT, nMake, nRep, nCat, nCatO, oNone, oSome, nSlice, bVal, bAnd, bOr, bNot, bOp, bChain, bIsN, bNotN, bYes, aNil, aCons, qNil, qVal, iSq, iR1, iR2, iZp, iEn, sPopAt, gNm, gTp, gConsD, gNilD, onMade, gt, ownAll, mkSl, wb, endsD, mrg, startD, kAdd, kSub, kMul, kMod, kDiv, kPow, kShr, kLt, kLe, kGt, kGe, isNon, br_decide, br_t, br_f, Bool.not_true, Bool.not_false, List.map_cons, List.map_nil, List.length_cons, List.length_nil, List.replicate, List.cons_append, List.nil_append, List.set_cons_zero, List.set_cons_succ, List.set_nil, wipeD, back, noOwn, true_and, and_true, List.length_map, List.reduceReplicate, Nat.reduceSub, Nat.reduceAdd, Int.reduceNeg, reduceCtorEq, if_true, if_false, Bool.true_eq_false, Bool.false_eq_true, ite_true, ite_false, s_onVal, s_onOwn, s_onLst, s_onIns, s_onL, s_onBl, s_some, s_kI, s_addI, s_addS, s_neg, s_eqI, s_neI, s_eqS, s_neS, s_ixL, s_ixT, s_ixS, s_ixO, s_lenS, s_lenL, s_lenT, s_abs, s_intI, s_intB, s_max2, s_min2, s_itL, s_itT, s_itS, s_rng1, s_rng2, s_zipL, s_zipT, s_enL, s_seqL, s_seqT, s_minL, s_maxL, s_sum, s_isBl, s_fld, s_vNil, s_vCons, s_frzL, s_frzI, at0, at1, at2, at3, ix30, ix31, ix32, pT_cons, oT_cons, iT_cons, Option.map_some, s_none, s_put0, s_put, s_find, s_join, notInS_of, inS_of, eq_self]
    exact h1 trivial _ ⟨_, rfl⟩
  · subst e
    simp only [sNil, sCons, sIf, sAsg, sOwn, sFor, sRet, sRetN, sRetO, sRetNew, sExpr, sApp, sSetIx, sPass, DL.sFld, sNever, s_lk, sLcO, sLcV, eVar, eFrz, eC, eNew, eAnd, eOr, eNot, eIf, eOp, eNeg, eIsN, eNotN, eFld, eFldO, eIxO, eLenO, eTup, eB, eTuple, eFind, eJoin, eIsi, eCall, eCallT, eChain, nLst, nList, nComp, nCall, nCallT, nMake, nRep, nCat, nCatO, oNone, oSome, nSlice, bVal, bAnd, bOr, bNot, bOp, bChain, bIsN, bNotN, bYes, aNil, aCons, qNil, qVal, iSq, iR1, iR2, iZp, iEn, sPopAt, gNm, gTp, gConsD, gNilD, onMade, gt, ownAll, mkSl, wb, endsD, mrg, startD, kAdd, kSub, kMul, kMod, kDiv, kPow, kShr, kLt, kLe, kGt, kGe, isNon, br_decide, br_t, br_f, Bool.not_true, Bool.not_false, List.map_cons, List.map_nil, List.length_cons, List.length_nil, List.replicate, List.cons_append, List.nil_append, List.set_cons_zero, List.set_cons_succ, List.set_nil, wipeD, back, noOwn, true_and, and_true, List.length_map, List.reduceReplicate, Nat.reduceSub, Nat.reduceAdd, Int.reduceNeg, reduceCtorEq, if_true, if_false, Bool.true_eq_false, Bool.false_eq_true, ite_true, ite_false, s_onVal, s_onOwn, s_onLst, s_onIns, s_onL, s_onBl, s_some, s_kI, s_addI, s_addS, s_neg, s_eqI, s_neI, s_eqS, s_neS, s_ixL, s_ixT, s_ixS, s_ixO, s_lenS, s_lenL, s_lenT, s_abs, s_intI, s_intB, s_max2, s_min2, s_itL, s_itT, s_itS, s_rng1, s_rng2, s_zipL, s_zipT, s_enL, s_seqL, s_seqT, s_minL, s_maxL, s_sum, s_isBl, s_fld, s_vNil, s_vCons, s_frzL, s_frzI, at0, at1, at2, at3, ix30, ix31, ix32, pT_cons, oT_cons, iT_cons, Option.map_some, s_none, s_put0, s_put, s_find, s_join, notInS_of, inS_of, eq_self]
    exact h

theorem p_is_table (K : PySem.W.Frag) (kf : KF K) : ∀ sl Q E, T_is_table K sl Q E → m_is_table K (endsD [] sl Q E) (startD N_is_table sl) := by
  refine pT_in ?_
  rintro ds Q E ⟨t, n, rfl, ht, h⟩
  unfold m_is_table
  simp only [T_is_listed, isSeq, tL, ht.1, decide_true, sNil, sCons, sIf, sAsg, sOwn, sFor, sRet, sRetN, sRetO, sRetNew, sExpr, sApp, sSetIx, sPass, DL.sFld, sNever, s_lk, sLcO, sLcV, eVar, eFrz, eC, eNew, eAnd, eOr, eNot, eIf, eOp, eNeg, eIsN, eNotN, eFld, eFldO, eIxO, eLenO, eTup, eB, eTuple, eFind, eJoin, eIsi, eCall, eCallT, eChain, nLst, nList, nComp, nCall, nCallT, nMake, nRep, nCat, nCatO, oNone, oSome, nSlice, bVal, bAnd, bOr, bNot, bOp, bChain, bIsN, bNotN, bYes, aNil, aCons, qNil, qVal, iSq, iR1, iR2, iZp, iEn, sPopAt, gNm, gTp, gConsD, gNilD, onMade, gt, ownAll, mkSl, wb, endsD, mrg, startD, kAdd, kSub, kMul, kMod, kDiv, kPow, kShr, kLt, kLe, kGt, kGe, isNon, br_decide, br_t, br_f, Bool.not_true, Bool.not_false, List.map_cons, List.map_nil, List.length_cons, List.length_nil, List.replicate, List.cons_append, List.nil_append, List.set_cons_zero, List.set_cons_succ, List.set_nil, wipeD, back, noOwn, true_and, and_true, List.length_map, List.reduceReplicate, Nat.reduceSub, Nat.reduceAdd, Int.reduceNeg, reduceCtorEq, if_true, if_false, Bool.true_eq_false, Bool.false_eq_true, ite_true, ite_false, s_onVal, s_onOwn, s_onLst, s_onIns, s_onL, s_onBl, s_some, s_kI, s_addI, s_addS, s_neg, s_eqI, s_neI, s_eqS, s_neS, s_ixL, s_ixT, s_ixS, s_ixO, s_lenS, s_lenL, s_lenT, s_abs, s_intI, s_intB, s_max2, s_min2, s_itL, s_itT, s_itS, s_rng1, s_rng2, s_zipL, s_zipT, s_enL, s_seqL, s_seqT, s_minL, s_maxL, s_sum, s_isBl, s_fld, s_vNil, s_vCons, s_frzL, s_frzI, at0, at1, at2, at3, ix30, ix31, ix32, pT_cons, oT_cons, iT_cons, Option.map_some, s_none, s_put0, s_put, s_find, s_join, notInS_of, inS_of, eq_self]
  refine forL_all (fun ρ => ∃ x, ρ = [.val (tL t), .val (.int n), x]) (fun _ => True) _ _ (fun d hd ρ ⟨x, e⟩ nx h1 _ => ?_) (fun _ ρ ⟨x, e⟩ => ?_) (fun ⟨_, _, z⟩ => (z trivial).elim) ⟨_, rfl⟩
  · subst e
    obtain ⟨l, hl, rfl⟩ := List.mem_map.mp hd
    unfold m_is_table_1
    simp only [T_integers, isNum, sNil, sCons, sIf, sAsg, sOwn, sFor, sRet, sRetN, sRetO, sRetNew, sExpr, sApp, sSetIx, sPass, DL.sFld, sNever, s_lk, sLcO, sLcV, eVar, eFrz, eC, eNew, eAnd, eOr, eNot, eIf, eOp, eNeg, eIsN, eNotN, eFld, eFldO, eIxO, eLenO, eTup, eB, eTuple, eFind, eJoin, eIsi, eCall, eCallT, eChain, nLst, nList, nComp, nCall, nCallT, nMake, nRep, nCat, nCatO, oNone, oSome, nSlice, bVal, bAnd, bOr, bNot, bOp, bChain, bIsN, bNotN, bYes, aNil, aCons, qNil, qVal, iSq, iR1, iR2, iZp, iEn, sPopAt, gNm, gTp, gConsD, gNilD, onMade, gt, ownAll, mkSl, wb, endsD, mrg, startD, kAdd, kSub, kMul, kMod, kDiv, kPow, kShr, kLt, kLe, kGt, kGe, isNon, br_decide, br_t, br_f, Bool.not_true, Bool.not_false, List.map_cons, List.map_nil, List.length_cons, List.length_nil, List.replicate, List.cons_append, List.nil_append, List.set_cons_zero, List.set_cons_succ, List.set_nil, wipeD, back, noOwn, true_and, and_true, List.length_map, List.reduceReplicate, Nat.reduceSub, Nat.reduceAdd, Int.reduceNeg, reduceCtorEq, if_true, if_false, Bool.true_eq_false, Bool.false_eq_true, ite_true, ite_false, s_onVal, s_onOwn, s_onLst, s_onIns, s_onL, s_onBl, s_some, s_kI, s_addI, s_addS, s_neg, s_eqI, s_neI, s_eqS, s_neS, s_ixL, s_ixT, s_ixS, s_ixO, s_lenS, s_lenL, s_lenT, s_abs, s_intI, s_intB, s_max2, s_min2, s_itL, s_itT, s_itS, s_rng1, s_rng2, s_zipL, s_zipT, s_enL, s_seqL, s_seqT, s_minL, s_maxL, s_sum, s_isBl, s_fld, s_vNil, s_vCons, s_frzL, s_frzI, at0, at1, at2, at3, ix30, ix31, ix32, pT_cons, oT_cons, iT_cons, Option.map_some, s_none, s_put0, s_put, s_find, s_join, notInS_of, inS_of, eq_self]
    exact ⟨l, n, rfl, by rw [ht.2 l hl], h1 trivial _ ⟨_, rfl⟩⟩
  · subst e
    simp only [sNil, sCons, sIf, sAsg, sOwn, sFor, sRet, sRetN, sRetO, sRetNew, sExpr, sApp, sSetIx, sPass, DL.sFld, sNever, s_lk, sLcO, sLcV, eVar, eFrz, eC, eNew, eAnd, eOr, eNot, eIf, eOp, eNeg, eIsN, eNotN, eFld, eFldO, eIxO, eLenO, eTup, eB, eTuple, eFind, eJoin, eIsi, eCall, eCallT, eChain, nLst, nList, nComp, nCall, nCallT, nMake, nRep, nCat, nCatO, oNone, oSome, nSlice, bVal, bAnd, bOr, bNot, bOp, bChain, bIsN, bNotN, bYes, aNil, aCons, qNil, qVal, iSq, iR1, iR2, iZp, iEn, sPopAt, gNm, gTp, gConsD, gNilD, onMade, gt, ownAll, mkSl, wb, endsD, mrg, startD, kAdd, kSub, kMul, kMod, kDiv, kPow, kShr, kLt, kLe, kGt, kGe, isNon, br_decide, br_t, br_f, Bool.not_true, Bool.not_false, List.map_cons, List.map_nil, List.length_cons, List.length_nil, List.replicate, List.cons_append, List.nil_append, List.set_cons_zero, List.set_cons_succ, List.set_nil, wipeD, back, noOwn, true_and, and_true, List.length_map, List.reduceReplicate, Nat.reduceSub, Nat.reduceAdd, Int.reduceNeg, reduceCtorEq, if_true, if_false, Bool.true_eq_false, Bool.false_eq_true, ite_true, ite_false, s_onVal, s_onOwn, s_onLst, s_onIns, s_onL, s_onBl, s_some, s_kI, s_addI, s_addS, s_neg, s_eqI, s_neI, s_eqS, s_neS, s_ixL, s_ixT, s_ixS, s_ixO, s_lenS, s_lenL, s_lenT, s_abs, s_intI, s_intB, s_max2, s_min2, s_itL, s_itT, s_itS, s_rng1, s_rng2, s_zipL, s_zipT, s_enL, s_seqL, s_seqT, s_minL, s_maxL, s_sum, s_isBl, s_fld, s_vNil, s_vCons, s_frzL, s_frzI, at0, at1, at2, at3, ix30, ix31, ix32, pT_cons, oT_cons, iT_cons, Option.map_some, s_none, s_put0, s_put, s_find, s_join, notInS_of, inS_of, eq_self]
    exact h

theorem p_are_costs (K : PySem.W.Frag) (kf : KF K) : ∀ sl Q E, T_are_costs K sl Q E → m_are_costs K (endsD [] sl Q E) (startD N_are_costs sl) := by
  refine pT_in ?_
  rintro ds Q E ⟨c, a, n, rfl, hc, ha, hq, h⟩
  unfold m_are_costs
  simp only [T_is_listed, isSeq, hc, decide_true, sNil, sCons, sIf, sAsg, sOwn, sFor, sRet, sRetN, sRetO, sRetNew, sExpr, sApp, sSetIx, sPass, DL.sFld, sNever, s_lk, sLcO, sLcV, eVar, eFrz, eC, eNew, eAnd, eOr, eNot, eIf, eOp, eNeg, eIsN, eNotN, eFld, eFldO, eIxO, eLenO, eTup, eB, eTuple, eFind, eJoin, eIsi, eCall, eCallT, eChain, nLst, nList, nComp, nCall, nCallT, nMake, nRep, nCat, nCatO, oNone, oSome, nSlice, bVal, bAnd, bOr, bNot, bOp, bChain, bIsN, bNotN, bYes, aNil, aCons, qNil, qVal, iSq, iR1, iR2, iZp, iEn, sPopAt, gNm, gTp, gConsD, gNilD, onMade, gt, ownAll, mkSl, wb, endsD, mrg, startD, kAdd, kSub, kMul, kMod, kDiv, kPow, kShr, kLt, kLe, kGt, kGe, isNon, br_decide, br_t, br_f, Bool.not_true, Bool.not_false, List.map_cons, List.map_nil, List.length_cons, List.length_nil, List.replicate, List.cons_append, List.nil_append, List.set_cons_zero, List.set_cons_succ, List.set_nil, wipeD, back, noOwn, true_and, and_true, List.length_map, List.reduceReplicate, Nat.reduceSub, Nat.reduceAdd, Int.reduceNeg, reduceCtorEq, if_true, if_false, Bool.true_eq_false, Bool.false_eq_true, ite_true, ite_false, s_onVal, s_onOwn, s_onLst, s_onIns, s_onL, s_onBl, s_some, s_kI, s_addI, s_addS, s_neg, s_eqI, s_neI, s_eqS, s_neS, s_ixL, s_ixT, s_ixS, s_ixO, s_lenS, s_lenL, s_lenT, s_abs, s_intI, s_intB, s_max2, s_min2, s_itL, s_itT, s_itS, s_rng1, s_rng2, s_zipL, s_zipT, s_enL, s_seqL, s_seqT, s_minL, s_maxL, s_sum, s_isBl, s_fld, s_vNil, s_vCons, s_frzL, s_frzI, at0, at1, at2, at3, ix30, ix31, ix32, pT_cons, oT_cons, iT_cons, Option.map_some, s_none, s_put0, s_put, s_find, s_join, notInS_of, inS_of, eq_self]
  refine ⟨small (m := 1000) ha, ?_⟩
  refine forL_all (fun ρ => ∃ x, ρ = [.val (.lst (c.map tL)), .val (.str a), .val (.int n), x]) (fun _ => True) _ _ (fun d hd ρ ⟨x, e⟩ nx h1 _ => ?_) (fun _ ρ ⟨x, e⟩ => ?_) (fun ⟨_, _, z⟩ => (z trivial).elim) ⟨_, rfl⟩
  · subst e
    obtain ⟨t, ht, rfl⟩ := List.mem_map.mp hd
    unfold m_are_costs_1
    simp only [T_is_table, isNum, sNil, sCons, sIf, sAsg, sOwn, sFor, sRet, sRetN, sRetO, sRetNew, sExpr, sApp, sSetIx, sPass, DL.sFld, sNever, s_lk, sLcO, sLcV, eVar, eFrz, eC, eNew, eAnd, eOr, eNot, eIf, eOp, eNeg, eIsN, eNotN, eFld, eFldO, eIxO, eLenO, eTup, eB, eTuple, eFind, eJoin, eIsi, eCall, eCallT, eChain, nLst, nList, nComp, nCall, nCallT, nMake, nRep, nCat, nCatO, oNone, oSome, nSlice, bVal, bAnd, bOr, bNot, bOp, bChain, bIsN, bNotN, bYes, aNil, aCons, qNil, qVal, iSq, iR1, iR2, iZp, iEn, sPopAt, gNm, gTp, gConsD, gNilD, onMade, gt, ownAll, mkSl, wb, endsD, mrg, startD, kAdd, kSub, kMul, kMod, kDiv, kPow, kShr, kLt, kLe, kGt, kGe, isNon, br_decide, br_t, br_f, Bool.not_true, Bool.not_false, List.map_cons, List.map_nil, List.length_cons, List.length_nil, List.replicate, List.cons_append, List.nil_append, List.set_cons_zero, List.set_cons_succ, List.set_nil, wipeD, back, noOwn, true_and, and_true, List.length_map, List.reduceReplicate, Nat.reduceSub, Nat.reduceAdd, Int.reduceNeg, reduceCtorEq, if_true, if_false, Bool.true_eq_false, Bool.false_eq_true, ite_true, ite_false, s_onVal, s_onOwn, s_onLst, s_onIns, s_onL, s_onBl, s_some, s_kI, s_addI, s_addS, s_neg, s_eqI, s_neI, s_eqS, s_neS, s_ixL, s_ixT, s_ixS, s_ixO, s_lenS, s_lenL, s_lenT, s_abs, s_intI, s_intB, s_max2, s_min2, s_itL, s_itT, s_itS, s_rng1, s_rng2, s_zipL, s_zipT, s_enL, s_seqL, s_seqT, s_minL, s_maxL, s_sum, s_isBl, s_fld, s_vNil, s_vCons, s_frzL, s_frzI, at0, at1, at2, at3, ix30, ix31, ix32, pT_cons, oT_cons, iT_cons, Option.map_some, s_none, s_put0, s_put, s_find, s_join, notInS_of, inS_of, eq_self]
    exact ⟨t, n, rfl, hq t ht, h1 trivial _ ⟨_, rfl⟩⟩
  · subst e
    simp only [sNil, sCons, sIf, sAsg, sOwn, sFor, sRet, sRetN, sRetO, sRetNew, sExpr, sApp, sSetIx, sPass, DL.sFld, sNever, s_lk, sLcO, sLcV, eVar, eFrz, eC, eNew, eAnd, eOr, eNot, eIf, eOp, eNeg, eIsN, eNotN, eFld, eFldO, eIxO, eLenO, eTup, eB, eTuple, eFind, eJoin, eIsi, eCall, eCallT, eChain, nLst, nList, nComp, nCall, nCallT, nMake, nRep, nCat, nCatO, oNone, oSome, nSlice, bVal, bAnd, bOr, bNot, bOp, bChain, bIsN, bNotN, bYes, aNil, aCons, qNil, qVal, iSq, iR1, iR2, iZp, iEn, sPopAt, gNm, gTp, gConsD, gNilD, onMade, gt, ownAll, mkSl, wb, endsD, mrg, startD, kAdd, kSub, kMul, kMod, kDiv, kPow, kShr, kLt, kLe, kGt, kGe, isNon, br_decide, br_t, br_f, Bool.not_true, Bool.not_false, List.map_cons, List.map_nil, List.length_cons, List.length_nil, List.replicate, List.cons_append, List.nil_append, List.set_cons_zero, List.set_cons_succ, List.set_nil, wipeD, back, noOwn, true_and, and_true, List.length_map, List.reduceReplicate, Nat.reduceSub, Nat.reduceAdd, Int.reduceNeg, reduceCtorEq, if_true, if_false, Bool.true_eq_false, Bool.false_eq_true, ite_true, ite_false, s_onVal, s_onOwn, s_onLst, s_onIns, s_onL, s_onBl, s_some, s_kI, s_addI, s_addS, s_neg, s_eqI, s_neI, s_eqS, s_neS, s_ixL, s_ixT, s_ixS, s_ixO, s_lenS, s_lenL, s_lenT, s_abs, s_intI, s_intB, s_max2, s_min2, s_itL, s_itT, s_itS, s_rng1, s_rng2, s_zipL, s_zipT, s_enL, s_seqL, s_seqT, s_minL, s_maxL, s_sum, s_isBl, s_fld, s_vNil, s_vCons, s_frzL, s_frzI, at0, at1, at2, at3, ix30, ix31, ix32, pT_cons, oT_cons, iT_cons, Option.map_some, s_none, s_put0, s_put, s_find, s_join, notInS_of, inS_of, eq_self]
    exact h

theorem z_deep (K : PySem.W.Frag) : ∀ sl Q E, ¬ T_deep K 0 sl Q E := pT_none fun ds Q E ⟨d, _, h, _⟩ => by cases d <;> exact h
theorem p_deep (K : PySem.W.Frag) (kf : KF K) (n : Nat) : ∀ sl Q E, T_deep K (n + 1) sl Q E → m_deep K (T_deep K n) (endsD [] sl Q E) (startD N_deep sl) := by
  refine pT_in ?_
  rintro ds Q E ⟨d, rfl, hd, h⟩
  have go : ∀ (d : D) (ds : List D), (∀ e ∈ ds, DpOk n e) → ds.length ≤ 1000000 → (∀ ρ, Q (.val (.tup (ds.map (dp n)))) ρ → Q (.val (.tup (ds.map (dp n)))) ρ) → Q (.val (.tup (ds.map (dp n)))) [.val d] → compL (gNm 1) bYes (eCall [none] (T_deep K n) (qVal [] (eVar 1) qNil)) [1] ds [] [.val d, .un] fun m ρ' => seqD (frz m) fun is => Q (.val (.tup is)) [.val d] := by
    intro d ds h1 h2 _ h3
    refine compL_map (dp n) (fun e => [.val d, .val e]) ?_ _ _ (small (m := 1000000) (by simpa using h2)) (fun e he => ?_) (fun e he k hk => ?_) ?_
    · simp only [sNil, sCons, sIf, sAsg, sOwn, sFor, sRet, sRetN, sRetO, sRetNew, sExpr, sApp, sSetIx, sPass, DL.sFld, sNever, s_lk, sLcO, sLcV, eVar, eFrz, eC, eNew, eAnd, eOr, eNot, eIf, eOp, eNeg, eIsN, eNotN, eFld, eFldO, eIxO, eLenO, eTup, eB, eTuple, eFind, eJoin, eIsi, eCall, eCallT, eChain, nLst, nList, nComp, nCall, nCallT, nMake, nRep, nCat, nCatO, oNone, oSome, nSlice, bVal, bAnd, bOr, bNot, bOp, bChain, bIsN, bNotN, bYes, aNil, aCons, qNil, qVal, iSq, iR1, iR2, iZp, iEn, sPopAt, gNm, gTp, gConsD, gNilD, onMade, gt, ownAll, mkSl, wb, endsD, mrg, startD, kAdd, kSub, kMul, kMod, kDiv, kPow, kShr, kLt, kLe, kGt, kGe, isNon, br_decide, br_t, br_f, Bool.not_true, Bool.not_false, List.map_cons, List.map_nil, List.length_cons, List.length_nil, List.replicate, List.cons_append, List.nil_append, List.set_cons_zero, List.set_cons_succ, List.set_nil, wipeD, back, noOwn, true_and, and_true, List.length_map, List.reduceReplicate, Nat.reduceSub, Nat.reduceAdd, Int.reduceNeg, reduceCtorEq, if_true, if_false, Bool.true_eq_false, Bool.false_eq_true, ite_true, ite_false, s_onVal, s_onOwn, s_onLst, s_onIns, s_onL, s_onBl, s_some, s_kI, s_addI, s_addS, s_neg, s_eqI, s_neI, s_eqS, s_neS, s_ixL, s_ixT, s_ixS, s_ixO, s_lenS, s_lenL, s_lenT, s_abs, s_intI, s_intB, s_max2, s_min2, s_itL, s_itT, s_itS, s_rng1, s_rng2, s_zipL, s_zipT, s_enL, s_seqL, s_seqT, s_minL, s_maxL, s_sum, s_isBl, s_fld, s_vNil, s_vCons, s_frzL, s_frzI, at0, at1, at2, at3, ix30, ix31, ix32, pT_cons, oT_cons, iT_cons, Option.map_some, s_none, s_put0, s_put, s_find, s_join, notInS_of, inS_of, eq_self]
    · simp only [sNil, sCons, sIf, sAsg, sOwn, sFor, sRet, sRetN, sRetO, sRetNew, sExpr, sApp, sSetIx, sPass, DL.sFld, sNever, s_lk, sLcO, sLcV, eVar, eFrz, eC, eNew, eAnd, eOr, eNot, eIf, eOp, eNeg, eIsN, eNotN, eFld, eFldO, eIxO, eLenO, eTup, eB, eTuple, eFind, eJoin, eIsi, eCall, eCallT, eChain, nLst, nList, nComp, nCall, nCallT, nMake, nRep, nCat, nCatO, oNone, oSome, nSlice, bVal, bAnd, bOr, bNot, bOp, bChain, bIsN, bNotN, bYes, aNil, aCons, qNil, qVal, iSq, iR1, iR2, iZp, iEn, sPopAt, gNm, gTp, gConsD, gNilD, onMade, gt, ownAll, mkSl, wb, endsD, mrg, startD, kAdd, kSub, kMul, kMod, kDiv, kPow, kShr, kLt, kLe, kGt, kGe, isNon, br_decide, br_t, br_f, Bool.not_true, Bool.not_false, List.map_cons, List.map_nil, List.length_cons, List.length_nil, List.replicate, List.cons_append, List.nil_append, List.set_cons_zero, List.set_cons_succ, List.set_nil, wipeD, back, noOwn, true_and, and_true, List.length_map, List.reduceReplicate, Nat.reduceSub, Nat.reduceAdd, Int.reduceNeg, reduceCtorEq, if_true, if_false, Bool.true_eq_false, Bool.false_eq_true, ite_true, ite_false, s_onVal, s_onOwn, s_onLst, s_onIns, s_onL, s_onBl, s_some, s_kI, s_addI, s_addS, s_neg, s_eqI, s_neI, s_eqS, s_neS, s_ixL, s_ixT, s_ixS, s_ixO, s_lenS, s_lenL, s_lenT, s_abs, s_intI, s_intB, s_max2, s_min2, s_itL, s_itT, s_itS, s_rng1, s_rng2, s_zipL, s_zipT, s_enL, s_seqL, s_seqT, s_minL, s_maxL, s_sum, s_isBl, s_fld, s_vNil, s_vCons, s_frzL, s_frzI, at0, at1, at2, at3, ix30, ix31, ix32, pT_cons, oT_cons, iT_cons, Option.map_some, s_none, s_put0, s_put, s_find, s_join, notInS_of, inS_of, eq_self]
    · simp only [T_deep, sNil, sCons, sIf, sAsg, sOwn, sFor, sRet, sRetN, sRetO, sRetNew, sExpr, sApp, sSetIx, sPass, DL.sFld, sNever, s_lk, sLcO, sLcV, eVar, eFrz, eC, eNew, eAnd, eOr, eNot, eIf, eOp, eNeg, eIsN, eNotN, eFld, eFldO, eIxO, eLenO, eTup, eB, eTuple, eFind, eJoin, eIsi, eCall, eCallT, eChain, nLst, nList, nComp, nCall, nCallT, nMake, nRep, nCat, nCatO, oNone, oSome, nSlice, bVal, bAnd, bOr, bNot, bOp, bChain, bIsN, bNotN, bYes, aNil, aCons, qNil, qVal, iSq, iR1, iR2, iZp, iEn, sPopAt, gNm, gTp, gConsD, gNilD, onMade, gt, ownAll, mkSl, wb, endsD, mrg, startD, kAdd, kSub, kMul, kMod, kDiv, kPow, kShr, kLt, kLe, kGt, kGe, isNon, br_decide, br_t, br_f, Bool.not_true, Bool.not_false, List.map_cons, List.map_nil, List.length_cons, List.length_nil, List.replicate, List.cons_append, List.nil_append, List.set_cons_zero, List.set_cons_succ, List.set_nil, wipeD, back, noOwn, true_and, and_true, List.length_map, List.reduceReplicate, Nat.reduceSub, Nat.reduceAdd, Int.reduceNeg, reduceCtorEq, if_true, if_false, Bool.true_eq_false, Bool.false_eq_true, ite_true, ite_false, s_onVal, s_onOwn, s_onLst, s_onIns, s_onL, s_onBl, s_some, s_kI, s_addI, s_addS, s_neg, s_eqI, s_neI, s_eqS, s_neS, s_ixL, s_ixT, s_ixS, s_ixO, s_lenS, s_lenL, s_lenT, s_abs, s_intI, s_intB, s_max2, s_min2, s_itL, s_itT, s_itS, s_rng1, s_rng2, s_zipL, s_zipT, s_enL, s_seqL, s_seqT, s_minL, s_maxL, s_sum, s_isBl, s_fld, s_vNil, s_vCons, s_frzL, s_frzI, at0, at1, at2, at3, ix30, ix31, ix32, pT_cons, oT_cons, iT_cons, Option.map_some, s_none, s_put0, s_put, s_find, s_join, notInS_of, inS_of, eq_self]
      exact ⟨e, rfl, h1 e he, hk⟩
    · simp only [sNil, sCons, sIf, sAsg, sOwn, sFor, sRet, sRetN, sRetO, sRetNew, sExpr, sApp, sSetIx, sPass, DL.sFld, sNever, s_lk, sLcO, sLcV, eVar, eFrz, eC, eNew, eAnd, eOr, eNot, eIf, eOp, eNeg, eIsN, eNotN, eFld, eFldO, eIxO, eLenO, eTup, eB, eTuple, eFind, eJoin, eIsi, eCall, eCallT, eChain, nLst, nList, nComp, nCall, nCallT, nMake, nRep, nCat, nCatO, oNone, oSome, nSlice, bVal, bAnd, bOr, bNot, bOp, bChain, bIsN, bNotN, bYes, aNil, aCons, qNil, qVal, iSq, iR1, iR2, iZp, iEn, sPopAt, gNm, gTp, gConsD, gNilD, onMade, gt, ownAll, mkSl, wb, endsD, mrg, startD, kAdd, kSub, kMul, kMod, kDiv, kPow, kShr, kLt, kLe, kGt, kGe, isNon, br_decide, br_t, br_f, Bool.not_true, Bool.not_false, List.map_cons, List.map_nil, List.length_cons, List.length_nil, List.replicate, List.cons_append, List.nil_append, List.set_cons_zero, List.set_cons_succ, List.set_nil, wipeD, back, noOwn, true_and, and_true, List.length_map, List.reduceReplicate, Nat.reduceSub, Nat.reduceAdd, Int.reduceNeg, reduceCtorEq, if_true, if_false, Bool.true_eq_false, Bool.false_eq_true, ite_true, ite_false, s_onVal, s_onOwn, s_onLst, s_onIns, s_onL, s_onBl, s_some, s_kI, s_addI, s_addS, s_neg, s_eqI, s_neI, s_eqS, s_neS, s_ixL, s_ixT, s_ixS, s_ixO, s_lenS, s_lenL, s_lenT, s_abs, s_intI, s_intB, s_max2, s_min2, s_itL, s_itT, s_itS, s_rng1, s_rng2, s_zipL, s_zipT, s_enL, s_seqL, s_seqT, s_minL, s_maxL, s_sum, s_isBl, s_fld, s_vNil, s_vCons, s_frzL, s_frzI, at0, at1, at2, at3, ix30, ix31, ix32, pT_cons, oT_cons, iT_cons, Option.map_some, s_none, s_put0, s_put, s_find, s_join, notInS_of, inS_of, eq_self]
      exact h3
  unfold m_deep
  cases d <;> simp only [DpOk] at hd <;> simp only [T_is_listed, isSeq, sNil, sCons, sIf, sAsg, sOwn, sFor, sRet, sRetN, sRetO, sRetNew, sExpr, sApp, sSetIx, sPass, DL.sFld, sNever, s_lk, sLcO, sLcV, eVar, eFrz, eC, eNew, eAnd, eOr, eNot, eIf, eOp, eNeg, eIsN, eNotN, eFld, eFldO, eIxO, eLenO, eTup, eB, eTuple, eFind, eJoin, eIsi, eCall, eCallT, eChain, nLst, nList, nComp, nCall, nCallT, nMake, nRep, nCat, nCatO, oNone, oSome, nSlice, bVal, bAnd, bOr, bNot, bOp, bChain, bIsN, bNotN, bYes, aNil, aCons, qNil, qVal, iSq, iR1, iR2, iZp, iEn, sPopAt, gNm, gTp, gConsD, gNilD, onMade, gt, ownAll, mkSl, wb, endsD, mrg, startD, kAdd, kSub, kMul, kMod, kDiv, kPow, kShr, kLt, kLe, kGt, kGe, isNon, br_decide, br_t, br_f, Bool.not_true, Bool.not_false, List.map_cons, List.map_nil, List.length_cons, List.length_nil, List.replicate, List.cons_append, List.nil_append, List.set_cons_zero, List.set_cons_succ, List.set_nil, wipeD, back, noOwn, true_and, and_true, List.length_map, List.reduceReplicate, Nat.reduceSub, Nat.reduceAdd, Int.reduceNeg, reduceCtorEq, if_true, if_false, Bool.true_eq_false, Bool.false_eq_true, ite_true, ite_false, s_onVal, s_onOwn, s_onLst, s_onIns, s_onL, s_onBl, s_some, s_kI, s_addI, s_addS, s_neg, s_eqI, s_neI, s_eqS, s_neS, s_ixL, s_ixT, s_ixS, s_ixO, s_lenS, s_lenL, s_lenT, s_abs, s_intI, s_intB, s_max2, s_min2, s_itL, s_itT, s_itS, s_rng1, s_rng2, s_zipL, s_zipT, s_enL, s_seqL, s_seqT, s_minL, s_maxL, s_sum, s_isBl, s_fld, s_vNil, s_vCons, s_frzL, s_frzI, at0, at1, at2, at3, ix30, ix31, ix32, pT_cons, oT_cons, iT_cons, Option.map_some, s_none, s_put0, s_put, s_find, s_join, notInS_of, inS_of, eq_self] <;> first
    | exact h
    | exact go _ _ hd.2 hd.1 (fun _ z => z) h

theorem p_Store___init__ (K : PySem.W.Frag) (kf : KF K) : ∀ sl Q E, T_Store___init__ K sl Q E → m_Store___init__ K (endsD [0] sl Q E) (startD N_Store___init__ sl) := by
  refine iT_in ?_
  rintro C ds Q E ⟨n, w, rfl, rfl, hw, ha, ⟨n1, n2⟩, h⟩
  have l := ha.len
  unfold m_Store___init__ wL
  simp only [T_check_asks, sNil, sCons, sIf, sAsg, sOwn, sFor, sRet, sRetN, sRetO, sRetNew, sExpr, sApp, sSetIx, sPass, DL.sFld, sNever, s_lk, sLcO, sLcV, eVar, eFrz, eC, eNew, eAnd, eOr, eNot, eIf, eOp, eNeg, eIsN, eNotN, eFld, eFldO, eIxO, eLenO, eTup, eB, eTuple, eFind, eJoin, eIsi, eCall, eCallT, eChain, nLst, nList, nComp, nCall, nCallT, nMake, nRep, nCat, nCatO, oNone, oSome, nSlice, bVal, bAnd, bOr, bNot, bOp, bChain, bIsN, bNotN, bYes, aNil, aCons, qNil, qVal, iSq, iR1, iR2, iZp, iEn, sPopAt, gNm, gTp, gConsD, gNilD, onMade, gt, ownAll, mkSl, wb, endsD, mrg, startD, kAdd, kSub, kMul, kMod, kDiv, kPow, kShr, kLt, kLe, kGt, kGe, isNon, br_decide, br_t, br_f, Bool.not_true, Bool.not_false, List.map_cons, List.map_nil, List.length_cons, List.length_nil, List.replicate, List.cons_append, List.nil_append, List.set_cons_zero, List.set_cons_succ, List.set_nil, wipeD, back, noOwn, true_and, and_true, List.length_map, List.reduceReplicate, Nat.reduceSub, Nat.reduceAdd, Int.reduceNeg, reduceCtorEq, if_true, if_false, Bool.true_eq_false, Bool.false_eq_true, ite_true, ite_false, s_onVal, s_onOwn, s_onLst, s_onIns, s_onL, s_onBl, s_some, s_kI, s_addI, s_addS, s_neg, s_eqI, s_neI, s_eqS, s_neS, s_ixL, s_ixT, s_ixS, s_ixO, s_lenS, s_lenL, s_lenT, s_abs, s_intI, s_intB, s_max2, s_min2, s_itL, s_itT, s_itS, s_rng1, s_rng2, s_zipL, s_zipT, s_enL, s_seqL, s_seqT, s_minL, s_maxL, s_sum, s_isBl, s_fld, s_vNil, s_vCons, s_frzL, s_frzI, at0, at1, at2, at3, ix30, ix31, ix32, pT_cons, oT_cons, iT_cons, Option.map_some, s_none, s_put0, s_put, s_find, s_join, notInS_of, inS_of, eq_self]
  refine ⟨w.a, rfl, ha, ?_⟩
  simp only [T_is_listed, isSeq, T_integers, iL, hw.b, hw.e, sNil, sCons, sIf, sAsg, sOwn, sFor, sRet, sRetN, sRetO, sRetNew, sExpr, sApp, sSetIx, sPass, DL.sFld, sNever, s_lk, sLcO, sLcV, eVar, eFrz, eC, eNew, eAnd, eOr, eNot, eIf, eOp, eNeg, eIsN, eNotN, eFld, eFldO, eIxO, eLenO, eTup, eB, eTuple, eFind, eJoin, eIsi, eCall, eCallT, eChain, nLst, nList, nComp, nCall, nCallT, nMake, nRep, nCat, nCatO, oNone, oSome, nSlice, bVal, bAnd, bOr, bNot, bOp, bChain, bIsN, bNotN, bYes, aNil, aCons, qNil, qVal, iSq, iR1, iR2, iZp, iEn, sPopAt, gNm, gTp, gConsD, gNilD, onMade, gt, ownAll, mkSl, wb, endsD, mrg, startD, kAdd, kSub, kMul, kMod, kDiv, kPow, kShr, kLt, kLe, kGt, kGe, isNon, br_decide, br_t, br_f, Bool.not_true, Bool.not_false, List.map_cons, List.map_nil, List.length_cons, List.length_nil, List.replicate, List.cons_append, List.nil_append, List.set_cons_zero, List.set_cons_succ, List.set_nil, wipeD, back, noOwn, true_and, and_true, List.length_map, List.reduceReplicate, Nat.reduceSub, Nat.reduceAdd, Int.reduceNeg, reduceCtorEq, if_true, if_false, Bool.true_eq_false, Bool.false_eq_true, ite_true, ite_false, s_onVal, s_onOwn, s_onLst, s_onIns, s_onL, s_onBl, s_some, s_kI, s_addI, s_addS, s_neg, s_eqI, s_neI, s_eqS, s_neS, s_ixL, s_ixT, s_ixS, s_ixO, s_lenS, s_lenL, s_lenT, s_abs, s_intI, s_intB, s_max2, s_min2, s_itL, s_itT, s_itS, s_rng1, s_rng2, s_zipL, s_zipT, s_enL, s_seqL, s_seqT, s_minL, s_maxL, s_sum, s_isBl, s_fld, s_vNil, s_vCons, s_frzL, s_frzI, at0, at1, at2, at3, ix30, ix31, ix32, pT_cons, oT_cons, iT_cons, Option.map_some, s_none, s_put0, s_put, s_find, s_join, notInS_of, inS_of, eq_self]
  refine ⟨fun _ => ?_, fun c => absurd (by omega) c⟩
  rw [decide_eq_true (show (n : Int) ≤ 1000 by omega)]
  simp only [T_are_costs, T_deep, sNil, sCons, sIf, sAsg, sOwn, sFor, sRet, sRetN, sRetO, sRetNew, sExpr, sApp, sSetIx, sPass, DL.sFld, sNever, s_lk, sLcO, sLcV, eVar, eFrz, eC, eNew, eAnd, eOr, eNot, eIf, eOp, eNeg, eIsN, eNotN, eFld, eFldO, eIxO, eLenO, eTup, eB, eTuple, eFind, eJoin, eIsi, eCall, eCallT, eChain, nLst, nList, nComp, nCall, nCallT, nMake, nRep, nCat, nCatO, oNone, oSome, nSlice, bVal, bAnd, bOr, bNot, bOp, bChain, bIsN, bNotN, bYes, aNil, aCons, qNil, qVal, iSq, iR1, iR2, iZp, iEn, sPopAt, gNm, gTp, gConsD, gNilD, onMade, gt, ownAll, mkSl, wb, endsD, mrg, startD, kAdd, kSub, kMul, kMod, kDiv, kPow, kShr, kLt, kLe, kGt, kGe, isNon, br_decide, br_t, br_f, Bool.not_true, Bool.not_false, List.map_cons, List.map_nil, List.length_cons, List.length_nil, List.replicate, List.cons_append, List.nil_append, List.set_cons_zero, List.set_cons_succ, List.set_nil, wipeD, back, noOwn, true_and, and_true, List.length_map, List.reduceReplicate, Nat.reduceSub, Nat.reduceAdd, Int.reduceNeg, reduceCtorEq, if_true, if_false, Bool.true_eq_false, Bool.false_eq_true, ite_true, ite_false, s_onVal, s_onOwn, s_onLst, s_onIns, s_onL, s_onBl, s_some, s_kI, s_addI, s_addS, s_neg, s_eqI, s_neI, s_eqS, s_neS, s_ixL, s_ixT, s_ixS, s_ixO, s_lenS, s_lenL, s_lenT, s_abs, s_intI, s_intB, s_max2, s_min2, s_itL, s_itT, s_itS, s_rng1, s_rng2, s_zipL, s_zipT, s_enL, s_seqL, s_seqT, s_minL, s_maxL, s_sum, s_isBl, s_fld, s_vNil, s_vCons, s_frzL, s_frzI, at0, at1, at2, at3, ix30, ix31, ix32, pT_cons, oT_cons, iT_cons, Option.map_some, s_none, s_put0, s_put, s_find, s_join, notInS_of, inS_of, eq_self]
  refine ⟨w.b, n, rfl, by rw [hw.b], w.c, w.a, n, rfl, hw.c, by omega, hw.q, w.e, _, rfl, by rw [hw.e, hw.b], ?_⟩
  obtain ⟨d1, e1⟩ := dp_iL (n := 4) w.b (by rw [hw.b]; omega)
  obtain ⟨d2, e2⟩ := dp_cL (n := 2) w.c (by rw [hw.c]; omega) (fun t ht => ⟨by rw [(hw.q t ht).1]; omega, fun l hl => by rw [(hw.q t ht).2 l hl]; omega⟩)
  obtain ⟨d3, e3⟩ := dp_iL (n := 4) w.e (by rw [hw.e]; omega)
  refine ⟨⟨⟨kf.cl_Store, kf.na_Store_asks⟩, by decide⟩, _, rfl, d1, ⟨⟨kf.cl_Store, kf.na_Store_begins⟩, by decide⟩, ?_⟩
  simp (decide := true) only [sNil, sCons, sIf, sAsg, sOwn, sFor, sRet, sRetN, sRetO, sRetNew, sExpr, sApp, sSetIx, sPass, DL.sFld, sNever, s_lk, sLcO, sLcV, eVar, eFrz, eC, eNew, eAnd, eOr, eNot, eIf, eOp, eNeg, eIsN, eNotN, eFld, eFldO, eIxO, eLenO, eTup, eB, eTuple, eFind, eJoin, eIsi, eCall, eCallT, eChain, nLst, nList, nComp, nCall, nCallT, nMake, nRep, nCat, nCatO, oNone, oSome, nSlice, bVal, bAnd, bOr, bNot, bOp, bChain, bIsN, bNotN, bYes, aNil, aCons, qNil, qVal, iSq, iR1, iR2, iZp, iEn, sPopAt, gNm, gTp, gConsD, gNilD, onMade, gt, ownAll, mkSl, wb, endsD, mrg, startD, kAdd, kSub, kMul, kMod, kDiv, kPow, kShr, kLt, kLe, kGt, kGe, isNon, br_decide, br_t, br_f, Bool.not_true, Bool.not_false, List.map_cons, List.map_nil, List.length_cons, List.length_nil, List.replicate, List.cons_append, List.nil_append, List.set_cons_zero, List.set_cons_succ, List.set_nil, wipeD, back, noOwn, true_and, and_true, List.length_map, List.reduceReplicate, Nat.reduceSub, Nat.reduceAdd, Int.reduceNeg, reduceCtorEq, if_true, if_false, Bool.true_eq_false, Bool.false_eq_true, ite_true, ite_false, s_onVal, s_onOwn, s_onLst, s_onIns, s_onL, s_onBl, s_some, s_kI, s_addI, s_addS, s_neg, s_eqI, s_neI, s_eqS, s_neS, s_ixL, s_ixT, s_ixS, s_ixO, s_lenS, s_lenL, s_lenT, s_abs, s_intI, s_intB, s_max2, s_min2, s_itL, s_itT, s_itS, s_rng1, s_rng2, s_zipL, s_zipT, s_enL, s_seqL, s_seqT, s_minL, s_maxL, s_sum, s_isBl, s_fld, s_vNil, s_vCons, s_frzL, s_frzI, at0, at1, at2, at3, ix30, ix31, ix32, pT_cons, oT_cons, iT_cons, Option.map_some, s_none, s_put0, s_put, s_find, s_join, notInS_of, inS_of, eq_self]
  refine ⟨_, rfl, d2, ⟨kf.cl_Store, kf.na_Store_costs⟩, _, rfl, d3, ⟨kf.cl_Store, kf.na_Store_ends⟩, ?_⟩
  unfold iL at e1 e3
  rw [e1, e2, e3]
  exact h

theorem p__law_stored (K : PySem.W.Frag) (kf : KF K) : ∀ sl Q E, T__law_stored K sl Q E → m__law_stored K (endsD [] sl Q E) (startD N__law_stored sl) := by
  refine pT_in ?_
  rintro ds Q E ⟨n, w, rfl, hw, ha, hn, h⟩
  have l := ha.len
  unfold m__law_stored
  simp only [T__law_lists, sNil, sCons, sIf, sAsg, sOwn, sFor, sRet, sRetN, sRetO, sRetNew, sExpr, sApp, sSetIx, sPass, DL.sFld, sNever, s_lk, sLcO, sLcV, eVar, eFrz, eC, eNew, eAnd, eOr, eNot, eIf, eOp, eNeg, eIsN, eNotN, eFld, eFldO, eIxO, eLenO, eTup, eB, eTuple, eFind, eJoin, eIsi, eCall, eCallT, eChain, nLst, nList, nComp, nCall, nCallT, nMake, nRep, nCat, nCatO, oNone, oSome, nSlice, bVal, bAnd, bOr, bNot, bOp, bChain, bIsN, bNotN, bYes, aNil, aCons, qNil, qVal, iSq, iR1, iR2, iZp, iEn, sPopAt, gNm, gTp, gConsD, gNilD, onMade, gt, ownAll, mkSl, wb, endsD, mrg, startD, kAdd, kSub, kMul, kMod, kDiv, kPow, kShr, kLt, kLe, kGt, kGe, isNon, br_decide, br_t, br_f, Bool.not_true, Bool.not_false, List.map_cons, List.map_nil, List.length_cons, List.length_nil, List.replicate, List.cons_append, List.nil_append, List.set_cons_zero, List.set_cons_succ, List.set_nil, wipeD, back, noOwn, true_and, and_true, List.length_map, List.reduceReplicate, Nat.reduceSub, Nat.reduceAdd, Int.reduceNeg, reduceCtorEq, if_true, if_false, Bool.true_eq_false, Bool.false_eq_true, ite_true, ite_false, s_onVal, s_onOwn, s_onLst, s_onIns, s_onL, s_onBl, s_some, s_kI, s_addI, s_addS, s_neg, s_eqI, s_neI, s_eqS, s_neS, s_ixL, s_ixT, s_ixS, s_ixO, s_lenS, s_lenL, s_lenT, s_abs, s_intI, s_intB, s_max2, s_min2, s_itL, s_itT, s_itS, s_rng1, s_rng2, s_zipL, s_zipT, s_enL, s_seqL, s_seqT, s_minL, s_maxL, s_sum, s_isBl, s_fld, s_vNil, s_vCons, s_frzL, s_frzI, at0, at1, at2, at3, ix30, ix31, ix32, pT_cons, oT_cons, iT_cons, Option.map_some, s_none, s_put0, s_put, s_find, s_join, notInS_of, inS_of, eq_self]
  refine ⟨n, w, rfl, hw, hn.2, by omega, ?_⟩
  unfold wL
  simp only [T_Store___init__, sNil, sCons, sIf, sAsg, sOwn, sFor, sRet, sRetN, sRetO, sRetNew, sExpr, sApp, sSetIx, sPass, DL.sFld, sNever, s_lk, sLcO, sLcV, eVar, eFrz, eC, eNew, eAnd, eOr, eNot, eIf, eOp, eNeg, eIsN, eNotN, eFld, eFldO, eIxO, eLenO, eTup, eB, eTuple, eFind, eJoin, eIsi, eCall, eCallT, eChain, nLst, nList, nComp, nCall, nCallT, nMake, nRep, nCat, nCatO, oNone, oSome, nSlice, bVal, bAnd, bOr, bNot, bOp, bChain, bIsN, bNotN, bYes, aNil, aCons, qNil, qVal, iSq, iR1, iR2, iZp, iEn, sPopAt, gNm, gTp, gConsD, gNilD, onMade, gt, ownAll, mkSl, wb, endsD, mrg, startD, kAdd, kSub, kMul, kMod, kDiv, kPow, kShr, kLt, kLe, kGt, kGe, isNon, br_decide, br_t, br_f, Bool.not_true, Bool.not_false, List.map_cons, List.map_nil, List.length_cons, List.length_nil, List.replicate, List.cons_append, List.nil_append, List.set_cons_zero, List.set_cons_succ, List.set_nil, wipeD, back, noOwn, true_and, and_true, List.length_map, List.reduceReplicate, Nat.reduceSub, Nat.reduceAdd, Int.reduceNeg, reduceCtorEq, if_true, if_false, Bool.true_eq_false, Bool.false_eq_true, ite_true, ite_false, s_onVal, s_onOwn, s_onLst, s_onIns, s_onL, s_onBl, s_some, s_kI, s_addI, s_addS, s_neg, s_eqI, s_neI, s_eqS, s_neS, s_ixL, s_ixT, s_ixS, s_ixO, s_lenS, s_lenL, s_lenT, s_abs, s_intI, s_intB, s_max2, s_min2, s_itL, s_itT, s_itS, s_rng1, s_rng2, s_zipL, s_zipT, s_enL, s_seqL, s_seqT, s_minL, s_maxL, s_sum, s_isBl, s_fld, s_vNil, s_vCons, s_frzL, s_frzI, at0, at1, at2, at3, ix30, ix31, ix32, pT_cons, oT_cons, iT_cons, Option.map_some, s_none, s_put0, s_put, s_find, s_join, notInS_of, inS_of, eq_self]
  exact ⟨n, w, rfl, hw, ha, hn, h⟩


theorem p__law_changed (K : PySem.W.Frag) (kf : KF K) : ∀ sl Q E, T__law_changed K sl Q E → m__law_changed K (endsD [0] sl Q E) (startD N__law_changed sl) := by
  refine oT_in ?_
  rintro src ds Q E ⟨ps, many, rfl, ⟨n1, n2⟩, ⟨m1, m2⟩, hs, h⟩
  have hp : ∀ x y : D, Flat x → Flat y → PairD (.tup [x, y]) := fun x y h1 h2 => .inr ⟨_, .inr rfl, by simp [h1, h2]⟩
  have base : ∀ d ∈ ps.map pairT, PairD d := fun d hd => by
    obtain ⟨p, _, rfl⟩ := List.mem_map.mp hd
    exact hp _ _ trivial trivial
  have sets : ∀ (j : Nat) (e : D), PairD e → ∀ d ∈ (ps.map pairT).set j e, PairD d := fun j e he d hd => by
    rcases List.mem_or_eq_of_mem_set hd with z | z
    · exact base d z
    · rw [z]; exact he
  unfold m__law_changed
  simp only [T__law_draw, sNil, sCons, sIf, sAsg, sOwn, sFor, sRet, sRetN, sRetO, sRetNew, sExpr, sApp, sSetIx, sPass, DL.sFld, sNever, s_lk, sLcO, sLcV, eVar, eFrz, eC, eNew, eAnd, eOr, eNot, eIf, eOp, eNeg, eIsN, eNotN, eFld, eFldO, eIxO, eLenO, eTup, eB, eTuple, eFind, eJoin, eIsi, eCall, eCallT, eChain, nLst, nList, nComp, nCall, nCallT, nMake, nRep, nCat, nCatO, oNone, oSome, nSlice, bVal, bAnd, bOr, bNot, bOp, bChain, bIsN, bNotN, bYes, aNil, aCons, qNil, qVal, iSq, iR1, iR2, iZp, iEn, sPopAt, gNm, gTp, gConsD, gNilD, onMade, gt, ownAll, mkSl, wb, endsD, mrg, startD, kAdd, kSub, kMul, kMod, kDiv, kPow, kShr, kLt, kLe, kGt, kGe, isNon, br_decide, br_t, br_f, Bool.not_true, Bool.not_false, List.map_cons, List.map_nil, List.length_cons, List.length_nil, List.replicate, List.cons_append, List.nil_append, List.set_cons_zero, List.set_cons_succ, List.set_nil, wipeD, back, noOwn, true_and, and_true, List.length_map, List.reduceReplicate, Nat.reduceSub, Nat.reduceAdd, Int.reduceNeg, reduceCtorEq, if_true, if_false, Bool.true_eq_false, Bool.false_eq_true, ite_true, ite_false, s_onVal, s_onOwn, s_onLst, s_onIns, s_onL, s_onBl, s_some, s_kI, s_addI, s_addS, s_neg, s_eqI, s_neI, s_eqS, s_neS, s_ixL, s_ixT, s_ixS, s_ixO, s_lenS, s_lenL, s_lenT, s_abs, s_intI, s_intB, s_max2, s_min2, s_itL, s_itT, s_itS, s_rng1, s_rng2, s_zipL, s_zipT, s_enL, s_seqL, s_seqT, s_minL, s_maxL, s_sum, s_isBl, s_fld, s_vNil, s_vCons, s_frzL, s_frzI, at0, at1, at2, at3, ix30, ix31, ix32, pT_cons, oT_cons, iT_cons, Option.map_some, s_none, s_put0, s_put, s_find, s_join, notInS_of, inS_of, eq_self]
  refine ⟨by omega, hs, fun ai s1 hs1 ⟨a0, a1⟩ => ?_⟩
  rw [at_map (f := pairT) (x := (0, 0)) a0 a1, s_some]
  generalize ps.getD ai.toNat (0, 0) = p
  simp only [pairT, sNil, sCons, sIf, sAsg, sOwn, sFor, sRet, sRetN, sRetO, sRetNew, sExpr, sApp, sSetIx, sPass, DL.sFld, sNever, s_lk, sLcO, sLcV, eVar, eFrz, eC, eNew, eAnd, eOr, eNot, eIf, eOp, eNeg, eIsN, eNotN, eFld, eFldO, eIxO, eLenO, eTup, eB, eTuple, eFind, eJoin, eIsi, eCall, eCallT, eChain, nLst, nList, nComp, nCall, nCallT, nMake, nRep, nCat, nCatO, oNone, oSome, nSlice, bVal, bAnd, bOr, bNot, bOp, bChain, bIsN, bNotN, bYes, aNil, aCons, qNil, qVal, iSq, iR1, iR2, iZp, iEn, sPopAt, gNm, gTp, gConsD, gNilD, onMade, gt, ownAll, mkSl, wb, endsD, mrg, startD, kAdd, kSub, kMul, kMod, kDiv, kPow, kShr, kLt, kLe, kGt, kGe, isNon, br_decide, br_t, br_f, Bool.not_true, Bool.not_false, List.map_cons, List.map_nil, List.length_cons, List.length_nil, List.replicate, List.cons_append, List.nil_append, List.set_cons_zero, List.set_cons_succ, List.set_nil, wipeD, back, noOwn, true_and, and_true, List.length_map, List.reduceReplicate, Nat.reduceSub, Nat.reduceAdd, Int.reduceNeg, reduceCtorEq, if_true, if_false, Bool.true_eq_false, Bool.false_eq_true, ite_true, ite_false, s_onVal, s_onOwn, s_onLst, s_onIns, s_onL, s_onBl, s_some, s_kI, s_addI, s_addS, s_neg, s_eqI, s_neI, s_eqS, s_neS, s_ixL, s_ixT, s_ixS, s_ixO, s_lenS, s_lenL, s_lenT, s_abs, s_intI, s_intB, s_max2, s_min2, s_itL, s_itT, s_itS, s_rng1, s_rng2, s_zipL, s_zipT, s_enL, s_seqL, s_seqT, s_minL, s_maxL, s_sum, s_isBl, s_fld, s_vNil, s_vCons, s_frzL, s_frzI, at0, at1, at2, at3, ix30, ix31, ix32, pT_cons, oT_cons, iT_cons, Option.map_some, s_none, s_put0, s_put, s_find, s_join, notInS_of, inS_of, eq_self]
  refine ⟨by omega, hs1, fun way s2 hs2 ⟨w0, w1⟩ => ?_⟩
  have ix : L2.ixN ps.length ai = some ai.toNat := ixN_pos a0 a1
  have k1 : ∀ (s zs : List D), Src s → (∀ d ∈ zs, PairD d) → m__law_changed_c1 K (endsD [0] [.own (.lst src), .val (.lst (ps.map pairT)), .val (.int many)] Q E) [.own (.lst s), .val (.lst (ps.map pairT)), .val (.int many), .own (.lst zs), .val (.int ai), .val (.int p.1), .val (.int p.2), .val (.int way)] := fun s zs h1 h2 => by
    unfold m__law_changed_c1
    simp only [sNil, sCons, sIf, sAsg, sOwn, sFor, sRet, sRetN, sRetO, sRetNew, sExpr, sApp, sSetIx, sPass, DL.sFld, sNever, s_lk, sLcO, sLcV, eVar, eFrz, eC, eNew, eAnd, eOr, eNot, eIf, eOp, eNeg, eIsN, eNotN, eFld, eFldO, eIxO, eLenO, eTup, eB, eTuple, eFind, eJoin, eIsi, eCall, eCallT, eChain, nLst, nList, nComp, nCall, nCallT, nMake, nRep, nCat, nCatO, oNone, oSome, nSlice, bVal, bAnd, bOr, bNot, bOp, bChain, bIsN, bNotN, bYes, aNil, aCons, qNil, qVal, iSq, iR1, iR2, iZp, iEn, sPopAt, gNm, gTp, gConsD, gNilD, onMade, gt, ownAll, mkSl, wb, endsD, mrg, startD, kAdd, kSub, kMul, kMod, kDiv, kPow, kShr, kLt, kLe, kGt, kGe, isNon, br_decide, br_t, br_f, Bool.not_true, Bool.not_false, List.map_cons, List.map_nil, List.length_cons, List.length_nil, List.replicate, List.cons_append, List.nil_append, List.set_cons_zero, List.set_cons_succ, List.set_nil, wipeD, back, noOwn, true_and, and_true, List.length_map, List.reduceReplicate, Nat.reduceSub, Nat.reduceAdd, Int.reduceNeg, reduceCtorEq, if_true, if_false, Bool.true_eq_false, Bool.false_eq_true, ite_true, ite_false, s_onVal, s_onOwn, s_onLst, s_onIns, s_onL, s_onBl, s_some, s_kI, s_addI, s_addS, s_neg, s_eqI, s_neI, s_eqS, s_neS, s_ixL, s_ixT, s_ixS, s_ixO, s_lenS, s_lenL, s_lenT, s_abs, s_intI, s_intB, s_max2, s_min2, s_itL, s_itT, s_itS, s_rng1, s_rng2, s_zipL, s_zipT, s_enL, s_seqL, s_seqT, s_minL, s_maxL, s_sum, s_isBl, s_fld, s_vNil, s_vCons, s_frzL, s_frzI, at0, at1, at2, at3, ix30, ix31, ix32, pT_cons, oT_cons, iT_cons, Option.map_some, s_none, s_put0, s_put, s_find, s_join, notInS_of, inS_of, eq_self]
    exact h zs s h1 h2
  have k2 : ∀ (s zs : List D), Src s → (∀ d ∈ zs, PairD d) → way ≠ 6 → m__law_changed_c2 K (endsD [0] [.own (.lst src), .val (.lst (ps.map pairT)), .val (.int many)] Q E) [.own (.lst s), .val (.lst (ps.map pairT)), .val (.int many), .own (.lst zs), .val (.int ai), .val (.int p.1), .val (.int p.2), .val (.int way)] := fun s zs h1 h2 c => by
    unfold m__law_changed_c2
    exact eqSkip (i := 7) rfl c (k1 s zs h1 h2)
  have k3 : ∀ (s zs : List D), Src s → (∀ d ∈ zs, PairD d) → way ≠ 6 → way ≠ 5 → m__law_changed_c3 K (endsD [0] [.own (.lst src), .val (.lst (ps.map pairT)), .val (.int many)] Q E) [.own (.lst s), .val (.lst (ps.map pairT)), .val (.int many), .own (.lst zs), .val (.int ai), .val (.int p.1), .val (.int p.2), .val (.int way)] := fun s zs h1 h2 c6 c => by
    unfold m__law_changed_c3
    exact eqSkip (i := 7) rfl c (k2 s zs h1 h2 c6)
  have k4 : ∀ (s zs : List D), Src s → (∀ d ∈ zs, PairD d) → way ≠ 6 → way ≠ 5 → way ≠ 4 → m__law_changed_c4 K (endsD [0] [.own (.lst src), .val (.lst (ps.map pairT)), .val (.int many)] Q E) [.own (.lst s), .val (.lst (ps.map pairT)), .val (.int many), .own (.lst zs), .val (.int ai), .val (.int p.1), .val (.int p.2), .val (.int way)] := fun s zs h1 h2 c6 c5 c => by
    unfold m__law_changed_c4
    exact eqSkip (i := 7) rfl c (k3 s zs h1 h2 c6 c5)
  have k5 : ∀ (s zs : List D), Src s → (∀ d ∈ zs, PairD d) → way ≠ 6 → way ≠ 5 → way ≠ 4 → way ≠ 3 → m__law_changed_c5 K (endsD [0] [.own (.lst src), .val (.lst (ps.map pairT)), .val (.int many)] Q E) [.own (.lst s), .val (.lst (ps.map pairT)), .val (.int many), .own (.lst zs), .val (.int ai), .val (.int p.1), .val (.int p.2), .val (.int way)] := fun s zs h1 h2 c6 c5 c4 c => by
    unfold m__law_changed_c5
    exact eqSkip (i := 7) rfl c (k4 s zs h1 h2 c6 c5 c4)
  have k6 : ∀ (s zs : List D), Src s → (∀ d ∈ zs, PairD d) → way ≠ 6 → way ≠ 5 → way ≠ 4 → way ≠ 3 → way ≠ 2 → m__law_changed_c6 K (endsD [0] [.own (.lst src), .val (.lst (ps.map pairT)), .val (.int many)] Q E) [.own (.lst s), .val (.lst (ps.map pairT)), .val (.int many), .own (.lst zs), .val (.int ai), .val (.int p.1), .val (.int p.2), .val (.int way)] := fun s zs h1 h2 c6 c5 c4 c3 c => by
    unfold m__law_changed_c6
    exact eqSkip (i := 7) rfl c (k5 s zs h1 h2 c6 c5 c4 c3)
  have k7 : ∀ (s zs : List D), Src s → (∀ d ∈ zs, PairD d) → way ≠ 6 → way ≠ 5 → way ≠ 4 → way ≠ 3 → way ≠ 2 → way ≠ 1 → m__law_changed_c7 K (endsD [0] [.own (.lst src), .val (.lst (ps.map pairT)), .val (.int many)] Q E) [.own (.lst s), .val (.lst (ps.map pairT)), .val (.int many), .own (.lst zs), .val (.int ai), .val (.int p.1), .val (.int p.2), .val (.int way)] := fun s zs h1 h2 c6 c5 c4 c3 c2 c => by
    unfold m__law_changed_c7
    exact eqSkip (i := 7) rfl c (k6 s zs h1 h2 c6 c5 c4 c3 c2)
  refine ⟨fun c => ?_, fun c0 => ?_⟩
  · rw [ix, s_some]
    exact k7 s2 _ hs2 (sets _ _ (hp _ _ trivial trivial)) (by omega) (by omega) (by omega) (by omega) (by omega) (by omega)
  show m__law_changed_c7 K (endsD [0] [.own (.lst src), .val (.lst (ps.map pairT)), .val (.int many)] Q E) _
  unfold m__law_changed_c7
  by_cases c1 : way = 1
  · refine eqTake (i := 7) rfl c1 ?_
    simp only [ix, List.length_map, s_some, sNil, sCons, sIf, sAsg, sOwn, sFor, sRet, sRetN, sRetO, sRetNew, sExpr, sApp, sSetIx, sPass, DL.sFld, sNever, s_lk, sLcO, sLcV, eVar, eFrz, eC, eNew, eAnd, eOr, eNot, eIf, eOp, eNeg, eIsN, eNotN, eFld, eFldO, eIxO, eLenO, eTup, eB, eTuple, eFind, eJoin, eIsi, eCall, eCallT, eChain, nLst, nList, nComp, nCall, nCallT, nMake, nRep, nCat, nCatO, oNone, oSome, nSlice, bVal, bAnd, bOr, bNot, bOp, bChain, bIsN, bNotN, bYes, aNil, aCons, qNil, qVal, iSq, iR1, iR2, iZp, iEn, sPopAt, gNm, gTp, gConsD, gNilD, onMade, gt, ownAll, mkSl, wb, endsD, mrg, startD, kAdd, kSub, kMul, kMod, kDiv, kPow, kShr, kLt, kLe, kGt, kGe, isNon, br_decide, br_t, br_f, Bool.not_true, Bool.not_false, List.map_cons, List.map_nil, List.length_cons, List.length_nil, List.replicate, List.cons_append, List.nil_append, List.set_cons_zero, List.set_cons_succ, List.set_nil, wipeD, back, noOwn, true_and, and_true, List.length_map, List.reduceReplicate, Nat.reduceSub, Nat.reduceAdd, Int.reduceNeg, reduceCtorEq, if_true, if_false, Bool.true_eq_false, Bool.false_eq_true, ite_true, ite_false, s_onVal, s_onOwn, s_onLst, s_onIns, s_onL, s_onBl, s_some, s_kI, s_addI, s_addS, s_neg, s_eqI, s_neI, s_eqS, s_neS, s_ixL, s_ixT, s_ixS, s_ixO, s_lenS, s_lenL, s_lenT, s_abs, s_intI, s_intB, s_max2, s_min2, s_itL, s_itT, s_itS, s_rng1, s_rng2, s_zipL, s_zipT, s_enL, s_seqL, s_seqT, s_minL, s_maxL, s_sum, s_isBl, s_fld, s_vNil, s_vCons, s_frzL, s_frzI, at0, at1, at2, at3, ix30, ix31, ix32, pT_cons, oT_cons, iT_cons, Option.map_some, s_none, s_put0, s_put, s_find, s_join, notInS_of, inS_of, eq_self]
    exact k6 s2 _ hs2 (sets _ _ (hp _ _ trivial trivial)) (by omega) (by omega) (by omega) (by omega) (by omega)
  refine eqSkip (i := 7) rfl c1 ?_
  unfold m__law_changed_c6
  by_cases c2 : way = 2
  · refine eqTake (i := 7) rfl c2 ?_
    simp only [T__law_draw, ix, List.length_map, s_some, sNil, sCons, sIf, sAsg, sOwn, sFor, sRet, sRetN, sRetO, sRetNew, sExpr, sApp, sSetIx, sPass, DL.sFld, sNever, s_lk, sLcO, sLcV, eVar, eFrz, eC, eNew, eAnd, eOr, eNot, eIf, eOp, eNeg, eIsN, eNotN, eFld, eFldO, eIxO, eLenO, eTup, eB, eTuple, eFind, eJoin, eIsi, eCall, eCallT, eChain, nLst, nList, nComp, nCall, nCallT, nMake, nRep, nCat, nCatO, oNone, oSome, nSlice, bVal, bAnd, bOr, bNot, bOp, bChain, bIsN, bNotN, bYes, aNil, aCons, qNil, qVal, iSq, iR1, iR2, iZp, iEn, sPopAt, gNm, gTp, gConsD, gNilD, onMade, gt, ownAll, mkSl, wb, endsD, mrg, startD, kAdd, kSub, kMul, kMod, kDiv, kPow, kShr, kLt, kLe, kGt, kGe, isNon, br_decide, br_t, br_f, Bool.not_true, Bool.not_false, List.map_cons, List.map_nil, List.length_cons, List.length_nil, List.replicate, List.cons_append, List.nil_append, List.set_cons_zero, List.set_cons_succ, List.set_nil, wipeD, back, noOwn, true_and, and_true, List.length_map, List.reduceReplicate, Nat.reduceSub, Nat.reduceAdd, Int.reduceNeg, reduceCtorEq, if_true, if_false, Bool.true_eq_false, Bool.false_eq_true, ite_true, ite_false, s_onVal, s_onOwn, s_onLst, s_onIns, s_onL, s_onBl, s_some, s_kI, s_addI, s_addS, s_neg, s_eqI, s_neI, s_eqS, s_neS, s_ixL, s_ixT, s_ixS, s_ixO, s_lenS, s_lenL, s_lenT, s_abs, s_intI, s_intB, s_max2, s_min2, s_itL, s_itT, s_itS, s_rng1, s_rng2, s_zipL, s_zipT, s_enL, s_seqL, s_seqT, s_minL, s_maxL, s_sum, s_isBl, s_fld, s_vNil, s_vCons, s_frzL, s_frzI, at0, at1, at2, at3, ix30, ix31, ix32, pT_cons, oT_cons, iT_cons, Option.map_some, s_none, s_put0, s_put, s_find, s_join, notInS_of, inS_of, eq_self]
    exact ⟨by omega, hs2, fun r s3 hs3 _ => k5 s3 _ hs3 (sets _ _ (hp _ _ trivial trivial)) (by omega) (by omega) (by omega) (by omega)⟩
  refine eqSkip (i := 7) rfl c2 ?_
  unfold m__law_changed_c5
  by_cases c3 : way = 3
  · refine eqTake (i := 7) rfl c3 ?_
    simp only [T__law_draw, ix, List.length_map, s_some, sNil, sCons, sIf, sAsg, sOwn, sFor, sRet, sRetN, sRetO, sRetNew, sExpr, sApp, sSetIx, sPass, DL.sFld, sNever, s_lk, sLcO, sLcV, eVar, eFrz, eC, eNew, eAnd, eOr, eNot, eIf, eOp, eNeg, eIsN, eNotN, eFld, eFldO, eIxO, eLenO, eTup, eB, eTuple, eFind, eJoin, eIsi, eCall, eCallT, eChain, nLst, nList, nComp, nCall, nCallT, nMake, nRep, nCat, nCatO, oNone, oSome, nSlice, bVal, bAnd, bOr, bNot, bOp, bChain, bIsN, bNotN, bYes, aNil, aCons, qNil, qVal, iSq, iR1, iR2, iZp, iEn, sPopAt, gNm, gTp, gConsD, gNilD, onMade, gt, ownAll, mkSl, wb, endsD, mrg, startD, kAdd, kSub, kMul, kMod, kDiv, kPow, kShr, kLt, kLe, kGt, kGe, isNon, br_decide, br_t, br_f, Bool.not_true, Bool.not_false, List.map_cons, List.map_nil, List.length_cons, List.length_nil, List.replicate, List.cons_append, List.nil_append, List.set_cons_zero, List.set_cons_succ, List.set_nil, wipeD, back, noOwn, true_and, and_true, List.length_map, List.reduceReplicate, Nat.reduceSub, Nat.reduceAdd, Int.reduceNeg, reduceCtorEq, if_true, if_false, Bool.true_eq_false, Bool.false_eq_true, ite_true, ite_false, s_onVal, s_onOwn, s_onLst, s_onIns, s_onL, s_onBl, s_some, s_kI, s_addI, s_addS, s_neg, s_eqI, s_neI, s_eqS, s_neS, s_ixL, s_ixT, s_ixS, s_ixO, s_lenS, s_lenL, s_lenT, s_abs, s_intI, s_intB, s_max2, s_min2, s_itL, s_itT, s_itS, s_rng1, s_rng2, s_zipL, s_zipT, s_enL, s_seqL, s_seqT, s_minL, s_maxL, s_sum, s_isBl, s_fld, s_vNil, s_vCons, s_frzL, s_frzI, at0, at1, at2, at3, ix30, ix31, ix32, pT_cons, oT_cons, iT_cons, Option.map_some, s_none, s_put0, s_put, s_find, s_join, notInS_of, inS_of, eq_self]
    refine ⟨by omega, hs2, fun r s3 hs3 ⟨r0, r1⟩ => ?_⟩
    obtain ⟨hh, e⟩ := atI_pos (l := [D.int many, .int (-1), .bl true, .non]) r0 r1
    rw [e, s_some]
    refine k4 s3 _ hs3 (sets _ _ (hp _ _ ?_ trivial)) (by omega) (by omega) (by omega)
    have : ∀ d ∈ [D.int many, .int (-1), .bl true, .non], Flat d := by simp [Flat]
    exact this _ (List.getElem_mem hh)
  refine eqSkip (i := 7) rfl c3 ?_
  unfold m__law_changed_c4
  by_cases c4 : way = 4
  · refine eqTake (i := 7) rfl c4 ?_
    simp only [T__law_draw, ix, List.length_map, s_some, sNil, sCons, sIf, sAsg, sOwn, sFor, sRet, sRetN, sRetO, sRetNew, sExpr, sApp, sSetIx, sPass, DL.sFld, sNever, s_lk, sLcO, sLcV, eVar, eFrz, eC, eNew, eAnd, eOr, eNot, eIf, eOp, eNeg, eIsN, eNotN, eFld, eFldO, eIxO, eLenO, eTup, eB, eTuple, eFind, eJoin, eIsi, eCall, eCallT, eChain, nLst, nList, nComp, nCall, nCallT, nMake, nRep, nCat, nCatO, oNone, oSome, nSlice, bVal, bAnd, bOr, bNot, bOp, bChain, bIsN, bNotN, bYes, aNil, aCons, qNil, qVal, iSq, iR1, iR2, iZp, iEn, sPopAt, gNm, gTp, gConsD, gNilD, onMade, gt, ownAll, mkSl, wb, endsD, mrg, startD, kAdd, kSub, kMul, kMod, kDiv, kPow, kShr, kLt, kLe, kGt, kGe, isNon, br_decide, br_t, br_f, Bool.not_true, Bool.not_false, List.map_cons, List.map_nil, List.length_cons, List.length_nil, List.replicate, List.cons_append, List.nil_append, List.set_cons_zero, List.set_cons_succ, List.set_nil, wipeD, back, noOwn, true_and, and_true, List.length_map, List.reduceReplicate, Nat.reduceSub, Nat.reduceAdd, Int.reduceNeg, reduceCtorEq, if_true, if_false, Bool.true_eq_false, Bool.false_eq_true, ite_true, ite_false, s_onVal, s_onOwn, s_onLst, s_onIns, s_onL, s_onBl, s_some, s_kI, s_addI, s_addS, s_neg, s_eqI, s_neI, s_eqS, s_neS, s_ixL, s_ixT, s_ixS, s_ixO, s_lenS, s_lenL, s_lenT, s_abs, s_intI, s_intB, s_max2, s_min2, s_itL, s_itT, s_itS, s_rng1, s_rng2, s_zipL, s_zipT, s_enL, s_seqL, s_seqT, s_minL, s_maxL, s_sum, s_isBl, s_fld, s_vNil, s_vCons, s_frzL, s_frzI, at0, at1, at2, at3, ix30, ix31, ix32, pT_cons, oT_cons, iT_cons, Option.map_some, s_none, s_put0, s_put, s_find, s_join, notInS_of, inS_of, eq_self]
    refine ⟨by omega, hs2, fun r s3 hs3 ⟨r0, r1⟩ => ?_⟩
    obtain ⟨hh, e⟩ := atI_pos (l := [D.tup [.int p.1, .bl true], .tup [.int p.1], .non, .int 3, .tup [.int p.1, .int p.2, .int 0], .tup [.int p.1, .str "1"]]) r0 r1
    rw [e, s_some]
    refine k3 s3 _ hs3 (sets _ _ ?_) (by omega) (by omega)
    have : ∀ d ∈ [D.tup [.int p.1, .bl true], .tup [.int p.1], .non, .int 3, .tup [.int p.1, .int p.2, .int 0], .tup [.int p.1, .str "1"]], PairD d := by simp [PairD, Flat]
    exact this _ (List.getElem_mem hh)
  refine eqSkip (i := 7) rfl c4 ?_
  unfold m__law_changed_c3
  by_cases c5 : way = 5
  · refine eqTake (i := 7) rfl c5 ?_
    simp only [sPopAt, sNil, sCons, sIf, sAsg, sOwn, sFor, sRet, sRetN, sRetO, sRetNew, sExpr, sApp, sSetIx, sPass, DL.sFld, sNever, s_lk, sLcO, sLcV, eVar, eFrz, eC, eNew, eAnd, eOr, eNot, eIf, eOp, eNeg, eIsN, eNotN, eFld, eFldO, eIxO, eLenO, eTup, eB, eTuple, eFind, eJoin, eIsi, eCall, eCallT, eChain, nLst, nList, nComp, nCall, nCallT, nMake, nRep, nCat, nCatO, oNone, oSome, nSlice, bVal, bAnd, bOr, bNot, bOp, bChain, bIsN, bNotN, bYes, aNil, aCons, qNil, qVal, iSq, iR1, iR2, iZp, iEn, sPopAt, gNm, gTp, gConsD, gNilD, onMade, gt, ownAll, mkSl, wb, endsD, mrg, startD, kAdd, kSub, kMul, kMod, kDiv, kPow, kShr, kLt, kLe, kGt, kGe, isNon, br_decide, br_t, br_f, Bool.not_true, Bool.not_false, List.map_cons, List.map_nil, List.length_cons, List.length_nil, List.replicate, List.cons_append, List.nil_append, List.set_cons_zero, List.set_cons_succ, List.set_nil, wipeD, back, noOwn, true_and, and_true, List.length_map, List.reduceReplicate, Nat.reduceSub, Nat.reduceAdd, Int.reduceNeg, reduceCtorEq, if_true, if_false, Bool.true_eq_false, Bool.false_eq_true, ite_true, ite_false, s_onVal, s_onOwn, s_onLst, s_onIns, s_onL, s_onBl, s_some, s_kI, s_addI, s_addS, s_neg, s_eqI, s_neI, s_eqS, s_neS, s_ixL, s_ixT, s_ixS, s_ixO, s_lenS, s_lenL, s_lenT, s_abs, s_intI, s_intB, s_max2, s_min2, s_itL, s_itT, s_itS, s_rng1, s_rng2, s_zipL, s_zipT, s_enL, s_seqL, s_seqT, s_minL, s_maxL, s_sum, s_isBl, s_fld, s_vNil, s_vCons, s_frzL, s_frzI, at0, at1, at2, at3, ix30, ix31, ix32, pT_cons, oT_cons, iT_cons, Option.map_some, s_none, s_put0, s_put, s_find, s_join, notInS_of, inS_of, eq_self]
    refine ⟨by omega, ?_⟩
    have e : seqIndex? ai ps.length = some ai.toNat := (L2.ixN_seq ix).1
    rw [e, s_some]
    exact ⟨by omega, k2 s2 _ hs2 (fun d hd => base d (List.mem_of_mem_eraseIdx hd)) (by omega)⟩
  refine eqSkip (i := 7) rfl c5 ?_
  unfold m__law_changed_c2
  refine eqTake (i := 7) rfl (by omega) ?_
  obtain ⟨hh, e⟩ := atI_pos (l := ps.map pairT) a0 (by rw [List.length_map]; exact a1)
  simp only [sNil, sCons, sIf, sAsg, sOwn, sFor, sRet, sRetN, sRetO, sRetNew, sExpr, sApp, sSetIx, sPass, DL.sFld, sNever, s_lk, sLcO, sLcV, eVar, eFrz, eC, eNew, eAnd, eOr, eNot, eIf, eOp, eNeg, eIsN, eNotN, eFld, eFldO, eIxO, eLenO, eTup, eB, eTuple, eFind, eJoin, eIsi, eCall, eCallT, eChain, nLst, nList, nComp, nCall, nCallT, nMake, nRep, nCat, nCatO, oNone, oSome, nSlice, bVal, bAnd, bOr, bNot, bOp, bChain, bIsN, bNotN, bYes, aNil, aCons, qNil, qVal, iSq, iR1, iR2, iZp, iEn, sPopAt, gNm, gTp, gConsD, gNilD, onMade, gt, ownAll, mkSl, wb, endsD, mrg, startD, kAdd, kSub, kMul, kMod, kDiv, kPow, kShr, kLt, kLe, kGt, kGe, isNon, br_decide, br_t, br_f, Bool.not_true, Bool.not_false, List.map_cons, List.map_nil, List.length_cons, List.length_nil, List.replicate, List.cons_append, List.nil_append, List.set_cons_zero, List.set_cons_succ, List.set_nil, wipeD, back, noOwn, true_and, and_true, List.length_map, List.reduceReplicate, Nat.reduceSub, Nat.reduceAdd, Int.reduceNeg, reduceCtorEq, if_true, if_false, Bool.true_eq_false, Bool.false_eq_true, ite_true, ite_false, s_onVal, s_onOwn, s_onLst, s_onIns, s_onL, s_onBl, s_some, s_kI, s_addI, s_addS, s_neg, s_eqI, s_neI, s_eqS, s_neS, s_ixL, s_ixT, s_ixS, s_ixO, s_lenS, s_lenL, s_lenT, s_abs, s_intI, s_intB, s_max2, s_min2, s_itL, s_itT, s_itS, s_rng1, s_rng2, s_zipL, s_zipT, s_enL, s_seqL, s_seqT, s_minL, s_maxL, s_sum, s_isBl, s_fld, s_vNil, s_vCons, s_frzL, s_frzI, at0, at1, at2, at3, ix30, ix31, ix32, pT_cons, oT_cons, iT_cons, Option.map_some, s_none, s_put0, s_put, s_find, s_join, notInS_of, inS_of, eq_self]
  rw [e, s_some]
  refine ⟨small' (m := 1001) (by omega), k1 s2 _ hs2 fun d hd => ?_⟩
  rcases List.mem_append.mp hd with z | z
  · exact base d z
  · simp at z
    rw [z]
    exact hp _ _ trivial trivial

theorem p_check_stores (K : PySem.W.Frag) (kf : KF K) : ∀ sl Q E, T_check_stores K sl Q E → m_check_stores K (endsD [] sl Q E) (startD N_check_stores sl) := by
  refine pT_in ?_
  rintro ds Q E ⟨w, o, rfl, e, h⟩
  have fa : FldOk K (He.ga K "Store") "asks" := ⟨kf.cl_Store, kf.na_Store_asks⟩
  have w1 : ∀ (w : Wd) {k : D → Prop}, kFld K "asks" (sD K w) k = (FldOk K (He.ga K "Store") "asks" ∧ k (.str w.a)) := fun w {k} => by simp (decide := true) only [sD, sL, sNil, sCons, sIf, sAsg, sOwn, sFor, sRet, sRetN, sRetO, sRetNew, sExpr, sApp, sSetIx, sPass, DL.sFld, sNever, s_lk, sLcO, sLcV, eVar, eFrz, eC, eNew, eAnd, eOr, eNot, eIf, eOp, eNeg, eIsN, eNotN, eFld, eFldO, eIxO, eLenO, eTup, eB, eTuple, eFind, eJoin, eIsi, eCall, eCallT, eChain, nLst, nList, nComp, nCall, nCallT, nMake, nRep, nCat, nCatO, oNone, oSome, nSlice, bVal, bAnd, bOr, bNot, bOp, bChain, bIsN, bNotN, bYes, aNil, aCons, qNil, qVal, iSq, iR1, iR2, iZp, iEn, sPopAt, gNm, gTp, gConsD, gNilD, onMade, gt, ownAll, mkSl, wb, endsD, mrg, startD, kAdd, kSub, kMul, kMod, kDiv, kPow, kShr, kLt, kLe, kGt, kGe, isNon, br_decide, br_t, br_f, Bool.not_true, Bool.not_false, List.map_cons, List.map_nil, List.length_cons, List.length_nil, List.replicate, List.cons_append, List.nil_append, List.set_cons_zero, List.set_cons_succ, List.set_nil, wipeD, back, noOwn, true_and, and_true, List.length_map, List.reduceReplicate, Nat.reduceSub, Nat.reduceAdd, Int.reduceNeg, reduceCtorEq, if_true, if_false, Bool.true_eq_false, Bool.false_eq_true, ite_true, ite_false, s_onVal, s_onOwn, s_onLst, s_onIns, s_onL, s_onBl, s_some, s_kI, s_addI, s_addS, s_neg, s_eqI, s_neI, s_eqS, s_neS, s_ixL, s_ixT, s_ixS, s_ixO, s_lenS, s_lenL, s_lenT, s_abs, s_intI, s_intB, s_max2, s_min2, s_itL, s_itT, s_itS, s_rng1, s_rng2, s_zipL, s_zipT, s_enL, s_seqL, s_seqT, s_minL, s_maxL, s_sum, s_isBl, s_fld, s_vNil, s_vCons, s_frzL, s_frzI, at0, at1, at2, at3, ix30, ix31, ix32, pT_cons, oT_cons, iT_cons, Option.map_some, s_none, s_put0, s_put, s_find, s_join, notInS_of, inS_of, eq_self]
  unfold m_check_stores
  simp only [w1, e, fa, decide_true, sNil, sCons, sIf, sAsg, sOwn, sFor, sRet, sRetN, sRetO, sRetNew, sExpr, sApp, sSetIx, sPass, DL.sFld, sNever, s_lk, sLcO, sLcV, eVar, eFrz, eC, eNew, eAnd, eOr, eNot, eIf, eOp, eNeg, eIsN, eNotN, eFld, eFldO, eIxO, eLenO, eTup, eB, eTuple, eFind, eJoin, eIsi, eCall, eCallT, eChain, nLst, nList, nComp, nCall, nCallT, nMake, nRep, nCat, nCatO, oNone, oSome, nSlice, bVal, bAnd, bOr, bNot, bOp, bChain, bIsN, bNotN, bYes, aNil, aCons, qNil, qVal, iSq, iR1, iR2, iZp, iEn, sPopAt, gNm, gTp, gConsD, gNilD, onMade, gt, ownAll, mkSl, wb, endsD, mrg, startD, kAdd, kSub, kMul, kMod, kDiv, kPow, kShr, kLt, kLe, kGt, kGe, isNon, br_decide, br_t, br_f, Bool.not_true, Bool.not_false, List.map_cons, List.map_nil, List.length_cons, List.length_nil, List.replicate, List.cons_append, List.nil_append, List.set_cons_zero, List.set_cons_succ, List.set_nil, wipeD, back, noOwn, true_and, and_true, List.length_map, List.reduceReplicate, Nat.reduceSub, Nat.reduceAdd, Int.reduceNeg, reduceCtorEq, if_true, if_false, Bool.true_eq_false, Bool.false_eq_true, ite_true, ite_false, s_onVal, s_onOwn, s_onLst, s_onIns, s_onL, s_onBl, s_some, s_kI, s_addI, s_addS, s_neg, s_eqI, s_neI, s_eqS, s_neS, s_ixL, s_ixT, s_ixS, s_ixO, s_lenS, s_lenL, s_lenT, s_abs, s_intI, s_intB, s_max2, s_min2, s_itL, s_itT, s_itS, s_rng1, s_rng2, s_zipL, s_zipT, s_enL, s_seqL, s_seqT, s_minL, s_maxL, s_sum, s_isBl, s_fld, s_vNil, s_vCons, s_frzL, s_frzI, at0, at1, at2, at3, ix30, ix31, ix32, pT_cons, oT_cons, iT_cons, Option.map_some, s_none, s_put0, s_put, s_find, s_join, notInS_of, inS_of, eq_self]
  exact h

theorem p_is_count (K : PySem.W.Frag) (kf : KF K) : ∀ sl Q E, T_is_count K sl Q E → m_is_count K (endsD [] sl Q E) (startD N_is_count sl) := by
  refine pT_in ?_
  rintro ds Q E ⟨d, lo, hi, b, rfl, hb, h⟩
  unfold m_is_count
  simp only [T_is_integer, hb, sNil, sCons, sIf, sAsg, sOwn, sFor, sRet, sRetN, sRetO, sRetNew, sExpr, sApp, sSetIx, sPass, DL.sFld, sNever, s_lk, sLcO, sLcV, eVar, eFrz, eC, eNew, eAnd, eOr, eNot, eIf, eOp, eNeg, eIsN, eNotN, eFld, eFldO, eIxO, eLenO, eTup, eB, eTuple, eFind, eJoin, eIsi, eCall, eCallT, eChain, nLst, nList, nComp, nCall, nCallT, nMake, nRep, nCat, nCatO, oNone, oSome, nSlice, bVal, bAnd, bOr, bNot, bOp, bChain, bIsN, bNotN, bYes, aNil, aCons, qNil, qVal, iSq, iR1, iR2, iZp, iEn, sPopAt, gNm, gTp, gConsD, gNilD, onMade, gt, ownAll, mkSl, wb, endsD, mrg, startD, kAdd, kSub, kMul, kMod, kDiv, kPow, kShr, kLt, kLe, kGt, kGe, isNon, br_decide, br_t, br_f, Bool.not_true, Bool.not_false, List.map_cons, List.map_nil, List.length_cons, List.length_nil, List.replicate, List.cons_append, List.nil_append, List.set_cons_zero, List.set_cons_succ, List.set_nil, wipeD, back, noOwn, true_and, and_true, List.length_map, List.reduceReplicate, Nat.reduceSub, Nat.reduceAdd, Int.reduceNeg, reduceCtorEq, if_true, if_false, Bool.true_eq_false, Bool.false_eq_true, ite_true, ite_false, s_onVal, s_onOwn, s_onLst, s_onIns, s_onL, s_onBl, s_some, s_kI, s_addI, s_addS, s_neg, s_eqI, s_neI, s_eqS, s_neS, s_ixL, s_ixT, s_ixS, s_ixO, s_lenS, s_lenL, s_lenT, s_abs, s_intI, s_intB, s_max2, s_min2, s_itL, s_itT, s_itS, s_rng1, s_rng2, s_zipL, s_zipT, s_enL, s_seqL, s_seqT, s_minL, s_maxL, s_sum, s_isBl, s_fld, s_vNil, s_vCons, s_frzL, s_frzI, at0, at1, at2, at3, ix30, ix31, ix32, pT_cons, oT_cons, iT_cons, Option.map_some, s_none, s_put0, s_put, s_find, s_join, notInS_of, inS_of, eq_self]
  cases b with
  | false =>
    simp only [sNil, sCons, sIf, sAsg, sOwn, sFor, sRet, sRetN, sRetO, sRetNew, sExpr, sApp, sSetIx, sPass, DL.sFld, sNever, s_lk, sLcO, sLcV, eVar, eFrz, eC, eNew, eAnd, eOr, eNot, eIf, eOp, eNeg, eIsN, eNotN, eFld, eFldO, eIxO, eLenO, eTup, eB, eTuple, eFind, eJoin, eIsi, eCall, eCallT, eChain, nLst, nList, nComp, nCall, nCallT, nMake, nRep, nCat, nCatO, oNone, oSome, nSlice, bVal, bAnd, bOr, bNot, bOp, bChain, bIsN, bNotN, bYes, aNil, aCons, qNil, qVal, iSq, iR1, iR2, iZp, iEn, sPopAt, gNm, gTp, gConsD, gNilD, onMade, gt, ownAll, mkSl, wb, endsD, mrg, startD, kAdd, kSub, kMul, kMod, kDiv, kPow, kShr, kLt, kLe, kGt, kGe, isNon, br_decide, br_t, br_f, Bool.not_true, Bool.not_false, List.map_cons, List.map_nil, List.length_cons, List.length_nil, List.replicate, List.cons_append, List.nil_append, List.set_cons_zero, List.set_cons_succ, List.set_nil, wipeD, back, noOwn, true_and, and_true, List.length_map, List.reduceReplicate, Nat.reduceSub, Nat.reduceAdd, Int.reduceNeg, reduceCtorEq, if_true, if_false, Bool.true_eq_false, Bool.false_eq_true, ite_true, ite_false, s_onVal, s_onOwn, s_onLst, s_onIns, s_onL, s_onBl, s_some, s_kI, s_addI, s_addS, s_neg, s_eqI, s_neI, s_eqS, s_neS, s_ixL, s_ixT, s_ixS, s_ixO, s_lenS, s_lenL, s_lenT, s_abs, s_intI, s_intB, s_max2, s_min2, s_itL, s_itT, s_itS, s_rng1, s_rng2, s_zipL, s_zipT, s_enL, s_seqL, s_seqT, s_minL, s_maxL, s_sum, s_isBl, s_fld, s_vNil, s_vCons, s_frzL, s_frzI, at0, at1, at2, at3, ix30, ix31, ix32, pT_cons, oT_cons, iT_cons, Option.map_some, s_none, s_put0, s_put, s_find, s_join, notInS_of, inS_of, eq_self]
    exact h false ⟨fun z => by simp at z, fun ⟨i, e, _⟩ => by subst e; simp [isNum] at hb⟩
  | true =>
    obtain ⟨i, rfl⟩ := isNum_true hb
    simp only [sNil, sCons, sIf, sAsg, sOwn, sFor, sRet, sRetN, sRetO, sRetNew, sExpr, sApp, sSetIx, sPass, DL.sFld, sNever, s_lk, sLcO, sLcV, eVar, eFrz, eC, eNew, eAnd, eOr, eNot, eIf, eOp, eNeg, eIsN, eNotN, eFld, eFldO, eIxO, eLenO, eTup, eB, eTuple, eFind, eJoin, eIsi, eCall, eCallT, eChain, nLst, nList, nComp, nCall, nCallT, nMake, nRep, nCat, nCatO, oNone, oSome, nSlice, bVal, bAnd, bOr, bNot, bOp, bChain, bIsN, bNotN, bYes, aNil, aCons, qNil, qVal, iSq, iR1, iR2, iZp, iEn, sPopAt, gNm, gTp, gConsD, gNilD, onMade, gt, ownAll, mkSl, wb, endsD, mrg, startD, kAdd, kSub, kMul, kMod, kDiv, kPow, kShr, kLt, kLe, kGt, kGe, isNon, br_decide, br_t, br_f, Bool.not_true, Bool.not_false, List.map_cons, List.map_nil, List.length_cons, List.length_nil, List.replicate, List.cons_append, List.nil_append, List.set_cons_zero, List.set_cons_succ, List.set_nil, wipeD, back, noOwn, true_and, and_true, List.length_map, List.reduceReplicate, Nat.reduceSub, Nat.reduceAdd, Int.reduceNeg, reduceCtorEq, if_true, if_false, Bool.true_eq_false, Bool.false_eq_true, ite_true, ite_false, s_onVal, s_onOwn, s_onLst, s_onIns, s_onL, s_onBl, s_some, s_kI, s_addI, s_addS, s_neg, s_eqI, s_neI, s_eqS, s_neS, s_ixL, s_ixT, s_ixS, s_ixO, s_lenS, s_lenL, s_lenT, s_abs, s_intI, s_intB, s_max2, s_min2, s_itL, s_itT, s_itS, s_rng1, s_rng2, s_zipL, s_zipT, s_enL, s_seqL, s_seqT, s_minL, s_maxL, s_sum, s_isBl, s_fld, s_vNil, s_vCons, s_frzL, s_frzI, at0, at1, at2, at3, ix30, ix31, ix32, pT_cons, oT_cons, iT_cons, Option.map_some, s_none, s_put0, s_put, s_find, s_join, notInS_of, inS_of, eq_self]
    refine ⟨fun c => h _ ?_, fun c => h false ⟨fun z => by simp at z, fun ⟨j, e, z, _⟩ => by cases e; exact (c z).elim⟩⟩
    simp [c]

theorem p_is_direct (K : PySem.W.Frag) (kf : KF K) : ∀ sl Q E, T_is_direct K sl Q E → m_is_direct K (endsD [] sl Q E) (startD N_is_direct sl) := by
  refine pT_in ?_
  rintro ds Q E ⟨m, n, w, o, f, rfl, hw, ho, hf, h⟩
  have fb : FldOk K (He.ga K "Store") "begins" := ⟨kf.cl_Store, kf.na_Store_begins⟩
  have w1 : ∀ {k : D → Prop}, kFld K "begins" (sD K w) k = (FldOk K (He.ga K "Store") "begins" ∧ k (iU w.b)) := fun {k} => by simp (decide := true) only [sD, sL, sNil, sCons, sIf, sAsg, sOwn, sFor, sRet, sRetN, sRetO, sRetNew, sExpr, sApp, sSetIx, sPass, DL.sFld, sNever, s_lk, sLcO, sLcV, eVar, eFrz, eC, eNew, eAnd, eOr, eNot, eIf, eOp, eNeg, eIsN, eNotN, eFld, eFldO, eIxO, eLenO, eTup, eB, eTuple, eFind, eJoin, eIsi, eCall, eCallT, eChain, nLst, nList, nComp, nCall, nCallT, nMake, nRep, nCat, nCatO, oNone, oSome, nSlice, bVal, bAnd, bOr, bNot, bOp, bChain, bIsN, bNotN, bYes, aNil, aCons, qNil, qVal, iSq, iR1, iR2, iZp, iEn, sPopAt, gNm, gTp, gConsD, gNilD, onMade, gt, ownAll, mkSl, wb, endsD, mrg, startD, kAdd, kSub, kMul, kMod, kDiv, kPow, kShr, kLt, kLe, kGt, kGe, isNon, br_decide, br_t, br_f, Bool.not_true, Bool.not_false, List.map_cons, List.map_nil, List.length_cons, List.length_nil, List.replicate, List.cons_append, List.nil_append, List.set_cons_zero, List.set_cons_succ, List.set_nil, wipeD, back, noOwn, true_and, and_true, List.length_map, List.reduceReplicate, Nat.reduceSub, Nat.reduceAdd, Int.reduceNeg, reduceCtorEq, if_true, if_false, Bool.true_eq_false, Bool.false_eq_true, ite_true, ite_false, s_onVal, s_onOwn, s_onLst, s_onIns, s_onL, s_onBl, s_some, s_kI, s_addI, s_addS, s_neg, s_eqI, s_neI, s_eqS, s_neS, s_ixL, s_ixT, s_ixS, s_ixO, s_lenS, s_lenL, s_lenT, s_abs, s_intI, s_intB, s_max2, s_min2, s_itL, s_itT, s_itS, s_rng1, s_rng2, s_zipL, s_zipT, s_enL, s_seqL, s_seqT, s_minL, s_maxL, s_sum, s_isBl, s_fld, s_vNil, s_vCons, s_frzL, s_frzI, at0, at1, at2, at3, ix30, ix31, ix32, pT_cons, oT_cons, iT_cons, Option.map_some, s_none, s_put0, s_put, s_find, s_join, notInS_of, inS_of, eq_self]
  have o1 : ∀ {k : D → Prop}, kFld K "begins" (sD K o) k = (FldOk K (He.ga K "Store") "begins" ∧ k (iU o.b)) := fun {k} => by simp (decide := true) only [sD, sL, sNil, sCons, sIf, sAsg, sOwn, sFor, sRet, sRetN, sRetO, sRetNew, sExpr, sApp, sSetIx, sPass, DL.sFld, sNever, s_lk, sLcO, sLcV, eVar, eFrz, eC, eNew, eAnd, eOr, eNot, eIf, eOp, eNeg, eIsN, eNotN, eFld, eFldO, eIxO, eLenO, eTup, eB, eTuple, eFind, eJoin, eIsi, eCall, eCallT, eChain, nLst, nList, nComp, nCall, nCallT, nMake, nRep, nCat, nCatO, oNone, oSome, nSlice, bVal, bAnd, bOr, bNot, bOp, bChain, bIsN, bNotN, bYes, aNil, aCons, qNil, qVal, iSq, iR1, iR2, iZp, iEn, sPopAt, gNm, gTp, gConsD, gNilD, onMade, gt, ownAll, mkSl, wb, endsD, mrg, startD, kAdd, kSub, kMul, kMod, kDiv, kPow, kShr, kLt, kLe, kGt, kGe, isNon, br_decide, br_t, br_f, Bool.not_true, Bool.not_false, List.map_cons, List.map_nil, List.length_cons, List.length_nil, List.replicate, List.cons_append, List.nil_append, List.set_cons_zero, List.set_cons_succ, List.set_nil, wipeD, back, noOwn, true_and, and_true, List.length_map, List.reduceReplicate, Nat.reduceSub, Nat.reduceAdd, Int.reduceNeg, reduceCtorEq, if_true, if_false, Bool.true_eq_false, Bool.false_eq_true, ite_true, ite_false, s_onVal, s_onOwn, s_onLst, s_onIns, s_onL, s_onBl, s_some, s_kI, s_addI, s_addS, s_neg, s_eqI, s_neI, s_eqS, s_neS, s_ixL, s_ixT, s_ixS, s_ixO, s_lenS, s_lenL, s_lenT, s_abs, s_intI, s_intB, s_max2, s_min2, s_itL, s_itT, s_itS, s_rng1, s_rng2, s_zipL, s_zipT, s_enL, s_seqL, s_seqT, s_minL, s_maxL, s_sum, s_isBl, s_fld, s_vNil, s_vCons, s_frzL, s_frzI, at0, at1, at2, at3, ix30, ix31, ix32, pT_cons, oT_cons, iT_cons, Option.map_some, s_none, s_put0, s_put, s_find, s_join, notInS_of, inS_of, eq_self]
  have lw : ∀ {k : D → Prop}, kLen [iU w.b] k = k (.int m) := fun {k} => by simp only [iU, hw.b, sNil, sCons, sIf, sAsg, sOwn, sFor, sRet, sRetN, sRetO, sRetNew, sExpr, sApp, sSetIx, sPass, DL.sFld, sNever, s_lk, sLcO, sLcV, eVar, eFrz, eC, eNew, eAnd, eOr, eNot, eIf, eOp, eNeg, eIsN, eNotN, eFld, eFldO, eIxO, eLenO, eTup, eB, eTuple, eFind, eJoin, eIsi, eCall, eCallT, eChain, nLst, nList, nComp, nCall, nCallT, nMake, nRep, nCat, nCatO, oNone, oSome, nSlice, bVal, bAnd, bOr, bNot, bOp, bChain, bIsN, bNotN, bYes, aNil, aCons, qNil, qVal, iSq, iR1, iR2, iZp, iEn, sPopAt, gNm, gTp, gConsD, gNilD, onMade, gt, ownAll, mkSl, wb, endsD, mrg, startD, kAdd, kSub, kMul, kMod, kDiv, kPow, kShr, kLt, kLe, kGt, kGe, isNon, br_decide, br_t, br_f, Bool.not_true, Bool.not_false, List.map_cons, List.map_nil, List.length_cons, List.length_nil, List.replicate, List.cons_append, List.nil_append, List.set_cons_zero, List.set_cons_succ, List.set_nil, wipeD, back, noOwn, true_and, and_true, List.length_map, List.reduceReplicate, Nat.reduceSub, Nat.reduceAdd, Int.reduceNeg, reduceCtorEq, if_true, if_false, Bool.true_eq_false, Bool.false_eq_true, ite_true, ite_false, s_onVal, s_onOwn, s_onLst, s_onIns, s_onL, s_onBl, s_some, s_kI, s_addI, s_addS, s_neg, s_eqI, s_neI, s_eqS, s_neS, s_ixL, s_ixT, s_ixS, s_ixO, s_lenS, s_lenL, s_lenT, s_abs, s_intI, s_intB, s_max2, s_min2, s_itL, s_itT, s_itS, s_rng1, s_rng2, s_zipL, s_zipT, s_enL, s_seqL, s_seqT, s_minL, s_maxL, s_sum, s_isBl, s_fld, s_vNil, s_vCons, s_frzL, s_frzI, at0, at1, at2, at3, ix30, ix31, ix32, pT_cons, oT_cons, iT_cons, Option.map_some, s_none, s_put0, s_put, s_find, s_join, notInS_of, inS_of, eq_self]
  have lo : ∀ {k : D → Prop}, kLen [iU o.b] k = k (.int n) := fun {k} => by simp only [iU, ho.b, sNil, sCons, sIf, sAsg, sOwn, sFor, sRet, sRetN, sRetO, sRetNew, sExpr, sApp, sSetIx, sPass, DL.sFld, sNever, s_lk, sLcO, sLcV, eVar, eFrz, eC, eNew, eAnd, eOr, eNot, eIf, eOp, eNeg, eIsN, eNotN, eFld, eFldO, eIxO, eLenO, eTup, eB, eTuple, eFind, eJoin, eIsi, eCall, eCallT, eChain, nLst, nList, nComp, nCall, nCallT, nMake, nRep, nCat, nCatO, oNone, oSome, nSlice, bVal, bAnd, bOr, bNot, bOp, bChain, bIsN, bNotN, bYes, aNil, aCons, qNil, qVal, iSq, iR1, iR2, iZp, iEn, sPopAt, gNm, gTp, gConsD, gNilD, onMade, gt, ownAll, mkSl, wb, endsD, mrg, startD, kAdd, kSub, kMul, kMod, kDiv, kPow, kShr, kLt, kLe, kGt, kGe, isNon, br_decide, br_t, br_f, Bool.not_true, Bool.not_false, List.map_cons, List.map_nil, List.length_cons, List.length_nil, List.replicate, List.cons_append, List.nil_append, List.set_cons_zero, List.set_cons_succ, List.set_nil, wipeD, back, noOwn, true_and, and_true, List.length_map, List.reduceReplicate, Nat.reduceSub, Nat.reduceAdd, Int.reduceNeg, reduceCtorEq, if_true, if_false, Bool.true_eq_false, Bool.false_eq_true, ite_true, ite_false, s_onVal, s_onOwn, s_onLst, s_onIns, s_onL, s_onBl, s_some, s_kI, s_addI, s_addS, s_neg, s_eqI, s_neI, s_eqS, s_neS, s_ixL, s_ixT, s_ixS, s_ixO, s_lenS, s_lenL, s_lenT, s_abs, s_intI, s_intB, s_max2, s_min2, s_itL, s_itT, s_itS, s_rng1, s_rng2, s_zipL, s_zipT, s_enL, s_seqL, s_seqT, s_minL, s_maxL, s_sum, s_isBl, s_fld, s_vNil, s_vCons, s_frzL, s_frzI, at0, at1, at2, at3, ix30, ix31, ix32, pT_cons, oT_cons, iT_cons, Option.map_some, s_none, s_put0, s_put, s_find, s_join, notInS_of, inS_of, eq_self]
  have no : (¬ ∃ ps, IsFold m n f ps) → Q (.val (.bl false)) [.val (sD K w), .val (sD K o), .val f] := fun hn => h false ⟨fun z => by simp at z, fun z => (hn z).elim⟩
  have bad : ∀ {f : D}, isSeq f = some false → ¬ ∃ ps, IsFold m n f ps := fun hs ⟨ps, _, ds, e, _⟩ => by rcases e with rfl | rfl <;> simp [isSeq] at hs
  unfold m_is_direct
  simp only [T_is_listed, w1, lw, fb, sNil, sCons, sIf, sAsg, sOwn, sFor, sRet, sRetN, sRetO, sRetNew, sExpr, sApp, sSetIx, sPass, DL.sFld, sNever, s_lk, sLcO, sLcV, eVar, eFrz, eC, eNew, eAnd, eOr, eNot, eIf, eOp, eNeg, eIsN, eNotN, eFld, eFldO, eIxO, eLenO, eTup, eB, eTuple, eFind, eJoin, eIsi, eCall, eCallT, eChain, nLst, nList, nComp, nCall, nCallT, nMake, nRep, nCat, nCatO, oNone, oSome, nSlice, bVal, bAnd, bOr, bNot, bOp, bChain, bIsN, bNotN, bYes, aNil, aCons, qNil, qVal, iSq, iR1, iR2, iZp, iEn, sPopAt, gNm, gTp, gConsD, gNilD, onMade, gt, ownAll, mkSl, wb, endsD, mrg, startD, kAdd, kSub, kMul, kMod, kDiv, kPow, kShr, kLt, kLe, kGt, kGe, isNon, br_decide, br_t, br_f, Bool.not_true, Bool.not_false, List.map_cons, List.map_nil, List.length_cons, List.length_nil, List.replicate, List.cons_append, List.nil_append, List.set_cons_zero, List.set_cons_succ, List.set_nil, wipeD, back, noOwn, true_and, and_true, List.length_map, List.reduceReplicate, Nat.reduceSub, Nat.reduceAdd, Int.reduceNeg, reduceCtorEq, if_true, if_false, Bool.true_eq_false, Bool.false_eq_true, ite_true, ite_false, s_onVal, s_onOwn, s_onLst, s_onIns, s_onL, s_onBl, s_some, s_kI, s_addI, s_addS, s_neg, s_eqI, s_neI, s_eqS, s_neS, s_ixL, s_ixT, s_ixS, s_ixO, s_lenS, s_lenL, s_lenT, s_abs, s_intI, s_intB, s_max2, s_min2, s_itL, s_itT, s_itS, s_rng1, s_rng2, s_zipL, s_zipT, s_enL, s_seqL, s_seqT, s_minL, s_maxL, s_sum, s_isBl, s_fld, s_vNil, s_vCons, s_frzL, s_frzI, at0, at1, at2, at3, ix30, ix31, ix32, pT_cons, oT_cons, iT_cons, Option.map_some, s_none, s_put0, s_put, s_find, s_join, notInS_of, inS_of, eq_self]
  rcases hf with ⟨i, rfl⟩ | rfl | ⟨s, rfl⟩ | ⟨ds, rfl, hd⟩ | ⟨rfl, h0⟩
  · simp only [isSeq, sNil, sCons, sIf, sAsg, sOwn, sFor, sRet, sRetN, sRetO, sRetNew, sExpr, sApp, sSetIx, sPass, DL.sFld, sNever, s_lk, sLcO, sLcV, eVar, eFrz, eC, eNew, eAnd, eOr, eNot, eIf, eOp, eNeg, eIsN, eNotN, eFld, eFldO, eIxO, eLenO, eTup, eB, eTuple, eFind, eJoin, eIsi, eCall, eCallT, eChain, nLst, nList, nComp, nCall, nCallT, nMake, nRep, nCat, nCatO, oNone, oSome, nSlice, bVal, bAnd, bOr, bNot, bOp, bChain, bIsN, bNotN, bYes, aNil, aCons, qNil, qVal, iSq, iR1, iR2, iZp, iEn, sPopAt, gNm, gTp, gConsD, gNilD, onMade, gt, ownAll, mkSl, wb, endsD, mrg, startD, kAdd, kSub, kMul, kMod, kDiv, kPow, kShr, kLt, kLe, kGt, kGe, isNon, br_decide, br_t, br_f, Bool.not_true, Bool.not_false, List.map_cons, List.map_nil, List.length_cons, List.length_nil, List.replicate, List.cons_append, List.nil_append, List.set_cons_zero, List.set_cons_succ, List.set_nil, wipeD, back, noOwn, true_and, and_true, List.length_map, List.reduceReplicate, Nat.reduceSub, Nat.reduceAdd, Int.reduceNeg, reduceCtorEq, if_true, if_false, Bool.true_eq_false, Bool.false_eq_true, ite_true, ite_false, s_onVal, s_onOwn, s_onLst, s_onIns, s_onL, s_onBl, s_some, s_kI, s_addI, s_addS, s_neg, s_eqI, s_neI, s_eqS, s_neS, s_ixL, s_ixT, s_ixS, s_ixO, s_lenS, s_lenL, s_lenT, s_abs, s_intI, s_intB, s_max2, s_min2, s_itL, s_itT, s_itS, s_rng1, s_rng2, s_zipL, s_zipT, s_enL, s_seqL, s_seqT, s_minL, s_maxL, s_sum, s_isBl, s_fld, s_vNil, s_vCons, s_frzL, s_frzI, at0, at1, at2, at3, ix30, ix31, ix32, pT_cons, oT_cons, iT_cons, Option.map_some, s_none, s_put0, s_put, s_find, s_join, notInS_of, inS_of, eq_self]
    exact no (bad rfl)
  · simp only [isSeq, sNil, sCons, sIf, sAsg, sOwn, sFor, sRet, sRetN, sRetO, sRetNew, sExpr, sApp, sSetIx, sPass, DL.sFld, sNever, s_lk, sLcO, sLcV, eVar, eFrz, eC, eNew, eAnd, eOr, eNot, eIf, eOp, eNeg, eIsN, eNotN, eFld, eFldO, eIxO, eLenO, eTup, eB, eTuple, eFind, eJoin, eIsi, eCall, eCallT, eChain, nLst, nList, nComp, nCall, nCallT, nMake, nRep, nCat, nCatO, oNone, oSome, nSlice, bVal, bAnd, bOr, bNot, bOp, bChain, bIsN, bNotN, bYes, aNil, aCons, qNil, qVal, iSq, iR1, iR2, iZp, iEn, sPopAt, gNm, gTp, gConsD, gNilD, onMade, gt, ownAll, mkSl, wb, endsD, mrg, startD, kAdd, kSub, kMul, kMod, kDiv, kPow, kShr, kLt, kLe, kGt, kGe, isNon, br_decide, br_t, br_f, Bool.not_true, Bool.not_false, List.map_cons, List.map_nil, List.length_cons, List.length_nil, List.replicate, List.cons_append, List.nil_append, List.set_cons_zero, List.set_cons_succ, List.set_nil, wipeD, back, noOwn, true_and, and_true, List.length_map, List.reduceReplicate, Nat.reduceSub, Nat.reduceAdd, Int.reduceNeg, reduceCtorEq, if_true, if_false, Bool.true_eq_false, Bool.false_eq_true, ite_true, ite_false, s_onVal, s_onOwn, s_onLst, s_onIns, s_onL, s_onBl, s_some, s_kI, s_addI, s_addS, s_neg, s_eqI, s_neI, s_eqS, s_neS, s_ixL, s_ixT, s_ixS, s_ixO, s_lenS, s_lenL, s_lenT, s_abs, s_intI, s_intB, s_max2, s_min2, s_itL, s_itT, s_itS, s_rng1, s_rng2, s_zipL, s_zipT, s_enL, s_seqL, s_seqT, s_minL, s_maxL, s_sum, s_isBl, s_fld, s_vNil, s_vCons, s_frzL, s_frzI, at0, at1, at2, at3, ix30, ix31, ix32, pT_cons, oT_cons, iT_cons, Option.map_some, s_none, s_put0, s_put, s_find, s_join, notInS_of, inS_of, eq_self]
    exact no (bad rfl)
  · simp only [isSeq, sNil, sCons, sIf, sAsg, sOwn, sFor, sRet, sRetN, sRetO, sRetNew, sExpr, sApp, sSetIx, sPass, DL.sFld, sNever, s_lk, sLcO, sLcV, eVar, eFrz, eC, eNew, eAnd, eOr, eNot, eIf, eOp, eNeg, eIsN, eNotN, eFld, eFldO, eIxO, eLenO, eTup, eB, eTuple, eFind, eJoin, eIsi, eCall, eCallT, eChain, nLst, nList, nComp, nCall, nCallT, nMake, nRep, nCat, nCatO, oNone, oSome, nSlice, bVal, bAnd, bOr, bNot, bOp, bChain, bIsN, bNotN, bYes, aNil, aCons, qNil, qVal, iSq, iR1, iR2, iZp, iEn, sPopAt, gNm, gTp, gConsD, gNilD, onMade, gt, ownAll, mkSl, wb, endsD, mrg, startD, kAdd, kSub, kMul, kMod, kDiv, kPow, kShr, kLt, kLe, kGt, kGe, isNon, br_decide, br_t, br_f, Bool.not_true, Bool.not_false, List.map_cons, List.map_nil, List.length_cons, List.length_nil, List.replicate, List.cons_append, List.nil_append, List.set_cons_zero, List.set_cons_succ, List.set_nil, wipeD, back, noOwn, true_and, and_true, List.length_map, List.reduceReplicate, Nat.reduceSub, Nat.reduceAdd, Int.reduceNeg, reduceCtorEq, if_true, if_false, Bool.true_eq_false, Bool.false_eq_true, ite_true, ite_false, s_onVal, s_onOwn, s_onLst, s_onIns, s_onL, s_onBl, s_some, s_kI, s_addI, s_addS, s_neg, s_eqI, s_neI, s_eqS, s_neS, s_ixL, s_ixT, s_ixS, s_ixO, s_lenS, s_lenL, s_lenT, s_abs, s_intI, s_intB, s_max2, s_min2, s_itL, s_itT, s_itS, s_rng1, s_rng2, s_zipL, s_zipT, s_enL, s_seqL, s_seqT, s_minL, s_maxL, s_sum, s_isBl, s_fld, s_vNil, s_vCons, s_frzL, s_frzI, at0, at1, at2, at3, ix30, ix31, ix32, pT_cons, oT_cons, iT_cons, Option.map_some, s_none, s_put0, s_put, s_find, s_join, notInS_of, inS_of, eq_self]
    exact no (bad rfl)
  rotate_left
  · simp only [isSeq, sNil, sCons, sIf, sAsg, sOwn, sFor, sRet, sRetN, sRetO, sRetNew, sExpr, sApp, sSetIx, sPass, DL.sFld, sNever, s_lk, sLcO, sLcV, eVar, eFrz, eC, eNew, eAnd, eOr, eNot, eIf, eOp, eNeg, eIsN, eNotN, eFld, eFldO, eIxO, eLenO, eTup, eB, eTuple, eFind, eJoin, eIsi, eCall, eCallT, eChain, nLst, nList, nComp, nCall, nCallT, nMake, nRep, nCat, nCatO, oNone, oSome, nSlice, bVal, bAnd, bOr, bNot, bOp, bChain, bIsN, bNotN, bYes, aNil, aCons, qNil, qVal, iSq, iR1, iR2, iZp, iEn, sPopAt, gNm, gTp, gConsD, gNilD, onMade, gt, ownAll, mkSl, wb, endsD, mrg, startD, kAdd, kSub, kMul, kMod, kDiv, kPow, kShr, kLt, kLe, kGt, kGe, isNon, br_decide, br_t, br_f, Bool.not_true, Bool.not_false, List.map_cons, List.map_nil, List.length_cons, List.length_nil, List.replicate, List.cons_append, List.nil_append, List.set_cons_zero, List.set_cons_succ, List.set_nil, wipeD, back, noOwn, true_and, and_true, List.length_map, List.reduceReplicate, Nat.reduceSub, Nat.reduceAdd, Int.reduceNeg, reduceCtorEq, if_true, if_false, Bool.true_eq_false, Bool.false_eq_true, ite_true, ite_false, s_onVal, s_onOwn, s_onLst, s_onIns, s_onL, s_onBl, s_some, s_kI, s_addI, s_addS, s_neg, s_eqI, s_neI, s_eqS, s_neS, s_ixL, s_ixT, s_ixS, s_ixO, s_lenS, s_lenL, s_lenT, s_abs, s_intI, s_intB, s_max2, s_min2, s_itL, s_itT, s_itS, s_rng1, s_rng2, s_zipL, s_zipT, s_enL, s_seqL, s_seqT, s_minL, s_maxL, s_sum, s_isBl, s_fld, s_vNil, s_vCons, s_frzL, s_frzI, at0, at1, at2, at3, ix30, ix31, ix32, pT_cons, oT_cons, iT_cons, Option.map_some, s_none, s_put0, s_put, s_find, s_join, notInS_of, inS_of, eq_self]
    refine br_pq (fun _ => no fun ⟨ps, e, ds, q, a⟩ => ?_) fun z => ?_
    · rcases q with q | q <;> simp at q
      subst q
      cases a
      simp at e
      exact h0 e.symm
    · simp at z; omega
  simp only [isSeq, sNil, sCons, sIf, sAsg, sOwn, sFor, sRet, sRetN, sRetO, sRetNew, sExpr, sApp, sSetIx, sPass, DL.sFld, sNever, s_lk, sLcO, sLcV, eVar, eFrz, eC, eNew, eAnd, eOr, eNot, eIf, eOp, eNeg, eIsN, eNotN, eFld, eFldO, eIxO, eLenO, eTup, eB, eTuple, eFind, eJoin, eIsi, eCall, eCallT, eChain, nLst, nList, nComp, nCall, nCallT, nMake, nRep, nCat, nCatO, oNone, oSome, nSlice, bVal, bAnd, bOr, bNot, bOp, bChain, bIsN, bNotN, bYes, aNil, aCons, qNil, qVal, iSq, iR1, iR2, iZp, iEn, sPopAt, gNm, gTp, gConsD, gNilD, onMade, gt, ownAll, mkSl, wb, endsD, mrg, startD, kAdd, kSub, kMul, kMod, kDiv, kPow, kShr, kLt, kLe, kGt, kGe, isNon, br_decide, br_t, br_f, Bool.not_true, Bool.not_false, List.map_cons, List.map_nil, List.length_cons, List.length_nil, List.replicate, List.cons_append, List.nil_append, List.set_cons_zero, List.set_cons_succ, List.set_nil, wipeD, back, noOwn, true_and, and_true, List.length_map, List.reduceReplicate, Nat.reduceSub, Nat.reduceAdd, Int.reduceNeg, reduceCtorEq, if_true, if_false, Bool.true_eq_false, Bool.false_eq_true, ite_true, ite_false, s_onVal, s_onOwn, s_onLst, s_onIns, s_onL, s_onBl, s_some, s_kI, s_addI, s_addS, s_neg, s_eqI, s_neI, s_eqS, s_neS, s_ixL, s_ixT, s_ixS, s_ixO, s_lenS, s_lenL, s_lenT, s_abs, s_intI, s_intB, s_max2, s_min2, s_itL, s_itT, s_itS, s_rng1, s_rng2, s_zipL, s_zipT, s_enL, s_seqL, s_seqT, s_minL, s_maxL, s_sum, s_isBl, s_fld, s_vNil, s_vCons, s_frzL, s_frzI, at0, at1, at2, at3, ix30, ix31, ix32, pT_cons, oT_cons, iT_cons, Option.map_some, s_none, s_put0, s_put, s_find, s_join, notInS_of, inS_of, eq_self]
  refine br_pq (fun z => no fun ⟨ps, e, ds', q, a⟩ => ?_) fun z => ?_
  · rcases q with q | q <;> simp at q
    subst q
    simp only [Bool.not_eq_true', decide_eq_false_iff_not] at z
    rw [a.length] at z; omega
  have hlen : ds.length = m := by simp at z; omega
  refine forL_ix (fun ρ => ∃ x, ρ = [.val (sD K w), .val (sD K o), .val (.lst ds), x]) (fun i => ∃ d p, ds[i]? = some d ∧ IsPair n d p) _ _ (fun i d hi ρ ⟨x, e⟩ nx h1 h2 => ?_) (fun hall ρ ⟨x, e⟩ => ?_) (fun ⟨i, hi, hnot⟩ ρ ⟨x, e⟩ => ?_) ⟨_, rfl⟩
  · subst e
    unfold m_is_direct_1
    have hp := hd d (List.mem_of_getElem? hi)
    have h2' : (¬ ∃ p, IsPair n d p) → Q (.val (.bl false)) [.val (sD K w), .val (sD K o), .val (.lst ds)] := fun hn => h2 (fun ⟨d', p, e, q⟩ => by rw [hi] at e; cases e; exact hn ⟨p, q⟩) _ ⟨.un, rfl⟩
    have h1' : (∃ p, IsPair n d p) → nx [.val (sD K w), .val (sD K o), .val (.lst ds), .val d] := fun ⟨p, hn⟩ => h1 ⟨d, p, hi, hn⟩ _ ⟨_, rfl⟩
    rcases hp with hp | ⟨es, he, hfl⟩
    · simp only [T_is_listed, flat_seq hp, sNil, sCons, sIf, sAsg, sOwn, sFor, sRet, sRetN, sRetO, sRetNew, sExpr, sApp, sSetIx, sPass, DL.sFld, sNever, s_lk, sLcO, sLcV, eVar, eFrz, eC, eNew, eAnd, eOr, eNot, eIf, eOp, eNeg, eIsN, eNotN, eFld, eFldO, eIxO, eLenO, eTup, eB, eTuple, eFind, eJoin, eIsi, eCall, eCallT, eChain, nLst, nList, nComp, nCall, nCallT, nMake, nRep, nCat, nCatO, oNone, oSome, nSlice, bVal, bAnd, bOr, bNot, bOp, bChain, bIsN, bNotN, bYes, aNil, aCons, qNil, qVal, iSq, iR1, iR2, iZp, iEn, sPopAt, gNm, gTp, gConsD, gNilD, onMade, gt, ownAll, mkSl, wb, endsD, mrg, startD, kAdd, kSub, kMul, kMod, kDiv, kPow, kShr, kLt, kLe, kGt, kGe, isNon, br_decide, br_t, br_f, Bool.not_true, Bool.not_false, List.map_cons, List.map_nil, List.length_cons, List.length_nil, List.replicate, List.cons_append, List.nil_append, List.set_cons_zero, List.set_cons_succ, List.set_nil, wipeD, back, noOwn, true_and, and_true, List.length_map, List.reduceReplicate, Nat.reduceSub, Nat.reduceAdd, Int.reduceNeg, reduceCtorEq, if_true, if_false, Bool.true_eq_false, Bool.false_eq_true, ite_true, ite_false, s_onVal, s_onOwn, s_onLst, s_onIns, s_onL, s_onBl, s_some, s_kI, s_addI, s_addS, s_neg, s_eqI, s_neI, s_eqS, s_neS, s_ixL, s_ixT, s_ixS, s_ixO, s_lenS, s_lenL, s_lenT, s_abs, s_intI, s_intB, s_max2, s_min2, s_itL, s_itT, s_itS, s_rng1, s_rng2, s_zipL, s_zipT, s_enL, s_seqL, s_seqT, s_minL, s_maxL, s_sum, s_isBl, s_fld, s_vNil, s_vCons, s_frzL, s_frzI, at0, at1, at2, at3, ix30, ix31, ix32, pT_cons, oT_cons, iT_cons, Option.map_some, s_none, s_put0, s_put, s_find, s_join, notInS_of, inS_of, eq_self]
      exact h2' fun ⟨p, q, _⟩ => by rcases q with rfl | rfl <;> simp [Flat] at hp
    · have sq : isSeq d = some true := by rcases he with rfl | rfl <;> rfl
      have ln : ∀ {k : D → Prop}, kLen [d] k = k (.int es.length) := fun {k} => by rcases he with rfl | rfl <;> rfl
      simp only [T_is_listed, sq, ln, sNil, sCons, sIf, sAsg, sOwn, sFor, sRet, sRetN, sRetO, sRetNew, sExpr, sApp, sSetIx, sPass, DL.sFld, sNever, s_lk, sLcO, sLcV, eVar, eFrz, eC, eNew, eAnd, eOr, eNot, eIf, eOp, eNeg, eIsN, eNotN, eFld, eFldO, eIxO, eLenO, eTup, eB, eTuple, eFind, eJoin, eIsi, eCall, eCallT, eChain, nLst, nList, nComp, nCall, nCallT, nMake, nRep, nCat, nCatO, oNone, oSome, nSlice, bVal, bAnd, bOr, bNot, bOp, bChain, bIsN, bNotN, bYes, aNil, aCons, qNil, qVal, iSq, iR1, iR2, iZp, iEn, sPopAt, gNm, gTp, gConsD, gNilD, onMade, gt, ownAll, mkSl, wb, endsD, mrg, startD, kAdd, kSub, kMul, kMod, kDiv, kPow, kShr, kLt, kLe, kGt, kGe, isNon, br_decide, br_t, br_f, Bool.not_true, Bool.not_false, List.map_cons, List.map_nil, List.length_cons, List.length_nil, List.replicate, List.cons_append, List.nil_append, List.set_cons_zero, List.set_cons_succ, List.set_nil, wipeD, back, noOwn, true_and, and_true, List.length_map, List.reduceReplicate, Nat.reduceSub, Nat.reduceAdd, Int.reduceNeg, reduceCtorEq, if_true, if_false, Bool.true_eq_false, Bool.false_eq_true, ite_true, ite_false, s_onVal, s_onOwn, s_onLst, s_onIns, s_onL, s_onBl, s_some, s_kI, s_addI, s_addS, s_neg, s_eqI, s_neI, s_eqS, s_neS, s_ixL, s_ixT, s_ixS, s_ixO, s_lenS, s_lenL, s_lenT, s_abs, s_intI, s_intB, s_max2, s_min2, s_itL, s_itT, s_itS, s_rng1, s_rng2, s_zipL, s_zipT, s_enL, s_seqL, s_seqT, s_minL, s_maxL, s_sum, s_isBl, s_fld, s_vNil, s_vCons, s_frzL, s_frzI, at0, at1, at2, at3, ix30, ix31, ix32, pT_cons, oT_cons, iT_cons, Option.map_some, s_none, s_put0, s_put, s_find, s_join, notInS_of, inS_of, eq_self]
      refine br_pq (fun z => h2' fun ⟨p, q, _⟩ => ?_) fun z => ?_
      · rcases he with rfl | rfl <;> rcases q with q | q <;> simp at q <;> subst q <;> simp at z
      · have z2 : es.length = 2 := by simp at z; omega
        obtain ⟨x, y, rfl⟩ : ∃ x y, es = [x, y] := by
          match es, z2 with
          | [x, y], _ => exact ⟨x, y, rfl⟩
        have i0 : ∀ {k : D → Prop}, kIx d (.int 0) k = k x := fun {k} => by rcases he with rfl | rfl <;> simp only [sNil, sCons, sIf, sAsg, sOwn, sFor, sRet, sRetN, sRetO, sRetNew, sExpr, sApp, sSetIx, sPass, DL.sFld, sNever, s_lk, sLcO, sLcV, eVar, eFrz, eC, eNew, eAnd, eOr, eNot, eIf, eOp, eNeg, eIsN, eNotN, eFld, eFldO, eIxO, eLenO, eTup, eB, eTuple, eFind, eJoin, eIsi, eCall, eCallT, eChain, nLst, nList, nComp, nCall, nCallT, nMake, nRep, nCat, nCatO, oNone, oSome, nSlice, bVal, bAnd, bOr, bNot, bOp, bChain, bIsN, bNotN, bYes, aNil, aCons, qNil, qVal, iSq, iR1, iR2, iZp, iEn, sPopAt, gNm, gTp, gConsD, gNilD, onMade, gt, ownAll, mkSl, wb, endsD, mrg, startD, kAdd, kSub, kMul, kMod, kDiv, kPow, kShr, kLt, kLe, kGt, kGe, isNon, br_decide, br_t, br_f, Bool.not_true, Bool.not_false, List.map_cons, List.map_nil, List.length_cons, List.length_nil, List.replicate, List.cons_append, List.nil_append, List.set_cons_zero, List.set_cons_succ, List.set_nil, wipeD, back, noOwn, true_and, and_true, List.length_map, List.reduceReplicate, Nat.reduceSub, Nat.reduceAdd, Int.reduceNeg, reduceCtorEq, if_true, if_false, Bool.true_eq_false, Bool.false_eq_true, ite_true, ite_false, s_onVal, s_onOwn, s_onLst, s_onIns, s_onL, s_onBl, s_some, s_kI, s_addI, s_addS, s_neg, s_eqI, s_neI, s_eqS, s_neS, s_ixL, s_ixT, s_ixS, s_ixO, s_lenS, s_lenL, s_lenT, s_abs, s_intI, s_intB, s_max2, s_min2, s_itL, s_itT, s_itS, s_rng1, s_rng2, s_zipL, s_zipT, s_enL, s_seqL, s_seqT, s_minL, s_maxL, s_sum, s_isBl, s_fld, s_vNil, s_vCons, s_frzL, s_frzI, at0, at1, at2, at3, ix30, ix31, ix32, pT_cons, oT_cons, iT_cons, Option.map_some, s_none, s_put0, s_put, s_find, s_join, notInS_of, inS_of, eq_self]
        have i1 : ∀ {k : D → Prop}, kIx d (.int 1) k = k y := fun {k} => by rcases he with rfl | rfl <;> simp only [sNil, sCons, sIf, sAsg, sOwn, sFor, sRet, sRetN, sRetO, sRetNew, sExpr, sApp, sSetIx, sPass, DL.sFld, sNever, s_lk, sLcO, sLcV, eVar, eFrz, eC, eNew, eAnd, eOr, eNot, eIf, eOp, eNeg, eIsN, eNotN, eFld, eFldO, eIxO, eLenO, eTup, eB, eTuple, eFind, eJoin, eIsi, eCall, eCallT, eChain, nLst, nList, nComp, nCall, nCallT, nMake, nRep, nCat, nCatO, oNone, oSome, nSlice, bVal, bAnd, bOr, bNot, bOp, bChain, bIsN, bNotN, bYes, aNil, aCons, qNil, qVal, iSq, iR1, iR2, iZp, iEn, sPopAt, gNm, gTp, gConsD, gNilD, onMade, gt, ownAll, mkSl, wb, endsD, mrg, startD, kAdd, kSub, kMul, kMod, kDiv, kPow, kShr, kLt, kLe, kGt, kGe, isNon, br_decide, br_t, br_f, Bool.not_true, Bool.not_false, List.map_cons, List.map_nil, List.length_cons, List.length_nil, List.replicate, List.cons_append, List.nil_append, List.set_cons_zero, List.set_cons_succ, List.set_nil, wipeD, back, noOwn, true_and, and_true, List.length_map, List.reduceReplicate, Nat.reduceSub, Nat.reduceAdd, Int.reduceNeg, reduceCtorEq, if_true, if_false, Bool.true_eq_false, Bool.false_eq_true, ite_true, ite_false, s_onVal, s_onOwn, s_onLst, s_onIns, s_onL, s_onBl, s_some, s_kI, s_addI, s_addS, s_neg, s_eqI, s_neI, s_eqS, s_neS, s_ixL, s_ixT, s_ixS, s_ixO, s_lenS, s_lenL, s_lenT, s_abs, s_intI, s_intB, s_max2, s_min2, s_itL, s_itT, s_itS, s_rng1, s_rng2, s_zipL, s_zipT, s_enL, s_seqL, s_seqT, s_minL, s_maxL, s_sum, s_isBl, s_fld, s_vNil, s_vCons, s_frzL, s_frzI, at0, at1, at2, at3, ix30, ix31, ix32, pT_cons, oT_cons, iT_cons, Option.map_some, s_none, s_put0, s_put, s_find, s_join, notInS_of, inS_of, eq_self]
        obtain ⟨b1, hb1⟩ := flat_num (hfl x (by simp))
        obtain ⟨b2, hb2⟩ := flat_num (hfl y (by simp))
        have isp : ∀ p, IsPair n d p → x = .int p.1 ∧ y = .int p.2 := fun p ⟨q, _⟩ => by rcases he with rfl | rfl <;> rcases q with q | q <;> simp at q <;> exact q
        simp only [T_is_integer, T_is_count, hb2, i0, i1, o1, lo, sNil, sCons, sIf, sAsg, sOwn, sFor, sRet, sRetN, sRetO, sRetNew, sExpr, sApp, sSetIx, sPass, DL.sFld, sNever, s_lk, sLcO, sLcV, eVar, eFrz, eC, eNew, eAnd, eOr, eNot, eIf, eOp, eNeg, eIsN, eNotN, eFld, eFldO, eIxO, eLenO, eTup, eB, eTuple, eFind, eJoin, eIsi, eCall, eCallT, eChain, nLst, nList, nComp, nCall, nCallT, nMake, nRep, nCat, nCatO, oNone, oSome, nSlice, bVal, bAnd, bOr, bNot, bOp, bChain, bIsN, bNotN, bYes, aNil, aCons, qNil, qVal, iSq, iR1, iR2, iZp, iEn, sPopAt, gNm, gTp, gConsD, gNilD, onMade, gt, ownAll, mkSl, wb, endsD, mrg, startD, kAdd, kSub, kMul, kMod, kDiv, kPow, kShr, kLt, kLe, kGt, kGe, isNon, br_decide, br_t, br_f, Bool.not_true, Bool.not_false, List.map_cons, List.map_nil, List.length_cons, List.length_nil, List.replicate, List.cons_append, List.nil_append, List.set_cons_zero, List.set_cons_succ, List.set_nil, wipeD, back, noOwn, true_and, and_true, List.length_map, List.reduceReplicate, Nat.reduceSub, Nat.reduceAdd, Int.reduceNeg, reduceCtorEq, if_true, if_false, Bool.true_eq_false, Bool.false_eq_true, ite_true, ite_false, s_onVal, s_onOwn, s_onLst, s_onIns, s_onL, s_onBl, s_some, s_kI, s_addI, s_addS, s_neg, s_eqI, s_neI, s_eqS, s_neS, s_ixL, s_ixT, s_ixS, s_ixO, s_lenS, s_lenL, s_lenT, s_abs, s_intI, s_intB, s_max2, s_min2, s_itL, s_itT, s_itS, s_rng1, s_rng2, s_zipL, s_zipT, s_enL, s_seqL, s_seqT, s_minL, s_maxL, s_sum, s_isBl, s_fld, s_vNil, s_vCons, s_frzL, s_frzI, at0, at1, at2, at3, ix30, ix31, ix32, pT_cons, oT_cons, iT_cons, Option.map_some, s_none, s_put0, s_put, s_find, s_join, notInS_of, inS_of, eq_self]
        refine ⟨fb, x, 0, _, b1, rfl, hb1, fun c hc => br_pq (fun z => ?_) fun z => ?_⟩
        · simp only [Bool.not_eq_true'] at z
          subst z
          exact h2' fun ⟨p, q⟩ => by
            have := hc.mpr ⟨p.1, (isp p q).1, q.2.1, by have := q.2.2; omega⟩
            simp at this
        · simp only [Bool.not_eq_false'] at z
          obtain ⟨a, rfl, r0, r1⟩ := hc.mp z
          cases b2 with
          | false =>
            simp only [sNil, sCons, sIf, sAsg, sOwn, sFor, sRet, sRetN, sRetO, sRetNew, sExpr, sApp, sSetIx, sPass, DL.sFld, sNever, s_lk, sLcO, sLcV, eVar, eFrz, eC, eNew, eAnd, eOr, eNot, eIf, eOp, eNeg, eIsN, eNotN, eFld, eFldO, eIxO, eLenO, eTup, eB, eTuple, eFind, eJoin, eIsi, eCall, eCallT, eChain, nLst, nList, nComp, nCall, nCallT, nMake, nRep, nCat, nCatO, oNone, oSome, nSlice, bVal, bAnd, bOr, bNot, bOp, bChain, bIsN, bNotN, bYes, aNil, aCons, qNil, qVal, iSq, iR1, iR2, iZp, iEn, sPopAt, gNm, gTp, gConsD, gNilD, onMade, gt, ownAll, mkSl, wb, endsD, mrg, startD, kAdd, kSub, kMul, kMod, kDiv, kPow, kShr, kLt, kLe, kGt, kGe, isNon, br_decide, br_t, br_f, Bool.not_true, Bool.not_false, List.map_cons, List.map_nil, List.length_cons, List.length_nil, List.replicate, List.cons_append, List.nil_append, List.set_cons_zero, List.set_cons_succ, List.set_nil, wipeD, back, noOwn, true_and, and_true, List.length_map, List.reduceReplicate, Nat.reduceSub, Nat.reduceAdd, Int.reduceNeg, reduceCtorEq, if_true, if_false, Bool.true_eq_false, Bool.false_eq_true, ite_true, ite_false, s_onVal, s_onOwn, s_onLst, s_onIns, s_onL, s_onBl, s_some, s_kI, s_addI, s_addS, s_neg, s_eqI, s_neI, s_eqS, s_neS, s_ixL, s_ixT, s_ixS, s_ixO, s_lenS, s_lenL, s_lenT, s_abs, s_intI, s_intB, s_max2, s_min2, s_itL, s_itT, s_itS, s_rng1, s_rng2, s_zipL, s_zipT, s_enL, s_seqL, s_seqT, s_minL, s_maxL, s_sum, s_isBl, s_fld, s_vNil, s_vCons, s_frzL, s_frzI, at0, at1, at2, at3, ix30, ix31, ix32, pT_cons, oT_cons, iT_cons, Option.map_some, s_none, s_put0, s_put, s_find, s_join, notInS_of, inS_of, eq_self]
            exact h2' fun ⟨p, q⟩ => by rw [(isp p q).2] at hb2; simp [isNum] at hb2
          | true =>
            obtain ⟨c, rfl⟩ := isNum_true hb2
            simp only [sNil, sCons, sIf, sAsg, sOwn, sFor, sRet, sRetN, sRetO, sRetNew, sExpr, sApp, sSetIx, sPass, DL.sFld, sNever, s_lk, sLcO, sLcV, eVar, eFrz, eC, eNew, eAnd, eOr, eNot, eIf, eOp, eNeg, eIsN, eNotN, eFld, eFldO, eIxO, eLenO, eTup, eB, eTuple, eFind, eJoin, eIsi, eCall, eCallT, eChain, nLst, nList, nComp, nCall, nCallT, nMake, nRep, nCat, nCatO, oNone, oSome, nSlice, bVal, bAnd, bOr, bNot, bOp, bChain, bIsN, bNotN, bYes, aNil, aCons, qNil, qVal, iSq, iR1, iR2, iZp, iEn, sPopAt, gNm, gTp, gConsD, gNilD, onMade, gt, ownAll, mkSl, wb, endsD, mrg, startD, kAdd, kSub, kMul, kMod, kDiv, kPow, kShr, kLt, kLe, kGt, kGe, isNon, br_decide, br_t, br_f, Bool.not_true, Bool.not_false, List.map_cons, List.map_nil, List.length_cons, List.length_nil, List.replicate, List.cons_append, List.nil_append, List.set_cons_zero, List.set_cons_succ, List.set_nil, wipeD, back, noOwn, true_and, and_true, List.length_map, List.reduceReplicate, Nat.reduceSub, Nat.reduceAdd, Int.reduceNeg, reduceCtorEq, if_true, if_false, Bool.true_eq_false, Bool.false_eq_true, ite_true, ite_false, s_onVal, s_onOwn, s_onLst, s_onIns, s_onL, s_onBl, s_some, s_kI, s_addI, s_addS, s_neg, s_eqI, s_neI, s_eqS, s_neS, s_ixL, s_ixT, s_ixS, s_ixO, s_lenS, s_lenL, s_lenT, s_abs, s_intI, s_intB, s_max2, s_min2, s_itL, s_itT, s_itS, s_rng1, s_rng2, s_zipL, s_zipT, s_enL, s_seqL, s_seqT, s_minL, s_maxL, s_sum, s_isBl, s_fld, s_vNil, s_vCons, s_frzL, s_frzI, at0, at1, at2, at3, ix30, ix31, ix32, pT_cons, oT_cons, iT_cons, Option.map_some, s_none, s_put0, s_put, s_find, s_join, notInS_of, inS_of, eq_self]
            exact h1' ⟨(a, c), by rcases he with rfl | rfl <;> simp, r0, by show a < n; omega⟩
  · subst e
    simp only [sNil, sCons, sIf, sAsg, sOwn, sFor, sRet, sRetN, sRetO, sRetNew, sExpr, sApp, sSetIx, sPass, DL.sFld, sNever, s_lk, sLcO, sLcV, eVar, eFrz, eC, eNew, eAnd, eOr, eNot, eIf, eOp, eNeg, eIsN, eNotN, eFld, eFldO, eIxO, eLenO, eTup, eB, eTuple, eFind, eJoin, eIsi, eCall, eCallT, eChain, nLst, nList, nComp, nCall, nCallT, nMake, nRep, nCat, nCatO, oNone, oSome, nSlice, bVal, bAnd, bOr, bNot, bOp, bChain, bIsN, bNotN, bYes, aNil, aCons, qNil, qVal, iSq, iR1, iR2, iZp, iEn, sPopAt, gNm, gTp, gConsD, gNilD, onMade, gt, ownAll, mkSl, wb, endsD, mrg, startD, kAdd, kSub, kMul, kMod, kDiv, kPow, kShr, kLt, kLe, kGt, kGe, isNon, br_decide, br_t, br_f, Bool.not_true, Bool.not_false, List.map_cons, List.map_nil, List.length_cons, List.length_nil, List.replicate, List.cons_append, List.nil_append, List.set_cons_zero, List.set_cons_succ, List.set_nil, wipeD, back, noOwn, true_and, and_true, List.length_map, List.reduceReplicate, Nat.reduceSub, Nat.reduceAdd, Int.reduceNeg, reduceCtorEq, if_true, if_false, Bool.true_eq_false, Bool.false_eq_true, ite_true, ite_false, s_onVal, s_onOwn, s_onLst, s_onIns, s_onL, s_onBl, s_some, s_kI, s_addI, s_addS, s_neg, s_eqI, s_neI, s_eqS, s_neS, s_ixL, s_ixT, s_ixS, s_ixO, s_lenS, s_lenL, s_lenT, s_abs, s_intI, s_intB, s_max2, s_min2, s_itL, s_itT, s_itS, s_rng1, s_rng2, s_zipL, s_zipT, s_enL, s_seqL, s_seqT, s_minL, s_maxL, s_sum, s_isBl, s_fld, s_vNil, s_vCons, s_frzL, s_frzI, at0, at1, at2, at3, ix30, ix31, ix32, pT_cons, oT_cons, iT_cons, Option.map_some, s_none, s_put0, s_put, s_find, s_join, notInS_of, inS_of, eq_self]
    have hall' : ∀ d ∈ ds, ∃ p, IsPair n d p := fun d hd' => by
      obtain ⟨i, hi⟩ := List.mem_iff_getElem?.mp hd'
      obtain ⟨d', p, e, q⟩ := hall i (lt_some hi)
      rw [hi] at e; cases e
      exact ⟨p, q⟩
    obtain ⟨ps, a2⟩ := All2.all hall'
    exact h true ⟨fun _ => ⟨ps, by rw [← a2.length, hlen], ds, .inl rfl, a2⟩, fun _ => rfl⟩
  · subst e
    refine no fun ⟨ps, e, ds', q, a⟩ => ?_
    rcases q with q | q <;> simp at q
    subst q
    obtain ⟨p, hp, ip⟩ := a.get (List.getElem?_eq_getElem hi)
    exact hnot ⟨_, p, List.getElem?_eq_getElem hi, ip⟩


theorem p_slack (K : PySem.W.Frag) (kf : KF K) : ∀ sl Q E, T_slack K sl Q E → m_slack K (endsD [] sl Q E) (startD N_slack sl) := by
  refine pT_in ?_
  rintro ds Q E ⟨m, n, w, o, l, s, t, rfl, hw, ho, ha, ⟨l1, l2⟩, ⟨hs, ht⟩, hl, hx, h⟩
  have fc : FldOk K (He.ga K "Store") "costs" := ⟨kf.cl_Store, kf.na_Store_costs⟩
  have w1 : ∀ (w : Wd) {k : D → Prop}, kFld K "costs" (sD K w) k = (FldOk K (He.ga K "Store") "costs" ∧ k (.tup (w.c.map tT))) := fun w {k} => by simp (decide := true) only [sD, sL, sNil, sCons, sIf, sAsg, sOwn, sFor, sRet, sRetN, sRetO, sRetNew, sExpr, sApp, sSetIx, sPass, DL.sFld, sNever, s_lk, sLcO, sLcV, eVar, eFrz, eC, eNew, eAnd, eOr, eNot, eIf, eOp, eNeg, eIsN, eNotN, eFld, eFldO, eIxO, eLenO, eTup, eB, eTuple, eFind, eJoin, eIsi, eCall, eCallT, eChain, nLst, nList, nComp, nCall, nCallT, nMake, nRep, nCat, nCatO, oNone, oSome, nSlice, bVal, bAnd, bOr, bNot, bOp, bChain, bIsN, bNotN, bYes, aNil, aCons, qNil, qVal, iSq, iR1, iR2, iZp, iEn, sPopAt, gNm, gTp, gConsD, gNilD, onMade, gt, ownAll, mkSl, wb, endsD, mrg, startD, kAdd, kSub, kMul, kMod, kDiv, kPow, kShr, kLt, kLe, kGt, kGe, isNon, br_decide, br_t, br_f, Bool.not_true, Bool.not_false, List.map_cons, List.map_nil, List.length_cons, List.length_nil, List.replicate, List.cons_append, List.nil_append, List.set_cons_zero, List.set_cons_succ, List.set_nil, wipeD, back, noOwn, true_and, and_true, List.length_map, List.reduceReplicate, Nat.reduceSub, Nat.reduceAdd, Int.reduceNeg, reduceCtorEq, if_true, if_false, Bool.true_eq_false, Bool.false_eq_true, ite_true, ite_false, s_onVal, s_onOwn, s_onLst, s_onIns, s_onL, s_onBl, s_some, s_kI, s_addI, s_addS, s_neg, s_eqI, s_neI, s_eqS, s_neS, s_ixL, s_ixT, s_ixS, s_ixO, s_lenS, s_lenL, s_lenT, s_abs, s_intI, s_intB, s_max2, s_min2, s_itL, s_itT, s_itS, s_rng1, s_rng2, s_zipL, s_zipT, s_enL, s_seqL, s_seqT, s_minL, s_maxL, s_sum, s_isBl, s_fld, s_vNil, s_vCons, s_frzL, s_frzI, at0, at1, at2, at3, ix30, ix31, ix32, pT_cons, oT_cons, iT_cons, Option.map_some, s_none, s_put0, s_put, s_find, s_join, notInS_of, inS_of, eq_self]
  have xs := hx _ (DL.getD_mem (l := l) (i := s) (x := 0) (by omega))
  have xt := hx _ (DL.getD_mem (l := l) (i := t) (x := 0) (by omega))
  unfold m_slack
  simp only [w1, fc, sNil, sCons, sIf, sAsg, sOwn, sFor, sRet, sRetN, sRetO, sRetNew, sExpr, sApp, sSetIx, sPass, DL.sFld, sNever, s_lk, sLcO, sLcV, eVar, eFrz, eC, eNew, eAnd, eOr, eNot, eIf, eOp, eNeg, eIsN, eNotN, eFld, eFldO, eIxO, eLenO, eTup, eB, eTuple, eFind, eJoin, eIsi, eCall, eCallT, eChain, nLst, nList, nComp, nCall, nCallT, nMake, nRep, nCat, nCatO, oNone, oSome, nSlice, bVal, bAnd, bOr, bNot, bOp, bChain, bIsN, bNotN, bYes, aNil, aCons, qNil, qVal, iSq, iR1, iR2, iZp, iEn, sPopAt, gNm, gTp, gConsD, gNilD, onMade, gt, ownAll, mkSl, wb, endsD, mrg, startD, kAdd, kSub, kMul, kMod, kDiv, kPow, kShr, kLt, kLe, kGt, kGe, isNon, br_decide, br_t, br_f, Bool.not_true, Bool.not_false, List.map_cons, List.map_nil, List.length_cons, List.length_nil, List.replicate, List.cons_append, List.nil_append, List.set_cons_zero, List.set_cons_succ, List.set_nil, wipeD, back, noOwn, true_and, and_true, List.length_map, List.reduceReplicate, Nat.reduceSub, Nat.reduceAdd, Int.reduceNeg, reduceCtorEq, if_true, if_false, Bool.true_eq_false, Bool.false_eq_true, ite_true, ite_false, s_onVal, s_onOwn, s_onLst, s_onIns, s_onL, s_onBl, s_some, s_kI, s_addI, s_addS, s_neg, s_eqI, s_neI, s_eqS, s_neS, s_ixL, s_ixT, s_ixS, s_ixO, s_lenS, s_lenL, s_lenT, s_abs, s_intI, s_intB, s_max2, s_min2, s_itL, s_itT, s_itS, s_rng1, s_rng2, s_zipL, s_zipT, s_enL, s_seqL, s_seqT, s_minL, s_maxL, s_sum, s_isBl, s_fld, s_vNil, s_vCons, s_frzL, s_frzI, at0, at1, at2, at3, ix30, ix31, ix32, pT_cons, oT_cons, iT_cons, Option.map_some, s_none, s_put0, s_put, s_find, s_join, notInS_of, inS_of, eq_self]
  refine compL_of D.int 0 (fun ρ => ρ = [.val (sD K w), .val (sD K o), .val (iL l), .val (.int s), .val (.int t), .un, .un, .un]) (fun k x => x = gap w o l s t k) (by rw [zipD_length, List.length_map, hw.c]; omega) (fun k d hd ρ e => ?_) rfl fun g ρ g1 g2 e => ?_
  · subst e
    obtain ⟨a, b, ea, eb, rfl⟩ := zipD_get hd
    simp only [List.getElem?_map, Option.map_eq_some_iff] at ea eb
    obtain ⟨ta, ea, rfl⟩ := ea
    obtain ⟨tb, eb, rfl⟩ := eb
    have sa := hw.q ta (List.mem_of_getElem? ea)
    have sb := ho.q tb (List.mem_of_getElem? eb)
    have la := sa.line hs
    have lb := sb.line (s := (l.getD s 0).toNat) (by omega)
    simp only [tT, iU, iL, Int.toNat_natCast, at_lineU (t := ta) (k := (s : Int)) (by omega) (by rw [sa.1]; omega), at_nat (l := ta.getD s []) (i := t) (by rw [la]; exact ht), at_nat (l := l) (i := s) (by omega), at_nat (l := l) (i := t) (by omega), at_lineU (t := tb) (k := l.getD s 0) xs.1 (by rw [sb.1]; exact xs.2), at_int (l := tb.getD (l.getD s 0).toNat []) (i := l.getD t 0) xt.1 (by rw [lb]; exact xt.2), sNil, sCons, sIf, sAsg, sOwn, sFor, sRet, sRetN, sRetO, sRetNew, sExpr, sApp, sSetIx, sPass, DL.sFld, sNever, s_lk, sLcO, sLcV, eVar, eFrz, eC, eNew, eAnd, eOr, eNot, eIf, eOp, eNeg, eIsN, eNotN, eFld, eFldO, eIxO, eLenO, eTup, eB, eTuple, eFind, eJoin, eIsi, eCall, eCallT, eChain, nLst, nList, nComp, nCall, nCallT, nMake, nRep, nCat, nCatO, oNone, oSome, nSlice, bVal, bAnd, bOr, bNot, bOp, bChain, bIsN, bNotN, bYes, aNil, aCons, qNil, qVal, iSq, iR1, iR2, iZp, iEn, sPopAt, gNm, gTp, gConsD, gNilD, onMade, gt, ownAll, mkSl, wb, endsD, mrg, startD, kAdd, kSub, kMul, kMod, kDiv, kPow, kShr, kLt, kLe, kGt, kGe, isNon, br_decide, br_t, br_f, Bool.not_true, Bool.not_false, List.map_cons, List.map_nil, List.length_cons, List.length_nil, List.replicate, List.cons_append, List.nil_append, List.set_cons_zero, List.set_cons_succ, List.set_nil, wipeD, back, noOwn, true_and, and_true, List.length_map, List.reduceReplicate, Nat.reduceSub, Nat.reduceAdd, Int.reduceNeg, reduceCtorEq, if_true, if_false, Bool.true_eq_false, Bool.false_eq_true, ite_true, ite_false, s_onVal, s_onOwn, s_onLst, s_onIns, s_onL, s_onBl, s_some, s_kI, s_addI, s_addS, s_neg, s_eqI, s_neI, s_eqS, s_neS, s_ixL, s_ixT, s_ixS, s_ixO, s_lenS, s_lenL, s_lenT, s_abs, s_intI, s_intB, s_max2, s_min2, s_itL, s_itT, s_itS, s_rng1, s_rng2, s_zipL, s_zipT, s_enL, s_seqL, s_seqT, s_minL, s_maxL, s_sum, s_isBl, s_fld, s_vNil, s_vCons, s_frzL, s_frzI, at0, at1, at2, at3, ix30, ix31, ix32, pT_cons, oT_cons, iT_cons, Option.map_some, s_none, s_put0, s_put, s_find, s_join, notInS_of, inS_of, eq_self]
    exact fun k hk => hk _ _ (by simp only [gap, pr, getD_some ea, getD_some eb]) rfl
  · subst e
    have gl : g.length = w.a.length := by rw [g1, zipD_length, List.length_map, List.length_map, hw.c, ho.c, ← ha]; omega
    rw [← g1, gl] at g2
    simp only [sNil, sCons, sIf, sAsg, sOwn, sFor, sRet, sRetN, sRetO, sRetNew, sExpr, sApp, sSetIx, sPass, DL.sFld, sNever, s_lk, sLcO, sLcV, eVar, eFrz, eC, eNew, eAnd, eOr, eNot, eIf, eOp, eNeg, eIsN, eNotN, eFld, eFldO, eIxO, eLenO, eTup, eB, eTuple, eFind, eJoin, eIsi, eCall, eCallT, eChain, nLst, nList, nComp, nCall, nCallT, nMake, nRep, nCat, nCatO, oNone, oSome, nSlice, bVal, bAnd, bOr, bNot, bOp, bChain, bIsN, bNotN, bYes, aNil, aCons, qNil, qVal, iSq, iR1, iR2, iZp, iEn, sPopAt, gNm, gTp, gConsD, gNilD, onMade, gt, ownAll, mkSl, wb, endsD, mrg, startD, kAdd, kSub, kMul, kMod, kDiv, kPow, kShr, kLt, kLe, kGt, kGe, isNon, br_decide, br_t, br_f, Bool.not_true, Bool.not_false, List.map_cons, List.map_nil, List.length_cons, List.length_nil, List.replicate, List.cons_append, List.nil_append, List.set_cons_zero, List.set_cons_succ, List.set_nil, wipeD, back, noOwn, true_and, and_true, List.length_map, List.reduceReplicate, Nat.reduceSub, Nat.reduceAdd, Int.reduceNeg, reduceCtorEq, if_true, if_false, Bool.true_eq_false, Bool.false_eq_true, ite_true, ite_false, s_onVal, s_onOwn, s_onLst, s_onIns, s_onL, s_onBl, s_some, s_kI, s_addI, s_addS, s_neg, s_eqI, s_neI, s_eqS, s_neS, s_ixL, s_ixT, s_ixS, s_ixO, s_lenS, s_lenL, s_lenT, s_abs, s_intI, s_intB, s_max2, s_min2, s_itL, s_itT, s_itS, s_rng1, s_rng2, s_zipL, s_zipT, s_enL, s_seqL, s_seqT, s_minL, s_maxL, s_sum, s_isBl, s_fld, s_vNil, s_vCons, s_frzL, s_frzI, at0, at1, at2, at3, ix30, ix31, ix32, pT_cons, oT_cons, iT_cons, Option.map_some, s_none, s_put0, s_put, s_find, s_join, notInS_of, inS_of, eq_self]
    have ne : g ≠ [] := fun z => by rw [z] at gl; simp at gl; omega
    refine ⟨ne, h _ (fun k hk => ?_) ?_⟩
    · rw [← g2 k hk]
      exact lmin_le (DL.getD_mem (by omega))
    · obtain ⟨k, hk⟩ := List.mem_iff_getElem?.mp (lmin_mem ne)
      have := lt_some hk
      exact ⟨k, by omega, by rw [← g2 k (by omega), getD_some hk]⟩

theorem p_judge_direct (K : PySem.W.Frag) (kf : KF K) : ∀ sl Q E, T_judge_direct K sl Q E → m_judge_direct K (endsD [] sl Q E) (startD N_judge_direct sl) := by
  refine pT_in ?_
  rintro ds Q E ⟨m, n, w, o, f, rfl, hw, ho, ha, la, ⟨m1, m2⟩, hf, h⟩
  have fb : FldOk K (He.ga K "Store") "begins" := ⟨kf.cl_Store, kf.na_Store_begins⟩
  have fe : FldOk K (He.ga K "Store") "ends" := ⟨kf.cl_Store, kf.na_Store_ends⟩
  have w1 : ∀ (w : Wd) {k : D → Prop}, kFld K "begins" (sD K w) k = (FldOk K (He.ga K "Store") "begins" ∧ k (iU w.b)) := fun w {k} => by simp (decide := true) only [sD, sL, sNil, sCons, sIf, sAsg, sOwn, sFor, sRet, sRetN, sRetO, sRetNew, sExpr, sApp, sSetIx, sPass, DL.sFld, sNever, s_lk, sLcO, sLcV, eVar, eFrz, eC, eNew, eAnd, eOr, eNot, eIf, eOp, eNeg, eIsN, eNotN, eFld, eFldO, eIxO, eLenO, eTup, eB, eTuple, eFind, eJoin, eIsi, eCall, eCallT, eChain, nLst, nList, nComp, nCall, nCallT, nMake, nRep, nCat, nCatO, oNone, oSome, nSlice, bVal, bAnd, bOr, bNot, bOp, bChain, bIsN, bNotN, bYes, aNil, aCons, qNil, qVal, iSq, iR1, iR2, iZp, iEn, sPopAt, gNm, gTp, gConsD, gNilD, onMade, gt, ownAll, mkSl, wb, endsD, mrg, startD, kAdd, kSub, kMul, kMod, kDiv, kPow, kShr, kLt, kLe, kGt, kGe, isNon, br_decide, br_t, br_f, Bool.not_true, Bool.not_false, List.map_cons, List.map_nil, List.length_cons, List.length_nil, List.replicate, List.cons_append, List.nil_append, List.set_cons_zero, List.set_cons_succ, List.set_nil, wipeD, back, noOwn, true_and, and_true, List.length_map, List.reduceReplicate, Nat.reduceSub, Nat.reduceAdd, Int.reduceNeg, reduceCtorEq, if_true, if_false, Bool.true_eq_false, Bool.false_eq_true, ite_true, ite_false, s_onVal, s_onOwn, s_onLst, s_onIns, s_onL, s_onBl, s_some, s_kI, s_addI, s_addS, s_neg, s_eqI, s_neI, s_eqS, s_neS, s_ixL, s_ixT, s_ixS, s_ixO, s_lenS, s_lenL, s_lenT, s_abs, s_intI, s_intB, s_max2, s_min2, s_itL, s_itT, s_itS, s_rng1, s_rng2, s_zipL, s_zipT, s_enL, s_seqL, s_seqT, s_minL, s_maxL, s_sum, s_isBl, s_fld, s_vNil, s_vCons, s_frzL, s_frzI, at0, at1, at2, at3, ix30, ix31, ix32, pT_cons, oT_cons, iT_cons, Option.map_some, s_none, s_put0, s_put, s_find, s_join, notInS_of, inS_of, eq_self]
  have w3 : ∀ (w : Wd) {k : D → Prop}, kFld K "ends" (sD K w) k = (FldOk K (He.ga K "Store") "ends" ∧ k (iU w.e)) := fun w {k} => by simp (decide := true) only [sD, sL, sNil, sCons, sIf, sAsg, sOwn, sFor, sRet, sRetN, sRetO, sRetNew, sExpr, sApp, sSetIx, sPass, DL.sFld, sNever, s_lk, sLcO, sLcV, eVar, eFrz, eC, eNew, eAnd, eOr, eNot, eIf, eOp, eNeg, eIsN, eNotN, eFld, eFldO, eIxO, eLenO, eTup, eB, eTuple, eFind, eJoin, eIsi, eCall, eCallT, eChain, nLst, nList, nComp, nCall, nCallT, nMake, nRep, nCat, nCatO, oNone, oSome, nSlice, bVal, bAnd, bOr, bNot, bOp, bChain, bIsN, bNotN, bYes, aNil, aCons, qNil, qVal, iSq, iR1, iR2, iZp, iEn, sPopAt, gNm, gTp, gConsD, gNilD, onMade, gt, ownAll, mkSl, wb, endsD, mrg, startD, kAdd, kSub, kMul, kMod, kDiv, kPow, kShr, kLt, kLe, kGt, kGe, isNon, br_decide, br_t, br_f, Bool.not_true, Bool.not_false, List.map_cons, List.map_nil, List.length_cons, List.length_nil, List.replicate, List.cons_append, List.nil_append, List.set_cons_zero, List.set_cons_succ, List.set_nil, wipeD, back, noOwn, true_and, and_true, List.length_map, List.reduceReplicate, Nat.reduceSub, Nat.reduceAdd, Int.reduceNeg, reduceCtorEq, if_true, if_false, Bool.true_eq_false, Bool.false_eq_true, ite_true, ite_false, s_onVal, s_onOwn, s_onLst, s_onIns, s_onL, s_onBl, s_some, s_kI, s_addI, s_addS, s_neg, s_eqI, s_neI, s_eqS, s_neS, s_ixL, s_ixT, s_ixS, s_ixO, s_lenS, s_lenL, s_lenT, s_abs, s_intI, s_intB, s_max2, s_min2, s_itL, s_itT, s_itS, s_rng1, s_rng2, s_zipL, s_zipT, s_enL, s_seqL, s_seqT, s_minL, s_maxL, s_sum, s_isBl, s_fld, s_vNil, s_vCons, s_frzL, s_frzI, at0, at1, at2, at3, ix30, ix31, ix32, pT_cons, oT_cons, iT_cons, Option.map_some, s_none, s_put0, s_put, s_find, s_join, notInS_of, inS_of, eq_self]
  unfold m_judge_direct
  simp only [T_check_stores, T_is_direct, sNil, sCons, sIf, sAsg, sOwn, sFor, sRet, sRetN, sRetO, sRetNew, sExpr, sApp, sSetIx, sPass, DL.sFld, sNever, s_lk, sLcO, sLcV, eVar, eFrz, eC, eNew, eAnd, eOr, eNot, eIf, eOp, eNeg, eIsN, eNotN, eFld, eFldO, eIxO, eLenO, eTup, eB, eTuple, eFind, eJoin, eIsi, eCall, eCallT, eChain, nLst, nList, nComp, nCall, nCallT, nMake, nRep, nCat, nCatO, oNone, oSome, nSlice, bVal, bAnd, bOr, bNot, bOp, bChain, bIsN, bNotN, bYes, aNil, aCons, qNil, qVal, iSq, iR1, iR2, iZp, iEn, sPopAt, gNm, gTp, gConsD, gNilD, onMade, gt, ownAll, mkSl, wb, endsD, mrg, startD, kAdd, kSub, kMul, kMod, kDiv, kPow, kShr, kLt, kLe, kGt, kGe, isNon, br_decide, br_t, br_f, Bool.not_true, Bool.not_false, List.map_cons, List.map_nil, List.length_cons, List.length_nil, List.replicate, List.cons_append, List.nil_append, List.set_cons_zero, List.set_cons_succ, List.set_nil, wipeD, back, noOwn, true_and, and_true, List.length_map, List.reduceReplicate, Nat.reduceSub, Nat.reduceAdd, Int.reduceNeg, reduceCtorEq, if_true, if_false, Bool.true_eq_false, Bool.false_eq_true, ite_true, ite_false, s_onVal, s_onOwn, s_onLst, s_onIns, s_onL, s_onBl, s_some, s_kI, s_addI, s_addS, s_neg, s_eqI, s_neI, s_eqS, s_neS, s_ixL, s_ixT, s_ixS, s_ixO, s_lenS, s_lenL, s_lenT, s_abs, s_intI, s_intB, s_max2, s_min2, s_itL, s_itT, s_itS, s_rng1, s_rng2, s_zipL, s_zipT, s_enL, s_seqL, s_seqT, s_minL, s_maxL, s_sum, s_isBl, s_fld, s_vNil, s_vCons, s_frzL, s_frzI, at0, at1, at2, at3, ix30, ix31, ix32, pT_cons, oT_cons, iT_cons, Option.map_some, s_none, s_put0, s_put, s_find, s_join, notInS_of, inS_of, eq_self]
  refine ⟨w, o, rfl, ha, m, n, w, o, f, rfl, hw, ho, hf, fun c hc => br_pq (fun z => ?_) fun z => ?_⟩
  · simp only [Bool.not_eq_true'] at z
    subst z
    refine h false ⟨fun z => by simp at z, fun ⟨ps, a, _⟩ => ?_⟩
    have := hc.mpr ⟨ps, a⟩
    simp at this
  simp only [Bool.not_eq_false'] at z
  obtain ⟨ps, isf⟩ := hc.mp z
  have isf2 := isf
  obtain ⟨pl, ds, q, a2⟩ := isf2
  have ef : f = .lst ds := by
    rcases q with rfl | rfl
    · rfl
    · rcases hf with ⟨i, e⟩ | e | ⟨s, e⟩ | ⟨_, e, _⟩ | ⟨e, _⟩ <;> simp at e
      subst e
      cases a2
      simp at pl; omega
  subst ef
  have hlen : ds.length = m := by rw [a2.length, pl]
  have fin : ∀ b : Bool, (b = true ↔ Dir m w o ps) → Q (.val (.bl b)) [.val (sD K w), .val (sD K o), .val (.lst ds)] := fun b hb => h b (hb.trans ⟨fun z => ⟨ps, isf, z⟩, fun ⟨qs, z1, z2⟩ => by rw [isf.fn z1]; exact z2⟩)
  simp only [sNil, sCons, sIf, sAsg, sOwn, sFor, sRet, sRetN, sRetO, sRetNew, sExpr, sApp, sSetIx, sPass, DL.sFld, sNever, s_lk, sLcO, sLcV, eVar, eFrz, eC, eNew, eAnd, eOr, eNot, eIf, eOp, eNeg, eIsN, eNotN, eFld, eFldO, eIxO, eLenO, eTup, eB, eTuple, eFind, eJoin, eIsi, eCall, eCallT, eChain, nLst, nList, nComp, nCall, nCallT, nMake, nRep, nCat, nCatO, oNone, oSome, nSlice, bVal, bAnd, bOr, bNot, bOp, bChain, bIsN, bNotN, bYes, aNil, aCons, qNil, qVal, iSq, iR1, iR2, iZp, iEn, sPopAt, gNm, gTp, gConsD, gNilD, onMade, gt, ownAll, mkSl, wb, endsD, mrg, startD, kAdd, kSub, kMul, kMod, kDiv, kPow, kShr, kLt, kLe, kGt, kGe, isNon, br_decide, br_t, br_f, Bool.not_true, Bool.not_false, List.map_cons, List.map_nil, List.length_cons, List.length_nil, List.replicate, List.cons_append, List.nil_append, List.set_cons_zero, List.set_cons_succ, List.set_nil, wipeD, back, noOwn, true_and, and_true, List.length_map, List.reduceReplicate, Nat.reduceSub, Nat.reduceAdd, Int.reduceNeg, reduceCtorEq, if_true, if_false, Bool.true_eq_false, Bool.false_eq_true, ite_true, ite_false, s_onVal, s_onOwn, s_onLst, s_onIns, s_onL, s_onBl, s_some, s_kI, s_addI, s_addS, s_neg, s_eqI, s_neI, s_eqS, s_neS, s_ixL, s_ixT, s_ixS, s_ixO, s_lenS, s_lenL, s_lenT, s_abs, s_intI, s_intB, s_max2, s_min2, s_itL, s_itT, s_itS, s_rng1, s_rng2, s_zipL, s_zipT, s_enL, s_seqL, s_seqT, s_minL, s_maxL, s_sum, s_isBl, s_fld, s_vNil, s_vCons, s_frzL, s_frzI, at0, at1, at2, at3, ix30, ix31, ix32, pT_cons, oT_cons, iT_cons, Option.map_some, s_none, s_put0, s_put, s_find, s_join, notInS_of, inS_of, eq_self]
  refine compL_of D.int 0 (fun ρ => ρ = [.val (sD K w), .val (sD K o), .val (.lst ds), .un, .un, .un, .un, .un, .un, .un]) (fun i x => x = (ps.getD i (0, 0)).1) (by omega) (fun i d hd ρ e => ?_) rfl fun l ρ g1 g2 e => ?_
  · subst e
    obtain ⟨p, hp, ip⟩ := a2.get hd
    simp only [ip.ix0, sNil, sCons, sIf, sAsg, sOwn, sFor, sRet, sRetN, sRetO, sRetNew, sExpr, sApp, sSetIx, sPass, DL.sFld, sNever, s_lk, sLcO, sLcV, eVar, eFrz, eC, eNew, eAnd, eOr, eNot, eIf, eOp, eNeg, eIsN, eNotN, eFld, eFldO, eIxO, eLenO, eTup, eB, eTuple, eFind, eJoin, eIsi, eCall, eCallT, eChain, nLst, nList, nComp, nCall, nCallT, nMake, nRep, nCat, nCatO, oNone, oSome, nSlice, bVal, bAnd, bOr, bNot, bOp, bChain, bIsN, bNotN, bYes, aNil, aCons, qNil, qVal, iSq, iR1, iR2, iZp, iEn, sPopAt, gNm, gTp, gConsD, gNilD, onMade, gt, ownAll, mkSl, wb, endsD, mrg, startD, kAdd, kSub, kMul, kMod, kDiv, kPow, kShr, kLt, kLe, kGt, kGe, isNon, br_decide, br_t, br_f, Bool.not_true, Bool.not_false, List.map_cons, List.map_nil, List.length_cons, List.length_nil, List.replicate, List.cons_append, List.nil_append, List.set_cons_zero, List.set_cons_succ, List.set_nil, wipeD, back, noOwn, true_and, and_true, List.length_map, List.reduceReplicate, Nat.reduceSub, Nat.reduceAdd, Int.reduceNeg, reduceCtorEq, if_true, if_false, Bool.true_eq_false, Bool.false_eq_true, ite_true, ite_false, s_onVal, s_onOwn, s_onLst, s_onIns, s_onL, s_onBl, s_some, s_kI, s_addI, s_addS, s_neg, s_eqI, s_neI, s_eqS, s_neS, s_ixL, s_ixT, s_ixS, s_ixO, s_lenS, s_lenL, s_lenT, s_abs, s_intI, s_intB, s_max2, s_min2, s_itL, s_itT, s_itS, s_rng1, s_rng2, s_zipL, s_zipT, s_enL, s_seqL, s_seqT, s_minL, s_maxL, s_sum, s_isBl, s_fld, s_vNil, s_vCons, s_frzL, s_frzI, at0, at1, at2, at3, ix30, ix31, ix32, pT_cons, oT_cons, iT_cons, Option.map_some, s_none, s_put0, s_put, s_find, s_join, notInS_of, inS_of, eq_self]
    exact fun k hk => hk _ _ (by rw [getD_some hp]) rfl
  · subst e
    rw [hlen] at g1 g2
    have hx : ∀ x ∈ l, 0 ≤ x ∧ x < n := fun x hxl => by
      obtain ⟨i, hi⟩ := List.mem_iff_getElem?.mp hxl
      have li := lt_some hi
      have e1 := g2 i (by omega)
      rw [getD_some hi] at e1
      obtain ⟨p, hp, ip⟩ := a2.get (List.getElem?_eq_getElem (by omega : i < ds.length))
      rw [getD_some hp] at e1
      rw [e1]; exact ip.2
    simp only [sNil, sCons, sIf, sAsg, sOwn, sFor, sRet, sRetN, sRetO, sRetNew, sExpr, sApp, sSetIx, sPass, DL.sFld, sNever, s_lk, sLcO, sLcV, eVar, eFrz, eC, eNew, eAnd, eOr, eNot, eIf, eOp, eNeg, eIsN, eNotN, eFld, eFldO, eIxO, eLenO, eTup, eB, eTuple, eFind, eJoin, eIsi, eCall, eCallT, eChain, nLst, nList, nComp, nCall, nCallT, nMake, nRep, nCat, nCatO, oNone, oSome, nSlice, bVal, bAnd, bOr, bNot, bOp, bChain, bIsN, bNotN, bYes, aNil, aCons, qNil, qVal, iSq, iR1, iR2, iZp, iEn, sPopAt, gNm, gTp, gConsD, gNilD, onMade, gt, ownAll, mkSl, wb, endsD, mrg, startD, kAdd, kSub, kMul, kMod, kDiv, kPow, kShr, kLt, kLe, kGt, kGe, isNon, br_decide, br_t, br_f, Bool.not_true, Bool.not_false, List.map_cons, List.map_nil, List.length_cons, List.length_nil, List.replicate, List.cons_append, List.nil_append, List.set_cons_zero, List.set_cons_succ, List.set_nil, wipeD, back, noOwn, true_and, and_true, List.length_map, List.reduceReplicate, Nat.reduceSub, Nat.reduceAdd, Int.reduceNeg, reduceCtorEq, if_true, if_false, Bool.true_eq_false, Bool.false_eq_true, ite_true, ite_false, s_onVal, s_onOwn, s_onLst, s_onIns, s_onL, s_onBl, s_some, s_kI, s_addI, s_addS, s_neg, s_eqI, s_neI, s_eqS, s_neS, s_ixL, s_ixT, s_ixS, s_ixO, s_lenS, s_lenL, s_lenT, s_abs, s_intI, s_intB, s_max2, s_min2, s_itL, s_itT, s_itS, s_rng1, s_rng2, s_zipL, s_zipT, s_enL, s_seqL, s_seqT, s_minL, s_maxL, s_sum, s_isBl, s_fld, s_vNil, s_vCons, s_frzL, s_frzI, at0, at1, at2, at3, ix30, ix31, ix32, pT_cons, oT_cons, iT_cons, Option.map_some, s_none, s_put0, s_put, s_find, s_join, notInS_of, inS_of, eq_self]
    refine forL_ix (fun ρ => ∃ x4 x5 x6 x7 x8 x9, ρ = [.val (sD K w), .val (sD K o), .val (.lst ds), .val (iL l), x4, x5, x6, x7, x8, x9]) (fun s => Dir1 w o ps s ∧ ∀ t < m, Dir2 w o ps s t) _ _ (fun s d hi ρ ⟨x4, x5, x6, x7, x8, x9, e⟩ nx h1 h2 => ?_) (fun hall ρ ⟨x4, x5, x6, x7, x8, x9, e⟩ => ?_) (fun ⟨i, hi, hnot⟩ ρ ⟨x4, x5, x6, x7, x8, x9, e⟩ => ?_) ⟨_, _, _, _, _, _, rfl⟩
    · subst e
      obtain ⟨d, hd, rfl⟩ := enumD_get hi
      rw [Nat.zero_add]
      have hs : s < m := by have := lt_some hd; omega
      obtain ⟨p, hp, ip⟩ := a2.get hd
      have q1 : pf ps s = p.1.toNat := by unfold pf; rw [getD_some hp]
      have q2 : ph ps s = p.2 := by unfold ph; rw [getD_some hp]
      have r0 := ip.2.1
      have r1 := ip.2.2
      unfold m_judge_direct_1
      simp only [ip.seq, w1, w3, fb, fe, iU, at_nat (l := w.b) (i := s) (by rw [hw.b]; exact hs), at_nat (l := w.e) (i := s) (by rw [hw.e]; exact hs), at_int (l := o.b) r0 (by rw [ho.b]; exact r1), at_int (l := o.e) r0 (by rw [ho.e]; exact r1), sNil, sCons, sIf, sAsg, sOwn, sFor, sRet, sRetN, sRetO, sRetNew, sExpr, sApp, sSetIx, sPass, DL.sFld, sNever, s_lk, sLcO, sLcV, eVar, eFrz, eC, eNew, eAnd, eOr, eNot, eIf, eOp, eNeg, eIsN, eNotN, eFld, eFldO, eIxO, eLenO, eTup, eB, eTuple, eFind, eJoin, eIsi, eCall, eCallT, eChain, nLst, nList, nComp, nCall, nCallT, nMake, nRep, nCat, nCatO, oNone, oSome, nSlice, bVal, bAnd, bOr, bNot, bOp, bChain, bIsN, bNotN, bYes, aNil, aCons, qNil, qVal, iSq, iR1, iR2, iZp, iEn, sPopAt, gNm, gTp, gConsD, gNilD, onMade, gt, ownAll, mkSl, wb, endsD, mrg, startD, kAdd, kSub, kMul, kMod, kDiv, kPow, kShr, kLt, kLe, kGt, kGe, isNon, br_decide, br_t, br_f, Bool.not_true, Bool.not_false, List.map_cons, List.map_nil, List.length_cons, List.length_nil, List.replicate, List.cons_append, List.nil_append, List.set_cons_zero, List.set_cons_succ, List.set_nil, wipeD, back, noOwn, true_and, and_true, List.length_map, List.reduceReplicate, Nat.reduceSub, Nat.reduceAdd, Int.reduceNeg, reduceCtorEq, if_true, if_false, Bool.true_eq_false, Bool.false_eq_true, ite_true, ite_false, s_onVal, s_onOwn, s_onLst, s_onIns, s_onL, s_onBl, s_some, s_kI, s_addI, s_addS, s_neg, s_eqI, s_neI, s_eqS, s_neS, s_ixL, s_ixT, s_ixS, s_ixO, s_lenS, s_lenL, s_lenT, s_abs, s_intI, s_intB, s_max2, s_min2, s_itL, s_itT, s_itS, s_rng1, s_rng2, s_zipL, s_zipT, s_enL, s_seqL, s_seqT, s_minL, s_maxL, s_sum, s_isBl, s_fld, s_vNil, s_vCons, s_frzL, s_frzI, at0, at1, at2, at3, ix30, ix31, ix32, pT_cons, oT_cons, iT_cons, Option.map_some, s_none, s_put0, s_put, s_find, s_join, notInS_of, inS_of, eq_self]
      have nod : ¬ Dir1 w o ps s → Q (.val (.bl false)) [.val (sD K w), .val (sD K o), .val (.lst ds)] := fun z => h2 (fun y => z y.1) _ ⟨.un, .un, .un, .un, .un, .un, rfl⟩
      unfold Dir1 pb pe at nod
      rw [q1, q2] at nod
      refine ⟨fun c => nod fun y => by omega, fun c1 => ⟨fun c => nod fun y => by omega, fun c2 => ?_⟩⟩
      have d1 : Dir1 w o ps s := by unfold Dir1 pb pe; rw [q1, q2]; omega
      refine forL_ix (fun ρ => ∃ x8 x9, ρ = [.val (sD K w), .val (sD K o), .val (.lst ds), .val (iL l), .val d, .val (.int s), .val (.int p.1), .val (.int p.2), x8, x9]) (fun t => Dir2 w o ps s t) _ _ (fun t d hi ρ ⟨x8, x9, e⟩ nx h1 h2 => ?_) (fun hall ρ ⟨x8, x9, e⟩ => ?_) (fun ⟨t, hi, hnot⟩ ρ ⟨x8, x9, e⟩ => ?_) ⟨_, _, rfl⟩
      · subst e
        obtain ⟨d', hd', rfl⟩ := enumD_get hi
        rw [Nat.zero_add]
        have ht : t < m := by have := lt_some hd'; omega
        obtain ⟨p', hp', ip'⟩ := a2.get hd'
        have q1' : pf ps t = p'.1.toNat := by unfold pf; rw [getD_some hp']
        have q2' : ph ps t = p'.2 := by unfold ph; rw [getD_some hp']
        have n1 : l.getD s 0 = p.1 := by rw [g2 s hs, getD_some hp]
        have n2 : l.getD t 0 = p'.1 := by rw [g2 t ht, getD_some hp']
        unfold m_judge_direct_2
        simp only [ip'.ix1, T_slack, sNil, sCons, sIf, sAsg, sOwn, sFor, sRet, sRetN, sRetO, sRetNew, sExpr, sApp, sSetIx, sPass, DL.sFld, sNever, s_lk, sLcO, sLcV, eVar, eFrz, eC, eNew, eAnd, eOr, eNot, eIf, eOp, eNeg, eIsN, eNotN, eFld, eFldO, eIxO, eLenO, eTup, eB, eTuple, eFind, eJoin, eIsi, eCall, eCallT, eChain, nLst, nList, nComp, nCall, nCallT, nMake, nRep, nCat, nCatO, oNone, oSome, nSlice, bVal, bAnd, bOr, bNot, bOp, bChain, bIsN, bNotN, bYes, aNil, aCons, qNil, qVal, iSq, iR1, iR2, iZp, iEn, sPopAt, gNm, gTp, gConsD, gNilD, onMade, gt, ownAll, mkSl, wb, endsD, mrg, startD, kAdd, kSub, kMul, kMod, kDiv, kPow, kShr, kLt, kLe, kGt, kGe, isNon, br_decide, br_t, br_f, Bool.not_true, Bool.not_false, List.map_cons, List.map_nil, List.length_cons, List.length_nil, List.replicate, List.cons_append, List.nil_append, List.set_cons_zero, List.set_cons_succ, List.set_nil, wipeD, back, noOwn, true_and, and_true, List.length_map, List.reduceReplicate, Nat.reduceSub, Nat.reduceAdd, Int.reduceNeg, reduceCtorEq, if_true, if_false, Bool.true_eq_false, Bool.false_eq_true, ite_true, ite_false, s_onVal, s_onOwn, s_onLst, s_onIns, s_onL, s_onBl, s_some, s_kI, s_addI, s_addS, s_neg, s_eqI, s_neI, s_eqS, s_neS, s_ixL, s_ixT, s_ixS, s_ixO, s_lenS, s_lenL, s_lenT, s_abs, s_intI, s_intB, s_max2, s_min2, s_itL, s_itT, s_itS, s_rng1, s_rng2, s_zipL, s_zipT, s_enL, s_seqL, s_seqT, s_minL, s_maxL, s_sum, s_isBl, s_fld, s_vNil, s_vCons, s_frzL, s_frzI, at0, at1, at2, at3, ix30, ix31, ix32, pT_cons, oT_cons, iT_cons, Option.map_some, s_none, s_put0, s_put, s_find, s_join, notInS_of, inS_of, eq_self]
        refine ⟨m, n, w, o, l, s, t, rfl, hw, ho, ha, la, ⟨hs, ht⟩, g1, hx, fun r ra rb => ?_⟩
        have ok : Dir2 w o ps s t ↔ p'.2 - p.2 ≤ r := by
          unfold Dir2
          rw [q1, q2, q1', q2']
          unfold gap at ra rb
          rw [n1, n2] at ra rb
          constructor
          · intro z
            obtain ⟨k, hk, e⟩ := rb
            have := z k hk
            omega
          · intro z k hk
            have := ra k hk
            omega
        exact ⟨fun c => h2 (fun z => by have := ok.mp z; omega) _ ⟨.un, .un, rfl⟩, fun c => h1 (ok.mpr (by omega)) _ ⟨_, _, rfl⟩⟩
      · subst e
        exact h1 ⟨d1, fun t ht => hall t (by rw [enumD_length]; omega)⟩ _ ⟨_, _, _, _, _, _, rfl⟩
      · subst e
        exact h2 (fun z => hnot (z.2 t (by rw [enumD_length] at hi; omega))) _ ⟨.un, .un, .un, .un, .un, .un, rfl⟩
    · subst e
      simp only [sNil, sCons, sIf, sAsg, sOwn, sFor, sRet, sRetN, sRetO, sRetNew, sExpr, sApp, sSetIx, sPass, DL.sFld, sNever, s_lk, sLcO, sLcV, eVar, eFrz, eC, eNew, eAnd, eOr, eNot, eIf, eOp, eNeg, eIsN, eNotN, eFld, eFldO, eIxO, eLenO, eTup, eB, eTuple, eFind, eJoin, eIsi, eCall, eCallT, eChain, nLst, nList, nComp, nCall, nCallT, nMake, nRep, nCat, nCatO, oNone, oSome, nSlice, bVal, bAnd, bOr, bNot, bOp, bChain, bIsN, bNotN, bYes, aNil, aCons, qNil, qVal, iSq, iR1, iR2, iZp, iEn, sPopAt, gNm, gTp, gConsD, gNilD, onMade, gt, ownAll, mkSl, wb, endsD, mrg, startD, kAdd, kSub, kMul, kMod, kDiv, kPow, kShr, kLt, kLe, kGt, kGe, isNon, br_decide, br_t, br_f, Bool.not_true, Bool.not_false, List.map_cons, List.map_nil, List.length_cons, List.length_nil, List.replicate, List.cons_append, List.nil_append, List.set_cons_zero, List.set_cons_succ, List.set_nil, wipeD, back, noOwn, true_and, and_true, List.length_map, List.reduceReplicate, Nat.reduceSub, Nat.reduceAdd, Int.reduceNeg, reduceCtorEq, if_true, if_false, Bool.true_eq_false, Bool.false_eq_true, ite_true, ite_false, s_onVal, s_onOwn, s_onLst, s_onIns, s_onL, s_onBl, s_some, s_kI, s_addI, s_addS, s_neg, s_eqI, s_neI, s_eqS, s_neS, s_ixL, s_ixT, s_ixS, s_ixO, s_lenS, s_lenL, s_lenT, s_abs, s_intI, s_intB, s_max2, s_min2, s_itL, s_itT, s_itS, s_rng1, s_rng2, s_zipL, s_zipT, s_enL, s_seqL, s_seqT, s_minL, s_maxL, s_sum, s_isBl, s_fld, s_vNil, s_vCons, s_frzL, s_frzI, at0, at1, at2, at3, ix30, ix31, ix32, pT_cons, oT_cons, iT_cons, Option.map_some, s_none, s_put0, s_put, s_find, s_join, notInS_of, inS_of, eq_self]
      exact fin true ⟨fun _ s hs => hall s (by rw [enumD_length]; omega), fun _ => rfl⟩
    · subst e
      exact fin false ⟨fun z => by simp at z, fun z => (hnot (z i (by rw [enumD_length] at hi; omega))).elim⟩

theorem z__law_exact (K : PySem.W.Frag) : ∀ sl Q E, ¬ T__law_exact K 0 sl Q E := pT_none fun ds Q E ⟨d, _, h, _⟩ => by cases d <;> exact h
theorem p__law_exact (K : PySem.W.Frag) (kf : KF K) (n : Nat) : ∀ sl Q E, T__law_exact K (n + 1) sl Q E → m__law_exact K (T__law_exact K n) (endsD [] sl Q E) (startD N__law_exact sl) := by
  refine pT_in ?_
  rintro ds Q E ⟨d, rfl, hd, h⟩
  unfold m__law_exact
  cases d with
  | tup xs =>
    simp only [ExOk] at hd
    simp only [isTup, decide_true, sNil, sCons, sIf, sAsg, sOwn, sFor, sRet, sRetN, sRetO, sRetNew, sExpr, sApp, sSetIx, sPass, DL.sFld, sNever, s_lk, sLcO, sLcV, eVar, eFrz, eC, eNew, eAnd, eOr, eNot, eIf, eOp, eNeg, eIsN, eNotN, eFld, eFldO, eIxO, eLenO, eTup, eB, eTuple, eFind, eJoin, eIsi, eCall, eCallT, eChain, nLst, nList, nComp, nCall, nCallT, nMake, nRep, nCat, nCatO, oNone, oSome, nSlice, bVal, bAnd, bOr, bNot, bOp, bChain, bIsN, bNotN, bYes, aNil, aCons, qNil, qVal, iSq, iR1, iR2, iZp, iEn, sPopAt, gNm, gTp, gConsD, gNilD, onMade, gt, ownAll, mkSl, wb, endsD, mrg, startD, kAdd, kSub, kMul, kMod, kDiv, kPow, kShr, kLt, kLe, kGt, kGe, isNon, br_decide, br_t, br_f, Bool.not_true, Bool.not_false, List.map_cons, List.map_nil, List.length_cons, List.length_nil, List.replicate, List.cons_append, List.nil_append, List.set_cons_zero, List.set_cons_succ, List.set_nil, wipeD, back, noOwn, true_and, and_true, List.length_map, List.reduceReplicate, Nat.reduceSub, Nat.reduceAdd, Int.reduceNeg, reduceCtorEq, if_true, if_false, Bool.true_eq_false, Bool.false_eq_true, ite_true, ite_false, s_onVal, s_onOwn, s_onLst, s_onIns, s_onL, s_onBl, s_some, s_kI, s_addI, s_addS, s_neg, s_eqI, s_neI, s_eqS, s_neS, s_ixL, s_ixT, s_ixS, s_ixO, s_lenS, s_lenL, s_lenT, s_abs, s_intI, s_intB, s_max2, s_min2, s_itL, s_itT, s_itS, s_rng1, s_rng2, s_zipL, s_zipT, s_enL, s_seqL, s_seqT, s_minL, s_maxL, s_sum, s_isBl, s_fld, s_vNil, s_vCons, s_frzL, s_frzI, at0, at1, at2, at3, ix30, ix31, ix32, pT_cons, oT_cons, iT_cons, Option.map_some, s_none, s_put0, s_put, s_find, s_join, notInS_of, inS_of, eq_self]
    refine forL_all (fun ρ => ∃ x y, ρ = [.val (.tup xs), .val (.tup xs), x, y]) (fun _ => True) _ _ (fun d hd' ρ ⟨x, y, e⟩ nx h1 _ => ?_) (fun _ ρ ⟨x, y, e⟩ => ?_) (fun ⟨_, _, z⟩ => (z trivial).elim) ⟨_, _, rfl⟩
    · subst e
      obtain ⟨e, he, rfl⟩ := zipD_self hd'
      unfold m__law_exact_1
      simp only [T__law_exact, sNil, sCons, sIf, sAsg, sOwn, sFor, sRet, sRetN, sRetO, sRetNew, sExpr, sApp, sSetIx, sPass, DL.sFld, sNever, s_lk, sLcO, sLcV, eVar, eFrz, eC, eNew, eAnd, eOr, eNot, eIf, eOp, eNeg, eIsN, eNotN, eFld, eFldO, eIxO, eLenO, eTup, eB, eTuple, eFind, eJoin, eIsi, eCall, eCallT, eChain, nLst, nList, nComp, nCall, nCallT, nMake, nRep, nCat, nCatO, oNone, oSome, nSlice, bVal, bAnd, bOr, bNot, bOp, bChain, bIsN, bNotN, bYes, aNil, aCons, qNil, qVal, iSq, iR1, iR2, iZp, iEn, sPopAt, gNm, gTp, gConsD, gNilD, onMade, gt, ownAll, mkSl, wb, endsD, mrg, startD, kAdd, kSub, kMul, kMod, kDiv, kPow, kShr, kLt, kLe, kGt, kGe, isNon, br_decide, br_t, br_f, Bool.not_true, Bool.not_false, List.map_cons, List.map_nil, List.length_cons, List.length_nil, List.replicate, List.cons_append, List.nil_append, List.set_cons_zero, List.set_cons_succ, List.set_nil, wipeD, back, noOwn, true_and, and_true, List.length_map, List.reduceReplicate, Nat.reduceSub, Nat.reduceAdd, Int.reduceNeg, reduceCtorEq, if_true, if_false, Bool.true_eq_false, Bool.false_eq_true, ite_true, ite_false, s_onVal, s_onOwn, s_onLst, s_onIns, s_onL, s_onBl, s_some, s_kI, s_addI, s_addS, s_neg, s_eqI, s_neI, s_eqS, s_neS, s_ixL, s_ixT, s_ixS, s_ixO, s_lenS, s_lenL, s_lenT, s_abs, s_intI, s_intB, s_max2, s_min2, s_itL, s_itT, s_itS, s_rng1, s_rng2, s_zipL, s_zipT, s_enL, s_seqL, s_seqT, s_minL, s_maxL, s_sum, s_isBl, s_fld, s_vNil, s_vCons, s_frzL, s_frzI, at0, at1, at2, at3, ix30, ix31, ix32, pT_cons, oT_cons, iT_cons, Option.map_some, s_none, s_put0, s_put, s_find, s_join, notInS_of, inS_of, eq_self]
      exact ⟨e, rfl, hd e he, h1 trivial _ ⟨_, _, rfl⟩⟩
    · subst e
      simp only [sNil, sCons, sIf, sAsg, sOwn, sFor, sRet, sRetN, sRetO, sRetNew, sExpr, sApp, sSetIx, sPass, DL.sFld, sNever, s_lk, sLcO, sLcV, eVar, eFrz, eC, eNew, eAnd, eOr, eNot, eIf, eOp, eNeg, eIsN, eNotN, eFld, eFldO, eIxO, eLenO, eTup, eB, eTuple, eFind, eJoin, eIsi, eCall, eCallT, eChain, nLst, nList, nComp, nCall, nCallT, nMake, nRep, nCat, nCatO, oNone, oSome, nSlice, bVal, bAnd, bOr, bNot, bOp, bChain, bIsN, bNotN, bYes, aNil, aCons, qNil, qVal, iSq, iR1, iR2, iZp, iEn, sPopAt, gNm, gTp, gConsD, gNilD, onMade, gt, ownAll, mkSl, wb, endsD, mrg, startD, kAdd, kSub, kMul, kMod, kDiv, kPow, kShr, kLt, kLe, kGt, kGe, isNon, br_decide, br_t, br_f, Bool.not_true, Bool.not_false, List.map_cons, List.map_nil, List.length_cons, List.length_nil, List.replicate, List.cons_append, List.nil_append, List.set_cons_zero, List.set_cons_succ, List.set_nil, wipeD, back, noOwn, true_and, and_true, List.length_map, List.reduceReplicate, Nat.reduceSub, Nat.reduceAdd, Int.reduceNeg, reduceCtorEq, if_true, if_false, Bool.true_eq_false, Bool.false_eq_true, ite_true, ite_false, s_onVal, s_onOwn, s_onLst, s_onIns, s_onL, s_onBl, s_some, s_kI, s_addI, s_addS, s_neg, s_eqI, s_neI, s_eqS, s_neS, s_ixL, s_ixT, s_ixS, s_ixO, s_lenS, s_lenL, s_lenT, s_abs, s_intI, s_intB, s_max2, s_min2, s_itL, s_itT, s_itS, s_rng1, s_rng2, s_zipL, s_zipT, s_enL, s_seqL, s_seqT, s_minL, s_maxL, s_sum, s_isBl, s_fld, s_vNil, s_vCons, s_frzL, s_frzI, at0, at1, at2, at3, ix30, ix31, ix32, pT_cons, oT_cons, iT_cons, Option.map_some, s_none, s_put0, s_put, s_find, s_join, notInS_of, inS_of, eq_self]
      exact h
  | non =>
    simp only [isTup, isNon, sNil, sCons, sIf, sAsg, sOwn, sFor, sRet, sRetN, sRetO, sRetNew, sExpr, sApp, sSetIx, sPass, DL.sFld, sNever, s_lk, sLcO, sLcV, eVar, eFrz, eC, eNew, eAnd, eOr, eNot, eIf, eOp, eNeg, eIsN, eNotN, eFld, eFldO, eIxO, eLenO, eTup, eB, eTuple, eFind, eJoin, eIsi, eCall, eCallT, eChain, nLst, nList, nComp, nCall, nCallT, nMake, nRep, nCat, nCatO, oNone, oSome, nSlice, bVal, bAnd, bOr, bNot, bOp, bChain, bIsN, bNotN, bYes, aNil, aCons, qNil, qVal, iSq, iR1, iR2, iZp, iEn, sPopAt, gNm, gTp, gConsD, gNilD, onMade, gt, ownAll, mkSl, wb, endsD, mrg, startD, kAdd, kSub, kMul, kMod, kDiv, kPow, kShr, kLt, kLe, kGt, kGe, isNon, br_decide, br_t, br_f, Bool.not_true, Bool.not_false, List.map_cons, List.map_nil, List.length_cons, List.length_nil, List.replicate, List.cons_append, List.nil_append, List.set_cons_zero, List.set_cons_succ, List.set_nil, wipeD, back, noOwn, true_and, and_true, List.length_map, List.reduceReplicate, Nat.reduceSub, Nat.reduceAdd, Int.reduceNeg, reduceCtorEq, if_true, if_false, Bool.true_eq_false, Bool.false_eq_true, ite_true, ite_false, s_onVal, s_onOwn, s_onLst, s_onIns, s_onL, s_onBl, s_some, s_kI, s_addI, s_addS, s_neg, s_eqI, s_neI, s_eqS, s_neS, s_ixL, s_ixT, s_ixS, s_ixO, s_lenS, s_lenL, s_lenT, s_abs, s_intI, s_intB, s_max2, s_min2, s_itL, s_itT, s_itS, s_rng1, s_rng2, s_zipL, s_zipT, s_enL, s_seqL, s_seqT, s_minL, s_maxL, s_sum, s_isBl, s_fld, s_vNil, s_vCons, s_frzL, s_frzI, at0, at1, at2, at3, ix30, ix31, ix32, pT_cons, oT_cons, iT_cons, Option.map_some, s_none, s_put0, s_put, s_find, s_join, notInS_of, inS_of, eq_self]
    exact h
  | bl b =>
    simp only [isTup, isBlD, sNil, sCons, sIf, sAsg, sOwn, sFor, sRet, sRetN, sRetO, sRetNew, sExpr, sApp, sSetIx, sPass, DL.sFld, sNever, s_lk, sLcO, sLcV, eVar, eFrz, eC, eNew, eAnd, eOr, eNot, eIf, eOp, eNeg, eIsN, eNotN, eFld, eFldO, eIxO, eLenO, eTup, eB, eTuple, eFind, eJoin, eIsi, eCall, eCallT, eChain, nLst, nList, nComp, nCall, nCallT, nMake, nRep, nCat, nCatO, oNone, oSome, nSlice, bVal, bAnd, bOr, bNot, bOp, bChain, bIsN, bNotN, bYes, aNil, aCons, qNil, qVal, iSq, iR1, iR2, iZp, iEn, sPopAt, gNm, gTp, gConsD, gNilD, onMade, gt, ownAll, mkSl, wb, endsD, mrg, startD, kAdd, kSub, kMul, kMod, kDiv, kPow, kShr, kLt, kLe, kGt, kGe, isNon, br_decide, br_t, br_f, Bool.not_true, Bool.not_false, List.map_cons, List.map_nil, List.length_cons, List.length_nil, List.replicate, List.cons_append, List.nil_append, List.set_cons_zero, List.set_cons_succ, List.set_nil, wipeD, back, noOwn, true_and, and_true, List.length_map, List.reduceReplicate, Nat.reduceSub, Nat.reduceAdd, Int.reduceNeg, reduceCtorEq, if_true, if_false, Bool.true_eq_false, Bool.false_eq_true, ite_true, ite_false, s_onVal, s_onOwn, s_onLst, s_onIns, s_onL, s_onBl, s_some, s_kI, s_addI, s_addS, s_neg, s_eqI, s_neI, s_eqS, s_neS, s_ixL, s_ixT, s_ixS, s_ixO, s_lenS, s_lenL, s_lenT, s_abs, s_intI, s_intB, s_max2, s_min2, s_itL, s_itT, s_itS, s_rng1, s_rng2, s_zipL, s_zipT, s_enL, s_seqL, s_seqT, s_minL, s_maxL, s_sum, s_isBl, s_fld, s_vNil, s_vCons, s_frzL, s_frzI, at0, at1, at2, at3, ix30, ix31, ix32, pT_cons, oT_cons, iT_cons, Option.map_some, s_none, s_put0, s_put, s_find, s_join, notInS_of, inS_of, eq_self]
    cases b <;> simp (decide := true) only [sNil, sCons, sIf, sAsg, sOwn, sFor, sRet, sRetN, sRetO, sRetNew, sExpr, sApp, sSetIx, sPass, DL.sFld, sNever, s_lk, sLcO, sLcV, eVar, eFrz, eC, eNew, eAnd, eOr, eNot, eIf, eOp, eNeg, eIsN, eNotN, eFld, eFldO, eIxO, eLenO, eTup, eB, eTuple, eFind, eJoin, eIsi, eCall, eCallT, eChain, nLst, nList, nComp, nCall, nCallT, nMake, nRep, nCat, nCatO, oNone, oSome, nSlice, bVal, bAnd, bOr, bNot, bOp, bChain, bIsN, bNotN, bYes, aNil, aCons, qNil, qVal, iSq, iR1, iR2, iZp, iEn, sPopAt, gNm, gTp, gConsD, gNilD, onMade, gt, ownAll, mkSl, wb, endsD, mrg, startD, kAdd, kSub, kMul, kMod, kDiv, kPow, kShr, kLt, kLe, kGt, kGe, isNon, br_decide, br_t, br_f, Bool.not_true, Bool.not_false, List.map_cons, List.map_nil, List.length_cons, List.length_nil, List.replicate, List.cons_append, List.nil_append, List.set_cons_zero, List.set_cons_succ, List.set_nil, wipeD, back, noOwn, true_and, and_true, List.length_map, List.reduceReplicate, Nat.reduceSub, Nat.reduceAdd, Int.reduceNeg, reduceCtorEq, if_true, if_false, Bool.true_eq_false, Bool.false_eq_true, ite_true, ite_false, s_onVal, s_onOwn, s_onLst, s_onIns, s_onL, s_onBl, s_some, s_kI, s_addI, s_addS, s_neg, s_eqI, s_neI, s_eqS, s_neS, s_ixL, s_ixT, s_ixS, s_ixO, s_lenS, s_lenL, s_lenT, s_abs, s_intI, s_intB, s_max2, s_min2, s_itL, s_itT, s_itS, s_rng1, s_rng2, s_zipL, s_zipT, s_enL, s_seqL, s_seqT, s_minL, s_maxL, s_sum, s_isBl, s_fld, s_vNil, s_vCons, s_frzL, s_frzI, at0, at1, at2, at3, ix30, ix31, ix32, pT_cons, oT_cons, iT_cons, Option.map_some, s_none, s_put0, s_put, s_find, s_join, notInS_of, inS_of, eq_self]
    · exact ⟨fun z => z.elim, fun _ => ⟨fun _ => h, fun z => z.elim⟩⟩
    · exact ⟨fun _ => h, fun z => z.elim⟩
  | int i =>
    simp only [isTup, isBlD, isStr, T__law_is_int, isNum, decide_true, sNil, sCons, sIf, sAsg, sOwn, sFor, sRet, sRetN, sRetO, sRetNew, sExpr, sApp, sSetIx, sPass, DL.sFld, sNever, s_lk, sLcO, sLcV, eVar, eFrz, eC, eNew, eAnd, eOr, eNot, eIf, eOp, eNeg, eIsN, eNotN, eFld, eFldO, eIxO, eLenO, eTup, eB, eTuple, eFind, eJoin, eIsi, eCall, eCallT, eChain, nLst, nList, nComp, nCall, nCallT, nMake, nRep, nCat, nCatO, oNone, oSome, nSlice, bVal, bAnd, bOr, bNot, bOp, bChain, bIsN, bNotN, bYes, aNil, aCons, qNil, qVal, iSq, iR1, iR2, iZp, iEn, sPopAt, gNm, gTp, gConsD, gNilD, onMade, gt, ownAll, mkSl, wb, endsD, mrg, startD, kAdd, kSub, kMul, kMod, kDiv, kPow, kShr, kLt, kLe, kGt, kGe, isNon, br_decide, br_t, br_f, Bool.not_true, Bool.not_false, List.map_cons, List.map_nil, List.length_cons, List.length_nil, List.replicate, List.cons_append, List.nil_append, List.set_cons_zero, List.set_cons_succ, List.set_nil, wipeD, back, noOwn, true_and, and_true, List.length_map, List.reduceReplicate, Nat.reduceSub, Nat.reduceAdd, Int.reduceNeg, reduceCtorEq, if_true, if_false, Bool.true_eq_false, Bool.false_eq_true, ite_true, ite_false, s_onVal, s_onOwn, s_onLst, s_onIns, s_onL, s_onBl, s_some, s_kI, s_addI, s_addS, s_neg, s_eqI, s_neI, s_eqS, s_neS, s_ixL, s_ixT, s_ixS, s_ixO, s_lenS, s_lenL, s_lenT, s_abs, s_intI, s_intB, s_max2, s_min2, s_itL, s_itT, s_itS, s_rng1, s_rng2, s_zipL, s_zipT, s_enL, s_seqL, s_seqT, s_minL, s_maxL, s_sum, s_isBl, s_fld, s_vNil, s_vCons, s_frzL, s_frzI, at0, at1, at2, at3, ix30, ix31, ix32, pT_cons, oT_cons, iT_cons, Option.map_some, s_none, s_put0, s_put, s_find, s_join, notInS_of, inS_of, eq_self]
    exact h
  | str i =>
    simp only [isTup, isBlD, isStr, decide_true, sNil, sCons, sIf, sAsg, sOwn, sFor, sRet, sRetN, sRetO, sRetNew, sExpr, sApp, sSetIx, sPass, DL.sFld, sNever, s_lk, sLcO, sLcV, eVar, eFrz, eC, eNew, eAnd, eOr, eNot, eIf, eOp, eNeg, eIsN, eNotN, eFld, eFldO, eIxO, eLenO, eTup, eB, eTuple, eFind, eJoin, eIsi, eCall, eCallT, eChain, nLst, nList, nComp, nCall, nCallT, nMake, nRep, nCat, nCatO, oNone, oSome, nSlice, bVal, bAnd, bOr, bNot, bOp, bChain, bIsN, bNotN, bYes, aNil, aCons, qNil, qVal, iSq, iR1, iR2, iZp, iEn, sPopAt, gNm, gTp, gConsD, gNilD, onMade, gt, ownAll, mkSl, wb, endsD, mrg, startD, kAdd, kSub, kMul, kMod, kDiv, kPow, kShr, kLt, kLe, kGt, kGe, isNon, br_decide, br_t, br_f, Bool.not_true, Bool.not_false, List.map_cons, List.map_nil, List.length_cons, List.length_nil, List.replicate, List.cons_append, List.nil_append, List.set_cons_zero, List.set_cons_succ, List.set_nil, wipeD, back, noOwn, true_and, and_true, List.length_map, List.reduceReplicate, Nat.reduceSub, Nat.reduceAdd, Int.reduceNeg, reduceCtorEq, if_true, if_false, Bool.true_eq_false, Bool.false_eq_true, ite_true, ite_false, s_onVal, s_onOwn, s_onLst, s_onIns, s_onL, s_onBl, s_some, s_kI, s_addI, s_addS, s_neg, s_eqI, s_neI, s_eqS, s_neS, s_ixL, s_ixT, s_ixS, s_ixO, s_lenS, s_lenL, s_lenT, s_abs, s_intI, s_intB, s_max2, s_min2, s_itL, s_itT, s_itS, s_rng1, s_rng2, s_zipL, s_zipT, s_enL, s_seqL, s_seqT, s_minL, s_maxL, s_sum, s_isBl, s_fld, s_vNil, s_vCons, s_frzL, s_frzI, at0, at1, at2, at3, ix30, ix31, ix32, pT_cons, oT_cons, iT_cons, Option.map_some, s_none, s_put0, s_put, s_find, s_join, notInS_of, inS_of, eq_self]
    exact h
  | ref _ => simp only [ExOk] at hd
  | ty _ => simp only [ExOk] at hd
  | lst _ => simp only [ExOk] at hd
  | obj _ _ _ => simp only [ExOk] at hd


theorem p__law_row (K : PySem.W.Frag) (kf : KF K) : ∀ sl Q E, T__law_row K sl Q E → m__law_row K (endsD [0] sl Q E) (startD N__law_row sl) := by
  refine oT_in ?_
  rintro src ds Q E ⟨a, longest, rfl, ⟨a1, a2⟩, ⟨l0, l1⟩, hs, h⟩
  unfold m__law_row
  simp only [T__law_draw, sNil, sCons, sIf, sAsg, sOwn, sFor, sRet, sRetN, sRetO, sRetNew, sExpr, sApp, sSetIx, sPass, DL.sFld, sNever, s_lk, sLcO, sLcV, eVar, eFrz, eC, eNew, eAnd, eOr, eNot, eIf, eOp, eNeg, eIsN, eNotN, eFld, eFldO, eIxO, eLenO, eTup, eB, eTuple, eFind, eJoin, eIsi, eCall, eCallT, eChain, nLst, nList, nComp, nCall, nCallT, nMake, nRep, nCat, nCatO, oNone, oSome, nSlice, bVal, bAnd, bOr, bNot, bOp, bChain, bIsN, bNotN, bYes, aNil, aCons, qNil, qVal, iSq, iR1, iR2, iZp, iEn, sPopAt, gNm, gTp, gConsD, gNilD, onMade, gt, ownAll, mkSl, wb, endsD, mrg, startD, kAdd, kSub, kMul, kMod, kDiv, kPow, kShr, kLt, kLe, kGt, kGe, isNon, br_decide, br_t, br_f, Bool.not_true, Bool.not_false, List.map_cons, List.map_nil, List.length_cons, List.length_nil, List.replicate, List.cons_append, List.nil_append, List.set_cons_zero, List.set_cons_succ, List.set_nil, wipeD, back, noOwn, true_and, and_true, List.length_map, List.reduceReplicate, Nat.reduceSub, Nat.reduceAdd, Int.reduceNeg, reduceCtorEq, if_true, if_false, Bool.true_eq_false, Bool.false_eq_true, ite_true, ite_false, s_onVal, s_onOwn, s_onLst, s_onIns, s_onL, s_onBl, s_some, s_kI, s_addI, s_addS, s_neg, s_eqI, s_neI, s_eqS, s_neS, s_ixL, s_ixT, s_ixS, s_ixO, s_lenS, s_lenL, s_lenT, s_abs, s_intI, s_intB, s_max2, s_min2, s_itL, s_itT, s_itS, s_rng1, s_rng2, s_zipL, s_zipT, s_enL, s_seqL, s_seqT, s_minL, s_maxL, s_sum, s_isBl, s_fld, s_vNil, s_vCons, s_frzL, s_frzI, at0, at1, at2, at3, ix30, ix31, ix32, pT_cons, oT_cons, iT_cons, Option.map_some, s_none, s_put0, s_put, s_find, s_join, notInS_of, inS_of, eq_self]
  refine ⟨by omega, hs, fun sz s1 hs1 ⟨z0, z1⟩ => ⟨by omega, ?_⟩⟩
  refine compL_of (fun c : Nat => D.str ⟨#[c]⟩) 0 (fun ρ => ∃ s, Src s ∧ ρ = [.own (.lst s), .val (.str a), .val (.int longest), .val (.int sz), .un]) (fun _ c => c ∈ a.cps.toList) (by rw [rng_length]; omega) (fun i d hd ρ ⟨s, hs, e⟩ => ?_) ⟨_, hs1, rfl⟩ fun l ρ n1 n2 ⟨s, hs, e⟩ => ?_
  · subst e
    simp only [T__law_draw, sNil, sCons, sIf, sAsg, sOwn, sFor, sRet, sRetN, sRetO, sRetNew, sExpr, sApp, sSetIx, sPass, DL.sFld, sNever, s_lk, sLcO, sLcV, eVar, eFrz, eC, eNew, eAnd, eOr, eNot, eIf, eOp, eNeg, eIsN, eNotN, eFld, eFldO, eIxO, eLenO, eTup, eB, eTuple, eFind, eJoin, eIsi, eCall, eCallT, eChain, nLst, nList, nComp, nCall, nCallT, nMake, nRep, nCat, nCatO, oNone, oSome, nSlice, bVal, bAnd, bOr, bNot, bOp, bChain, bIsN, bNotN, bYes, aNil, aCons, qNil, qVal, iSq, iR1, iR2, iZp, iEn, sPopAt, gNm, gTp, gConsD, gNilD, onMade, gt, ownAll, mkSl, wb, endsD, mrg, startD, kAdd, kSub, kMul, kMod, kDiv, kPow, kShr, kLt, kLe, kGt, kGe, isNon, br_decide, br_t, br_f, Bool.not_true, Bool.not_false, List.map_cons, List.map_nil, List.length_cons, List.length_nil, List.replicate, List.cons_append, List.nil_append, List.set_cons_zero, List.set_cons_succ, List.set_nil, wipeD, back, noOwn, true_and, and_true, List.length_map, List.reduceReplicate, Nat.reduceSub, Nat.reduceAdd, Int.reduceNeg, reduceCtorEq, if_true, if_false, Bool.true_eq_false, Bool.false_eq_true, ite_true, ite_false, s_onVal, s_onOwn, s_onLst, s_onIns, s_onL, s_onBl, s_some, s_kI, s_addI, s_addS, s_neg, s_eqI, s_neI, s_eqS, s_neS, s_ixL, s_ixT, s_ixS, s_ixO, s_lenS, s_lenL, s_lenT, s_abs, s_intI, s_intB, s_max2, s_min2, s_itL, s_itT, s_itS, s_rng1, s_rng2, s_zipL, s_zipT, s_enL, s_seqL, s_seqT, s_minL, s_maxL, s_sum, s_isBl, s_fld, s_vNil, s_vCons, s_frzL, s_frzI, at0, at1, at2, at3, ix30, ix31, ix32, pT_cons, oT_cons, iT_cons, Option.map_some, s_none, s_put0, s_put, s_find, s_join, notInS_of, inS_of, eq_self]
    refine fun k hk => ⟨small (m := 1000) a2, by omega, hs, fun r s' hs' ⟨r0, r1⟩ => ⟨small (m := 1000) a2, ?_⟩⟩
    obtain ⟨hh, e⟩ := atI_pos (l := a.cps.toList) r0 (by rw [Str.len_toList]; exact r1)
    rw [e, s_some]
    exact hk _ _ (List.getElem_mem hh) ⟨s', hs', rfl⟩
  · subst e
    rw [rng_length] at n1 n2
    simp only [sNil, sCons, sIf, sAsg, sOwn, sFor, sRet, sRetN, sRetO, sRetNew, sExpr, sApp, sSetIx, sPass, DL.sFld, sNever, s_lk, sLcO, sLcV, eVar, eFrz, eC, eNew, eAnd, eOr, eNot, eIf, eOp, eNeg, eIsN, eNotN, eFld, eFldO, eIxO, eLenO, eTup, eB, eTuple, eFind, eJoin, eIsi, eCall, eCallT, eChain, nLst, nList, nComp, nCall, nCallT, nMake, nRep, nCat, nCatO, oNone, oSome, nSlice, bVal, bAnd, bOr, bNot, bOp, bChain, bIsN, bNotN, bYes, aNil, aCons, qNil, qVal, iSq, iR1, iR2, iZp, iEn, sPopAt, gNm, gTp, gConsD, gNilD, onMade, gt, ownAll, mkSl, wb, endsD, mrg, startD, kAdd, kSub, kMul, kMod, kDiv, kPow, kShr, kLt, kLe, kGt, kGe, isNon, br_decide, br_t, br_f, Bool.not_true, Bool.not_false, List.map_cons, List.map_nil, List.length_cons, List.length_nil, List.replicate, List.cons_append, List.nil_append, List.set_cons_zero, List.set_cons_succ, List.set_nil, wipeD, back, noOwn, true_and, and_true, List.length_map, List.reduceReplicate, Nat.reduceSub, Nat.reduceAdd, Int.reduceNeg, reduceCtorEq, if_true, if_false, Bool.true_eq_false, Bool.false_eq_true, ite_true, ite_false, s_onVal, s_onOwn, s_onLst, s_onIns, s_onL, s_onBl, s_some, s_kI, s_addI, s_addS, s_neg, s_eqI, s_neI, s_eqS, s_neS, s_ixL, s_ixT, s_ixS, s_ixO, s_lenS, s_lenL, s_lenT, s_abs, s_intI, s_intB, s_max2, s_min2, s_itL, s_itT, s_itS, s_rng1, s_rng2, s_zipL, s_zipT, s_enL, s_seqL, s_seqT, s_minL, s_maxL, s_sum, s_isBl, s_fld, s_vNil, s_vCons, s_frzL, s_frzI, at0, at1, at2, at3, ix30, ix31, ix32, pT_cons, oT_cons, iT_cons, Option.map_some, s_none, s_put0, s_put, s_find, s_join, notInS_of, inS_of, eq_self]
    rw [show (l.map fun c : Nat => D.str ⟨#[c]⟩) = (l.map fun c => (⟨#[c]⟩ : Str)).map D.str by rw [List.map_map]; rfl, asStrs_map, s_some, sum_ones]
    have js := join_signs l
    refine ⟨by simp only [List.length_map]; show l.length + l.length * 0 ≤ _; omega, h _ s hs (fun c hc => ?_) ?_⟩
    · rw [js] at hc
      obtain ⟨i, hi⟩ := List.mem_iff_getElem?.mp hc
      have := n2 i (by have := lt_some hi; omega)
      rwa [getD_some hi] at this
    · rw [← Str.len_toList, js, n1]; omega

theorem p__law_course_pays (K : PySem.W.Frag) (kf : KF K) : ∀ sl Q E, T__law_course_pays K sl Q E → m__law_course_pays K (endsD [] sl Q E) (startD N__law_course_pays sl) := by
  refine pT_in ?_
  rintro ds Q E ⟨n, w, r, cs, rfl, hw, ha, hr, hc, h⟩
  have l := hc.len
  have o0 : ∀ {k : D → Prop}, kIx (wD w) (.int 0) k = k (.str w.a) := fun {k} => by simp only [wD, wL, sNil, sCons, sIf, sAsg, sOwn, sFor, sRet, sRetN, sRetO, sRetNew, sExpr, sApp, sSetIx, sPass, DL.sFld, sNever, s_lk, sLcO, sLcV, eVar, eFrz, eC, eNew, eAnd, eOr, eNot, eIf, eOp, eNeg, eIsN, eNotN, eFld, eFldO, eIxO, eLenO, eTup, eB, eTuple, eFind, eJoin, eIsi, eCall, eCallT, eChain, nLst, nList, nComp, nCall, nCallT, nMake, nRep, nCat, nCatO, oNone, oSome, nSlice, bVal, bAnd, bOr, bNot, bOp, bChain, bIsN, bNotN, bYes, aNil, aCons, qNil, qVal, iSq, iR1, iR2, iZp, iEn, sPopAt, gNm, gTp, gConsD, gNilD, onMade, gt, ownAll, mkSl, wb, endsD, mrg, startD, kAdd, kSub, kMul, kMod, kDiv, kPow, kShr, kLt, kLe, kGt, kGe, isNon, br_decide, br_t, br_f, Bool.not_true, Bool.not_false, List.map_cons, List.map_nil, List.length_cons, List.length_nil, List.replicate, List.cons_append, List.nil_append, List.set_cons_zero, List.set_cons_succ, List.set_nil, wipeD, back, noOwn, true_and, and_true, List.length_map, List.reduceReplicate, Nat.reduceSub, Nat.reduceAdd, Int.reduceNeg, reduceCtorEq, if_true, if_false, Bool.true_eq_false, Bool.false_eq_true, ite_true, ite_false, s_onVal, s_onOwn, s_onLst, s_onIns, s_onL, s_onBl, s_some, s_kI, s_addI, s_addS, s_neg, s_eqI, s_neI, s_eqS, s_neS, s_ixL, s_ixT, s_ixS, s_ixO, s_lenS, s_lenL, s_lenT, s_abs, s_intI, s_intB, s_max2, s_min2, s_itL, s_itT, s_itS, s_rng1, s_rng2, s_zipL, s_zipT, s_enL, s_seqL, s_seqT, s_minL, s_maxL, s_sum, s_isBl, s_fld, s_vNil, s_vCons, s_frzL, s_frzI, at0, at1, at2, at3, ix30, ix31, ix32, pT_cons, oT_cons, iT_cons, Option.map_some, s_none, s_put0, s_put, s_find, s_join, notInS_of, inS_of, eq_self]
  have o1 : ∀ {k : D → Prop}, kIx (wD w) (.int 1) k = k (iL w.b) := fun {k} => by simp only [wD, wL, sNil, sCons, sIf, sAsg, sOwn, sFor, sRet, sRetN, sRetO, sRetNew, sExpr, sApp, sSetIx, sPass, DL.sFld, sNever, s_lk, sLcO, sLcV, eVar, eFrz, eC, eNew, eAnd, eOr, eNot, eIf, eOp, eNeg, eIsN, eNotN, eFld, eFldO, eIxO, eLenO, eTup, eB, eTuple, eFind, eJoin, eIsi, eCall, eCallT, eChain, nLst, nList, nComp, nCall, nCallT, nMake, nRep, nCat, nCatO, oNone, oSome, nSlice, bVal, bAnd, bOr, bNot, bOp, bChain, bIsN, bNotN, bYes, aNil, aCons, qNil, qVal, iSq, iR1, iR2, iZp, iEn, sPopAt, gNm, gTp, gConsD, gNilD, onMade, gt, ownAll, mkSl, wb, endsD, mrg, startD, kAdd, kSub, kMul, kMod, kDiv, kPow, kShr, kLt, kLe, kGt, kGe, isNon, br_decide, br_t, br_f, Bool.not_true, Bool.not_false, List.map_cons, List.map_nil, List.length_cons, List.length_nil, List.replicate, List.cons_append, List.nil_append, List.set_cons_zero, List.set_cons_succ, List.set_nil, wipeD, back, noOwn, true_and, and_true, List.length_map, List.reduceReplicate, Nat.reduceSub, Nat.reduceAdd, Int.reduceNeg, reduceCtorEq, if_true, if_false, Bool.true_eq_false, Bool.false_eq_true, ite_true, ite_false, s_onVal, s_onOwn, s_onLst, s_onIns, s_onL, s_onBl, s_some, s_kI, s_addI, s_addS, s_neg, s_eqI, s_neI, s_eqS, s_neS, s_ixL, s_ixT, s_ixS, s_ixO, s_lenS, s_lenL, s_lenT, s_abs, s_intI, s_intB, s_max2, s_min2, s_itL, s_itT, s_itS, s_rng1, s_rng2, s_zipL, s_zipT, s_enL, s_seqL, s_seqT, s_minL, s_maxL, s_sum, s_isBl, s_fld, s_vNil, s_vCons, s_frzL, s_frzI, at0, at1, at2, at3, ix30, ix31, ix32, pT_cons, oT_cons, iT_cons, Option.map_some, s_none, s_put0, s_put, s_find, s_join, notInS_of, inS_of, eq_self]
  have o2 : ∀ {k : D → Prop}, kIx (wD w) (.int 2) k = k (.lst (w.c.map tL)) := fun {k} => by simp only [wD, wL, sNil, sCons, sIf, sAsg, sOwn, sFor, sRet, sRetN, sRetO, sRetNew, sExpr, sApp, sSetIx, sPass, DL.sFld, sNever, s_lk, sLcO, sLcV, eVar, eFrz, eC, eNew, eAnd, eOr, eNot, eIf, eOp, eNeg, eIsN, eNotN, eFld, eFldO, eIxO, eLenO, eTup, eB, eTuple, eFind, eJoin, eIsi, eCall, eCallT, eChain, nLst, nList, nComp, nCall, nCallT, nMake, nRep, nCat, nCatO, oNone, oSome, nSlice, bVal, bAnd, bOr, bNot, bOp, bChain, bIsN, bNotN, bYes, aNil, aCons, qNil, qVal, iSq, iR1, iR2, iZp, iEn, sPopAt, gNm, gTp, gConsD, gNilD, onMade, gt, ownAll, mkSl, wb, endsD, mrg, startD, kAdd, kSub, kMul, kMod, kDiv, kPow, kShr, kLt, kLe, kGt, kGe, isNon, br_decide, br_t, br_f, Bool.not_true, Bool.not_false, List.map_cons, List.map_nil, List.length_cons, List.length_nil, List.replicate, List.cons_append, List.nil_append, List.set_cons_zero, List.set_cons_succ, List.set_nil, wipeD, back, noOwn, true_and, and_true, List.length_map, List.reduceReplicate, Nat.reduceSub, Nat.reduceAdd, Int.reduceNeg, reduceCtorEq, if_true, if_false, Bool.true_eq_false, Bool.false_eq_true, ite_true, ite_false, s_onVal, s_onOwn, s_onLst, s_onIns, s_onL, s_onBl, s_some, s_kI, s_addI, s_addS, s_neg, s_eqI, s_neI, s_eqS, s_neS, s_ixL, s_ixT, s_ixS, s_ixO, s_lenS, s_lenL, s_lenT, s_abs, s_intI, s_intB, s_max2, s_min2, s_itL, s_itT, s_itS, s_rng1, s_rng2, s_zipL, s_zipT, s_enL, s_seqL, s_seqT, s_minL, s_maxL, s_sum, s_isBl, s_fld, s_vNil, s_vCons, s_frzL, s_frzI, at0, at1, at2, at3, ix30, ix31, ix32, pT_cons, oT_cons, iT_cons, Option.map_some, s_none, s_put0, s_put, s_find, s_join, notInS_of, inS_of, eq_self]
  have o3 : ∀ {k : D → Prop}, kIx (wD w) (.int 3) k = k (iL w.e) := fun {k} => by simp only [wD, wL, sNil, sCons, sIf, sAsg, sOwn, sFor, sRet, sRetN, sRetO, sRetNew, sExpr, sApp, sSetIx, sPass, DL.sFld, sNever, s_lk, sLcO, sLcV, eVar, eFrz, eC, eNew, eAnd, eOr, eNot, eIf, eOp, eNeg, eIsN, eNotN, eFld, eFldO, eIxO, eLenO, eTup, eB, eTuple, eFind, eJoin, eIsi, eCall, eCallT, eChain, nLst, nList, nComp, nCall, nCallT, nMake, nRep, nCat, nCatO, oNone, oSome, nSlice, bVal, bAnd, bOr, bNot, bOp, bChain, bIsN, bNotN, bYes, aNil, aCons, qNil, qVal, iSq, iR1, iR2, iZp, iEn, sPopAt, gNm, gTp, gConsD, gNilD, onMade, gt, ownAll, mkSl, wb, endsD, mrg, startD, kAdd, kSub, kMul, kMod, kDiv, kPow, kShr, kLt, kLe, kGt, kGe, isNon, br_decide, br_t, br_f, Bool.not_true, Bool.not_false, List.map_cons, List.map_nil, List.length_cons, List.length_nil, List.replicate, List.cons_append, List.nil_append, List.set_cons_zero, List.set_cons_succ, List.set_nil, wipeD, back, noOwn, true_and, and_true, List.length_map, List.reduceReplicate, Nat.reduceSub, Nat.reduceAdd, Int.reduceNeg, reduceCtorEq, if_true, if_false, Bool.true_eq_false, Bool.false_eq_true, ite_true, ite_false, s_onVal, s_onOwn, s_onLst, s_onIns, s_onL, s_onBl, s_some, s_kI, s_addI, s_addS, s_neg, s_eqI, s_neI, s_eqS, s_neS, s_ixL, s_ixT, s_ixS, s_ixO, s_lenS, s_lenL, s_lenT, s_abs, s_intI, s_intB, s_max2, s_min2, s_itL, s_itT, s_itS, s_rng1, s_rng2, s_zipL, s_zipT, s_enL, s_seqL, s_seqT, s_minL, s_maxL, s_sum, s_isBl, s_fld, s_vNil, s_vCons, s_frzL, s_frzI, at0, at1, at2, at3, ix30, ix31, ix32, pT_cons, oT_cons, iT_cons, Option.map_some, s_none, s_put0, s_put, s_find, s_join, notInS_of, inS_of, eq_self]
  have c0 := hc.lt _ (DL.getD_mem (l := cs) (i := 0) (x := 0) (by omega))
  have c1 := hc.lt _ (DL.getD_mem (l := cs) (i := r.length) (x := 0) (by omega))
  have z0 : L2.atI (cs.map fun n : Nat => D.int n) 0 = some (.int (cs.getD 0 0 : Nat)) := at_nL (k := 0) (by omega) (by omega)
  unfold m__law_course_pays
  simp only [o1, o3, nL, iL, z0, crs_last hc, at_nat (l := w.b) (i := cs.getD 0 0) (by rw [hw.b]; exact c0), at_nat (l := w.e) (i := cs.getD r.length 0) (by rw [hw.e]; exact c1), sNil, sCons, sIf, sAsg, sOwn, sFor, sRet, sRetN, sRetO, sRetNew, sExpr, sApp, sSetIx, sPass, DL.sFld, sNever, s_lk, sLcO, sLcV, eVar, eFrz, eC, eNew, eAnd, eOr, eNot, eIf, eOp, eNeg, eIsN, eNotN, eFld, eFldO, eIxO, eLenO, eTup, eB, eTuple, eFind, eJoin, eIsi, eCall, eCallT, eChain, nLst, nList, nComp, nCall, nCallT, nMake, nRep, nCat, nCatO, oNone, oSome, nSlice, bVal, bAnd, bOr, bNot, bOp, bChain, bIsN, bNotN, bYes, aNil, aCons, qNil, qVal, iSq, iR1, iR2, iZp, iEn, sPopAt, gNm, gTp, gConsD, gNilD, onMade, gt, ownAll, mkSl, wb, endsD, mrg, startD, kAdd, kSub, kMul, kMod, kDiv, kPow, kShr, kLt, kLe, kGt, kGe, isNon, br_decide, br_t, br_f, Bool.not_true, Bool.not_false, List.map_cons, List.map_nil, List.length_cons, List.length_nil, List.replicate, List.cons_append, List.nil_append, List.set_cons_zero, List.set_cons_succ, List.set_nil, wipeD, back, noOwn, true_and, and_true, List.length_map, List.reduceReplicate, Nat.reduceSub, Nat.reduceAdd, Int.reduceNeg, reduceCtorEq, if_true, if_false, Bool.true_eq_false, Bool.false_eq_true, ite_true, ite_false, s_onVal, s_onOwn, s_onLst, s_onIns, s_onL, s_onBl, s_some, s_kI, s_addI, s_addS, s_neg, s_eqI, s_neI, s_eqS, s_neS, s_ixL, s_ixT, s_ixS, s_ixO, s_lenS, s_lenL, s_lenT, s_abs, s_intI, s_intB, s_max2, s_min2, s_itL, s_itT, s_itS, s_rng1, s_rng2, s_zipL, s_zipT, s_enL, s_seqL, s_seqT, s_minL, s_maxL, s_sum, s_isBl, s_fld, s_vNil, s_vCons, s_frzL, s_frzI, at0, at1, at2, at3, ix30, ix31, ix32, pT_cons, oT_cons, iT_cons, Option.map_some, s_none, s_put0, s_put, s_find, s_join, notInS_of, inS_of, eq_self]
  have hr2 := hr.2
  refine ⟨small (m := 2000) hr2, by omega, ?_⟩
  refine forL_n (fun k ρ => ∃ x, ρ = [.val (wD w), .val (.str r), .val (nL cs), .val (.int (acc (payAt w r cs) (w.b.getD (cs.getD 0 0) 0 + w.e.getD (cs.getD r.length 0) 0) k)), x]) (fun k d hd ρ ⟨x, e⟩ nx hn => ?_) (fun ρ ⟨x, e⟩ => ?_) ⟨_, rfl⟩
  · subst e
    obtain ⟨hk, rfl⟩ := rng_get hd
    rw [Int.toNat_natCast] at hk
    obtain ⟨c, e1, i0, i1, s1, s2, ep, sq⟩ := payAt_ok hw ha hr hc hk
    unfold m__law_course_pays_1
    have g1 : L2.atI r.cps.toList ((k : Nat) : Int) = some c := at_get e1
    have z1 : L2.atI (cs.map fun n : Nat => D.int n) (k : Int) = some (.int (cs.getD k 0 : Nat)) := by rw [at_nL (k := (k : Int)) (by omega) (by omega), Int.toNat_natCast]
    have z2 : L2.atI (cs.map fun n : Nat => D.int n) ((k : Int) + 1) = some (.int (cs.getD (k + 1) 0 : Nat)) := by rw [at_nL (k := (k : Int) + 1) (by omega) (by omega)]; rfl
    have fi : Txt.find w.a ⟨#[c]⟩ = ixOf w.a c := rfl
    simp only [Int.zero_add, o0, o2, nL, tL, iL, g1, fi, at_tab i0 i1, z1, z2, at_line (t := w.c.getD (ixOf w.a c).toNat []) (k := ((cs.getD k 0 : Nat) : Int)) (by omega) (by rw [sq.1]; omega), Int.toNat_natCast, at_nat (l := (w.c.getD (ixOf w.a c).toNat []).getD (cs.getD k 0) []) (i := cs.getD (k + 1) 0) (by rw [sq.line s1]; exact s2), sNil, sCons, sIf, sAsg, sOwn, sFor, sRet, sRetN, sRetO, sRetNew, sExpr, sApp, sSetIx, sPass, DL.sFld, sNever, s_lk, sLcO, sLcV, eVar, eFrz, eC, eNew, eAnd, eOr, eNot, eIf, eOp, eNeg, eIsN, eNotN, eFld, eFldO, eIxO, eLenO, eTup, eB, eTuple, eFind, eJoin, eIsi, eCall, eCallT, eChain, nLst, nList, nComp, nCall, nCallT, nMake, nRep, nCat, nCatO, oNone, oSome, nSlice, bVal, bAnd, bOr, bNot, bOp, bChain, bIsN, bNotN, bYes, aNil, aCons, qNil, qVal, iSq, iR1, iR2, iZp, iEn, sPopAt, gNm, gTp, gConsD, gNilD, onMade, gt, ownAll, mkSl, wb, endsD, mrg, startD, kAdd, kSub, kMul, kMod, kDiv, kPow, kShr, kLt, kLe, kGt, kGe, isNon, br_decide, br_t, br_f, Bool.not_true, Bool.not_false, List.map_cons, List.map_nil, List.length_cons, List.length_nil, List.replicate, List.cons_append, List.nil_append, List.set_cons_zero, List.set_cons_succ, List.set_nil, wipeD, back, noOwn, true_and, and_true, List.length_map, List.reduceReplicate, Nat.reduceSub, Nat.reduceAdd, Int.reduceNeg, reduceCtorEq, if_true, if_false, Bool.true_eq_false, Bool.false_eq_true, ite_true, ite_false, s_onVal, s_onOwn, s_onLst, s_onIns, s_onL, s_onBl, s_some, s_kI, s_addI, s_addS, s_neg, s_eqI, s_neI, s_eqS, s_neS, s_ixL, s_ixT, s_ixS, s_ixO, s_lenS, s_lenL, s_lenT, s_abs, s_intI, s_intB, s_max2, s_min2, s_itL, s_itT, s_itS, s_rng1, s_rng2, s_zipL, s_zipT, s_enL, s_seqL, s_seqT, s_minL, s_maxL, s_sum, s_isBl, s_fld, s_vNil, s_vCons, s_frzL, s_frzI, at0, at1, at2, at3, ix30, ix31, ix32, pT_cons, oT_cons, iT_cons, Option.map_some, s_none, s_put0, s_put, s_find, s_join, notInS_of, inS_of, eq_self]
    refine ⟨small (m := 2000) hr2, hn _ ⟨.val (.int k), ?_⟩⟩
    rw [← ep]; rfl
  · subst e
    rw [rng_length, Int.toNat_natCast]
    simp only [sNil, sCons, sIf, sAsg, sOwn, sFor, sRet, sRetN, sRetO, sRetNew, sExpr, sApp, sSetIx, sPass, DL.sFld, sNever, s_lk, sLcO, sLcV, eVar, eFrz, eC, eNew, eAnd, eOr, eNot, eIf, eOp, eNeg, eIsN, eNotN, eFld, eFldO, eIxO, eLenO, eTup, eB, eTuple, eFind, eJoin, eIsi, eCall, eCallT, eChain, nLst, nList, nComp, nCall, nCallT, nMake, nRep, nCat, nCatO, oNone, oSome, nSlice, bVal, bAnd, bOr, bNot, bOp, bChain, bIsN, bNotN, bYes, aNil, aCons, qNil, qVal, iSq, iR1, iR2, iZp, iEn, sPopAt, gNm, gTp, gConsD, gNilD, onMade, gt, ownAll, mkSl, wb, endsD, mrg, startD, kAdd, kSub, kMul, kMod, kDiv, kPow, kShr, kLt, kLe, kGt, kGe, isNon, br_decide, br_t, br_f, Bool.not_true, Bool.not_false, List.map_cons, List.map_nil, List.length_cons, List.length_nil, List.replicate, List.cons_append, List.nil_append, List.set_cons_zero, List.set_cons_succ, List.set_nil, wipeD, back, noOwn, true_and, and_true, List.length_map, List.reduceReplicate, Nat.reduceSub, Nat.reduceAdd, Int.reduceNeg, reduceCtorEq, if_true, if_false, Bool.true_eq_false, Bool.false_eq_true, ite_true, ite_false, s_onVal, s_onOwn, s_onLst, s_onIns, s_onL, s_onBl, s_some, s_kI, s_addI, s_addS, s_neg, s_eqI, s_neI, s_eqS, s_neS, s_ixL, s_ixT, s_ixS, s_ixO, s_lenS, s_lenL, s_lenT, s_abs, s_intI, s_intB, s_max2, s_min2, s_itL, s_itT, s_itS, s_rng1, s_rng2, s_zipL, s_zipT, s_enL, s_seqL, s_seqT, s_minL, s_maxL, s_sum, s_isBl, s_fld, s_vNil, s_vCons, s_frzL, s_frzI, at0, at1, at2, at3, ix30, ix31, ix32, pT_cons, oT_cons, iT_cons, Option.map_some, s_none, s_put0, s_put, s_find, s_join, notInS_of, inS_of, eq_self]
    exact h

theorem p_row_over (K : PySem.W.Frag) (kf : KF K) : ∀ sl Q E, T_row_over K sl Q E → m_row_over K (endsD [] sl Q E) (startD N_row_over sl) := by
  refine pT_in ?_
  rintro ds Q E ⟨a, r, rfl, hr, h⟩
  unfold m_row_over
  simp only [isStr, sNil, sCons, sIf, sAsg, sOwn, sFor, sRet, sRetN, sRetO, sRetNew, sExpr, sApp, sSetIx, sPass, DL.sFld, sNever, s_lk, sLcO, sLcV, eVar, eFrz, eC, eNew, eAnd, eOr, eNot, eIf, eOp, eNeg, eIsN, eNotN, eFld, eFldO, eIxO, eLenO, eTup, eB, eTuple, eFind, eJoin, eIsi, eCall, eCallT, eChain, nLst, nList, nComp, nCall, nCallT, nMake, nRep, nCat, nCatO, oNone, oSome, nSlice, bVal, bAnd, bOr, bNot, bOp, bChain, bIsN, bNotN, bYes, aNil, aCons, qNil, qVal, iSq, iR1, iR2, iZp, iEn, sPopAt, gNm, gTp, gConsD, gNilD, onMade, gt, ownAll, mkSl, wb, endsD, mrg, startD, kAdd, kSub, kMul, kMod, kDiv, kPow, kShr, kLt, kLe, kGt, kGe, isNon, br_decide, br_t, br_f, Bool.not_true, Bool.not_false, List.map_cons, List.map_nil, List.length_cons, List.length_nil, List.replicate, List.cons_append, List.nil_append, List.set_cons_zero, List.set_cons_succ, List.set_nil, wipeD, back, noOwn, true_and, and_true, List.length_map, List.reduceReplicate, Nat.reduceSub, Nat.reduceAdd, Int.reduceNeg, reduceCtorEq, if_true, if_false, Bool.true_eq_false, Bool.false_eq_true, ite_true, ite_false, s_onVal, s_onOwn, s_onLst, s_onIns, s_onL, s_onBl, s_some, s_kI, s_addI, s_addS, s_neg, s_eqI, s_neI, s_eqS, s_neS, s_ixL, s_ixT, s_ixS, s_ixO, s_lenS, s_lenL, s_lenT, s_abs, s_intI, s_intB, s_max2, s_min2, s_itL, s_itT, s_itS, s_rng1, s_rng2, s_zipL, s_zipT, s_enL, s_seqL, s_seqT, s_minL, s_maxL, s_sum, s_isBl, s_fld, s_vNil, s_vCons, s_frzL, s_frzI, at0, at1, at2, at3, ix30, ix31, ix32, pT_cons, oT_cons, iT_cons, Option.map_some, s_none, s_put0, s_put, s_find, s_join, notInS_of, inS_of, eq_self]
  have hr2 := hr.2
  refine ⟨small (m := 2000) hr2, fun c => by omega, fun _ => ?_⟩
  refine forL_all (fun ρ => ∃ x, ρ = [.val (.str a), .val (.str r), x]) (fun _ => True) _ _ (fun d hd ρ ⟨x, e⟩ nx h1 _ => ?_) (fun _ ρ ⟨x, e⟩ => ?_) (fun ⟨_, _, z⟩ => (z trivial).elim) ⟨_, rfl⟩
  · subst e
    obtain ⟨c, hc, rfl⟩ := List.mem_map.mp hd
    unfold m_row_over_1
    simp only [decide_eq_true (hr.1 c hc), sNil, sCons, sIf, sAsg, sOwn, sFor, sRet, sRetN, sRetO, sRetNew, sExpr, sApp, sSetIx, sPass, DL.sFld, sNever, s_lk, sLcO, sLcV, eVar, eFrz, eC, eNew, eAnd, eOr, eNot, eIf, eOp, eNeg, eIsN, eNotN, eFld, eFldO, eIxO, eLenO, eTup, eB, eTuple, eFind, eJoin, eIsi, eCall, eCallT, eChain, nLst, nList, nComp, nCall, nCallT, nMake, nRep, nCat, nCatO, oNone, oSome, nSlice, bVal, bAnd, bOr, bNot, bOp, bChain, bIsN, bNotN, bYes, aNil, aCons, qNil, qVal, iSq, iR1, iR2, iZp, iEn, sPopAt, gNm, gTp, gConsD, gNilD, onMade, gt, ownAll, mkSl, wb, endsD, mrg, startD, kAdd, kSub, kMul, kMod, kDiv, kPow, kShr, kLt, kLe, kGt, kGe, isNon, br_decide, br_t, br_f, Bool.not_true, Bool.not_false, List.map_cons, List.map_nil, List.length_cons, List.length_nil, List.replicate, List.cons_append, List.nil_append, List.set_cons_zero, List.set_cons_succ, List.set_nil, wipeD, back, noOwn, true_and, and_true, List.length_map, List.reduceReplicate, Nat.reduceSub, Nat.reduceAdd, Int.reduceNeg, reduceCtorEq, if_true, if_false, Bool.true_eq_false, Bool.false_eq_true, ite_true, ite_false, s_onVal, s_onOwn, s_onLst, s_onIns, s_onL, s_onBl, s_some, s_kI, s_addI, s_addS, s_neg, s_eqI, s_neI, s_eqS, s_neS, s_ixL, s_ixT, s_ixS, s_ixO, s_lenS, s_lenL, s_lenT, s_abs, s_intI, s_intB, s_max2, s_min2, s_itL, s_itT, s_itS, s_rng1, s_rng2, s_zipL, s_zipT, s_enL, s_seqL, s_seqT, s_minL, s_maxL, s_sum, s_isBl, s_fld, s_vNil, s_vCons, s_frzL, s_frzI, at0, at1, at2, at3, ix30, ix31, ix32, pT_cons, oT_cons, iT_cons, Option.map_some, s_none, s_put0, s_put, s_find, s_join, notInS_of, inS_of, eq_self]
    exact h1 trivial _ ⟨_, rfl⟩
  · subst e
    simp only [sNil, sCons, sIf, sAsg, sOwn, sFor, sRet, sRetN, sRetO, sRetNew, sExpr, sApp, sSetIx, sPass, DL.sFld, sNever, s_lk, sLcO, sLcV, eVar, eFrz, eC, eNew, eAnd, eOr, eNot, eIf, eOp, eNeg, eIsN, eNotN, eFld, eFldO, eIxO, eLenO, eTup, eB, eTuple, eFind, eJoin, eIsi, eCall, eCallT, eChain, nLst, nList, nComp, nCall, nCallT, nMake, nRep, nCat, nCatO, oNone, oSome, nSlice, bVal, bAnd, bOr, bNot, bOp, bChain, bIsN, bNotN, bYes, aNil, aCons, qNil, qVal, iSq, iR1, iR2, iZp, iEn, sPopAt, gNm, gTp, gConsD, gNilD, onMade, gt, ownAll, mkSl, wb, endsD, mrg, startD, kAdd, kSub, kMul, kMod, kDiv, kPow, kShr, kLt, kLe, kGt, kGe, isNon, br_decide, br_t, br_f, Bool.not_true, Bool.not_false, List.map_cons, List.map_nil, List.length_cons, List.length_nil, List.replicate, List.cons_append, List.nil_append, List.set_cons_zero, List.set_cons_succ, List.set_nil, wipeD, back, noOwn, true_and, and_true, List.length_map, List.reduceReplicate, Nat.reduceSub, Nat.reduceAdd, Int.reduceNeg, reduceCtorEq, if_true, if_false, Bool.true_eq_false, Bool.false_eq_true, ite_true, ite_false, s_onVal, s_onOwn, s_onLst, s_onIns, s_onL, s_onBl, s_some, s_kI, s_addI, s_addS, s_neg, s_eqI, s_neI, s_eqS, s_neS, s_ixL, s_ixT, s_ixS, s_ixO, s_lenS, s_lenL, s_lenT, s_abs, s_intI, s_intB, s_max2, s_min2, s_itL, s_itT, s_itS, s_rng1, s_rng2, s_zipL, s_zipT, s_enL, s_seqL, s_seqT, s_minL, s_maxL, s_sum, s_isBl, s_fld, s_vNil, s_vCons, s_frzL, s_frzI, at0, at1, at2, at3, ix30, ix31, ix32, pT_cons, oT_cons, iT_cons, Option.map_some, s_none, s_put0, s_put, s_find, s_join, notInS_of, inS_of, eq_self]
    exact h

theorem p_check_row (K : PySem.W.Frag) (kf : KF K) : ∀ sl Q E, T_check_row K sl Q E → m_check_row K (endsD [] sl Q E) (startD N_check_row sl) := by
  refine pT_in ?_
  rintro ds Q E ⟨a, r, rfl, hr, h⟩
  unfold m_check_row
  simp only [T_row_over, sNil, sCons, sIf, sAsg, sOwn, sFor, sRet, sRetN, sRetO, sRetNew, sExpr, sApp, sSetIx, sPass, DL.sFld, sNever, s_lk, sLcO, sLcV, eVar, eFrz, eC, eNew, eAnd, eOr, eNot, eIf, eOp, eNeg, eIsN, eNotN, eFld, eFldO, eIxO, eLenO, eTup, eB, eTuple, eFind, eJoin, eIsi, eCall, eCallT, eChain, nLst, nList, nComp, nCall, nCallT, nMake, nRep, nCat, nCatO, oNone, oSome, nSlice, bVal, bAnd, bOr, bNot, bOp, bChain, bIsN, bNotN, bYes, aNil, aCons, qNil, qVal, iSq, iR1, iR2, iZp, iEn, sPopAt, gNm, gTp, gConsD, gNilD, onMade, gt, ownAll, mkSl, wb, endsD, mrg, startD, kAdd, kSub, kMul, kMod, kDiv, kPow, kShr, kLt, kLe, kGt, kGe, isNon, br_decide, br_t, br_f, Bool.not_true, Bool.not_false, List.map_cons, List.map_nil, List.length_cons, List.length_nil, List.replicate, List.cons_append, List.nil_append, List.set_cons_zero, List.set_cons_succ, List.set_nil, wipeD, back, noOwn, true_and, and_true, List.length_map, List.reduceReplicate, Nat.reduceSub, Nat.reduceAdd, Int.reduceNeg, reduceCtorEq, if_true, if_false, Bool.true_eq_false, Bool.false_eq_true, ite_true, ite_false, s_onVal, s_onOwn, s_onLst, s_onIns, s_onL, s_onBl, s_some, s_kI, s_addI, s_addS, s_neg, s_eqI, s_neI, s_eqS, s_neS, s_ixL, s_ixT, s_ixS, s_ixO, s_lenS, s_lenL, s_lenT, s_abs, s_intI, s_intB, s_max2, s_min2, s_itL, s_itT, s_itS, s_rng1, s_rng2, s_zipL, s_zipT, s_enL, s_seqL, s_seqT, s_minL, s_maxL, s_sum, s_isBl, s_fld, s_vNil, s_vCons, s_frzL, s_frzI, at0, at1, at2, at3, ix30, ix31, ix32, pT_cons, oT_cons, iT_cons, Option.map_some, s_none, s_put0, s_put, s_find, s_join, notInS_of, inS_of, eq_self]
  exact ⟨a, r, rfl, hr, h⟩

theorem p_is_course (K : PySem.W.Frag) (kf : KF K) : ∀ sl Q E, T_is_course K sl Q E → m_is_course K (endsD [] sl Q E) (startD N_is_course sl) := by
  refine pT_in ?_
  rintro ds Q E ⟨n, w, r, cs, rfl, hw, hc, h⟩
  have fb : FldOk K (He.ga K "Store") "begins" := ⟨kf.cl_Store, kf.na_Store_begins⟩
  have w1 : ∀ (w : Wd) {k : D → Prop}, kFld K "begins" (sD K w) k = (FldOk K (He.ga K "Store") "begins" ∧ k (iU w.b)) := fun w {k} => by simp (decide := true) only [sD, sL, sNil, sCons, sIf, sAsg, sOwn, sFor, sRet, sRetN, sRetO, sRetNew, sExpr, sApp, sSetIx, sPass, DL.sFld, sNever, s_lk, sLcO, sLcV, eVar, eFrz, eC, eNew, eAnd, eOr, eNot, eIf, eOp, eNeg, eIsN, eNotN, eFld, eFldO, eIxO, eLenO, eTup, eB, eTuple, eFind, eJoin, eIsi, eCall, eCallT, eChain, nLst, nList, nComp, nCall, nCallT, nMake, nRep, nCat, nCatO, oNone, oSome, nSlice, bVal, bAnd, bOr, bNot, bOp, bChain, bIsN, bNotN, bYes, aNil, aCons, qNil, qVal, iSq, iR1, iR2, iZp, iEn, sPopAt, gNm, gTp, gConsD, gNilD, onMade, gt, ownAll, mkSl, wb, endsD, mrg, startD, kAdd, kSub, kMul, kMod, kDiv, kPow, kShr, kLt, kLe, kGt, kGe, isNon, br_decide, br_t, br_f, Bool.not_true, Bool.not_false, List.map_cons, List.map_nil, List.length_cons, List.length_nil, List.replicate, List.cons_append, List.nil_append, List.set_cons_zero, List.set_cons_succ, List.set_nil, wipeD, back, noOwn, true_and, and_true, List.length_map, List.reduceReplicate, Nat.reduceSub, Nat.reduceAdd, Int.reduceNeg, reduceCtorEq, if_true, if_false, Bool.true_eq_false, Bool.false_eq_true, ite_true, ite_false, s_onVal, s_onOwn, s_onLst, s_onIns, s_onL, s_onBl, s_some, s_kI, s_addI, s_addS, s_neg, s_eqI, s_neI, s_eqS, s_neS, s_ixL, s_ixT, s_ixS, s_ixO, s_lenS, s_lenL, s_lenT, s_abs, s_intI, s_intB, s_max2, s_min2, s_itL, s_itT, s_itS, s_rng1, s_rng2, s_zipL, s_zipT, s_enL, s_seqL, s_seqT, s_minL, s_maxL, s_sum, s_isBl, s_fld, s_vNil, s_vCons, s_frzL, s_frzI, at0, at1, at2, at3, ix30, ix31, ix32, pT_cons, oT_cons, iT_cons, Option.map_some, s_none, s_put0, s_put, s_find, s_join, notInS_of, inS_of, eq_self]
  have lw : ∀ {k : D → Prop}, kLen [iU w.b] k = k (.int n) := fun {k} => by simp only [iU, hw.b, sNil, sCons, sIf, sAsg, sOwn, sFor, sRet, sRetN, sRetO, sRetNew, sExpr, sApp, sSetIx, sPass, DL.sFld, sNever, s_lk, sLcO, sLcV, eVar, eFrz, eC, eNew, eAnd, eOr, eNot, eIf, eOp, eNeg, eIsN, eNotN, eFld, eFldO, eIxO, eLenO, eTup, eB, eTuple, eFind, eJoin, eIsi, eCall, eCallT, eChain, nLst, nList, nComp, nCall, nCallT, nMake, nRep, nCat, nCatO, oNone, oSome, nSlice, bVal, bAnd, bOr, bNot, bOp, bChain, bIsN, bNotN, bYes, aNil, aCons, qNil, qVal, iSq, iR1, iR2, iZp, iEn, sPopAt, gNm, gTp, gConsD, gNilD, onMade, gt, ownAll, mkSl, wb, endsD, mrg, startD, kAdd, kSub, kMul, kMod, kDiv, kPow, kShr, kLt, kLe, kGt, kGe, isNon, br_decide, br_t, br_f, Bool.not_true, Bool.not_false, List.map_cons, List.map_nil, List.length_cons, List.length_nil, List.replicate, List.cons_append, List.nil_append, List.set_cons_zero, List.set_cons_succ, List.set_nil, wipeD, back, noOwn, true_and, and_true, List.length_map, List.reduceReplicate, Nat.reduceSub, Nat.reduceAdd, Int.reduceNeg, reduceCtorEq, if_true, if_false, Bool.true_eq_false, Bool.false_eq_true, ite_true, ite_false, s_onVal, s_onOwn, s_onLst, s_onIns, s_onL, s_onBl, s_some, s_kI, s_addI, s_addS, s_neg, s_eqI, s_neI, s_eqS, s_neS, s_ixL, s_ixT, s_ixS, s_ixO, s_lenS, s_lenL, s_lenT, s_abs, s_intI, s_intB, s_max2, s_min2, s_itL, s_itT, s_itS, s_rng1, s_rng2, s_zipL, s_zipT, s_enL, s_seqL, s_seqT, s_minL, s_maxL, s_sum, s_isBl, s_fld, s_vNil, s_vCons, s_frzL, s_frzI, at0, at1, at2, at3, ix30, ix31, ix32, pT_cons, oT_cons, iT_cons, Option.map_some, s_none, s_put0, s_put, s_find, s_join, notInS_of, inS_of, eq_self]
  unfold m_is_course
  simp only [T_is_listed, isSeq, nL, hc.len, Int.natCast_add, Int.cast_ofNat_Int, decide_true, sNil, sCons, sIf, sAsg, sOwn, sFor, sRet, sRetN, sRetO, sRetNew, sExpr, sApp, sSetIx, sPass, DL.sFld, sNever, s_lk, sLcO, sLcV, eVar, eFrz, eC, eNew, eAnd, eOr, eNot, eIf, eOp, eNeg, eIsN, eNotN, eFld, eFldO, eIxO, eLenO, eTup, eB, eTuple, eFind, eJoin, eIsi, eCall, eCallT, eChain, nLst, nList, nComp, nCall, nCallT, nMake, nRep, nCat, nCatO, oNone, oSome, nSlice, bVal, bAnd, bOr, bNot, bOp, bChain, bIsN, bNotN, bYes, aNil, aCons, qNil, qVal, iSq, iR1, iR2, iZp, iEn, sPopAt, gNm, gTp, gConsD, gNilD, onMade, gt, ownAll, mkSl, wb, endsD, mrg, startD, kAdd, kSub, kMul, kMod, kDiv, kPow, kShr, kLt, kLe, kGt, kGe, isNon, br_decide, br_t, br_f, Bool.not_true, Bool.not_false, List.map_cons, List.map_nil, List.length_cons, List.length_nil, List.replicate, List.cons_append, List.nil_append, List.set_cons_zero, List.set_cons_succ, List.set_nil, wipeD, back, noOwn, true_and, and_true, List.length_map, List.reduceReplicate, Nat.reduceSub, Nat.reduceAdd, Int.reduceNeg, reduceCtorEq, if_true, if_false, Bool.true_eq_false, Bool.false_eq_true, ite_true, ite_false, s_onVal, s_onOwn, s_onLst, s_onIns, s_onL, s_onBl, s_some, s_kI, s_addI, s_addS, s_neg, s_eqI, s_neI, s_eqS, s_neS, s_ixL, s_ixT, s_ixS, s_ixO, s_lenS, s_lenL, s_lenT, s_abs, s_intI, s_intB, s_max2, s_min2, s_itL, s_itT, s_itS, s_rng1, s_rng2, s_zipL, s_zipT, s_enL, s_seqL, s_seqT, s_minL, s_maxL, s_sum, s_isBl, s_fld, s_vNil, s_vCons, s_frzL, s_frzI, at0, at1, at2, at3, ix30, ix31, ix32, pT_cons, oT_cons, iT_cons, Option.map_some, s_none, s_put0, s_put, s_find, s_join, notInS_of, inS_of, eq_self]
  refine forL_all (fun ρ => ∃ x, ρ = [.val (sD K w), .val (nL cs), .val (.int r.length), x]) (fun _ => True) _ _ (fun d hd ρ ⟨x, e⟩ nx h1 _ => ?_) (fun _ ρ ⟨x, e⟩ => ?_) (fun ⟨_, _, z⟩ => (z trivial).elim) ⟨_, rfl⟩
  · subst e
    obtain ⟨s, hs, rfl⟩ := List.mem_map.mp hd
    have := hc.lt s hs
    unfold m_is_course_1
    simp only [T_is_integer, isNum, w1, lw, fb, sNil, sCons, sIf, sAsg, sOwn, sFor, sRet, sRetN, sRetO, sRetNew, sExpr, sApp, sSetIx, sPass, DL.sFld, sNever, s_lk, sLcO, sLcV, eVar, eFrz, eC, eNew, eAnd, eOr, eNot, eIf, eOp, eNeg, eIsN, eNotN, eFld, eFldO, eIxO, eLenO, eTup, eB, eTuple, eFind, eJoin, eIsi, eCall, eCallT, eChain, nLst, nList, nComp, nCall, nCallT, nMake, nRep, nCat, nCatO, oNone, oSome, nSlice, bVal, bAnd, bOr, bNot, bOp, bChain, bIsN, bNotN, bYes, aNil, aCons, qNil, qVal, iSq, iR1, iR2, iZp, iEn, sPopAt, gNm, gTp, gConsD, gNilD, onMade, gt, ownAll, mkSl, wb, endsD, mrg, startD, kAdd, kSub, kMul, kMod, kDiv, kPow, kShr, kLt, kLe, kGt, kGe, isNon, br_decide, br_t, br_f, Bool.not_true, Bool.not_false, List.map_cons, List.map_nil, List.length_cons, List.length_nil, List.replicate, List.cons_append, List.nil_append, List.set_cons_zero, List.set_cons_succ, List.set_nil, wipeD, back, noOwn, true_and, and_true, List.length_map, List.reduceReplicate, Nat.reduceSub, Nat.reduceAdd, Int.reduceNeg, reduceCtorEq, if_true, if_false, Bool.true_eq_false, Bool.false_eq_true, ite_true, ite_false, s_onVal, s_onOwn, s_onLst, s_onIns, s_onL, s_onBl, s_some, s_kI, s_addI, s_addS, s_neg, s_eqI, s_neI, s_eqS, s_neS, s_ixL, s_ixT, s_ixS, s_ixO, s_lenS, s_lenL, s_lenT, s_abs, s_intI, s_intB, s_max2, s_min2, s_itL, s_itT, s_itS, s_rng1, s_rng2, s_zipL, s_zipT, s_enL, s_seqL, s_seqT, s_minL, s_maxL, s_sum, s_isBl, s_fld, s_vNil, s_vCons, s_frzL, s_frzI, at0, at1, at2, at3, ix30, ix31, ix32, pT_cons, oT_cons, iT_cons, Option.map_some, s_none, s_put0, s_put, s_find, s_join, notInS_of, inS_of, eq_self]
    refine ⟨fun _ => br_pq (fun z => ?_) fun _ => h1 trivial _ ⟨_, rfl⟩, fun z => by omega⟩
    simp at z; omega
  · subst e
    simp only [sNil, sCons, sIf, sAsg, sOwn, sFor, sRet, sRetN, sRetO, sRetNew, sExpr, sApp, sSetIx, sPass, DL.sFld, sNever, s_lk, sLcO, sLcV, eVar, eFrz, eC, eNew, eAnd, eOr, eNot, eIf, eOp, eNeg, eIsN, eNotN, eFld, eFldO, eIxO, eLenO, eTup, eB, eTuple, eFind, eJoin, eIsi, eCall, eCallT, eChain, nLst, nList, nComp, nCall, nCallT, nMake, nRep, nCat, nCatO, oNone, oSome, nSlice, bVal, bAnd, bOr, bNot, bOp, bChain, bIsN, bNotN, bYes, aNil, aCons, qNil, qVal, iSq, iR1, iR2, iZp, iEn, sPopAt, gNm, gTp, gConsD, gNilD, onMade, gt, ownAll, mkSl, wb, endsD, mrg, startD, kAdd, kSub, kMul, kMod, kDiv, kPow, kShr, kLt, kLe, kGt, kGe, isNon, br_decide, br_t, br_f, Bool.not_true, Bool.not_false, List.map_cons, List.map_nil, List.length_cons, List.length_nil, List.replicate, List.cons_append, List.nil_append, List.set_cons_zero, List.set_cons_succ, List.set_nil, wipeD, back, noOwn, true_and, and_true, List.length_map, List.reduceReplicate, Nat.reduceSub, Nat.reduceAdd, Int.reduceNeg, reduceCtorEq, if_true, if_false, Bool.true_eq_false, Bool.false_eq_true, ite_true, ite_false, s_onVal, s_onOwn, s_onLst, s_onIns, s_onL, s_onBl, s_some, s_kI, s_addI, s_addS, s_neg, s_eqI, s_neI, s_eqS, s_neS, s_ixL, s_ixT, s_ixS, s_ixO, s_lenS, s_lenL, s_lenT, s_abs, s_intI, s_intB, s_max2, s_min2, s_itL, s_itT, s_itS, s_rng1, s_rng2, s_zipL, s_zipT, s_enL, s_seqL, s_seqT, s_minL, s_maxL, s_sum, s_isBl, s_fld, s_vNil, s_vCons, s_frzL, s_frzI, at0, at1, at2, at3, ix30, ix31, ix32, pT_cons, oT_cons, iT_cons, Option.map_some, s_none, s_put0, s_put, s_find, s_join, notInS_of, inS_of, eq_self]
    exact h

theorem p_numbers_of (K : PySem.W.Frag) (kf : KF K) : ∀ sl Q E, T_numbers_of K sl Q E → m_numbers_of K (endsD [] sl Q E) (startD N_numbers_of sl) := by
  refine pT_in ?_
  rintro ds Q E ⟨a, r, rfl, hr, h⟩
  unfold m_numbers_of
  simp only [sNil, sCons, sIf, sAsg, sOwn, sFor, sRet, sRetN, sRetO, sRetNew, sExpr, sApp, sSetIx, sPass, DL.sFld, sNever, s_lk, sLcO, sLcV, eVar, eFrz, eC, eNew, eAnd, eOr, eNot, eIf, eOp, eNeg, eIsN, eNotN, eFld, eFldO, eIxO, eLenO, eTup, eB, eTuple, eFind, eJoin, eIsi, eCall, eCallT, eChain, nLst, nList, nComp, nCall, nCallT, nMake, nRep, nCat, nCatO, oNone, oSome, nSlice, bVal, bAnd, bOr, bNot, bOp, bChain, bIsN, bNotN, bYes, aNil, aCons, qNil, qVal, iSq, iR1, iR2, iZp, iEn, sPopAt, gNm, gTp, gConsD, gNilD, onMade, gt, ownAll, mkSl, wb, endsD, mrg, startD, kAdd, kSub, kMul, kMod, kDiv, kPow, kShr, kLt, kLe, kGt, kGe, isNon, br_decide, br_t, br_f, Bool.not_true, Bool.not_false, List.map_cons, List.map_nil, List.length_cons, List.length_nil, List.replicate, List.cons_append, List.nil_append, List.set_cons_zero, List.set_cons_succ, List.set_nil, wipeD, back, noOwn, true_and, and_true, List.length_map, List.reduceReplicate, Nat.reduceSub, Nat.reduceAdd, Int.reduceNeg, reduceCtorEq, if_true, if_false, Bool.true_eq_false, Bool.false_eq_true, ite_true, ite_false, s_onVal, s_onOwn, s_onLst, s_onIns, s_onL, s_onBl, s_some, s_kI, s_addI, s_addS, s_neg, s_eqI, s_neI, s_eqS, s_neS, s_ixL, s_ixT, s_ixS, s_ixO, s_lenS, s_lenL, s_lenT, s_abs, s_intI, s_intB, s_max2, s_min2, s_itL, s_itT, s_itS, s_rng1, s_rng2, s_zipL, s_zipT, s_enL, s_seqL, s_seqT, s_minL, s_maxL, s_sum, s_isBl, s_fld, s_vNil, s_vCons, s_frzL, s_frzI, at0, at1, at2, at3, ix30, ix31, ix32, pT_cons, oT_cons, iT_cons, Option.map_some, s_none, s_put0, s_put, s_find, s_join, notInS_of, inS_of, eq_self]
  refine compL_of (fun x : Int => D.int x) 0 (fun ρ => ρ = [.val (.str a), .val (.str r), .un]) (fun i x => x = ixOf a (r.cps.toList.getD i 0)) (by unfold signs; rw [List.length_map, Str.len_toList]; omega) (fun i d hd ρ e => ?_) rfl fun l ρ g1 g2 e => ?_
  · subst e
    unfold signs at hd
    simp only [List.getElem?_map, Option.map_eq_some_iff] at hd
    obtain ⟨c, hc, rfl⟩ := hd
    simp only [sNil, sCons, sIf, sAsg, sOwn, sFor, sRet, sRetN, sRetO, sRetNew, sExpr, sApp, sSetIx, sPass, DL.sFld, sNever, s_lk, sLcO, sLcV, eVar, eFrz, eC, eNew, eAnd, eOr, eNot, eIf, eOp, eNeg, eIsN, eNotN, eFld, eFldO, eIxO, eLenO, eTup, eB, eTuple, eFind, eJoin, eIsi, eCall, eCallT, eChain, nLst, nList, nComp, nCall, nCallT, nMake, nRep, nCat, nCatO, oNone, oSome, nSlice, bVal, bAnd, bOr, bNot, bOp, bChain, bIsN, bNotN, bYes, aNil, aCons, qNil, qVal, iSq, iR1, iR2, iZp, iEn, sPopAt, gNm, gTp, gConsD, gNilD, onMade, gt, ownAll, mkSl, wb, endsD, mrg, startD, kAdd, kSub, kMul, kMod, kDiv, kPow, kShr, kLt, kLe, kGt, kGe, isNon, br_decide, br_t, br_f, Bool.not_true, Bool.not_false, List.map_cons, List.map_nil, List.length_cons, List.length_nil, List.replicate, List.cons_append, List.nil_append, List.set_cons_zero, List.set_cons_succ, List.set_nil, wipeD, back, noOwn, true_and, and_true, List.length_map, List.reduceReplicate, Nat.reduceSub, Nat.reduceAdd, Int.reduceNeg, reduceCtorEq, if_true, if_false, Bool.true_eq_false, Bool.false_eq_true, ite_true, ite_false, s_onVal, s_onOwn, s_onLst, s_onIns, s_onL, s_onBl, s_some, s_kI, s_addI, s_addS, s_neg, s_eqI, s_neI, s_eqS, s_neS, s_ixL, s_ixT, s_ixS, s_ixO, s_lenS, s_lenL, s_lenT, s_abs, s_intI, s_intB, s_max2, s_min2, s_itL, s_itT, s_itS, s_rng1, s_rng2, s_zipL, s_zipT, s_enL, s_seqL, s_seqT, s_minL, s_maxL, s_sum, s_isBl, s_fld, s_vNil, s_vCons, s_frzL, s_frzI, at0, at1, at2, at3, ix30, ix31, ix32, pT_cons, oT_cons, iT_cons, Option.map_some, s_none, s_put0, s_put, s_find, s_join, notInS_of, inS_of, eq_self]
    exact fun k hk => hk _ _ (by rw [getD_some hc]; rfl) rfl
  · subst e
    unfold signs at g1 g2
    rw [List.length_map] at g1 g2
    have : l.map D.int = r.cps.toList.map fun c => .int (ixOf a c) := by
      apply List.ext_getElem?
      intro i
      simp only [List.getElem?_map]
      rcases Nat.lt_or_ge i l.length with c | c
      · have := g2 i (by omega)
        rw [getD_get c, getD_get (by omega)] at this
        rw [List.getElem?_eq_getElem c, List.getElem?_eq_getElem (by omega), this]; rfl
      · rw [List.getElem?_eq_none (by omega), List.getElem?_eq_none (by omega)]; rfl
    rw [this]
    exact h

theorem p_paid (K : PySem.W.Frag) (kf : KF K) : ∀ sl Q E, T_paid K sl Q E → m_paid K (endsD [] sl Q E) (startD N_paid sl) := by
  refine pT_in ?_
  rintro ds Q E ⟨n, w, r, cs, rfl, hw, ha, hr, hc, h⟩
  have fa : FldOk K (He.ga K "Store") "asks" := ⟨kf.cl_Store, kf.na_Store_asks⟩
  have fb : FldOk K (He.ga K "Store") "begins" := ⟨kf.cl_Store, kf.na_Store_begins⟩
  have fc : FldOk K (He.ga K "Store") "costs" := ⟨kf.cl_Store, kf.na_Store_costs⟩
  have fe : FldOk K (He.ga K "Store") "ends" := ⟨kf.cl_Store, kf.na_Store_ends⟩
  have w0 : ∀ (w : Wd) {k : D → Prop}, kFld K "asks" (sD K w) k = (FldOk K (He.ga K "Store") "asks" ∧ k (.str w.a)) := fun w {k} => by simp (decide := true) only [sD, sL, sNil, sCons, sIf, sAsg, sOwn, sFor, sRet, sRetN, sRetO, sRetNew, sExpr, sApp, sSetIx, sPass, DL.sFld, sNever, s_lk, sLcO, sLcV, eVar, eFrz, eC, eNew, eAnd, eOr, eNot, eIf, eOp, eNeg, eIsN, eNotN, eFld, eFldO, eIxO, eLenO, eTup, eB, eTuple, eFind, eJoin, eIsi, eCall, eCallT, eChain, nLst, nList, nComp, nCall, nCallT, nMake, nRep, nCat, nCatO, oNone, oSome, nSlice, bVal, bAnd, bOr, bNot, bOp, bChain, bIsN, bNotN, bYes, aNil, aCons, qNil, qVal, iSq, iR1, iR2, iZp, iEn, sPopAt, gNm, gTp, gConsD, gNilD, onMade, gt, ownAll, mkSl, wb, endsD, mrg, startD, kAdd, kSub, kMul, kMod, kDiv, kPow, kShr, kLt, kLe, kGt, kGe, isNon, br_decide, br_t, br_f, Bool.not_true, Bool.not_false, List.map_cons, List.map_nil, List.length_cons, List.length_nil, List.replicate, List.cons_append, List.nil_append, List.set_cons_zero, List.set_cons_succ, List.set_nil, wipeD, back, noOwn, true_and, and_true, List.length_map, List.reduceReplicate, Nat.reduceSub, Nat.reduceAdd, Int.reduceNeg, reduceCtorEq, if_true, if_false, Bool.true_eq_false, Bool.false_eq_true, ite_true, ite_false, s_onVal, s_onOwn, s_onLst, s_onIns, s_onL, s_onBl, s_some, s_kI, s_addI, s_addS, s_neg, s_eqI, s_neI, s_eqS, s_neS, s_ixL, s_ixT, s_ixS, s_ixO, s_lenS, s_lenL, s_lenT, s_abs, s_intI, s_intB, s_max2, s_min2, s_itL, s_itT, s_itS, s_rng1, s_rng2, s_zipL, s_zipT, s_enL, s_seqL, s_seqT, s_minL, s_maxL, s_sum, s_isBl, s_fld, s_vNil, s_vCons, s_frzL, s_frzI, at0, at1, at2, at3, ix30, ix31, ix32, pT_cons, oT_cons, iT_cons, Option.map_some, s_none, s_put0, s_put, s_find, s_join, notInS_of, inS_of, eq_self]
  have w1 : ∀ (w : Wd) {k : D → Prop}, kFld K "begins" (sD K w) k = (FldOk K (He.ga K "Store") "begins" ∧ k (iU w.b)) := fun w {k} => by simp (decide := true) only [sD, sL, sNil, sCons, sIf, sAsg, sOwn, sFor, sRet, sRetN, sRetO, sRetNew, sExpr, sApp, sSetIx, sPass, DL.sFld, sNever, s_lk, sLcO, sLcV, eVar, eFrz, eC, eNew, eAnd, eOr, eNot, eIf, eOp, eNeg, eIsN, eNotN, eFld, eFldO, eIxO, eLenO, eTup, eB, eTuple, eFind, eJoin, eIsi, eCall, eCallT, eChain, nLst, nList, nComp, nCall, nCallT, nMake, nRep, nCat, nCatO, oNone, oSome, nSlice, bVal, bAnd, bOr, bNot, bOp, bChain, bIsN, bNotN, bYes, aNil, aCons, qNil, qVal, iSq, iR1, iR2, iZp, iEn, sPopAt, gNm, gTp, gConsD, gNilD, onMade, gt, ownAll, mkSl, wb, endsD, mrg, startD, kAdd, kSub, kMul, kMod, kDiv, kPow, kShr, kLt, kLe, kGt, kGe, isNon, br_decide, br_t, br_f, Bool.not_true, Bool.not_false, List.map_cons, List.map_nil, List.length_cons, List.length_nil, List.replicate, List.cons_append, List.nil_append, List.set_cons_zero, List.set_cons_succ, List.set_nil, wipeD, back, noOwn, true_and, and_true, List.length_map, List.reduceReplicate, Nat.reduceSub, Nat.reduceAdd, Int.reduceNeg, reduceCtorEq, if_true, if_false, Bool.true_eq_false, Bool.false_eq_true, ite_true, ite_false, s_onVal, s_onOwn, s_onLst, s_onIns, s_onL, s_onBl, s_some, s_kI, s_addI, s_addS, s_neg, s_eqI, s_neI, s_eqS, s_neS, s_ixL, s_ixT, s_ixS, s_ixO, s_lenS, s_lenL, s_lenT, s_abs, s_intI, s_intB, s_max2, s_min2, s_itL, s_itT, s_itS, s_rng1, s_rng2, s_zipL, s_zipT, s_enL, s_seqL, s_seqT, s_minL, s_maxL, s_sum, s_isBl, s_fld, s_vNil, s_vCons, s_frzL, s_frzI, at0, at1, at2, at3, ix30, ix31, ix32, pT_cons, oT_cons, iT_cons, Option.map_some, s_none, s_put0, s_put, s_find, s_join, notInS_of, inS_of, eq_self]
  have w2 : ∀ (w : Wd) {k : D → Prop}, kFld K "costs" (sD K w) k = (FldOk K (He.ga K "Store") "costs" ∧ k (.tup (w.c.map tT))) := fun w {k} => by simp (decide := true) only [sD, sL, sNil, sCons, sIf, sAsg, sOwn, sFor, sRet, sRetN, sRetO, sRetNew, sExpr, sApp, sSetIx, sPass, DL.sFld, sNever, s_lk, sLcO, sLcV, eVar, eFrz, eC, eNew, eAnd, eOr, eNot, eIf, eOp, eNeg, eIsN, eNotN, eFld, eFldO, eIxO, eLenO, eTup, eB, eTuple, eFind, eJoin, eIsi, eCall, eCallT, eChain, nLst, nList, nComp, nCall, nCallT, nMake, nRep, nCat, nCatO, oNone, oSome, nSlice, bVal, bAnd, bOr, bNot, bOp, bChain, bIsN, bNotN, bYes, aNil, aCons, qNil, qVal, iSq, iR1, iR2, iZp, iEn, sPopAt, gNm, gTp, gConsD, gNilD, onMade, gt, ownAll, mkSl, wb, endsD, mrg, startD, kAdd, kSub, kMul, kMod, kDiv, kPow, kShr, kLt, kLe, kGt, kGe, isNon, br_decide, br_t, br_f, Bool.not_true, Bool.not_false, List.map_cons, List.map_nil, List.length_cons, List.length_nil, List.replicate, List.cons_append, List.nil_append, List.set_cons_zero, List.set_cons_succ, List.set_nil, wipeD, back, noOwn, true_and, and_true, List.length_map, List.reduceReplicate, Nat.reduceSub, Nat.reduceAdd, Int.reduceNeg, reduceCtorEq, if_true, if_false, Bool.true_eq_false, Bool.false_eq_true, ite_true, ite_false, s_onVal, s_onOwn, s_onLst, s_onIns, s_onL, s_onBl, s_some, s_kI, s_addI, s_addS, s_neg, s_eqI, s_neI, s_eqS, s_neS, s_ixL, s_ixT, s_ixS, s_ixO, s_lenS, s_lenL, s_lenT, s_abs, s_intI, s_intB, s_max2, s_min2, s_itL, s_itT, s_itS, s_rng1, s_rng2, s_zipL, s_zipT, s_enL, s_seqL, s_seqT, s_minL, s_maxL, s_sum, s_isBl, s_fld, s_vNil, s_vCons, s_frzL, s_frzI, at0, at1, at2, at3, ix30, ix31, ix32, pT_cons, oT_cons, iT_cons, Option.map_some, s_none, s_put0, s_put, s_find, s_join, notInS_of, inS_of, eq_self]
  have w3 : ∀ (w : Wd) {k : D → Prop}, kFld K "ends" (sD K w) k = (FldOk K (He.ga K "Store") "ends" ∧ k (iU w.e)) := fun w {k} => by simp (decide := true) only [sD, sL, sNil, sCons, sIf, sAsg, sOwn, sFor, sRet, sRetN, sRetO, sRetNew, sExpr, sApp, sSetIx, sPass, DL.sFld, sNever, s_lk, sLcO, sLcV, eVar, eFrz, eC, eNew, eAnd, eOr, eNot, eIf, eOp, eNeg, eIsN, eNotN, eFld, eFldO, eIxO, eLenO, eTup, eB, eTuple, eFind, eJoin, eIsi, eCall, eCallT, eChain, nLst, nList, nComp, nCall, nCallT, nMake, nRep, nCat, nCatO, oNone, oSome, nSlice, bVal, bAnd, bOr, bNot, bOp, bChain, bIsN, bNotN, bYes, aNil, aCons, qNil, qVal, iSq, iR1, iR2, iZp, iEn, sPopAt, gNm, gTp, gConsD, gNilD, onMade, gt, ownAll, mkSl, wb, endsD, mrg, startD, kAdd, kSub, kMul, kMod, kDiv, kPow, kShr, kLt, kLe, kGt, kGe, isNon, br_decide, br_t, br_f, Bool.not_true, Bool.not_false, List.map_cons, List.map_nil, List.length_cons, List.length_nil, List.replicate, List.cons_append, List.nil_append, List.set_cons_zero, List.set_cons_succ, List.set_nil, wipeD, back, noOwn, true_and, and_true, List.length_map, List.reduceReplicate, Nat.reduceSub, Nat.reduceAdd, Int.reduceNeg, reduceCtorEq, if_true, if_false, Bool.true_eq_false, Bool.false_eq_true, ite_true, ite_false, s_onVal, s_onOwn, s_onLst, s_onIns, s_onL, s_onBl, s_some, s_kI, s_addI, s_addS, s_neg, s_eqI, s_neI, s_eqS, s_neS, s_ixL, s_ixT, s_ixS, s_ixO, s_lenS, s_lenL, s_lenT, s_abs, s_intI, s_intB, s_max2, s_min2, s_itL, s_itT, s_itS, s_rng1, s_rng2, s_zipL, s_zipT, s_enL, s_seqL, s_seqT, s_minL, s_maxL, s_sum, s_isBl, s_fld, s_vNil, s_vCons, s_frzL, s_frzI, at0, at1, at2, at3, ix30, ix31, ix32, pT_cons, oT_cons, iT_cons, Option.map_some, s_none, s_put0, s_put, s_find, s_join, notInS_of, inS_of, eq_self]
  have l := hc.len
  have hr2 := hr.2
  have c0 := hc.lt _ (DL.getD_mem (l := cs) (i := 0) (x := 0) (by omega))
  have c1 := hc.lt _ (DL.getD_mem (l := cs) (i := r.length) (x := 0) (by omega))
  have z0 : L2.atI (cs.map fun n : Nat => D.int n) 0 = some (.int (cs.getD 0 0 : Nat)) := at_nL (k := 0) (by omega) (by omega)
  unfold m_paid
  simp only [T_check_row, T_is_course, w0, fa, sNil, sCons, sIf, sAsg, sOwn, sFor, sRet, sRetN, sRetO, sRetNew, sExpr, sApp, sSetIx, sPass, DL.sFld, sNever, s_lk, sLcO, sLcV, eVar, eFrz, eC, eNew, eAnd, eOr, eNot, eIf, eOp, eNeg, eIsN, eNotN, eFld, eFldO, eIxO, eLenO, eTup, eB, eTuple, eFind, eJoin, eIsi, eCall, eCallT, eChain, nLst, nList, nComp, nCall, nCallT, nMake, nRep, nCat, nCatO, oNone, oSome, nSlice, bVal, bAnd, bOr, bNot, bOp, bChain, bIsN, bNotN, bYes, aNil, aCons, qNil, qVal, iSq, iR1, iR2, iZp, iEn, sPopAt, gNm, gTp, gConsD, gNilD, onMade, gt, ownAll, mkSl, wb, endsD, mrg, startD, kAdd, kSub, kMul, kMod, kDiv, kPow, kShr, kLt, kLe, kGt, kGe, isNon, br_decide, br_t, br_f, Bool.not_true, Bool.not_false, List.map_cons, List.map_nil, List.length_cons, List.length_nil, List.replicate, List.cons_append, List.nil_append, List.set_cons_zero, List.set_cons_succ, List.set_nil, wipeD, back, noOwn, true_and, and_true, List.length_map, List.reduceReplicate, Nat.reduceSub, Nat.reduceAdd, Int.reduceNeg, reduceCtorEq, if_true, if_false, Bool.true_eq_false, Bool.false_eq_true, ite_true, ite_false, s_onVal, s_onOwn, s_onLst, s_onIns, s_onL, s_onBl, s_some, s_kI, s_addI, s_addS, s_neg, s_eqI, s_neI, s_eqS, s_neS, s_ixL, s_ixT, s_ixS, s_ixO, s_lenS, s_lenL, s_lenT, s_abs, s_intI, s_intB, s_max2, s_min2, s_itL, s_itT, s_itS, s_rng1, s_rng2, s_zipL, s_zipT, s_enL, s_seqL, s_seqT, s_minL, s_maxL, s_sum, s_isBl, s_fld, s_vNil, s_vCons, s_frzL, s_frzI, at0, at1, at2, at3, ix30, ix31, ix32, pT_cons, oT_cons, iT_cons, Option.map_some, s_none, s_put0, s_put, s_find, s_join, notInS_of, inS_of, eq_self]
  refine ⟨w.a, r, rfl, hr, small (m := 2000) hr2, n, w, r, cs, rfl, hw, hc, ?_⟩
  simp only [w0, w1, w3, fa, fb, fe, nL, iU, z0, crs_last hc, at_nat (l := w.b) (i := cs.getD 0 0) (by rw [hw.b]; exact c0), at_nat (l := w.e) (i := cs.getD r.length 0) (by rw [hw.e]; exact c1), T_numbers_of, sNil, sCons, sIf, sAsg, sOwn, sFor, sRet, sRetN, sRetO, sRetNew, sExpr, sApp, sSetIx, sPass, DL.sFld, sNever, s_lk, sLcO, sLcV, eVar, eFrz, eC, eNew, eAnd, eOr, eNot, eIf, eOp, eNeg, eIsN, eNotN, eFld, eFldO, eIxO, eLenO, eTup, eB, eTuple, eFind, eJoin, eIsi, eCall, eCallT, eChain, nLst, nList, nComp, nCall, nCallT, nMake, nRep, nCat, nCatO, oNone, oSome, nSlice, bVal, bAnd, bOr, bNot, bOp, bChain, bIsN, bNotN, bYes, aNil, aCons, qNil, qVal, iSq, iR1, iR2, iZp, iEn, sPopAt, gNm, gTp, gConsD, gNilD, onMade, gt, ownAll, mkSl, wb, endsD, mrg, startD, kAdd, kSub, kMul, kMod, kDiv, kPow, kShr, kLt, kLe, kGt, kGe, isNon, br_decide, br_t, br_f, Bool.not_true, Bool.not_false, List.map_cons, List.map_nil, List.length_cons, List.length_nil, List.replicate, List.cons_append, List.nil_append, List.set_cons_zero, List.set_cons_succ, List.set_nil, wipeD, back, noOwn, true_and, and_true, List.length_map, List.reduceReplicate, Nat.reduceSub, Nat.reduceAdd, Int.reduceNeg, reduceCtorEq, if_true, if_false, Bool.true_eq_false, Bool.false_eq_true, ite_true, ite_false, s_onVal, s_onOwn, s_onLst, s_onIns, s_onL, s_onBl, s_some, s_kI, s_addI, s_addS, s_neg, s_eqI, s_neI, s_eqS, s_neS, s_ixL, s_ixT, s_ixS, s_ixO, s_lenS, s_lenL, s_lenT, s_abs, s_intI, s_intB, s_max2, s_min2, s_itL, s_itT, s_itS, s_rng1, s_rng2, s_zipL, s_zipT, s_enL, s_seqL, s_seqT, s_minL, s_maxL, s_sum, s_isBl, s_fld, s_vNil, s_vCons, s_frzL, s_frzI, at0, at1, at2, at3, ix30, ix31, ix32, pT_cons, oT_cons, iT_cons, Option.map_some, s_none, s_put0, s_put, s_find, s_join, notInS_of, inS_of, eq_self]
  refine ⟨w.a, r, rfl, hr2, ?_⟩
  refine forL_n (fun k ρ => ∃ x y, ρ = [.val (sD K w), .val (.str r), .val (nL cs), .val (.int (acc (payAt w r cs) (w.b.getD (cs.getD 0 0) 0 + w.e.getD (cs.getD r.length 0) 0) k)), x, y]) (fun k d hd ρ ⟨x, y, e⟩ nx hn => ?_) (fun ρ ⟨x, y, e⟩ => ?_) ⟨_, _, rfl⟩
  · subst e
    obtain ⟨d', hd', rfl⟩ := enumD_get hd
    rw [Nat.zero_add]
    simp only [List.getElem?_map, Option.map_eq_some_iff] at hd'
    obtain ⟨c', hc', rfl⟩ := hd'
    have hk : k < r.length := by have := lt_some hc'; rw [Str.len_toList] at this; exact this
    obtain ⟨c, e1, i0, i1, s1, s2, ep, sq⟩ := payAt_ok hw ha hr hc hk
    have ec : c' = c := by rw [e1] at hc'; exact (Option.some.inj hc').symm
    rw [ec]
    unfold m_paid_1
    have z1 : L2.atI (cs.map fun n : Nat => D.int n) (k : Int) = some (.int (cs.getD k 0 : Nat)) := by rw [at_nL (k := (k : Int)) (by omega) (by omega), Int.toNat_natCast]
    have z2 : L2.atI (cs.map fun n : Nat => D.int n) ((k : Int) + 1) = some (.int (cs.getD (k + 1) 0 : Nat)) := by rw [at_nL (k := (k : Int) + 1) (by omega) (by omega)]; rfl
    simp only [w2, fc, nL, tT, iU, at_tabU i0 i1, z1, z2, at_lineU (t := w.c.getD (ixOf w.a c).toNat []) (k := ((cs.getD k 0 : Nat) : Int)) (by omega) (by rw [sq.1]; omega), Int.toNat_natCast, at_nat (l := (w.c.getD (ixOf w.a c).toNat []).getD (cs.getD k 0) []) (i := cs.getD (k + 1) 0) (by rw [sq.line s1]; exact s2), sNil, sCons, sIf, sAsg, sOwn, sFor, sRet, sRetN, sRetO, sRetNew, sExpr, sApp, sSetIx, sPass, DL.sFld, sNever, s_lk, sLcO, sLcV, eVar, eFrz, eC, eNew, eAnd, eOr, eNot, eIf, eOp, eNeg, eIsN, eNotN, eFld, eFldO, eIxO, eLenO, eTup, eB, eTuple, eFind, eJoin, eIsi, eCall, eCallT, eChain, nLst, nList, nComp, nCall, nCallT, nMake, nRep, nCat, nCatO, oNone, oSome, nSlice, bVal, bAnd, bOr, bNot, bOp, bChain, bIsN, bNotN, bYes, aNil, aCons, qNil, qVal, iSq, iR1, iR2, iZp, iEn, sPopAt, gNm, gTp, gConsD, gNilD, onMade, gt, ownAll, mkSl, wb, endsD, mrg, startD, kAdd, kSub, kMul, kMod, kDiv, kPow, kShr, kLt, kLe, kGt, kGe, isNon, br_decide, br_t, br_f, Bool.not_true, Bool.not_false, List.map_cons, List.map_nil, List.length_cons, List.length_nil, List.replicate, List.cons_append, List.nil_append, List.set_cons_zero, List.set_cons_succ, List.set_nil, wipeD, back, noOwn, true_and, and_true, List.length_map, List.reduceReplicate, Nat.reduceSub, Nat.reduceAdd, Int.reduceNeg, reduceCtorEq, if_true, if_false, Bool.true_eq_false, Bool.false_eq_true, ite_true, ite_false, s_onVal, s_onOwn, s_onLst, s_onIns, s_onL, s_onBl, s_some, s_kI, s_addI, s_addS, s_neg, s_eqI, s_neI, s_eqS, s_neS, s_ixL, s_ixT, s_ixS, s_ixO, s_lenS, s_lenL, s_lenT, s_abs, s_intI, s_intB, s_max2, s_min2, s_itL, s_itT, s_itS, s_rng1, s_rng2, s_zipL, s_zipT, s_enL, s_seqL, s_seqT, s_minL, s_maxL, s_sum, s_isBl, s_fld, s_vNil, s_vCons, s_frzL, s_frzI, at0, at1, at2, at3, ix30, ix31, ix32, pT_cons, oT_cons, iT_cons, Option.map_some, s_none, s_put0, s_put, s_find, s_join, notInS_of, inS_of, eq_self]
    refine hn _ ⟨.val (.int k), .val (.int (ixOf w.a c)), ?_⟩
    rw [← ep]; rfl
  · subst e
    rw [enumD_length, List.length_map, Str.len_toList]
    exact h


theorem p_law (K : PySem.W.Frag) (kf : KF K) : ∀ sl Q E, T_law K sl Q E → m_law K (endsD [] sl Q E) (startD N_law sl) := by
  refine pT_in ?_
  rintro ds Q E ⟨ns, rfl, hok, h⟩
  unfold m_law
  simp only [T__law_source, T__law_asks, T__law_small, T__law_moved, T__law_draw, sNil, sCons, sIf, sAsg, sOwn, sFor, sRet, sRetN, sRetO, sRetNew, sExpr, sApp, sSetIx, sPass, DL.sFld, sNever, s_lk, sLcO, sLcV, eVar, eFrz, eC, eNew, eAnd, eOr, eNot, eIf, eOp, eNeg, eIsN, eNotN, eFld, eFldO, eIxO, eLenO, eTup, eB, eTuple, eFind, eJoin, eIsi, eCall, eCallT, eChain, nLst, nList, nComp, nCall, nCallT, nMake, nRep, nCat, nCatO, oNone, oSome, nSlice, bVal, bAnd, bOr, bNot, bOp, bChain, bIsN, bNotN, bYes, aNil, aCons, qNil, qVal, iSq, iR1, iR2, iZp, iEn, sPopAt, gNm, gTp, gConsD, gNilD, onMade, gt, ownAll, mkSl, wb, endsD, mrg, startD, kAdd, kSub, kMul, kMod, kDiv, kPow, kShr, kLt, kLe, kGt, kGe, isNon, br_decide, br_t, br_f, Bool.not_true, Bool.not_false, List.map_cons, List.map_nil, List.length_cons, List.length_nil, List.replicate, List.cons_append, List.nil_append, List.set_cons_zero, List.set_cons_succ, List.set_nil, wipeD, back, noOwn, true_and, and_true, List.length_map, List.reduceReplicate, Nat.reduceSub, Nat.reduceAdd, Int.reduceNeg, reduceCtorEq, if_true, if_false, Bool.true_eq_false, Bool.false_eq_true, ite_true, ite_false, s_onVal, s_onOwn, s_onLst, s_onIns, s_onL, s_onBl, s_some, s_kI, s_addI, s_addS, s_neg, s_eqI, s_neI, s_eqS, s_neS, s_ixL, s_ixT, s_ixS, s_ixO, s_lenS, s_lenL, s_lenT, s_abs, s_intI, s_intB, s_max2, s_min2, s_itL, s_itT, s_itS, s_rng1, s_rng2, s_zipL, s_zipT, s_enL, s_seqL, s_seqT, s_minL, s_maxL, s_sum, s_isBl, s_fld, s_vNil, s_vCons, s_frzL, s_frzI, at0, at1, at2, at3, ix30, ix31, ix32, pT_cons, oT_cons, iT_cons, Option.map_some, s_none, s_put0, s_put, s_find, s_join, notInS_of, inS_of, eq_self]
  refine ⟨ns, 0, rfl, hok, by omega, by omega, fun s0 hs0 => ⟨hs0, fun a s1 hs1 hA => ?_⟩⟩
  have la := hA.len
  refine ⟨ns, 1, rfl, hok, by omega, by omega, fun q1 hq1 => ⟨ns, 2, rfl, hok, by omega, by omega, fun q2 hq2 => ⟨a, 4, rfl, by omega, by omega, hq2, fun n o' q3 hq3 hn ho' ea' => ⟨n, o', rfl, ho', by omega, by rw [ea']; omega, hq1, fun o q4 hq4 ho ea => ⟨by omega, hs1, fun mm s2 hs2 hm => ?_⟩⟩⟩⟩⟩
  have oa : o.a = a := ea.trans ea'
  have o1 : ∀ {k : D → Prop}, kIx (wD o) (.int 1) k = k (iL o.b) := fun {k} => by simp only [wD, wL, sNil, sCons, sIf, sAsg, sOwn, sFor, sRet, sRetN, sRetO, sRetNew, sExpr, sApp, sSetIx, sPass, DL.sFld, sNever, s_lk, sLcO, sLcV, eVar, eFrz, eC, eNew, eAnd, eOr, eNot, eIf, eOp, eNeg, eIsN, eNotN, eFld, eFldO, eIxO, eLenO, eTup, eB, eTuple, eFind, eJoin, eIsi, eCall, eCallT, eChain, nLst, nList, nComp, nCall, nCallT, nMake, nRep, nCat, nCatO, oNone, oSome, nSlice, bVal, bAnd, bOr, bNot, bOp, bChain, bIsN, bNotN, bYes, aNil, aCons, qNil, qVal, iSq, iR1, iR2, iZp, iEn, sPopAt, gNm, gTp, gConsD, gNilD, onMade, gt, ownAll, mkSl, wb, endsD, mrg, startD, kAdd, kSub, kMul, kMod, kDiv, kPow, kShr, kLt, kLe, kGt, kGe, isNon, br_decide, br_t, br_f, Bool.not_true, Bool.not_false, List.map_cons, List.map_nil, List.length_cons, List.length_nil, List.replicate, List.cons_append, List.nil_append, List.set_cons_zero, List.set_cons_succ, List.set_nil, wipeD, back, noOwn, true_and, and_true, List.length_map, List.reduceReplicate, Nat.reduceSub, Nat.reduceAdd, Int.reduceNeg, reduceCtorEq, if_true, if_false, Bool.true_eq_false, Bool.false_eq_true, ite_true, ite_false, s_onVal, s_onOwn, s_onLst, s_onIns, s_onL, s_onBl, s_some, s_kI, s_addI, s_addS, s_neg, s_eqI, s_neI, s_eqS, s_neS, s_ixL, s_ixT, s_ixS, s_ixO, s_lenS, s_lenL, s_lenT, s_abs, s_intI, s_intB, s_max2, s_min2, s_itL, s_itT, s_itS, s_rng1, s_rng2, s_zipL, s_zipT, s_enL, s_seqL, s_seqT, s_minL, s_maxL, s_sum, s_isBl, s_fld, s_vNil, s_vCons, s_frzL, s_frzI, at0, at1, at2, at3, ix30, ix31, ix32, pT_cons, oT_cons, iT_cons, Option.map_some, s_none, s_put0, s_put, s_find, s_join, notInS_of, inS_of, eq_self]
  have lo : ∀ {k : D → Prop}, kLen [iL o.b] k = k (.int n) := fun {k} => by simp only [iL, ho.b, sNil, sCons, sIf, sAsg, sOwn, sFor, sRet, sRetN, sRetO, sRetNew, sExpr, sApp, sSetIx, sPass, DL.sFld, sNever, s_lk, sLcO, sLcV, eVar, eFrz, eC, eNew, eAnd, eOr, eNot, eIf, eOp, eNeg, eIsN, eNotN, eFld, eFldO, eIxO, eLenO, eTup, eB, eTuple, eFind, eJoin, eIsi, eCall, eCallT, eChain, nLst, nList, nComp, nCall, nCallT, nMake, nRep, nCat, nCatO, oNone, oSome, nSlice, bVal, bAnd, bOr, bNot, bOp, bChain, bIsN, bNotN, bYes, aNil, aCons, qNil, qVal, iSq, iR1, iR2, iZp, iEn, sPopAt, gNm, gTp, gConsD, gNilD, onMade, gt, ownAll, mkSl, wb, endsD, mrg, startD, kAdd, kSub, kMul, kMod, kDiv, kPow, kShr, kLt, kLe, kGt, kGe, isNon, br_decide, br_t, br_f, Bool.not_true, Bool.not_false, List.map_cons, List.map_nil, List.length_cons, List.length_nil, List.replicate, List.cons_append, List.nil_append, List.set_cons_zero, List.set_cons_succ, List.set_nil, wipeD, back, noOwn, true_and, and_true, List.length_map, List.reduceReplicate, Nat.reduceSub, Nat.reduceAdd, Int.reduceNeg, reduceCtorEq, if_true, if_false, Bool.true_eq_false, Bool.false_eq_true, ite_true, ite_false, s_onVal, s_onOwn, s_onLst, s_onIns, s_onL, s_onBl, s_some, s_kI, s_addI, s_addS, s_neg, s_eqI, s_neI, s_eqS, s_neS, s_ixL, s_ixT, s_ixS, s_ixO, s_lenS, s_lenL, s_lenT, s_abs, s_intI, s_intB, s_max2, s_min2, s_itL, s_itT, s_itS, s_rng1, s_rng2, s_zipL, s_zipT, s_enL, s_seqL, s_seqT, s_minL, s_maxL, s_sum, s_isBl, s_fld, s_vNil, s_vCons, s_frzL, s_frzI, at0, at1, at2, at3, ix30, ix31, ix32, pT_cons, oT_cons, iT_cons, Option.map_some, s_none, s_put0, s_put, s_find, s_join, notInS_of, inS_of, eq_self]
  obtain ⟨m', rfl⟩ := Int.eq_ofNat_of_zero_le hm.1
  obtain ⟨m, em⟩ : ∃ m : Nat, (1 : Int) + (m' : Int) = (m : Int) := ⟨1 + m', by omega⟩
  simp only [em]
  have hm1 : 1 ≤ m ∧ m ≤ 3 := by omega
  refine ⟨by omega, ?_⟩
  have n0 := hn.1
  refine compL_of (fun x : Nat => D.int x) 0 (fun ρ => ∃ s, Src s ∧ ρ = [.val (iL ns), .own (.lst s), .val (.str a), .val (wD o), .val (.int m), .un, .un, .un, .un, .un, .un, .un, .un, .un, .un, .un, .un, .un, .un, .un, .un, .un, .un]) (fun _ x => x < n) (by rw [rng_length]; omega) (fun i d hd ρ ⟨s, hs, e⟩ => ?_) ⟨_, hs2, rfl⟩ fun nm ρ l1 l2 ⟨s, hs, e⟩ => ?_
  · subst e
    simp only [o1, lo, sNil, sCons, sIf, sAsg, sOwn, sFor, sRet, sRetN, sRetO, sRetNew, sExpr, sApp, sSetIx, sPass, DL.sFld, sNever, s_lk, sLcO, sLcV, eVar, eFrz, eC, eNew, eAnd, eOr, eNot, eIf, eOp, eNeg, eIsN, eNotN, eFld, eFldO, eIxO, eLenO, eTup, eB, eTuple, eFind, eJoin, eIsi, eCall, eCallT, eChain, nLst, nList, nComp, nCall, nCallT, nMake, nRep, nCat, nCatO, oNone, oSome, nSlice, bVal, bAnd, bOr, bNot, bOp, bChain, bIsN, bNotN, bYes, aNil, aCons, qNil, qVal, iSq, iR1, iR2, iZp, iEn, sPopAt, gNm, gTp, gConsD, gNilD, onMade, gt, ownAll, mkSl, wb, endsD, mrg, startD, kAdd, kSub, kMul, kMod, kDiv, kPow, kShr, kLt, kLe, kGt, kGe, isNon, br_decide, br_t, br_f, Bool.not_true, Bool.not_false, List.map_cons, List.map_nil, List.length_cons, List.length_nil, List.replicate, List.cons_append, List.nil_append, List.set_cons_zero, List.set_cons_succ, List.set_nil, wipeD, back, noOwn, true_and, and_true, List.length_map, List.reduceReplicate, Nat.reduceSub, Nat.reduceAdd, Int.reduceNeg, reduceCtorEq, if_true, if_false, Bool.true_eq_false, Bool.false_eq_true, ite_true, ite_false, s_onVal, s_onOwn, s_onLst, s_onIns, s_onL, s_onBl, s_some, s_kI, s_addI, s_addS, s_neg, s_eqI, s_neI, s_eqS, s_neS, s_ixL, s_ixT, s_ixS, s_ixO, s_lenS, s_lenL, s_lenT, s_abs, s_intI, s_intB, s_max2, s_min2, s_itL, s_itT, s_itS, s_rng1, s_rng2, s_zipL, s_zipT, s_enL, s_seqL, s_seqT, s_minL, s_maxL, s_sum, s_isBl, s_fld, s_vNil, s_vCons, s_frzL, s_frzI, at0, at1, at2, at3, ix30, ix31, ix32, pT_cons, oT_cons, iT_cons, Option.map_some, s_none, s_put0, s_put, s_find, s_join, notInS_of, inS_of, eq_self]
    refine fun k hk => ⟨by omega, hs, fun r s' hs' ⟨r0, r1⟩ => ?_⟩
    obtain ⟨x, rfl⟩ := Int.eq_ofNat_of_zero_le r0
    exact hk x _ (by omega) ⟨s', hs', rfl⟩
  subst e
  rw [rng_length, Int.toNat_natCast] at l1 l2
  simp only [sNil, sCons, sIf, sAsg, sOwn, sFor, sRet, sRetN, sRetO, sRetNew, sExpr, sApp, sSetIx, sPass, DL.sFld, sNever, s_lk, sLcO, sLcV, eVar, eFrz, eC, eNew, eAnd, eOr, eNot, eIf, eOp, eNeg, eIsN, eNotN, eFld, eFldO, eIxO, eLenO, eTup, eB, eTuple, eFind, eJoin, eIsi, eCall, eCallT, eChain, nLst, nList, nComp, nCall, nCallT, nMake, nRep, nCat, nCatO, oNone, oSome, nSlice, bVal, bAnd, bOr, bNot, bOp, bChain, bIsN, bNotN, bYes, aNil, aCons, qNil, qVal, iSq, iR1, iR2, iZp, iEn, sPopAt, gNm, gTp, gConsD, gNilD, onMade, gt, ownAll, mkSl, wb, endsD, mrg, startD, kAdd, kSub, kMul, kMod, kDiv, kPow, kShr, kLt, kLe, kGt, kGe, isNon, br_decide, br_t, br_f, Bool.not_true, Bool.not_false, List.map_cons, List.map_nil, List.length_cons, List.length_nil, List.replicate, List.cons_append, List.nil_append, List.set_cons_zero, List.set_cons_succ, List.set_nil, wipeD, back, noOwn, true_and, and_true, List.length_map, List.reduceReplicate, Nat.reduceSub, Nat.reduceAdd, Int.reduceNeg, reduceCtorEq, if_true, if_false, Bool.true_eq_false, Bool.false_eq_true, ite_true, ite_false, s_onVal, s_onOwn, s_onLst, s_onIns, s_onL, s_onBl, s_some, s_kI, s_addI, s_addS, s_neg, s_eqI, s_neI, s_eqS, s_neS, s_ixL, s_ixT, s_ixS, s_ixO, s_lenS, s_lenL, s_lenT, s_abs, s_intI, s_intB, s_max2, s_min2, s_itL, s_itT, s_itS, s_rng1, s_rng2, s_zipL, s_zipT, s_enL, s_seqL, s_seqT, s_minL, s_maxL, s_sum, s_isBl, s_fld, s_vNil, s_vCons, s_frzL, s_frzI, at0, at1, at2, at3, ix30, ix31, ix32, pT_cons, oT_cons, iT_cons, Option.map_some, s_none, s_put0, s_put, s_find, s_join, notInS_of, inS_of, eq_self]
  refine ⟨by omega, ?_⟩
  refine compL_of D.int 0 (fun ρ => ∃ s, Src s ∧ ρ = [.val (iL ns), .own (.lst s), .val (.str a), .val (wD o), .val (.int m), .val (nL nm), .un, .un, .un, .un, .un, .un, .un, .un, .un, .un, .un, .un, .un, .un, .un, .un, .un]) (fun _ _ => True) (by rw [rng_length]; omega) (fun i d hd ρ ⟨s, hs, e⟩ => ?_) ⟨_, hs, rfl⟩ fun sh ρ l1' _ ⟨s, hs, e⟩ => ?_
  · subst e
    simp only [sNil, sCons, sIf, sAsg, sOwn, sFor, sRet, sRetN, sRetO, sRetNew, sExpr, sApp, sSetIx, sPass, DL.sFld, sNever, s_lk, sLcO, sLcV, eVar, eFrz, eC, eNew, eAnd, eOr, eNot, eIf, eOp, eNeg, eIsN, eNotN, eFld, eFldO, eIxO, eLenO, eTup, eB, eTuple, eFind, eJoin, eIsi, eCall, eCallT, eChain, nLst, nList, nComp, nCall, nCallT, nMake, nRep, nCat, nCatO, oNone, oSome, nSlice, bVal, bAnd, bOr, bNot, bOp, bChain, bIsN, bNotN, bYes, aNil, aCons, qNil, qVal, iSq, iR1, iR2, iZp, iEn, sPopAt, gNm, gTp, gConsD, gNilD, onMade, gt, ownAll, mkSl, wb, endsD, mrg, startD, kAdd, kSub, kMul, kMod, kDiv, kPow, kShr, kLt, kLe, kGt, kGe, isNon, br_decide, br_t, br_f, Bool.not_true, Bool.not_false, List.map_cons, List.map_nil, List.length_cons, List.length_nil, List.replicate, List.cons_append, List.nil_append, List.set_cons_zero, List.set_cons_succ, List.set_nil, wipeD, back, noOwn, true_and, and_true, List.length_map, List.reduceReplicate, Nat.reduceSub, Nat.reduceAdd, Int.reduceNeg, reduceCtorEq, if_true, if_false, Bool.true_eq_false, Bool.false_eq_true, ite_true, ite_false, s_onVal, s_onOwn, s_onLst, s_onIns, s_onL, s_onBl, s_some, s_kI, s_addI, s_addS, s_neg, s_eqI, s_neI, s_eqS, s_neS, s_ixL, s_ixT, s_ixS, s_ixO, s_lenS, s_lenL, s_lenT, s_abs, s_intI, s_intB, s_max2, s_min2, s_itL, s_itT, s_itS, s_rng1, s_rng2, s_zipL, s_zipT, s_enL, s_seqL, s_seqT, s_minL, s_maxL, s_sum, s_isBl, s_fld, s_vNil, s_vCons, s_frzL, s_frzI, at0, at1, at2, at3, ix30, ix31, ix32, pT_cons, oT_cons, iT_cons, Option.map_some, s_none, s_put0, s_put, s_find, s_join, notInS_of, inS_of, eq_self]
    exact fun k hk => ⟨by omega, hs, fun r s' hs' _ => hk _ _ trivial ⟨s', hs', rfl⟩⟩
  subst e
  rw [rng_length, Int.toNat_natCast] at l1'
  have nlt : ∀ x ∈ nm, x < n := fun x hx => by
    obtain ⟨i, hi⟩ := List.mem_iff_getElem?.mp hx
    have := l2 i (by have := lt_some hi; omega)
    rwa [getD_some hi] at this
  simp only [T__law_above_image, sNil, sCons, sIf, sAsg, sOwn, sFor, sRet, sRetN, sRetO, sRetNew, sExpr, sApp, sSetIx, sPass, DL.sFld, sNever, s_lk, sLcO, sLcV, eVar, eFrz, eC, eNew, eAnd, eOr, eNot, eIf, eOp, eNeg, eIsN, eNotN, eFld, eFldO, eIxO, eLenO, eTup, eB, eTuple, eFind, eJoin, eIsi, eCall, eCallT, eChain, nLst, nList, nComp, nCall, nCallT, nMake, nRep, nCat, nCatO, oNone, oSome, nSlice, bVal, bAnd, bOr, bNot, bOp, bChain, bIsN, bNotN, bYes, aNil, aCons, qNil, qVal, iSq, iR1, iR2, iZp, iEn, sPopAt, gNm, gTp, gConsD, gNilD, onMade, gt, ownAll, mkSl, wb, endsD, mrg, startD, kAdd, kSub, kMul, kMod, kDiv, kPow, kShr, kLt, kLe, kGt, kGe, isNon, br_decide, br_t, br_f, Bool.not_true, Bool.not_false, List.map_cons, List.map_nil, List.length_cons, List.length_nil, List.replicate, List.cons_append, List.nil_append, List.set_cons_zero, List.set_cons_succ, List.set_nil, wipeD, back, noOwn, true_and, and_true, List.length_map, List.reduceReplicate, Nat.reduceSub, Nat.reduceAdd, Int.reduceNeg, reduceCtorEq, if_true, if_false, Bool.true_eq_false, Bool.false_eq_true, ite_true, ite_false, s_onVal, s_onOwn, s_onLst, s_onIns, s_onL, s_onBl, s_some, s_kI, s_addI, s_addS, s_neg, s_eqI, s_neI, s_eqS, s_neS, s_ixL, s_ixT, s_ixS, s_ixO, s_lenS, s_lenL, s_lenT, s_abs, s_intI, s_intB, s_max2, s_min2, s_itL, s_itT, s_itS, s_rng1, s_rng2, s_zipL, s_zipT, s_enL, s_seqL, s_seqT, s_minL, s_maxL, s_sum, s_isBl, s_fld, s_vNil, s_vCons, s_frzL, s_frzI, at0, at1, at2, at3, ix30, ix31, ix32, pT_cons, oT_cons, iT_cons, Option.map_some, s_none, s_put0, s_put, s_find, s_join, notInS_of, inS_of, eq_self]
  refine ⟨ns, 3, rfl, hok, by omega, by omega, fun q5 hq5 => ⟨m, n, o, nm, sh, rfl, ho, ⟨by rw [oa]; omega, by omega, by omega⟩, l1, nlt, l1', hq5, fun w q6 hq6 hw wa hdir => ⟨by omega, ?_⟩⟩⟩
  have hA' : AOk w.a := by rw [wa, oa]; exact hA
  have law' : w.a.length = a.length := by rw [wa, oa]
  refine compL_of pairT (0, 0) (fun ρ => ρ = [.val (iL ns), .own (.lst s), .val (.str a), .val (wD o), .val (.int m), .val (nL nm), .un, .val (iL sh), .val (wD w), .un, .un, .un, .un, .un, .un, .un, .un, .un, .un, .un, .un, .un, .un]) (fun i p => p = ((nm.getD i 0 : Int), sh.getD i 0)) (by rw [rng_length]; omega) (fun i d hd ρ e => ?_) rfl fun ps ρ p1 p2 e => ?_
  · subst e
    obtain ⟨hi, rfl⟩ := rng_get hd
    rw [Int.toNat_natCast] at hi
    have z1 : L2.atI (nm.map fun n : Nat => D.int n) (i : Int) = some (.int (nm.getD i 0 : Nat)) := by rw [at_nL (k := (i : Int)) (by omega) (by omega), Int.toNat_natCast]
    simp only [Int.zero_add, nL, iL, z1, at_nat (l := sh) (i := i) (by omega), sNil, sCons, sIf, sAsg, sOwn, sFor, sRet, sRetN, sRetO, sRetNew, sExpr, sApp, sSetIx, sPass, DL.sFld, sNever, s_lk, sLcO, sLcV, eVar, eFrz, eC, eNew, eAnd, eOr, eNot, eIf, eOp, eNeg, eIsN, eNotN, eFld, eFldO, eIxO, eLenO, eTup, eB, eTuple, eFind, eJoin, eIsi, eCall, eCallT, eChain, nLst, nList, nComp, nCall, nCallT, nMake, nRep, nCat, nCatO, oNone, oSome, nSlice, bVal, bAnd, bOr, bNot, bOp, bChain, bIsN, bNotN, bYes, aNil, aCons, qNil, qVal, iSq, iR1, iR2, iZp, iEn, sPopAt, gNm, gTp, gConsD, gNilD, onMade, gt, ownAll, mkSl, wb, endsD, mrg, startD, kAdd, kSub, kMul, kMod, kDiv, kPow, kShr, kLt, kLe, kGt, kGe, isNon, br_decide, br_t, br_f, Bool.not_true, Bool.not_false, List.map_cons, List.map_nil, List.length_cons, List.length_nil, List.replicate, List.cons_append, List.nil_append, List.set_cons_zero, List.set_cons_succ, List.set_nil, wipeD, back, noOwn, true_and, and_true, List.length_map, List.reduceReplicate, Nat.reduceSub, Nat.reduceAdd, Int.reduceNeg, reduceCtorEq, if_true, if_false, Bool.true_eq_false, Bool.false_eq_true, ite_true, ite_false, s_onVal, s_onOwn, s_onLst, s_onIns, s_onL, s_onBl, s_some, s_kI, s_addI, s_addS, s_neg, s_eqI, s_neI, s_eqS, s_neS, s_ixL, s_ixT, s_ixS, s_ixO, s_lenS, s_lenL, s_lenT, s_abs, s_intI, s_intB, s_max2, s_min2, s_itL, s_itT, s_itS, s_rng1, s_rng2, s_zipL, s_zipT, s_enL, s_seqL, s_seqT, s_minL, s_maxL, s_sum, s_isBl, s_fld, s_vNil, s_vCons, s_frzL, s_frzI, at0, at1, at2, at3, ix30, ix31, ix32, pT_cons, oT_cons, iT_cons, Option.map_some, s_none, s_put0, s_put, s_find, s_join, notInS_of, inS_of, eq_self]
    exact fun k hk => hk _ _ rfl rfl
  subst e
  rw [rng_length, Int.toNat_natCast] at p1 p2
  have eps : ps = psOf nm sh := psOf_ext (by omega) (by rw [l1]; exact p2)
  rw [← eps] at hdir
  have flat : FoldD m (.lst (ps.map pairT)) := .inr (.inr (.inr (.inl ⟨_, rfl, fun d hd => by
    obtain ⟨p, _, rfl⟩ := List.mem_map.mp hd
    exact .inr ⟨_, .inr rfl, by simp [Flat]⟩⟩)))
  have flat2 : FoldD m (.lst (ps.map fun p => .lst [.int p.1, .int p.2])) := .inr (.inr (.inr (.inl ⟨_, rfl, fun d hd => by
    obtain ⟨p, _, rfl⟩ := List.mem_map.mp hd
    exact .inr ⟨_, .inl rfl, by simp [Flat]⟩⟩)))
  have isr : Rt m n w o (.lst (ps.map pairT)) := ⟨ps, ⟨p1, _, .inl rfl, by
    have : ∀ qs : List (Int × Int), (∀ q ∈ qs, 0 ≤ q.1 ∧ q.1 < n) → All2 (IsPair n) (qs.map pairT) qs := by
      intro qs
      induction qs with
      | nil => intro _; exact .nil
      | cons q qs ih => intro hq; exact .cons ⟨.inl rfl, hq q List.mem_cons_self⟩ (ih fun q h => hq q (List.mem_cons_of_mem _ h))
    refine this ps fun q hq => ?_
    obtain ⟨i, hi⟩ := List.mem_iff_getElem?.mp hq
    have li := lt_some hi
    have := p2 i (by omega)
    rw [getD_some hi] at this
    rw [this]
    have := l2 i (by omega)
    show (0 : Int) ≤ (nm.getD i 0 : Nat) ∧ ((nm.getD i 0 : Nat) : Int) < n
    omega⟩, hdir⟩
  simp only [T__law_right, T__law_stored, sNil, sCons, sIf, sAsg, sOwn, sFor, sRet, sRetN, sRetO, sRetNew, sExpr, sApp, sSetIx, sPass, DL.sFld, sNever, s_lk, sLcO, sLcV, eVar, eFrz, eC, eNew, eAnd, eOr, eNot, eIf, eOp, eNeg, eIsN, eNotN, eFld, eFldO, eIxO, eLenO, eTup, eB, eTuple, eFind, eJoin, eIsi, eCall, eCallT, eChain, nLst, nList, nComp, nCall, nCallT, nMake, nRep, nCat, nCatO, oNone, oSome, nSlice, bVal, bAnd, bOr, bNot, bOp, bChain, bIsN, bNotN, bYes, aNil, aCons, qNil, qVal, iSq, iR1, iR2, iZp, iEn, sPopAt, gNm, gTp, gConsD, gNilD, onMade, gt, ownAll, mkSl, wb, endsD, mrg, startD, kAdd, kSub, kMul, kMod, kDiv, kPow, kShr, kLt, kLe, kGt, kGe, isNon, br_decide, br_t, br_f, Bool.not_true, Bool.not_false, List.map_cons, List.map_nil, List.length_cons, List.length_nil, List.replicate, List.cons_append, List.nil_append, List.set_cons_zero, List.set_cons_succ, List.set_nil, wipeD, back, noOwn, true_and, and_true, List.length_map, List.reduceReplicate, Nat.reduceSub, Nat.reduceAdd, Int.reduceNeg, reduceCtorEq, if_true, if_false, Bool.true_eq_false, Bool.false_eq_true, ite_true, ite_false, s_onVal, s_onOwn, s_onLst, s_onIns, s_onL, s_onBl, s_some, s_kI, s_addI, s_addS, s_neg, s_eqI, s_neI, s_eqS, s_neS, s_ixL, s_ixT, s_ixS, s_ixO, s_lenS, s_lenL, s_lenT, s_abs, s_intI, s_intB, s_max2, s_min2, s_itL, s_itT, s_itS, s_rng1, s_rng2, s_zipL, s_zipT, s_enL, s_seqL, s_seqT, s_minL, s_maxL, s_sum, s_isBl, s_fld, s_vNil, s_vCons, s_frzL, s_frzI, at0, at1, at2, at3, ix30, ix31, ix32, pT_cons, oT_cons, iT_cons, Option.map_some, s_none, s_put0, s_put, s_find, s_join, notInS_of, inS_of, eq_self]
  refine ⟨m, n, w, o, _, rfl, hw, ho, wa, by omega, by omega, flat, fun b hb => ?_⟩
  rw [hb.mpr isr]
  simp only [sNil, sCons, sIf, sAsg, sOwn, sFor, sRet, sRetN, sRetO, sRetNew, sExpr, sApp, sSetIx, sPass, DL.sFld, sNever, s_lk, sLcO, sLcV, eVar, eFrz, eC, eNew, eAnd, eOr, eNot, eIf, eOp, eNeg, eIsN, eNotN, eFld, eFldO, eIxO, eLenO, eTup, eB, eTuple, eFind, eJoin, eIsi, eCall, eCallT, eChain, nLst, nList, nComp, nCall, nCallT, nMake, nRep, nCat, nCatO, oNone, oSome, nSlice, bVal, bAnd, bOr, bNot, bOp, bChain, bIsN, bNotN, bYes, aNil, aCons, qNil, qVal, iSq, iR1, iR2, iZp, iEn, sPopAt, gNm, gTp, gConsD, gNilD, onMade, gt, ownAll, mkSl, wb, endsD, mrg, startD, kAdd, kSub, kMul, kMod, kDiv, kPow, kShr, kLt, kLe, kGt, kGe, isNon, br_decide, br_t, br_f, Bool.not_true, Bool.not_false, List.map_cons, List.map_nil, List.length_cons, List.length_nil, List.replicate, List.cons_append, List.nil_append, List.set_cons_zero, List.set_cons_succ, List.set_nil, wipeD, back, noOwn, true_and, and_true, List.length_map, List.reduceReplicate, Nat.reduceSub, Nat.reduceAdd, Int.reduceNeg, reduceCtorEq, if_true, if_false, Bool.true_eq_false, Bool.false_eq_true, ite_true, ite_false, s_onVal, s_onOwn, s_onLst, s_onIns, s_onL, s_onBl, s_some, s_kI, s_addI, s_addS, s_neg, s_eqI, s_neI, s_eqS, s_neS, s_ixL, s_ixT, s_ixS, s_ixO, s_lenS, s_lenL, s_lenT, s_abs, s_intI, s_intB, s_max2, s_min2, s_itL, s_itT, s_itS, s_rng1, s_rng2, s_zipL, s_zipT, s_enL, s_seqL, s_seqT, s_minL, s_maxL, s_sum, s_isBl, s_fld, s_vNil, s_vCons, s_frzL, s_frzI, at0, at1, at2, at3, ix30, ix31, ix32, pT_cons, oT_cons, iT_cons, Option.map_some, s_none, s_put0, s_put, s_find, s_join, notInS_of, inS_of, eq_self]
  refine ⟨m, w, rfl, hw, hA', by omega, n, o, rfl, ho, by rw [oa]; exact hA, by omega, ?_⟩
  have ps3 : ps.length ≤ 3 := by omega
  refine compL_of (fun p : Int × Int => D.lst [.int p.1, .int p.2]) (0, 0) (fun ρ => ρ = [.val (iL ns), .own (.lst s), .val (.str a), .val (wD o), .val (.int m), .val (nL nm), .un, .val (iL sh), .val (wD w), .val (.lst (ps.map pairT)), .val (sD K w), .val (sD K o), .un, .un, .un, .un, .un, .un, .un, .un, .un, .un, .un]) (fun i p => p = ps.getD i (0, 0)) (by rw [List.length_map]; omega) (fun i d hd ρ e => ?_) rfl fun ps' ρ p1' p2' e => ?_
  · subst e
    simp only [List.getElem?_map, Option.map_eq_some_iff] at hd
    obtain ⟨p, hp, rfl⟩ := hd
    simp only [pairT, sNil, sCons, sIf, sAsg, sOwn, sFor, sRet, sRetN, sRetO, sRetNew, sExpr, sApp, sSetIx, sPass, DL.sFld, sNever, s_lk, sLcO, sLcV, eVar, eFrz, eC, eNew, eAnd, eOr, eNot, eIf, eOp, eNeg, eIsN, eNotN, eFld, eFldO, eIxO, eLenO, eTup, eB, eTuple, eFind, eJoin, eIsi, eCall, eCallT, eChain, nLst, nList, nComp, nCall, nCallT, nMake, nRep, nCat, nCatO, oNone, oSome, nSlice, bVal, bAnd, bOr, bNot, bOp, bChain, bIsN, bNotN, bYes, aNil, aCons, qNil, qVal, iSq, iR1, iR2, iZp, iEn, sPopAt, gNm, gTp, gConsD, gNilD, onMade, gt, ownAll, mkSl, wb, endsD, mrg, startD, kAdd, kSub, kMul, kMod, kDiv, kPow, kShr, kLt, kLe, kGt, kGe, isNon, br_decide, br_t, br_f, Bool.not_true, Bool.not_false, List.map_cons, List.map_nil, List.length_cons, List.length_nil, List.replicate, List.cons_append, List.nil_append, List.set_cons_zero, List.set_cons_succ, List.set_nil, wipeD, back, noOwn, true_and, and_true, List.length_map, List.reduceReplicate, Nat.reduceSub, Nat.reduceAdd, Int.reduceNeg, reduceCtorEq, if_true, if_false, Bool.true_eq_false, Bool.false_eq_true, ite_true, ite_false, s_onVal, s_onOwn, s_onLst, s_onIns, s_onL, s_onBl, s_some, s_kI, s_addI, s_addS, s_neg, s_eqI, s_neI, s_eqS, s_neS, s_ixL, s_ixT, s_ixS, s_ixO, s_lenS, s_lenL, s_lenT, s_abs, s_intI, s_intB, s_max2, s_min2, s_itL, s_itT, s_itS, s_rng1, s_rng2, s_zipL, s_zipT, s_enL, s_seqL, s_seqT, s_minL, s_maxL, s_sum, s_isBl, s_fld, s_vNil, s_vCons, s_frzL, s_frzI, at0, at1, at2, at3, ix30, ix31, ix32, pT_cons, oT_cons, iT_cons, Option.map_some, s_none, s_put0, s_put, s_find, s_join, notInS_of, inS_of, eq_self]
    exact fun k hk => hk p _ (by rw [getD_some hp]) rfl
  subst e
  rw [List.length_map] at p1' p2'
  have e' : ps' = ps := by
    apply List.ext_getElem?
    intro i
    rcases Nat.lt_or_ge i ps.length with c | c
    · have := p2' i c
      rw [getD_get (by omega), getD_get c] at this
      rw [List.getElem?_eq_getElem (by omega), List.getElem?_eq_getElem c, this]
    · rw [List.getElem?_eq_none (by omega), List.getElem?_eq_none c]
  subst e'
  simp only [sNil, sCons, sIf, sAsg, sOwn, sFor, sRet, sRetN, sRetO, sRetNew, sExpr, sApp, sSetIx, sPass, DL.sFld, sNever, s_lk, sLcO, sLcV, eVar, eFrz, eC, eNew, eAnd, eOr, eNot, eIf, eOp, eNeg, eIsN, eNotN, eFld, eFldO, eIxO, eLenO, eTup, eB, eTuple, eFind, eJoin, eIsi, eCall, eCallT, eChain, nLst, nList, nComp, nCall, nCallT, nMake, nRep, nCat, nCatO, oNone, oSome, nSlice, bVal, bAnd, bOr, bNot, bOp, bChain, bIsN, bNotN, bYes, aNil, aCons, qNil, qVal, iSq, iR1, iR2, iZp, iEn, sPopAt, gNm, gTp, gConsD, gNilD, onMade, gt, ownAll, mkSl, wb, endsD, mrg, startD, kAdd, kSub, kMul, kMod, kDiv, kPow, kShr, kLt, kLe, kGt, kGe, isNon, br_decide, br_t, br_f, Bool.not_true, Bool.not_false, List.map_cons, List.map_nil, List.length_cons, List.length_nil, List.replicate, List.cons_append, List.nil_append, List.set_cons_zero, List.set_cons_succ, List.set_nil, wipeD, back, noOwn, true_and, and_true, List.length_map, List.reduceReplicate, Nat.reduceSub, Nat.reduceAdd, Int.reduceNeg, reduceCtorEq, if_true, if_false, Bool.true_eq_false, Bool.false_eq_true, ite_true, ite_false, s_onVal, s_onOwn, s_onLst, s_onIns, s_onL, s_onBl, s_some, s_kI, s_addI, s_addS, s_neg, s_eqI, s_neI, s_eqS, s_neS, s_ixL, s_ixT, s_ixS, s_ixO, s_lenS, s_lenL, s_lenT, s_abs, s_intI, s_intB, s_max2, s_min2, s_itL, s_itT, s_itS, s_rng1, s_rng2, s_zipL, s_zipT, s_enL, s_seqL, s_seqT, s_minL, s_maxL, s_sum, s_isBl, s_fld, s_vNil, s_vCons, s_frzL, s_frzI, at0, at1, at2, at3, ix30, ix31, ix32, pT_cons, oT_cons, iT_cons, Option.map_some, s_none, s_put0, s_put, s_find, s_join, notInS_of, inS_of, eq_self]
  refine ⟨by omega, ?_⟩
  refine forL_n (fun k ρ => ∃ (T : List D) (x14 : Sl), (∀ d ∈ T, FoldD m d) ∧ T.length = 2 + k ∧ ρ = [.val (iL ns), .own (.lst s), .val (.str a), .val (wD o), .val (.int m), .val (nL nm), .un, .val (iL sh), .val (wD w), .val (.lst (ps'.map pairT)), .val (sD K w), .val (sD K o), .own (.lst T), .un, x14, .un, .un, .un, .un, .un, .un, .un, .un]) (fun k d hd ρ ⟨T, x14, hT, hTl, e⟩ nx hnx => ?_) (fun ρ ⟨T, x14, hT, hTl, e⟩ => ?_) ⟨_, _, fun d hd => ?_, rfl, rfl⟩
  · subst e
    obtain ⟨hk, rfl⟩ := rng_get hd
    have hk4 : k < 4 := hk
    unfold m_law_3
    simp only [T__law_source, T__law_changed, o1, lo, Int.zero_add, sNil, sCons, sIf, sAsg, sOwn, sFor, sRet, sRetN, sRetO, sRetNew, sExpr, sApp, sSetIx, sPass, DL.sFld, sNever, s_lk, sLcO, sLcV, eVar, eFrz, eC, eNew, eAnd, eOr, eNot, eIf, eOp, eNeg, eIsN, eNotN, eFld, eFldO, eIxO, eLenO, eTup, eB, eTuple, eFind, eJoin, eIsi, eCall, eCallT, eChain, nLst, nList, nComp, nCall, nCallT, nMake, nRep, nCat, nCatO, oNone, oSome, nSlice, bVal, bAnd, bOr, bNot, bOp, bChain, bIsN, bNotN, bYes, aNil, aCons, qNil, qVal, iSq, iR1, iR2, iZp, iEn, sPopAt, gNm, gTp, gConsD, gNilD, onMade, gt, ownAll, mkSl, wb, endsD, mrg, startD, kAdd, kSub, kMul, kMod, kDiv, kPow, kShr, kLt, kLe, kGt, kGe, isNon, br_decide, br_t, br_f, Bool.not_true, Bool.not_false, List.map_cons, List.map_nil, List.length_cons, List.length_nil, List.replicate, List.cons_append, List.nil_append, List.set_cons_zero, List.set_cons_succ, List.set_nil, wipeD, back, noOwn, true_and, and_true, List.length_map, List.reduceReplicate, Nat.reduceSub, Nat.reduceAdd, Int.reduceNeg, reduceCtorEq, if_true, if_false, Bool.true_eq_false, Bool.false_eq_true, ite_true, ite_false, s_onVal, s_onOwn, s_onLst, s_onIns, s_onL, s_onBl, s_some, s_kI, s_addI, s_addS, s_neg, s_eqI, s_neI, s_eqS, s_neS, s_ixL, s_ixT, s_ixS, s_ixO, s_lenS, s_lenL, s_lenT, s_abs, s_intI, s_intB, s_max2, s_min2, s_itL, s_itT, s_itS, s_rng1, s_rng2, s_zipL, s_zipT, s_enL, s_seqL, s_seqT, s_minL, s_maxL, s_sum, s_isBl, s_fld, s_vNil, s_vCons, s_frzL, s_frzI, at0, at1, at2, at3, ix30, ix31, ix32, pT_cons, oT_cons, iT_cons, Option.map_some, s_none, s_put0, s_put, s_find, s_join, notInS_of, inS_of, eq_self]
    refine ⟨ns, _, rfl, hok, by omega, by omega, fun q hq => ⟨ps', n, rfl, by omega, by omega, hq, fun zs src' _ hz => ⟨small' (m := 1000) (by omega), hnx _ ⟨_, _, fun d hd => ?_, ?_, rfl⟩⟩⟩⟩
    · rcases List.mem_append.mp hd with z | z
      · exact hT d z
      · simp at z
        rw [z]
        exact .inr (.inr (.inr (.inl ⟨_, rfl, hz⟩)))
    · simp; omega
  rotate_left
  · simp at hd
    rcases hd with rfl | rfl
    · exact flat
    · exact flat2
  subst e
  have hT6 : T.length = 6 := by rw [hTl, rng_length]; rfl
  simp only [sNil, sCons, sIf, sAsg, sOwn, sFor, sRet, sRetN, sRetO, sRetNew, sExpr, sApp, sSetIx, sPass, DL.sFld, sNever, s_lk, sLcO, sLcV, eVar, eFrz, eC, eNew, eAnd, eOr, eNot, eIf, eOp, eNeg, eIsN, eNotN, eFld, eFldO, eIxO, eLenO, eTup, eB, eTuple, eFind, eJoin, eIsi, eCall, eCallT, eChain, nLst, nList, nComp, nCall, nCallT, nMake, nRep, nCat, nCatO, oNone, oSome, nSlice, bVal, bAnd, bOr, bNot, bOp, bChain, bIsN, bNotN, bYes, aNil, aCons, qNil, qVal, iSq, iR1, iR2, iZp, iEn, sPopAt, gNm, gTp, gConsD, gNilD, onMade, gt, ownAll, mkSl, wb, endsD, mrg, startD, kAdd, kSub, kMul, kMod, kDiv, kPow, kShr, kLt, kLe, kGt, kGe, isNon, br_decide, br_t, br_f, Bool.not_true, Bool.not_false, List.map_cons, List.map_nil, List.length_cons, List.length_nil, List.replicate, List.cons_append, List.nil_append, List.set_cons_zero, List.set_cons_succ, List.set_nil, wipeD, back, noOwn, true_and, and_true, List.length_map, List.reduceReplicate, Nat.reduceSub, Nat.reduceAdd, Int.reduceNeg, reduceCtorEq, if_true, if_false, Bool.true_eq_false, Bool.false_eq_true, ite_true, ite_false, s_onVal, s_onOwn, s_onLst, s_onIns, s_onL, s_onBl, s_some, s_kI, s_addI, s_addS, s_neg, s_eqI, s_neI, s_eqS, s_neS, s_ixL, s_ixT, s_ixS, s_ixO, s_lenS, s_lenL, s_lenT, s_abs, s_intI, s_intB, s_max2, s_min2, s_itL, s_itT, s_itS, s_rng1, s_rng2, s_zipL, s_zipT, s_enL, s_seqL, s_seqT, s_minL, s_maxL, s_sum, s_isBl, s_fld, s_vNil, s_vCons, s_frzL, s_frzI, at0, at1, at2, at3, ix30, ix31, ix32, pT_cons, oT_cons, iT_cons, Option.map_some, s_none, s_put0, s_put, s_find, s_join, notInS_of, inS_of, eq_self]
  refine ⟨by omega, ?_⟩
  refine forL_n (fun k ρ => ∃ (s V : List D) (x6 x16 : Sl), Src s ∧ (∀ d ∈ V, PairD d) ∧ V.length = k ∧ (∀ x, x6 ≠ .own x) ∧ ρ = [.val (iL ns), .own (.lst s), .val (.str a), .val (wD o), .val (.int m), .val (nL nm), x6, .val (iL sh), .val (wD w), .val (.lst (ps'.map pairT)), .val (sD K w), .val (sD K o), .own (.lst T), .un, x14, .own (.lst V), x16, .un, .un, .un, .un, .un, .un]) (fun k d hd ρ ⟨s, V, x6, x16, hs, hV, hVl, h6, e⟩ nx hnx => ?_) (fun ρ ⟨s, V, x6, x16, hs, hV, hVl, h6, e⟩ => ?_) ⟨s, [], _, _, hs, by simp, rfl, by simp, rfl⟩
  · subst e
    obtain ⟨hk, rfl⟩ := rng_get hd
    rw [Int.toNat_natCast] at hk
    have w1 : ∀ {k : D → Prop}, kIx (wD w) (.int 1) k = k (iL w.b) := fun {k} => by simp only [wD, wL, sNil, sCons, sIf, sAsg, sOwn, sFor, sRet, sRetN, sRetO, sRetNew, sExpr, sApp, sSetIx, sPass, DL.sFld, sNever, s_lk, sLcO, sLcV, eVar, eFrz, eC, eNew, eAnd, eOr, eNot, eIf, eOp, eNeg, eIsN, eNotN, eFld, eFldO, eIxO, eLenO, eTup, eB, eTuple, eFind, eJoin, eIsi, eCall, eCallT, eChain, nLst, nList, nComp, nCall, nCallT, nMake, nRep, nCat, nCatO, oNone, oSome, nSlice, bVal, bAnd, bOr, bNot, bOp, bChain, bIsN, bNotN, bYes, aNil, aCons, qNil, qVal, iSq, iR1, iR2, iZp, iEn, sPopAt, gNm, gTp, gConsD, gNilD, onMade, gt, ownAll, mkSl, wb, endsD, mrg, startD, kAdd, kSub, kMul, kMod, kDiv, kPow, kShr, kLt, kLe, kGt, kGe, isNon, br_decide, br_t, br_f, Bool.not_true, Bool.not_false, List.map_cons, List.map_nil, List.length_cons, List.length_nil, List.replicate, List.cons_append, List.nil_append, List.set_cons_zero, List.set_cons_succ, List.set_nil, wipeD, back, noOwn, true_and, and_true, List.length_map, List.reduceReplicate, Nat.reduceSub, Nat.reduceAdd, Int.reduceNeg, reduceCtorEq, if_true, if_false, Bool.true_eq_false, Bool.false_eq_true, ite_true, ite_false, s_onVal, s_onOwn, s_onLst, s_onIns, s_onL, s_onBl, s_some, s_kI, s_addI, s_addS, s_neg, s_eqI, s_neI, s_eqS, s_neS, s_ixL, s_ixT, s_ixS, s_ixO, s_lenS, s_lenL, s_lenT, s_abs, s_intI, s_intB, s_max2, s_min2, s_itL, s_itT, s_itS, s_rng1, s_rng2, s_zipL, s_zipT, s_enL, s_seqL, s_seqT, s_minL, s_maxL, s_sum, s_isBl, s_fld, s_vNil, s_vCons, s_frzL, s_frzI, at0, at1, at2, at3, ix30, ix31, ix32, pT_cons, oT_cons, iT_cons, Option.map_some, s_none, s_put0, s_put, s_find, s_join, notInS_of, inS_of, eq_self]
    unfold m_law_2
    simp only [T__law_draw, o1, lo, w1, Int.zero_add, sNil, sCons, sIf, sAsg, sOwn, sFor, sRet, sRetN, sRetO, sRetNew, sExpr, sApp, sSetIx, sPass, DL.sFld, sNever, s_lk, sLcO, sLcV, eVar, eFrz, eC, eNew, eAnd, eOr, eNot, eIf, eOp, eNeg, eIsN, eNotN, eFld, eFldO, eIxO, eLenO, eTup, eB, eTuple, eFind, eJoin, eIsi, eCall, eCallT, eChain, nLst, nList, nComp, nCall, nCallT, nMake, nRep, nCat, nCatO, oNone, oSome, nSlice, bVal, bAnd, bOr, bNot, bOp, bChain, bIsN, bNotN, bYes, aNil, aCons, qNil, qVal, iSq, iR1, iR2, iZp, iEn, sPopAt, gNm, gTp, gConsD, gNilD, onMade, gt, ownAll, mkSl, wb, endsD, mrg, startD, kAdd, kSub, kMul, kMod, kDiv, kPow, kShr, kLt, kLe, kGt, kGe, isNon, br_decide, br_t, br_f, Bool.not_true, Bool.not_false, List.map_cons, List.map_nil, List.length_cons, List.length_nil, List.replicate, List.cons_append, List.nil_append, List.set_cons_zero, List.set_cons_succ, List.set_nil, wipeD, back, noOwn, true_and, and_true, List.length_map, List.reduceReplicate, Nat.reduceSub, Nat.reduceAdd, Int.reduceNeg, reduceCtorEq, if_true, if_false, Bool.true_eq_false, Bool.false_eq_true, ite_true, ite_false, s_onVal, s_onOwn, s_onLst, s_onIns, s_onL, s_onBl, s_some, s_kI, s_addI, s_addS, s_neg, s_eqI, s_neI, s_eqS, s_neS, s_ixL, s_ixT, s_ixS, s_ixO, s_lenS, s_lenL, s_lenT, s_abs, s_intI, s_intB, s_max2, s_min2, s_itL, s_itT, s_itS, s_rng1, s_rng2, s_zipL, s_zipT, s_enL, s_seqL, s_seqT, s_minL, s_maxL, s_sum, s_isBl, s_fld, s_vNil, s_vCons, s_frzL, s_frzI, at0, at1, at2, at3, ix30, ix31, ix32, pT_cons, oT_cons, iT_cons, Option.map_some, s_none, s_put0, s_put, s_find, s_join, notInS_of, inS_of, eq_self]
    refine ⟨by omega, hs, fun r s' hs' ⟨r0, r1⟩ => ?_⟩
    obtain ⟨x, rfl⟩ := Int.eq_ofNat_of_zero_le r0
    simp only [iL, at_nat (l := w.b) (i := k) (by rw [hw.b]; exact hk), at_nat (l := o.b) (i := x) (by rw [ho.b]; omega), sNil, sCons, sIf, sAsg, sOwn, sFor, sRet, sRetN, sRetO, sRetNew, sExpr, sApp, sSetIx, sPass, DL.sFld, sNever, s_lk, sLcO, sLcV, eVar, eFrz, eC, eNew, eAnd, eOr, eNot, eIf, eOp, eNeg, eIsN, eNotN, eFld, eFldO, eIxO, eLenO, eTup, eB, eTuple, eFind, eJoin, eIsi, eCall, eCallT, eChain, nLst, nList, nComp, nCall, nCallT, nMake, nRep, nCat, nCatO, oNone, oSome, nSlice, bVal, bAnd, bOr, bNot, bOp, bChain, bIsN, bNotN, bYes, aNil, aCons, qNil, qVal, iSq, iR1, iR2, iZp, iEn, sPopAt, gNm, gTp, gConsD, gNilD, onMade, gt, ownAll, mkSl, wb, endsD, mrg, startD, kAdd, kSub, kMul, kMod, kDiv, kPow, kShr, kLt, kLe, kGt, kGe, isNon, br_decide, br_t, br_f, Bool.not_true, Bool.not_false, List.map_cons, List.map_nil, List.length_cons, List.length_nil, List.replicate, List.cons_append, List.nil_append, List.set_cons_zero, List.set_cons_succ, List.set_nil, wipeD, back, noOwn, true_and, and_true, List.length_map, List.reduceReplicate, Nat.reduceSub, Nat.reduceAdd, Int.reduceNeg, reduceCtorEq, if_true, if_false, Bool.true_eq_false, Bool.false_eq_true, ite_true, ite_false, s_onVal, s_onOwn, s_onLst, s_onIns, s_onL, s_onBl, s_some, s_kI, s_addI, s_addS, s_neg, s_eqI, s_neI, s_eqS, s_neS, s_ixL, s_ixT, s_ixS, s_ixO, s_lenS, s_lenL, s_lenT, s_abs, s_intI, s_intB, s_max2, s_min2, s_itL, s_itT, s_itS, s_rng1, s_rng2, s_zipL, s_zipT, s_enL, s_seqL, s_seqT, s_minL, s_maxL, s_sum, s_isBl, s_fld, s_vNil, s_vCons, s_frzL, s_frzI, at0, at1, at2, at3, ix30, ix31, ix32, pT_cons, oT_cons, iT_cons, Option.map_some, s_none, s_put0, s_put, s_find, s_join, notInS_of, inS_of, eq_self]
    refine ⟨by omega, hs', fun r2 s2 hs2 _ => ⟨small' (m := 1000) (by omega), hnx _ ⟨s2, _, _, _, hs2, fun d hd => ?_, ?_, ?_, rfl⟩⟩⟩
    · rcases List.mem_append.mp hd with z | z
      · exact hV d z
      · simp at z
        rw [z]
        exact .inr ⟨_, .inr rfl, by simp [Flat]⟩
    · simp; omega
    · simp
  subst e
  rw [rng_length, Int.toNat_natCast] at hVl
  simp only [sNil, sCons, sIf, sAsg, sOwn, sFor, sRet, sRetN, sRetO, sRetNew, sExpr, sApp, sSetIx, sPass, DL.sFld, sNever, s_lk, sLcO, sLcV, eVar, eFrz, eC, eNew, eAnd, eOr, eNot, eIf, eOp, eNeg, eIsN, eNotN, eFld, eFldO, eIxO, eLenO, eTup, eB, eTuple, eFind, eJoin, eIsi, eCall, eCallT, eChain, nLst, nList, nComp, nCall, nCallT, nMake, nRep, nCat, nCatO, oNone, oSome, nSlice, bVal, bAnd, bOr, bNot, bOp, bChain, bIsN, bNotN, bYes, aNil, aCons, qNil, qVal, iSq, iR1, iR2, iZp, iEn, sPopAt, gNm, gTp, gConsD, gNilD, onMade, gt, ownAll, mkSl, wb, endsD, mrg, startD, kAdd, kSub, kMul, kMod, kDiv, kPow, kShr, kLt, kLe, kGt, kGe, isNon, br_decide, br_t, br_f, Bool.not_true, Bool.not_false, List.map_cons, List.map_nil, List.length_cons, List.length_nil, List.replicate, List.cons_append, List.nil_append, List.set_cons_zero, List.set_cons_succ, List.set_nil, wipeD, back, noOwn, true_and, and_true, List.length_map, List.reduceReplicate, Nat.reduceSub, Nat.reduceAdd, Int.reduceNeg, reduceCtorEq, if_true, if_false, Bool.true_eq_false, Bool.false_eq_true, ite_true, ite_false, s_onVal, s_onOwn, s_onLst, s_onIns, s_onL, s_onBl, s_some, s_kI, s_addI, s_addS, s_neg, s_eqI, s_neI, s_eqS, s_neS, s_ixL, s_ixT, s_ixS, s_ixO, s_lenS, s_lenL, s_lenT, s_abs, s_intI, s_intB, s_max2, s_min2, s_itL, s_itT, s_itS, s_rng1, s_rng2, s_zipL, s_zipT, s_enL, s_seqL, s_seqT, s_minL, s_maxL, s_sum, s_isBl, s_fld, s_vNil, s_vCons, s_frzL, s_frzI, at0, at1, at2, at3, ix30, ix31, ix32, pT_cons, oT_cons, iT_cons, Option.map_some, s_none, s_put0, s_put, s_find, s_join, notInS_of, inS_of, eq_self]
  have n6 : (match x6 with | .own _ => False | _ => True) := by
    cases x6 with
    | own x => exact (h6 x rfl).elim
    | _ => trivial
  refine ⟨small' (m := 1000) (by omega), by simp only [List.length_append, List.length_cons, List.length_nil]; exact small (m := 1000) (by omega), ?_⟩
  refine forL_all (fun ρ => ∃ x17, ρ = [.val (iL ns), .own (.lst s), .val (.str a), .val (wD o), .val (.int m), .val (nL nm), x6, .val (iL sh), .val (wD w), .val (.lst (ps'.map pairT)), .val (sD K w), .val (sD K o), .own (.lst (T ++ [.lst V])), .un, x14, .val (.lst V), x16, x17, .un, .un, .un, .un, .un]) (fun _ => True) _ _ (fun d hd ρ ⟨x17, e⟩ nx h1 _ => ?_) (fun _ ρ ⟨x17, e⟩ => ?_) (fun ⟨_, _, z⟩ => (z trivial).elim) ⟨_, rfl⟩
  · subst e
    have fd : FoldD m d := by
      rcases List.mem_append.mp hd with z | z
      · rcases List.mem_append.mp z with z | z
        · exact hT d z
        · simp at z
          rw [z]
          exact .inr (.inr (.inr (.inl ⟨_, rfl, hV⟩)))
      · simp at z
        rcases z with rfl | rfl | rfl | rfl
        · exact .inr (.inl rfl)
        · exact .inl ⟨_, rfl⟩
        · exact .inr (.inr (.inl ⟨_, rfl⟩))
        · exact .inr (.inr (.inr (.inr ⟨rfl, by omega⟩)))
    unfold m_law_1
    simp only [T_judge_direct, T__law_right, T__law_exact, sNil, sCons, sIf, sAsg, sOwn, sFor, sRet, sRetN, sRetO, sRetNew, sExpr, sApp, sSetIx, sPass, DL.sFld, sNever, s_lk, sLcO, sLcV, eVar, eFrz, eC, eNew, eAnd, eOr, eNot, eIf, eOp, eNeg, eIsN, eNotN, eFld, eFldO, eIxO, eLenO, eTup, eB, eTuple, eFind, eJoin, eIsi, eCall, eCallT, eChain, nLst, nList, nComp, nCall, nCallT, nMake, nRep, nCat, nCatO, oNone, oSome, nSlice, bVal, bAnd, bOr, bNot, bOp, bChain, bIsN, bNotN, bYes, aNil, aCons, qNil, qVal, iSq, iR1, iR2, iZp, iEn, sPopAt, gNm, gTp, gConsD, gNilD, onMade, gt, ownAll, mkSl, wb, endsD, mrg, startD, kAdd, kSub, kMul, kMod, kDiv, kPow, kShr, kLt, kLe, kGt, kGe, isNon, br_decide, br_t, br_f, Bool.not_true, Bool.not_false, List.map_cons, List.map_nil, List.length_cons, List.length_nil, List.replicate, List.cons_append, List.nil_append, List.set_cons_zero, List.set_cons_succ, List.set_nil, wipeD, back, noOwn, true_and, and_true, List.length_map, List.reduceReplicate, Nat.reduceSub, Nat.reduceAdd, Int.reduceNeg, reduceCtorEq, if_true, if_false, Bool.true_eq_false, Bool.false_eq_true, ite_true, ite_false, s_onVal, s_onOwn, s_onLst, s_onIns, s_onL, s_onBl, s_some, s_kI, s_addI, s_addS, s_neg, s_eqI, s_neI, s_eqS, s_neS, s_ixL, s_ixT, s_ixS, s_ixO, s_lenS, s_lenL, s_lenT, s_abs, s_intI, s_intB, s_max2, s_min2, s_itL, s_itT, s_itS, s_rng1, s_rng2, s_zipL, s_zipT, s_enL, s_seqL, s_seqT, s_minL, s_maxL, s_sum, s_isBl, s_fld, s_vNil, s_vCons, s_frzL, s_frzI, at0, at1, at2, at3, ix30, ix31, ix32, pT_cons, oT_cons, iT_cons, Option.map_some, s_none, s_put0, s_put, s_find, s_join, notInS_of, inS_of, eq_self]
    refine ⟨m, n, w, o, d, rfl, hw, ho, wa, by omega, by omega, fd, fun b1 hb1 => ⟨m, n, w, o, d, rfl, hw, ho, wa, by omega, by omega, fd, fun b2 hb2 => ⟨.bl b1, ?_, trivial, h1 trivial _ ⟨_, rfl⟩⟩⟩⟩
    have : b1 = b2 := by
      have := hb1.trans hb2.symm
      cases b1 <;> cases b2 <;> simp at this <;> rfl
    rw [this]
  subst e
  simp only [T__law_row, sNil, sCons, sIf, sAsg, sOwn, sFor, sRet, sRetN, sRetO, sRetNew, sExpr, sApp, sSetIx, sPass, DL.sFld, sNever, s_lk, sLcO, sLcV, eVar, eFrz, eC, eNew, eAnd, eOr, eNot, eIf, eOp, eNeg, eIsN, eNotN, eFld, eFldO, eIxO, eLenO, eTup, eB, eTuple, eFind, eJoin, eIsi, eCall, eCallT, eChain, nLst, nList, nComp, nCall, nCallT, nMake, nRep, nCat, nCatO, oNone, oSome, nSlice, bVal, bAnd, bOr, bNot, bOp, bChain, bIsN, bNotN, bYes, aNil, aCons, qNil, qVal, iSq, iR1, iR2, iZp, iEn, sPopAt, gNm, gTp, gConsD, gNilD, onMade, gt, ownAll, mkSl, wb, endsD, mrg, startD, kAdd, kSub, kMul, kMod, kDiv, kPow, kShr, kLt, kLe, kGt, kGe, isNon, br_decide, br_t, br_f, Bool.not_true, Bool.not_false, List.map_cons, List.map_nil, List.length_cons, List.length_nil, List.replicate, List.cons_append, List.nil_append, List.set_cons_zero, List.set_cons_succ, List.set_nil, wipeD, back, noOwn, true_and, and_true, List.length_map, List.reduceReplicate, Nat.reduceSub, Nat.reduceAdd, Int.reduceNeg, reduceCtorEq, if_true, if_false, Bool.true_eq_false, Bool.false_eq_true, ite_true, ite_false, s_onVal, s_onOwn, s_onLst, s_onIns, s_onL, s_onBl, s_some, s_kI, s_addI, s_addS, s_neg, s_eqI, s_neI, s_eqS, s_neS, s_ixL, s_ixT, s_ixS, s_ixO, s_lenS, s_lenL, s_lenT, s_abs, s_intI, s_intB, s_max2, s_min2, s_itL, s_itT, s_itS, s_rng1, s_rng2, s_zipL, s_zipT, s_enL, s_seqL, s_seqT, s_minL, s_maxL, s_sum, s_isBl, s_fld, s_vNil, s_vCons, s_frzL, s_frzI, at0, at1, at2, at3, ix30, ix31, ix32, pT_cons, oT_cons, iT_cons, Option.map_some, s_none, s_put0, s_put, s_find, s_join, notInS_of, inS_of, eq_self]
  refine ⟨a, 7, rfl, by omega, by omega, hs, fun r s5 hs5 hr hrl => ?_⟩
  have hrow : RowOk w.a r := ⟨by rw [wa, oa]; exact hr, by omega⟩
  have hrow' : RowOk o.a r := ⟨by rw [oa]; exact hr, by omega⟩
  refine ⟨small (m := 1000) (by omega), by omega, ?_⟩
  refine compL_of (fun x : Nat => D.int x) 0 (fun ρ => ∃ s, Src s ∧ ρ = [.val (iL ns), .own (.lst s), .val (.str a), .val (wD o), .val (.int m), .val (nL nm), x6, .val (iL sh), .val (wD w), .val (.lst (ps'.map pairT)), .val (sD K w), .val (sD K o), .own (.lst (T ++ [.lst V])), .un, x14, .val (.lst V), x16, x17, .val (.str r), .un, .un, .un, .un]) (fun _ x => x < m) (by rw [rng_length]; omega) (fun i d hd ρ ⟨s, hs, e⟩ => ?_) ⟨_, hs5, rfl⟩ fun cs ρ c1 c2 ⟨s, hs, e⟩ => ?_
  · subst e
    simp only [T__law_draw, sNil, sCons, sIf, sAsg, sOwn, sFor, sRet, sRetN, sRetO, sRetNew, sExpr, sApp, sSetIx, sPass, DL.sFld, sNever, s_lk, sLcO, sLcV, eVar, eFrz, eC, eNew, eAnd, eOr, eNot, eIf, eOp, eNeg, eIsN, eNotN, eFld, eFldO, eIxO, eLenO, eTup, eB, eTuple, eFind, eJoin, eIsi, eCall, eCallT, eChain, nLst, nList, nComp, nCall, nCallT, nMake, nRep, nCat, nCatO, oNone, oSome, nSlice, bVal, bAnd, bOr, bNot, bOp, bChain, bIsN, bNotN, bYes, aNil, aCons, qNil, qVal, iSq, iR1, iR2, iZp, iEn, sPopAt, gNm, gTp, gConsD, gNilD, onMade, gt, ownAll, mkSl, wb, endsD, mrg, startD, kAdd, kSub, kMul, kMod, kDiv, kPow, kShr, kLt, kLe, kGt, kGe, isNon, br_decide, br_t, br_f, Bool.not_true, Bool.not_false, List.map_cons, List.map_nil, List.length_cons, List.length_nil, List.replicate, List.cons_append, List.nil_append, List.set_cons_zero, List.set_cons_succ, List.set_nil, wipeD, back, noOwn, true_and, and_true, List.length_map, List.reduceReplicate, Nat.reduceSub, Nat.reduceAdd, Int.reduceNeg, reduceCtorEq, if_true, if_false, Bool.true_eq_false, Bool.false_eq_true, ite_true, ite_false, s_onVal, s_onOwn, s_onLst, s_onIns, s_onL, s_onBl, s_some, s_kI, s_addI, s_addS, s_neg, s_eqI, s_neI, s_eqS, s_neS, s_ixL, s_ixT, s_ixS, s_ixO, s_lenS, s_lenL, s_lenT, s_abs, s_intI, s_intB, s_max2, s_min2, s_itL, s_itT, s_itS, s_rng1, s_rng2, s_zipL, s_zipT, s_enL, s_seqL, s_seqT, s_minL, s_maxL, s_sum, s_isBl, s_fld, s_vNil, s_vCons, s_frzL, s_frzI, at0, at1, at2, at3, ix30, ix31, ix32, pT_cons, oT_cons, iT_cons, Option.map_some, s_none, s_put0, s_put, s_find, s_join, notInS_of, inS_of, eq_self]
    refine fun k hk => ⟨by omega, hs, fun r s' hs' ⟨r0, r1⟩ => ?_⟩
    obtain ⟨x, rfl⟩ := Int.eq_ofNat_of_zero_le r0
    exact hk x _ (by omega) ⟨s', hs', rfl⟩
  subst e
  rw [rng_length] at c1 c2
  have hcs : CrsOk m r cs := ⟨by omega, fun x hx => by
    obtain ⟨i, hi⟩ := List.mem_iff_getElem?.mp hx
    have := c2 i (by have := lt_some hi; omega)
    rwa [getD_some hi] at this⟩
  simp only [sNil, sCons, sIf, sAsg, sOwn, sFor, sRet, sRetN, sRetO, sRetNew, sExpr, sApp, sSetIx, sPass, DL.sFld, sNever, s_lk, sLcO, sLcV, eVar, eFrz, eC, eNew, eAnd, eOr, eNot, eIf, eOp, eNeg, eIsN, eNotN, eFld, eFldO, eIxO, eLenO, eTup, eB, eTuple, eFind, eJoin, eIsi, eCall, eCallT, eChain, nLst, nList, nComp, nCall, nCallT, nMake, nRep, nCat, nCatO, oNone, oSome, nSlice, bVal, bAnd, bOr, bNot, bOp, bChain, bIsN, bNotN, bYes, aNil, aCons, qNil, qVal, iSq, iR1, iR2, iZp, iEn, sPopAt, gNm, gTp, gConsD, gNilD, onMade, gt, ownAll, mkSl, wb, endsD, mrg, startD, kAdd, kSub, kMul, kMod, kDiv, kPow, kShr, kLt, kLe, kGt, kGe, isNon, br_decide, br_t, br_f, Bool.not_true, Bool.not_false, List.map_cons, List.map_nil, List.length_cons, List.length_nil, List.replicate, List.cons_append, List.nil_append, List.set_cons_zero, List.set_cons_succ, List.set_nil, wipeD, back, noOwn, true_and, and_true, List.length_map, List.reduceReplicate, Nat.reduceSub, Nat.reduceAdd, Int.reduceNeg, reduceCtorEq, if_true, if_false, Bool.true_eq_false, Bool.false_eq_true, ite_true, ite_false, s_onVal, s_onOwn, s_onLst, s_onIns, s_onL, s_onBl, s_some, s_kI, s_addI, s_addS, s_neg, s_eqI, s_neI, s_eqS, s_neS, s_ixL, s_ixT, s_ixS, s_ixO, s_lenS, s_lenL, s_lenT, s_abs, s_intI, s_intB, s_max2, s_min2, s_itL, s_itT, s_itS, s_rng1, s_rng2, s_zipL, s_zipT, s_enL, s_seqL, s_seqT, s_minL, s_maxL, s_sum, s_isBl, s_fld, s_vNil, s_vCons, s_frzL, s_frzI, at0, at1, at2, at3, ix30, ix31, ix32, pT_cons, oT_cons, iT_cons, Option.map_some, s_none, s_put0, s_put, s_find, s_join, notInS_of, inS_of, eq_self]
  refine compL_of (fun x : Nat => D.int x) 0 (fun ρ => ρ = [.val (iL ns), .own (.lst s), .val (.str a), .val (wD o), .val (.int m), .val (nL nm), x6, .val (iL sh), .val (wD w), .val (.lst (ps'.map pairT)), .val (sD K w), .val (sD K o), .own (.lst (T ++ [.lst V])), .un, x14, .val (.lst V), x16, x17, .val (.str r), .val (nL cs), .un, .un, .un]) (fun i x => x = nm.getD (cs.getD i 0) 0) (by rw [List.length_map]; omega) (fun i d hd ρ e => ?_) rfl fun im ρ i1 i2 e => ?_
  · subst e
    simp only [List.getElem?_map, Option.map_eq_some_iff] at hd
    obtain ⟨x, hx, rfl⟩ := hd
    have xm : x < m := hcs.lt x (List.mem_of_getElem? hx)
    have z1 : L2.atI (nm.map fun n : Nat => D.int n) (x : Int) = some (.int (nm.getD x 0 : Nat)) := by rw [at_nL (k := (x : Int)) (by omega) (by omega), Int.toNat_natCast]
    simp only [nL, z1, n6, sNil, sCons, sIf, sAsg, sOwn, sFor, sRet, sRetN, sRetO, sRetNew, sExpr, sApp, sSetIx, sPass, DL.sFld, sNever, s_lk, sLcO, sLcV, eVar, eFrz, eC, eNew, eAnd, eOr, eNot, eIf, eOp, eNeg, eIsN, eNotN, eFld, eFldO, eIxO, eLenO, eTup, eB, eTuple, eFind, eJoin, eIsi, eCall, eCallT, eChain, nLst, nList, nComp, nCall, nCallT, nMake, nRep, nCat, nCatO, oNone, oSome, nSlice, bVal, bAnd, bOr, bNot, bOp, bChain, bIsN, bNotN, bYes, aNil, aCons, qNil, qVal, iSq, iR1, iR2, iZp, iEn, sPopAt, gNm, gTp, gConsD, gNilD, onMade, gt, ownAll, mkSl, wb, endsD, mrg, startD, kAdd, kSub, kMul, kMod, kDiv, kPow, kShr, kLt, kLe, kGt, kGe, isNon, br_decide, br_t, br_f, Bool.not_true, Bool.not_false, List.map_cons, List.map_nil, List.length_cons, List.length_nil, List.replicate, List.cons_append, List.nil_append, List.set_cons_zero, List.set_cons_succ, List.set_nil, wipeD, back, noOwn, true_and, and_true, List.length_map, List.reduceReplicate, Nat.reduceSub, Nat.reduceAdd, Int.reduceNeg, reduceCtorEq, if_true, if_false, Bool.true_eq_false, Bool.false_eq_true, ite_true, ite_false, s_onVal, s_onOwn, s_onLst, s_onIns, s_onL, s_onBl, s_some, s_kI, s_addI, s_addS, s_neg, s_eqI, s_neI, s_eqS, s_neS, s_ixL, s_ixT, s_ixS, s_ixO, s_lenS, s_lenL, s_lenT, s_abs, s_intI, s_intB, s_max2, s_min2, s_itL, s_itT, s_itS, s_rng1, s_rng2, s_zipL, s_zipT, s_enL, s_seqL, s_seqT, s_minL, s_maxL, s_sum, s_isBl, s_fld, s_vNil, s_vCons, s_frzL, s_frzI, at0, at1, at2, at3, ix30, ix31, ix32, pT_cons, oT_cons, iT_cons, Option.map_some, s_none, s_put0, s_put, s_find, s_join, notInS_of, inS_of, eq_self]
    exact fun k hk => hk _ _ (by rw [getD_some hx]) rfl
  subst e
  rw [List.length_map] at i1 i2
  have eim : im = cs.map fun s => nm.getD s 0 := by
    apply List.ext_getElem?
    intro i
    rcases Nat.lt_or_ge i cs.length with c | c
    · have := i2 i c
      rw [getD_get (by omega), getD_get (l := cs) c] at this
      rw [List.getElem?_eq_getElem (by omega), this]
      simp [c]
    · rw [List.getElem?_eq_none (by omega), List.getElem?_eq_none (by simpa using c)]
  have him : CrsOk n r im := ⟨by rw [i1]; exact hcs.len, fun x hx => by
    rw [eim] at hx
    obtain ⟨c, hc, rfl⟩ := List.mem_map.mp hx
    exact nlt _ (DL.getD_mem (by rw [l1]; exact hcs.lt c hc))⟩
  simp only [T__law_course_pays, T_paid, T__law_exact, sNil, sCons, sIf, sAsg, sOwn, sFor, sRet, sRetN, sRetO, sRetNew, sExpr, sApp, sSetIx, sPass, DL.sFld, sNever, s_lk, sLcO, sLcV, eVar, eFrz, eC, eNew, eAnd, eOr, eNot, eIf, eOp, eNeg, eIsN, eNotN, eFld, eFldO, eIxO, eLenO, eTup, eB, eTuple, eFind, eJoin, eIsi, eCall, eCallT, eChain, nLst, nList, nComp, nCall, nCallT, nMake, nRep, nCat, nCatO, oNone, oSome, nSlice, bVal, bAnd, bOr, bNot, bOp, bChain, bIsN, bNotN, bYes, aNil, aCons, qNil, qVal, iSq, iR1, iR2, iZp, iEn, sPopAt, gNm, gTp, gConsD, gNilD, onMade, gt, ownAll, mkSl, wb, endsD, mrg, startD, kAdd, kSub, kMul, kMod, kDiv, kPow, kShr, kLt, kLe, kGt, kGe, isNon, br_decide, br_t, br_f, Bool.not_true, Bool.not_false, List.map_cons, List.map_nil, List.length_cons, List.length_nil, List.replicate, List.cons_append, List.nil_append, List.set_cons_zero, List.set_cons_succ, List.set_nil, wipeD, back, noOwn, true_and, and_true, List.length_map, List.reduceReplicate, Nat.reduceSub, Nat.reduceAdd, Int.reduceNeg, reduceCtorEq, if_true, if_false, Bool.true_eq_false, Bool.false_eq_true, ite_true, ite_false, s_onVal, s_onOwn, s_onLst, s_onIns, s_onL, s_onBl, s_some, s_kI, s_addI, s_addS, s_neg, s_eqI, s_neI, s_eqS, s_neS, s_ixL, s_ixT, s_ixS, s_ixO, s_lenS, s_lenL, s_lenT, s_abs, s_intI, s_intB, s_max2, s_min2, s_itL, s_itT, s_itS, s_rng1, s_rng2, s_zipL, s_zipT, s_enL, s_seqL, s_seqT, s_minL, s_maxL, s_sum, s_isBl, s_fld, s_vNil, s_vCons, s_frzL, s_frzI, at0, at1, at2, at3, ix30, ix31, ix32, pT_cons, oT_cons, iT_cons, Option.map_some, s_none, s_put0, s_put, s_find, s_join, notInS_of, inS_of, eq_self]
  refine ⟨m, w, r, cs, rfl, hw, hA', hrow, hcs, n, o, r, im, rfl, ho, by rw [oa]; exact hA, hrow', him, ?_⟩
  have fin := pay_le wa hA' hrow l1 hcs (by rw [eps] at hdir; exact hdir)
  rw [← eim] at fin
  refine ⟨fun _ => ⟨m, w, r, cs, rfl, hw, hA', hrow, hcs, _, rfl, trivial, n, o, r, im, rfl, ho, by rw [oa]; exact hA, hrow', him, _, rfl, trivial, h⟩, fun c => absurd fin c⟩


end Q
namespace Q
open PySem L2 DL
def top (i : Nat) : Stmt := PySem.Challenge.pw_hindsage_k96_whole_direct_judged.main.body.getD i (.Pass ⟨0, 0, 0, 0⟩)
abbrev s__law_cell : Stmt := top 43
abbrev s__law_source : Stmt := top 44
abbrev s__law_draw : Stmt := top 45
abbrev s__law_asks : Stmt := top 48
abbrev s__law_states : Stmt := top 49
abbrev s__law_prices : Stmt := top 50
abbrev s__law_change : Stmt := top 52
abbrev s__law_changes : Stmt := top 53
abbrev s__law_any_table : Stmt := top 51
abbrev s__law_served : Stmt := top 54
abbrev s__law_world : Stmt := top 55
abbrev s__law_small : Stmt := top 60
abbrev s__law_raised : Stmt := top 56
abbrev s__law_moved : Stmt := top 57
abbrev s__law_above_image : Stmt := top 62
abbrev s__law_is_int : Stmt := top 46
abbrev s__law_right : Stmt := top 63
abbrev s__law_lists : Stmt := top 58
abbrev s_is_asks : Stmt := top 18
abbrev s_check_asks : Stmt := top 19
abbrev s_is_listed : Stmt := top 16
abbrev s_is_integer : Stmt := top 14
abbrev s_integers : Stmt := top 24
abbrev s_is_table : Stmt := top 27
abbrev s_are_costs : Stmt := top 28
abbrev s_deep : Stmt := top 17
abbrev s_Store___init__ : Stmt := inClass (top 29) 0
abbrev s__law_stored : Stmt := top 61
abbrev s__law_changed : Stmt := top 64
abbrev s_check_stores : Stmt := top 35
abbrev s_is_count : Stmt := top 15
abbrev s_is_direct : Stmt := top 37
abbrev s_slack : Stmt := top 36
abbrev s_judge_direct : Stmt := top 38
abbrev s__law_exact : Stmt := top 47
abbrev s__law_row : Stmt := top 59
abbrev s__law_course_pays : Stmt := top 65
abbrev s_row_over : Stmt := top 20
abbrev s_check_row : Stmt := top 21
abbrev s_is_course : Stmt := top 40
abbrev s_numbers_of : Stmt := top 23
abbrev s_paid : Stmt := top 41
abbrev s_law : Stmt := top 66
structure Facts (K : PySem.W.Frag) (mg : Str → Option Value) : Prop where
  kf : KF K
  g__law_cell : mg "_law_cell" = some (.ref (He.ga K "_law_cell"))
  g__law_source : mg "_law_source" = some (.ref (He.ga K "_law_source"))
  g__law_draw : mg "_law_draw" = some (.ref (He.ga K "_law_draw"))
  g__law_asks : mg "_law_asks" = some (.ref (He.ga K "_law_asks"))
  g__law_states : mg "_law_states" = some (.ref (He.ga K "_law_states"))
  g__law_prices : mg "_law_prices" = some (.ref (He.ga K "_law_prices"))
  g__law_change : mg "_law_change" = some (.ref (He.ga K "_law_change"))
  g__law_changes : mg "_law_changes" = some (.ref (He.ga K "_law_changes"))
  g__law_any_table : mg "_law_any_table" = some (.ref (He.ga K "_law_any_table"))
  g__law_served : mg "_law_served" = some (.ref (He.ga K "_law_served"))
  g__law_world : mg "_law_world" = some (.ref (He.ga K "_law_world"))
  g__law_small : mg "_law_small" = some (.ref (He.ga K "_law_small"))
  g__law_raised : mg "_law_raised" = some (.ref (He.ga K "_law_raised"))
  g__law_moved : mg "_law_moved" = some (.ref (He.ga K "_law_moved"))
  g__law_above_image : mg "_law_above_image" = some (.ref (He.ga K "_law_above_image"))
  g__law_is_int : mg "_law_is_int" = some (.ref (He.ga K "_law_is_int"))
  g__law_right : mg "_law_right" = some (.ref (He.ga K "_law_right"))
  g__law_lists : mg "_law_lists" = some (.ref (He.ga K "_law_lists"))
  g_is_asks : mg "is_asks" = some (.ref (He.ga K "is_asks"))
  g_check_asks : mg "check_asks" = some (.ref (He.ga K "check_asks"))
  g_is_listed : mg "is_listed" = some (.ref (He.ga K "is_listed"))
  g_is_integer : mg "is_integer" = some (.ref (He.ga K "is_integer"))
  g_integers : mg "integers" = some (.ref (He.ga K "integers"))
  g_is_table : mg "is_table" = some (.ref (He.ga K "is_table"))
  g_are_costs : mg "are_costs" = some (.ref (He.ga K "are_costs"))
  g_deep : mg "deep" = some (.ref (He.ga K "deep"))
  g__law_stored : mg "_law_stored" = some (.ref (He.ga K "_law_stored"))
  g__law_changed : mg "_law_changed" = some (.ref (He.ga K "_law_changed"))
  g_check_stores : mg "check_stores" = some (.ref (He.ga K "check_stores"))
  g_is_count : mg "is_count" = some (.ref (He.ga K "is_count"))
  g_is_direct : mg "is_direct" = some (.ref (He.ga K "is_direct"))
  g_slack : mg "slack" = some (.ref (He.ga K "slack"))
  g_judge_direct : mg "judge_direct" = some (.ref (He.ga K "judge_direct"))
  g__law_exact : mg "_law_exact" = some (.ref (He.ga K "_law_exact"))
  g__law_row : mg "_law_row" = some (.ref (He.ga K "_law_row"))
  g__law_course_pays : mg "_law_course_pays" = some (.ref (He.ga K "_law_course_pays"))
  g_row_over : mg "row_over" = some (.ref (He.ga K "row_over"))
  g_check_row : mg "check_row" = some (.ref (He.ga K "check_row"))
  g_is_course : mg "is_course" = some (.ref (He.ga K "is_course"))
  g_numbers_of : mg "numbers_of" = some (.ref (He.ga K "numbers_of"))
  g_paid : mg "paid" = some (.ref (He.ga K "paid"))
  g_law : mg "law" = some (.ref (He.ga K "law"))
  gc_Store : mg "Store" = some (.ref (He.ga K "Store"))
  n_abs : mg "abs" = none
  n_bool : mg "bool" = none
  n_enumerate : mg "enumerate" = none
  n_int : mg "int" = none
  n_isinstance : mg "isinstance" = none
  n_len : mg "len" = none
  n_list : mg "list" = none
  n_max : mg "max" = none
  n_min : mg "min" = none
  n_range : mg "range" = none
  n_str : mg "str" = none
  n_sum : mg "sum" = none
  n_tuple : mg "tuple" = none
  n_zip : mg "zip" = none
  c_LETTERS : ∃ u, mg "LETTERS" = some u ∧ RelV (.str "abcdefgh") u
  c_LONGEST : ∃ u, mg "LONGEST" = some u ∧ RelV (.int 2000) u
  c_MOST_STATES : ∃ u, mg "MOST_STATES" = some u ∧ RelV (.int 1000) u
  mk_Store : Mk K (He.ga K "Store") (He.ma K (He.ga K "Store") "__init__")
  d__law_cell : ∃ fd, FunD K "_law_cell" "_law_cell" (defArgs s__law_cell) (defBody s__law_cell) (defScope s__law_cell) [] [] (He.ga K "_law_cell") fd
  d__law_source : ∃ fd, FunD K "_law_source" "_law_source" (defArgs s__law_source) (defBody s__law_source) (defScope s__law_source) [] [] (He.ga K "_law_source") fd
  d__law_draw : ∃ fd, FunD K "_law_draw" "_law_draw" (defArgs s__law_draw) (defBody s__law_draw) (defScope s__law_draw) [] [] (He.ga K "_law_draw") fd
  d__law_asks : ∃ fd, FunD K "_law_asks" "_law_asks" (defArgs s__law_asks) (defBody s__law_asks) (defScope s__law_asks) [] [] (He.ga K "_law_asks") fd
  d__law_states : ∃ fd, FunD K "_law_states" "_law_states" (defArgs s__law_states) (defBody s__law_states) (defScope s__law_states) [] [] (He.ga K "_law_states") fd
  d__law_prices : ∃ fd, FunD K "_law_prices" "_law_prices" (defArgs s__law_prices) (defBody s__law_prices) (defScope s__law_prices) [] [] (He.ga K "_law_prices") fd
  d__law_change : ∃ fd, FunD K "_law_change" "_law_change" (defArgs s__law_change) (defBody s__law_change) (defScope s__law_change) [] [] (He.ga K "_law_change") fd
  d__law_changes : ∃ fd, FunD K "_law_changes" "_law_changes" (defArgs s__law_changes) (defBody s__law_changes) (defScope s__law_changes) [] [] (He.ga K "_law_changes") fd
  d__law_any_table : ∃ fd, FunD K "_law_any_table" "_law_any_table" (defArgs s__law_any_table) (defBody s__law_any_table) (defScope s__law_any_table) [] [] (He.ga K "_law_any_table") fd
  d__law_served : ∃ fd, FunD K "_law_served" "_law_served" (defArgs s__law_served) (defBody s__law_served) (defScope s__law_served) [] [] (He.ga K "_law_served") fd
  d__law_world : ∃ fd, FunD K "_law_world" "_law_world" (defArgs s__law_world) (defBody s__law_world) (defScope s__law_world) [] [] (He.ga K "_law_world") fd
  d__law_small : ∃ fd, FunD K "_law_small" "_law_small" (defArgs s__law_small) (defBody s__law_small) (defScope s__law_small) [] [] (He.ga K "_law_small") fd
  d__law_raised : ∃ fd, FunD K "_law_raised" "_law_raised" (defArgs s__law_raised) (defBody s__law_raised) (defScope s__law_raised) [] [] (He.ga K "_law_raised") fd
  d__law_moved : ∃ fd, FunD K "_law_moved" "_law_moved" (defArgs s__law_moved) (defBody s__law_moved) (defScope s__law_moved) [] [] (He.ga K "_law_moved") fd
  d__law_above_image : ∃ fd, FunD K "_law_above_image" "_law_above_image" (defArgs s__law_above_image) (defBody s__law_above_image) (defScope s__law_above_image) [] [] (He.ga K "_law_above_image") fd
  d__law_is_int : ∃ fd, FunD K "_law_is_int" "_law_is_int" (defArgs s__law_is_int) (defBody s__law_is_int) (defScope s__law_is_int) [] [] (He.ga K "_law_is_int") fd
  d__law_right : ∃ fd, FunD K "_law_right" "_law_right" (defArgs s__law_right) (defBody s__law_right) (defScope s__law_right) [] [] (He.ga K "_law_right") fd
  d__law_lists : ∃ fd, FunD K "_law_lists" "_law_lists" (defArgs s__law_lists) (defBody s__law_lists) (defScope s__law_lists) [] [] (He.ga K "_law_lists") fd
  d_is_asks : ∃ fd, FunD K "is_asks" "is_asks" (defArgs s_is_asks) (defBody s_is_asks) (defScope s_is_asks) [] [] (He.ga K "is_asks") fd
  d_check_asks : ∃ fd, FunD K "check_asks" "check_asks" (defArgs s_check_asks) (defBody s_check_asks) (defScope s_check_asks) [] [] (He.ga K "check_asks") fd
  d_is_listed : ∃ fd, FunD K "is_listed" "is_listed" (defArgs s_is_listed) (defBody s_is_listed) (defScope s_is_listed) [] [] (He.ga K "is_listed") fd
  d_is_integer : ∃ fd, FunD K "is_integer" "is_integer" (defArgs s_is_integer) (defBody s_is_integer) (defScope s_is_integer) [] [] (He.ga K "is_integer") fd
  d_integers : ∃ fd, FunD K "integers" "integers" (defArgs s_integers) (defBody s_integers) (defScope s_integers) [] [] (He.ga K "integers") fd
  d_is_table : ∃ fd, FunD K "is_table" "is_table" (defArgs s_is_table) (defBody s_is_table) (defScope s_is_table) [] [] (He.ga K "is_table") fd
  d_are_costs : ∃ fd, FunD K "are_costs" "are_costs" (defArgs s_are_costs) (defBody s_are_costs) (defScope s_are_costs) [] [] (He.ga K "are_costs") fd
  d_deep : ∃ fd, FunD K "deep" "deep" (defArgs s_deep) (defBody s_deep) (defScope s_deep) [] [] (He.ga K "deep") fd
  d_Store___init__ : ∃ fd, FunD K "__init__" "Store.__init__" (defArgs s_Store___init__) (defBody s_Store___init__) (defScope s_Store___init__) [] [] (He.ma K (He.ga K "Store") "__init__") fd
  d__law_stored : ∃ fd, FunD K "_law_stored" "_law_stored" (defArgs s__law_stored) (defBody s__law_stored) (defScope s__law_stored) [] [] (He.ga K "_law_stored") fd
  d__law_changed : ∃ fd, FunD K "_law_changed" "_law_changed" (defArgs s__law_changed) (defBody s__law_changed) (defScope s__law_changed) [] [] (He.ga K "_law_changed") fd
  d_check_stores : ∃ fd, FunD K "check_stores" "check_stores" (defArgs s_check_stores) (defBody s_check_stores) (defScope s_check_stores) [] [] (He.ga K "check_stores") fd
  d_is_count : ∃ fd, FunD K "is_count" "is_count" (defArgs s_is_count) (defBody s_is_count) (defScope s_is_count) [] [] (He.ga K "is_count") fd
  d_is_direct : ∃ fd, FunD K "is_direct" "is_direct" (defArgs s_is_direct) (defBody s_is_direct) (defScope s_is_direct) [] [] (He.ga K "is_direct") fd
  d_slack : ∃ fd, FunD K "slack" "slack" (defArgs s_slack) (defBody s_slack) (defScope s_slack) [] [] (He.ga K "slack") fd
  d_judge_direct : ∃ fd, FunD K "judge_direct" "judge_direct" (defArgs s_judge_direct) (defBody s_judge_direct) (defScope s_judge_direct) [] [] (He.ga K "judge_direct") fd
  d__law_exact : ∃ fd, FunD K "_law_exact" "_law_exact" (defArgs s__law_exact) (defBody s__law_exact) (defScope s__law_exact) [] [] (He.ga K "_law_exact") fd
  d__law_row : ∃ fd, FunD K "_law_row" "_law_row" (defArgs s__law_row) (defBody s__law_row) (defScope s__law_row) [] [] (He.ga K "_law_row") fd
  d__law_course_pays : ∃ fd, FunD K "_law_course_pays" "_law_course_pays" (defArgs s__law_course_pays) (defBody s__law_course_pays) (defScope s__law_course_pays) [] [] (He.ga K "_law_course_pays") fd
  d_row_over : ∃ fd, FunD K "row_over" "row_over" (defArgs s_row_over) (defBody s_row_over) (defScope s_row_over) [] [] (He.ga K "row_over") fd
  d_check_row : ∃ fd, FunD K "check_row" "check_row" (defArgs s_check_row) (defBody s_check_row) (defScope s_check_row) [] [] (He.ga K "check_row") fd
  d_is_course : ∃ fd, FunD K "is_course" "is_course" (defArgs s_is_course) (defBody s_is_course) (defScope s_is_course) [] [] (He.ga K "is_course") fd
  d_numbers_of : ∃ fd, FunD K "numbers_of" "numbers_of" (defArgs s_numbers_of) (defBody s_numbers_of) (defScope s_numbers_of) [] [] (He.ga K "numbers_of") fd
  d_paid : ∃ fd, FunD K "paid" "paid" (defArgs s_paid) (defBody s_paid) (defScope s_paid) [] [] (He.ga K "paid") fd
  d_law : ∃ fd, FunD K "law" "law" (defArgs s_law) (defBody s_law) (defScope s_law) [] [] (He.ga K "law") fd
def fn : List He.DefD := [⟨("_law_cell", none), "_law_cell", "_law_cell", defArgs s__law_cell, defBody s__law_cell, defScope s__law_cell, [], []⟩, ⟨("_law_source", none), "_law_source", "_law_source", defArgs s__law_source, defBody s__law_source, defScope s__law_source, [], []⟩, ⟨("_law_draw", none), "_law_draw", "_law_draw", defArgs s__law_draw, defBody s__law_draw, defScope s__law_draw, [], []⟩, ⟨("_law_asks", none), "_law_asks", "_law_asks", defArgs s__law_asks, defBody s__law_asks, defScope s__law_asks, [], []⟩, ⟨("_law_states", none), "_law_states", "_law_states", defArgs s__law_states, defBody s__law_states, defScope s__law_states, [], []⟩, ⟨("_law_prices", none), "_law_prices", "_law_prices", defArgs s__law_prices, defBody s__law_prices, defScope s__law_prices, [], []⟩, ⟨("_law_change", none), "_law_change", "_law_change", defArgs s__law_change, defBody s__law_change, defScope s__law_change, [], []⟩, ⟨("_law_changes", none), "_law_changes", "_law_changes", defArgs s__law_changes, defBody s__law_changes, defScope s__law_changes, [], []⟩, ⟨("_law_any_table", none), "_law_any_table", "_law_any_table", defArgs s__law_any_table, defBody s__law_any_table, defScope s__law_any_table, [], []⟩, ⟨("_law_served", none), "_law_served", "_law_served", defArgs s__law_served, defBody s__law_served, defScope s__law_served, [], []⟩, ⟨("_law_world", none), "_law_world", "_law_world", defArgs s__law_world, defBody s__law_world, defScope s__law_world, [], []⟩, ⟨("_law_small", none), "_law_small", "_law_small", defArgs s__law_small, defBody s__law_small, defScope s__law_small, [], []⟩, ⟨("_law_raised", none), "_law_raised", "_law_raised", defArgs s__law_raised, defBody s__law_raised, defScope s__law_raised, [], []⟩, ⟨("_law_moved", none), "_law_moved", "_law_moved", defArgs s__law_moved, defBody s__law_moved, defScope s__law_moved, [], []⟩, ⟨("_law_above_image", none), "_law_above_image", "_law_above_image", defArgs s__law_above_image, defBody s__law_above_image, defScope s__law_above_image, [], []⟩, ⟨("_law_is_int", none), "_law_is_int", "_law_is_int", defArgs s__law_is_int, defBody s__law_is_int, defScope s__law_is_int, [], []⟩, ⟨("_law_right", none), "_law_right", "_law_right", defArgs s__law_right, defBody s__law_right, defScope s__law_right, [], []⟩, ⟨("_law_lists", none), "_law_lists", "_law_lists", defArgs s__law_lists, defBody s__law_lists, defScope s__law_lists, [], []⟩, ⟨("is_asks", none), "is_asks", "is_asks", defArgs s_is_asks, defBody s_is_asks, defScope s_is_asks, [], []⟩, ⟨("check_asks", none), "check_asks", "check_asks", defArgs s_check_asks, defBody s_check_asks, defScope s_check_asks, [], []⟩, ⟨("is_listed", none), "is_listed", "is_listed", defArgs s_is_listed, defBody s_is_listed, defScope s_is_listed, [], []⟩, ⟨("is_integer", none), "is_integer", "is_integer", defArgs s_is_integer, defBody s_is_integer, defScope s_is_integer, [], []⟩, ⟨("integers", none), "integers", "integers", defArgs s_integers, defBody s_integers, defScope s_integers, [], []⟩, ⟨("is_table", none), "is_table", "is_table", defArgs s_is_table, defBody s_is_table, defScope s_is_table, [], []⟩, ⟨("are_costs", none), "are_costs", "are_costs", defArgs s_are_costs, defBody s_are_costs, defScope s_are_costs, [], []⟩, ⟨("deep", none), "deep", "deep", defArgs s_deep, defBody s_deep, defScope s_deep, [], []⟩, ⟨("Store", some "__init__"), "__init__", "Store.__init__", defArgs s_Store___init__, defBody s_Store___init__, defScope s_Store___init__, [], []⟩, ⟨("_law_stored", none), "_law_stored", "_law_stored", defArgs s__law_stored, defBody s__law_stored, defScope s__law_stored, [], []⟩, ⟨("_law_changed", none), "_law_changed", "_law_changed", defArgs s__law_changed, defBody s__law_changed, defScope s__law_changed, [], []⟩, ⟨("check_stores", none), "check_stores", "check_stores", defArgs s_check_stores, defBody s_check_stores, defScope s_check_stores, [], []⟩, ⟨("is_count", none), "is_count", "is_count", defArgs s_is_count, defBody s_is_count, defScope s_is_count, [], []⟩, ⟨("is_direct", none), "is_direct", "is_direct", defArgs s_is_direct, defBody s_is_direct, defScope s_is_direct, [], []⟩, ⟨("slack", none), "slack", "slack", defArgs s_slack, defBody s_slack, defScope s_slack, [], []⟩, ⟨("judge_direct", none), "judge_direct", "judge_direct", defArgs s_judge_direct, defBody s_judge_direct, defScope s_judge_direct, [], []⟩, ⟨("_law_exact", none), "_law_exact", "_law_exact", defArgs s__law_exact, defBody s__law_exact, defScope s__law_exact, [], []⟩, ⟨("_law_row", none), "_law_row", "_law_row", defArgs s__law_row, defBody s__law_row, defScope s__law_row, [], []⟩, ⟨("_law_course_pays", none), "_law_course_pays", "_law_course_pays", defArgs s__law_course_pays, defBody s__law_course_pays, defScope s__law_course_pays, [], []⟩, ⟨("row_over", none), "row_over", "row_over", defArgs s_row_over, defBody s_row_over, defScope s_row_over, [], []⟩, ⟨("check_row", none), "check_row", "check_row", defArgs s_check_row, defBody s_check_row, defScope s_check_row, [], []⟩, ⟨("is_course", none), "is_course", "is_course", defArgs s_is_course, defBody s_is_course, defScope s_is_course, [], []⟩, ⟨("numbers_of", none), "numbers_of", "numbers_of", defArgs s_numbers_of, defBody s_numbers_of, defScope s_numbers_of, [], []⟩, ⟨("paid", none), "paid", "paid", defArgs s_paid, defBody s_paid, defScope s_paid, [], []⟩, ⟨("law", none), "law", "law", defArgs s_law, defBody s_law, defScope s_law, [], []⟩]
def fa : List He.Fa := [.glo "_law_cell", .glo "_law_source", .glo "_law_draw", .glo "_law_asks", .glo "_law_states", .glo "_law_prices", .glo "_law_change", .glo "_law_changes", .glo "_law_any_table", .glo "_law_served", .glo "_law_world", .glo "_law_small", .glo "_law_raised", .glo "_law_moved", .glo "_law_above_image", .glo "_law_is_int", .glo "_law_right", .glo "_law_lists", .glo "is_asks", .glo "check_asks", .glo "is_listed", .glo "is_integer", .glo "integers", .glo "is_table", .glo "are_costs", .glo "deep", .glo "_law_stored", .glo "_law_changed", .glo "check_stores", .glo "is_count", .glo "is_direct", .glo "slack", .glo "judge_direct", .glo "_law_exact", .glo "_law_row", .glo "_law_course_pays", .glo "row_over", .glo "check_row", .glo "is_course", .glo "numbers_of", .glo "paid", .glo "law", .glo "Store", .free "abs", .free "bool", .free "enumerate", .free "int", .free "isinstance", .free "len", .free "list", .free "max", .free "min", .free "range", .free "str", .free "sum", .free "tuple", .free "zip", .str "LETTERS" "abcdefgh", .int "LONGEST" 2000, .int "MOST_STATES" 1000, .mkr "Store", .cls "Store", .noat "Store" "asks", .noat "Store" "begins", .noat "Store" "costs", .noat "Store" "ends"]
theorem gint {K : PySem.W.Frag} {h : Heap} {mg : Str → Option Value} (X : K.In h) (G : h.Ns mainGlobals mg) {x : Str} {i : Int} (c : (He.Fa.int x i).ok K = true) : ∃ u, mg x = some u ∧ RelV (.int i) u := by
  obtain ⟨t, e⟩ := He.int_ok X G c
  exact ⟨_, e, t, rfl⟩
theorem gstr {K : PySem.W.Frag} {h : Heap} {mg : Str → Option Value} (X : K.In h) (G : h.Ns mainGlobals mg) {x z : Str} (c : (He.Fa.str x z).ok K = true) : ∃ u, mg x = some u ∧ RelV (.str z) u := by
  obtain ⟨t, e⟩ := He.str_ok X G c
  exact ⟨_, e, t, rfl⟩
theorem facts {K : PySem.W.Frag} {h : Heap} {mg : Str → Option Value} (X : K.In h) (G : h.Ns mainGlobals mg) (c : He.SaysD fa fn K) : Facts K mg := by
  refine ⟨⟨He.cls_ok (c.fact 61 rfl), He.noat_ok (c.fact 62 rfl), He.noat_ok (c.fact 63 rfl), He.noat_ok (c.fact 64 rfl), He.noat_ok (c.fact 65 rfl)⟩, He.glo_ok X G (c.fact 0 rfl), He.glo_ok X G (c.fact 1 rfl), He.glo_ok X G (c.fact 2 rfl), He.glo_ok X G (c.fact 3 rfl), He.glo_ok X G (c.fact 4 rfl), He.glo_ok X G (c.fact 5 rfl), He.glo_ok X G (c.fact 6 rfl), He.glo_ok X G (c.fact 7 rfl), He.glo_ok X G (c.fact 8 rfl), He.glo_ok X G (c.fact 9 rfl), He.glo_ok X G (c.fact 10 rfl), He.glo_ok X G (c.fact 11 rfl), He.glo_ok X G (c.fact 12 rfl), He.glo_ok X G (c.fact 13 rfl), He.glo_ok X G (c.fact 14 rfl), He.glo_ok X G (c.fact 15 rfl), He.glo_ok X G (c.fact 16 rfl), He.glo_ok X G (c.fact 17 rfl), He.glo_ok X G (c.fact 18 rfl), He.glo_ok X G (c.fact 19 rfl), He.glo_ok X G (c.fact 20 rfl), He.glo_ok X G (c.fact 21 rfl), He.glo_ok X G (c.fact 22 rfl), He.glo_ok X G (c.fact 23 rfl), He.glo_ok X G (c.fact 24 rfl), He.glo_ok X G (c.fact 25 rfl), He.glo_ok X G (c.fact 26 rfl), He.glo_ok X G (c.fact 27 rfl), He.glo_ok X G (c.fact 28 rfl), He.glo_ok X G (c.fact 29 rfl), He.glo_ok X G (c.fact 30 rfl), He.glo_ok X G (c.fact 31 rfl), He.glo_ok X G (c.fact 32 rfl), He.glo_ok X G (c.fact 33 rfl), He.glo_ok X G (c.fact 34 rfl), He.glo_ok X G (c.fact 35 rfl), He.glo_ok X G (c.fact 36 rfl), He.glo_ok X G (c.fact 37 rfl), He.glo_ok X G (c.fact 38 rfl), He.glo_ok X G (c.fact 39 rfl), He.glo_ok X G (c.fact 40 rfl), He.glo_ok X G (c.fact 41 rfl), He.glo_ok X G (c.fact 42 rfl), He.free_ok X G (c.fact 43 rfl), He.free_ok X G (c.fact 44 rfl), He.free_ok X G (c.fact 45 rfl), He.free_ok X G (c.fact 46 rfl), He.free_ok X G (c.fact 47 rfl), He.free_ok X G (c.fact 48 rfl), He.free_ok X G (c.fact 49 rfl), He.free_ok X G (c.fact 50 rfl), He.free_ok X G (c.fact 51 rfl), He.free_ok X G (c.fact 52 rfl), He.free_ok X G (c.fact 53 rfl), He.free_ok X G (c.fact 54 rfl), He.free_ok X G (c.fact 55 rfl), He.free_ok X G (c.fact 56 rfl), gstr X G (c.fact 57 rfl), gint X G (c.fact 58 rfl), gint X G (c.fact 59 rfl), He.mkr_ok (c.fact 60 rfl), c.def_ 0 rfl, c.def_ 1 rfl, c.def_ 2 rfl, c.def_ 3 rfl, c.def_ 4 rfl, c.def_ 5 rfl, c.def_ 6 rfl, c.def_ 7 rfl, c.def_ 8 rfl, c.def_ 9 rfl, c.def_ 10 rfl, c.def_ 11 rfl, c.def_ 12 rfl, c.def_ 13 rfl, c.def_ 14 rfl, c.def_ 15 rfl, c.def_ 16 rfl, c.def_ 17 rfl, c.def_ 18 rfl, c.def_ 19 rfl, c.def_ 20 rfl, c.def_ 21 rfl, c.def_ 22 rfl, c.def_ 23 rfl, c.def_ 24 rfl, c.def_ 25 rfl, c.def_ 26 rfl, c.def_ 27 rfl, c.def_ 28 rfl, c.def_ 29 rfl, c.def_ 30 rfl, c.def_ 31 rfl, c.def_ 32 rfl, c.def_ 33 rfl, c.def_ 34 rfl, c.def_ 35 rfl, c.def_ 36 rfl, c.def_ 37 rfl, c.def_ 38 rfl, c.def_ 39 rfl, c.def_ 40 rfl, c.def_ 41 rfl, c.def_ 42 rfl⟩
end Q
namespace Q
open PySem PySem.Spec PyProof.Rows L2 DL
theorem sc__law_cell : FnScope N__law_cell ["script", "k"] (defScope s__law_cell) := ⟨rfl, rfl, rfl, by decide +kernel, rfl, by decide +kernel, by decide +kernel⟩
theorem ok__law_cell {P : Program} {w : World} {K : PySem.W.Frag} {mg : Str → Option Value} {base : Heap} (Z : Facts K mg) : Cal P w K mg base 1 "_law_cell" 2 (T__law_cell K) := by
  obtain ⟨fd, Fn⟩ := Z.d__law_cell
  refine ⟨_, fd, ["script", "k"], def_ok (k := 0) (N := N__law_cell) (B := []) Fn sc__law_cell ownB_p (fun cdv A outer s H E hr ok => ?_), Z.g__law_cell, Fn.kp, Fn.bindsN fun _ _ _ _ _ _ us hl => match us, hl with | [_, _], _ => rfl⟩
  refine ⟨_, dss_cons (ds_if (dt_cmp op_lt d_lt (de_var 1) (de_callB call_len d_len Z.n_len (by decide +kernel) (da_cons (de_var 0) (da_nil)))) (dss_one (ds_ret (de_ix (de_var 0) (de_var 1)))) (dss_nil)) (dss_one (ds_ret (de_addA (de_mul (de_int) (de_addA (de_var 1) (de_int))) (de_mul (de_int) (de_mod (de_callT call_int1 d_int1 Z.n_int (by decide +kernel) (da_cons (de_callB (cr_sum rfl) d_sum Z.n_sum (by decide +kernel) (da_cons (de_new (dn_slice (de_var 0) (do_none) (do_some (de_int)))) (da_nil))) (da_nil))) (de_int)))))), ?_⟩
  exact p__law_cell K Z.kf
theorem sc__law_source : FnScope N__law_source ["script", "k"] (defScope s__law_source) := ⟨rfl, rfl, rfl, by decide +kernel, rfl, by decide +kernel, by decide +kernel⟩
theorem ok__law_source {P : Program} {w : World} {K : PySem.W.Frag} {mg : Str → Option Value} {base : Heap} (Z : Facts K mg) : Cal P w K mg base 2 "_law_source" 2 (T__law_source K) := by
  obtain ⟨fd, Fn⟩ := Z.d__law_source
  refine ⟨_, fd, ["script", "k"], def_ok (k := 1) (N := N__law_source) (B := []) Fn sc__law_source ownB_p (fun cdv A outer s H E hr ok => ?_), Z.g__law_source, Fn.kp, Fn.bindsN fun _ _ _ _ _ _ us hl => match us, hl with | [_, _], _ => rfl⟩
  refine ⟨_, dss_cons (ds_asg (e_call (ok__law_cell Z) (hr.mono (by decide)) ok (das_val (de_var 0) (das_val (de_var 1) (das_nil)))) (dg_name 2 ok.nd)) (dss_cons (ds_asg (de_callB call_abs d_abs Z.n_abs (by decide +kernel) (da_cons (de_var 2) (da_nil))) (dg_name 3 ok.nd)) (dss_cons (ds_if (dt_cmp op_ne d_ne (de_shr (de_var 3) (de_int)) (de_int)) (dss_one (ds_asg (de_mod (de_callT call_int1 d_int1 Z.n_int (by decide +kernel) (da_cons (de_var 3) (da_nil))) (de_pow (de_int) (de_int))) (dg_name 3 ok.nd))) (dss_nil)) (dss_cons (ds_asg (de_mod (de_callT call_int1 d_int1 Z.n_int (by decide +kernel) (da_cons (de_addA (de_addA (de_addA (de_mul (de_mod (de_callT call_int1 d_int1 Z.n_int (by decide +kernel) (da_cons (de_var 3) (da_nil))) (de_int)) (de_int)) (de_mul (de_int) (de_var 1))) (de_int)) (de_callT call_int1 d_int1 Z.n_int (by decide +kernel) (da_cons (de_cmp op_lt d_lt (de_var 2) (de_int)) (da_nil)))) (da_nil))) (de_int)) (dg_name 4 ok.nd)) (dss_cons (ds_if (dt_cmp op_ge d_ge (de_var 3) (de_pow (de_int) (de_int))) (dss_one (ds_retNew (dn_lst (da_cons (de_var 3) (da_cons (de_var 4) (da_cons (de_int) (da_nil))))))) (dss_nil)) (dss_one (ds_retNew (dn_lst (da_cons (de_int) (da_cons (de_var 4) (da_cons (de_int) (da_nil))))))))))), ?_⟩
  exact p__law_source K Z.kf
theorem sc__law_draw : FnScope N__law_draw ["source", "many"] (defScope s__law_draw) := ⟨rfl, rfl, rfl, by decide +kernel, rfl, by decide +kernel, by decide +kernel⟩
theorem ok__law_draw {P : Program} {w : World} {K : PySem.W.Frag} {mg : Str → Option Value} {base : Heap} (Z : Facts K mg) : Cal P w K mg base 1 "_law_draw" 2 (T__law_draw K) := by
  obtain ⟨fd, Fn⟩ := Z.d__law_draw
  refine ⟨_, fd, ["source", "many"], def_ok (k := 0) (N := N__law_draw) (B := [0]) Fn sc__law_draw ownB_o (fun cdv A outer s H E hr ok => ?_), Z.g__law_draw, Fn.kp, Fn.bindsN fun _ _ _ _ _ _ us hl => match us, hl with | [_, _], _ => rfl⟩
  refine ⟨_, dss_cons (ds_if (dt_cmp op_gt d_gt (de_ixO 0 (de_int)) (de_int)) (dss_cons (ds_asg (de_mod (de_callT call_int1 d_int1 Z.n_int (by decide +kernel) (da_cons (de_ixO 0 (de_int)) (da_nil))) (de_var 1)) (dg_name 2 ok.nd)) (dss_cons (ds_setIx 0 (de_div (de_ixO 0 (de_int)) (de_var 1)) (de_int)) (dss_one (ds_ret (de_var 2))))) (dss_nil)) (dss_cons (ds_setIx 0 (de_addA (de_ixO 0 (de_int)) (de_int)) (de_int)) (dss_cons (ds_setIx 0 (de_mod (de_callT call_int1 d_int1 Z.n_int (by decide +kernel) (da_cons (de_addA (de_addA (de_mul (de_ixO 0 (de_int)) (de_int)) (de_mul (de_ixO 0 (de_int)) (de_int))) (de_int)) (da_nil))) (de_int)) (de_int)) (dss_cons (ds_asg (de_mod (de_callT call_int1 d_int1 Z.n_int (by decide +kernel) (da_cons (de_addA (de_mul (de_ixO 0 (de_int)) (de_addA (de_ixO 0 (de_int)) (de_int))) (de_mul (de_ixO 0 (de_int)) (de_int))) (da_nil))) (de_int)) (dg_name 3 ok.nd)) (dss_one (ds_ret (de_mod (de_callT call_int1 d_int1 Z.n_int (by decide +kernel) (da_cons (de_div (de_var 3) (de_int)) (da_nil))) (de_var 1))))))), ?_⟩
  exact p__law_draw K Z.kf
theorem sc__law_asks : FnScope N__law_asks ["source"] (defScope s__law_asks) := ⟨rfl, rfl, rfl, by decide +kernel, rfl, by decide +kernel, by decide +kernel⟩
theorem ok__law_asks {P : Program} {w : World} {K : PySem.W.Frag} {mg : Str → Option Value} {base : Heap} (Z : Facts K mg) : Cal P w K mg base 2 "_law_asks" 1 (T__law_asks K) := by
  obtain ⟨fd, Fn⟩ := Z.d__law_asks
  refine ⟨_, fd, ["source"], def_ok (k := 1) (N := N__law_asks) (B := [0]) Fn sc__law_asks ownB_o (fun cdv A outer s H E hr ok => ?_), Z.g__law_asks, Fn.kp, Fn.bindsN fun _ _ _ _ _ _ us hl => match us, hl with | [_], _ => rfl⟩
  refine ⟨_, dss_one (ds_ret (de_ix (de_new (dn_lst (da_cons (de_str) (da_cons (de_str) (da_cons (de_str) (da_cons (de_str) (da_cons (de_str) (da_cons (de_str) (da_cons (de_str) (da_cons (de_str) (da_nil))))))))))) (e_call (ok__law_draw Z) (hr.mono (by decide)) ok (das_own 0 (das_val (de_int) (das_nil)))))), ?_⟩
  exact p__law_asks K Z.kf
theorem sc__law_states : FnScope N__law_states ["source"] (defScope s__law_states) := ⟨rfl, rfl, rfl, by decide +kernel, rfl, by decide +kernel, by decide +kernel⟩
theorem ok__law_states {P : Program} {w : World} {K : PySem.W.Frag} {mg : Str → Option Value} {base : Heap} (Z : Facts K mg) : Cal P w K mg base 2 "_law_states" 1 (T__law_states K) := by
  obtain ⟨fd, Fn⟩ := Z.d__law_states
  refine ⟨_, fd, ["source"], def_ok (k := 1) (N := N__law_states) (B := [0]) Fn sc__law_states ownB_o (fun cdv A outer s H E hr ok => ?_), Z.g__law_states, Fn.kp, Fn.bindsN fun _ _ _ _ _ _ us hl => match us, hl with | [_], _ => rfl⟩
  refine ⟨_, dss_one (ds_ret (de_ix (de_new (dn_lst (da_cons (de_int) (da_cons (de_int) (da_cons (de_int) (da_cons (de_int) (da_cons (de_int) (da_cons (de_int) (da_cons (de_int) (da_cons (de_int) (da_nil))))))))))) (e_call (ok__law_draw Z) (hr.mono (by decide)) ok (das_own 0 (das_val (de_int) (das_nil)))))), ?_⟩
  exact p__law_states K Z.kf
theorem sc__law_prices : FnScope N__law_prices ["source", "many", "most"] (defScope s__law_prices) := ⟨rfl, rfl, rfl, by decide +kernel, rfl, by decide +kernel, by decide +kernel⟩
theorem ok__law_prices {P : Program} {w : World} {K : PySem.W.Frag} {mg : Str → Option Value} {base : Heap} (Z : Facts K mg) : Cal P w K mg base 2 "_law_prices" 3 (T__law_prices K) := by
  obtain ⟨fd, Fn⟩ := Z.d__law_prices
  refine ⟨_, fd, ["source", "many", "most"], def_ok (k := 1) (N := N__law_prices) (B := [0]) Fn sc__law_prices ownB_o (fun cdv A outer s H E hr ok => ?_), Z.g__law_prices, Fn.kp, Fn.bindsN fun _ _ _ _ _ _ us hl => match us, hl with | [_, _, _], _ => rfl⟩
  refine ⟨_, dss_one (ds_retNew (dn_comp (own := [("k", 3)]) ok (di_rng1 (da_cons (de_var 1) (da_nil)) Z.n_range) (by kernel_rfl) (by decide) (fun _ => dg_name 3 ok.nd) (fun _ => dts_nil) (fun _ => e_call (ok__law_draw Z) (hr.mono (by decide)) ok.blk (das_own 0 (das_val (de_addA (de_var 2) (de_int)) (das_nil)))))), ?_⟩
  exact p__law_prices K Z.kf
theorem sc__law_change : FnScope N__law_change ["source", "s", "t", "most"] (defScope s__law_change) := ⟨rfl, rfl, rfl, by decide +kernel, rfl, by decide +kernel, by decide +kernel⟩
theorem ok__law_change {P : Program} {w : World} {K : PySem.W.Frag} {mg : Str → Option Value} {base : Heap} (Z : Facts K mg) : Cal P w K mg base 2 "_law_change" 4 (T__law_change K) := by
  obtain ⟨fd, Fn⟩ := Z.d__law_change
  refine ⟨_, fd, ["source", "s", "t", "most"], def_ok (k := 1) (N := N__law_change) (B := [0]) Fn sc__law_change ownB_o (fun cdv A outer s H E hr ok => ?_), Z.g__law_change, Fn.kp, Fn.bindsN fun _ _ _ _ _ _ us hl => match us, hl with | [_, _, _, _], _ => rfl⟩
  refine ⟨_, dss_cons (ds_if (dt_cmp op_eq d_eq (de_var 1) (de_var 2)) (dss_one (ds_ret (de_int))) (dss_nil)) (dss_one (ds_ret (de_addA (de_int) (e_call (ok__law_draw Z) (hr.mono (by decide)) ok (das_own 0 (das_val (de_var 3) (das_nil))))))), ?_⟩
  exact p__law_change K Z.kf
theorem sc__law_changes : FnScope N__law_changes ["source", "many", "most"] (defScope s__law_changes) := ⟨rfl, rfl, rfl, by decide +kernel, rfl, by decide +kernel, by decide +kernel⟩
theorem ok__law_changes {P : Program} {w : World} {K : PySem.W.Frag} {mg : Str → Option Value} {base : Heap} (Z : Facts K mg) : Cal P w K mg base 3 "_law_changes" 3 (T__law_changes K) := by
  obtain ⟨fd, Fn⟩ := Z.d__law_changes
  refine ⟨_, fd, ["source", "many", "most"], def_ok (k := 2) (N := N__law_changes) (B := [0]) Fn sc__law_changes ownB_o (fun cdv A outer s H E hr ok => ?_), Z.g__law_changes, Fn.kp, Fn.bindsN fun _ _ _ _ _ _ us hl => match us, hl with | [_, _, _], _ => rfl⟩
  refine ⟨_, dss_cons (ds_own 3 (dn_lst (da_nil)) ok.nd) (dss_cons (ds_for ok (di_rng1 (da_cons (de_var 1) (da_nil)) Z.n_range) (dg_name 4 ok.nd) (dss_one (ds_append 3 (de_new (dn_comp (own := [("t", 5)]) ok (di_rng1 (da_cons (de_var 1) (da_nil)) Z.n_range) (by kernel_rfl) (by decide) (fun _ => dg_name 5 ok.nd) (fun _ => dts_nil) (fun _ => e_call (ok__law_change Z) (hr.mono (by decide)) ok.blk (das_own 0 (das_val (de_var 4) (das_val (de_var 5) (das_val (de_var 2) (das_nil))))))))))) (dss_one (ds_retO 3))), ?_⟩
  exact p__law_changes K Z.kf
theorem sc__law_any_table : FnScope N__law_any_table ["source", "many", "most"] (defScope s__law_any_table) := ⟨rfl, rfl, rfl, by decide +kernel, rfl, by decide +kernel, by decide +kernel⟩
theorem ok__law_any_table {P : Program} {w : World} {K : PySem.W.Frag} {mg : Str → Option Value} {base : Heap} (Z : Facts K mg) : Cal P w K mg base 3 "_law_any_table" 3 (T__law_any_table K) := by
  obtain ⟨fd, Fn⟩ := Z.d__law_any_table
  refine ⟨_, fd, ["source", "many", "most"], def_ok (k := 2) (N := N__law_any_table) (B := [0]) Fn sc__law_any_table ownB_o (fun cdv A outer s H E hr ok => ?_), Z.g__law_any_table, Fn.kp, Fn.bindsN fun _ _ _ _ _ _ us hl => match us, hl with | [_, _, _], _ => rfl⟩
  refine ⟨_, dss_one (ds_retNew (dn_comp (own := [("s", 3)]) ok (di_rng1 (da_cons (de_var 1) (da_nil)) Z.n_range) (by kernel_rfl) (by decide) (fun _ => dg_name 3 ok.nd) (fun _ => dts_nil) (fun _ => de_new (n_call (ok__law_prices Z) (hr.mono (by decide)) ok.blk (das_own 0 (das_val (de_var 1) (das_val (de_var 2) (das_nil)))))))), ?_⟩
  exact p__law_any_table K Z.kf
theorem sc__law_served : FnScope N__law_served ["changes", "serves"] (defScope s__law_served) := ⟨rfl, rfl, rfl, by decide +kernel, rfl, by decide +kernel, by decide +kernel⟩
theorem ok__law_served {P : Program} {w : World} {K : PySem.W.Frag} {mg : Str → Option Value} {base : Heap} (Z : Facts K mg) : Cal P w K mg base 1 "_law_served" 2 (T__law_served K) := by
  obtain ⟨fd, Fn⟩ := Z.d__law_served
  refine ⟨_, fd, ["changes", "serves"], def_ok (k := 0) (N := N__law_served) (B := []) Fn sc__law_served ownB_p (fun cdv A outer s H E hr ok => ?_), Z.g__law_served, Fn.kp, Fn.bindsN fun _ _ _ _ _ _ us hl => match us, hl with | [_, _], _ => rfl⟩
  refine ⟨_, dss_one (ds_retNew (dn_comp (own := [("line", 4)]) ok (di_seq (de_var 0)) (by kernel_rfl) (by decide) (fun _ => dg_name 4 ok.nd) (fun _ => dts_nil) (fun _ => de_new (dn_comp (own := [("price", 2), ("serve", 3)]) ok.blk (di_zip (da_cons (de_var 4) (da_cons (de_var 1) (da_nil))) Z.n_zip) (by kernel_rfl) (by decide) (fun _ => dg_tup (n := 2) rfl (dgs_cons (dg_name 2 ok.nd) (dgs_cons (dg_name 3 ok.nd) (dgs_nil)))) (fun _ => dts_nil) (fun _ => de_addA (de_var 2) (de_var 3)))))), ?_⟩
  exact p__law_served K Z.kf
theorem sc__law_world : FnScope N__law_world ["source", "many", "asks", "most"] (defScope s__law_world) := ⟨rfl, rfl, rfl, by decide +kernel, rfl, by decide +kernel, by decide +kernel⟩
theorem ok__law_world {P : Program} {w : World} {K : PySem.W.Frag} {mg : Str → Option Value} {base : Heap} (Z : Facts K mg) : Cal P w K mg base 4 "_law_world" 4 (T__law_world K) := by
  obtain ⟨fd, Fn⟩ := Z.d__law_world
  refine ⟨_, fd, ["source", "many", "asks", "most"], def_ok (k := 3) (N := N__law_world) (B := [0]) Fn sc__law_world ownB_o (fun cdv A outer s H E hr ok => ?_), Z.g__law_world, Fn.kp, Fn.bindsN fun _ _ _ _ _ _ us hl => match us, hl with | [_, _, _, _], _ => rfl⟩
  refine ⟨_, dss_cons (ds_asg (e_call (ok__law_draw Z) (hr.mono (by decide)) ok (das_own 0 (das_val (de_int) (das_nil)))) (dg_name 4 ok.nd)) (dss_cons (ds_asg (de_new (n_call (ok__law_prices Z) (hr.mono (by decide)) ok (das_own 0 (das_val (de_var 1) (das_val (de_var 3) (das_nil)))))) (dg_name 5 ok.nd)) (dss_cons (ds_asg (de_new (n_call (ok__law_prices Z) (hr.mono (by decide)) ok (das_own 0 (das_val (de_var 1) (das_val (de_var 3) (das_nil)))))) (dg_name 6 ok.nd)) (dss_cons (ds_if (dt_cmp op_eq d_eq (e_call (ok__law_draw Z) (hr.mono (by decide)) ok (das_own 0 (das_val (de_int) (das_nil)))) (de_int)) (dss_one (ds_asg (de_new (dn_rep (dn_lst (da_cons (de_int) (da_nil))) (de_var 1))) (dg_name 6 ok.nd))) (dss_nil)) (dss_cons (ds_asg (de_new (n_call (ok__law_changes Z) (hr.mono (by decide)) ok (das_own 0 (das_val (de_var 1) (das_val (de_var 3) (das_nil)))))) (dg_name 7 ok.nd)) (dss_cons (ds_own 8 (dn_lst (da_nil)) ok.nd) (dss_cons (ds_for ok (di_rng1 (da_cons (de_callB call_len d_len Z.n_len (by decide +kernel) (da_cons (de_var 2) (da_nil))) (da_nil)) Z.n_range) (dg_name 9 ok.nd) (dss_one (ds_if (dt_cmp op_eq d_eq (de_var 4) (de_int)) (dss_one (ds_append 8 (de_new (n_call (ok__law_any_table Z) (hr.mono (by decide)) ok (das_own 0 (das_val (de_var 1) (das_val (de_var 3) (das_nil)))))))) (dss_cons (ds_own 10 (n_call (ok__law_prices Z) (hr.mono (by decide)) ok (das_own 0 (das_val (de_var 1) (das_val (de_var 3) (das_nil))))) ok.nd) (dss_cons (ds_if (dt_cmp op_gt d_gt (de_var 4) (de_int)) (dss_cons ((ds_comp 10 (own := [("price", 11)]) ok (di_seq (de_frz 10)) (by kernel_rfl) (by decide) (fun _ => dg_name 11 ok.nd) (fun _ => dts_nil) (fun _ => de_callB (call_max2 rfl) d_max2 Z.n_max (by decide +kernel) (da_cons (de_var 11) (da_cons (de_int) (da_nil))))).1) (dss_one (ds_setIx 10 (de_int) (de_mod (de_callT call_int1 d_int1 Z.n_int (by decide +kernel) (da_cons (de_var 9) (da_nil))) (de_var 1))))) (dss_nil)) (dss_one (ds_append 8 (de_new (n_call (ok__law_served Z) (hr.mono (by decide)) ok (das_val (de_var 7) (das_val (de_frz 10) (das_nil)))))))))))) (dss_one (ds_retNew (dn_lst (da_cons (de_var 2) (da_cons (de_var 5) (da_cons (de_frz 8) (da_cons (de_var 6) (da_nil)))))))))))))), ?_⟩
  exact p__law_world K Z.kf
theorem sc__law_small : FnScope N__law_small ["source", "asks", "most"] (defScope s__law_small) := ⟨rfl, rfl, rfl, by decide +kernel, rfl, by decide +kernel, by decide +kernel⟩
theorem ok__law_small {P : Program} {w : World} {K : PySem.W.Frag} {mg : Str → Option Value} {base : Heap} (Z : Facts K mg) : Cal P w K mg base 5 "_law_small" 3 (T__law_small K) := by
  obtain ⟨fd, Fn⟩ := Z.d__law_small
  refine ⟨_, fd, ["source", "asks", "most"], def_ok (k := 4) (N := N__law_small) (B := [0]) Fn sc__law_small ownB_o (fun cdv A outer s H E hr ok => ?_), Z.g__law_small, Fn.kp, Fn.bindsN fun _ _ _ _ _ _ us hl => match us, hl with | [_, _, _], _ => rfl⟩
  refine ⟨_, dss_cons (ds_asg (e_call (ok__law_states Z) (hr.mono (by decide)) ok (das_own 0 (das_nil))) (dg_name 3 ok.nd)) (dss_cons (ds_if (dt_cmp op_eq d_eq (de_var 3) (de_int)) (dss_one (ds_retNew (n_call (ok__law_world Z) (hr.mono (by decide)) ok (das_own 0 (das_val (de_int) (das_val (de_var 1) (das_val (de_callB (call_min2 rfl) d_min2 Z.n_min (by decide +kernel) (da_cons (de_var 2) (da_cons (de_int) (da_nil)))) (das_nil)))))))) (dss_nil)) (dss_one (ds_retNew (n_call (ok__law_world Z) (hr.mono (by decide)) ok (das_own 0 (das_val (de_var 3) (das_val (de_var 1) (das_val (de_var 2) (das_nil))))))))), ?_⟩
  exact p__law_small K Z.kf
theorem sc__law_raised : FnScope N__law_raised ["world", "more"] (defScope s__law_raised) := ⟨rfl, rfl, rfl, by decide +kernel, rfl, by decide +kernel, by decide +kernel⟩
theorem ok__law_raised {P : Program} {w : World} {K : PySem.W.Frag} {mg : Str → Option Value} {base : Heap} (Z : Facts K mg) : Cal P w K mg base 1 "_law_raised" 2 (T__law_raised K) := by
  obtain ⟨fd, Fn⟩ := Z.d__law_raised
  refine ⟨_, fd, ["world", "more"], def_ok (k := 0) (N := N__law_raised) (B := []) Fn sc__law_raised ownB_p (fun cdv A outer s H E hr ok => ?_), Z.g__law_raised, Fn.kp, Fn.bindsN fun _ _ _ _ _ _ us hl => match us, hl with | [_, _], _ => rfl⟩
  refine ⟨_, dss_cons (ds_asg (de_var 0) (dg_tup (n := 4) rfl (dgs_cons (dg_name 2 ok.nd) (dgs_cons (dg_name 3 ok.nd) (dgs_cons (dg_name 4 ok.nd) (dgs_cons (dg_name 5 ok.nd) (dgs_nil))))))) (dss_cons (ds_own 6 (dn_lst (da_nil)) ok.nd) (dss_cons (ds_for ok (di_rng1 (da_cons (de_callB call_len d_len Z.n_len (by decide +kernel) (da_cons (de_var 2) (da_nil))) (da_nil)) Z.n_range) (dg_name 7 ok.nd) (dss_one (ds_append 6 (de_new (dn_comp (own := [("line", 9)]) ok (di_seq (de_ix (de_var 4) (de_var 7))) (by kernel_rfl) (by decide) (fun _ => dg_name 9 ok.nd) (fun _ => dts_nil) (fun _ => de_new (dn_comp (own := [("price", 8)]) ok.blk (di_seq (de_var 9)) (by kernel_rfl) (by decide) (fun _ => dg_name 8 ok.nd) (fun _ => dts_nil) (fun _ => de_addA (de_var 8) (de_ix (de_var 1) (de_var 7)))))))))) (dss_one (ds_retNew (dn_lst (da_cons (de_var 2) (da_cons (de_new (dn_comp (own := [("price", 8)]) ok (di_seq (de_var 3)) (by kernel_rfl) (by decide) (fun _ => dg_name 8 ok.nd) (fun _ => dts_nil) (fun _ => de_addA (de_var 8) (de_ix (de_var 1) (de_neg (de_int)))))) (da_cons (de_frz 6) (da_cons (de_new (dn_comp (own := [("price", 8)]) ok (di_seq (de_var 5)) (by kernel_rfl) (by decide) (fun _ => dg_name 8 ok.nd) (fun _ => dts_nil) (fun _ => de_sub (de_var 8) (de_ix (de_var 1) (de_neg (de_int)))))) (da_nil)))))))))), ?_⟩
  exact p__law_raised K Z.kf
theorem sc__law_moved : FnScope N__law_moved ["source", "world"] (defScope s__law_moved) := ⟨rfl, rfl, rfl, by decide +kernel, rfl, by decide +kernel, by decide +kernel⟩
theorem ok__law_moved {P : Program} {w : World} {K : PySem.W.Frag} {mg : Str → Option Value} {base : Heap} (Z : Facts K mg) : Cal P w K mg base 2 "_law_moved" 2 (T__law_moved K) := by
  obtain ⟨fd, Fn⟩ := Z.d__law_moved
  refine ⟨_, fd, ["source", "world"], def_ok (k := 1) (N := N__law_moved) (B := [0]) Fn sc__law_moved ownB_o (fun cdv A outer s H E hr ok => ?_), Z.g__law_moved, Fn.kp, Fn.bindsN fun _ _ _ _ _ _ us hl => match us, hl with | [_, _], _ => rfl⟩
  refine ⟨_, dss_cons (ds_if (dt_cmp op_eq d_eq (e_call (ok__law_draw Z) (hr.mono (by decide)) ok (das_own 0 (das_val (de_int) (das_nil)))) (de_int)) (dss_one (ds_ret (de_var 1))) (dss_nil)) (dss_cons ((ds_comp 2 (own := [("k", 3)]) ok (di_rng1 (da_cons (de_addA (de_callB call_len d_len Z.n_len (by decide +kernel) (da_cons (de_ix (de_var 1) (de_int)) (da_nil))) (de_int)) (da_nil)) Z.n_range) (by kernel_rfl) (by decide) (fun _ => dg_name 3 ok.nd) (fun _ => dts_nil) (fun _ => de_sub (e_call (ok__law_draw Z) (hr.mono (by decide)) ok.blk (das_own 0 (das_val (de_int) (das_nil)))) (de_int))).2) (dss_cons (ds_if (dt_cmp op_eq d_eq (e_call (ok__law_draw Z) (hr.mono (by decide)) ok (das_own 0 (das_val (de_int) (das_nil)))) (de_int)) (dss_one ((ds_comp 2 (own := [("number", 4)]) ok (di_seq (de_var 2)) (by kernel_rfl) (by decide) (fun _ => dg_name 4 ok.nd) (fun _ => dts_nil) (fun _ => de_mul (de_var 4) (de_pow (de_int) (de_int)))).2)) (dss_nil)) (dss_one (ds_ret (de_new (n_call (ok__law_raised Z) (hr.mono (by decide)) ok (das_val (de_var 1) (das_val (de_var 2) (das_nil))))))))), ?_⟩
  exact p__law_moved K Z.kf
theorem sc__law_above_image : FnScope N__law_above_image ["source", "other", "names", "shifts"] (defScope s__law_above_image) := ⟨rfl, rfl, rfl, by decide +kernel, rfl, by decide +kernel, by decide +kernel⟩
theorem ok__law_above_image {P : Program} {w : World} {K : PySem.W.Frag} {mg : Str → Option Value} {base : Heap} (Z : Facts K mg) : Cal P w K mg base 2 "_law_above_image" 4 (T__law_above_image K) := by
  obtain ⟨fd, Fn⟩ := Z.d__law_above_image
  refine ⟨_, fd, ["source", "other", "names", "shifts"], def_ok (k := 1) (N := N__law_above_image) (B := [0]) Fn sc__law_above_image ownB_o (fun cdv A outer s H E hr ok => ?_), Z.g__law_above_image, Fn.kp, Fn.bindsN fun _ _ _ _ _ _ us hl => match us, hl with | [_, _, _, _], _ => rfl⟩
  refine ⟨_, dss_cons (ds_asg (de_callB call_len d_len Z.n_len (by decide +kernel) (da_cons (de_var 2) (da_nil))) (dg_name 4 ok.nd)) (dss_cons (ds_own 5 (dn_lst (da_nil)) ok.nd) (dss_cons (ds_for ok (di_seq (de_ix (de_var 1) (de_int))) (dg_name 6 ok.nd) (dss_cons (ds_own 7 (dn_lst (da_nil)) ok.nd) (dss_cons (ds_for ok (di_rng1 (da_cons (de_var 4) (da_nil)) Z.n_range) (dg_name 8 ok.nd) (dss_cons ((ds_comp 9 (own := [("t", 10)]) ok (di_rng1 (da_cons (de_var 4) (da_nil)) Z.n_range) (by kernel_rfl) (by decide) (fun _ => dg_name 10 ok.nd) (fun _ => dts_nil) (fun _ => de_sub (de_addA (de_ix (de_ix (de_var 6) (de_ix (de_var 2) (de_var 8))) (de_ix (de_var 2) (de_var 10))) (de_ix (de_var 3) (de_var 10))) (de_ix (de_var 3) (de_var 8)))).2) (dss_one (ds_append 7 (de_new (dn_comp (own := [("price", 11)]) ok (di_seq (de_var 9)) (by kernel_rfl) (by decide) (fun _ => dg_name 11 ok.nd) (fun _ => dts_nil) (fun _ => de_addA (de_var 11) (e_call (ok__law_draw Z) (hr.mono (by decide)) ok.blk (das_own 0 (das_val (de_int) (das_nil))))))))))) (dss_one (ds_append 5 (de_frz 7)))))) (dss_cons ((ds_comp 12 (own := [("s", 8)]) ok (di_rng1 (da_cons (de_var 4) (da_nil)) Z.n_range) (by kernel_rfl) (by decide) (fun _ => dg_name 8 ok.nd) (fun _ => dts_nil) (fun _ => de_addA (de_addA (de_ix (de_ix (de_var 1) (de_int)) (de_ix (de_var 2) (de_var 8))) (de_ix (de_var 3) (de_var 8))) (e_call (ok__law_draw Z) (hr.mono (by decide)) ok.blk (das_own 0 (das_val (de_int) (das_nil)))))).2) (dss_cons ((ds_comp 13 (own := [("s", 8)]) ok (di_rng1 (da_cons (de_var 4) (da_nil)) Z.n_range) (by kernel_rfl) (by decide) (fun _ => dg_name 8 ok.nd) (fun _ => dts_nil) (fun _ => de_addA (de_sub (de_ix (de_ix (de_var 1) (de_int)) (de_ix (de_var 2) (de_var 8))) (de_ix (de_var 3) (de_var 8))) (e_call (ok__law_draw Z) (hr.mono (by decide)) ok.blk (das_own 0 (das_val (de_int) (das_nil)))))).2) (dss_one (ds_retNew (dn_lst (da_cons (de_ix (de_var 1) (de_int)) (da_cons (de_var 12) (da_cons (de_frz 5) (da_cons (de_var 13) (da_nil)))))))))))), ?_⟩
  exact p__law_above_image K Z.kf
theorem sc__law_is_int : FnScope N__law_is_int ["thing"] (defScope s__law_is_int) := ⟨rfl, rfl, rfl, by decide +kernel, rfl, by decide +kernel, by decide +kernel⟩
theorem ok__law_is_int {P : Program} {w : World} {K : PySem.W.Frag} {mg : Str → Option Value} {base : Heap} (Z : Facts K mg) : Cal P w K mg base 1 "_law_is_int" 1 (T__law_is_int K) := by
  obtain ⟨fd, Fn⟩ := Z.d__law_is_int
  refine ⟨_, fd, ["thing"], def_ok (k := 0) (N := N__law_is_int) (B := []) Fn sc__law_is_int ownB_p (fun cdv A outer s H E hr ok => ?_), Z.g__law_is_int, Fn.kp, Fn.bindsN fun _ _ _ _ _ _ us hl => match us, hl with | [_], _ => rfl⟩
  refine ⟨_, dss_one (ds_ret (de_and (de_isi (x := "") tab_int (de_var 0) Z.n_isinstance Z.n_int (by decide +kernel)) (de_one (de_not (de_isi (x := "") tab_bool (de_var 0) Z.n_isinstance Z.n_bool (by decide +kernel)))))), ?_⟩
  exact p__law_is_int K Z.kf
theorem sc__law_right : FnScope N__law_right ["world", "other", "fold"] (defScope s__law_right) := ⟨rfl, rfl, rfl, by decide +kernel, rfl, by decide +kernel, by decide +kernel⟩
theorem ok__law_right {P : Program} {w : World} {K : PySem.W.Frag} {mg : Str → Option Value} {base : Heap} (Z : Facts K mg) : Cal P w K mg base 2 "_law_right" 3 (T__law_right K) := by
  obtain ⟨fd, Fn⟩ := Z.d__law_right
  refine ⟨_, fd, ["world", "other", "fold"], def_ok (k := 1) (N := N__law_right) (B := []) Fn sc__law_right ownB_p (fun cdv A outer s H E hr ok => ?_), Z.g__law_right, Fn.kp, Fn.bindsN fun _ _ _ _ _ _ us hl => match us, hl with | [_, _, _], _ => rfl⟩
  refine ⟨_, dss_cons (ds_asg (de_callB call_len d_len Z.n_len (by decide +kernel) (da_cons (de_ix (de_var 0) (de_int)) (da_nil))) (dg_name 3 ok.nd)) (dss_cons (ds_if (DTW.pt (dt_or (dt_not (dt_val (de_isi2 tab_lt (de_var 2) Z.n_isinstance Z.n_list (by decide +kernel) Z.n_tuple (by decide +kernel)))) (dt_or1 (dt_cmp op_ne d_ne (de_callB call_len d_len Z.n_len (by decide +kernel) (da_cons (de_var 2) (da_nil))) (de_var 3))))) (dss_one (ds_ret (de_bl))) (dss_nil)) (dss_cons (ds_for ok (di_seq (de_var 2)) (dg_name 4 ok.nd) (dss_cons (ds_if (DTW.pt (dt_or (dt_not (dt_val (de_isi2 tab_lt (de_var 4) Z.n_isinstance Z.n_list (by decide +kernel) Z.n_tuple (by decide +kernel)))) (dt_or1 (dt_cmp op_ne d_ne (de_callB call_len d_len Z.n_len (by decide +kernel) (da_cons (de_var 4) (da_nil))) (de_int))))) (dss_one (ds_ret (de_bl))) (dss_nil)) (dss_cons (ds_if (DTW.pt (dt_or (dt_not (dt_val (e_call (ok__law_is_int Z) (hr.mono (by decide)) ok (das_val (de_ix (de_var 4) (de_int)) (das_nil))))) (dt_or1 (dt_not (dt_val (e_call (ok__law_is_int Z) (hr.mono (by decide)) ok (das_val (de_ix (de_var 4) (de_int)) (das_nil)))))))) (dss_one (ds_ret (de_bl))) (dss_nil)) (dss_one (ds_if (dt_not (dt_chain op_le d_le op_lt d_lt (de_int) (de_ix (de_var 4) (de_int)) (de_callB call_len d_len Z.n_len (by decide +kernel) (da_cons (de_ix (de_var 1) (de_int)) (da_nil))))) (dss_one (ds_ret (de_bl))) (dss_nil)))))) (dss_cons (ds_for ok (di_rng1 (da_cons (de_var 3) (da_nil)) Z.n_range) (dg_name 5 ok.nd) (dss_cons (ds_asg (de_ix (de_var 2) (de_var 5)) (dg_tup (n := 2) rfl (dgs_cons (dg_name 6 ok.nd) (dgs_cons (dg_name 7 ok.nd) (dgs_nil))))) (dss_cons (ds_if (DTW.pt (dt_or (dt_cmp op_lt d_lt (de_ix (de_ix (de_var 0) (de_int)) (de_var 5)) (de_addA (de_ix (de_ix (de_var 1) (de_int)) (de_var 6)) (de_var 7))) (dt_or1 (dt_cmp op_lt d_lt (de_addA (de_ix (de_ix (de_var 0) (de_int)) (de_var 5)) (de_var 7)) (de_ix (de_ix (de_var 1) (de_int)) (de_var 6)))))) (dss_one (ds_ret (de_bl))) (dss_nil)) (dss_one (ds_for ok (di_rng1 (da_cons (de_var 3) (da_nil)) Z.n_range) (dg_name 8 ok.nd) (dss_one (ds_for ok (di_zip (da_cons (de_ix (de_var 0) (de_int)) (da_cons (de_ix (de_var 1) (de_int)) (da_nil))) Z.n_zip) (dg_tup (n := 2) rfl (dgs_cons (dg_name 9 ok.nd) (dgs_cons (dg_name 10 ok.nd) (dgs_nil)))) (dss_one (ds_if (dt_cmp op_lt d_lt (de_addA (de_ix (de_ix (de_var 9) (de_var 5)) (de_var 8)) (de_var 7)) (de_addA (de_ix (de_ix (de_var 10) (de_var 6)) (de_ix (de_ix (de_var 2) (de_var 8)) (de_int))) (de_ix (de_ix (de_var 2) (de_var 8)) (de_int)))) (dss_one (ds_ret (de_bl))) (dss_nil)))))))))) (dss_one (ds_ret (de_bl)))))), ?_⟩
  exact p__law_right K Z.kf
theorem sc__law_lists : FnScope N__law_lists ["world"] (defScope s__law_lists) := ⟨rfl, rfl, rfl, by decide +kernel, rfl, by decide +kernel, by decide +kernel⟩
theorem ok__law_lists {P : Program} {w : World} {K : PySem.W.Frag} {mg : Str → Option Value} {base : Heap} (Z : Facts K mg) : Cal P w K mg base 1 "_law_lists" 1 (T__law_lists K) := by
  obtain ⟨fd, Fn⟩ := Z.d__law_lists
  refine ⟨_, fd, ["world"], def_ok (k := 0) (N := N__law_lists) (B := []) Fn sc__law_lists ownB_p (fun cdv A outer s H E hr ok => ?_), Z.g__law_lists, Fn.kp, Fn.bindsN fun _ _ _ _ _ _ us hl => match us, hl with | [_], _ => rfl⟩
  refine ⟨_, dss_cons ((ds_comp 1 (own := [("table", 3)]) ok (di_seq (de_ix (de_var 0) (de_int))) (by kernel_rfl) (by decide) (fun _ => dg_name 3 ok.nd) (fun _ => dts_nil) (fun _ => de_new (dn_comp (own := [("line", 2)]) ok.blk (di_seq (de_var 3)) (by kernel_rfl) (by decide) (fun _ => dg_name 2 ok.nd) (fun _ => dts_nil) (fun _ => de_new (dn_list (da_cons (de_var 2) (da_nil)) Z.n_list (by decide +kernel)))))).2) (dss_one (ds_retNew (dn_lst (da_cons (de_ix (de_var 0) (de_int)) (da_cons (de_new (dn_list (da_cons (de_ix (de_var 0) (de_int)) (da_nil)) Z.n_list (by decide +kernel))) (da_cons (de_var 1) (da_cons (de_new (dn_list (da_cons (de_ix (de_var 0) (de_int)) (da_nil)) Z.n_list (by decide +kernel))) (da_nil)))))))), ?_⟩
  exact p__law_lists K Z.kf
theorem sc_is_asks : FnScope N_is_asks ["thing"] (defScope s_is_asks) := ⟨rfl, rfl, rfl, by decide +kernel, rfl, by decide +kernel, by decide +kernel⟩
theorem ok_is_asks {P : Program} {w : World} {K : PySem.W.Frag} {mg : Str → Option Value} {base : Heap} (Z : Facts K mg) : Cal P w K mg base 1 "is_asks" 1 (T_is_asks K) := by
  obtain ⟨fd, Fn⟩ := Z.d_is_asks
  refine ⟨_, fd, ["thing"], def_ok (k := 0) (N := N_is_asks) (B := []) Fn sc_is_asks ownB_p (fun cdv A outer s H E hr ok => ?_), Z.g_is_asks, Fn.kp, Fn.bindsN fun _ _ _ _ _ _ us hl => match us, hl with | [_], _ => rfl⟩
  refine ⟨_, dss_cons (ds_if (DTW.pt (dt_or (dt_not (dt_val (de_isi (x := "") tab_str (de_var 0) Z.n_isinstance Z.n_str (by decide +kernel)))) (dt_or1 (dt_not (dt_chain op_le d_le op_le d_le (de_int) (de_callB call_len d_len Z.n_len (by decide +kernel) (da_cons (de_var 0) (da_nil))) (de_int)))))) (dss_one (ds_ret (de_bl))) (dss_nil)) (dss_cons (ds_asg (de_neg (de_int)) (dg_name 1 ok.nd)) (dss_cons (ds_for ok (di_seq (de_var 0)) (dg_name 2 ok.nd) (dss_cons (ds_asg (de_find (de_gstr Z.c_LETTERS) (de_var 2)) (dg_name 3 ok.nd)) (dss_cons (ds_if (dt_cmp op_le d_le (de_var 3) (de_var 1)) (dss_one (ds_ret (de_bl))) (dss_nil)) (dss_one (ds_asg (de_var 3) (dg_name 1 ok.nd)))))) (dss_one (ds_ret (de_bl))))), ?_⟩
  exact p_is_asks K Z.kf
theorem sc_check_asks : FnScope N_check_asks ["thing"] (defScope s_check_asks) := ⟨rfl, rfl, rfl, by decide +kernel, rfl, by decide +kernel, by decide +kernel⟩
theorem ok_check_asks {P : Program} {w : World} {K : PySem.W.Frag} {mg : Str → Option Value} {base : Heap} (Z : Facts K mg) : Cal P w K mg base 2 "check_asks" 1 (T_check_asks K) := by
  obtain ⟨fd, Fn⟩ := Z.d_check_asks
  refine ⟨_, fd, ["thing"], def_ok (k := 1) (N := N_check_asks) (B := []) Fn sc_check_asks ownB_p (fun cdv A outer s H E hr ok => ?_), Z.g_check_asks, Fn.kp, Fn.bindsN fun _ _ _ _ _ _ us hl => match us, hl with | [_], _ => rfl⟩
  refine ⟨_, dss_one (ds_if (dt_not (dt_val (e_call (ok_is_asks Z) (hr.mono (by decide)) ok (das_val (de_var 0) (das_nil))))) (dss_one (ds_never)) (dss_nil)), ?_⟩
  exact p_check_asks K Z.kf
theorem sc_is_listed : FnScope N_is_listed ["thing"] (defScope s_is_listed) := ⟨rfl, rfl, rfl, by decide +kernel, rfl, by decide +kernel, by decide +kernel⟩
theorem ok_is_listed {P : Program} {w : World} {K : PySem.W.Frag} {mg : Str → Option Value} {base : Heap} (Z : Facts K mg) : Cal P w K mg base 1 "is_listed" 1 (T_is_listed K) := by
  obtain ⟨fd, Fn⟩ := Z.d_is_listed
  refine ⟨_, fd, ["thing"], def_ok (k := 0) (N := N_is_listed) (B := []) Fn sc_is_listed ownB_p (fun cdv A outer s H E hr ok => ?_), Z.g_is_listed, Fn.kp, Fn.bindsN fun _ _ _ _ _ _ us hl => match us, hl with | [_], _ => rfl⟩
  refine ⟨_, dss_one (ds_ret (de_isi2 tab_tl (de_var 0) Z.n_isinstance Z.n_tuple (by decide +kernel) Z.n_list (by decide +kernel))), ?_⟩
  exact p_is_listed K Z.kf
theorem sc_is_integer : FnScope N_is_integer ["thing"] (defScope s_is_integer) := ⟨rfl, rfl, rfl, by decide +kernel, rfl, by decide +kernel, by decide +kernel⟩
theorem ok_is_integer {P : Program} {w : World} {K : PySem.W.Frag} {mg : Str → Option Value} {base : Heap} (Z : Facts K mg) : Cal P w K mg base 1 "is_integer" 1 (T_is_integer K) := by
  obtain ⟨fd, Fn⟩ := Z.d_is_integer
  refine ⟨_, fd, ["thing"], def_ok (k := 0) (N := N_is_integer) (B := []) Fn sc_is_integer ownB_p (fun cdv A outer s H E hr ok => ?_), Z.g_is_integer, Fn.kp, Fn.bindsN fun _ _ _ _ _ _ us hl => match us, hl with | [_], _ => rfl⟩
  refine ⟨_, dss_one (ds_ret (de_and (de_isi (x := "") tab_int (de_var 0) Z.n_isinstance Z.n_int (by decide +kernel)) (de_one (de_not (de_isi (x := "") tab_bool (de_var 0) Z.n_isinstance Z.n_bool (by decide +kernel)))))), ?_⟩
  exact p_is_integer K Z.kf
theorem sc_integers : FnScope N_integers ["thing", "many"] (defScope s_integers) := ⟨rfl, rfl, rfl, by decide +kernel, rfl, by decide +kernel, by decide +kernel⟩
theorem ok_integers {P : Program} {w : World} {K : PySem.W.Frag} {mg : Str → Option Value} {base : Heap} (Z : Facts K mg) : Cal P w K mg base 2 "integers" 2 (T_integers K) := by
  obtain ⟨fd, Fn⟩ := Z.d_integers
  refine ⟨_, fd, ["thing", "many"], def_ok (k := 1) (N := N_integers) (B := []) Fn sc_integers ownB_p (fun cdv A outer s H E hr ok => ?_), Z.g_integers, Fn.kp, Fn.bindsN fun _ _ _ _ _ _ us hl => match us, hl with | [_, _], _ => rfl⟩
  refine ⟨_, dss_cons (ds_if (DTW.pt (dt_or (dt_not (dt_val (e_call (ok_is_listed Z) (hr.mono (by decide)) ok (das_val (de_var 0) (das_nil))))) (dt_or1 (dt_cmp op_ne d_ne (de_callB call_len d_len Z.n_len (by decide +kernel) (da_cons (de_var 0) (da_nil))) (de_var 1))))) (dss_one (ds_ret (de_bl))) (dss_nil)) (dss_cons (ds_for ok (di_seq (de_var 0)) (dg_name 2 ok.nd) (dss_one (ds_if (dt_not (dt_val (e_call (ok_is_integer Z) (hr.mono (by decide)) ok (das_val (de_var 2) (das_nil))))) (dss_one (ds_ret (de_bl))) (dss_nil)))) (dss_one (ds_ret (de_bl)))), ?_⟩
  exact p_integers K Z.kf
theorem sc_is_table : FnScope N_is_table ["thing", "many"] (defScope s_is_table) := ⟨rfl, rfl, rfl, by decide +kernel, rfl, by decide +kernel, by decide +kernel⟩
theorem ok_is_table {P : Program} {w : World} {K : PySem.W.Frag} {mg : Str → Option Value} {base : Heap} (Z : Facts K mg) : Cal P w K mg base 3 "is_table" 2 (T_is_table K) := by
  obtain ⟨fd, Fn⟩ := Z.d_is_table
  refine ⟨_, fd, ["thing", "many"], def_ok (k := 2) (N := N_is_table) (B := []) Fn sc_is_table ownB_p (fun cdv A outer s H E hr ok => ?_), Z.g_is_table, Fn.kp, Fn.bindsN fun _ _ _ _ _ _ us hl => match us, hl with | [_, _], _ => rfl⟩
  refine ⟨_, dss_cons (ds_if (DTW.pt (dt_or (dt_not (dt_val (e_call (ok_is_listed Z) (hr.mono (by decide)) ok (das_val (de_var 0) (das_nil))))) (dt_or1 (dt_cmp op_ne d_ne (de_callB call_len d_len Z.n_len (by decide +kernel) (da_cons (de_var 0) (da_nil))) (de_var 1))))) (dss_one (ds_ret (de_bl))) (dss_nil)) (dss_cons (ds_for ok (di_seq (de_var 0)) (dg_name 2 ok.nd) (dss_one (ds_if (dt_not (dt_val (e_call (ok_integers Z) (hr.mono (by decide)) ok (das_val (de_var 2) (das_val (de_var 1) (das_nil)))))) (dss_one (ds_ret (de_bl))) (dss_nil)))) (dss_one (ds_ret (de_bl)))), ?_⟩
  exact p_is_table K Z.kf
theorem sc_are_costs : FnScope N_are_costs ["thing", "asks", "many"] (defScope s_are_costs) := ⟨rfl, rfl, rfl, by decide +kernel, rfl, by decide +kernel, by decide +kernel⟩
theorem ok_are_costs {P : Program} {w : World} {K : PySem.W.Frag} {mg : Str → Option Value} {base : Heap} (Z : Facts K mg) : Cal P w K mg base 4 "are_costs" 3 (T_are_costs K) := by
  obtain ⟨fd, Fn⟩ := Z.d_are_costs
  refine ⟨_, fd, ["thing", "asks", "many"], def_ok (k := 3) (N := N_are_costs) (B := []) Fn sc_are_costs ownB_p (fun cdv A outer s H E hr ok => ?_), Z.g_are_costs, Fn.kp, Fn.bindsN fun _ _ _ _ _ _ us hl => match us, hl with | [_, _, _], _ => rfl⟩
  refine ⟨_, dss_cons (ds_if (DTW.pt (dt_or (dt_not (dt_val (e_call (ok_is_listed Z) (hr.mono (by decide)) ok (das_val (de_var 0) (das_nil))))) (dt_or1 (dt_cmp op_ne d_ne (de_callB call_len d_len Z.n_len (by decide +kernel) (da_cons (de_var 0) (da_nil))) (de_callB call_len d_len Z.n_len (by decide +kernel) (da_cons (de_var 1) (da_nil))))))) (dss_one (ds_ret (de_bl))) (dss_nil)) (dss_cons (ds_for ok (di_seq (de_var 0)) (dg_name 3 ok.nd) (dss_one (ds_if (dt_not (dt_val (e_call (ok_is_table Z) (hr.mono (by decide)) ok (das_val (de_var 3) (das_val (de_var 2) (das_nil)))))) (dss_one (ds_ret (de_bl))) (dss_nil)))) (dss_one (ds_ret (de_bl)))), ?_⟩
  exact p_are_costs K Z.kf
theorem sc_deep : FnScope N_deep ["thing"] (defScope s_deep) := ⟨rfl, rfl, rfl, by decide +kernel, rfl, by decide +kernel, by decide +kernel⟩
theorem ok_deep {P : Program} {w : World} {K : PySem.W.Frag} {mg : Str → Option Value} {base : Heap} (Z : Facts K mg) : ∀ n : Nat, Cal P w K mg base (2 + n) "deep" 1 (T_deep K n)
  | 0 => by
    obtain ⟨fd, Fn⟩ := Z.d_deep
    exact cal_none (ps := ["thing"]) Fn Z.g_deep (Fn.bindsN fun _ _ _ _ _ _ us hl => match us, hl with | [_], _ => rfl) (z_deep K)
  | n + 1 => by
    have ih := ok_deep (P := P) (w := w) (base := base) Z n
    obtain ⟨fd, Fn⟩ := Z.d_deep
    refine ⟨_, fd, ["thing"], def_ok (k := 2 + n) (N := N_deep) (B := []) Fn sc_deep ownB_p (fun cdv A outer s H E hr ok => ?_), Z.g_deep, Fn.kp, Fn.bindsN fun _ _ _ _ _ _ us hl => match us, hl with | [_], _ => rfl⟩
    refine ⟨_, dss_cons (ds_if (dt_val (e_call (ok_is_listed Z) (hr.mono (by omega)) ok (das_val (de_var 0) (das_nil)))) (dss_one (ds_ret (de_tuple (da_cons (de_new (dn_comp (own := [("part", 1)]) ok (di_seq (de_var 0)) (by kernel_rfl) (by decide) (fun _ => dg_name 1 ok.nd) (fun _ => dts_nil) (fun _ => e_call ih (hr.mono (by omega)) ok.blk (das_val (de_var 1) (das_nil))))) (da_nil)) Z.n_tuple (by decide +kernel)))) (dss_nil)) (dss_one (ds_ret (de_var 0))), ?_⟩
    exact p_deep K Z.kf n
theorem sc_Store___init__ : FnScope N_Store___init__ ["self", "asks", "begins", "costs", "ends"] (defScope s_Store___init__) := ⟨rfl, rfl, rfl, by decide +kernel, rfl, by decide +kernel, by decide +kernel⟩
theorem mk_Store {P : Program} {w : World} {K : PySem.W.Frag} {mg : Str → Option Value} {base : Heap} (Z : Facts K mg) : Mak P w K mg base 9 "Store" (He.ga K "Store") 4 (T_Store___init__ K) := by
  obtain ⟨fd, Fn⟩ := Z.d_Store___init__
  refine ⟨_, fd, ["self", "asks", "begins", "costs", "ends"], Z.mk_Store, def_ok (k := 8) (N := N_Store___init__) (B := [0]) Fn sc_Store___init__ ownB_i (fun cdv A outer s H E hr ok => ?_), Z.gc_Store, Fn.bindsN fun _ _ _ _ _ _ us hl => match us, hl with | [_, _, _, _, _], _ => rfl⟩
  refine ⟨_, dss_cons (ds_expr (e_call (ok_check_asks Z) (hr.mono (by decide)) ok (das_val (de_var 1) (das_nil)))) (dss_cons (ds_if (DTW.pt (dt_or (dt_not (dt_val (e_call (ok_is_listed Z) (hr.mono (by decide)) ok (das_val (de_var 2) (das_nil))))) (dt_or (dt_not (dt_chain op_le d_le op_le d_le (de_int) (de_callB call_len d_len Z.n_len (by decide +kernel) (da_cons (de_var 2) (da_nil))) (de_gint Z.c_MOST_STATES))) (dt_or1 (dt_not (dt_val (e_call (ok_integers Z) (hr.mono (by decide)) ok (das_val (de_var 2) (das_val (de_callB call_len d_len Z.n_len (by decide +kernel) (da_cons (de_var 2) (da_nil))) (das_nil)))))))))) (dss_one (ds_never)) (dss_nil)) (dss_cons (ds_if (dt_not (dt_val (e_call (ok_are_costs Z) (hr.mono (by decide)) ok (das_val (de_var 3) (das_val (de_var 1) (das_val (de_callB call_len d_len Z.n_len (by decide +kernel) (da_cons (de_var 2) (da_nil))) (das_nil))))))) (dss_one (ds_never)) (dss_nil)) (dss_cons (ds_if (dt_not (dt_val (e_call (ok_integers Z) (hr.mono (by decide)) ok (das_val (de_var 4) (das_val (de_callB call_len d_len Z.n_len (by decide +kernel) (da_cons (de_var 2) (da_nil))) (das_nil)))))) (dss_one (ds_never)) (dss_nil)) (dss_cons (ds_fld K 0 (de_var 1)) (dss_cons (ds_fld K 0 (e_call (ok_deep Z 6) (hr.mono (by decide)) ok (das_val (de_var 2) (das_nil)))) (dss_cons (ds_fld K 0 (e_call (ok_deep Z 6) (hr.mono (by decide)) ok (das_val (de_var 3) (das_nil)))) (dss_one (ds_fld K 0 (e_call (ok_deep Z 6) (hr.mono (by decide)) ok (das_val (de_var 4) (das_nil))))))))))), ?_⟩
  exact p_Store___init__ K Z.kf
theorem sc__law_stored : FnScope N__law_stored ["world"] (defScope s__law_stored) := ⟨rfl, rfl, rfl, by decide +kernel, rfl, by decide +kernel, by decide +kernel⟩
theorem ok__law_stored {P : Program} {w : World} {K : PySem.W.Frag} {mg : Str → Option Value} {base : Heap} (Z : Facts K mg) : Cal P w K mg base 11 "_law_stored" 1 (T__law_stored K) := by
  obtain ⟨fd, Fn⟩ := Z.d__law_stored
  refine ⟨_, fd, ["world"], def_ok (k := 10) (N := N__law_stored) (B := []) Fn sc__law_stored ownB_p (fun cdv A outer s H E hr ok => ?_), Z.g__law_stored, Fn.kp, Fn.bindsN fun _ _ _ _ _ _ us hl => match us, hl with | [_], _ => rfl⟩
  refine ⟨_, dss_cons (ds_asg (de_new (n_call (ok__law_lists Z) (hr.mono (by decide)) ok (das_val (de_var 0) (das_nil)))) (dg_name 1 ok.nd)) (dss_one (ds_retNew (n_make (mk_Store Z) (hr.mono (by decide)) ok (da_cons (de_ix (de_var 1) (de_int)) (da_cons (de_ix (de_var 1) (de_int)) (da_cons (de_ix (de_var 1) (de_int)) (da_cons (de_ix (de_var 1) (de_int)) (da_nil)))))))), ?_⟩
  exact p__law_stored K Z.kf
theorem sc__law_changed : FnScope N__law_changed ["source", "fold", "many"] (defScope s__law_changed) := ⟨rfl, rfl, rfl, by decide +kernel, rfl, by decide +kernel, by decide +kernel⟩
theorem ok__law_changed {P : Program} {w : World} {K : PySem.W.Frag} {mg : Str → Option Value} {base : Heap} (Z : Facts K mg) : Cal P w K mg base 2 "_law_changed" 3 (T__law_changed K) := by
  obtain ⟨fd, Fn⟩ := Z.d__law_changed
  refine ⟨_, fd, ["source", "fold", "many"], def_ok (k := 1) (N := N__law_changed) (B := [0]) Fn sc__law_changed ownB_o (fun cdv A outer s H E hr ok => ?_), Z.g__law_changed, Fn.kp, Fn.bindsN fun _ _ _ _ _ _ us hl => match us, hl with | [_, _, _], _ => rfl⟩
  refine ⟨_, dss_cons (ds_own 3 (dn_list (da_cons (de_var 1) (da_nil)) Z.n_list (by decide +kernel)) ok.nd) (dss_cons (ds_asg (e_call (ok__law_draw Z) (hr.mono (by decide)) ok (das_own 0 (das_val (de_lenO 3 Z.n_len) (das_nil)))) (dg_name 4 ok.nd)) (dss_cons (ds_asg (de_ixO 3 (de_var 4)) (dg_tup (n := 2) rfl (dgs_cons (dg_name 5 ok.nd) (dgs_cons (dg_name 6 ok.nd) (dgs_nil))))) (dss_cons (ds_asg (e_call (ok__law_draw Z) (hr.mono (by decide)) ok (das_own 0 (das_val (de_int) (das_nil)))) (dg_name 7 ok.nd)) (dss_cons (ds_if (dt_cmp op_eq d_eq (de_var 7) (de_int)) (dss_one (ds_setIx 3 (de_tup (da_cons (de_var 5) (da_cons (de_addA (de_var 6) (de_int)) (da_nil)))) (de_var 4))) (dss_nil)) (dss_cons (ds_if (dt_cmp op_eq d_eq (de_var 7) (de_int)) (dss_one (ds_setIx 3 (de_tup (da_cons (de_var 5) (da_cons (de_sub (de_var 6) (de_int)) (da_nil)))) (de_var 4))) (dss_nil)) (dss_cons (ds_if (dt_cmp op_eq d_eq (de_var 7) (de_int)) (dss_one (ds_setIx 3 (de_tup (da_cons (e_call (ok__law_draw Z) (hr.mono (by decide)) ok (das_own 0 (das_val (de_var 2) (das_nil)))) (da_cons (de_var 6) (da_nil)))) (de_var 4))) (dss_nil)) (dss_cons (ds_if (dt_cmp op_eq d_eq (de_var 7) (de_int)) (dss_one (ds_setIx 3 (de_tup (da_cons (de_ix (de_new (dn_lst (da_cons (de_var 2) (da_cons (de_neg (de_int)) (da_cons (de_bl) (da_cons (de_non) (da_nil))))))) (e_call (ok__law_draw Z) (hr.mono (by decide)) ok (das_own 0 (das_val (de_int) (das_nil))))) (da_cons (de_var 6) (da_nil)))) (de_var 4))) (dss_nil)) (dss_cons (ds_if (dt_cmp op_eq d_eq (de_var 7) (de_int)) (dss_one (ds_setIx 3 (de_ix (de_new (dn_lst (da_cons (de_tup (da_cons (de_var 5) (da_cons (de_bl) (da_nil)))) (da_cons (de_tup (da_cons (de_var 5) (da_nil))) (da_cons (de_non) (da_cons (de_int) (da_cons (de_tup (da_cons (de_var 5) (da_cons (de_var 6) (da_cons (de_int) (da_nil))))) (da_cons (de_tup (da_cons (de_var 5) (da_cons (de_str) (da_nil)))) (da_nil))))))))) (e_call (ok__law_draw Z) (hr.mono (by decide)) ok (das_own 0 (das_val (de_int) (das_nil))))) (de_var 4))) (dss_nil)) (dss_cons (ds_if (dt_cmp op_eq d_eq (de_var 7) (de_int)) (dss_one (ds_popAt 3 (de_var 4))) (dss_nil)) (dss_cons (ds_if (dt_cmp op_eq d_eq (de_var 7) (de_int)) (dss_one (ds_append 3 (de_ixO 3 (de_var 4)))) (dss_nil)) (dss_one (ds_retO 3)))))))))))), ?_⟩
  exact p__law_changed K Z.kf
theorem sc_check_stores : FnScope N_check_stores ["store", "other"] (defScope s_check_stores) := ⟨rfl, rfl, rfl, by decide +kernel, rfl, by decide +kernel, by decide +kernel⟩
theorem ok_check_stores {P : Program} {w : World} {K : PySem.W.Frag} {mg : Str → Option Value} {base : Heap} (Z : Facts K mg) : Cal P w K mg base 1 "check_stores" 2 (T_check_stores K) := by
  obtain ⟨fd, Fn⟩ := Z.d_check_stores
  refine ⟨_, fd, ["store", "other"], def_ok (k := 0) (N := N_check_stores) (B := []) Fn sc_check_stores ownB_p (fun cdv A outer s H E hr ok => ?_), Z.g_check_stores, Fn.kp, Fn.bindsN fun _ _ _ _ _ _ us hl => match us, hl with | [_, _], _ => rfl⟩
  refine ⟨_, dss_one (ds_if (dt_cmp op_ne d_ne (de_fld K (de_var 0)) (de_fld K (de_var 1))) (dss_one (ds_never)) (dss_nil)), ?_⟩
  exact p_check_stores K Z.kf
theorem sc_is_count : FnScope N_is_count ["thing", "low", "high"] (defScope s_is_count) := ⟨rfl, rfl, rfl, by decide +kernel, rfl, by decide +kernel, by decide +kernel⟩
theorem ok_is_count {P : Program} {w : World} {K : PySem.W.Frag} {mg : Str → Option Value} {base : Heap} (Z : Facts K mg) : Cal P w K mg base 2 "is_count" 3 (T_is_count K) := by
  obtain ⟨fd, Fn⟩ := Z.d_is_count
  refine ⟨_, fd, ["thing", "low", "high"], def_ok (k := 1) (N := N_is_count) (B := []) Fn sc_is_count ownB_p (fun cdv A outer s H E hr ok => ?_), Z.g_is_count, Fn.kp, Fn.bindsN fun _ _ _ _ _ _ us hl => match us, hl with | [_, _, _], _ => rfl⟩
  refine ⟨_, dss_one (ds_ret (de_and (e_call (ok_is_integer Z) (hr.mono (by decide)) ok (das_val (de_var 0) (das_nil))) (de_one (de_chain op_le d_le op_le d_le (de_var 1) (de_var 0) (de_var 2))))), ?_⟩
  exact p_is_count K Z.kf
theorem sc_is_direct : FnScope N_is_direct ["store", "other", "thing"] (defScope s_is_direct) := ⟨rfl, rfl, rfl, by decide +kernel, rfl, by decide +kernel, by decide +kernel⟩
theorem ok_is_direct {P : Program} {w : World} {K : PySem.W.Frag} {mg : Str → Option Value} {base : Heap} (Z : Facts K mg) : Cal P w K mg base 3 "is_direct" 3 (T_is_direct K) := by
  obtain ⟨fd, Fn⟩ := Z.d_is_direct
  refine ⟨_, fd, ["store", "other", "thing"], def_ok (k := 2) (N := N_is_direct) (B := []) Fn sc_is_direct ownB_p (fun cdv A outer s H E hr ok => ?_), Z.g_is_direct, Fn.kp, Fn.bindsN fun _ _ _ _ _ _ us hl => match us, hl with | [_, _, _], _ => rfl⟩
  refine ⟨_, dss_cons (ds_if (DTW.pt (dt_or (dt_not (dt_val (e_call (ok_is_listed Z) (hr.mono (by decide)) ok (das_val (de_var 2) (das_nil))))) (dt_or1 (dt_cmp op_ne d_ne (de_callB call_len d_len Z.n_len (by decide +kernel) (da_cons (de_var 2) (da_nil))) (de_callB call_len d_len Z.n_len (by decide +kernel) (da_cons (de_fld K (de_var 0)) (da_nil))))))) (dss_one (ds_ret (de_bl))) (dss_nil)) (dss_cons (ds_for ok (di_seq (de_var 2)) (dg_name 3 ok.nd) (dss_cons (ds_if (DTW.pt (dt_or (dt_not (dt_val (e_call (ok_is_listed Z) (hr.mono (by decide)) ok (das_val (de_var 3) (das_nil))))) (dt_or (dt_cmp op_ne d_ne (de_callB call_len d_len Z.n_len (by decide +kernel) (da_cons (de_var 3) (da_nil))) (de_int)) (dt_or1 (dt_not (dt_val (e_call (ok_is_count Z) (hr.mono (by decide)) ok (das_val (de_ix (de_var 3) (de_int)) (das_val (de_int) (das_val (de_sub (de_callB call_len d_len Z.n_len (by decide +kernel) (da_cons (de_fld K (de_var 1)) (da_nil))) (de_int)) (das_nil))))))))))) (dss_one (ds_ret (de_bl))) (dss_nil)) (dss_one (ds_if (dt_not (dt_val (e_call (ok_is_integer Z) (hr.mono (by decide)) ok (das_val (de_ix (de_var 3) (de_int)) (das_nil))))) (dss_one (ds_ret (de_bl))) (dss_nil))))) (dss_one (ds_ret (de_bl)))), ?_⟩
  exact p_is_direct K Z.kf
theorem sc_slack : FnScope N_slack ["store", "other", "names", "one", "two"] (defScope s_slack) := ⟨rfl, rfl, rfl, by decide +kernel, rfl, by decide +kernel, by decide +kernel⟩
theorem ok_slack {P : Program} {w : World} {K : PySem.W.Frag} {mg : Str → Option Value} {base : Heap} (Z : Facts K mg) : Cal P w K mg base 1 "slack" 5 (T_slack K) := by
  obtain ⟨fd, Fn⟩ := Z.d_slack
  refine ⟨_, fd, ["store", "other", "names", "one", "two"], def_ok (k := 0) (N := N_slack) (B := []) Fn sc_slack ownB_p (fun cdv A outer s H E hr ok => ?_), Z.g_slack, Fn.kp, Fn.bindsN fun _ _ _ _ _ _ us hl => match us, hl with | [_, _, _, _, _], _ => rfl⟩
  refine ⟨_, dss_cons ((ds_comp 5 (own := [("table", 6), ("image", 7)]) ok (di_zip (da_cons (de_fld K (de_var 0)) (da_cons (de_fld K (de_var 1)) (da_nil))) Z.n_zip) (by kernel_rfl) (by decide) (fun _ => dg_tup (n := 2) rfl (dgs_cons (dg_name 6 ok.nd) (dgs_cons (dg_name 7 ok.nd) (dgs_nil)))) (fun _ => dts_nil) (fun _ => de_sub (de_ix (de_ix (de_var 6) (de_var 3)) (de_var 4)) (de_ix (de_ix (de_var 7) (de_ix (de_var 2) (de_var 3))) (de_ix (de_var 2) (de_var 4))))).2) (dss_one (ds_ret (de_callB (cr_min rfl) d_minL Z.n_min (by decide +kernel) (da_cons (de_var 5) (da_nil))))), ?_⟩
  exact p_slack K Z.kf
theorem sc_judge_direct : FnScope N_judge_direct ["store", "other", "fold"] (defScope s_judge_direct) := ⟨rfl, rfl, rfl, by decide +kernel, rfl, by decide +kernel, by decide +kernel⟩
theorem ok_judge_direct {P : Program} {w : World} {K : PySem.W.Frag} {mg : Str → Option Value} {base : Heap} (Z : Facts K mg) : Cal P w K mg base 4 "judge_direct" 3 (T_judge_direct K) := by
  obtain ⟨fd, Fn⟩ := Z.d_judge_direct
  refine ⟨_, fd, ["store", "other", "fold"], def_ok (k := 3) (N := N_judge_direct) (B := []) Fn sc_judge_direct ownB_p (fun cdv A outer s H E hr ok => ?_), Z.g_judge_direct, Fn.kp, Fn.bindsN fun _ _ _ _ _ _ us hl => match us, hl with | [_, _, _], _ => rfl⟩
  refine ⟨_, dss_cons (ds_expr (e_call (ok_check_stores Z) (hr.mono (by decide)) ok (das_val (de_var 0) (das_val (de_var 1) (das_nil))))) (dss_cons (ds_if (dt_not (dt_val (e_call (ok_is_direct Z) (hr.mono (by decide)) ok (das_val (de_var 0) (das_val (de_var 1) (das_val (de_var 2) (das_nil))))))) (dss_one (ds_ret (de_bl))) (dss_nil)) (dss_cons ((ds_comp 3 (own := [("pair", 4)]) ok (di_seq (de_var 2)) (by kernel_rfl) (by decide) (fun _ => dg_name 4 ok.nd) (fun _ => dts_nil) (fun _ => de_ix (de_var 4) (de_int))).2) (dss_cons (ds_for ok (di_enum (da_cons (de_var 2) (da_nil)) Z.n_enumerate) (dg_tup (n := 2) rfl (dgs_cons (dg_name 5 ok.nd) (dgs_cons (dg_name 4 ok.nd) (dgs_nil)))) (dss_cons (ds_asg (de_var 4) (dg_tup (n := 2) rfl (dgs_cons (dg_name 6 ok.nd) (dgs_cons (dg_name 7 ok.nd) (dgs_nil))))) (dss_cons (ds_if (DTW.pt (dt_or (dt_cmp op_lt d_lt (de_ix (de_fld K (de_var 0)) (de_var 5)) (de_addA (de_ix (de_fld K (de_var 1)) (de_var 6)) (de_var 7))) (dt_or1 (dt_cmp op_lt d_lt (de_addA (de_ix (de_fld K (de_var 0)) (de_var 5)) (de_var 7)) (de_ix (de_fld K (de_var 1)) (de_var 6)))))) (dss_one (ds_ret (de_bl))) (dss_nil)) (dss_one (ds_for ok (di_enum (da_cons (de_var 2) (da_nil)) Z.n_enumerate) (dg_tup (n := 2) rfl (dgs_cons (dg_name 8 ok.nd) (dgs_cons (dg_name 9 ok.nd) (dgs_nil)))) (dss_one (ds_if (dt_cmp op_gt d_gt (de_sub (de_ix (de_var 9) (de_int)) (de_var 7)) (e_call (ok_slack Z) (hr.mono (by decide)) ok (das_val (de_var 0) (das_val (de_var 1) (das_val (de_var 3) (das_val (de_var 5) (das_val (de_var 8) (das_nil)))))))) (dss_one (ds_ret (de_bl))) (dss_nil)))))))) (dss_one (ds_ret (de_bl)))))), ?_⟩
  exact p_judge_direct K Z.kf
theorem sc__law_exact : FnScope N__law_exact ["told", "due"] (defScope s__law_exact) := ⟨rfl, rfl, rfl, by decide +kernel, rfl, by decide +kernel, by decide +kernel⟩
theorem ok__law_exact {P : Program} {w : World} {K : PySem.W.Frag} {mg : Str → Option Value} {base : Heap} (Z : Facts K mg) : ∀ n : Nat, Cal P w K mg base (2 + n) "_law_exact" 2 (T__law_exact K n)
  | 0 => by
    obtain ⟨fd, Fn⟩ := Z.d__law_exact
    exact cal_none (ps := ["told", "due"]) Fn Z.g__law_exact (Fn.bindsN fun _ _ _ _ _ _ us hl => match us, hl with | [_, _], _ => rfl) (z__law_exact K)
  | n + 1 => by
    have ih := ok__law_exact (P := P) (w := w) (base := base) Z n
    obtain ⟨fd, Fn⟩ := Z.d__law_exact
    refine ⟨_, fd, ["told", "due"], def_ok (k := 2 + n) (N := N__law_exact) (B := []) Fn sc__law_exact ownB_p (fun cdv A outer s H E hr ok => ?_), Z.g__law_exact, Fn.kp, Fn.bindsN fun _ _ _ _ _ _ us hl => match us, hl with | [_, _], _ => rfl⟩
    refine ⟨_, dss_cons (ds_if (dt_val (de_isi (x := "") tab_tup (de_var 1) Z.n_isinstance Z.n_tuple (by decide +kernel))) (dss_cons (ds_if (DTW.pt (dt_or (dt_not (dt_val (de_isi (x := "") tab_tup (de_var 0) Z.n_isinstance Z.n_tuple (by decide +kernel)))) (dt_or1 (dt_cmp op_ne d_ne (de_callB call_len d_len Z.n_len (by decide +kernel) (da_cons (de_var 0) (da_nil))) (de_callB call_len d_len Z.n_len (by decide +kernel) (da_cons (de_var 1) (da_nil))))))) (dss_one (ds_ret (de_bl))) (dss_nil)) (dss_cons (ds_for ok (di_zip (da_cons (de_var 0) (da_cons (de_var 1) (da_nil))) Z.n_zip) (dg_tup (n := 2) rfl (dgs_cons (dg_name 2 ok.nd) (dgs_cons (dg_name 3 ok.nd) (dgs_nil)))) (dss_one (ds_if (dt_not (dt_val (e_call ih (hr.mono (by omega)) ok (das_val (de_var 2) (das_val (de_var 3) (das_nil)))))) (dss_one (ds_ret (de_bl))) (dss_nil)))) (dss_one (ds_ret (de_bl))))) (dss_nil)) (dss_cons (ds_if (dt_isN (de_var 1)) (dss_one (ds_ret (de_isN (de_var 0)))) (dss_nil)) (dss_cons (ds_if (dt_cmp op_isBl' d_isBl (de_var 1) (de_bl)) (dss_one (ds_ret (de_cmp op_isBl' d_isBl (de_var 0) (de_bl)))) (dss_nil)) (dss_cons (ds_if (dt_cmp op_isBl' d_isBl (de_var 1) (de_bl)) (dss_one (ds_ret (de_cmp op_isBl' d_isBl (de_var 0) (de_bl)))) (dss_nil)) (dss_cons (ds_if (dt_val (de_isi (x := "") tab_str (de_var 1) Z.n_isinstance Z.n_str (by decide +kernel))) (dss_one (ds_ret (de_and (de_isi (x := "") tab_str (de_var 0) Z.n_isinstance Z.n_str (by decide +kernel)) (de_one (de_cmp op_eq d_eq (de_var 0) (de_var 1)))))) (dss_nil)) (dss_one (ds_ret (de_and (e_call (ok__law_is_int Z) (hr.mono (by omega)) ok (das_val (de_var 0) (das_nil))) (de_one (de_cmp op_eq d_eq (de_var 0) (de_var 1)))))))))), ?_⟩
    exact p__law_exact K Z.kf n
theorem sc__law_row : FnScope N__law_row ["source", "asks", "longest"] (defScope s__law_row) := ⟨rfl, rfl, rfl, by decide +kernel, rfl, by decide +kernel, by decide +kernel⟩
theorem ok__law_row {P : Program} {w : World} {K : PySem.W.Frag} {mg : Str → Option Value} {base : Heap} (Z : Facts K mg) : Cal P w K mg base 2 "_law_row" 3 (T__law_row K) := by
  obtain ⟨fd, Fn⟩ := Z.d__law_row
  refine ⟨_, fd, ["source", "asks", "longest"], def_ok (k := 1) (N := N__law_row) (B := [0]) Fn sc__law_row ownB_o (fun cdv A outer s H E hr ok => ?_), Z.g__law_row, Fn.kp, Fn.bindsN fun _ _ _ _ _ _ us hl => match us, hl with | [_, _, _], _ => rfl⟩
  refine ⟨_, dss_cons (ds_asg (e_call (ok__law_draw Z) (hr.mono (by decide)) ok (das_own 0 (das_val (de_addA (de_var 2) (de_int)) (das_nil)))) (dg_name 3 ok.nd)) (dss_one (ds_ret (de_join (de_str) (de_new (dn_comp (own := [("k", 4)]) ok (di_rng1 (da_cons (de_var 3) (da_nil)) Z.n_range) (by kernel_rfl) (by decide) (fun _ => dg_name 4 ok.nd) (fun _ => dts_nil) (fun _ => de_ix (de_var 1) (e_call (ok__law_draw Z) (hr.mono (by decide)) ok.blk (das_own 0 (das_val (de_callB call_len d_len Z.n_len (by decide +kernel) (da_cons (de_var 1) (da_nil))) (das_nil)))))))))), ?_⟩
  exact p__law_row K Z.kf
theorem sc__law_course_pays : FnScope N__law_course_pays ["world", "row", "course"] (defScope s__law_course_pays) := ⟨rfl, rfl, rfl, by decide +kernel, rfl, by decide +kernel, by decide +kernel⟩
theorem ok__law_course_pays {P : Program} {w : World} {K : PySem.W.Frag} {mg : Str → Option Value} {base : Heap} (Z : Facts K mg) : Cal P w K mg base 1 "_law_course_pays" 3 (T__law_course_pays K) := by
  obtain ⟨fd, Fn⟩ := Z.d__law_course_pays
  refine ⟨_, fd, ["world", "row", "course"], def_ok (k := 0) (N := N__law_course_pays) (B := []) Fn sc__law_course_pays ownB_p (fun cdv A outer s H E hr ok => ?_), Z.g__law_course_pays, Fn.kp, Fn.bindsN fun _ _ _ _ _ _ us hl => match us, hl with | [_, _, _], _ => rfl⟩
  refine ⟨_, dss_cons (ds_asg (de_addA (de_ix (de_ix (de_var 0) (de_int)) (de_ix (de_var 2) (de_int))) (de_ix (de_ix (de_var 0) (de_int)) (de_ix (de_var 2) (de_neg (de_int))))) (dg_name 3 ok.nd)) (dss_cons (ds_for ok (di_rng1 (da_cons (de_callB call_len d_len Z.n_len (by decide +kernel) (da_cons (de_var 1) (da_nil))) (da_nil)) Z.n_range) (dg_name 4 ok.nd) (dss_one (ds_asg (de_addA (de_var 3) (de_ix (de_ix (de_ix (de_ix (de_var 0) (de_int)) (de_find (de_ix (de_var 0) (de_int)) (de_ix (de_var 1) (de_var 4)))) (de_ix (de_var 2) (de_var 4))) (de_ix (de_var 2) (de_addA (de_var 4) (de_int))))) (dg_name 3 ok.nd)))) (dss_one (ds_ret (de_var 3)))), ?_⟩
  exact p__law_course_pays K Z.kf
theorem sc_row_over : FnScope N_row_over ["asks", "thing"] (defScope s_row_over) := ⟨rfl, rfl, rfl, by decide +kernel, rfl, by decide +kernel, by decide +kernel⟩
theorem ok_row_over {P : Program} {w : World} {K : PySem.W.Frag} {mg : Str → Option Value} {base : Heap} (Z : Facts K mg) : Cal P w K mg base 1 "row_over" 2 (T_row_over K) := by
  obtain ⟨fd, Fn⟩ := Z.d_row_over
  refine ⟨_, fd, ["asks", "thing"], def_ok (k := 0) (N := N_row_over) (B := []) Fn sc_row_over ownB_p (fun cdv A outer s H E hr ok => ?_), Z.g_row_over, Fn.kp, Fn.bindsN fun _ _ _ _ _ _ us hl => match us, hl with | [_, _], _ => rfl⟩
  refine ⟨_, dss_cons (ds_if (DTW.pt (dt_or (dt_not (dt_val (de_isi (x := "") tab_str (de_var 1) Z.n_isinstance Z.n_str (by decide +kernel)))) (dt_or1 (dt_cmp op_gt d_gt (de_callB call_len d_len Z.n_len (by decide +kernel) (da_cons (de_var 1) (da_nil))) (de_gint Z.c_LONGEST))))) (dss_one (ds_ret (de_bl))) (dss_nil)) (dss_cons (ds_for ok (di_seq (de_var 1)) (dg_name 2 ok.nd) (dss_one (ds_if (dt_cmp op_notIn_sign d_notInS (de_var 2) (de_var 0)) (dss_one (ds_ret (de_bl))) (dss_nil)))) (dss_one (ds_ret (de_bl)))), ?_⟩
  exact p_row_over K Z.kf
theorem sc_check_row : FnScope N_check_row ["asks", "thing"] (defScope s_check_row) := ⟨rfl, rfl, rfl, by decide +kernel, rfl, by decide +kernel, by decide +kernel⟩
theorem ok_check_row {P : Program} {w : World} {K : PySem.W.Frag} {mg : Str → Option Value} {base : Heap} (Z : Facts K mg) : Cal P w K mg base 2 "check_row" 2 (T_check_row K) := by
  obtain ⟨fd, Fn⟩ := Z.d_check_row
  refine ⟨_, fd, ["asks", "thing"], def_ok (k := 1) (N := N_check_row) (B := []) Fn sc_check_row ownB_p (fun cdv A outer s H E hr ok => ?_), Z.g_check_row, Fn.kp, Fn.bindsN fun _ _ _ _ _ _ us hl => match us, hl with | [_, _], _ => rfl⟩
  refine ⟨_, dss_one (ds_if (dt_not (dt_val (e_call (ok_row_over Z) (hr.mono (by decide)) ok (das_val (de_var 0) (das_val (de_var 1) (das_nil)))))) (dss_one (ds_never)) (dss_nil)), ?_⟩
  exact p_check_row K Z.kf
theorem sc_is_course : FnScope N_is_course ["store", "thing", "length"] (defScope s_is_course) := ⟨rfl, rfl, rfl, by decide +kernel, rfl, by decide +kernel, by decide +kernel⟩
theorem ok_is_course {P : Program} {w : World} {K : PySem.W.Frag} {mg : Str → Option Value} {base : Heap} (Z : Facts K mg) : Cal P w K mg base 2 "is_course" 3 (T_is_course K) := by
  obtain ⟨fd, Fn⟩ := Z.d_is_course
  refine ⟨_, fd, ["store", "thing", "length"], def_ok (k := 1) (N := N_is_course) (B := []) Fn sc_is_course ownB_p (fun cdv A outer s H E hr ok => ?_), Z.g_is_course, Fn.kp, Fn.bindsN fun _ _ _ _ _ _ us hl => match us, hl with | [_, _, _], _ => rfl⟩
  refine ⟨_, dss_cons (ds_if (DTW.pt (dt_or (dt_not (dt_val (e_call (ok_is_listed Z) (hr.mono (by decide)) ok (das_val (de_var 1) (das_nil))))) (dt_or1 (dt_cmp op_ne d_ne (de_callB call_len d_len Z.n_len (by decide +kernel) (da_cons (de_var 1) (da_nil))) (de_addA (de_var 2) (de_int)))))) (dss_one (ds_ret (de_bl))) (dss_nil)) (dss_cons (ds_for ok (di_seq (de_var 1)) (dg_name 3 ok.nd) (dss_one (ds_if (DTW.pt (dt_or (dt_not (dt_val (e_call (ok_is_integer Z) (hr.mono (by decide)) ok (das_val (de_var 3) (das_nil))))) (dt_or1 (dt_not (dt_chain op_le d_le op_lt d_lt (de_int) (de_var 3) (de_callB call_len d_len Z.n_len (by decide +kernel) (da_cons (de_fld K (de_var 0)) (da_nil)))))))) (dss_one (ds_ret (de_bl))) (dss_nil)))) (dss_one (ds_ret (de_bl)))), ?_⟩
  exact p_is_course K Z.kf
theorem sc_numbers_of : FnScope N_numbers_of ["asks", "row"] (defScope s_numbers_of) := ⟨rfl, rfl, rfl, by decide +kernel, rfl, by decide +kernel, by decide +kernel⟩
theorem ok_numbers_of {P : Program} {w : World} {K : PySem.W.Frag} {mg : Str → Option Value} {base : Heap} (Z : Facts K mg) : Cal P w K mg base 1 "numbers_of" 2 (T_numbers_of K) := by
  obtain ⟨fd, Fn⟩ := Z.d_numbers_of
  refine ⟨_, fd, ["asks", "row"], def_ok (k := 0) (N := N_numbers_of) (B := []) Fn sc_numbers_of ownB_p (fun cdv A outer s H E hr ok => ?_), Z.g_numbers_of, Fn.kp, Fn.bindsN fun _ _ _ _ _ _ us hl => match us, hl with | [_, _], _ => rfl⟩
  refine ⟨_, dss_one (ds_retNew (dn_comp (own := [("letter", 2)]) ok (di_seq (de_var 1)) (by kernel_rfl) (by decide) (fun _ => dg_name 2 ok.nd) (fun _ => dts_nil) (fun _ => de_find (de_var 0) (de_var 2)))), ?_⟩
  exact p_numbers_of K Z.kf
theorem sc_paid : FnScope N_paid ["store", "row", "course"] (defScope s_paid) := ⟨rfl, rfl, rfl, by decide +kernel, rfl, by decide +kernel, by decide +kernel⟩
theorem ok_paid {P : Program} {w : World} {K : PySem.W.Frag} {mg : Str → Option Value} {base : Heap} (Z : Facts K mg) : Cal P w K mg base 3 "paid" 3 (T_paid K) := by
  obtain ⟨fd, Fn⟩ := Z.d_paid
  refine ⟨_, fd, ["store", "row", "course"], def_ok (k := 2) (N := N_paid) (B := []) Fn sc_paid ownB_p (fun cdv A outer s H E hr ok => ?_), Z.g_paid, Fn.kp, Fn.bindsN fun _ _ _ _ _ _ us hl => match us, hl with | [_, _, _], _ => rfl⟩
  refine ⟨_, dss_cons (ds_expr (e_call (ok_check_row Z) (hr.mono (by decide)) ok (das_val (de_fld K (de_var 0)) (das_val (de_var 1) (das_nil))))) (dss_cons (ds_if (dt_not (dt_val (e_call (ok_is_course Z) (hr.mono (by decide)) ok (das_val (de_var 0) (das_val (de_var 2) (das_val (de_callB call_len d_len Z.n_len (by decide +kernel) (da_cons (de_var 1) (da_nil))) (das_nil))))))) (dss_one (ds_never)) (dss_nil)) (dss_cons (ds_asg (de_addA (de_ix (de_fld K (de_var 0)) (de_ix (de_var 2) (de_int))) (de_ix (de_fld K (de_var 0)) (de_ix (de_var 2) (de_neg (de_int))))) (dg_name 3 ok.nd)) (dss_cons (ds_for ok (di_enum (da_cons (de_new (n_call (ok_numbers_of Z) (hr.mono (by decide)) ok (das_val (de_fld K (de_var 0)) (das_val (de_var 1) (das_nil))))) (da_nil)) Z.n_enumerate) (dg_tup (n := 2) rfl (dgs_cons (dg_name 4 ok.nd) (dgs_cons (dg_name 5 ok.nd) (dgs_nil)))) (dss_one (ds_asg (de_addA (de_var 3) (de_ix (de_ix (de_ix (de_fld K (de_var 0)) (de_var 5)) (de_ix (de_var 2) (de_var 4))) (de_ix (de_var 2) (de_addA (de_var 4) (de_int))))) (dg_name 3 ok.nd)))) (dss_one (ds_ret (de_var 3)))))), ?_⟩
  exact p_paid K Z.kf
theorem sc_law : FnScope N_law ["script"] (defScope s_law) := ⟨rfl, rfl, rfl, by decide +kernel, rfl, by decide +kernel, by decide +kernel⟩

abbrev R : PySem.W.OpenRow := PySem.W.OpenLaw.row PySem.Challenge.rw_hindsage_k96_whole_direct_judged
def names : List PySem.Str := (["AfterError", "WrongThing", "BadAsks", "BadRow", "BadAsk", "BadState", "BadCourse", "BadStore", "Unlike", "TooMany", "LETTERS", "LONGEST", "is_integer", "is_count", "is_listed", "deep", "is_asks", "check_asks", "row_over", "check_row", "check_ask", "numbers_of", "integers", "MOST_STATES", "is_table", "are_costs", "Store", "check_state", "pair_sums", "sum_store"] : List PySem.Str) ++ (["turned_store", "check_stores", "slack", "is_direct", "judge_direct", "is_course", "paid", "_law_cell", "_law_source", "_law_draw", "_law_is_int", "_law_exact", "_law_asks", "_law_states", "_law_prices", "_law_any_table", "_law_change", "_law_changes", "_law_served", "_law_world", "_law_raised", "_law_moved", "_law_lists", "_law_row", "_law_small", "_law_stored", "_law_above_image", "_law_right", "_law_changed", "_law_course_pays"] : List PySem.Str)
abbrev hk : PySem.W.Hook := He.hookD 4 fa fn
def ob (s : PySem.W.SharedT) : He.AlD := He.obsDG 4 fa fn (HandSHeadRun.getT s)
theorem ob_eq (s : PySem.W.SharedT) : ob s = hk.obs s.abs := He.obsDG_eq (HandSHeadRun.getT_eq s)
set_option maxHeartbeats 0
theorem run (w : World) : HandSHeadRun.RunEq R (PySem.W.view R.prog [66]) hk ob 40000 names w := by
  intro os
  kernel_rfl
theorem lawF {P : Program} {w : World} {K : PySem.W.Frag} {h : Heap} {mg : Str → Option Value} {f : Addr} (X : K.In h) (G : h.Ns mainGlobals mg) (hfa : mg ("law" : Str) = some (.ref f)) (c : He.SaysD fa fn K) :
    ∃ fd : FuncData, (∀ (s : Shared) (v : Value), BindsTo s fd ⟨[v], []⟩ [("script", v)]) ∧ ∀ base : Heap, FnOk P w K mg base (L2.CX P w) 12 f fd ["script"] (spG K 1 (T_law K)) := by
  have Z := facts X G c
  obtain ⟨fd0, Fn⟩ := Z.d_law
  have e := hfa.symm.trans Z.g_law
  cases e
  have b := FunD.bindsA (ps := ["script"]) Fn fun _ _ _ _ _ _ us hl => match us, hl with | [_], _ => rfl
  refine ⟨fd0, fun s v => b s [v] rfl, fun base => ?_⟩
  unfold T_law
  exact def_ok (k := 11) (N := N_law) (B := []) Fn sc_law ownB_p (fun cdv A outer s H E hr ok => ⟨_, dss_cons (ds_own 1 (n_call (ok__law_source Z) (hr.mono (by decide)) ok (das_val (de_var 0) (das_val (de_int) (das_nil)))) ok.nd) (dss_cons (ds_asg (e_call (ok__law_asks Z) (hr.mono (by decide)) ok (das_own 1 (das_nil))) (dg_name 2 ok.nd)) (dss_cons (ds_asg (e_callT (ok__law_moved Z) (hr.mono (by decide)) ok (n_call (ok__law_source Z) (hr.mono (by decide)) ok (das_val (de_var 0) (das_val (de_int) (das_nil)))) (da_cons (de_new (n_callT (ok__law_small Z) (hr.mono (by decide)) ok (n_call (ok__law_source Z) (hr.mono (by decide)) ok (das_val (de_var 0) (das_val (de_int) (das_nil)))) (da_cons (de_var 2) (da_cons (de_int) (da_nil))))) (da_nil))) (dg_name 3 ok.nd)) (dss_cons (ds_asg (de_addA (de_int) (e_call (ok__law_draw Z) (hr.mono (by decide)) ok (das_own 1 (das_val (de_int) (das_nil))))) (dg_name 4 ok.nd)) (dss_cons (ds_asg (de_new (dn_comp (own := [("s", 6)]) ok (di_rng1 (da_cons (de_var 4) (da_nil)) Z.n_range) (by kernel_rfl) (by decide) (fun _ => dg_name 6 ok.nd) (fun _ => dts_nil) (fun _ => e_call (ok__law_draw Z) (hr.mono (by decide)) ok.blk (das_own 1 (das_val (de_callB call_len d_len Z.n_len (by decide +kernel) (da_cons (de_ix (de_var 3) (de_int)) (da_nil))) (das_nil)))))) (dg_name 5 ok.nd)) (dss_cons (ds_asg (de_new (dn_comp (own := [("s", 6)]) ok (di_rng1 (da_cons (de_var 4) (da_nil)) Z.n_range) (by kernel_rfl) (by decide) (fun _ => dg_name 6 ok.nd) (fun _ => dts_nil) (fun _ => de_sub (e_call (ok__law_draw Z) (hr.mono (by decide)) ok.blk (das_own 1 (das_val (de_int) (das_nil)))) (de_int)))) (dg_name 7 ok.nd)) (dss_cons (ds_asg (de_new (n_callT (ok__law_above_image Z) (hr.mono (by decide)) ok (n_call (ok__law_source Z) (hr.mono (by decide)) ok (das_val (de_var 0) (das_val (de_int) (das_nil)))) (da_cons (de_var 3) (da_cons (de_var 5) (da_cons (de_var 7) (da_nil)))))) (dg_name 8 ok.nd)) (dss_cons ((ds_comp 9 (own := [("s", 6)]) ok (di_rng1 (da_cons (de_var 4) (da_nil)) Z.n_range) (by kernel_rfl) (by decide) (fun _ => dg_name 6 ok.nd) (fun _ => dts_nil) (fun _ => de_tup (da_cons (de_ix (de_var 5) (de_var 6)) (da_cons (de_ix (de_var 7) (de_var 6)) (da_nil))))).2) (dss_cons (ds_if (dt_not (dt_val (e_call (ok__law_right Z) (hr.mono (by decide)) ok (das_val (de_var 8) (das_val (de_var 3) (das_val (de_var 9) (das_nil))))))) (dss_one (ds_ret (de_bl))) (dss_nil)) (dss_cons (ds_asg (de_new (n_call (ok__law_stored Z) (hr.mono (by decide)) ok (das_val (de_var 8) (das_nil)))) (dg_name 10 ok.nd)) (dss_cons (ds_asg (de_new (n_call (ok__law_stored Z) (hr.mono (by decide)) ok (das_val (de_var 3) (das_nil)))) (dg_name 11 ok.nd)) (dss_cons (ds_own 12 (dn_lst (da_cons (de_var 9) (da_cons (de_new (dn_comp (own := [("pair", 13)]) ok (di_seq (de_var 9)) (by kernel_rfl) (by decide) (fun _ => dg_name 13 ok.nd) (fun _ => dts_nil) (fun _ => de_new (dn_list (da_cons (de_var 13) (da_nil)) Z.n_list (by decide +kernel))))) (da_nil)))) ok.nd) (dss_cons (ds_for ok (di_rng1 (da_cons (de_int) (da_nil)) Z.n_range) (dg_name 14 ok.nd) (dss_one (ds_append 12 (de_new (n_callT (ok__law_changed Z) (hr.mono (by decide)) ok (n_call (ok__law_source Z) (hr.mono (by decide)) ok (das_val (de_var 0) (das_val (de_addA (de_int) (de_var 14)) (das_nil)))) (da_cons (de_var 9) (da_cons (de_callB call_len d_len Z.n_len (by decide +kernel) (da_cons (de_ix (de_var 3) (de_int)) (da_nil))) (da_nil)))))))) (dss_cons (ds_own 15 (dn_lst (da_nil)) ok.nd) (dss_cons (ds_for ok (di_rng1 (da_cons (de_var 4) (da_nil)) Z.n_range) (dg_name 6 ok.nd) (dss_cons (ds_asg (e_call (ok__law_draw Z) (hr.mono (by decide)) ok (das_own 1 (das_val (de_callB call_len d_len Z.n_len (by decide +kernel) (da_cons (de_ix (de_var 3) (de_int)) (da_nil))) (das_nil)))) (dg_name 16 ok.nd)) (dss_one (ds_append 15 (de_tup (da_cons (de_var 16) (da_cons (de_sub (de_sub (de_ix (de_ix (de_var 8) (de_int)) (de_var 6)) (de_ix (de_ix (de_var 3) (de_int)) (de_var 16))) (e_call (ok__law_draw Z) (hr.mono (by decide)) ok (das_own 1 (das_val (de_int) (das_nil))))) (da_nil)))))))) (dss_cons (ds_append 12 (de_frz 15)) (dss_cons (ds_for ok (di_seq (de_new (dn_catO 12 (dn_lst (da_cons (de_non) (da_cons (de_int) (da_cons (de_str) (da_cons (de_tup (da_nil)) (da_nil))))))))) (dg_name 17 ok.nd) (dss_one (ds_if (dt_not (dt_val (e_call (ok__law_exact Z 6) (hr.mono (by decide)) ok (das_val (e_call (ok_judge_direct Z) (hr.mono (by decide)) ok (das_val (de_var 10) (das_val (de_var 11) (das_val (de_var 17) (das_nil))))) (das_val (e_call (ok__law_right Z) (hr.mono (by decide)) ok (das_val (de_var 8) (das_val (de_var 3) (das_val (de_var 17) (das_nil))))) (das_nil)))))) (dss_one (ds_ret (de_bl))) (dss_nil)))) (dss_cons (ds_asg (e_call (ok__law_row Z) (hr.mono (by decide)) ok (das_own 1 (das_val (de_var 2) (das_val (de_int) (das_nil))))) (dg_name 18 ok.nd)) (dss_cons ((ds_comp 19 (own := [("k", 20)]) ok (di_rng1 (da_cons (de_addA (de_callB call_len d_len Z.n_len (by decide +kernel) (da_cons (de_var 18) (da_nil))) (de_int)) (da_nil)) Z.n_range) (by kernel_rfl) (by decide) (fun _ => dg_name 20 ok.nd) (fun _ => dts_nil) (fun _ => e_call (ok__law_draw Z) (hr.mono (by decide)) ok.blk (das_own 1 (das_val (de_var 4) (das_nil))))).2) (dss_cons ((ds_comp 16 (own := [("s", 6)]) ok (di_seq (de_var 19)) (by kernel_rfl) (by decide) (fun _ => dg_name 6 ok.nd) (fun _ => dts_nil) (fun _ => de_ix (de_var 5) (de_var 6))).2) (dss_cons (ds_asg (e_call (ok__law_course_pays Z) (hr.mono (by decide)) ok (das_val (de_var 8) (das_val (de_var 18) (das_val (de_var 19) (das_nil))))) (dg_name 21 ok.nd)) (dss_cons (ds_asg (e_call (ok__law_course_pays Z) (hr.mono (by decide)) ok (das_val (de_var 3) (das_val (de_var 18) (das_val (de_var 16) (das_nil))))) (dg_name 22 ok.nd)) (dss_one (ds_ret (de_and (de_cmp op_ge d_ge (de_var 21) (de_var 22)) (de_and (e_call (ok__law_exact Z 6) (hr.mono (by decide)) ok (das_val (e_call (ok_paid Z) (hr.mono (by decide)) ok (das_val (de_var 10) (das_val (de_var 18) (das_val (de_var 19) (das_nil))))) (das_val (de_var 21) (das_nil)))) (de_one (e_call (ok__law_exact Z 6) (hr.mono (by decide)) ok (das_val (e_call (ok_paid Z) (hr.mono (by decide)) ok (das_val (de_var 11) (das_val (de_var 18) (das_val (de_var 16) (das_nil))))) (das_val (de_var 22) (das_nil)))))))))))))))))))))))))))))), p_law K Z.kf⟩)
end Q
open PySem PySem.W PySem.Calls PyProof.Rows
theorem PySem.Challenge.cw_hindsage_k96_whole_direct_judged_holds : PySem.Challenge.rw_hindsage_k96_whole_direct_judged.Holds := by
  w_on; o_law
  refine HandSHeadRun.head_any (r := OpenLaw.row PySem.Challenge.rw_hindsage_k96_whole_direct_judged) (q := view (OpenLaw.row PySem.Challenge.rw_hindsage_k96_whole_direct_judged).prog [66]) (H := Q.hk) (ob := Q.ob) (M := 40000) (loose := Q.names) (d := HandSHeadRun.topDef (OpenLaw.row PySem.Challenge.rw_hindsage_k96_whole_direct_judged).prog 66) (kwd := []) Q.ob_eq
    (by kernel_rfl) (fun s => by kernel_rfl) Q.run (by kernel_rfl) (by kernel_rfl) (by kernel_rfl) (by rfl) (by first | assumption | decide +kernel) (by decide +kernel) ⟨rfl, rfl, rfl, rfl, rfl, by decide +kernel⟩ ?hw ?hc
  case hw => w_witness2
  case hc =>
    refine L2.walk_ofE (l := PySem.Challenge.rw_hindsage_k96_whole_direct_judged) (n := 63) (k := 12) (x := "script") (CX := DL.CXA) rfl (by decide) (by kernel_rfl) ⟨rfl, by decide, by decide⟩ ?F DL.cxa_none
    intro w mg fa h Y G hmg0
    obtain ⟨K, KX, c⟩ := Y
    have hmg : mg ("law" : PySem.Str) = some (.ref fa) := by
      have e : (HandSHeadRun.topDef (OpenLaw.row PySem.Challenge.rw_hindsage_k96_whole_direct_judged).prog 66).name = ("law" : PySem.Str) := by kernel_rfl
      rw [← e]
      exact hmg0
    obtain ⟨fd, hb, hF⟩ := Q.lawF (P := (PySem.Challenge.rw_hindsage_k96_whole_direct_judged).prog) (w := w) KX G hmg c
    exact ⟨K, fd, _, KX, hb, fun H a ns hl _ hS => DL.law_sp hS fun Q E q => ⟨ns, rfl, hl, q⟩, fun base _ _ => DL.fn_any (hF base)⟩
