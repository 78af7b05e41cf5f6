import PyProof.Rows.All
import HandS.ForMost
import HandS.ForExc
import HandS.Wide
import HandS.TupAny
import HandS.Deep
import HandS.SortInts
import HandS.Style
import HandS.Conv
import HandS.SetFor
import HandS.More
import HandS.IsInst
import HandS.ExcInit
import HandS.ExcIs
import HandS.ExcField
import HandS.WordsExc
import HandS.SortKw
import PySem.Challenge.RW_spelledrows_k52_whole_uneven_moves
set_option Elab.async false
set_option linter.all false
set_option maxRecDepth 100000
set_option maxHeartbeats 4000000
namespace Sx
open PySem PySem.Spec PyProof.Rows L2

/-! ## abstract values, cells, the store -/
inductive Fl where
  | new | old | any
  deriving DecidableEq, Repr
inductive AV where
  | non
  | bl (b : Bool)
  | int (i : Int)
  | str (s : Str)
  | tup (xs : List AV)
  | lst (f : Fl) (xs : List AV)
  | ref (n : Nat)
  | scr (ns : List Int)
  | exc (c : Nat) (xs : List AV)
inductive Cell where
  | lst (xs : List AV)
  | dK (ks : List Key) (xs : List AV)
  | dT (ks : List (List Key)) (xs : List AV)
structure St where
  c : List (Option Cell)
  lo : Nat
abbrev Env := List (Option AV)

/-- an end of an evaluation -/
inductive R (α : Type) where
  | ok (a : α) (A : St)
  | exc (c : Nat) (xs : List AV) (A : St)
  | stuck
/-- an end of a statement -/
inductive RS where
  | nx (e : Env) (A : St)
  | bk (e : Env) (A : St)
  | ct (e : Env) (A : St)
  | rt (v : AV) (e : Env) (A : St)
  | exc (c : Nat) (xs : List AV) (e : Env) (A : St)
  | stuck

/-! ## the world of an activation -/
/-- the classes of errors: where each stands, its fields, the latest first -/
structure Gb where
  cls : Nat → Addr
  fld : Nat → List Str
  kk : PySem.W.Frag
  cur : Option (Addr × Addr × Addr) := none
/-- a list of the module's own that holds these ints -/
def KL (K : PySem.W.Frag) (p : Addr) (ns : List Int) : Prop := ∃ (o : Obj) (its : Array Value) (n : Nat), K.lookup p = some o ∧ o.cls = .type "list" ∧ o.dict = none ∧ o.data = .seq its n ∧ its.size ≤ sizeLine ∧ Vals (ns.map V.int) its.toList
structure Wd where
  g : Gb
  H0 : Hp
  Mu : Addr → Prop
  Fb : Addr → Prop
  kin : Nat
  rin : Nat → Addr
  cur : Option (Addr × Addr × Addr)
  pend : List (AV × V)

def Live (A : St) (ρ : Nat → Addr) (p : Addr) : Prop := ∃ n c, A.c[n]? = some (some c) ∧ ρ n = p
def flOk (f : Fl) (o : Option HO) : Prop := match f with
  | .new => o = none
  | .old => o ≠ none
  | .any => True

section
variable (w : Wd) (ρ : Nat → Addr) (A : St) (H : Hp)
mutual
def RelA : AV → V → Prop
  | .non, x => x = .non
  | .bl b, x => x = .bl b
  | .int i, x => x = .int i
  | .str s, x => x = .str s
  | .tup xs, x => ∃ p vs, x = .ref p ∧ H p = some (.tup vs) ∧ ¬ Live A ρ p ∧ RelAs xs vs
  | .lst f xs, x => ∃ p vs, x = .ref p ∧ H p = some (.lst vs) ∧ ¬ Live A ρ p ∧ ¬ w.Fb p ∧ flOk f (w.H0 p) ∧ RelAs xs vs
  | .ref n, x => n < A.c.length ∧ x = .ref (ρ n)
  | .scr ns, x => ∃ p, x = .ref p ∧ (((∃ o, H p = some (.frz o (.lst (ns.map V.int)))) ∧ ¬ Live A ρ p) ∨ KL w.g.kk p ns)
  | .exc c xs, x => ∃ a d fs vs, w.g.cur = some (a, w.g.cls c, d) ∧ x = .ref a ∧ H d = some (.xd fs) ∧ ¬ Live A ρ d ∧ fs = (w.g.fld c).zip vs ∧ (w.g.fld c).length = vs.length ∧ RelAs xs vs
def RelAs : List AV → List V → Prop
  | [], vs => vs = []
  | x :: xs, vs => ∃ v r, vs = v :: r ∧ RelA x v ∧ RelAs xs r
end
end
/-- the forms of a cell -/
def CellR (w : Wd) (ρ : Nat → Addr) (A : St) (H : Hp) (p : Addr) : Cell → Prop
  | .lst xs => ∃ vs, H p = some (.lst vs) ∧ RelAs w ρ A H xs vs
  | .dK ks xs => ∃ vs, H p = some (.dK (ks.zip vs)) ∧ ks.length = vs.length ∧ ks.Nodup ∧ RelAs w ρ A H xs vs
  | .dT ks xs => ∃ vs, H p = some (.dT (ks.zip vs)) ∧ ks.length = vs.length ∧ ks.Nodup ∧ RelAs w ρ A H xs vs
def EnvR (w : Wd) (ρ : Nat → Addr) (A : St) (H : Hp) (env : Env) (σ : L2.St) : Prop :=
  env.length = σ.length ∧ ∀ (i : Nat) v, env[i]? = some (some v) → ∃ x, σ[i]? = some (some x) ∧ RelA w ρ A H v x

mutual
/-- every cell that is named lies below m -/
def below (m : Nat) : AV → Bool
  | .tup xs => belows m xs
  | .lst _ xs => belows m xs
  | .ref n => decide (n < m)
  | .exc _ xs => belows m xs
  | _ => true
def belows (m : Nat) : List AV → Bool
  | [] => true
  | x :: xs => below m x && belows m xs
end

structure Sit (w : Wd) (ρ : Nat → Addr) (A : St) (H : Hp) (env : Env) (σ : L2.St) : Prop where
  keep : ∀ a o, w.H0 a = some o → ¬ w.Mu a → H a = some o
  mono : ∀ a, w.H0 a ≠ none → H a ≠ none
  fb : ∀ a, w.Fb a → H a ≠ none
  inj : ∀ n m c c', A.c[n]? = some (some c) → A.c[m]? = some (some c') → ρ n = ρ m → n = m
  cell : ∀ n c, A.c[n]? = some (some c) → ¬ w.Fb (ρ n) ∧ CellR w ρ A H (ρ n) c ∧ ((n < w.kin ∧ w.Mu (ρ n)) ∨ (w.kin ≤ n ∧ w.H0 (ρ n) = none))
  lo : w.kin ≤ A.lo ∧ A.lo ≤ A.c.length
  ins : ∀ j, j < w.kin → ρ j = w.rin j
  pend : ∀ p ∈ w.pend, below A.lo p.1 = true ∧ RelA w ρ A H p.1 p.2
  env : EnvR w ρ A H env σ

/-- from a state to a later one: cells come, what is no cell stays -/
structure Ext (ρ : Nat → Addr) (A : St) (H : Hp) (ρ' : Nat → Addr) (A' : St) (H' : Hp) : Prop where
  len : A.c.length ≤ A'.c.length
  lo : A'.lo = A.lo
  rho : ∀ n, n < A.c.length → ρ' n = ρ n
  frz : ∀ a o, H a = some o → ¬ Live A ρ a → H' a = some o ∧ ¬ Live A' ρ' a
  mono : ∀ a, H a ≠ none → H' a ≠ none

theorem Ext.refl {ρ : Nat → Addr} {A : St} {H : Hp} : Ext ρ A H ρ A H := ⟨Nat.le_refl _, rfl, fun _ _ => rfl, fun _ _ h n => ⟨h, n⟩, fun _ h => h⟩
theorem Ext.trans {ρ ρ1 ρ2 : Nat → Addr} {A A1 A2 : St} {H H1 H2 : Hp} (a : Ext ρ A H ρ1 A1 H1) (b : Ext ρ1 A1 H1 ρ2 A2 H2) : Ext ρ A H ρ2 A2 H2 where
  len := Nat.le_trans a.len b.len
  lo := b.lo.trans a.lo
  rho := fun n h => (b.rho n (Nat.lt_of_lt_of_le h a.len)).trans (a.rho n h)
  frz := fun x o h n => b.frz x o (a.frz x o h n).1 (a.frz x o h n).2
  mono := fun x h => b.mono x (a.mono x h)

section
variable {w : Wd} {ρ ρ' : Nat → Addr} {A A' : St} {H H' : Hp} {env : Env} {σ : L2.St}
mutual
theorem RelA.ext (e : Ext ρ A H ρ' A' H') : ∀ {v : AV} {x : V}, RelA w ρ A H v x → RelA w ρ' A' H' v x
  | .non, _, h => by unfold RelA at h ⊢; exact h
  | .bl _, _, h => by unfold RelA at h ⊢; exact h
  | .int _, _, h => by unfold RelA at h ⊢; exact h
  | .str _, _, h => by unfold RelA at h ⊢; exact h
  | .tup xs, _, h => by
    unfold RelA at h ⊢
    obtain ⟨p, vs, rfl, hp, hl, r⟩ := h
    obtain ⟨h1, h2⟩ := e.frz _ _ hp hl
    exact ⟨p, vs, rfl, h1, h2, RelAs.ext e r⟩
  | .lst f xs, _, h => by
    unfold RelA at h ⊢
    obtain ⟨p, vs, rfl, hp, hl, hf, hg, r⟩ := h
    obtain ⟨h1, h2⟩ := e.frz _ _ hp hl
    exact ⟨p, vs, rfl, h1, h2, hf, hg, RelAs.ext e r⟩
  | .ref n, _, h => by
    unfold RelA at h ⊢
    obtain ⟨h1, rfl⟩ := h
    exact ⟨Nat.lt_of_lt_of_le h1 e.len, by rw [e.rho n h1]⟩
  | .scr ns, _, h => by
    unfold RelA at h ⊢
    obtain ⟨p, rfl, h⟩ := h
    rcases h with ⟨⟨o, hp⟩, hl⟩ | h
    · obtain ⟨h1, h2⟩ := e.frz _ _ hp hl
      exact ⟨p, rfl, .inl ⟨⟨o, h1⟩, h2⟩⟩
    · exact ⟨p, rfl, .inr h⟩
  | .exc c xs, _, h => by
    unfold RelA at h ⊢
    obtain ⟨a, d, fs, vs, hc, rfl, hd, hl, ef, el, r⟩ := h
    obtain ⟨h1, h2⟩ := e.frz _ _ hd hl
    exact ⟨a, d, fs, vs, hc, rfl, h1, h2, ef, el, RelAs.ext e r⟩
theorem RelAs.ext (e : Ext ρ A H ρ' A' H') : ∀ {xs : List AV} {vs : List V}, RelAs w ρ A H xs vs → RelAs w ρ' A' H' xs vs
  | [], _, h => by unfold RelAs at h ⊢; exact h
  | x :: xs, _, h => by
    unfold RelAs at h ⊢
    obtain ⟨v, r, rfl, h1, h2⟩ := h
    exact ⟨v, r, rfl, RelA.ext e h1, RelAs.ext e h2⟩
end
theorem RelAs.nil : RelAs w ρ A H [] [] := by unfold RelAs; rfl
theorem RelAs.cons {x : AV} {xs : List AV} {v : V} {vs : List V} (h : RelA w ρ A H x v) (r : RelAs w ρ A H xs vs) : RelAs w ρ A H (x :: xs) (v :: vs) := by
  unfold RelAs; exact ⟨v, vs, rfl, h, r⟩
theorem RelAs.nil_of {vs : List V} (h : RelAs w ρ A H [] vs) : vs = [] := by unfold RelAs at h; exact h
theorem RelAs.cons_of {x : AV} {xs : List AV} {vs : List V} (h : RelAs w ρ A H (x :: xs) vs) : ∃ v r, vs = v :: r ∧ RelA w ρ A H x v ∧ RelAs w ρ A H xs r := by
  unfold RelAs at h; exact h
theorem RelAs.length : ∀ {xs : List AV} {vs : List V}, RelAs w ρ A H xs vs → xs.length = vs.length
  | [], _, h => by rw [h.nil_of]; rfl
  | x :: xs, _, h => by
    obtain ⟨v, r, rfl, _, t⟩ := h.cons_of
    simp [RelAs.length t]
theorem RelAs.get : ∀ {xs : List AV} {vs : List V} {i : Nat} {x : AV}, RelAs w ρ A H xs vs → xs[i]? = some x → ∃ v, vs[i]? = some v ∧ RelA w ρ A H x v
  | [], _, _, _, _, e => by simp at e
  | y :: ys, _, 0, x, h, e => by
    obtain ⟨v, r, rfl, h1, _⟩ := h.cons_of
    have e' : y = x := by simpa using e
    subst e'
    exact ⟨v, rfl, h1⟩
  | y :: ys, _, i + 1, x, h, e => by
    obtain ⟨v, r, rfl, _, h2⟩ := h.cons_of
    obtain ⟨u, hu, ru⟩ := RelAs.get (i := i) (x := x) h2 (by simpa using e)
    exact ⟨u, by simpa using hu, ru⟩
theorem RelAs.append : ∀ {xs ys : List AV} {vs us : List V}, RelAs w ρ A H xs vs → RelAs w ρ A H ys us → RelAs w ρ A H (xs ++ ys) (vs ++ us)
  | [], _, _, _, h, g => by rw [h.nil_of]; exact g
  | x :: xs, ys, _, us, h, g => by
    obtain ⟨v, r, rfl, h1, h2⟩ := h.cons_of
    exact RelAs.cons h1 (RelAs.append h2 g)
theorem RelAs.take : ∀ {xs : List AV} {vs : List V} (n : Nat), RelAs w ρ A H xs vs → RelAs w ρ A H (xs.take n) (vs.take n)
  | _, _, 0, _ => RelAs.nil
  | [], _, n + 1, h => by rw [h.nil_of]; exact RelAs.nil
  | x :: xs, _, n + 1, h => by
    obtain ⟨v, r, rfl, h1, h2⟩ := h.cons_of
    exact RelAs.cons h1 (RelAs.take n h2)
theorem RelAs.drop : ∀ {xs : List AV} {vs : List V} (n : Nat), RelAs w ρ A H xs vs → RelAs w ρ A H (xs.drop n) (vs.drop n)
  | _, _, 0, h => h
  | [], _, n + 1, h => by rw [h.nil_of]; exact RelAs.nil
  | x :: xs, _, n + 1, h => by
    obtain ⟨v, r, rfl, h1, h2⟩ := h.cons_of
    exact RelAs.drop n h2
theorem RelAs.set {x : AV} {v : V} (hx : RelA w ρ A H x v) : ∀ {xs : List AV} {vs : List V} (n : Nat), RelAs w ρ A H xs vs → RelAs w ρ A H (xs.set n x) (vs.set n v)
  | [], _, n, h => by rw [h.nil_of]; cases n <;> exact RelAs.nil
  | y :: xs, _, 0, h => by
    obtain ⟨u, r, rfl, h1, h2⟩ := h.cons_of
    exact RelAs.cons hx h2
  | y :: xs, _, n + 1, h => by
    obtain ⟨u, r, rfl, h1, h2⟩ := h.cons_of
    exact RelAs.cons h1 (RelAs.set hx n h2)
theorem RelAs.eraseIdx : ∀ {xs : List AV} {vs : List V} (n : Nat), RelAs w ρ A H xs vs → RelAs w ρ A H (xs.eraseIdx n) (vs.eraseIdx n)
  | [], _, n, h => by rw [h.nil_of]; cases n <;> exact RelAs.nil
  | y :: xs, _, 0, h => by
    obtain ⟨u, r, rfl, h1, h2⟩ := h.cons_of
    exact h2
  | y :: xs, _, n + 1, h => by
    obtain ⟨u, r, rfl, h1, h2⟩ := h.cons_of
    exact RelAs.cons h1 (RelAs.eraseIdx n h2)
theorem RelAs.reverse {xs : List AV} {vs : List V} (h : RelAs w ρ A H xs vs) : RelAs w ρ A H xs.reverse vs.reverse := by
  induction xs generalizing vs with
  | nil => rw [h.nil_of]; exact RelAs.nil
  | cons x xs ih =>
    obtain ⟨v, r, rfl, h1, h2⟩ := h.cons_of
    rw [List.reverse_cons, List.reverse_cons]
    exact RelAs.append (ih h2) (RelAs.cons h1 RelAs.nil)
theorem RelAs.dropLast {xs : List AV} {vs : List V} (h : RelAs w ρ A H xs vs) : RelAs w ρ A H xs.dropLast vs.dropLast := by
  rw [List.dropLast_eq_take, List.dropLast_eq_take, h.length]
  exact h.take _
theorem RelAs.mem {xs : List AV} {vs : List V} (h : RelAs w ρ A H xs vs) {x : AV} (hx : x ∈ xs) : ∃ v ∈ vs, RelA w ρ A H x v := by
  obtain ⟨i, hi⟩ := List.mem_iff_getElem?.mp hx
  obtain ⟨v, hv, r⟩ := h.get hi
  exact ⟨v, List.mem_of_getElem? hv, r⟩
theorem CellR.ext (e : Ext ρ A H ρ' A' H') {p : Addr} (hp : H' p = H p) : ∀ {c : Cell}, CellR w ρ A H p c → CellR w ρ' A' H' p c
  | .lst xs, h => by
    obtain ⟨vs, h1, h2⟩ := h
    exact ⟨vs, hp.trans h1, h2.ext e⟩
  | .dK ks xs, h => by
    obtain ⟨vs, h1, h2, h3, h4⟩ := h
    exact ⟨vs, hp.trans h1, h2, h3, h4.ext e⟩
  | .dT ks xs, h => by
    obtain ⟨vs, h1, h2, h3, h4⟩ := h
    exact ⟨vs, hp.trans h1, h2, h3, h4.ext e⟩
theorem EnvR.ext (e : Ext ρ A H ρ' A' H') (h : EnvR w ρ A H env σ) : EnvR w ρ' A' H' env σ :=
  ⟨h.1, fun i v q => let ⟨x, h1, h2⟩ := h.2 i v q; ⟨x, h1, h2.ext e⟩⟩
theorem EnvR.get (h : EnvR w ρ A H env σ) {i : Nat} {v : AV} (q : env[i]? = some (some v)) : ∃ x, σ[i]? = some (some x) ∧ RelA w ρ A H v x := h.2 i v q
theorem EnvR.set {v : AV} {x : V} (h : EnvR w ρ A H env σ) (r : RelA w ρ A H v x) (i : Nat) : EnvR w ρ A H (env.set i (some v)) (σ.set i (some x)) := by
  refine ⟨by simp [h.1], fun j u q => ?_⟩
  by_cases e : i = j
  · subst e
    by_cases hi : i < env.length
    · rw [List.getElem?_set_self hi] at q
      have q' := Option.some.inj (Option.some.inj q)
      subst q'
      exact ⟨x, by rw [List.getElem?_set_self (by rw [← h.1]; exact hi)], r⟩
    · rw [List.getElem?_eq_none (by simpa using hi)] at q; cases q
  · rw [List.getElem?_set_ne e] at q ⊢
    exact h.2 j u q
theorem EnvR.kill (h : EnvR w ρ A H env σ) (i : Nat) : EnvR w ρ A H (env.set i none) σ := by
  refine ⟨by simp [h.1], fun j u q => ?_⟩
  by_cases e : i = j
  · subst e
    by_cases hi : i < env.length
    · rw [List.getElem?_set_self hi] at q; cases q
    · rw [List.getElem?_eq_none (by simpa using hi)] at q; cases q
  · rw [List.getElem?_set_ne e] at q
    exact h.2 j u q
end
end Sx

namespace Sx
open PySem PySem.Spec PyProof.Rows L2

/-! ## ends of operations -/
/-- what an operation gives: a value; a new list, tuple; the cell n holds xs now, and v -/
inductive RD where
  | val (v : AV)
  | lst (xs : List AV)
  | tup (xs : List AV)
  | set (n : Nat) (xs : List AV) (v : AV)
  | bad
def cellAt (A : St) (n : Nat) : Option Cell := match A.c[n]? with
  | some (some c) => some c
  | _ => none
/-- a new list: as a cell (b) or frozen -/
def fin (b : Bool) : RD → St → R AV
  | .val v, A => .ok v A
  | .lst xs, A => if b then .ok (.ref A.c.length) ⟨A.c ++ [some (.lst xs)], A.lo⟩ else .ok (.lst .new xs) A
  | .tup xs, A => .ok (.tup xs) A
  | .set n xs v, A => match cellAt A n with
    | some _ => .ok v ⟨A.c.set n (some (.lst xs)), A.lo⟩
    | none => .stuck
  | .bad, _ => .stuck
theorem cellAt_some {A : St} {n : Nat} {c : Cell} (h : cellAt A n = some c) : A.c[n]? = some (some c) := by
  unfold cellAt at h
  split at h
  · rename_i c' e
    cases h
    exact e
  · cases h
def PostD (w : Wd) (ρ : Nat → Addr) (A : St) (H : Hp) (Q : VK) : RD → Prop
  | .val v => ∀ x, RelA w ρ A H v x → Q x H
  | .lst xs => ∀ p vs, H p = none → RelAs w ρ A H xs vs → Q (.ref p) (upd H p (.lst vs))
  | .tup xs => ∀ p vs, H p = none → RelAs w ρ A H xs vs → Q (.ref p) (upd H p (.tup vs))
  | .set n xs v => (∃ c, A.c[n]? = some (some c)) ∧ ∀ x vs, RelA w ρ A H v x → RelAs w ρ A H xs vs → Q x (upd H (ρ n) (.lst vs))
  | .bad => False

def satE {α : Type} (r : R α) (P : α → St → Prop) (E : Nat → List AV → St → Prop) : Prop := match r with
  | .ok v A => P v A
  | .exc c xs A => E c xs A
  | .stuck => False
/-- an error as it lies in the store -/
def ExcR (w : Wd) (ρ : Nat → Addr) (A : St) (H : Hp) (c : Nat) (xs : List AV) (C : Value) (d : Option Addr) : Prop :=
  ∃ d' fs vs, C = .ref (w.g.cls c) ∧ d = some d' ∧ H d' = some (.xd fs) ∧ ¬ Live A ρ d' ∧ fs = (w.g.fld c).zip vs ∧ (w.g.fld c).length = vs.length ∧ RelAs w ρ A H xs vs
abbrev CE := Env → St → R AV
abbrev Rel (α β : Type) := Wd → (Nat → Addr) → St → Hp → α → β → Prop
def PE1 {α β : Type} (rel : Rel α β) (w : Wd) (ρ : Nat → Addr) (A : St) (H : Hp) (env : Env) (σ : L2.St) (Q : β → Hp → Prop) (v : α) (A' : St) : Prop :=
  ∀ ρ' H' x, Ext ρ A H ρ' A' H' → Sit w ρ' A' H' env σ → rel w ρ' A' H' v x → Q x H'
def PX1 (w : Wd) (ρ : Nat → Addr) (A : St) (H : Hp) (env : Env) (σ : L2.St) (W : WX) (c : Nat) (xs : List AV) (A' : St) : Prop :=
  ∀ ρ' H' C d, Ext ρ A H ρ' A' H' → Sit w ρ' A' H' env σ → ExcR w ρ' A' H' c xs C d → W C d σ H'
/-- a reading by its meaning -/
def tG {α β : Type} (rel : Rel α β) (g : Gb) (W : WX) (c : Env → St → R α) : L2.St → Hp → (β → Hp → Prop) → Prop := fun σ H Q =>
  ∃ w ρ A env, w.g = g ∧ Sit w ρ A H env σ ∧ satE (c env A) (PE1 rel w ρ A H env σ Q) (PX1 w ρ A H env σ W)
/-- of an expression -/
abbrev tE (g : Gb) (W : WX) (c : CE) : TE := tG RelA g W c

theorem satE.imp {α : Type} {r : R α} {P P' : α → St → Prop} {E E' : Nat → List AV → St → Prop} (h : satE r P E) (hp : ∀ v A, P v A → P' v A) (he : ∀ c xs A, E c xs A → E' c xs A) : satE r P' E' := by
  cases r with
  | ok v A => exact hp _ _ h
  | exc c xs A => exact he _ _ _ h
  | stuck => exact h

section
variable {w : Wd} {ρ ρ' : Nat → Addr} {A A' : St} {H H' : Hp} {env : Env} {σ : L2.St}
/-- nothing but H grows -/
theorem Ext.grow (k : ∀ a o, H a = some o → H' a = some o) : Ext ρ A H ρ A H' :=
  ⟨Nat.le_refl _, rfl, fun _ _ => rfl, fun a o h n => ⟨k a o h, n⟩, fun a h => by
    cases e : H a with
    | none => exact absurd e h
    | some o => rw [k a o e]; exact fun z => nomatch z⟩
theorem Sit.pendE {A'} (S : Sit w ρ A H env σ) (e : Ext ρ A H ρ' A' H') : ∀ p ∈ w.pend, below A'.lo p.1 = true ∧ RelA w ρ' A' H' p.1 p.2 := fun p hp => by
  obtain ⟨h1, h2⟩ := S.pend p hp
  exact ⟨by rw [e.lo]; exact h1, h2.ext e⟩
theorem Sit.grow (S : Sit w ρ A H env σ) (k : ∀ a o, H a = some o → H' a = some o) : Sit w ρ A H' env σ := by
  have e : Ext ρ A H ρ A H' := Ext.grow k
  refine ⟨fun a o h n => k a o (S.keep a o h n), fun a h => e.mono a (S.mono a h), fun a q => e.mono a (S.fb a q), S.inj, fun n c h => ?_, S.lo, S.ins, S.pendE e, S.env.ext e⟩
  obtain ⟨h1, h2, h3⟩ := S.cell n c h
  refine ⟨h1, h2.ext e ?_, h3⟩
  cases c with
  | lst xs => obtain ⟨vs, q, _⟩ := h2; rw [q, k _ _ q]
  | dK ks xs => obtain ⟨vs, q, _⟩ := h2; rw [q, k _ _ q]
  | dT ks xs => obtain ⟨vs, q, _⟩ := h2; rw [q, k _ _ q]
theorem CellR.some {p : Addr} {c : Cell} (h : CellR w ρ A H p c) : ∃ o, H p = some o := by
  cases c with
  | lst xs => obtain ⟨vs, q, _⟩ := h; exact ⟨_, q⟩
  | dK ks xs => obtain ⟨vs, q, _⟩ := h; exact ⟨_, q⟩
  | dT ks xs => obtain ⟨vs, q, _⟩ := h; exact ⟨_, q⟩
theorem Sit.live (S : Sit w ρ A H env σ) {p : Addr} (h : Live A ρ p) : ∃ o, H p = some o := by
  obtain ⟨n, c, e, rfl⟩ := h
  exact (S.cell n c e).2.1.some
theorem Sit.notLive (S : Sit w ρ A H env σ) {p : Addr} (h : H p = none) : ¬ Live A ρ p := fun l => by
  obtain ⟨o, e⟩ := S.live l
  rw [h] at e; cases e
theorem Sit.h0 (S : Sit w ρ A H env σ) {p : Addr} (h : H p = none) : w.H0 p = none := by
  cases e : w.H0 p with
  | none => rfl
  | some o => exact absurd h (S.mono p (by rw [e]; exact fun z => nomatch z))
theorem Sit.notFb (S : Sit w ρ A H env σ) {p : Addr} (h : H p = none) : ¬ w.Fb p := fun q => S.fb p q h
theorem upd_keep {p : Addr} {o : HO} (h : H p = none) : ∀ a u, H a = some u → upd H p o a = some u := fun a u e => by
  rw [upd_ne (ne_of_none e h)]; exact e
/-- a new object that is no cell -/
theorem Sit.new (S : Sit w ρ A H env σ) {p : Addr} {o : HO} (h : H p = none) : Ext ρ A H ρ A (upd H p o) ∧ Sit w ρ A (upd H p o) env σ :=
  ⟨Ext.grow (upd_keep h), S.grow (upd_keep h)⟩
theorem get_push {c : Option Cell} {l : List (Option Cell)} {n : Nat} {x : Option Cell} (h : (l ++ [c])[n]? = some x) : l[n]? = some x ∨ (n = l.length ∧ x = c) := by
  by_cases hn : n < l.length
  · rw [List.getElem?_append_left hn] at h; exact .inl h
  · rw [List.getElem?_append_right (Nat.le_of_not_lt hn)] at h
    by_cases e : n - l.length = 0
    · rw [e] at h
      have h' : c = x := Option.some.inj h
      exact .inr ⟨by omega, h'.symm⟩
    · rw [List.getElem?_eq_none (by simp; omega)] at h; cases h
/-- where the cells stand, with one more -/
def rhoNew (ρ : Nat → Addr) (m : Nat) (p : Addr) : Nat → Addr := fun n => if n = m then p else ρ n
/-- a new list that is a cell -/
theorem Sit.newCell (S : Sit w ρ A H env σ) {p : Addr} {vs : List V} {xs : List AV} (h : H p = none) (r : RelAs w ρ A H xs vs) :
    Ext ρ A H (rhoNew ρ A.c.length p) ⟨A.c ++ [some (.lst xs)], A.lo⟩ (upd H p (.lst vs)) ∧ Sit w (rhoNew ρ A.c.length p) ⟨A.c ++ [some (.lst xs)], A.lo⟩ (upd H p (.lst vs)) env σ := by
  have ro : ∀ n, n < A.c.length → rhoNew ρ A.c.length p n = ρ n := fun n hn => by unfold rhoNew; rw [if_neg (Nat.ne_of_lt hn)]
  have rn : rhoNew ρ A.c.length p A.c.length = p := by unfold rhoNew; rw [if_pos rfl]
  have lv : ∀ a, Live ⟨A.c ++ [some (.lst xs)], A.lo⟩ (rhoNew ρ A.c.length p) a → Live A ρ a ∨ a = p := fun a hl => by
    obtain ⟨n, c, e, q⟩ := hl
    rcases get_push e with e | ⟨e, _⟩
    · have hn : n < A.c.length := (List.getElem?_eq_some_iff.mp e).1
      exact .inl ⟨n, c, e, by rw [← ro n hn]; exact q⟩
    · exact .inr (by rw [← q, e]; exact rn)
  have e : Ext ρ A H (rhoNew ρ A.c.length p) ⟨A.c ++ [some (.lst xs)], A.lo⟩ (upd H p (.lst vs)) := by
    refine ⟨by simp, rfl, ro, fun a o ho hn => ⟨upd_keep h a o ho, fun hl => ?_⟩, fun a ha => ?_⟩
    · rcases lv a hl with q | q
      · exact hn q
      · rw [q, h] at ho; cases ho
    · cases q : H a with
      | none => exact absurd q ha
      | some o => rw [upd_keep h a o q]; exact fun z => nomatch z
  refine ⟨e, ⟨fun a o h1 n => upd_keep h _ _ (S.keep a o h1 n), fun a h1 => e.mono a (S.mono a h1), fun a q => e.mono a (S.fb a q), fun n m c c' e1 e2 q => ?_, fun n c e1 => ?_, ⟨S.lo.1, by simp; have := S.lo.2; omega⟩, fun j hj => (ro j (by have := S.lo; omega)).trans (S.ins j hj), S.pendE e, S.env.ext e⟩⟩
  · rcases get_push e1 with e1 | ⟨e1, _⟩ <;> rcases get_push e2 with e2 | ⟨e2, _⟩
    · rw [ro n (List.getElem?_eq_some_iff.mp e1).1, ro m (List.getElem?_eq_some_iff.mp e2).1] at q
      exact S.inj n m c c' e1 e2 q
    · rw [ro n (List.getElem?_eq_some_iff.mp e1).1, e2, rn] at q
      obtain ⟨o, ho⟩ := (S.cell n c e1).2.1.some
      rw [q, h] at ho; cases ho
    · rw [ro m (List.getElem?_eq_some_iff.mp e2).1, e1, rn] at q
      obtain ⟨o, ho⟩ := (S.cell m c' e2).2.1.some
      rw [← q, h] at ho; cases ho
    · rw [e1, e2]
  · rcases get_push e1 with e1 | ⟨e1, e2⟩
    · have hn := (List.getElem?_eq_some_iff.mp e1).1
      rw [ro n hn]
      obtain ⟨h1, h2, h3⟩ := S.cell n c e1
      obtain ⟨o, ho⟩ := h2.some
      exact ⟨h1, h2.ext e (by rw [ho, upd_keep h _ _ ho]), h3⟩
    · subst e1
      have e2' : c = .lst xs := Option.some.inj e2
      subst e2'
      rw [rn]
      exact ⟨S.notFb h, ⟨vs, upd_same, r.ext e⟩, .inr ⟨Nat.le_trans S.lo.1 S.lo.2, S.h0 h⟩⟩
/-- the cell n holds something else now -/
theorem Sit.setCell (S : Sit w ρ A H env σ) {n : Nat} {c0 : Cell} {vs : List V} {xs : List AV} (h : A.c[n]? = some (some c0)) (r : RelAs w ρ A H xs vs) :
    Ext ρ A H ρ ⟨A.c.set n (some (.lst xs)), A.lo⟩ (upd H (ρ n) (.lst vs)) ∧ Sit w ρ ⟨A.c.set n (some (.lst xs)), A.lo⟩ (upd H (ρ n) (.lst vs)) env σ := by
  have hn : n < A.c.length := (List.getElem?_eq_some_iff.mp h).1
  have gs : ∀ m c, (A.c.set n (some (.lst xs)))[m]? = some (some c) → (m = n ∧ c = .lst xs) ∨ (m ≠ n ∧ A.c[m]? = some (some c)) := fun m c e => by
    by_cases q : n = m
    · subst q
      rw [List.getElem?_set_self hn] at e
      exact .inl ⟨rfl, (Option.some.inj (Option.some.inj e)).symm⟩
    · rw [List.getElem?_set_ne q] at e
      exact .inr ⟨fun z => q z.symm, e⟩
  have lv : ∀ a, Live ⟨A.c.set n (some (.lst xs)), A.lo⟩ ρ a → Live A ρ a := fun a hl => by
    obtain ⟨m, c, e, q⟩ := hl
    rcases gs m c e with ⟨e1, _⟩ | ⟨_, e1⟩
    · exact ⟨n, c0, h, by rw [← q, e1]⟩
    · exact ⟨m, c, e1, q⟩
  have e : Ext ρ A H ρ ⟨A.c.set n (some (.lst xs)), A.lo⟩ (upd H (ρ n) (.lst vs)) := by
    refine ⟨by simp, rfl, fun _ _ => rfl, fun a o ho hl => ⟨?_, fun q => hl (lv a q)⟩, fun a ha => ?_⟩
    · rw [upd_ne]
      · exact ho
      · intro q
        exact hl ⟨n, c0, h, q.symm⟩
    · by_cases q : a = ρ n
      · subst q
        rw [upd_same]; exact fun z => nomatch z
      · rw [upd_ne q]; exact ha
  obtain ⟨f1, f2, f3⟩ := S.cell n c0 h
  refine ⟨e, ⟨fun a o h1 nm => ?_, fun a h1 => e.mono a (S.mono a h1), fun a q => e.mono a (S.fb a q), fun m m' c c' e1 e2 q => ?_, fun m c e1 => ?_, ⟨S.lo.1, by simpa using S.lo.2⟩, S.ins, S.pendE e, S.env.ext e⟩⟩
  · rw [upd_ne]
    · exact S.keep a o h1 nm
    · intro q
      rcases f3 with ⟨_, f3⟩ | ⟨_, f3⟩
      · exact nm (q ▸ f3)
      · rw [q, f3] at h1; cases h1
  · rcases gs m c e1 with ⟨e3, _⟩ | ⟨_, e3⟩ <;> rcases gs m' c' e2 with ⟨e4, _⟩ | ⟨_, e4⟩
    · rw [e3, e4]
    · subst e3; exact S.inj _ _ _ _ h e4 q
    · subst e4; exact S.inj _ _ _ _ e3 h q
    · exact S.inj _ _ _ _ e3 e4 q
  · rcases gs m c e1 with ⟨e3, e4⟩ | ⟨ne, e3⟩
    · subst e3; subst e4
      exact ⟨f1, ⟨vs, upd_same, r.ext e⟩, f3⟩
    · obtain ⟨h1, h2, h3⟩ := S.cell m c e3
      refine ⟨h1, h2.ext e (upd_ne fun q => ne (S.inj _ _ _ _ e3 h q)), h3⟩
/-- an operation's end -/
theorem fin_ok {b : Bool} {d : RD} {Q : VK} {E : Nat → List AV → St → Prop} (S : Sit w ρ A H env σ) (h : satE (fin b d A) (PE1 RelA w ρ A H env σ Q) E) : PostD w ρ A H Q d := by
  cases d with
  | val v => exact fun x r => h ρ H x Ext.refl S r
  | lst xs =>
    intro p vs hp r
    unfold fin at h
    cases b with
    | true =>
      obtain ⟨e1, e2⟩ := S.newCell hp r
      refine h _ _ _ e1 e2 ?_
      unfold RelA
      exact ⟨by simp, by unfold rhoNew; rw [if_pos rfl]⟩
    | false =>
      obtain ⟨e1, e2⟩ := S.new (o := .lst vs) hp
      refine h _ _ _ e1 e2 ?_
      unfold RelA
      exact ⟨p, vs, rfl, upd_same, S.notLive hp, S.notFb hp, S.h0 hp, r.ext e1⟩
  | tup xs =>
    intro p vs hp r
    obtain ⟨e1, e2⟩ := S.new (o := .tup vs) hp
    refine h _ _ _ e1 e2 ?_
    unfold RelA
    exact ⟨p, vs, rfl, upd_same, S.notLive hp, r.ext e1⟩
  | set n xs v =>
    unfold fin at h
    dsimp only at h
    cases hc : cellAt A n with
    | none => rw [hc] at h; exact h.elim
    | some c0 =>
      rw [hc] at h
      have h0 := cellAt_some hc
      refine ⟨⟨c0, h0⟩, fun x vs rv r => ?_⟩
      obtain ⟨e1, e2⟩ := S.setCell h0 r
      exact h _ _ _ e1 e2 (rv.ext e1)
  | bad => exact h
end
end Sx

namespace Sx
open PySem PySem.Spec PyProof.Rows L2

theorem PE.mono {X : Cx} {e : Expr} {t t' : TE} (h : PE X e t) (k : ∀ σ H Q, t' σ H Q → t σ H Q) : PE X e t' := ⟨fun pins s σ H Q I q => h.run pins s σ H Q I (k σ H Q q)⟩
theorem PT.mono {X : Cx} {e : Expr} {t t' : TT} (h : PT X e t) (k : ∀ σ H Q, t' σ H Q → t σ H Q) : PT X e t' := ⟨fun pins s σ H Q I q => h.run pins s σ H Q I (k σ H Q q)⟩
theorem PW.mono {X : Cx} {e : Expr} {t t' : TT} (h : PW X e t) (k : ∀ σ H Q, t' σ H Q → t σ H Q) : PW X e t' := ⟨fun wh pins s σ H Q I q => h.run wh pins s σ H Q I (k σ H Q q)⟩
theorem PA.mono {X : Cx} {e : List Expr} {t t' : TA} (h : PA X e t) (k : ∀ σ H Q, t' σ H Q → t σ H Q) : PA X e t' := ⟨fun p pins s σ H Q I q => h.run p pins s σ H Q I (k σ H Q q)⟩

def bnd {α β : Type} : R α → (α → St → R β) → R β
  | .ok a A, f => f a A
  | .exc c xs A, _ => .exc c xs A
  | .stuck, _ => .stuck
section
variable {α β γ δ : Type} {rl : Rel α β} {rk : Rel γ δ} {w : Wd} {ρ ρ' : Nat → Addr} {A A' : St} {H H' : Hp} {env : Env} {σ : L2.St} {g : Gb} {W : WX}

theorem PX1.ext (e : Ext ρ A H ρ' A' H') {c : Nat} {xs : List AV} {A2 : St} (h : PX1 w ρ A H env σ W c xs A2) : PX1 w ρ' A' H' env σ W c xs A2 :=
  fun ρ2 H2 C d e2 S r => h ρ2 H2 C d (e.trans e2) S r
theorem PE1.ext (e : Ext ρ A H ρ' A' H') {v : α} {A2 : St} {Q : β → Hp → Prop} (h : PE1 rl w ρ A H env σ Q v A2) : PE1 rl w ρ' A' H' env σ Q v A2 :=
  fun ρ2 H2 x e2 S r => h ρ2 H2 x (e.trans e2) S r
theorem satE.ext (e : Ext ρ A H ρ' A' H') {r : R α} {Q : β → Hp → Prop} (h : satE r (PE1 rl w ρ A H env σ Q) (PX1 w ρ A H env σ W)) : satE r (PE1 rl w ρ' A' H' env σ Q) (PX1 w ρ' A' H' env σ W) :=
  h.imp (fun _ _ p => p.ext e) (fun _ _ _ p => p.ext e)
theorem tG.imp {c : Env → St → R α} {Q Q' : β → Hp → Prop} (h : tG rl g W c σ H Q) (k : ∀ x H, Q x H → Q' x H) : tG rl g W c σ H Q' := by
  obtain ⟨w, ρ, A, env, hg, S, q⟩ := h
  exact ⟨w, ρ, A, env, hg, S, q.imp (fun v A' p ρ' H' x e S' r => k _ _ (p ρ' H' x e S' r)) fun _ _ _ p => p⟩
/-- the first part of two -/
theorem tG.bind {c : Env → St → R α} {k : α → St → R γ} {Q : δ → Hp → Prop} {P : β → Hp → Prop} (hg : w.g = g) (S : Sit w ρ A H env σ)
    (h : satE (bnd (c env A) k) (PE1 rk w ρ A H env σ Q) (PX1 w ρ A H env σ W))
    (hk : ∀ v A1 ρ1 H1 x, Ext ρ A H ρ1 A1 H1 → Sit w ρ1 A1 H1 env σ → rl w ρ1 A1 H1 v x → satE (k v A1) (PE1 rk w ρ1 A1 H1 env σ Q) (PX1 w ρ1 A1 H1 env σ W) → P x H1) :
    tG rl g W c σ H P := by
  refine ⟨w, ρ, A, env, hg, S, ?_⟩
  cases e : c env A with
  | ok v A1 =>
    rw [e] at h
    exact fun ρ1 H1 x e1 S1 r => hk v A1 ρ1 H1 x e1 S1 r (satE.ext e1 h)
  | exc n xs A1 => rw [e] at h; exact h
  | stuck => rw [e] at h; exact h
/-- a part alone -/
theorem tG.one {c : Env → St → R α} {k : Env → α → St → R γ} {Q : δ → Hp → Prop} {P : β → Hp → Prop} (h : tG rk g W (fun env A => bnd (c env A) (k env)) σ H Q)
    (hk : ∀ w ρ A env v A1 ρ1 H1 x, w.g = g → Sit w ρ A H env σ → Ext ρ A H ρ1 A1 H1 → Sit w ρ1 A1 H1 env σ → rl w ρ1 A1 H1 v x → satE (k env v A1) (PE1 rk w ρ1 A1 H1 env σ Q) (PX1 w ρ1 A1 H1 env σ W) → P x H1) : tG rl g W c σ H P := by
  obtain ⟨w, ρ, A, env, hg, S, q⟩ := h
  exact tG.bind hg S q fun v A1 ρ1 H1 x e S1 r q => hk w ρ A env v A1 ρ1 H1 x hg S e S1 r q
end

/-! ## names, constants -/
def cVar (i : Nat) : CE := fun env A => match env[i]? with
  | some (some v) => .ok v A
  | _ => .stuck
def cK (v : AV) : CE := fun _ A => .ok v A
abbrev tT (g : Gb) (W : WX) (c : CE) : TT := tTest (tE g W c)
abbrev tA (g : Gb) (W : WX) (c : Env → St → R (List AV)) : TA := tG RelAs g W c
section
variable {X : Cx} {g : Gb} {W : WX} {e a b : Expr} {es rest : List Expr} {c ca cb : CE} {cs : Env → St → R (List AV)} {pos : Pos}
theorem se_var (i : Nat) {x : Str} (h : PE X (.Name x pos) (tVar i)) : PE X (.Name x pos) (tE g W (cVar i)) := by
  refine PE.mono h fun σ H Q q => ?_
  obtain ⟨w, ρ, A, env, hg, S, q⟩ := q
  unfold cVar at q
  cases h : env[i]? with
  | none => rw [h] at q; exact q.elim
  | some o =>
    cases o with
    | none => rw [h] at q; exact q.elim
    | some v =>
      rw [h] at q
      obtain ⟨x, hx, r⟩ := S.env.get h
      exact ⟨x, hx, q ρ H x Ext.refl S r⟩
theorem se_k {v : V} {c : AV} (h : PE X e (tC v)) (r : ∀ w ρ A H, RelA w ρ A H c v) : PE X e (tE g W (cK c)) := by
  refine PE.mono h fun σ H Q q => ?_
  obtain ⟨w, ρ, A, env, hg, S, q⟩ := q
  exact q ρ H v Ext.refl S (r w ρ A H)
theorem rel_int {w ρ A H} (i : Int) : RelA w ρ A H (.int i) (.int i) := by unfold RelA; rfl
theorem rel_bl {w ρ A H} (i : Bool) : RelA w ρ A H (.bl i) (.bl i) := by unfold RelA; rfl
theorem rel_non {w ρ A H} : RelA w ρ A H .non .non := by unfold RelA; rfl
theorem rel_str {w ρ A H} (i : Str) : RelA w ρ A H (.str i) (.str i) := by unfold RelA; rfl
theorem se_int {i : Int} {j} : PE X (.Constant (.int i) j pos) (tE g W (cK (.int i))) := se_k pe_int fun _ _ _ _ => rel_int i
theorem se_bl {i : Bool} {j} : PE X (.Constant (.bool i) j pos) (tE g W (cK (.bl i))) := se_k pe_bl fun _ _ _ _ => rel_bl i
theorem se_non {j} : PE X (.Constant .none j pos) (tE g W (cK .non)) := se_k pe_non fun _ _ _ _ => rel_non
theorem se_str {x : Str} {j} : PE X (.Constant (.str x) j pos) (tE g W (cK (.str x))) := se_k pe_str fun _ _ _ _ => rel_str x
/-- a module's int, text -/
theorem se_gint {x : Str} {i : Int} {t : Tok} (hg : Gl X x) (hm : X.mg x = some (.int i t)) (hd : (x == ("__debug__" : Str)) = false := by decide) : PE X (.Name x pos) (tE g W (cK (.int i))) := se_k (pe_glob (v := .int i) hg hm ⟨_, rfl⟩ hd) fun _ _ _ _ => rel_int i
theorem se_gstr {x : Str} {i : Str} {t : Tok} (hg : Gl X x) (hm : X.mg x = some (.str i t)) (hd : (x == ("__debug__" : Str)) = false := by decide) : PE X (.Name x pos) (tE g W (cK (.str i))) := se_k (pe_glob (v := .str i) hg hm ⟨_, rfl⟩ hd) fun _ _ _ _ => rel_str i

/-! ## operations of one, two values -/
def D1 (r : V → Hp → VK → Prop) (op : AV → St → RD) : Prop := ∀ (w : Wd) (ρ : Nat → Addr) (A : St) (H : Hp) (env : Env) (σ : L2.St) (v : AV) (x : V) (Q : VK), Sit w ρ A H env σ → RelA w ρ A H v x → PostD w ρ A H Q (op v A) → r x H Q
def D2 (r : R2) (op : AV → AV → St → RD) : Prop := ∀ (w : Wd) (ρ : Nat → Addr) (A : St) (H : Hp) (env : Env) (σ : L2.St) (v u : AV) (x y : V) (Q : VK), Sit w ρ A H env σ → RelA w ρ A H v x → RelA w ρ A H u y → PostD w ρ A H Q (op v u A) → r x y H Q
theorem D2.or1 {r r' : R2} {op : AV → AV → St → RD} (d : D2 r op) : D2 (fun x y H Q => r x y H Q ∨ r' x y H Q) op := fun w ρ A H env σ v u x y Q S h1 h2 p => .inl (d w ρ A H env σ v u x y Q S h1 h2 p)
def c1 (b : Bool) (op : AV → St → RD) (ca : CE) : CE := fun env A => bnd (ca env A) fun x A1 => fin b (op x A1) A1
def c2 (b : Bool) (op : AV → AV → St → RD) (ca cb : CE) : CE := fun env A => bnd (ca env A) fun x A1 => bnd (cb env A1) fun y A2 => fin b (op x y A2) A2
theorem c1_ok {r : V → Hp → VK → Prop} {op : AV → St → RD} {fr : Bool} (d : D1 r op) : ∀ σ H Q, tE g W (c1 fr op ca) σ H Q → tUn r (tE g W ca) σ H Q := by
  intro σ H Q q
  refine tG.one q fun w ρ A env v A1 ρ1 H1 x hg S e S1 r1 q => ?_
  exact d w ρ1 A1 H1 env σ v x Q S1 r1 (fin_ok S1 q)
theorem c2_ok {r : R2} {op : AV → AV → St → RD} {fr : Bool} (d : D2 r op) : ∀ σ H Q, tE g W (c2 fr op ca cb) σ H Q → tOp r (tE g W ca) (tE g W cb) σ H Q := by
  intro σ H Q q
  refine tG.one q fun w ρ A env v A1 ρ1 H1 x hg S e S1 r1 q => ?_
  refine tG.bind hg S1 q fun u A2 ρ2 H2 y e2 S2 r2 q => ?_
  exact d w ρ2 A2 H2 env σ v u x y Q S2 (r1.ext e2) r2 (fin_ok S2 q)
theorem se_un {op : UnaryOp} {r : V → Hp → VK → Prop} {f : AV → St → RD} (ho : UnR X (unaryOp op) r) (d : D1 r f) (ha : PE X a (tE g W ca)) : PE X (.UnaryOp op a pos) (tE g W (c1 false f ca)) :=
  PE.mono (pe_un ho ha) (c1_ok d)
theorem se_op {op : Operator} {r : R2} {f : AV → AV → St → RD} (fr : Bool) (ho : OpR X (binaryOp op) r) (d : D2 r f) (ha : PE X a (tE g W ca)) (hb : PE X b (tE g W cb)) : PE X (.BinOp a op b pos) (tE g W (c2 fr f ca cb)) :=
  PE.mono (pe_op ho ha hb) (c2_ok d)
theorem se_cmp {op : CmpOp} {r : R2} {f : AV → AV → St → RD} (ho : OpR X (compareOp op) r) (d : D2 r f) (ha : PE X a (tE g W ca)) (hb : PE X b (tE g W cb)) (hm : behindInMarks op b = false) : PE X (.Compare a [op] [b] pos) (tE g W (c2 false f ca cb)) :=
  PE.mono (pe_cmpR ho ha hb hm) (c2_ok d)
theorem se_ix {r : R2} {f : AV → AV → St → RD} (ho : IxR X r) (d : D2 r f) (ha : PE X a (tE g W ca)) (hb : PE X b (tE g W cb)) (hs : PlainIx b) : PE X (.Subscript a b pos) (tE g W (c2 false f ca cb)) :=
  PE.mono (pe_ix ho ha hb hs) (c2_ok d)

/-! ## tests -/
theorem st_cmp {op : CmpOp} {r : R2} {f : AV → AV → St → RD} (ho : OpR X (compareOp op) r) (d : D2 r f) (ha : PE X a (tE g W ca)) (hb : PE X b (tE g W cb)) (hm : behindInMarks op b = false) : PT X (.Compare a [op] [b] pos) (tT g W (c2 false f ca cb)) :=
  PT.mono (pt_cmpR ho ha hb hm) fun σ H Q q => c2_ok d σ H _ q
def notD : AV → St → RD
  | .bl b, _ => .val (.bl (!b))
  | _, _ => .bad
theorem notD_ok {w ρ A H} {v : AV} {x : V} {Q : VK} (r : RelA w ρ A H v x) (h : PostD w ρ A H Q (notD v A)) : ∃ b, x = .bl b ∧ Q (.bl (!b)) H := by
  cases v with
  | bl b => unfold RelA at r; exact ⟨b, r, h _ (rel_bl _)⟩
  | _ => exact h.elim
theorem st_not (ha : PT X a (tT g W ca)) : PT X (.UnaryOp .Not a pos) (tT g W (c1 false notD ca)) := by
  refine PT.mono (pt_not ha) fun σ H Q q => ?_
  refine tG.one q fun w ρ A env v A1 ρ1 H1 x hg S e S1 r1 q => ?_
  obtain ⟨b, rfl, k, hk, q⟩ := notD_ok r1 (fin_ok S1 q)
  cases hk
  exact ⟨b, rfl, q⟩
theorem se_not (ha : PE X a (tE g W ca)) : PE X (.UnaryOp .Not a pos) (tE g W (c1 false notD ca)) := by
  refine PE.mono (pe_not ha) fun σ H Q q => ?_
  exact tG.one q fun w ρ A env v A1 ρ1 H1 x hg S e S1 r1 q => notD_ok r1 (fin_ok S1 q)
def cAnd (ca cb : CE) : CE := fun env A => bnd (ca env A) fun v A1 => match v with
  | .bl true => cb env A1
  | .bl false => .ok (.bl false) A1
  | _ => .stuck
def cOr (ca cb : CE) : CE := fun env A => bnd (ca env A) fun v A1 => match v with
  | .bl true => .ok (.bl true) A1
  | .bl false => cb env A1
  | _ => .stuck
theorem and_ok {w ρ A H env σ Q} {v : AV} {x : V} (hg : w.g = g) (S : Sit w ρ A H env σ) (r : RelA w ρ A H v x)
    (h : satE (match v with | .bl true => cb env A | .bl false => .ok (.bl false) A | _ => .stuck) (PE1 RelA w ρ A H env σ Q) (PX1 w ρ A H env σ W)) :
    ∃ k, x = .bl k ∧ if k = true then tE g W cb σ H Q else Q (.bl false) H := by
  cases v with
  | bl b =>
    unfold RelA at r
    refine ⟨b, r, ?_⟩
    cases b with
    | true => exact iteT ⟨w, ρ, A, env, hg, S, h⟩
    | false => exact iteF (h ρ H _ Ext.refl S (rel_bl _))
  | _ => exact h.elim
theorem or_ok {w ρ A H env σ Q} {v : AV} {x : V} (hg : w.g = g) (S : Sit w ρ A H env σ) (r : RelA w ρ A H v x)
    (h : satE (match v with | .bl true => .ok (.bl true) A | .bl false => cb env A | _ => .stuck) (PE1 RelA w ρ A H env σ Q) (PX1 w ρ A H env σ W)) :
    ∃ k, x = .bl k ∧ if k = true then Q (.bl true) H else tE g W cb σ H Q := by
  cases v with
  | bl b =>
    unfold RelA at r
    refine ⟨b, r, ?_⟩
    cases b with
    | true => exact iteT (h ρ H _ Ext.refl S (rel_bl _))
    | false => exact iteF ⟨w, ρ, A, env, hg, S, h⟩
  | _ => exact h.elim
theorem sw_and1 (ha : PT X a (tT g W ca)) : PW X (.BoolOp .And [a] pos) (tT g W ca) := pw_and1 ha
theorem sw_or1 (ha : PT X a (tT g W ca)) : PW X (.BoolOp .Or [a] pos) (tT g W ca) := pw_or1 ha
theorem sw_and (ha : PT X a (tT g W ca)) (hb : PW X (.BoolOp .And (b :: rest) pos) (tT g W cb)) : PW X (.BoolOp .And (a :: b :: rest) pos) (tT g W (cAnd ca cb)) := by
  refine PW.mono (pw_and ha hb) fun σ H Q q => ?_
  have q : tE g W (cAnd ca cb) σ H (fun x H' => ∃ k, x = .bl k ∧ Q k H') := q
  refine tG.one q fun w ρ A env v A1 ρ1 H1 x hg S e S1 r1 q => ?_
  obtain ⟨k, rfl, h⟩ := and_ok hg S1 r1 q
  refine ⟨k, rfl, ?_⟩
  cases k with
  | true => exact h
  | false =>
    obtain ⟨k', e1, h⟩ := h
    cases e1
    exact h
theorem sw_or (ha : PT X a (tT g W ca)) (hb : PW X (.BoolOp .Or (b :: rest) pos) (tT g W cb)) : PW X (.BoolOp .Or (a :: b :: rest) pos) (tT g W (cOr ca cb)) := by
  refine PW.mono (pw_or ha hb) fun σ H Q q => ?_
  have q : tE g W (cOr ca cb) σ H (fun x H' => ∃ k, x = .bl k ∧ Q k H') := q
  refine tG.one q fun w ρ A env v A1 ρ1 H1 x hg S e S1 r1 q => ?_
  obtain ⟨k, rfl, h⟩ := or_ok hg S1 r1 q
  refine ⟨k, rfl, ?_⟩
  cases k with
  | true =>
    obtain ⟨k', e1, h⟩ := h
    cases e1
    exact h
  | false => exact h
theorem se_one {op} (h : PE X a (tE g W ca)) : PE X (.BoolOp op [a] pos) (tE g W ca) := pe_one h
theorem se_and (ha : PE X a (tE g W ca)) (hb : PE X (.BoolOp .And (b :: rest) pos) (tE g W cb)) : PE X (.BoolOp .And (a :: b :: rest) pos) (tE g W (cAnd ca cb)) := by
  refine PE.mono (pe_and ha hb) fun σ H Q q => ?_
  exact tG.one q fun w ρ A env v A1 ρ1 H1 x hg S e S1 r1 q => and_ok hg S1 r1 q
theorem se_or (ha : PE X a (tE g W ca)) (hb : PE X (.BoolOp .Or (b :: rest) pos) (tE g W cb)) : PE X (.BoolOp .Or (a :: b :: rest) pos) (tE g W (cOr ca cb)) := by
  refine PE.mono (pe_or ha hb) fun σ H Q q => ?_
  exact tG.one q fun w ρ A env v A1 ρ1 H1 x hg S e S1 r1 q => or_ok hg S1 r1 q
def cIf (ct ca cb : CE) : CE := fun env A => bnd (ct env A) fun v A1 => match v with
  | .bl true => ca env A1
  | .bl false => cb env A1
  | _ => .stuck
theorem se_ifExp {t : Expr} {ct : CE} (ht : PT X t (tT g W ct)) (ha : PE X a (tE g W ca)) (hb : PE X b (tE g W cb)) : PE X (.IfExp t a b pos) (tE g W (cIf ct ca cb)) := by
  refine PE.mono (pe_ifExp ht ha hb) fun σ H Q q => ?_
  refine tG.one q fun w ρ A env v A1 ρ1 H1 x hg S e S1 r1 q => ?_
  cases v with
  | bl b =>
    unfold RelA at r1
    refine ⟨b, r1, ?_⟩
    cases b with
    | true => exact iteT ⟨w, ρ1, A1, env, hg, S1, q⟩
    | false => exact iteF ⟨w, ρ1, A1, env, hg, S1, q⟩
  | _ => exact q.elim

/-! ## chains -/
def cChain (f f' : AV → AV → St → RD) (ca cb cc : CE) : CE := fun env A => bnd (ca env A) fun x A1 => bnd (cb env A1) fun y A2 => bnd (fin false (f x y A2) A2) fun z A3 => match z with
  | .bl true => bnd (cc env A3) fun u A4 => fin false (f' y u A4) A4
  | .bl false => .ok (.bl false) A3
  | _ => .stuck
theorem fin_val {w ρ A H env σ} {d : RD} {P : AV → St → Prop} {E : Nat → List AV → St → Prop} {k : AV → St → R AV} {Q : VK} (S : Sit w ρ A H env σ) (h : satE (bnd (fin false d A) k) P E)
    (hk : ∀ z A1 ρ1 H1 x, Ext ρ A H ρ1 A1 H1 → Sit w ρ1 A1 H1 env σ → RelA w ρ1 A1 H1 z x → satE (k z A1) P E → Q x H1) : PostD w ρ A H Q d := by
  refine fin_ok (b := false) (E := E) S ?_
  cases e : fin false d A with
  | ok v A1 =>
    rw [e] at h
    exact fun ρ1 H1 x e1 S1 r => hk v A1 ρ1 H1 x e1 S1 r h
  | exc n xs A1 => rw [e] at h; exact h
  | stuck => rw [e] at h; exact h
theorem chain_ok {o o' : CmpOp} {r r' : R2} {f f' : AV → AV → St → RD} {cc : CE} (d : D2 r f) (d' : D2 r' f') : ∀ σ H Q, tE g W (cChain f f' ca cb cc) σ H Q → tChain r r' (tE g W ca) (tE g W cb) (tE g W cc) σ H Q := by
  intro σ H Q q
  refine tG.one q fun w ρ A env v A1 ρ1 H1 x hg S e S1 r1 q => ?_
  refine tG.bind hg S1 q fun u A2 ρ2 H2 y e2 S2 r2 q => ?_
  refine d w ρ2 A2 H2 env σ v u x y _ S2 (r1.ext e2) r2 (fin_val S2 q fun z A3 ρ3 H3 xz e3 S3 r3 q => ?_)
  cases z with
  | bl b =>
    unfold RelA at r3
    refine ⟨b, r3, ?_⟩
    cases b with
    | true =>
      refine iteT (tG.bind hg S3 (satE.ext e3 q) fun t A4 ρ4 H4 xt e4 S4 r4 q => ?_)
      exact d' w ρ4 A4 H4 env σ u t y xt Q S4 ((r2.ext e3).ext e4) r4 (fin_ok S4 q)
    | false => exact iteF (satE.ext e3 q ρ3 H3 _ Ext.refl S3 (rel_bl _))
  | _ => exact q.elim
theorem se_chain {o o' : CmpOp} {cexp : Expr} {r r' : R2} {f f' : AV → AV → St → RD} {cc : CE} (ho : OpR X (compareOp o) r) (d : D2 r f) (ho' : OpR X (compareOp o') r') (d' : D2 r' f') (ha : PE X a (tE g W ca)) (hb : PE X b (tE g W cb)) (hc : PE X cexp (tE g W cc))
    (hm : lastMarks [o, o'] [b, cexp] = false := by with_unfolding_all rfl) : PE X (.Compare a [o, o'] [b, cexp] pos) (tE g W (cChain f f' ca cb cc)) := PE.mono (pe_chain ho ho' ha hb hc hm) (chain_ok (o := o) (o' := o') d d')
theorem st_chain {o o' : CmpOp} {cexp : Expr} {r r' : R2} {f f' : AV → AV → St → RD} {cc : CE} (ho : OpR X (compareOp o) r) (d : D2 r f) (ho' : OpR X (compareOp o') r') (d' : D2 r' f') (ha : PE X a (tE g W ca)) (hb : PE X b (tE g W cb)) (hc : PE X cexp (tE g W cc))
    (hm : lastMarks [o, o'] [b, cexp] = false := by with_unfolding_all rfl) : PT X (.Compare a [o, o'] [b, cexp] pos) (tT g W (cChain f f' ca cb cc)) := PT.mono (pt_chain ho ho' ha hb hc hm) fun σ H Q q => chain_ok (o := o) (o' := o') d d' σ H _ q

/-! ## argument lists, displays -/
def cNil : Env → St → R (List AV) := fun _ A => .ok [] A
def cCons (ca : CE) (cs : Env → St → R (List AV)) : Env → St → R (List AV) := fun env A => bnd (ca env A) fun x A1 => bnd (cs env A1) fun xs A2 => .ok (x :: xs) A2
theorem sa_nil : PA X [] (tA g W cNil) := PA.mono pa_nil fun σ H Q q => by
  obtain ⟨w, ρ, A, env, hg, S, q⟩ := q
  exact q ρ H [] Ext.refl S RelAs.nil
theorem sa_cons (ha : PE X e (tE g W c)) (hr : PA X es (tA g W cs)) (hs : starEach (e :: es) X.env = (false, eval e X.env) :: starEach es X.env := by rfl) : PA X (e :: es) (tA g W (cCons c cs)) :=
  PA.mono (pa_cons ha hr hs) fun σ H Q q => by
    refine tG.one q fun w ρ A env v A1 ρ1 H1 x hg S e S1 r1 q => ?_
    refine tG.bind hg S1 q fun u A2 ρ2 H2 y e2 S2 r2 q => ?_
    exact q ρ2 H2 _ Ext.refl S2 (RelAs.cons (r1.ext e2) r2)
def DN (r : List V → Hp → VK → Prop) (op : List AV → St → RD) : Prop := ∀ (w : Wd) (ρ : Nat → Addr) (A : St) (H : Hp) (env : Env) (σ : L2.St) (vs : List AV) (xs : List V) (Q : VK), Sit w ρ A H env σ → RelAs w ρ A H vs xs → PostD w ρ A H Q (op vs A) → r xs H Q
def cN (b : Bool) (op : List AV → St → RD) (cs : Env → St → R (List AV)) : CE := fun env A => bnd (cs env A) fun xs A1 => fin b (op xs A1) A1
theorem cN_ok {r : List V → Hp → VK → Prop} {op : List AV → St → RD} {fr : Bool} (d : DN r op) : ∀ σ H Q, tE g W (cN fr op cs) σ H Q → tA g W cs σ H (fun xs H1 => r xs H1 Q) := by
  intro σ H Q q
  refine tG.one q fun w ρ A env v A1 ρ1 H1 x hg S e S1 r1 q => ?_
  exact d w ρ1 A1 H1 env σ v x Q S1 r1 (fin_ok S1 q)
def lstD (xs : List AV) (_ : St) : RD := if xs.length ≤ sizeLine then .lst xs else .bad
def tupD (xs : List AV) (_ : St) : RD := if xs.length ≤ sizeLine then .tup xs else .bad
theorem se_lst (fr : Bool) (h : PA X es (tA g W cs)) : PE X (.List es pos) (tE g W (cN fr lstD cs)) :=
  PE.mono (pe_lst h) fun σ H Q q => cN_ok (r := fun xs H1 Q => xs.length ≤ sizeLine ∧ ∀ p, H1 p = none → Q (.ref p) (upd H1 p (.lst xs))) (fun w ρ A H env σ vs xs Q S r p => by
    unfold lstD at p
    split at p
    · rename_i hl
      exact ⟨by rw [← r.length]; exact hl, fun a ha => p a xs ha r⟩
    · exact p.elim) σ H Q q
theorem se_tup {k} (h : PA X es (tA g W cs)) : PE X (.Tuple es k pos) (tE g W (cN false tupD cs)) :=
  PE.mono (pe_tup h) fun σ H Q q => cN_ok (r := fun xs H1 Q => xs.length ≤ sizeLine ∧ ∀ p, H1 p = none → Q (.ref p) (upd H1 p (.tup xs))) (fun w ρ A H env σ vs xs Q S r p => by
    unfold tupD at p
    split at p
    · rename_i hl
      exact ⟨by rw [← r.length]; exact hl, fun a ha => p a xs ha r⟩
    · exact p.elim) σ H Q q
end
end Sx

namespace Sx
open PySem PySem.Spec PyProof.Rows L2

/-! ## lists, tuples as values -/
def listOf (A : St) : AV → Option (List AV)
  | .lst _ xs => some xs
  | .ref n => match cellAt A n with
    | some (.lst xs) => some xs
    | _ => none
  | _ => none
def seqOf (A : St) : AV → Option (List AV)
  | .tup xs => some xs
  | v => listOf A v
section
variable {w : Wd} {ρ : Nat → Addr} {A : St} {H : Hp} {env : Env} {σ : L2.St} {v : AV} {x : V} {xs : List AV} {K : PySem.W.Frag}
theorem Sit.listOf (S : Sit w ρ A H env σ) (r : RelA w ρ A H v x) (h : Sx.listOf A v = some xs) : ∃ p vs, x = .ref p ∧ H p = some (.lst vs) ∧ RelAs w ρ A H xs vs := by
  cases v with
  | lst f ys =>
    cases h
    unfold RelA at r
    obtain ⟨p, vs, rfl, hp, _, _, _, rs⟩ := r
    exact ⟨p, vs, rfl, hp, rs⟩
  | ref n =>
    unfold RelA at r
    obtain ⟨_, rfl⟩ := r
    simp only [Sx.listOf] at h
    cases e : cellAt A n with
    | none => rw [e] at h; cases h
    | some c =>
      rw [e] at h
      cases c with
      | lst ys =>
        cases h
        obtain ⟨_, ⟨vs, hp, rs⟩, _⟩ := S.cell n _ (cellAt_some e)
        exact ⟨_, vs, rfl, hp, rs⟩
      | dK _ _ => cases h
      | dT _ _ => cases h
  | _ => cases h
theorem RelA.tupOf (r : RelA w ρ A H (.tup xs) x) : ∃ p vs, x = .ref p ∧ H p = some (.tup vs) ∧ RelAs w ρ A H xs vs := by
  unfold RelA at r
  obtain ⟨p, vs, rfl, hp, _, rs⟩ := r
  exact ⟨p, vs, rfl, hp, rs⟩
theorem Sit.seqOf (S : Sit w ρ A H env σ) (r : RelA w ρ A H v x) (h : Sx.seqOf A v = some xs) : ∃ p vs, x = .ref p ∧ (SqL K H p vs ∨ SqT K H p vs) ∧ RelAs w ρ A H xs vs := by
  cases v with
  | tup ys =>
    cases h
    obtain ⟨p, vs, rfl, hp, rs⟩ := r.tupOf
    exact ⟨p, vs, rfl, .inr (SqT.of hp), rs⟩
  | lst f ys =>
    obtain ⟨p, vs, rfl, hp, rs⟩ := S.listOf r h
    exact ⟨p, vs, rfl, .inl (SqL.of hp), rs⟩
  | ref n =>
    obtain ⟨p, vs, rfl, hp, rs⟩ := S.listOf r h
    exact ⟨p, vs, rfl, .inl (SqL.of hp), rs⟩
  | _ => cases h
theorem rel_of_int {i : Int} (r : RelA w ρ A H (.int i) x) : x = .int i := by unfold RelA at r; exact r
theorem rel_of_bl {i : Bool} (r : RelA w ρ A H (.bl i) x) : x = .bl i := by unfold RelA at r; exact r
theorem rel_of_str {i : Str} (r : RelA w ρ A H (.str i) x) : x = .str i := by unfold RelA at r; exact r
theorem rel_of_non (r : RelA w ρ A H .non x) : x = .non := by unfold RelA at r; exact r
/-- ints -/
def intsOf : List AV → Option (List Int)
  | [] => some []
  | .int i :: r => (intsOf r).map (i :: ·)
  | _ => none
theorem ints_rel : ∀ {xs : List AV} {ns : List Int} {vs : List V}, intsOf xs = some ns → RelAs w ρ A H xs vs → vs = ns.map V.int
  | [], _, _, h, r => by cases h; exact r.nil_of
  | .int i :: r, ns, _, h, q => by
    obtain ⟨v, us, rfl, q1, q2⟩ := q.cons_of
    simp only [intsOf] at h
    cases e : intsOf r with
    | none => rw [e] at h; cases h
    | some ms =>
      rw [e] at h
      cases h
      rw [rel_of_int q1, ints_rel e q2]
      rfl
  | .non :: _, _, _, h, _ => by cases h
  | .bl _ :: _, _, _, h, _ => by cases h
  | .str _ :: _, _, _, h, _ => by cases h
  | .tup _ :: _, _, _, h, _ => by cases h
  | .lst _ _ :: _, _, _, h, _ => by cases h
  | .ref _ :: _, _, _, h, _ => by cases h
  | .scr _ :: _, _, _, h, _ => by cases h
  | .exc _ _ :: _, _, _, h, _ => by cases h
theorem intsOf_map : ∀ ns : List Int, intsOf (ns.map AV.int) = some ns
  | [] => rfl
  | n :: ns => by simp [intsOf, intsOf_map ns]
theorem rel_ints : ∀ (ns : List Int), RelAs w ρ A H (ns.map AV.int) (ns.map V.int)
  | [] => RelAs.nil
  | n :: ns => RelAs.cons (rel_int n) (rel_ints ns)
def blsOf : List AV → Option (List Bool)
  | [] => some []
  | .bl i :: r => (blsOf r).map (i :: ·)
  | _ => none
theorem bls_rel : ∀ {xs : List AV} {ns : List Bool} {vs : List V}, blsOf xs = some ns → RelAs w ρ A H xs vs → vs = ns.map V.bl
  | [], _, _, h, r => by cases h; exact r.nil_of
  | .bl i :: r, ns, _, h, q => by
    obtain ⟨v, us, rfl, q1, q2⟩ := q.cons_of
    simp only [blsOf] at h
    cases e : blsOf r with
    | none => rw [e] at h; cases h
    | some ms =>
      rw [e] at h
      cases h
      rw [rel_of_bl q1, bls_rel e q2]
      rfl
  | .non :: _, _, _, h, _ => by cases h
  | .int _ :: _, _, _, h, _ => by cases h
  | .str _ :: _, _, _, h, _ => by cases h
  | .tup _ :: _, _, _, h, _ => by cases h
  | .lst _ _ :: _, _, _, h, _ => by cases h
  | .ref _ :: _, _, _, h, _ => by cases h
  | .scr _ :: _, _, _, h, _ => by cases h
  | .exc _ _ :: _, _, _, h, _ => by cases h
theorem blsOf_map : ∀ ns : List Bool, blsOf (ns.map AV.bl) = some ns
  | [] => rfl
  | n :: ns => by simp [blsOf, blsOf_map ns]
end

/-! ## + - * // % ** -/
def addD (v u : AV) (A : St) : RD := match v, u with
  | .int i, .int j => .val (.int (i + j))
  | .str i, .str j => if i.length + j.length ≤ sizeLine then .val (.str (i ++ j)) else .bad
  | .tup xs, .tup ys => if xs.length + ys.length ≤ sizeLine then
      match xs, ys with
      | [], _ => .val (.tup ys)
      | _ :: _, [] => .val (.tup xs)
      | _ :: _, _ :: _ => .tup (xs ++ ys)
    else .bad
  | v, u => match listOf A v, listOf A u with
    | some xs, some ys => if xs.length + ys.length ≤ sizeLine then .lst (xs ++ ys) else .bad
    | _, _ => .bad
def rAddX (K : PySem.W.Frag) : R2 := fun x y H Q => (rI0 fun i j => .int (i + j)) x y H Q ∨ (∃ i j, x = .str i ∧ y = .str j ∧ i.length + j.length ≤ sizeLine ∧ Q (.str (i ++ j)) H) ∨ rCatA K x y H Q ∨ rCat x y H Q
theorem op_addX {X : Cx} : OpR X (binaryOp .Add) (rAddX X.K) := op_add.or (op_add_str.or (op_catA.or op_cat))
theorem addD_list {w ρ A H env σ} {K : PySem.W.Frag} {v u : AV} {x y : V} {Q : VK} (S : Sit w ρ A H env σ) (rv : RelA w ρ A H v x) (ru : RelA w ρ A H u y)
    (p : PostD w ρ A H Q (match listOf A v, listOf A u with
    | some xs, some ys => if xs.length + ys.length ≤ sizeLine then .lst (xs ++ ys) else .bad
    | _, _ => .bad)) : rAddX K x y H Q := by
  cases e1 : listOf A v with
  | none => rw [e1] at p; exact p.elim
  | some xs =>
    cases e2 : listOf A u with
    | none => rw [e1, e2] at p; exact p.elim
    | some ys =>
      rw [e1, e2] at p
      dsimp only at p
      obtain ⟨a, vs, rfl, ha, r1⟩ := S.listOf rv e1
      obtain ⟨b, us, rfl, hb, r2⟩ := S.listOf ru e2
      split at p
      · rename_i hl
        exact .inr (.inr (.inr ⟨a, b, vs, us, rfl, rfl, ha, hb, by rw [← r1.length, ← r2.length]; exact hl, fun q hq => p q _ hq (r1.append r2)⟩))
      · exact p.elim
theorem addD_ok {K : PySem.W.Frag} : D2 (rAddX K) addD := by
  intro w ρ A H env σ v u x y Q S rv ru p
  unfold addD at p
  split at p
  · exact .inl ⟨_, _, rel_of_int rv, rel_of_int ru, p _ (rel_int _)⟩
  · rename_i i j
    split at p
    · rename_i hl
      exact .inr (.inl ⟨_, _, rel_of_str rv, rel_of_str ru, hl, p _ (rel_str _)⟩)
    · exact p.elim
  · rename_i xs ys
    obtain ⟨a, vs, rfl, ha, r1⟩ := rv.tupOf
    obtain ⟨b, us, rfl, hb, r2⟩ := ru.tupOf
    split at p
    · rename_i hl
      refine .inr (.inr (.inl ⟨a, b, vs, us, rfl, rfl, SqT.of ha, SqT.of hb, by rw [← r1.length, ← r2.length]; exact hl, ?_⟩))
      cases xs with
      | nil =>
        have e := r1.nil_of
        subst e
        exact ⟨fun _ => p _ ru, fun h => absurd rfl h, fun h => absurd rfl h⟩
      | cons x0 xs =>
        have hv : vs ≠ [] := fun z => by subst z; have := r1.length; simp at this
        cases ys with
        | nil =>
          have e := r2.nil_of
          subst e
          exact ⟨fun h => absurd h hv, fun _ _ => p _ rv, fun _ h => absurd rfl h⟩
        | cons y0 ys =>
          have hu : us ≠ [] := fun z => by subst z; have := r2.length; simp at this
          exact ⟨fun h => absurd h hv, fun _ h => absurd h hu, fun _ _ q hq => p q _ hq (r1.append r2)⟩
    · exact p.elim
  · exact addD_list S rv ru p
def subD (v u : AV) (_ : St) : RD := match v, u with
  | .int i, .int j => .val (.int (i - j))
  | _, _ => .bad
theorem subD_ok : D2 (rI0 fun i j => .int (i - j)) subD := by
  intro w ρ A H env σ v u x y Q S rv ru p
  unfold subD at p
  split at p
  · exact ⟨_, _, rel_of_int rv, rel_of_int ru, p _ (rel_int _)⟩
  · exact p.elim
instance (i j : Int) : Decidable (CMulW i j) := inferInstanceAs (Decidable (_ < _))
instance (i j : Int) : Decidable (CMul i j) := inferInstanceAs (Decidable (_ ∨ _))
instance (i j : Int) : Decidable (CDivW i j) := inferInstanceAs (Decidable (_ ∧ _))
instance (i j : Int) : Decidable (CPow i j) := inferInstanceAs (Decidable (_ ∧ _))
def rMulX : R2 := fun x y H Q => rI CMul (fun i j => .int (i * j)) x y H Q ∨ rRep x y H Q
theorem op_mulX {X : Cx} : OpR X (binaryOp .Mult) rMulX := op_mul.or op_rep
/-- one factor within 2 ^ 64; a list times an int -/
def mulD (v u : AV) (A : St) : RD := match v, u with
  | .int i, .int j => if CMul i j then .val (.int (i * j)) else .bad
  | v, .int k => match listOf A v with
    | some xs => if -(2 ^ 63) ≤ k ∧ k < 2 ^ 63 ∧ xs.length * k.toNat ≤ sizeLine then .lst (List.replicate k.toNat xs).flatten else .bad
    | none => .bad
  | _, _ => .bad
theorem rel_rep {w ρ A H} {xs : List AV} {vs : List V} (r : RelAs w ρ A H xs vs) : ∀ k, RelAs w ρ A H (List.replicate k xs).flatten (List.replicate k vs).flatten
  | 0 => RelAs.nil
  | k + 1 => by
    rw [List.replicate_succ, List.replicate_succ, List.flatten_cons, List.flatten_cons]
    exact r.append (rel_rep r k)
theorem mulD_ok : D2 rMulX mulD := by
  intro w ρ A H env σ v u x y Q S rv ru p
  unfold mulD at p
  split at p
  · split at p
    · rename_i h
      exact .inl ⟨_, _, rel_of_int rv, rel_of_int ru, h, p _ (rel_int _)⟩
    · exact p.elim
  · rename_i k _
    split at p
    · rename_i xs e
      split at p
      · rename_i h
        obtain ⟨a, vs, rfl, ha, r1⟩ := S.listOf rv e
        exact .inr ⟨a, k, vs, rfl, rel_of_int ru, ha, h.1, h.2.1, by rw [← r1.length]; exact h.2.2, fun q hq => p q _ hq (rel_rep r1 _)⟩
      · exact p.elim
    · exact p.elim
  · exact p.elim
/-- great ints -/
def mulW (v u : AV) (_ : St) : RD := match v, u with
  | .int i, .int j => if CMulW i j then .val (.int (i * j)) else .bad
  | _, _ => .bad
theorem mulW_ok : D2 (rI CMulW fun i j => .int (i * j)) mulW := by
  intro w ρ A H env σ v u x y Q S rv ru p
  unfold mulW at p
  split at p
  · split at p
    · rename_i h
      exact ⟨_, _, rel_of_int rv, rel_of_int ru, h, p _ (rel_int _)⟩
    · exact p.elim
  · exact p.elim
def fdivD (v u : AV) (_ : St) : RD := match v, u with
  | .int i, .int j => if CDivW i j then .val (.int (i / j)) else .bad
  | _, _ => .bad
theorem fdivD_ok : D2 (rI CDivW fun i j => .int (i / j)) fdivD := by
  intro w ρ A H env σ v u x y Q S rv ru p
  unfold fdivD at p
  split at p
  · split at p
    · rename_i h
      exact ⟨_, _, rel_of_int rv, rel_of_int ru, h, p _ (rel_int _)⟩
    · exact p.elim
  · exact p.elim
def modD (v u : AV) (_ : St) : RD := match v, u with
  | .int i, .int j => if 0 < j then .val (.int (i % j)) else .bad
  | _, _ => .bad
theorem modD_ok : D2 (rI (fun _ j => 0 < j) fun i j => .int (i % j)) modD := by
  intro w ρ A H env σ v u x y Q S rv ru p
  unfold modD at p
  split at p
  · split at p
    · rename_i h
      exact ⟨_, _, rel_of_int rv, rel_of_int ru, h, p _ (rel_int _)⟩
    · exact p.elim
  · exact p.elim
def powD (v u : AV) (_ : St) : RD := match v, u with
  | .int i, .int j => if CPow i j then .val (.int (i ^ j.toNat)) else .bad
  | _, _ => .bad
theorem powD_ok : D2 (rI CPow fun i j => .int (i ^ j.toNat)) powD := by
  intro w ρ A H env σ v u x y Q S rv ru p
  unfold powD at p
  split at p
  · split at p
    · rename_i h
      exact ⟨_, _, rel_of_int rv, rel_of_int ru, h, p _ (rel_int _)⟩
    · exact p.elim
  · exact p.elim
def negD (v : AV) (_ : St) : RD := match v with
  | .int i => .val (.int (-i))
  | _ => .bad
theorem negD_ok : D1 (rU fun i => .int (-i)) negD := by
  intro w ρ A H env σ v x Q S rv p
  unfold negD at p
  split at p
  · exact ⟨_, rel_of_int rv, p _ (rel_int _)⟩
  · exact p.elim

/-! ## comparisons -/
def ltD (v u : AV) (_ : St) : RD := match v, u with
  | .int i, .int j => .val (.bl (decide (i < j)))
  | _, _ => .bad
def leD (v u : AV) (_ : St) : RD := match v, u with
  | .int i, .int j => .val (.bl (decide (i ≤ j)))
  | _, _ => .bad
def gtD (v u : AV) (_ : St) : RD := match v, u with
  | .int i, .int j => .val (.bl (decide (j < i)))
  | _, _ => .bad
def geD (v u : AV) (_ : St) : RD := match v, u with
  | .int i, .int j => .val (.bl (decide (j ≤ i)))
  | _, _ => .bad
theorem ltD_ok : D2 (rI0 fun i j => .bl (decide (i < j))) ltD := by
  intro w ρ A H env σ v u x y Q S rv ru p
  unfold ltD at p
  split at p
  · exact ⟨_, _, rel_of_int rv, rel_of_int ru, p _ (rel_bl _)⟩
  · exact p.elim
theorem leD_ok : D2 (rI0 fun i j => .bl (decide (i ≤ j))) leD := by
  intro w ρ A H env σ v u x y Q S rv ru p
  unfold leD at p
  split at p
  · exact ⟨_, _, rel_of_int rv, rel_of_int ru, p _ (rel_bl _)⟩
  · exact p.elim
theorem gtD_ok : D2 (rI0 fun i j => .bl (decide (j < i))) gtD := by
  intro w ρ A H env σ v u x y Q S rv ru p
  unfold gtD at p
  split at p
  · exact ⟨_, _, rel_of_int rv, rel_of_int ru, p _ (rel_bl _)⟩
  · exact p.elim
theorem geD_ok : D2 (rI0 fun i j => .bl (decide (j ≤ i))) geD := by
  intro w ρ A H env σ v u x y Q S rv ru p
  unfold geD at p
  split at p
  · exact ⟨_, _, rel_of_int rv, rel_of_int ru, p _ (rel_bl _)⟩
  · exact p.elim

/-! ## data -/
def mapO {α β : Type} (f : α → Option β) : List α → Option (List β)
  | [] => some []
  | x :: xs => match f x, mapO f xs with
    | some y, some ys => some (y :: ys)
    | _, _ => none
def toD (A : St) : Nat → AV → Option PyData
  | 0, _ => none
  | n + 1, v => match v with
    | .non => some .none
    | .bl b => some (.bool b)
    | .int i => some (.int i)
    | .str s => if PyData.strOk s = true then some (.str s) else none
    | .tup xs => (mapO (toD A n) xs).map .tuple
    | .lst _ xs => (mapO (toD A n) xs).map .list
    | .ref m => match cellAt A m with
      | some (.lst xs) => (mapO (toD A n) xs).map .list
      | _ => none
    | _ => none
theorem mapO_map {α β γ : Type} (f : α → Option β) (g : γ → α) (k : γ → β) (h : ∀ x, f (g x) = some (k x)) : ∀ xs : List γ, mapO f (xs.map g) = some (xs.map k)
  | [] => rfl
  | x :: xs => by
    rw [List.map_cons, List.map_cons]
    unfold mapO
    rw [h x, mapO_map f g k h xs]
section
variable {w : Wd} {ρ : Nat → Addr} {A : St} {H : Hp} {env : Env} {σ : L2.St} {K : PySem.W.Frag}
theorem mapO_dp {n : Nat} (ih : ∀ {v : AV} {d : PyData} {x : V}, toD A n v = some d → RelA w ρ A H v x → Dp K H x d) : ∀ {xs : List AV} {ds : List PyData} {vs : List V}, mapO (toD A n) xs = some ds → RelAs w ρ A H xs vs → DpAll K H vs ds
  | [], _, _, h, r => by
    cases h
    rw [r.nil_of]
    exact .nil
  | x :: xs, ds, vs, h, r => by
    obtain ⟨v, us, rfl, r1, r2⟩ := r.cons_of
    unfold mapO at h
    cases e1 : toD A n x with
    | none => rw [e1] at h; cases h
    | some d =>
      cases e2 : mapO (toD A n) xs with
      | none => rw [e1, e2] at h; cases h
      | some ds' =>
        rw [e1, e2] at h
        cases h
        exact .cons (ih e1 r1) (mapO_dp ih e2 r2)
theorem toD_dp (S : Sit w ρ A H env σ) : ∀ (n : Nat) {v : AV} {d : PyData} {x : V}, toD A n v = some d → RelA w ρ A H v x → Dp K H x d
  | 0, _, _, _, h, _ => by cases h
  | n + 1, v, d, x, h, r => by
    cases v with
    | non => cases h; rw [rel_of_non r]; exact .non
    | bl b => cases h; rw [rel_of_bl r]; exact .bl b
    | int i => cases h; rw [rel_of_int r]; exact .int i
    | str s =>
      unfold toD at h
      dsimp only at h
      split at h
      · cases h; rw [rel_of_str r]; exact .str s
      · cases h
    | tup xs =>
      unfold toD at h
      dsimp only at h
      cases e : mapO (toD A n) xs with
      | none => rw [e] at h; cases h
      | some ds =>
        rw [e] at h
        cases h
        obtain ⟨p, vs, rfl, hp, rs⟩ := r.tupOf
        exact .tup (SqT.of hp) (mapO_dp (toD_dp S n) e rs)
    | lst f xs =>
      unfold toD at h
      dsimp only at h
      cases e : mapO (toD A n) xs with
      | none => rw [e] at h; cases h
      | some ds =>
        rw [e] at h
        cases h
        obtain ⟨p, vs, rfl, hp, rs⟩ := S.listOf r (xs := xs) rfl
        exact .lst (SqL.of hp) (mapO_dp (toD_dp S n) e rs)
    | ref m =>
      unfold toD at h
      dsimp only at h
      cases ec : cellAt A m with
      | none => rw [ec] at h; cases h
      | some c =>
        rw [ec] at h
        cases c with
        | lst xs =>
          dsimp only at h
          cases e : mapO (toD A n) xs with
          | none => rw [e] at h; cases h
          | some ds =>
            rw [e] at h
            cases h
            obtain ⟨p, vs, rfl, hp, rs⟩ := S.listOf r (xs := xs) (by unfold Sx.listOf; dsimp only; rw [ec])
            exact .lst (SqL.of hp) (mapO_dp (toD_dp S n) e rs)
        | dK _ _ => cases h
        | dT _ _ => cases h
    | scr _ => cases h
    | exc _ _ => cases h
theorem mapO_lay {n : Nat} (ih : ∀ {v : AV} {d : PyData}, toD A n v = some d → d.canLay0 = true ∧ d.depth ≤ n) : ∀ {xs : List AV} {ds : List PyData}, mapO (toD A n) xs = some ds → PyData.canLayAll0 ds = true ∧ PyData.depthAll ds ≤ n
  | [], _, h => by
    cases h
    simp [PyData.canLayAll0, PyData.depthAll]
  | x :: xs, ds, h => by
    unfold mapO at h
    cases e1 : toD A n x with
    | none => rw [e1] at h; cases h
    | some d =>
      cases e2 : mapO (toD A n) xs with
      | none => rw [e1, e2] at h; cases h
      | some ds' =>
        rw [e1, e2] at h
        cases h
        obtain ⟨h1, h2⟩ := ih e1
        obtain ⟨h3, h4⟩ := mapO_lay ih e2
        simp only [PyData.canLayAll0, PyData.depthAll, h1, h3, Bool.and_self, true_and]
        omega
theorem toD_lay : ∀ (n : Nat) {v : AV} {d : PyData}, toD A n v = some d → d.canLay0 = true ∧ d.depth ≤ n
  | 0, _, _, h => by cases h
  | n + 1, v, d, h => by
    have wrapT : ∀ {xs : List AV} , (mapO (toD A n) xs).map PyData.tuple = some d → d.canLay0 = true ∧ d.depth ≤ n + 1 := fun {xs} h => by
      cases e : mapO (toD A n) xs with
      | none => rw [e] at h; cases h
      | some ds =>
        rw [e] at h
        cases h
        obtain ⟨h1, h2⟩ := mapO_lay (toD_lay n) e
        simp only [PyData.canLay0, PyData.depth, h1, true_and]
        omega
    have wrapL : ∀ {xs : List AV} , (mapO (toD A n) xs).map PyData.list = some d → d.canLay0 = true ∧ d.depth ≤ n + 1 := fun {xs} h => by
      cases e : mapO (toD A n) xs with
      | none => rw [e] at h; cases h
      | some ds =>
        rw [e] at h
        cases h
        obtain ⟨h1, h2⟩ := mapO_lay (toD_lay n) e
        simp only [PyData.canLay0, PyData.depth, h1, true_and]
        omega
    cases v with
    | non => cases h; simp [PyData.canLay0, PyData.depth]
    | bl b => cases h; simp [PyData.canLay0, PyData.depth]
    | int i => cases h; simp [PyData.canLay0, PyData.depth]
    | str s =>
      unfold toD at h
      dsimp only at h
      split at h
      · rename_i hs
        cases h
        simp [PyData.canLay0, PyData.depth, hs]
      · cases h
    | tup xs => exact wrapT h
    | lst f xs => exact wrapL h
    | ref m =>
      unfold toD at h
      dsimp only at h
      split at h
      · exact wrapL h
      · cases h
    | scr _ => cases h
    | exc _ _ => cases h
end
/-- scalars that == tells apart without looking further -/
def scA : AV → AV → Option Bool
  | .int i, .int j => some (decide (i = j))
  | .str i, .str j => some (decide (i = j))
  | .bl i, .bl j => some (decide (i = j))
  | .non, .non => some true
  | .non, .int _ => some false
  | .int _, .non => some false
  | .non, .bl _ => some false
  | .bl _, .non => some false
  | .non, .str _ => some false
  | .str _, .non => some false
  | _, _ => none
def eqB (A : St) (v u : AV) : Option Bool := match scA v u with
  | some b => some b
  | none => match toD A 40 v, toD A 40 u with
    | some d, some e => some (PyData.eqv d e)
    | _, _ => none
def eqD (v u : AV) (A : St) : RD := match eqB A v u with
  | some b => .val (.bl b)
  | none => .bad
def neD (v u : AV) (A : St) : RD := match eqB A v u with
  | some b => .val (.bl (!b))
  | none => .bad
def rEqX (K : PySem.W.Frag) : R2 := fun x y H Q => rEq x y H Q ∨ rEqD K x y H Q
def rNeX (K : PySem.W.Frag) : R2 := fun x y H Q => rNe x y H Q ∨ rNeD K x y H Q
theorem op_eqX {X : Cx} (hu : X.A.units + 64 < cLine) : OpR X (compareOp .Eq) (rEqX X.K) := op_eq.or (op_eqD hu)
theorem op_neX {X : Cx} (hu : X.A.units + 64 < cLine) : OpR X (compareOp .NotEq) (rNeX X.K) := op_ne.or (op_neD hu)
theorem eqB_ok {w ρ A H env σ} {K : PySem.W.Frag} {v u : AV} {x y : V} {b : Bool} (S : Sit w ρ A H env σ) (rv : RelA w ρ A H v x) (ru : RelA w ρ A H u y) (h : eqB A v u = some b) :
    (scal x y = true ∧ decide (x = y) = b) ∨ (∃ d e, Dp K H x d ∧ Dp K H y e ∧ SeqAt.shaped d = true ∧ SeqAt.shaped e = true ∧ PyData.eqv d e = b) := by
  unfold eqB at h
  cases e : scA v u with
  | some c =>
    rw [e] at h
    have hc : c = b := Option.some.inj h
    subst hc
    unfold scA at e
    split at e
    all_goals first
      | cases e
      | skip
    · rw [rel_of_int rv, rel_of_int ru]; exact .inl ⟨rfl, by simp⟩
    · rw [rel_of_str rv, rel_of_str ru]; exact .inl ⟨rfl, by simp⟩
    · rw [rel_of_bl rv, rel_of_bl ru]; exact .inl ⟨rfl, by simp⟩
    · rw [rel_of_non rv, rel_of_non ru]; exact .inl ⟨rfl, by simp⟩
    · rw [rel_of_non rv, rel_of_int ru]; exact .inl ⟨rfl, by simp⟩
    · rw [rel_of_int rv, rel_of_non ru]; exact .inl ⟨rfl, by simp⟩
    · rw [rel_of_non rv, rel_of_bl ru]; exact .inl ⟨rfl, by simp⟩
    · rw [rel_of_bl rv, rel_of_non ru]; exact .inl ⟨rfl, by simp⟩
    · rw [rel_of_non rv, rel_of_str ru]; exact .inl ⟨rfl, by simp⟩
    · rw [rel_of_str rv, rel_of_non ru]; exact .inl ⟨rfl, by simp⟩
  | none =>
    rw [e] at h
    dsimp only at h
    cases e1 : toD A 40 v with
    | none => rw [e1] at h; cases h
    | some d =>
      cases e2 : toD A 40 u with
      | none => rw [e1, e2] at h; cases h
      | some d' =>
        rw [e1, e2] at h
        obtain ⟨l1, l2⟩ := toD_lay 40 e1
        obtain ⟨l3, l4⟩ := toD_lay 40 e2
        refine .inr ⟨d, d', toD_dp S 40 e1 rv, toD_dp S 40 e2 ru, ?_, ?_, Option.some.inj h⟩
        · unfold SeqAt.shaped; rw [l1, decide_eq_true (by omega)] <;> rfl
        · unfold SeqAt.shaped; rw [l3, decide_eq_true (by omega)] <;> rfl
theorem eqD_ok {K : PySem.W.Frag} : D2 (rEqX K) eqD := by
  intro w ρ A H env σ v u x y Q S rv ru p
  unfold eqD at p
  cases e : eqB A v u with
  | none => rw [e] at p; exact p.elim
  | some b =>
    rw [e] at p
    have q := p _ (rel_bl b)
    rcases eqB_ok (K := K) S rv ru e with ⟨h1, h2⟩ | ⟨d, d', h1, h2, h3, h4, h5⟩
    · exact .inl ⟨h1, by rw [h2]; exact q⟩
    · exact .inr ⟨d, d', h1, h2, h3, h4, by rw [h5]; exact q⟩
theorem neD_ok {K : PySem.W.Frag} : D2 (rNeX K) neD := by
  intro w ρ A H env σ v u x y Q S rv ru p
  unfold neD at p
  cases e : eqB A v u with
  | none => rw [e] at p; exact p.elim
  | some b =>
    rw [e] at p
    have q := p _ (rel_bl (!b))
    rcases eqB_ok (K := K) S rv ru e with ⟨h1, h2⟩ | ⟨d, d', h1, h2, h3, h4, h5⟩
    · exact .inl ⟨h1, by rw [h2]; exact q⟩
    · exact .inr ⟨d, d', h1, h2, h3, h4, by rw [h5]; exact q⟩
/-- is None -/
def isNonA : AV → Bool
  | .non => true
  | _ => false
theorem isNonA_ok {w ρ A H} {v : AV} {x : V} (r : RelA w ρ A H v x) : decide (x = .non) = isNonA v := by
  cases v <;> first
    | (rw [rel_of_non r]; rfl)
    | (rw [rel_of_int r]; rfl)
    | (rw [rel_of_bl r]; rfl)
    | (rw [rel_of_str r]; rfl)
    | (unfold RelA at r
       first
         | (obtain ⟨p, vs, rfl, _⟩ := r; rfl)
         | (obtain ⟨_, rfl⟩ := r; rfl)
         | (obtain ⟨p, rfl, _⟩ := r; rfl)
         | (obtain ⟨a, d, fs, vs, _, rfl, _⟩ := r; rfl))
def isD (v u : AV) (_ : St) : RD := match u with
  | .non => .val (.bl (isNonA v))
  | _ => .bad
def isntD (v u : AV) (_ : St) : RD := match u with
  | .non => .val (.bl (!isNonA v))
  | _ => .bad
theorem isD_ok : D2 (fun x y H Q => y = .non ∧ Q (.bl (decide (x = .non))) H) isD := by
  intro w ρ A H env σ v u x y Q S rv ru p
  unfold isD at p
  split at p
  · exact ⟨rel_of_non ru, by rw [isNonA_ok rv]; exact p _ (rel_bl _)⟩
  · exact p.elim
theorem isntD_ok : D2 (fun x y H Q => y = .non ∧ Q (.bl (!decide (x = .non))) H) isntD := by
  intro w ρ A H env σ v u x y Q S rv ru p
  unfold isntD at p
  split at p
  · exact ⟨rel_of_non ru, by rw [isNonA_ok rv]; exact p _ (rel_bl _)⟩
  · exact p.elim
end Sx

namespace Sx
open PySem PySem.Spec PyProof.Rows L2
section
variable {w : Wd} {ρ : Nat → Addr} {A : St} {H : Hp} {env : Env} {σ : L2.St} {K : PySem.W.Frag}
/-! ## in, not in -/
def inS (v : AV) : List AV → Option Bool
  | [] => some false
  | y :: r => match scA y v, inS v r with
    | some a, some b => some (a || b)
    | _, _ => none
def inB (A : St) (v u : AV) : Option Bool := match seqOf A u with
  | none => none
  | some xs => match inS v xs with
    | some b => some b
    | none => match toD A 40 v, toD A 40 u with
      | some d, some (.list ds) => some (ds.any fun z => PyData.eqv z d)
      | _, _ => none
def inD (v u : AV) (A : St) : RD := match inB A v u with
  | some b => .val (.bl b)
  | none => .bad
def notInD (v u : AV) (A : St) : RD := match inB A v u with
  | some b => .val (.bl (!b))
  | none => .bad
theorem scA_ok {v u : AV} {x y : V} {b : Bool} (rv : RelA w ρ A H v x) (ru : RelA w ρ A H u y) (e : scA v u = some b) : flatV x = true ∧ flatV y = true ∧ eqV x y = b := by
  unfold scA at e
  split at e
  all_goals first
    | cases e
    | skip
  · rw [rel_of_int rv, rel_of_int ru]; exact ⟨rfl, rfl, by simp [eqV, Bool.beq_eq_decide_eq]⟩
  · rw [rel_of_str rv, rel_of_str ru]; exact ⟨rfl, rfl, by simp [eqV, Bool.beq_eq_decide_eq]⟩
  · rw [rel_of_bl rv, rel_of_bl ru]; exact ⟨rfl, rfl, by simp [eqV, Bool.beq_eq_decide_eq]⟩
  · rw [rel_of_non rv, rel_of_non ru]; exact ⟨rfl, rfl, rfl⟩
  · rw [rel_of_non rv, rel_of_int ru]; exact ⟨rfl, rfl, rfl⟩
  · rw [rel_of_int rv, rel_of_non ru]; exact ⟨rfl, rfl, rfl⟩
  · rw [rel_of_non rv, rel_of_bl ru]; exact ⟨rfl, rfl, rfl⟩
  · rw [rel_of_bl rv, rel_of_non ru]; exact ⟨rfl, rfl, rfl⟩
  · rw [rel_of_non rv, rel_of_str ru]; exact ⟨rfl, rfl, rfl⟩
  · rw [rel_of_str rv, rel_of_non ru]; exact ⟨rfl, rfl, rfl⟩
theorem inS_ok {v : AV} {x : V} (rv : RelA w ρ A H v x) : ∀ {xs : List AV} {vs : List V} {b : Bool}, RelAs w ρ A H xs vs → inS v xs = some b → vs.all flatV = true ∧ inV x vs = b ∧ (xs ≠ [] → flatV x = true)
  | [], _, b, r, e => by
    rw [r.nil_of]
    cases e
    exact ⟨rfl, rfl, fun h => absurd rfl h⟩
  | y :: xs, _, b, r, e => by
    obtain ⟨z, us, rfl, r1, r2⟩ := r.cons_of
    unfold inS at e
    cases e1 : scA y v with
    | none => rw [e1] at e; cases e
    | some a =>
      cases e2 : inS v xs with
      | none => rw [e1, e2] at e; cases e
      | some b' =>
        rw [e1, e2] at e
        cases e
        obtain ⟨f1, f2, f3⟩ := scA_ok r1 rv e1
        obtain ⟨g1, g2, _⟩ := inS_ok rv r2 e2
        refine ⟨by rw [List.all_cons, f1, g1] <;> rfl, ?_, fun _ => f2⟩
        show (eqV z x || inV x us) = (a || b')
        rw [f3, g2]
def rInX (K : PySem.W.Frag) : R2 := fun x y H Q => rIn K false x y H Q ∨ rInD K x y H Q ∨ (∃ a, y = .ref a ∧ SqL K H a [] ∧ Q (.bl false) H)
def rNotInX (K : PySem.W.Frag) : R2 := fun x y H Q => rIn K true x y H Q ∨ rNotInD K x y H Q
theorem toD_list {A : St} {n : Nat} {u : AV} {ds : List PyData} (h : toD A n u = some (.list ds)) : ∃ m xs, n = m + 1 ∧ listOf A u = some xs ∧ mapO (toD A m) xs = some ds := by
  cases n with
  | zero => cases h
  | succ m =>
    cases u with
    | lst f xs =>
      unfold toD at h
      dsimp only at h
      cases e : mapO (toD A m) xs with
      | none => rw [e] at h; cases h
      | some d' => rw [e] at h; cases h; exact ⟨m, xs, rfl, rfl, e⟩
    | ref k =>
      unfold toD at h
      dsimp only at h
      split at h
      · rename_i xs ec
        cases e : mapO (toD A m) xs with
        | none => rw [e] at h; cases h
        | some d' =>
          rw [e] at h
          cases h
          exact ⟨m, xs, rfl, by unfold listOf; dsimp only; rw [ec], e⟩
      · cases h
    | tup xs =>
      unfold toD at h
      dsimp only at h
      cases e : mapO (toD A m) xs with
      | none => rw [e] at h; cases h
      | some d' => rw [e] at h; cases h
    | str s =>
      unfold toD at h
      dsimp only at h
      split at h <;> cases h
    | _ => cases h
/-- the outcome of a membership test -/
theorem inB_ok {v u : AV} {x y : V} {b : Bool} (S : Sit w ρ A H env σ) (rv : RelA w ρ A H v x) (ru : RelA w ρ A H u y) (h : inB A v u = some b) :
    (∃ p xs, y = .ref p ∧ (SqL K H p xs ∨ SqT K H p xs) ∧ (xs ≠ [] → flatV x = true) ∧ xs.all flatV = true ∧ inV x xs = b) ∨
    (∃ d ds, Dp K H x d ∧ Dp K H y (.list ds) ∧ SeqAt.shaped d = true ∧ SeqAt.shaped (.list ds) = true ∧ (ds.any fun z => PyData.eqv z d) = b) := by
  unfold inB at h
  cases e : seqOf A u with
  | none => rw [e] at h; cases h
  | some xs =>
    rw [e] at h
    dsimp only at h
    obtain ⟨p, vs, rfl, hp, rs⟩ := S.seqOf (K := K) ru e
    cases e2 : inS v xs with
    | some c =>
      rw [e2] at h
      cases h
      obtain ⟨h1, h2, h3⟩ := inS_ok rv rs e2
      exact .inl ⟨p, vs, rfl, hp, fun hv => h3 fun z => hv (by subst z; exact rs.nil_of), h1, h2⟩
    | none =>
      rw [e2] at h
      dsimp only at h
      split at h
      · rename_i d ds e3 e4
        cases h
        obtain ⟨l1, l2⟩ := toD_lay 40 e3
        obtain ⟨l3, l4⟩ := toD_lay 40 e4
        refine .inr ⟨d, ds, toD_dp S 40 e3 rv, toD_dp S 40 e4 ru, ?_, ?_, rfl⟩
        · unfold SeqAt.shaped; rw [l1, decide_eq_true (by omega)] <;> rfl
        · unfold SeqAt.shaped; rw [l3, decide_eq_true (by omega)] <;> rfl
      · cases h
end
/-- flat items, or none at all -/
def rIn0 (K : PySem.W.Frag) (neg : Bool) : R2 := fun x y H Q => ∃ p xs, y = .ref p ∧ (SqL K H p xs ∨ SqT K H p xs) ∧ (xs ≠ [] → flatV x = true) ∧ xs.all flatV = true ∧ Q (.bl (if neg then !inV x xs else inV x xs)) H
theorem op_in0 {X : Cx} : OpR X (compareOp .In) (rIn0 X.K false) := by
  intro pins s σ H x y v u Q I rx ry h
  obtain ⟨p, xs, rfl, hq, fx, fs, q⟩ := h
  by_cases e : xs = []
  · subst e
    cases ry
    rcases hq with hq | hq
    · obtain ⟨its, r, pl, hz⟩ := I.list hq
      cases r
      exact SeqAt.in_listAt (fun _ => false) pl.isList (fun w hw => by simp at hw) ⟨.bl false, H, I, by simp [L2.RelV], q⟩
    · obtain ⟨its, r, pl, hz⟩ := I.tuple hq
      cases r
      exact SeqAt.in_tupleAt (fun _ => false) pl (fun w hw => by simp at hw) ⟨.bl false, H, I, by simp [L2.RelV], q⟩
  · exact op_in_seq pins s σ H x _ v u Q I rx ry ⟨p, xs, rfl, hq, fx e, fs, q⟩
theorem op_notIn0 {X : Cx} : OpR X (compareOp .NotIn) (rIn0 X.K true) := by
  intro pins s σ H x y v u Q I rx ry h
  obtain ⟨p, xs, rfl, hq, fx, fs, q⟩ := h
  by_cases e : xs = []
  · subst e
    cases ry
    rcases hq with hq | hq
    · obtain ⟨its, r, pl, hz⟩ := I.list hq
      cases r
      exact SeqAt.notIn_listAt (fun _ => false) pl.isList (fun w hw => by simp at hw) ⟨.bl true, H, I, by simp [L2.RelV], q⟩
    · obtain ⟨its, r, pl, hz⟩ := I.tuple hq
      cases r
      exact SeqAt.notIn_tupleAt (fun _ => false) pl (fun w hw => by simp at hw) ⟨.bl true, H, I, by simp [L2.RelV], q⟩
  · exact op_notIn_seq pins s σ H x _ v u Q I rx ry ⟨p, xs, rfl, hq, fx e, fs, q⟩
theorem op_inX {X : Cx} (hu : X.A.units + 65 < cLine) : OpR X (compareOp .In) (fun x y H Q => rIn0 X.K false x y H Q ∨ rInD X.K x y H Q) := op_in0.or (op_inD hu)
theorem op_notInX {X : Cx} (hu : X.A.units + 65 < cLine) : OpR X (compareOp .NotIn) (fun x y H Q => rIn0 X.K true x y H Q ∨ rNotInD X.K x y H Q) := op_notIn0.or (op_notInD hu)
theorem inD_ok {K : PySem.W.Frag} : D2 (fun x y H Q => rIn0 K false x y H Q ∨ rInD K x y H Q) inD := by
  intro w ρ A H env σ v u x y Q S rv ru p
  unfold inD at p
  cases e : inB A v u with
  | none => rw [e] at p; exact p.elim
  | some b =>
    rw [e] at p
    have q := p _ (rel_bl b)
    rcases inB_ok (K := K) S rv ru e with ⟨a, xs, h1, h2, h3, h4, h5⟩ | ⟨d, d', h1, h2, h3, h4, h5⟩
    · exact .inl ⟨a, xs, h1, h2, h3, h4, by rw [if_neg Bool.false_ne_true, h5]; exact q⟩
    · exact .inr ⟨d, d', h1, h2, h3, h4, by rw [h5]; exact q⟩
theorem notInD_ok {K : PySem.W.Frag} : D2 (fun x y H Q => rIn0 K true x y H Q ∨ rNotInD K x y H Q) notInD := by
  intro w ρ A H env σ v u x y Q S rv ru p
  unfold notInD at p
  cases e : inB A v u with
  | none => rw [e] at p; exact p.elim
  | some b =>
    rw [e] at p
    have q := p _ (rel_bl (!b))
    rcases inB_ok (K := K) S rv ru e with ⟨a, xs, h1, h2, h3, h4, h5⟩ | ⟨d, d', h1, h2, h3, h4, h5⟩
    · exact .inl ⟨a, xs, h1, h2, h3, h4, by rw [if_pos rfl, h5]; exact q⟩
    · exact .inr ⟨d, d', h1, h2, h3, h4, by rw [h5]; exact q⟩

/-! ## subscripts, slices -/
def ixD (v u : AV) (A : St) : RD := match v, u with
  | .str z, .int i => if z.length ≤ sizeLine then (match atI z.cps.toList i with
    | some c => .val (.str ⟨#[c]⟩)
    | none => .bad) else .bad
  | v, .int i => match seqOf A v with
    | some xs => match atI xs i with
      | some y => .val y
      | none => .bad
    | none => .bad
  | _, _ => .bad
theorem atI_rel {w ρ A H} {xs : List AV} {vs : List V} {i : Int} {y : AV} (r : RelAs w ρ A H xs vs) (h : atI xs i = some y) : ∃ v, atI vs i = some v ∧ RelA w ρ A H y v := by
  unfold atI at h ⊢
  rw [← r.length]
  cases e : ixN xs.length i with
  | none => rw [e] at h; cases h
  | some j =>
    rw [e] at h
    exact r.get h
theorem ixD_ok {K : PySem.W.Frag} : D2 (rIx K) ixD := by
  intro w ρ A H env σ v u x y Q S rv ru p0
  have gen : ∀ {i : Int}, u = .int i → PostD w ρ A H Q (match seqOf A v with
    | some xs => match atI xs i with
      | some y => .val y
      | none => .bad
    | none => .bad) → rIx K x y H Q := fun {i} hu p => by
    subst hu
    cases e : seqOf A v with
    | none => rw [e] at p; exact p.elim
    | some xs =>
      rw [e] at p
      dsimp only at p
      cases e2 : atI xs i with
      | none => rw [e2] at p; exact p.elim
      | some z =>
        rw [e2] at p
        obtain ⟨a, vs, rfl, hp, rs⟩ := S.seqOf (K := K) rv e
        obtain ⟨z', hz, rz⟩ := atI_rel rs e2
        rcases hp with hp | hp
        · exact .inl ⟨a, vs, i, z', rfl, rel_of_int ru, hp, hz, p _ rz⟩
        · exact .inr (.inl ⟨a, vs, i, z', rfl, rel_of_int ru, hp, hz, p _ rz⟩)
  have p := p0
  clear p0
  unfold ixD at p
  split at p
  · rename_i z i
    split at p
    · rename_i hl
      cases e : atI z.cps.toList i with
      | none => rw [e] at p; exact p.elim
      | some c =>
        rw [e] at p
        exact .inr (.inr ⟨z, i, c, rel_of_str rv, rel_of_int ru, hl, e, p _ (rel_str _)⟩)
    · exact p.elim
  · exact gen rfl p
  · exact p.elim
/-- a part of a slice -/
abbrev RelO (w : Wd) (ρ : Nat → Addr) (A : St) (H : Hp) (o : Option Int) (i : Option Int) : Prop := o = i
abbrev CO := Env → St → R (Option Int)
abbrev tO (g : Gb) (W : WX) (c : CO) : TO := tG RelO g W c
def cNoP : CO := fun _ A => .ok none A
def cP (c : CE) : CO := fun env A => bnd (c env A) fun v A1 => match v with
  | .int i => .ok (some i) A1
  | _ => .stuck
theorem PO.mono {X : Cx} {e : Option Expr} {t t' : TO} (h : PO X e t) (k : ∀ σ H Q, t' σ H Q → t σ H Q) : PO X e t' := ⟨fun pins s σ H Q I q => h.run pins s σ H Q I (k σ H Q q)⟩
section
variable {X : Cx} {g : Gb} {W : WX} {e a b : Expr} {es rest : List Expr} {c ca cb : CE} {cs : Env → St → R (List AV)} {pos : Pos} {lo hi : Option Expr} {cl ch : CO}
theorem so_none : PO X none (tO g W cNoP) := PO.mono po_none fun σ H Q q => by
  obtain ⟨w, ρ, A, env, hg, S, q⟩ := q
  exact q ρ H none Ext.refl S rfl
theorem so_some (h : PE X e (tE g W c)) : PO X (some e) (tO g W (cP c)) := PO.mono (po_some h) fun σ H Q q => by
  refine tG.one q fun w ρ A env v A1 ρ1 H1 x hg S e S1 r1 q => ?_
  cases v with
  | int i => exact ⟨i, rel_of_int r1, q ρ1 H1 _ Ext.refl S1 rfl⟩
  | _ => exact q.elim
/-- the items of a slice -/
def cutA (xs : List AV) (lo hi : Option Int) : List AV := (xs.drop (HT.sIx xs.length 0 lo)).take (HT.sIx xs.length xs.length hi - HT.sIx xs.length 0 lo)
def slD (v : AV) (lo hi : Option Int) (A : St) : RD := match v with
  | .tup xs => if HT.sIx xs.length 0 lo = 0 ∧ HT.sIx xs.length xs.length hi = xs.length then .val (.tup xs) else .tup (cutA xs lo hi)
  | v => match listOf A v with
    | some xs => .lst (cutA xs lo hi)
    | none => .bad
def cSl (fr : Bool) (ca : CE) (cl ch : CO) : CE := fun env A => bnd (ca env A) fun v A1 => bnd (cl env A1) fun l A2 => bnd (ch env A2) fun h A3 => fin fr (slD v l h A3) A3
theorem cut_rel {w ρ A H} {xs : List AV} {vs : List V} {lo hi : Option Int} (r : RelAs w ρ A H xs vs) : RelAs w ρ A H (cutA xs lo hi) (cutV vs lo hi) := by
  unfold cutA cutV
  rw [← r.length]
  exact (r.drop _).take _
theorem slD_ok {w ρ A H env σ} {K : PySem.W.Frag} {v : AV} {x : V} {lo hi : Option Int} {Q : VK} (S : Sit w ρ A H env σ) (rv : RelA w ρ A H v x) (p : PostD w ρ A H Q (slD v lo hi A)) : rSlA K x lo hi H Q ∨ rSlL K x lo hi H Q := by
  have gen : PostD w ρ A H Q (match listOf A v with
    | some xs => .lst (cutA xs lo hi)
    | none => .bad) → rSlA K x lo hi H Q ∨ rSlL K x lo hi H Q := fun p => by
    cases e : listOf A v with
    | none => rw [e] at p; exact p.elim
    | some xs =>
      rw [e] at p
      obtain ⟨a, vs, rfl, hp, rs⟩ := S.listOf rv e
      exact .inr ⟨a, vs, rfl, SqL.of hp, fun q hq => p q _ hq (cut_rel rs)⟩
  cases v with
  | tup xs =>
    obtain ⟨a, vs, rfl, hp, rs⟩ := rv.tupOf
    refine .inl ⟨a, vs, rfl, SqT.of hp, ?_⟩
    rw [← rs.length]
    unfold slD at p
    dsimp only at p
    by_cases hw : HT.sIx xs.length 0 lo = 0 ∧ HT.sIx xs.length xs.length hi = xs.length
    · rw [if_pos hw] at p
      exact ⟨fun _ => p _ rv, fun h => absurd hw h⟩
    · rw [if_neg hw] at p
      exact ⟨fun h => absurd h hw, fun _ q hq => p q _ hq (cut_rel rs)⟩
  | _ => exact gen p
theorem se_slice {p2 : Pos} (fr : Bool) (ha : PE X a (tE g W ca)) (hl : PO X lo (tO g W cl)) (hh : PO X hi (tO g W ch)) : PE X (.Subscript a (.Slice lo hi none p2) pos) (tE g W (cSl fr ca cl ch)) := by
  refine PE.mono (pe_slice (sl_tupA.or sl_list) ha hl hh) fun σ H Q q => ?_
  refine tG.one q fun w ρ A env v A1 ρ1 H1 x hg S e S1 r1 q => ?_
  refine tG.bind hg S1 q fun l A2 ρ2 H2 l' e2 S2 r2 q => ?_
  refine tG.bind hg S2 q fun h A3 ρ3 H3 h' e3 S3 r3 q => ?_
  cases r2
  cases r3
  exact slD_ok S3 ((r1.ext e2).ext e3) (fin_ok S3 q)
def revD (v : AV) (A : St) : RD := match listOf A v with
  | some xs => .lst xs.reverse
  | none => .bad
theorem se_rev {k : Nat} {p1 p2 p3 : Pos} (fr : Bool) (ha : PE X a (tE g W ca)) : PE X (.Subscript a (.Slice none none (some (.UnaryOp .USub (.Constant (.int 1) k p1) p2)) p3) pos) (tE g W (c1 fr revD ca)) := by
  refine PE.mono (pe_revL ha) fun σ H Q q => ?_
  refine c1_ok (r := fun x H1 Q => ∃ a xs, x = .ref a ∧ SqL X.K H1 a xs ∧ ∀ p, H1 p = none → Q (.ref p) (upd H1 p (.lst xs.reverse))) (fun w ρ A H env σ v x Q S rv p => ?_) σ H Q q
  unfold revD at p
  cases e : listOf A v with
  | none => rw [e] at p; exact p.elim
  | some xs =>
    rw [e] at p
    obtain ⟨a, vs, rfl, hp, rs⟩ := S.listOf rv e
    exact ⟨a, vs, rfl, SqL.of hp, fun q hq => p q _ hq rs.reverse⟩

end
end Sx

namespace Sx
open PySem PySem.Spec PyProof.Rows L2
section
variable {X : Cx} {g : Gb} {W : WX} {e a b : Expr} {es rest : List Expr} {c ca cb : CE} {cs : Env → St → R (List AV)} {pos : Pos} {lo hi : Option Expr} {cl ch : CO}
/-! ## truth -/
def truB (A : St) : AV → Option Bool
  | .non => some false
  | .bl b => some b
  | .int i => some (i != 0)
  | .str s => if s.length ≤ sizeLine then some ((s.length : Int) != 0) else none
  | v => match seqOf A v with
    | some xs => some (!xs.isEmpty)
    | none => none
def truD (v : AV) (A : St) : RD := match truB A v with
  | some b => .val (.bl b)
  | none => .bad
theorem isEmpty_rel {w ρ A H} {xs : List AV} {vs : List V} (r : RelAs w ρ A H xs vs) : vs.isEmpty = xs.isEmpty := by
  have := r.length
  cases xs <;> cases vs <;> simp_all
theorem truB_ok {w ρ A H env σ} {K : PySem.W.Frag} {v : AV} {x : V} {b : Bool} (S : Sit w ρ A H env σ) (rv : RelA w ρ A H v x) (h : truB A v = some b) : TruV K x H b := by
  have gen : (match seqOf A v with | some xs => some (!xs.isEmpty) | none => none) = some b → TruV K x H b := fun h => by
    cases e : seqOf A v with
    | none => rw [e] at h; cases h
    | some xs =>
      rw [e] at h
      cases h
      obtain ⟨a, vs, rfl, hp, rs⟩ := S.seqOf (K := K) rv e
      rcases hp with hp | hp
      · exact .inl ⟨vs, hp, by rw [isEmpty_rel rs]⟩
      · exact .inr (.inl ⟨vs, hp, by rw [isEmpty_rel rs]⟩)
  cases v with
  | non => cases h; rw [rel_of_non rv]; rfl
  | bl c => cases h; rw [rel_of_bl rv]; rfl
  | int i => cases h; rw [rel_of_int rv]; rfl
  | str s =>
    rw [rel_of_str rv]
    unfold truB at h
    dsimp only at h
    split at h
    · rename_i hl
      cases h
      exact ⟨hl, rfl⟩
    · cases h
  | _ => exact gen h
theorem st_truth (ha : PE X a (tE g W ca)) (he : ∀ whole, isTrue a X.env whole = (do let v ← whole; standAt a.pos; holding [v] (truthy v))) : PT X a (tT g W (c1 false truD ca)) := by
  refine PT.mono (pt_truth ha he) fun σ H Q q => ?_
  refine tG.one q fun w ρ A env v A1 ρ1 H1 x hg S e S1 r1 q => ?_
  have p := fin_ok S1 q
  unfold truD at p
  cases e : truB A1 v with
  | none => rw [e] at p; exact p.elim
  | some b =>
    rw [e] at p
    obtain ⟨k, hk, p⟩ := p _ (rel_bl b)
    cases hk
    exact ⟨b, truB_ok S1 r1 e, p⟩
/-- a value that is a bool -/
theorem st_val (ha : PE X a (tE g W ca)) (he : ∀ whole, isTrue a X.env whole = (do let v ← whole; standAt a.pos; holding [v] (truthy v)) := by intro _; rfl) : PT X a (tT g W ca) := pt_val ha he

/-! ## built-ins called -/
theorem se_callB {id : String} {r : List V → Hp → VK → Prop} {f : List AV → St → RD} {x : Str} {p : Pos} (fr : Bool) (hc : CallR X (.builtin id) r) (d : DN r f) (hg : Gl X x) (hm : X.mg x = none) (hv : bootBuiltins x = some (.builtin id)) (ha : PA X (e :: es) (tA g W cs)) (hn : x ≠ "__name__" := by decide) (hdb : (x == ("__debug__" : Str)) = false := by decide)
    (he : starEach (e :: es) X.env = (false, eval e X.env) :: starEach es X.env := by rfl) (hpl : (backTo pos (starEach es X.env)).any (·.1) = false := by rfl) : PE X (.Call (.Name x p) (e :: es) [] pos) (tE g W (cN fr f cs)) :=
  PE.mono (pe_callB hc hg hm hv ha hn hdb he hpl) (cN_ok d)
theorem se_callTy {T : String} {r : List V → Hp → VK → Prop} {f : List AV → St → RD} {x : Str} {p : Pos} (fr : Bool) (hc : CallR X (.type T) r) (d : DN r f) (hg : Gl X x) (hm : X.mg x = none) (hv : bootBuiltins x = some (.type T)) (ha : PA X (e :: es) (tA g W cs)) (hn : x ≠ "__name__" := by decide) (hdb : (x == ("__debug__" : Str)) = false := by decide)
    (he : starEach (e :: es) X.env = (false, eval e X.env) :: starEach es X.env := by rfl) (hpl : (backTo pos (starEach es X.env)).any (·.1) = false := by rfl) : PE X (.Call (.Name x p) (e :: es) [] pos) (tE g W (cN fr f cs)) :=
  PE.mono (pe_callTy hc hg hm hv ha hn hdb he hpl) (cN_ok d)
end
end Sx

namespace Sx
open PySem PySem.Spec PyProof.Rows L2
theorem one_rel {w ρ A H} {v : AV} {xs : List V} (r : RelAs w ρ A H [v] xs) : ∃ x, xs = [x] ∧ RelA w ρ A H v x := by
  obtain ⟨x, r', rfl, h1, h2⟩ := r.cons_of
  rw [h2.nil_of]
  exact ⟨x, rfl, h1⟩
theorem two_rel {w ρ A H} {v u : AV} {xs : List V} (r : RelAs w ρ A H [v, u] xs) : ∃ x y, xs = [x, y] ∧ RelA w ρ A H v x ∧ RelA w ρ A H u y := by
  obtain ⟨x, r', rfl, h1, h2⟩ := r.cons_of
  obtain ⟨y, rfl, h3⟩ := one_rel h2
  exact ⟨x, y, rfl, h1, h3⟩
def lenD (vs : List AV) (A : St) : RD := match vs with
  | [.str s] => if s.length ≤ sizeLine then .val (.int s.length) else .bad
  | [v] => match seqOf A v with
    | some xs => .val (.int xs.length)
    | none => .bad
  | _ => .bad
theorem lenD_ok {K : PySem.W.Frag} : DN (fun xs H Q => ∃ x n, xs = [x] ∧ LenV K x H n ∧ Q (.int n) H) lenD := by
  intro w ρ A H env σ vs xs Q S r p
  unfold lenD at p
  split at p
  · split at p
    · rename_i s hl
      obtain ⟨x, rfl, r1⟩ := one_rel r
      rw [rel_of_str r1]
      exact ⟨_, _, rfl, ⟨hl, rfl⟩, p _ (rel_int _)⟩
    · exact p.elim
  · rename_i v hv
    obtain ⟨x, rfl, r1⟩ := one_rel r
    cases e : seqOf A v with
    | none => rw [e] at p; exact p.elim
    | some ys =>
      rw [e] at p
      obtain ⟨a, us, rfl, hp, rs⟩ := S.seqOf (K := K) r1 e
      have q := p _ (rel_int _)
      rw [rs.length] at q
      rcases hp with hp | hp
      · exact ⟨_, _, rfl, .inl ⟨us, hp, rfl⟩, q⟩
      · exact ⟨_, _, rfl, .inr ⟨us, hp, rfl⟩, q⟩
  · exact p.elim
def absD (vs : List AV) (_ : St) : RD := match vs with
  | [.int i] => .val (.int (if i < 0 then -i else i))
  | _ => .bad
theorem absD_ok : DN (fun xs H Q => ∃ i, xs = [.int i] ∧ Q (.int (if i < 0 then -i else i)) H) absD := by
  intro w ρ A H env σ vs xs Q S r p
  unfold absD at p
  split at p
  · obtain ⟨x, rfl, r1⟩ := one_rel r
    rw [rel_of_int r1]
    exact ⟨_, rfl, p _ (rel_int _)⟩
  · exact p.elim
def intD (vs : List AV) (_ : St) : RD := match vs with
  | [.int i] => .val (.int i)
  | [.bl k] => .val (.int (if k then 1 else 0))
  | _ => .bad
theorem intD_ok : DN (fun xs H Q => (∃ i, xs = [.int i] ∧ Q (.int i) H) ∨ ∃ k, xs = [.bl k] ∧ Q (.int (if k then 1 else 0)) H) intD := by
  intro w ρ A H env σ vs xs Q S r p
  unfold intD at p
  split at p
  · obtain ⟨x, rfl, r1⟩ := one_rel r
    rw [rel_of_int r1]
    exact .inl ⟨_, rfl, p _ (rel_int _)⟩
  · obtain ⟨x, rfl, r1⟩ := one_rel r
    rw [rel_of_bl r1]
    exact .inr ⟨_, rfl, p _ (rel_int _)⟩
  · exact p.elim
def listD (vs : List AV) (A : St) : RD := match vs with
  | [v] => match seqOf A v with
    | some xs => .lst xs
    | none => .bad
  | _ => .bad
theorem listD_ok {K : PySem.W.Frag} : DN (fun xs H Q => ∃ p ys, xs = [.ref p] ∧ (SqL K H p ys ∨ SqT K H p ys) ∧ ∀ l, H l = none → Q (.ref l) (upd H l (.lst ys))) listD := by
  intro w ρ A H env σ vs xs Q S r p
  unfold listD at p
  split at p
  · rename_i v
    obtain ⟨x, rfl, r1⟩ := one_rel r
    cases e : seqOf A v with
    | none => rw [e] at p; exact p.elim
    | some ys =>
      rw [e] at p
      obtain ⟨a, us, rfl, hp, rs⟩ := S.seqOf (K := K) r1 e
      exact ⟨a, us, rfl, hp, fun l hl => p l _ hl rs⟩
  · exact p.elim
def tupleD (vs : List AV) (A : St) : RD := match vs with
  | [.tup xs] => .val (.tup xs)
  | [v] => match listOf A v with
    | some xs => .tup xs
    | none => .bad
  | _ => .bad
theorem tupleD_ok {K : PySem.W.Frag} : DN (fun xs H Q => ∃ p ys, xs = [.ref p] ∧ ((SqL K H p ys ∧ ∀ l, H l = none → Q (.ref l) (upd H l (.tup ys))) ∨ (SqT K H p ys ∧ Q (.ref p) H))) tupleD := by
  intro w ρ A H env σ vs xs Q S r p
  unfold tupleD at p
  split at p
  · obtain ⟨x, rfl, r1⟩ := one_rel r
    obtain ⟨a, us, rfl, hp, rs⟩ := r1.tupOf
    exact ⟨a, us, rfl, .inr ⟨SqT.of hp, p _ r1⟩⟩
  · rename_i v hv
    obtain ⟨x, rfl, r1⟩ := one_rel r
    cases e : listOf A v with
    | none => rw [e] at p; exact p.elim
    | some ys =>
      rw [e] at p
      obtain ⟨a, us, rfl, hp, rs⟩ := S.listOf r1 e
      exact ⟨a, us, rfl, .inl ⟨SqL.of hp, fun l hl => p l _ hl rs⟩⟩
  · exact p.elim
/-- one list of ints -/
def intsD (f : List Int → Option Int) (vs : List AV) (A : St) : RD := match vs with
  | [v] => match listOf A v with
    | some xs => match intsOf xs with
      | some ns => match f ns with
        | some i => .val (.int i)
        | none => .bad
      | none => .bad
    | none => .bad
  | _ => .bad
theorem intsD_ok {K : PySem.W.Frag} {f : List Int → Option Int} {w ρ A H env σ vs xs Q} (S : Sit w ρ A H env σ) (r : RelAs w ρ A H vs xs) (p : PostD w ρ A H Q (intsD f vs A)) :
    ∃ (a : Addr) (ns : List Int) (m : Int), xs = [V.ref a] ∧ SqL K H a (ns.map V.int) ∧ f ns = some m ∧ Q (.int m) H := by
  unfold intsD at p
  split at p
  · rename_i v
    obtain ⟨x, rfl, r1⟩ := one_rel r
    cases e : listOf A v with
    | none => rw [e] at p; exact p.elim
    | some ys =>
      rw [e] at p
      dsimp only at p
      obtain ⟨a, us, rfl, hp, rs⟩ := S.listOf r1 e
      cases e2 : intsOf ys with
      | none => rw [e2] at p; exact p.elim
      | some ns =>
        rw [e2] at p
        dsimp only at p
        cases e3 : f ns with
        | none => rw [e3] at p; exact p.elim
        | some m =>
          rw [e3] at p
          rw [ints_rel e2 rs] at hp
          exact ⟨a, ns, m, rfl, SqL.of hp, e3, p _ (rel_int _)⟩
  · exact p.elim
def sumD := intsD fun ns => some ns.sum
theorem sumD_ok {K : PySem.W.Frag} : DN (rSum K) sumD := by
  intro w ρ A H env σ vs xs Q S r p
  obtain ⟨a, ns, m, h1, h2, h3, q⟩ := intsD_ok (K := K) S r p
  cases h3
  exact ⟨a, ns, h1, h2, q⟩
def maxD (vs : List AV) (A : St) : RD := match vs with
  | [.int i, .int j] => .val (.int (if j > i then j else i))
  | _ => intsD List.max? vs A
def minD (vs : List AV) (A : St) : RD := match vs with
  | [.int i, .int j] => .val (.int (if j < i then j else i))
  | _ => intsD List.min? vs A
def rMaxX (K : PySem.W.Frag) : List V → Hp → VK → Prop := fun xs H Q => (∃ i j, xs = [.int i, .int j] ∧ Q (.int (if j > i then j else i)) H) ∨ rMax K xs H Q
def rMinX (K : PySem.W.Frag) : List V → Hp → VK → Prop := fun xs H Q => (∃ i j, xs = [.int i, .int j] ∧ Q (.int (if j < i then j else i)) H) ∨ rMin K xs H Q
theorem call_maxX {X : Cx} (hc : X.calm = true) : CallR X (.builtin "max") (rMaxX X.K) := (call_max2 hc).or (cr_max hc)
theorem call_minX {X : Cx} (hc : X.calm = true) : CallR X (.builtin "min") (rMinX X.K) := (call_min2 hc).or (cr_min hc)
theorem maxD_ok {K : PySem.W.Frag} : DN (rMaxX K) maxD := by
  intro w ρ A H env σ vs xs Q S r p
  unfold maxD at p
  split at p
  · obtain ⟨x, y, rfl, r1, r2⟩ := two_rel r
    rw [rel_of_int r1, rel_of_int r2]
    exact .inl ⟨_, _, rfl, p _ (rel_int _)⟩
  · obtain ⟨a, ns, m, h1, h2, h3, q⟩ := intsD_ok (K := K) S r p
    have h4 := List.max?_eq_some_iff.mp h3
    refine .inr ⟨a, ns, h1, h2, List.length_pos_of_mem h4.1, fun m' hm hle => ?_⟩
    have e : m' = m := Int.le_antisymm (h4.2 m' hm) (hle m h4.1)
    rw [e]
    exact q
theorem minD_ok {K : PySem.W.Frag} : DN (rMinX K) minD := by
  intro w ρ A H env σ vs xs Q S r p
  unfold minD at p
  split at p
  · obtain ⟨x, y, rfl, r1, r2⟩ := two_rel r
    rw [rel_of_int r1, rel_of_int r2]
    exact .inl ⟨_, _, rfl, p _ (rel_int _)⟩
  · obtain ⟨a, ns, m, h1, h2, h3, q⟩ := intsD_ok (K := K) S r p
    have h4 := List.min?_eq_some_iff.mp h3
    refine .inr ⟨a, ns, h1, h2, List.length_pos_of_mem h4.1, fun m' hm hle => ?_⟩
    have e : m' = m := Int.le_antisymm (hle m h4.1) (h4.2 m' hm)
    rw [e]
    exact q
def blsD (f : List Bool → Bool) (vs : List AV) (A : St) : RD := match vs with
  | [v] => match listOf A v with
    | some xs => match blsOf xs with
      | some ns => .val (.bl (f ns))
      | none => .bad
    | none => .bad
  | _ => .bad
theorem blsD_ok {K : PySem.W.Frag} {f : List Bool → Bool} : DN (fun vs H Q => ∃ (a : Addr) (bs : List Bool), vs = [V.ref a] ∧ SqL K H a (bs.map V.bl) ∧ Q (.bl (f bs)) H) (blsD f) := by
  intro w ρ A H env σ vs xs Q S r p
  unfold blsD at p
  split at p
  · rename_i v
    obtain ⟨x, rfl, r1⟩ := one_rel r
    cases e : listOf A v with
    | none => rw [e] at p; exact p.elim
    | some ys =>
      rw [e] at p
      dsimp only at p
      obtain ⟨a, us, rfl, hp, rs⟩ := S.listOf r1 e
      cases e2 : blsOf ys with
      | none => rw [e2] at p; exact p.elim
      | some ns =>
        rw [e2] at p
        rw [bls_rel e2 rs] at hp
        exact ⟨a, ns, rfl, SqL.of hp, p _ (rel_bl _)⟩
  · exact p.elim
def allD := blsD fun bs => bs.all id
def anyD := blsD fun bs => bs.any id
theorem allD_ok {K : PySem.W.Frag} : DN (rAll K) allD := blsD_ok
theorem anyD_ok {K : PySem.W.Frag} : DN (rAny K) anyD := blsD_ok
/-- sorted ints -/
def srt (ns : List Int) : List Int := ns.mergeSort fun a b => decide (a ≤ b)
theorem srt_perm (ns : List Int) : (srt ns).Perm ns := List.mergeSort_perm _ _
theorem srt_le (ns : List Int) : (srt ns).Pairwise (· ≤ ·) := (List.pairwise_mergeSort (le := fun a b : Int => decide (a ≤ b)) (by simp; intro a b c; omega) (by simp; intro a b; omega) ns).imp (by simp)
theorem srt_eq {ns ms : List Int} (h : ms.Perm ns) (p : ms.Pairwise (· ≤ ·)) : ms = srt ns :=
  List.Perm.eq_of_pairwise (le := (· ≤ ·)) (fun a b _ _ h1 h2 => Int.le_antisymm h1 h2) p (srt_le ns) (h.trans (srt_perm ns).symm)
def sortedD (vs : List AV) (A : St) : RD := match vs with
  | [v] => match listOf A v with
    | some xs => match intsOf xs with
      | some ns => .lst ((srt ns).map AV.int)
      | none => .bad
    | none => .bad
  | _ => .bad
theorem sortedD_ok {K : PySem.W.Frag} : DN (rSortedI K) sortedD := by
  intro w ρ A H env σ vs xs Q S r p
  unfold sortedD at p
  split at p
  · rename_i v
    obtain ⟨x, rfl, r1⟩ := one_rel r
    cases e : listOf A v with
    | none => rw [e] at p; exact p.elim
    | some ys =>
      rw [e] at p
      dsimp only at p
      obtain ⟨a, us, rfl, hp, rs⟩ := S.listOf r1 e
      cases e2 : intsOf ys with
      | none => rw [e2] at p; exact p.elim
      | some ns =>
        rw [e2] at p
        rw [ints_rel e2 rs] at hp
        refine ⟨a, ns, rfl, SqL.of hp, fun ms q h1 h2 hq => ?_⟩
        rw [srt_eq h1 h2]
        exact p q _ hq (rel_ints _)
  · exact p.elim
def strD (vs : List AV) (_ : St) : RD := match vs with
  | [.int i] => if i.natAbs.log2 < 1920 then .val (.str (toString i)) else .bad
  | _ => .bad
theorem strD_ok : DN (fun xs H Q => ∃ i, xs = [.int i] ∧ i.natAbs.log2 < 1920 ∧ Q (.str (toString i)) H) strD := by
  intro w ρ A H env σ vs xs Q S r p
  unfold strD at p
  split at p
  · split at p
    · rename_i i hi
      obtain ⟨x, rfl, r1⟩ := one_rel r
      rw [rel_of_int r1]
      exact ⟨_, rfl, hi, p _ (rel_str _)⟩
    · exact p.elim
  · exact p.elim

end Sx

namespace Sx
open PySem PySem.Spec PyProof.Rows L2
/-! ## isinstance(x, T), T built in -/
def tyOfA (A : St) : AV → Option String
  | .non => some "NoneType"
  | .bl _ => some "bool"
  | .int _ => some "int"
  | .str _ => some "str"
  | .tup _ => some "tuple"
  | .lst _ _ => some "list"
  | .ref n => match cellAt A n with
    | some (.lst _) => some "list"
    | _ => none
  | _ => none
/-- written so: the type's name, the answers -/
def isiD (T : String) (v : AV) (A : St) : RD := match tyOfA A v with
  | some t => match kitB t T with
    | some b => .val (.bl b)
    | none => .bad
  | none => .bad
def cIsi (T : String) (ca : CE) : CE := c1 false (isiD T) ca
theorem isiD_ok {w ρ A H env σ} {K : PySem.W.Frag} {T : String} {v : AV} {x : V} {Q : VK} (S : Sit w ρ A H env σ) (rv : RelA w ρ A H v x) (p : PostD w ρ A H Q (isiD T v A)) : rIsi K [x, .ty T] H Q := by
  have gen : ∀ t : String, tyOfA A v = some t → TyOf K H x (.type t) → rIsi K [x, .ty T] H Q := fun t et ty => by
    unfold isiD at p
    rw [et] at p
    dsimp only at p
    cases ek : kitB t T with
    | none => rw [ek] at p; exact p.elim
    | some b =>
      rw [ek] at p
      exact ⟨x, .ty T, .type t, .type T, b, rfl, .ty T, .base ty, kit_ty ek, p _ (rel_bl b)⟩
  cases v with
  | non => rw [rel_of_non rv] at gen ⊢; exact gen _ rfl .non
  | bl b => rw [rel_of_bl rv] at gen ⊢; exact gen _ rfl (.bl b)
  | int i => rw [rel_of_int rv] at gen ⊢; exact gen _ rfl (.int i)
  | str s => rw [rel_of_str rv] at gen ⊢; exact gen _ rfl (.str s)
  | tup xs =>
    obtain ⟨a, vs, rfl, hp, _⟩ := rv.tupOf
    exact gen _ rfl (.tup hp)
  | lst f xs =>
    obtain ⟨a, vs, rfl, hp, _⟩ := S.listOf rv (xs := xs) rfl
    exact gen _ rfl (.lst hp)
  | ref n =>
    cases ec : cellAt A n with
    | none =>
      unfold isiD tyOfA at p
      dsimp only at p
      rw [ec] at p
      exact p.elim
    | some c =>
      cases c with
      | lst xs =>
        obtain ⟨a, vs, rfl, hp, _⟩ := S.listOf rv (xs := xs) (by unfold listOf; dsimp only; rw [ec])
        exact gen "list" (by unfold tyOfA; dsimp only; rw [ec]) (.lst hp)
      | dK _ _ =>
        unfold isiD tyOfA at p
        dsimp only at p
        rw [ec] at p
        exact p.elim
      | dT _ _ =>
        unfold isiD tyOfA at p
        dsimp only at p
        rw [ec] at p
        exact p.elim
  | scr _ => exact p.elim
  | exc _ _ => exact p.elim
section
variable {X : Cx} {g : Gb} {W : WX} {e a b : Expr} {es rest : List Expr} {c ca cb : CE} {cs : Env → St → R (List AV)} {pos : Pos} {lo hi : Option Expr} {cl ch : CO}
theorem se_isi {T : String} {x tn : Str} {p p2 : Pos} (hg : Gl X x) (hm : X.mg x = none) (hv : bootBuiltins x = some (.builtin "isinstance")) (ha : PE X a (tE g W ca)) (hgT : Gl X tn) (hmT : X.mg tn = none) (hvT : bootBuiltins tn = some (.type T))
    (hnT : tn ≠ "__name__" := by decide) (hdT : (tn == ("__debug__" : Str)) = false := by decide) (hn : x ≠ "__name__" := by decide) (hdb : (x == ("__debug__" : Str)) = false := by decide)
    (he0 : starEach [.Name tn p2] X.env = (false, eval (.Name tn p2) X.env) :: starEach [] X.env := by rfl)
    (he : starEach [a, .Name tn p2] X.env = (false, eval a X.env) :: starEach [.Name tn p2] X.env := by rfl) (hpl : (backTo pos (starEach [.Name tn p2] X.env)).any (·.1) = false := by rfl) :
    PE X (.Call (.Name x p) [a, .Name tn p2] [] pos) (tE g W (cIsi T ca)) := by
  refine PE.mono (pe_callB call_isi hg hm hv (pa_cons ha (pa_cons (pe_bltn (v := .ty T) hgT hmT hvT rfl hnT hdT) pa_nil he0) he) hn hdb he hpl) fun σ H Q q => ?_
  refine tG.one q fun w ρ A env v A1 ρ1 H1 x hg S e S1 r1 q => ?_
  exact isiD_ok S1 r1 (fin_ok S1 q)
end
end Sx

namespace Sx
open PySem PySem.Spec PyProof.Rows L2
/-! ## methods of lists -/
def DM (r : V → List V → Hp → VK → Prop) (op : AV → List AV → St → RD) : Prop := ∀ (w : Wd) (ρ : Nat → Addr) (A : St) (H : Hp) (env : Env) (σ : L2.St) (v : AV) (vs : List AV) (x : V) (xs : List V) (Q : VK), Sit w ρ A H env σ → RelA w ρ A H v x → RelAs w ρ A H vs xs → PostD w ρ A H Q (op v vs A) → r x xs H Q
/-- o.m(..): o a list; what it gives -/
def cM (fr : Bool) (f : AV → List AV → St → RD) (ca : CE) (cs : Env → St → R (List AV)) : CE := fun env A => bnd (ca env A) fun x A1 => match listOf A1 x with
  | some _ => bnd (cs env A1) fun ys A2 => fin fr (f x ys A2) A2
  | none => .stuck
section
variable {X : Cx} {g : Gb} {W : WX} {e a b : Expr} {es rest : List Expr} {c ca cb : CE} {cs : Env → St → R (List AV)} {pos : Pos}
theorem se_meth {o : Expr} {name : Str} {apos : Pos} {id : String} {r : V → List V → Hp → VK → Prop} {f : AV → List AV → St → RD} (fr : Bool) (slot : Slot "list" name id) (hty : typeOf (.builtin id) = pure (.type "method_descriptor")) (hm : MtR X id r) (d : DM r f) (ho : PE X o (tE g W ca)) (ha : PA X (e :: es) (tA g W cs))
    (hbase : attributeBase o name X.env (eval o X.env) = eval o X.env := by rfl)
    (hfew : ((backTo pos (starEach (e :: es) X.env)).all (fun x => !x.1) && (backToKw pos (keywordEach [] X.env)).all (fun x => x.1.isSome)
      && decide ((e :: es).length + ([] : List Keyword).length + (if ([] : List Keyword).isEmpty then 0 else 1) < 30)) = true := by rfl)
    (hline : (apos.endLine == pos.line) = true := by rfl) (hs : starEach (e :: es) X.env = (false, eval e X.env) :: starEach es X.env := by rfl) (hplain : (backTo pos (starEach es X.env)).any (·.1) = false := by rfl) :
    PE X (.Call (.Attribute o name apos) (e :: es) [] pos) (tE g W (cM fr f ca cs)) := by
  refine PE.mono (pe_bm PySem.F.plainAttrs_list slot hty hm ho ha hbase hfew hline hs hplain) fun σ H Q q => ?_
  refine tG.one q fun w ρ A env v A1 ρ1 H1 x hg S e S1 r1 q => ?_
  cases el : listOf A1 v with
  | none => rw [el] at q; exact q.elim
  | some xs =>
    rw [el] at q
    obtain ⟨p, vs, rfl, hp, _⟩ := S1.listOf r1 el
    refine ⟨.inl ⟨rfl, _, SqL.of hp⟩, ?_⟩
    refine tG.bind hg S1 q fun ys A2 ρ2 H2 y e2 S2 r2 q => ?_
    exact d w ρ2 A2 H2 env σ v ys _ y Q S2 (r1.ext e2) r2 (fin_ok S2 q)
theorem se_meth0 {o : Expr} {name : Str} {apos : Pos} {id : String} {r : V → List V → Hp → VK → Prop} {f : AV → List AV → St → RD} (fr : Bool) (slot : Slot "list" name id) (hty : typeOf (.builtin id) = pure (.type "method_descriptor")) (hm : MtR X id r) (d : DM r f) (ho : PE X o (tE g W ca))
    (hbase : attributeBase o name X.env (eval o X.env) = eval o X.env := by rfl) (hline : (apos.endLine == pos.line) = true := by rfl) :
    PE X (.Call (.Attribute o name apos) [] [] pos) (tE g W (cM fr f ca cNil)) := by
  refine PE.mono (pe_bm0 PySem.F.plainAttrs_list slot hty hm ho hbase hline) fun σ H Q q => ?_
  refine tG.one q fun w ρ A env v A1 ρ1 H1 x hg S e S1 r1 q => ?_
  cases el : listOf A1 v with
  | none => rw [el] at q; exact q.elim
  | some xs =>
    rw [el] at q
    obtain ⟨p, vs, rfl, hp, _⟩ := S1.listOf r1 el
    exact ⟨.inl ⟨rfl, _, SqL.of hp⟩, d w ρ1 A1 H1 env σ v [] _ [] Q S1 r1 RelAs.nil (fin_ok S1 q)⟩
end
section
variable {w : Wd} {ρ : Nat → Addr} {A : St} {H : Hp} {env : Env} {σ : L2.St} {K : PySem.W.Frag}
/-- the cell of a reference -/
theorem Sit.cellOf (S : Sit w ρ A H env σ) {n : Nat} {x : V} {xs : List AV} (r : RelA w ρ A H (.ref n) x) (h : cellAt A n = some (.lst xs)) : x = .ref (ρ n) ∧ ∃ vs, H (ρ n) = some (.lst vs) ∧ RelAs w ρ A H xs vs := by
  unfold RelA at r
  obtain ⟨_, rfl⟩ := r
  obtain ⟨_, ⟨vs, hp, rs⟩, _⟩ := S.cell n _ (cellAt_some h)
  exact ⟨rfl, vs, hp, rs⟩
end
/-- a cell's new content and a value -/
def updD (f : List AV → List AV → St → Option (List AV × AV)) (v : AV) (vs : List AV) (A : St) : RD := match v with
  | .ref n => match cellAt A n with
    | some (.lst xs) => match f xs vs A with
      | some (ys, u) => .set n ys u
      | none => .bad
    | _ => .bad
  | _ => .bad
theorem updD_ok {w ρ A H env σ} {f : List AV → List AV → St → Option (List AV × AV)} {v : AV} {vs : List AV} {x : V} {Q : VK} (S : Sit w ρ A H env σ) (rv : RelA w ρ A H v x) (p : PostD w ρ A H Q (updD f v vs A)) :
    ∃ n xs us ys u, v = .ref n ∧ x = .ref (ρ n) ∧ H (ρ n) = some (.lst us) ∧ RelAs w ρ A H xs us ∧ f xs vs A = some (ys, u) ∧ (∀ z zs, RelA w ρ A H u z → RelAs w ρ A H ys zs → Q z (upd H (ρ n) (.lst zs))) := by
  unfold updD at p
  split at p
  · rename_i n
    split at p
    · rename_i xs e
      split at p
      · rename_i ys u e2
        obtain ⟨h1, us, h2, h3⟩ := S.cellOf rv e
        exact ⟨n, xs, us, ys, u, rfl, h1, h2, h3, e2, p.2⟩
      · exact p.elim
    · exact p.elim
  · exact p.elim
def appendD := updD fun xs vs _ => match vs with
  | [v] => if xs.length < sizeLine then some (xs ++ [v], .non) else none
  | _ => none
theorem appendD_ok : DM rAppend appendD := by
  intro w ρ A H env σ v vs x xs Q S rv rs p
  obtain ⟨n, ys, us, zs, u, rfl, rfl, hp, r1, e, q⟩ := updD_ok S rv p
  split at e
  · split at e
    · rename_i hl
      cases e
      obtain ⟨z, rfl, r2⟩ := one_rel rs
      exact ⟨_, us, z, rfl, rfl, hp, by rw [← r1.length]; exact hl, q _ _ rel_non (r1.append (RelAs.cons r2 RelAs.nil))⟩
    · cases e
  · cases e
def extendD := updD fun xs vs A => match vs with
  | [v] => match listOf A v with
    | some ys => if xs.length + ys.length ≤ sizeLine then some (xs ++ ys, .non) else none
    | none => none
  | _ => none
theorem extendD_ok : DM rExtend extendD := by
  intro w ρ A H env σ v vs x xs Q S rv rs p
  obtain ⟨n, ys, us, zs, u, rfl, rfl, hp, r1, e, q⟩ := updD_ok S rv p
  split at e
  · rename_i v'
    obtain ⟨z, rfl, r2⟩ := one_rel rs
    split at e
    · rename_i ws e2
      obtain ⟨b, ks, rfl, hb, r3⟩ := S.listOf r2 e2
      split at e
      · rename_i hl
        cases e
        exact ⟨_, b, us, ks, rfl, rfl, hp, hb, by rw [← r1.length, ← r3.length]; exact hl, q _ _ rel_non (r1.append r3)⟩
      · cases e
    · cases e
  · cases e
def popD := updD fun xs vs _ => match vs with
  | [] => match xs[xs.length - 1]? with
    | some y => some (xs.dropLast, y)
    | none => none
  | _ => none
theorem popD_ok : DM rPop popD := by
  intro w ρ A H env σ v vs x xs Q S rv rs p
  obtain ⟨n, ys, us, zs, u, rfl, rfl, hp, r1, e, q⟩ := updD_ok S rv p
  split at e
  · split at e
    · rename_i y ey
      cases e
      rw [rs.nil_of]
      obtain ⟨z, hz, r2⟩ := r1.get ey
      rw [r1.length] at hz
      exact ⟨_, us, z, rfl, rfl, hp, hz, q _ _ r2 r1.dropLast⟩
    · cases e
  · cases e
def popAtD := updD fun xs vs _ => match vs with
  | [.int i] => if -(2 ^ 63) ≤ i ∧ i < 2 ^ 63 then match seqIndex? i xs.length with
    | some k => match xs[k]? with
      | some y => some (xs.eraseIdx k, y)
      | none => none
    | none => none else none
  | _ => none
theorem popAtD_ok : DM rPopAt popAtD := by
  intro w ρ A H env σ v vs x xs Q S rv rs p
  obtain ⟨n, ys, us, zs, u, rfl, rfl, hp, r1, e, q⟩ := updD_ok S rv p
  split at e
  · split at e
    · rename_i i hi
      split at e
      · rename_i k ek
        split at e
        · rename_i y ey
          cases e
          obtain ⟨z, rfl, r2⟩ := one_rel rs
          obtain ⟨z', hz, r3⟩ := r1.get ey
          exact ⟨_, us, i, k, z', rfl, by rw [rel_of_int r2], hp, hi.1, hi.2, by rw [← r1.length]; exact ek, hz, q _ _ r3 (r1.eraseIdx k)⟩
        · cases e
      · cases e
    · cases e
  · cases e
def insertD := updD fun xs vs _ => match vs with
  | [.int i, y] => if xs.length < sizeLine ∧ 0 ≤ i ∧ i < 2 ^ 63 then some (xs.take i.toNat ++ [y] ++ xs.drop i.toNat, .non) else none
  | _ => none
theorem insertD_ok : DM (fun x vs H Q => ∃ (l : Addr) (xs : List V) (i : Int) (y : V), x = .ref l ∧ vs = [.int i, y] ∧ H l = some (.lst xs) ∧ xs.length < sizeLine ∧ 0 ≤ i ∧ i < 2 ^ 63 ∧
    Q .non (upd H l (.lst (xs.take i.toNat ++ [y] ++ xs.drop i.toNat)))) insertD := by
  intro w ρ A H env σ v vs x xs Q S rv rs p
  obtain ⟨n, ys, us, zs, u, rfl, rfl, hp, r1, e, q⟩ := updD_ok S rv p
  split at e
  · split at e
    · rename_i i y hi
      cases e
      obtain ⟨a, z, rfl, r2, r3⟩ := two_rel rs
      exact ⟨_, us, i, z, rfl, by rw [rel_of_int r2], hp, by rw [← r1.length]; exact hi.1, hi.2.1, hi.2.2, q _ _ rel_non (((r1.take _).append (RelAs.cons r3 RelAs.nil)).append (r1.drop _))⟩
    · cases e
  · cases e
/-- of a list of ints -/
def indexD (v : AV) (vs : List AV) (A : St) : RD := match vs with
  | [.int k] => match listOf A v with
    | some xs => match intsOf xs with
      | some ns => match ns.findIdx? (· == k) with
        | some j => .val (.int (j : Nat))
        | none => .bad
      | none => .bad
    | none => .bad
  | _ => .bad
theorem flat_ints (ns : List Int) : (ns.map V.int).all flatV = true := by
  rw [List.all_map]
  exact List.all_eq_true.mpr fun _ _ => rfl
theorem indexD_ok {K : PySem.W.Frag} : DM (rIndex K) indexD := by
  intro w ρ A H env σ v vs x xs Q S rv rs p
  unfold indexD at p
  split at p
  · rename_i k
    obtain ⟨z, rfl, r2⟩ := one_rel rs
    rw [rel_of_int r2]
    split at p
    · rename_i ys e
      obtain ⟨b, us, rfl, hb, r3⟩ := S.listOf rv e
      split at p
      · rename_i ns e2
        rw [ints_rel e2 r3] at hb
        split at p
        · rename_i j e3
          obtain ⟨h1, h2, h3⟩ := List.findIdx?_eq_some_iff_getElem.mp e3
          refine ⟨b, _, .int k, j, .int ns[j], rfl, rfl, SqL.of hb, rfl, flat_ints ns, ?_, ?_, fun m z' hm hz => ?_, p _ (rel_int _)⟩
          · rw [List.getElem?_map, List.getElem?_eq_getElem h1]; rfl
          · exact h2
          · rw [List.getElem?_map, List.getElem?_eq_getElem (by omega)] at hz
            cases hz
            have := h3 m hm
            simpa [eqV] using this
        · exact p.elim
      · exact p.elim
    · exact p.elim
  · exact p.elim
def countD (v : AV) (vs : List AV) (A : St) : RD := match vs with
  | [.int k] => match listOf A v with
    | some xs => match intsOf xs with
      | some ns => .val (.int (ns.count k : Nat))
      | none => .bad
    | none => .bad
  | _ => .bad
theorem countD_ok {K : PySem.W.Frag} : DM (rCntI K) countD := by
  intro w ρ A H env σ v vs x xs Q S rv rs p
  unfold countD at p
  split at p
  · rename_i k
    obtain ⟨z, rfl, r2⟩ := one_rel rs
    rw [rel_of_int r2]
    split at p
    · rename_i ys e
      obtain ⟨b, us, rfl, hb, r3⟩ := S.listOf rv e
      split at p
      · rename_i ns e2
        rw [ints_rel e2 r3] at hb
        exact ⟨b, ns, k, rfl, rfl, SqL.of hb, p _ (rel_int _)⟩
      · exact p.elim
    · exact p.elim
  · exact p.elim
end Sx

namespace Sx
open PySem PySem.Spec PyProof.Rows L2
/-! ## statements -/
abbrev CS := Env → St → RS
def PSat (w : Wd) (W : WX) (D : Ends) : RS → Prop
  | .nx e A => ∀ ρ H σ, Sit w ρ A H e σ → D.nx σ H
  | .bk e A => ∀ ρ H σ, Sit w ρ A H e σ → D.bk σ H
  | .ct e A => ∀ ρ H σ, Sit w ρ A H e σ → D.ct σ H
  | .rt v e A => ∀ ρ H σ x, Sit w ρ A H e σ → RelA w ρ A H v x → D.rt x H
  | .exc c xs e A => ∀ ρ H σ C d, Sit w ρ A H e σ → ExcR w ρ A H c xs C d → W C d σ H
  | .stuck => False
def tS (g : Gb) (W : WX) (c : CS) : TS := fun D σ H => ∃ w ρ A env, w.g = g ∧ Sit w ρ A H env σ ∧ PSat w W D (c env A)
theorem PS.mono {X : Cx} {e : Stmt} {t t' : TS} (h : PS X e t) (k : ∀ D σ H, t' D σ H → t D σ H) : PS X e t' := ⟨fun pins s σ H D I q => h.run pins s σ H D I (k D σ H q)⟩
theorem PSs.mono {X : Cx} {e : List Stmt} {t t' : TS} (h : PSs X e t) (k : ∀ D σ H, t' D σ H → t D σ H) : PSs X e t' := ⟨fun pins s σ H D I q => h.run pins s σ H D I (k D σ H q)⟩
/-- an expression within a statement -/
def sB {α : Type} (r : R α) (env : Env) (k : α → St → RS) : RS := match r with
  | .ok v A => k v A
  | .exc c xs A => .exc c xs env A
  | .stuck => .stuck
section
variable {α β : Type} {rl : Rel α β} {w : Wd} {ρ ρ' : Nat → Addr} {A A' : St} {H H' : Hp} {env : Env} {σ : L2.St} {g : Gb} {W : WX} {D : Ends}
theorem tG.stmt {c : Env → St → R α} {k : α → St → RS} {P : β → Hp → Prop} (hg : w.g = g) (S : Sit w ρ A H env σ) (h : PSat w W D (sB (c env A) env k))
    (hk : ∀ v A1 ρ1 H1 x, Ext ρ A H ρ1 A1 H1 → Sit w ρ1 A1 H1 env σ → rl w ρ1 A1 H1 v x → PSat w W D (k v A1) → P x H1) : tG rl g W c σ H P := by
  refine ⟨w, ρ, A, env, hg, S, ?_⟩
  cases e : c env A with
  | ok v A1 =>
    rw [e] at h
    exact fun ρ1 H1 x e1 S1 r => hk v A1 ρ1 H1 x e1 S1 r h
  | exc n xs A1 =>
    rw [e] at h
    exact fun ρ1 H1 C d e1 S1 r => h ρ1 H1 σ C d S1 r
  | stuck => rw [e] at h; exact h
end
def sSkip : CS := fun env A => .nx env A
def sSeq (a b : CS) : CS := fun env A => match a env A with
  | .nx e A' => b e A'
  | r => r
def sExpr (c : CE) : CS := fun env A => sB (c env A) env fun _ A' => .nx env A'
def sSet (i : Nat) (c : CE) : CS := fun env A => sB (c env A) env fun v A' => .nx (env.set i (some v)) A'
def sRet (c : CE) : CS := fun env A => sB (c env A) env fun v A' => .rt v env A'
def sRetN : CS := fun env A => .rt .non env A
def sBreak : CS := fun env A => .bk env A
def sCont : CS := fun env A => .ct env A
def sIf (t : CE) (a b : CS) : CS := fun env A => sB (t env A) env fun v A' => match v with
  | .bl true => a env A'
  | .bl false => b env A'
  | _ => .stuck
section
variable {X : Cx} {g : Gb} {W : WX} {e a b : Expr} {es rest : List Expr} {c ca cb ct : CE} {cs : Env → St → R (List AV)} {pos : Pos} {st : Stmt} {sts sts2 : List Stmt} {k k2 : CS}
theorem sss_nil : PSs X [] (tS g W sSkip) := PSs.mono pss_nil fun D σ H q => by
  obtain ⟨w, ρ, A, env, hg, S, q⟩ := q
  exact q ρ H σ S
theorem sss_cons (h1 : PS X st (tS g W k)) (h2 : PSs X sts (tS g W k2)) : PSs X (st :: sts) (tS g W (sSeq k k2)) := PSs.mono (pss_cons h1 h2) fun D σ H q => by
  obtain ⟨w, ρ, A, env, hg, S, q⟩ := q
  refine ⟨w, ρ, A, env, hg, S, ?_⟩
  unfold sSeq at q
  cases e : k env A with
  | nx e1 A1 =>
    rw [e] at q
    exact fun ρ1 H1 σ1 S1 => ⟨w, ρ1, A1, e1, hg, S1, q⟩
  | bk e1 A1 => rw [e] at q; exact q
  | ct e1 A1 => rw [e] at q; exact q
  | rt v e1 A1 => rw [e] at q; exact q
  | exc n xs e1 A1 => rw [e] at q; exact q
  | stuck => rw [e] at q; exact q
theorem sss_one (h1 : PS X st (tS g W k)) : PSs X [st] (tS g W k) := pss_one h1
theorem ss_pass : PS X (.Pass pos) (tS g W sSkip) := PS.mono ps_pass fun D σ H q => by
  obtain ⟨w, ρ, A, env, hg, S, q⟩ := q
  exact q ρ H σ S
theorem ss_doc {x j p2} : PS X (.Expr (.Constant (.str x) j pos) p2) (tS g W sSkip) := PS.mono ps_doc fun D σ H q => by
  obtain ⟨w, ρ, A, env, hg, S, q⟩ := q
  exact q ρ H σ S
theorem ss_break : PS X (.Break pos) (tS g W sBreak) := PS.mono ps_break fun D σ H q => by
  obtain ⟨w, ρ, A, env, hg, S, q⟩ := q
  exact q ρ H σ S
theorem ss_continue : PS X (.Continue pos) (tS g W sCont) := PS.mono ps_continue fun D σ H q => by
  obtain ⟨w, ρ, A, env, hg, S, q⟩ := q
  exact q ρ H σ S
theorem ss_expr (he : PE X e (tE g W c)) (hs : swapsWith e none pos.line X.env = pure false := by rfl) : PS X (.Expr e pos) (tS g W (sExpr c)) := PS.mono (ps_expr he hs) fun D σ H q => by
  obtain ⟨w, ρ, A, env, hg, S, q⟩ := q
  exact tG.stmt hg S q fun v A1 ρ1 H1 x e S1 r q => q ρ1 H1 σ S1
theorem ss_ret (he : PE X e (tE g W c)) : PS X (.Return (some e) pos) (tS g W (sRet c)) := PS.mono (ps_ret he) fun D σ H q => by
  obtain ⟨w, ρ, A, env, hg, S, q⟩ := q
  exact tG.stmt hg S q fun v A1 ρ1 H1 x e S1 r q => q ρ1 H1 σ x S1 r
theorem ss_retN : PS X (.Return none pos) (tS g W sRetN) := PS.mono ps_retN fun D σ H q => by
  obtain ⟨w, ρ, A, env, hg, S, q⟩ := q
  exact q ρ H σ _ S rel_non
theorem ss_if {t : Expr} (ht : PT X t (tT g W ct)) (ha : PSs X sts (tS g W k)) (hb : PSs X sts2 (tS g W k2)) : PS X (.If t sts sts2 pos) (tS g W (sIf ct k k2)) := PS.mono (ps_if ht ha hb) fun D σ H q => by
  obtain ⟨w, ρ, A, env, hg, S, q⟩ := q
  refine tG.stmt hg S q fun v A1 ρ1 H1 x e S1 r q => ?_
  cases v with
  | bl b =>
    refine ⟨b, rel_of_bl r, ?_⟩
    cases b with
    | true => exact iteT ⟨w, ρ1, A1, env, hg, S1, q⟩
    | false => exact iteF ⟨w, ρ1, A1, env, hg, S1, q⟩
  | _ => exact q.elim

/-! ### targets -/
theorem Sit.setE {w ρ A H env σ} {v : AV} {x : V} (S : Sit w ρ A H env σ) (r : RelA w ρ A H v x) (i : Nat) : Sit w ρ A H (env.set i (some v)) (σ.set i (some x)) :=
  ⟨S.keep, S.mono, S.fb, S.inj, S.cell, S.lo, S.ins, S.pend, S.env.set r i⟩
theorem Sit.killE {w ρ A H env σ} (S : Sit w ρ A H env σ) (i : Nat) : Sit w ρ A H (env.set i none) σ :=
  ⟨S.keep, S.mono, S.fb, S.inj, S.cell, S.lo, S.ins, S.pend, S.env.kill i⟩
/-- what an assignment to a target does -/
abbrev CG := AV → Env → St → Option (Env × St)
def GR (g : Gb) (t : TG) (c : CG) : Prop := ∀ (w : Wd) (ρ : Nat → Addr) (A : St) (H : Hp) (env : Env) (σ : L2.St) (v : AV) (x : V) (Q : L2.St → Hp → Prop) (e' : Env) (A' : St), w.g = g → Sit w ρ A H env σ → RelA w ρ A H v x → c v env A = some (e', A') →
  (∀ ρ' H' σ', Ext ρ A H ρ' A' H' → Sit w ρ' A' H' e' σ' → Q σ' H') → t x σ H Q
def SG (X : Cx) (g : Gb) (target : Expr) (c : CG) : Prop := ∃ t, PG X target t ∧ GR g t c
def gN (i : Nat) : CG := fun v env A => some (env.set i (some v), A)
theorem sg_name {i : Nat} {x : Str} (hN : X.N.Nodup) (hi : X.N[i]? = some x) (hx : Loc X.env.scope x) (hf : X.fn x = true ∨ X.env.scope.names.lookup x = some .local := by first | exact .inl rfl | exact .inr rfl | assumption) : SG X g (.Name x pos) (gN i) :=
  ⟨_, pg_name hN hi hx hf, fun w ρ A H env σ v x Q e' A' hg S r h q => by
    cases h
    exact q ρ H _ Ext.refl (S.setE r i)⟩
abbrev CGs := List AV → Env → St → Option (Env × St)
def GRs (g : Gb) (t : TGs) (c : CGs) : Prop := ∀ (w : Wd) (ρ : Nat → Addr) (A : St) (H : Hp) (env : Env) (σ : L2.St) (v : List AV) (x : List V) (Q : L2.St → Hp → Prop) (e' : Env) (A' : St), w.g = g → Sit w ρ A H env σ → RelAs w ρ A H v x → c v env A = some (e', A') →
  (∀ ρ' H' σ', Ext ρ A H ρ' A' H' → Sit w ρ' A' H' e' σ' → Q σ' H') → t x σ H Q
def SGs (X : Cx) (g : Gb) (ts : List Expr) (c : CGs) : Prop := ∃ t, PGs X ts t ∧ GRs g t c
def gNl : CGs := fun vs env A => match vs with
  | [] => some (env, A)
  | _ => none
def gCn (c : CG) (cs : CGs) : CGs := fun vs env A => match vs with
  | v :: r => match c v env A with
    | some (e1, A1) => cs r e1 A1
    | none => none
  | [] => none
theorem sgs_nil : SGs X g [] gNl := ⟨_, pgs_nil, fun w ρ A H env σ v x Q e' A' hg S r h q => by
  cases v with
  | nil =>
    cases h
    exact ⟨r.nil_of, q ρ H _ Ext.refl S⟩
  | cons _ _ => cases h⟩
theorem sgs_cons {c1 : CG} {cs1 : CGs} (h1 : SG X g e c1) (h2 : SGs X g es cs1) (hs : (assignEach (e :: es) X.env).map (·.2) = assign e X.env :: (assignEach es X.env).map (·.2) := by rfl) : SGs X g (e :: es) (gCn c1 cs1) := by
  obtain ⟨t1, p1, r1⟩ := h1
  obtain ⟨t2, p2, r2⟩ := h2
  refine ⟨_, pgs_cons p1 p2 hs, fun w ρ A H env σ v x Q e' A' hg S r h q => ?_⟩
  cases v with
  | nil => cases h
  | cons v vs =>
    obtain ⟨y, ys, rfl, ra, rb⟩ := r.cons_of
    unfold gCn at h
    dsimp only at h
    cases e1 : c1 v env A with
    | none => rw [e1] at h; cases h
    | some pr =>
      obtain ⟨ee, AA⟩ := pr
      rw [e1] at h
      exact ⟨y, ys, rfl, r1 w ρ A H env σ v y _ ee AA hg S ra e1 fun ρ1 H1 σ1 x1 S1 => r2 w ρ1 AA H1 ee σ1 vs ys Q e' A' hg S1 (rb.ext x1) h fun ρ2 H2 σ2 x2 S2 => q ρ2 H2 σ2 (x1.trans x2) S2⟩
/-- a, b = a tuple of that length -/
def gTp (n : Nat) (cs : CGs) : CG := fun v env A => match v with
  | .tup xs => if xs.length = n then cs xs env A else none
  | _ => none
theorem sg_tup {kk : Nat} {n : Nat} {cs1 : CGs} (hc : X.calm = true) (h : SGs X g es cs1) (hn : (assignEach es X.env).length = n := by rfl) (hst : (assignEach es X.env).findIdx? (·.1) = none := by rfl) : SG X g (.Tuple es kk pos) (gTp n cs1) := by
  obtain ⟨t2, p2, r2⟩ := h
  refine ⟨_, pg_tup hc p2 hn hst, fun w ρ A H env σ v x Q e' A' hg S r h q => ?_⟩
  cases v with
  | tup xs =>
    unfold gTp at h
    dsimp only at h
    split at h
    · rename_i hl
      obtain ⟨p, vs, rfl, hp, rs⟩ := r.tupOf
      exact ⟨p, vs, rfl, SqT.of hp, by rw [← rs.length]; exact hl, r2 w ρ A H env σ xs vs Q e' A' hg S rs h q⟩
    · cases h
  | _ => cases h
def sAsg (c : CE) (tg : CG) : CS := fun env A => sB (c env A) env fun v A' => match tg v env A' with
  | some (e1, A1) => .nx e1 A1
  | none => .stuck
theorem ss_asg {tg : Expr} {c1 : CG} (he : PE X e (tE g W c)) (hg : SG X g tg c1) (hs : swapsWithSole [tg] e pos.line X.env = pure false := by rfl) (hw : swappedStores [tg] e X.env = pure none := by rfl) (h1 : (assignEach [tg] X.env).map (·.2) = [assign tg X.env] := by rfl) : PS X (.Assign [tg] e pos) (tS g W (sAsg c c1)) := by
  obtain ⟨t1, p1, r1⟩ := hg
  refine PS.mono (ps_asg he p1 hs hw h1) fun D σ H q => ?_
  obtain ⟨w, ρ, A, env, hg, S, q⟩ := q
  refine tG.stmt hg S q fun v A1 ρ1 H1 x e S1 r q => ?_
  cases e1 : c1 v env A1 with
  | none => rw [e1] at q; exact q.elim
  | some pr =>
    obtain ⟨ee, AA⟩ := pr
    rw [e1] at q
    exact r1 w ρ1 A1 H1 env σ v x D.nx ee AA hg S1 r e1 fun ρ2 H2 σ2 x2 S2 => q ρ2 H2 σ2 S2
theorem ss_set {i : Nat} {x : Str} {p2 : Pos} (hN : X.N.Nodup) (hi : X.N[i]? = some x) (hx : Loc X.env.scope x) (he : PE X e (tE g W c)) (hs : swapsWith e (some (.Name x p2)) pos.line X.env = pure false := by rfl)
    (hf : X.fn x = true ∨ X.env.scope.names.lookup x = some .local := by first | exact .inl rfl | exact .inr rfl | assumption) : PS X (.Assign [.Name x p2] e pos) (tS g W (sSet i c)) := by
  refine PS.mono (ps_set hN hi hx he hs hf) fun D σ H q => ?_
  obtain ⟨w, ρ, A, env, hg, S, q⟩ := q
  exact tG.stmt hg S q fun v A1 ρ1 H1 x e S1 r q => q ρ1 H1 _ (S1.setE r i)
/-- a, b = e1, e2 -/
def sPar (i j : Nat) (cs : Env → St → R (List AV)) : CS := fun env A => sB (cs env A) env fun vs A' => match vs with
  | [v, u] => .nx ((env.set i (some v)).set j (some u)) A'
  | _ => .stuck
theorem ss_par {i j : Nat} {x y : Str} (hc : X.calm = true) (hN : X.N.Nodup) (hi : X.N[i]? = some x) (hj : X.N[j]? = some y) (hij : i ≠ j) (h : PA X [a, b] (tA g W cs)) (p : ∀ {ta : TA}, PA X [a, b] ta → PS X st (tPar i j ta)) : PS X st (tS g W (sPar i j cs)) := by
  refine PS.mono (p h) fun D σ H q => ?_
  obtain ⟨w, ρ, A, env, hg, S, q⟩ := q
  refine tG.stmt hg S q fun v A1 ρ1 H1 x e S1 r q => ?_
  cases v with
  | nil => exact q.elim
  | cons v1 v =>
    cases v with
    | nil => exact q.elim
    | cons v2 v =>
      cases v with
      | nil =>
        obtain ⟨z1, z2, rfl, r1, r2⟩ := two_rel r
        exact ⟨z1, z2, rfl, q ρ1 H1 _ ((S1.setE r1 i).setE r2 j)⟩
      | cons _ _ => exact q.elim
/-! ### o[i] = e -/
def setAt (o iv v : AV) (A : St) : Option St := match o, iv with
  | .ref n, .int k => match cellAt A n with
    | some (.lst xs) => match ixN xs.length k with
      | some j => some ⟨A.c.set n (some (.lst (xs.set j v))), A.lo⟩
      | none => none
    | _ => none
  | _, _ => none
theorem setAt_ok {w ρ A H env σ} {o iv v : AV} {xo xi x : V} {A' : St} {Q : Hp → Prop} (S : Sit w ρ A H env σ) (ro : RelA w ρ A H o xo) (ri : RelA w ρ A H iv xi) (rv : RelA w ρ A H v x) (h : setAt o iv v A = some A')
    (q : ∀ H', Ext ρ A H ρ A' H' → Sit w ρ A' H' env σ → Q H') : rSetL xo xi x H Q := by
  unfold setAt at h
  split at h
  · rename_i n k
    split at h
    · rename_i xs ec
      split at h
      · rename_i j ej
        cases h
        obtain ⟨rfl, vs, hp, rs⟩ := S.cellOf ro ec
        obtain ⟨e1, S1⟩ := S.setCell (cellAt_some ec) (rs.set rv j)
        exact ⟨_, vs, k, j, rfl, rel_of_int ri, hp, by rw [← rs.length]; exact ej, q _ e1 S1⟩
      · cases h
    · cases h
  · cases h
def sSetAt (cv co ci : CE) : CS := fun env A => sB (cv env A) env fun v A1 => sB (co env A1) env fun o A2 => sB (ci env A2) env fun i A3 => match setAt o i v A3 with
  | some A4 => .nx env A4
  | none => .stuck
theorem ss_setAt {o i : Expr} {tpos : Pos} {cv co ci : CE} (he : PE X e (tE g W cv)) (ho : PE X o (tE g W co)) (hi : PE X i (tE g W ci)) (p : ∀ {t1 t2 : TE}, PE X o t1 → PE X i t2 → PG X (.Subscript o i tpos) (gSub t1 t2 rSetL)) (hs : swapsWithSole [.Subscript o i tpos] e pos.line X.env = pure false := by rfl)
    (hw : swappedStores [.Subscript o i tpos] e X.env = pure none := by rfl) : PS X (.Assign [.Subscript o i tpos] e pos) (tS g W (sSetAt cv co ci)) := by
  refine PS.mono (ps_asg he (p ho hi) hs hw) fun D σ H q => ?_
  obtain ⟨w, ρ, A, env, hg, S, q⟩ := q
  refine tG.stmt hg S q fun v A1 ρ1 H1 x e S1 r1 q => ?_
  refine tG.stmt hg S1 q fun o A2 ρ2 H2 xo e2 S2 r2 q => ?_
  refine tG.stmt hg S2 q fun i A3 ρ3 H3 xi e3 S3 r3 q => ?_
  cases es : setAt o i v A3 with
  | none => rw [es] at q; exact q.elim
  | some A4 =>
    rw [es] at q
    exact setAt_ok S3 (r2.ext e3) r3 ((r1.ext e2).ext e3) es fun H' e4 S4 => q ρ3 H' σ S4
/-! ### x op= e, o[i] op= e -/
def DI (r : TIp) (op : AV → AV → St → RD) : Prop := D2 r op
def sAug (i : Nat) (op : AV → AV → St → RD) (c : CE) : CS := fun env A => match env[i]? with
  | some (some v) => sB (c env A) env fun u A1 => sB (fin false (op v u A1) A1) env fun z A2 => .nx (env.set i (some z)) A2
  | _ => .stuck
theorem fin_stmt {w ρ A H env σ D} {d : RD} {k : AV → St → RS} {Q : VK} (S : Sit w ρ A H env σ) (h : PSat w W D (sB (fin false d A) env k))
    (hk : ∀ z A1 ρ1 H1 x, Ext ρ A H ρ1 A1 H1 → Sit w ρ1 A1 H1 env σ → RelA w ρ1 A1 H1 z x → PSat w W D (k z A1) → Q x H1) : PostD w ρ A H Q d := by
  refine fin_ok (b := false) (E := fun _ _ _ => True) S ?_
  cases e : fin false d A with
  | ok v A1 =>
    rw [e] at h
    exact fun ρ1 H1 x e1 S1 r => hk v A1 ρ1 H1 x e1 S1 r h
  | exc n xs A1 => exact trivial
  | stuck => rw [e] at h; exact h
theorem ss_aug {i : Nat} {x : Str} {o : Operator} {r : TIp} {f : AV → AV → St → RD} {p2 : Pos} (hN : X.N.Nodup) (hi : X.N[i]? = some x) (hx : Loc X.env.scope x) (he : PE X e (tE g W c)) (ho : PIp X o r) (d : D2 r f)
    (p : ∀ {te : TE}, PE X e te → PS X st (tAug i te r)) : PS X st (tS g W (sAug i f c)) := by
  refine PS.mono (p he) fun D σ H q => ?_
  obtain ⟨w, ρ, A, env, hg, S, q⟩ := q
  unfold sAug at q
  cases ei : env[i]? with
  | none => rw [ei] at q; exact q.elim
  | some ov =>
    cases ov with
    | none => rw [ei] at q; exact q.elim
    | some v =>
      rw [ei] at q
      obtain ⟨xv, hxv, rv⟩ := S.env.get ei
      refine ⟨xv, hxv, tG.stmt hg S q fun u A1 ρ1 H1 y e S1 r1 q => ?_⟩
      exact d w ρ1 A1 H1 env σ v u xv y _ S1 (rv.ext e) r1 (fin_stmt S1 q fun z A2 ρ2 H2 xz e2 S2 r2 q => q ρ2 H2 _ (S2.setE r2 i))
def getAt (o iv : AV) (A : St) : Option AV := match o, iv with
  | .ref n, .int k => match cellAt A n with
    | some (.lst xs) => atI xs k
    | _ => none
  | _, _ => none
theorem getAt_ok {w ρ A H env σ} {K : PySem.W.Frag} {o iv v : AV} {xo xi : V} {Q : VK} (S : Sit w ρ A H env σ) (ro : RelA w ρ A H o xo) (ri : RelA w ρ A H iv xi) (h : getAt o iv A = some v) (q : ∀ z, RelA w ρ A H v z → Q z H) : rIxL K xo xi H Q := by
  unfold getAt at h
  split at h
  · rename_i n k
    split at h
    · rename_i xs ec
      obtain ⟨rfl, vs, hp, rs⟩ := S.cellOf ro ec
      obtain ⟨z', hz, rz⟩ := atI_rel rs h
      exact ⟨_, vs, k, z', rfl, rel_of_int ri, SqL.of hp, hz, q _ rz⟩
    · cases h
  · cases h
def sAugAt (op : AV → AV → St → RD) (co ci c : CE) : CS := fun env A => sB (co env A) env fun o A1 => sB (ci env A1) env fun i A2 => match getAt o i A2 with
  | some x => sB (c env A2) env fun y A4 => sB (fin false (op x y A4) A4) env fun z A5 => match setAt o i z A5 with
    | some A6 => .nx env A6
    | none => .stuck
  | none => .stuck
theorem get_ix {X : Cx} : PGet X (rIxL X.K) := by
  intro pins s σ H o i ov iv Q I ro ri h
  obtain ⟨p, xs, k, z, rfl, rfl, hq, he, q⟩ := h
  cases ro
  obtain ⟨t, rfl⟩ := ri
  obtain ⟨its, r, pl, hz⟩ := I.list hq
  obtain ⟨j, h1, h2, h3, h4, h5⟩ := atI_get he
  obtain ⟨w, ew, rw'⟩ := r.get h2
  have hl := r.length
  have hn := line63
  have fin : EP X pins σ Q w s := ⟨z, H, I, rw', q⟩
  by_cases h0 : 0 ≤ k
  · have hj : k.toNat = j := by
      rw [seqIndex_of h0 h5] at h1
      exact Option.some.inj h1
    exact wpAny_getItem_list pl.isList h0 (by omega) (by rw [hj]; simpa using ew) fin
  · have hj : (k + (its.toArray.size : Int)).toNat = j := by
      rw [seqIndex_neg (by omega) h4] at h1
      rw [List.size_toArray, ← hl]
      exact Option.some.inj h1
    exact wpAny_getItem_list_neg pl.isList (by omega) (by rw [List.size_toArray] <;> omega) (by omega) (by rw [hj]; simpa using ew) fin
theorem ss_augAt {o i : Expr} {tpos : Pos} {co ci : CE} {op : Operator} {r : TIp} {f : AV → AV → St → RD} (ho : PE X o (tE g W co)) (hi : PE X i (tE g W ci)) (he : PE X e (tE g W c)) (hp : PIp X op r) (d : D2 r f)
    (ha : ∀ ov iv new, augStore i ov iv new = (do holding [new, ov, iv] (setItem ov iv new); release [new, ov, iv] []; pure .next) := by intros; rfl) : PS X (.AugAssign (.Subscript o i tpos) op e pos) (tS g W (sAugAt f co ci c)) := by
  refine PS.mono (ps_augS ho hi get_ix he hp set_list ha) fun D σ H q => ?_
  obtain ⟨w, ρ, A, env, hg, S, q⟩ := q
  refine tG.stmt hg S q fun o A1 ρ1 H1 xo e1 S1 r1 q => ?_
  refine tG.stmt hg S1 q fun i A2 ρ2 H2 xi e2 S2 r2 q => ?_
  cases eg : getAt o i A2 with
  | none => rw [eg] at q; exact q.elim
  | some x =>
    rw [eg] at q
    refine getAt_ok S2 (r1.ext e2) r2 eg fun xv rx => ?_
    refine tG.stmt hg S2 q fun y A3 ρ3 H3 xy e3 S3 r3 q => ?_
    refine d w ρ3 A3 H3 env σ x y xv xy _ S3 (rx.ext e3) r3 (fin_stmt S3 q fun z A4 ρ4 H4 xz e4 S4 r4 q => ?_)
    cases es : setAt o i z A4 with
    | none => rw [es] at q; exact q.elim
    | some A5 =>
      rw [es] at q
      exact setAt_ok S4 (((r1.ext e2).ext e3).ext e4) ((r2.ext e3).ext e4) r4 es fun H' e5 S5 => q ρ4 H' σ S5
end
end Sx

namespace Sx
open PySem PySem.Spec PyProof.Rows L2
/-! ## worlds that differ in what is pending, in what is forbidden -/
def Wd.pd (w : Wd) (pd : List (AV × V)) : Wd := { w with pend := pd ++ w.pend }
section
variable {w : Wd} {ρ ρ' : Nat → Addr} {A A' : St} {H H' : Hp} {env : Env} {σ : L2.St} {g : Gb} {W : WX} {D : Ends} {pd : List (AV × V)}
/-- a relation that only asks less of the lists' places -/
theorem RelA.world {w' : Wd} (hg : w'.g = w.g) (h0 : w'.H0 = w.H0) (hc : w'.cur = w.cur) : ∀ {v : AV} {x : V}, (∀ p vs, H p = some (.lst vs) → ¬ w.Fb p → ¬ w'.Fb p) → RelA w ρ A H v x → RelA w' ρ A H v x := by
  have key : ∀ n : Nat, (∀ v : AV, sizeOf v < n → ∀ x, (∀ p vs, H p = some (.lst vs) → ¬ w.Fb p → ¬ w'.Fb p) → RelA w ρ A H v x → RelA w' ρ A H v x) ∧ (∀ vs : List AV, sizeOf vs < n → ∀ xs, (∀ p vs, H p = some (.lst vs) → ¬ w.Fb p → ¬ w'.Fb p) → RelAs w ρ A H vs xs → RelAs w' ρ A H vs xs) := by
    intro n
    induction n with
    | zero => exact ⟨fun v h => absurd h (Nat.not_lt_zero _), fun v h => absurd h (Nat.not_lt_zero _)⟩
    | succ n ih =>
      refine ⟨fun v hv x k r => ?_, fun vs hv xs k r => ?_⟩
      · cases v with
        | tup xs =>
          unfold RelA at r ⊢
          obtain ⟨p, vs, rfl, hp, hl, rs⟩ := r
          exact ⟨p, vs, rfl, hp, hl, ih.2 xs (by simp at hv; omega) vs k rs⟩
        | lst f xs =>
          unfold RelA at r ⊢
          obtain ⟨p, vs, rfl, hp, hl, hf, hfl, rs⟩ := r
          exact ⟨p, vs, rfl, hp, hl, k p vs hp hf, by rw [h0]; exact hfl, ih.2 xs (by simp at hv; omega) vs k rs⟩
        | exc c xs =>
          unfold RelA at r ⊢
          obtain ⟨a, d, fs, vs, e1, rfl, hd, hl, e2, e3, rs⟩ := r
          exact ⟨a, d, fs, vs, by rw [hg]; exact e1, rfl, hd, hl, by rw [hg]; exact e2, by rw [hg]; exact e3, ih.2 xs (by simp at hv; omega) vs k rs⟩
        | scr ns =>
          unfold RelA at r ⊢
          rw [hg]
          exact r
        | _ => unfold RelA at r ⊢; exact r
      · cases vs with
        | nil => unfold RelAs at r ⊢; exact r
        | cons v vs =>
          obtain ⟨y, ys, rfl, r1, r2⟩ := r.cons_of
          exact RelAs.cons (ih.1 v (by simp at hv; omega) y k r1) (ih.2 vs (by simp at hv; omega) ys k r2)
  intro v x k r
  exact (key (sizeOf v + 1)).1 v (Nat.lt_succ_self _) x k r
theorem RelAs.world {w' : Wd} (hg : w'.g = w.g) (h0 : w'.H0 = w.H0) (hc : w'.cur = w.cur) : ∀ {v : List AV} {x : List V}, (∀ p vs, H p = some (.lst vs) → ¬ w.Fb p → ¬ w'.Fb p) → RelAs w ρ A H v x → RelAs w' ρ A H v x
  | [], _, _, r => by rw [r.nil_of]; exact RelAs.nil
  | v :: vs, _, k, r => by
    obtain ⟨y, ys, rfl, r1, r2⟩ := r.cons_of
    exact RelAs.cons (RelA.world hg h0 hc k r1) (RelAs.world hg h0 hc k r2)
theorem cellW {w' : Wd} {p : Addr} {c : Cell} (hg : w'.g = w.g) (h0 : w'.H0 = w.H0) (hc : w'.cur = w.cur) (k : ∀ p vs, H p = some (.lst vs) → ¬ w.Fb p → ¬ w'.Fb p) (r : CellR w ρ A H p c) : CellR w' ρ A H p c := by
  cases c with
  | lst xs => obtain ⟨vs, h1, h2⟩ := r; exact ⟨vs, h1, h2.world hg h0 hc k⟩
  | dK ks xs => obtain ⟨vs, h1, h2, h3, h4⟩ := r; exact ⟨vs, h1, h2, h3, h4.world hg h0 hc k⟩
  | dT ks xs => obtain ⟨vs, h1, h2, h3, h4⟩ := r; exact ⟨vs, h1, h2, h3, h4.world hg h0 hc k⟩
theorem EnvR.world {w' : Wd} (hg : w'.g = w.g) (h0 : w'.H0 = w.H0) (hc : w'.cur = w.cur) (k : ∀ p vs, H p = some (.lst vs) → ¬ w.Fb p → ¬ w'.Fb p) (r : EnvR w ρ A H env σ) : EnvR w' ρ A H env σ :=
  ⟨r.1, fun i v q => let ⟨x, h1, h2⟩ := r.2 i v q; ⟨x, h1, h2.world hg h0 hc k⟩⟩
theorem pdR {v : AV} {x : V} (r : RelA w ρ A H v x) : RelA (w.pd pd) ρ A H v x := r.world (w := w) (w' := w.pd pd) rfl rfl rfl fun _ _ _ h => h
theorem unpdR {v : AV} {x : V} (r : RelA (w.pd pd) ρ A H v x) : RelA w ρ A H v x := r.world (w := w.pd pd) (w' := w) rfl rfl rfl fun _ _ _ h => h
theorem Sit.toPd (S : Sit w ρ A H env σ) (h : ∀ q ∈ pd, below A.lo q.1 = true ∧ RelA w ρ A H q.1 q.2) : Sit (w.pd pd) ρ A H env σ :=
  ⟨S.keep, S.mono, S.fb, S.inj, fun n c e => let ⟨h1, h2, h3⟩ := S.cell n c e; ⟨h1, cellW (w := w) (w' := w.pd pd) rfl rfl rfl (fun _ _ _ h => h) h2, h3⟩, S.lo, S.ins, fun p hp => by
    rcases List.mem_append.mp hp with hp | hp
    · exact ⟨(h p hp).1, pdR (h p hp).2⟩
    · exact ⟨(S.pend p hp).1, pdR (S.pend p hp).2⟩, S.env.world (w := w) (w' := w.pd pd) rfl rfl rfl fun _ _ _ h => h⟩
theorem Sit.unpd (S : Sit (w.pd pd) ρ A H env σ) : Sit w ρ A H env σ :=
  ⟨S.keep, S.mono, S.fb, S.inj, fun n c e => let ⟨h1, h2, h3⟩ := S.cell n c e; ⟨h1, cellW (w := w.pd pd) (w' := w) rfl rfl rfl (fun _ _ _ h => h) h2, h3⟩, S.lo, S.ins, fun p hp => by
    obtain ⟨h1, h2⟩ := S.pend p (List.mem_append_right _ hp)
    exact ⟨h1, unpdR h2⟩, S.env.world (w := w.pd pd) (w' := w) rfl rfl rfl fun _ _ _ h => h⟩
theorem unpdX {c : Nat} {xs : List AV} {C : Value} {d : Option Addr} (r : ExcR (w.pd pd) ρ A H c xs C d) : ExcR w ρ A H c xs C d := by
  obtain ⟨d', fs, vs, h1, h2, h3, h4, h5, h6, h7⟩ := r
  exact ⟨d', fs, vs, h1, h2, h3, h4, h5, h6, h7.world (w := w.pd pd) (w' := w) rfl rfl rfl fun _ _ _ h => h⟩
def killL : List Nat → Env → Env
  | [], e => e
  | i :: is, e => (killL is e).set i none
theorem Sit.killL (S : Sit w ρ A H env σ) : ∀ is : List Nat, Sit w ρ A H (Sx.killL is env) σ
  | [] => S
  | i :: is => (Sit.killL S is).killE i
end
def sKill (is : List Nat) : CS := fun env A => .nx (killL is env) A

/-! ## what is walked -/
/-- the items are those of the iterator while pd stands -/
def ItR (items : List AV) (J : It) (pd : List (AV × V)) : Prop := ∀ (w : Wd) (ρ : Nat → Addr) (A : St) (H : Hp) (env : Env) (σ : L2.St), Sit w ρ A H env σ → (∀ q ∈ pd, q ∈ w.pend) → ∀ i : Nat,
  (items.length ≤ i → J.stop i H) ∧ ∀ v, items[i]? = some v → J.go i H ∧ ∀ x H', J.yld i H x H' → Ext ρ A H ρ A H' ∧ Sit w ρ A H' env σ ∧ RelA w ρ A H' v x
abbrev CI := Env → St → R (List AV)
def tI (g : Gb) (W : WX) (c : CI) : TI := fun σ H R => ∃ w ρ A env, w.g = g ∧ Sit w ρ A H env σ ∧ satE (c env A) (fun items A' => ∀ ρ' H' J pd, Ext ρ A H ρ' A' H' → Sit w ρ' A' H' env σ → ItR items J pd → (∀ q ∈ pd, below A'.lo q.1 = true ∧ RelA w ρ' A' H' q.1 q.2) → R J H') (PX1 w ρ A H env σ W)
theorem PI.mono {X : Cx} {tg it : Expr} {t t' : TI} (h : PI X tg it t) (k : ∀ σ H R, t' σ H R → t σ H R) : PI X tg it t' := ⟨fun pins s σ H R I q => h.run pins s σ H R I (k σ H R q)⟩
/-- the first part of an iterator's expression -/
theorem tI.one {g : Gb} {W : WX} {α β : Type} {rl : Rel α β} {c : Env → St → R α} {k : Env → α → St → R (List AV)} {σ : L2.St} {H : Hp} {R : It → Hp → Prop} {P : β → Hp → Prop} (h : tI g W (fun env A => bnd (c env A) (k env)) σ H R)
    (hk : ∀ w ρ1 A1 env H1 v x, w.g = g → Sit w ρ1 A1 H1 env σ → rl w ρ1 A1 H1 v x →
      satE (k env v A1) (fun items A' => ∀ ρ' H' J pd, Ext ρ1 A1 H1 ρ' A' H' → Sit w ρ' A' H' env σ → ItR items J pd → (∀ q ∈ pd, below A'.lo q.1 = true ∧ RelA w ρ' A' H' q.1 q.2) → R J H') (PX1 w ρ1 A1 H1 env σ W) → P x H1) : tG rl g W c σ H P := by
  obtain ⟨w, ρ, A, env, hg, S, q⟩ := h
  refine ⟨w, ρ, A, env, hg, S, ?_⟩
  dsimp only at q
  cases e : c env A with
  | ok v A1 =>
    rw [e] at q
    exact fun ρ1 H1 x e1 S1 r => hk w ρ1 A1 env H1 v x hg S1 r (satE.imp q (fun _ _ p ρ' H' J pd e2 => p ρ' H' J pd (e1.trans e2)) fun _ _ _ p => p.ext e1)
  | exc n xs A1 => rw [e] at q; exact q
  | stuck => rw [e] at q; exact q
theorem lst_any {w ρ A H} {f : Fl} {xs : List AV} {x : V} (r : RelA w ρ A H (.lst f xs) x) : RelA w ρ A H (.lst .any xs) x := by
  unfold RelA at r ⊢
  obtain ⟨p, vs, rfl, h1, h2, h3, _, h5⟩ := r
  exact ⟨p, vs, rfl, h1, h2, h3, trivial, h5⟩
theorem itr_list {K : PySem.W.Frag} {xs : List AV} {p : Addr} : ItR xs (Itl K p) [(.lst .any xs, .ref p)] := by
  intro w ρ A H env σ S hp i
  obtain ⟨_, r⟩ := S.pend _ (hp _ (List.mem_singleton.mpr rfl))
  obtain ⟨p', vs, e, hv, rs⟩ := S.listOf r (xs := xs) rfl
  cases e
  refine ⟨fun hl => ⟨vs, SqL.of hv, by rw [← rs.length]; exact hl⟩, fun v hx => ?_⟩
  obtain ⟨x, hx', rx⟩ := rs.get hx
  refine ⟨⟨vs, x, SqL.of hv, hx'⟩, fun y H' hy => ?_⟩
  obtain ⟨rfl, hy⟩ := hy
  have e : x = y := Option.some.inj (hx'.symm.trans (hy vs (SqL.of hv)))
  subst e
  exact ⟨Ext.refl, S, rx⟩
theorem itr_tup {K : PySem.W.Frag} {xs : List AV} {p : Addr} : ItR xs (Itt K p) [(.tup xs, .ref p)] := by
  intro w ρ A H env σ S hp i
  obtain ⟨_, r⟩ := S.pend _ (hp _ (List.mem_singleton.mpr rfl))
  obtain ⟨p', vs, e, hv, rs⟩ := r.tupOf
  cases e
  refine ⟨fun hl => ⟨vs, SqT.of hv, by rw [← rs.length]; exact hl⟩, fun v hx => ?_⟩
  obtain ⟨x, hx', rx⟩ := rs.get hx
  refine ⟨⟨vs, x, SqT.of hv, hx'⟩, fun y H' hy => ?_⟩
  obtain ⟨rfl, hy⟩ := hy
  have e : x = y := Option.some.inj (hx'.symm.trans (hy vs (SqT.of hv)))
  subst e
  exact ⟨Ext.refl, S, rx⟩
/-- a frozen list whose cells may be named below lo -/
def iLst (ca : CE) : CI := fun env A => bnd (ca env A) fun v A1 => match v with
  | .lst _ xs => if belows A1.lo xs = true then .ok xs A1 else .stuck
  | _ => .stuck
def iTupl (ca : CE) : CI := fun env A => bnd (ca env A) fun v A1 => match v with
  | .tup xs => if belows A1.lo xs = true then .ok xs A1 else .stuck
  | _ => .stuck
section
variable {X : Cx} {g : Gb} {W : WX} {tg e a b : Expr} {es rest : List Expr} {c ca cb ct : CE} {cs : Env → St → R (List AV)} {pos : Pos} {st : Stmt} {sts sts2 : List Stmt} {k k2 : CS}
theorem below_lst {m : Nat} {f : Fl} {xs : List AV} (h : belows m xs = true) : below m (.lst f xs) = true := by unfold below; exact h
theorem below_tup {m : Nat} {xs : List AV} (h : belows m xs = true) : below m (.tup xs) = true := by unfold below; exact h
theorem si_lst (ha : PE X a (tE g W ca)) : PI X tg a (tI g W (iLst ca)) := PI.mono (pi_list ha) fun σ H R q => by
  refine tI.one q fun w ρ1 A1 env H1 v x hg S r q => ?_
  cases v with
  | lst f xs =>
    dsimp only at q
    split at q
    · rename_i hb
      obtain ⟨p, vs, rfl, hv, rs⟩ := S.listOf r (xs := xs) rfl
      refine ⟨p, rfl, ⟨vs, SqL.of hv⟩, q ρ1 H1 _ _ Ext.refl S itr_list fun y hy => ?_⟩
      rw [List.mem_singleton.mp hy]
      exact ⟨below_lst hb, lst_any r⟩
    · exact q.elim
  | _ => exact q.elim
theorem si_tup (ha : PE X a (tE g W ca)) : PI X tg a (tI g W (iTupl ca)) := PI.mono (pi_tup ha) fun σ H R q => by
  refine tI.one q fun w ρ1 A1 env H1 v x hg S r q => ?_
  cases v with
  | tup xs =>
    dsimp only at q
    split at q
    · rename_i hb
      obtain ⟨p, vs, rfl, hv, rs⟩ := r.tupOf
      refine ⟨p, rfl, ⟨vs, SqT.of hv⟩, q ρ1 H1 _ _ Ext.refl S itr_tup fun y hy => ?_⟩
      rw [List.mem_singleton.mp hy]
      exact ⟨below_tup hb, r⟩
    · exact q.elim
  | _ => exact q.elim
/-! ### ranges -/
def rngL (lo c : Int) : Nat → List AV
  | n => (List.range n).map fun i => AV.int (lo + (i : Nat) * c)
theorem itr_rng {lo : Int} {n : Nat} : ItR (rngL lo 1 n) (Itr lo n) [] := by
  intro w ρ A H env σ S hp i
  refine ⟨fun hl => (show n ≤ i by simpa [rngL] using hl), fun v hx => ?_⟩
  have hi : i < n := by
    have := (List.getElem?_eq_some_iff.mp hx).1
    simpa [rngL] using this
  refine ⟨hi, fun y H' hy => ?_⟩
  obtain ⟨rfl, rfl⟩ := hy
  have e : v = .int (lo + (i : Nat) * 1) := by
    rw [rngL, List.getElem?_map, List.getElem?_range hi] at hx
    exact (Option.some.inj hx).symm
  subst e
  rw [Int.mul_one]
  exact ⟨Ext.refl, S, rel_int _⟩
theorem itr_rngC {lo c : Int} {n : Nat} : ItR (rngL lo c n) (Itc lo c n) [] := by
  intro w ρ A H env σ S hp i
  refine ⟨fun hl => (show n ≤ i by simpa [rngL] using hl), fun v hx => ?_⟩
  have hi : i < n := by
    have := (List.getElem?_eq_some_iff.mp hx).1
    simpa [rngL] using this
  refine ⟨hi, fun y H' hy => ?_⟩
  obtain ⟨rfl, rfl⟩ := hy
  have e : v = .int (lo + (i : Nat) * c) := by
    rw [rngL, List.getElem?_map, List.getElem?_range hi] at hx
    exact (Option.some.inj hx).symm
  subst e
  exact ⟨Ext.refl, S, rel_int _⟩
def iRng1 (cs : Env → St → R (List AV)) : CI := fun env A => bnd (cs env A) fun vs A1 => match vs with
  | [.int j] => if -(2 ^ 62) ≤ j ∧ j < 2 ^ 62 then .ok (rngL 0 1 j.toNat) A1 else .stuck
  | _ => .stuck
def iRng2 (cs : Env → St → R (List AV)) : CI := fun env A => bnd (cs env A) fun vs A1 => match vs with
  | [.int i, .int j] => if -(2 ^ 62) ≤ i ∧ i < 2 ^ 62 ∧ -(2 ^ 62) ≤ j ∧ j < 2 ^ 62 then .ok (rngL i 1 (j - i).toNat) A1 else .stuck
  | _ => .stuck
def iRng3 (cs : Env → St → R (List AV)) : CI := fun env A => bnd (cs env A) fun vs A1 => match vs with
  | [.int i, .int j, .int c] => if c = -1 then (if -(2 ^ 62) ≤ i ∧ i < 2 ^ 62 ∧ -(2 ^ 62) ≤ j ∧ j < 2 ^ 62 then .ok (rngL i (-1) (i - j).toNat) A1 else .stuck) else
      if c ≠ 0 ∧ c.natAbs < 1073741824 ∧ Builtin.Range.small i j c = true ∧ 0 ≤ Builtin.Range.rangeSize i j c then .ok (rngL i c (Builtin.Range.rangeSize i j c).toNat) A1 else .stuck
  | _ => .stuck
theorem si_rng1 {p : Pos} (hg : Gl X "range") (hm : X.mg "range" = none) (ha : PA X [a] (tA g W cs)) (hs : starEach [a] X.env = [(false, eval a X.env)] := by rfl) : PI X tg (.Call (.Name "range" p) [a] [] pos) (tI g W (iRng1 cs)) :=
  PI.mono (pi_range1 hg hm ha hs) fun σ H R q => by
    refine tI.one q fun w ρ1 A1 env H1 v x hg S r q => ?_
    split at q
    · split at q
      · rename_i j hj
        obtain ⟨y, rfl, r1⟩ := one_rel r
        rw [rel_of_int r1]
        exact ⟨j, rfl, hj.1, hj.2, q ρ1 H1 _ [] Ext.refl S itr_rng fun y hy => nomatch hy⟩
      · exact q.elim
    · exact q.elim
theorem three_rel {w ρ A H} {v u t : AV} {xs : List V} (r : RelAs w ρ A H [v, u, t] xs) : ∃ x y z, xs = [x, y, z] ∧ RelA w ρ A H v x ∧ RelA w ρ A H u y ∧ RelA w ρ A H t z := by
  obtain ⟨x, r', rfl, h1, h2⟩ := r.cons_of
  obtain ⟨y, z, rfl, h3, h4⟩ := two_rel h2
  exact ⟨x, y, z, rfl, h1, h3, h4⟩
theorem si_rng2 {p : Pos} (hg : Gl X "range") (hm : X.mg "range" = none) (ha : PA X [a, b] (tA g W cs)) (hs : starEach [a, b] X.env = [(false, eval a X.env), (false, eval b X.env)] := by rfl) (hs2 : starEach [b] X.env = [(false, eval b X.env)] := by rfl) : PI X tg (.Call (.Name "range" p) [a, b] [] pos) (tI g W (iRng2 cs)) :=
  PI.mono (pi_range2 hg hm ha hs hs2) fun σ H R q => by
    refine tI.one q fun w ρ1 A1 env H1 v x hg S r q => ?_
    split at q
    · split at q
      · rename_i i j hj
        obtain ⟨y, z, rfl, r1, r2⟩ := two_rel r
        rw [rel_of_int r1, rel_of_int r2]
        exact ⟨i, j, rfl, hj, q ρ1 H1 _ [] Ext.refl S itr_rng fun y hy => nomatch hy⟩
      · exact q.elim
    · exact q.elim
theorem si_rng3 {c3 : Expr} {p : Pos} (hg : Gl X "range") (hm : X.mg "range" = none) (ha : PA X [a, b, c3] (tA g W cs)) (hs : starEach [a, b, c3] X.env = (false, eval a X.env) :: starEach [b, c3] X.env := by rfl) (hpl : (backTo pos (starEach [b, c3] X.env)).any (·.1) = false := by rfl) : PI X tg (.Call (.Name "range" p) [a, b, c3] [] pos) (tI g W (iRng3 cs)) :=
  PI.mono (pi_range3 hg hm ha hs hpl) fun σ H R q => by
    refine tI.one q fun w ρ1 A1 env H1 v x hg S r q => ?_
    split at q
    · rename_i i j c
      obtain ⟨y, z, t, rfl, r1, r2, r3⟩ := three_rel r
      rw [rel_of_int r1, rel_of_int r2, rel_of_int r3]
      split at q
      · rename_i hc
        subst hc
        split at q
        · rename_i hj
          exact ⟨i, j, -1, _, rfl, RgC.neg hj.1 hj.2.1 hj.2.2.1 hj.2.2.2, q ρ1 H1 _ [] Ext.refl S itr_rngC fun y hy => nomatch hy⟩
        · exact q.elim
      · split at q
        · rename_i hj
          exact ⟨i, j, c, _, rfl, ⟨hj.1, hj.2.1, hj.2.2.1, (Int.toNat_of_nonneg hj.2.2.2).symm⟩, q ρ1 H1 _ [] Ext.refl S itr_rngC fun y hy => nomatch hy⟩
        · exact q.elim
    · exact q.elim
/-! ### enumerate, zip, reversed of frozen lists -/
def enmL (xs : List AV) : List AV := xs.mapIdx fun i x => .tup [.int i, x]
theorem Sit.tupOf2 {w ρ A H env σ} (S : Sit w ρ A H env σ) {T : Addr} {v u : AV} {x y : V} (h : H T = none) (r1 : RelA w ρ A H v x) (r2 : RelA w ρ A H u y) : Ext ρ A H ρ A (upd H T (.tup [x, y])) ∧ Sit w ρ A (upd H T (.tup [x, y])) env σ ∧ RelA w ρ A (upd H T (.tup [x, y])) (.tup [v, u]) (.ref T) := by
  obtain ⟨e, S1⟩ := S.new (o := .tup [x, y]) h
  refine ⟨e, S1, ?_⟩
  unfold RelA
  exact ⟨T, [x, y], rfl, upd_same, S.notLive h, RelAs.cons (r1.ext e) (RelAs.cons (r2.ext e) RelAs.nil)⟩
theorem itr_enum {K : PySem.W.Frag} {xs : List AV} {p : Addr} : ItR (enmL xs) (Ite K p) [(.lst .any xs, .ref p)] := by
  intro w ρ A H env σ S hp i
  obtain ⟨_, r⟩ := S.pend _ (hp _ (List.mem_singleton.mpr rfl))
  obtain ⟨p', vs, e, hv, rs⟩ := S.listOf r (xs := xs) rfl
  cases e
  refine ⟨fun hl => ⟨vs, SqL.of hv, by rw [← rs.length]; simpa [enmL] using hl⟩, fun v hx => ?_⟩
  rw [enmL, List.getElem?_mapIdx] at hx
  cases e1 : xs[i]? with
  | none => rw [e1] at hx; cases hx
  | some v0 =>
    rw [e1] at hx
    cases hx
    obtain ⟨x, hx', rx⟩ := rs.get e1
    refine ⟨⟨vs, x, SqL.of hv, hx'⟩, fun y H' hy => ?_⟩
    obtain ⟨T, x1, rfl, hT, rfl, hy⟩ := hy
    have e : x = x1 := Option.some.inj (hx'.symm.trans (hy vs (SqL.of hv)))
    subst e
    exact S.tupOf2 hT (rel_int _) rx
def iEnm (cs : Env → St → R (List AV)) : CI := fun env A => bnd (cs env A) fun vs A1 => match vs with
  | [.lst _ xs] => if belows A1.lo xs = true then .ok (enmL xs) A1 else .stuck
  | _ => .stuck
theorem si_enum {p tpos : Pos} {elts : List Expr} {kk : Nat} (hg : Gl X "enumerate") (hm : X.mg "enumerate" = none) (ha : PA X [a] (tA g W cs)) (hs : starEach [a] X.env = [(false, eval a X.env)] := by rfl) : PI X (.Tuple elts kk tpos) (.Call (.Name "enumerate" p) [a] [] pos) (tI g W (iEnm cs)) :=
  PI.mono (pi_enum hg hm ha hs) fun σ H R q => by
    refine tI.one q fun w ρ1 A1 env H1 v x hg S r q => ?_
    split at q
    · split at q
      · rename_i f xs hb
        obtain ⟨y, rfl, r1⟩ := one_rel r
        obtain ⟨p, vs, rfl, hv, rs⟩ := S.listOf r1 (xs := xs) rfl
        refine ⟨p, vs, rfl, SqL.of hv, q ρ1 H1 _ _ Ext.refl S itr_enum fun y hy => ?_⟩
        rw [List.mem_singleton.mp hy]
        exact ⟨below_lst hb, lst_any r1⟩
      · exact q.elim
    · exact q.elim
def zipL : List AV → List AV → List AV
  | x :: xs, y :: ys => .tup [x, y] :: zipL xs ys
  | _, _ => []
theorem zipL_get : ∀ (xs ys : List AV) (i : Nat), (zipL xs ys)[i]? = match xs[i]?, ys[i]? with | some x, some y => some (.tup [x, y]) | _, _ => none
  | [], ys, i => by simp [zipL]
  | x :: xs, [], i => by
    simp only [zipL, List.getElem?_nil]
    cases (x :: xs)[i]? <;> rfl
  | x :: xs, y :: ys, 0 => rfl
  | x :: xs, y :: ys, i + 1 => by
    have := zipL_get xs ys i
    simpa [zipL] using this
theorem zipL_len : ∀ (xs ys : List AV), (zipL xs ys).length = min xs.length ys.length
  | [], ys => by simp [zipL]
  | x :: xs, [] => by simp [zipL]
  | x :: xs, y :: ys => by simp [zipL, zipL_len xs ys] <;> omega
theorem itr_zip {K : PySem.W.Frag} {xs ys : List AV} {p p2 : Addr} : ItR (zipL xs ys) (Itz K p p2) [(.lst .any xs, .ref p), (.lst .any ys, .ref p2)] := by
  intro w ρ A H env σ S hp i
  obtain ⟨_, r⟩ := S.pend _ (hp _ (List.mem_cons_self))
  obtain ⟨_, r'⟩ := S.pend _ (hp _ (List.mem_cons_of_mem _ (List.mem_singleton.mpr rfl)))
  obtain ⟨p', vs, e, hv, rs⟩ := S.listOf r (xs := xs) rfl
  cases e
  obtain ⟨p', us, e, hu, rs'⟩ := S.listOf r' (xs := ys) rfl
  cases e
  refine ⟨fun hl => ⟨vs, us, SqL.of hv, SqL.of hu, by rw [← rs.length, ← rs'.length]; rw [zipL_len] at hl; omega⟩, fun v hx => ?_⟩
  rw [zipL_get] at hx
  cases e1 : xs[i]? with
  | none => rw [e1] at hx; cases hx
  | some v0 =>
    cases e2 : ys[i]? with
    | none => rw [e1, e2] at hx; cases hx
    | some v1 =>
      rw [e1, e2] at hx
      cases hx
      obtain ⟨x, hx', rx⟩ := rs.get e1
      obtain ⟨y, hy', ry⟩ := rs'.get e2
      refine ⟨⟨vs, us, x, y, SqL.of hv, SqL.of hu, hx', hy'⟩, fun z H' hz => ?_⟩
      obtain ⟨T, x1, y1, rfl, hT, rfl, h1, h2⟩ := hz
      have e : x = x1 := Option.some.inj (hx'.symm.trans (h1 vs (SqL.of hv)))
      subst e
      have e : y = y1 := Option.some.inj (hy'.symm.trans (h2 us (SqL.of hu)))
      subst e
      exact S.tupOf2 hT rx ry
def iZp (cs : Env → St → R (List AV)) : CI := fun env A => bnd (cs env A) fun vs A1 => match vs with
  | [.lst _ xs, .lst _ ys] => if belows A1.lo xs = true ∧ belows A1.lo ys = true then .ok (zipL xs ys) A1 else .stuck
  | _ => .stuck
theorem si_zip {p tpos : Pos} {elts : List Expr} {kk : Nat} (hg : Gl X "zip") (hm : X.mg "zip" = none) (ha : PA X [a, b] (tA g W cs)) (hs : starEach [a, b] X.env = (false, eval a X.env) :: starEach [b] X.env := by rfl) (hpl : (backTo pos (starEach [b] X.env)).any (·.1) = false := by rfl) : PI X (.Tuple elts kk tpos) (.Call (.Name "zip" p) [a, b] [] pos) (tI g W (iZp cs)) :=
  PI.mono (pi_zip hg hm ha hs hpl) fun σ H R q => by
    refine tI.one q fun w ρ1 A1 env H1 v x hg S r q => ?_
    split at q
    · split at q
      · rename_i f xs f2 ys hb
        obtain ⟨y, z, rfl, r1, r2⟩ := two_rel r
        obtain ⟨p, vs, rfl, hv, rs⟩ := S.listOf r1 (xs := xs) rfl
        obtain ⟨p2, us, rfl, hu, rs2⟩ := S.listOf r2 (xs := ys) rfl
        refine ⟨p, p2, vs, us, rfl, SqL.of hv, SqL.of hu, q ρ1 H1 _ _ Ext.refl S itr_zip fun y hy => ?_⟩
        rcases List.mem_cons.mp hy with rfl | hy
        · exact ⟨below_lst hb.1, lst_any r1⟩
        · rw [List.mem_singleton.mp hy]
          exact ⟨below_lst hb.2, lst_any r2⟩
      · exact q.elim
    · exact q.elim
theorem itr_rev {K : PySem.W.Frag} {xs : List AV} {p : Addr} {n : Nat} (hn : n = xs.length) : ItR xs.reverse (Itv K p n) [(.lst .any xs, .ref p)] := by
  subst hn
  intro w ρ A H env σ S hp i
  obtain ⟨_, r⟩ := S.pend _ (hp _ (List.mem_singleton.mpr rfl))
  obtain ⟨p', vs, e, hv, rs⟩ := S.listOf r (xs := xs) rfl
  cases e
  refine ⟨fun hl => (show xs.length ≤ i by simpa using hl), fun v hx => ?_⟩
  have hi : i < xs.length := by simpa using (List.getElem?_eq_some_iff.mp hx).1
  rw [List.getElem?_reverse hi] at hx
  obtain ⟨x, hx', rx⟩ := rs.get hx
  refine ⟨⟨hi, vs, x, SqL.of hv, hx'⟩, fun y H' hy => ?_⟩
  obtain ⟨rfl, hy⟩ := hy
  have e : x = y := Option.some.inj (hx'.symm.trans (hy vs (SqL.of hv)))
  subst e
  exact ⟨Ext.refl, S, rx⟩
def iRv (cs : Env → St → R (List AV)) : CI := fun env A => bnd (cs env A) fun vs A1 => match vs with
  | [.lst _ xs] => if belows A1.lo xs = true then .ok xs.reverse A1 else .stuck
  | _ => .stuck
theorem si_rev {p : Pos} (hg : Gl X "reversed") (hm : X.mg "reversed" = none) (ha : PA X [a] (tA g W cs)) (hs : starEach [a] X.env = [(false, eval a X.env)] := by rfl) : PI X tg (.Call (.Name "reversed" p) [a] [] pos) (tI g W (iRv cs)) :=
  PI.mono (pi_reversed hg hm ha hs) fun σ H R q => by
    refine tI.one q fun w ρ1 A1 env H1 v x hg S r q => ?_
    split at q
    · split at q
      · rename_i f xs hb
        obtain ⟨y, rfl, r1⟩ := one_rel r
        obtain ⟨p, vs, rfl, hv, rs⟩ := S.listOf r1 (xs := xs) rfl
        refine ⟨p, vs, rfl, SqL.of hv, q ρ1 H1 _ _ Ext.refl S (itr_rev rs.length.symm) fun y hy => ?_⟩
        rw [List.mem_singleton.mp hy]
        exact ⟨below_lst hb, lst_any r1⟩
      · exact q.elim
    · exact q.elim
end
end Sx

namespace Sx
open PySem PySem.Spec PyProof.Rows L2
/-! ## for, while -/
def forL (tgt : CG) (body : CS) (dead : List Nat) : List AV → CS
  | [], env, A => .nx env A
  | v :: vs, env, A => match tgt v env A with
    | none => .stuck
    | some (e1, A1) => match body e1 A1 with
      | .nx e2 A2 => forL tgt body dead vs (killL dead e2) A2
      | .ct e2 A2 => forL tgt body dead vs (killL dead e2) A2
      | .bk e2 A2 => .nx (killL dead e2) A2
      | r => r
def sFor (ci : CI) (tgt : CG) (body : CS) (dead : List Nat) : CS := fun env A => sB (ci env A) env fun vs A1 => forL tgt body dead vs env A1
def whileL (t : CE) (body : CS) (dead : List Nat) : Nat → CS
  | 0, _, _ => .stuck
  | n + 1, env, A => sB (t env A) env fun v A1 => match v with
    | .bl true => match body env A1 with
      | .nx e2 A2 => whileL t body dead n (killL dead e2) A2
      | .ct e2 A2 => whileL t body dead n (killL dead e2) A2
      | .bk e2 A2 => .nx (killL dead e2) A2
      | r => r
    | .bl false => .nx (killL dead env) A1
    | _ => .stuck
def sWhile (n : Nat) (t : CE) (body : CS) (dead : List Nat) : CS := fun env A => whileL t body dead n env A
section
variable {w : Wd} {ρ ρ' : Nat → Addr} {A A' : St} {H H' : Hp} {env : Env} {σ : L2.St} {g : Gb} {W : WX} {D : Ends} {pd : List (AV × V)}
theorem loop_end {N : L2.St → Hp → Prop} {dead : List Nat} {r : RS} {k : Env → St → RS}
    (h : PSat w W D (match r with
      | .nx e2 A2 => k (killL dead e2) A2
      | .ct e2 A2 => k (killL dead e2) A2
      | .bk e2 A2 => .nx (killL dead e2) A2
      | r => r))
    (hN : ∀ e A ρ H σ, Sit (w.pd pd) ρ A H e σ → PSat w W D (k e A) → N σ H) :
    PSat (w.pd pd) W { D with nx := N, ct := N, bk := D.nx } r := by
  cases r with
  | nx e A => exact fun ρ H σ S => hN _ A ρ H σ (S.killL dead) h
  | ct e A => exact fun ρ H σ S => hN _ A ρ H σ (S.killL dead) h
  | bk e A => exact fun ρ H σ S => h ρ H σ (S.killL dead).unpd
  | rt v e A => exact fun ρ H σ x S rl => h ρ H σ x S.unpd (unpdR rl)
  | exc c xs e A => exact fun ρ H σ C d S rl => h ρ H σ C d S.unpd (unpdX rl)
  | stuck => exact h
end
section
variable {X : Cx} {g : Gb} {W : WX} {tg e a b it : Expr} {es rest : List Expr} {c ca cb ct : CE} {ci : CI} {cs : Env → St → R (List AV)} {pos : Pos} {st : Stmt} {sts sts2 : List Stmt} {k k2 : CS}
theorem ss_for {c1 : CG} (dead : List Nat) (hp : PassesOwn (model X.prog X.w) X.A X.env X.xe) (hc : X.calm = true) (hi : PI X tg it (tI g W ci)) (hg : SG X g tg c1) (hb : PSs X sts (tS g W k))
    (hs : ∀ x, foldedSetIterable it X.env x = pure x := by intro _; rfl) : PS X (.For tg it sts [] pos) (tS g W (sFor ci c1 k dead)) := by
  obtain ⟨t1, p1, r1⟩ := hg
  refine PS.mono (ps_for hp hc hi p1 hb hs) fun D σ H q => ?_
  obtain ⟨w, ρ, A, env, hg, S, q⟩ := q
  refine ⟨w, ρ, A, env, hg, S, ?_⟩
  unfold sFor at q
  cases ei : ci env A with
  | exc n xs A1 =>
    rw [ei] at q
    exact fun ρ1 H1 C d e1 S1 r => q ρ1 H1 σ C d S1 r
  | stuck => rw [ei] at q; exact q
  | ok items A1 =>
    rw [ei] at q
    intro ρ1 H1 J pd e1 S1 I hpd
    refine ⟨fun i m σ' H' => m = items.length - i ∧ i ≤ items.length ∧ ∃ ρ' A' env', Sit (w.pd pd) ρ' A' H' env' σ' ∧ PSat w W D (forL c1 k dead (items.drop i) env' A'),
      ⟨_, rfl, Nat.zero_le _, ρ1, A1, env, S1.toPd hpd, q⟩, fun i m σ' H' hW => ?_⟩
    obtain ⟨rfl, hi, ρ', A', env', S', q'⟩ := hW
    obtain ⟨I1, I2⟩ := I (w.pd pd) ρ' A' H' env' σ' S' (fun y hy => List.mem_append_left _ hy) i
    by_cases hlt : i < items.length
    · have ed : items.drop i = items[i] :: items.drop (i + 1) := List.drop_eq_getElem_cons hlt
      rw [ed] at q'
      obtain ⟨J1, J2⟩ := I2 items[i] (List.getElem?_eq_getElem hlt)
      refine .inr ⟨J1, fun σ2 H2 => ∃ ρ2 A2 env2, Sit (w.pd pd) ρ2 A2 H2 env2 σ2 ∧ PSat w W D (forL c1 k dead (items.drop (i + 1)) env2 A2), fun σ2 H2 hN => ⟨items.length - (i + 1), by omega, rfl, hlt, hN⟩, fun x H2 hy => ?_⟩
      obtain ⟨e2, S2, rx⟩ := J2 x H2 hy
      unfold forL at q'
      cases et : c1 items[i] env' A' with
      | none => rw [et] at q'; exact q'.elim
      | some pr =>
        obtain ⟨ee, AA⟩ := pr
        rw [et] at q'
        refine r1 (w.pd pd) ρ' A' H2 env' σ' _ x _ ee AA hg S2 rx et fun ρ3 H3 σ3 e3 S3 => ?_
        exact ⟨w.pd pd, ρ3, AA, ee, hg, S3, loop_end q' fun e A ρ H σ S h => ⟨ρ, A, e, S, h⟩⟩
    · have ei' : items.drop i = [] := List.drop_eq_nil_of_le (Nat.le_of_not_lt hlt)
      rw [ei'] at q'
      exact .inl ⟨I1 (Nat.le_of_not_lt hlt), q' ρ' H' σ' S'.unpd⟩
theorem pd_nil (w : Wd) : w.pd [] = w := rfl
theorem ss_while {t : Expr} (n : Nat) (dead : List Nat) (hp : PassesOwn (model X.prog X.w) X.A X.env X.xe) (ht : PT X t (tT g W ct)) (hb : PSs X sts (tS g W k)) : PS X (.While t sts [] pos) (tS g W (sWhile n ct k dead)) := by
  refine PS.mono (ps_while hp ht hb) fun D σ H q => ?_
  obtain ⟨w, ρ, A, env, hg, S, q⟩ := q
  refine ⟨fun m σ' H' => ∃ ρ' A' env', Sit w ρ' A' H' env' σ' ∧ PSat w W D (whileL ct k dead m env' A'), ⟨n, ρ, A, env, S, q⟩, fun m σ' H' hW => ?_⟩
  obtain ⟨ρ', A', env', S', q'⟩ := hW
  cases m with
  | zero => exact q'.elim
  | succ m =>
    unfold whileL at q'
    refine tG.stmt hg S' q' fun v A1 ρ1 H1 x e S1 r q => ?_
    cases v with
    | bl b =>
      refine ⟨b, rel_of_bl r, ?_⟩
      cases b with
      | true =>
        refine iteT ⟨fun σ2 H2 => ∃ ρ2 A2 env2, Sit w ρ2 A2 H2 env2 σ2 ∧ PSat w W D (whileL ct k dead m env2 A2), fun σ2 H2 h => ⟨m, Nat.lt_succ_self _, h⟩, w, ρ1, A1, env', hg, S1, ?_⟩
        exact loop_end (pd := []) q fun e A ρ H σ S h => ⟨ρ, A, e, S, h⟩
      | false => exact iteF (q ρ1 H1 σ' (S1.killL dead))
    | _ => exact q.elim

/-! ## ghosts -/
theorem sss_kill (is : List Nat) (h : PSs X sts (tS g W k)) : PSs X sts (tS g W (sSeq (sKill is) k)) := PSs.mono h fun D σ H q => by
  obtain ⟨w, ρ, A, env, hg, S, q⟩ := q
  exact ⟨w, ρ, A, killL is env, hg, S.killL is, q⟩
end
end Sx

namespace Sx
open PySem PySem.Spec PyProof.Rows L2
/-! ## a new list that is filled step by step -/
def Wd.fbd (w : Wd) (D : Addr) : Wd := { w with Fb := fun a => w.Fb a ∨ a = D }
section
variable {w : Wd} {ρ ρ' : Nat → Addr} {A A' : St} {H H' : Hp} {env : Env} {σ : L2.St} {g : Gb} {D : Addr}
theorem fbdR {v : AV} {x : V} (hD : ∀ vs, H D ≠ some (.lst vs)) (r : RelA w ρ A H v x) : RelA (w.fbd D) ρ A H v x :=
  r.world (w := w) (w' := w.fbd D) rfl rfl rfl fun p vs hp nf hf => by
    rcases hf with hf | rfl
    · exact nf hf
    · exact hD vs hp
theorem unfbdR {v : AV} {x : V} (r : RelA (w.fbd D) ρ A H v x) : RelA w ρ A H v x :=
  r.world (w := w.fbd D) (w' := w) rfl rfl rfl fun p vs hp nf hf => nf (.inl hf)
theorem unfbdRs {v : List AV} {x : List V} (r : RelAs (w.fbd D) ρ A H v x) : RelAs w ρ A H v x :=
  r.world (w := w.fbd D) (w' := w) rfl rfl rfl fun p vs hp nf hf => nf (.inl hf)
/-- a relation carried over where what it leans on stays -/
theorem RelA.move (hn : A.c.length ≤ A'.c.length) (hρ : ∀ n, n < A.c.length → ρ' n = ρ n)
    (k : ∀ p o, H p = some o → ¬ Live A ρ p → (∀ vs, o = .lst vs → ¬ w.Fb p) → H' p = some o ∧ ¬ Live A' ρ' p) : ∀ {v : AV} {x : V}, RelA w ρ A H v x → RelA w ρ' A' H' v x := by
  have key : ∀ n : Nat, (∀ v : AV, sizeOf v < n → ∀ x, RelA w ρ A H v x → RelA w ρ' A' H' v x) ∧ (∀ l : List AV, sizeOf l < n → ∀ xs, RelAs w ρ A H l xs → RelAs w ρ' A' H' l xs) := by
    intro n
    induction n with
    | zero => exact ⟨fun v h => absurd h (Nat.not_lt_zero _), fun v h => absurd h (Nat.not_lt_zero _)⟩
    | succ n ih =>
      refine ⟨fun v hv x r => ?_, fun l hv xs r => ?_⟩
      · cases v with
        | tup xs =>
          unfold RelA at r ⊢
          obtain ⟨p, us, rfl, hp, hl, rs⟩ := r
          obtain ⟨k1, k2⟩ := k p _ hp hl (fun _ e => nomatch e)
          exact ⟨p, us, rfl, k1, k2, ih.2 xs (by simp at hv; omega) us rs⟩
        | lst f xs =>
          unfold RelA at r ⊢
          obtain ⟨p, us, rfl, hp, hl, hf, hfl, rs⟩ := r
          obtain ⟨k1, k2⟩ := k p _ hp hl (fun _ _ => hf)
          exact ⟨p, us, rfl, k1, k2, hf, hfl, ih.2 xs (by simp at hv; omega) us rs⟩
        | ref n =>
          unfold RelA at r ⊢
          obtain ⟨h1, rfl⟩ := r
          exact ⟨Nat.lt_of_lt_of_le h1 hn, by rw [hρ n h1]⟩
        | scr ns =>
          unfold RelA at r ⊢
          obtain ⟨p, rfl, h⟩ := r
          rcases h with ⟨⟨o, hp⟩, hl⟩ | h
          · obtain ⟨k1, k2⟩ := k p _ hp hl (fun _ e => nomatch e)
            exact ⟨p, rfl, .inl ⟨⟨o, k1⟩, k2⟩⟩
          · exact ⟨p, rfl, .inr h⟩
        | exc c xs =>
          unfold RelA at r ⊢
          obtain ⟨a, d, fs, us, e1, rfl, hd, hl, e2, e3, rs⟩ := r
          obtain ⟨k1, k2⟩ := k d _ hd hl (fun _ e => nomatch e)
          exact ⟨a, d, fs, us, e1, rfl, k1, k2, e2, e3, ih.2 xs (by simp at hv; omega) us rs⟩
        | _ => unfold RelA at r ⊢; exact r
      · cases l with
        | nil => unfold RelAs at r ⊢; exact r
        | cons v l =>
          obtain ⟨y, ys, rfl, r1, r2⟩ := r.cons_of
          exact RelAs.cons (ih.1 v (by simp at hv; omega) y r1) (ih.2 l (by simp at hv; omega) ys r2)
  intro v x r
  exact (key (sizeOf v + 1)).1 v (Nat.lt_succ_self _) x r
theorem RelAs.move (hn : A.c.length ≤ A'.c.length) (hρ : ∀ n, n < A.c.length → ρ' n = ρ n)
    (k : ∀ p o, H p = some o → ¬ Live A ρ p → (∀ vs, o = .lst vs → ¬ w.Fb p) → H' p = some o ∧ ¬ Live A' ρ' p) : ∀ {v : List AV} {x : List V}, RelAs w ρ A H v x → RelAs w ρ' A' H' v x
  | [], _, r => by rw [r.nil_of]; exact RelAs.nil
  | v :: l, _, r => by
    obtain ⟨y, ys, rfl, r1, r2⟩ := r.cons_of
    exact RelAs.cons (RelA.move hn hρ k r1) (RelAs.move hn hρ k r2)
theorem cellM {p : Addr} {c : Cell} (hn : A.c.length ≤ A'.c.length) (hρ : ∀ n, n < A.c.length → ρ' n = ρ n)
    (k : ∀ p o, H p = some o → ¬ Live A ρ p → (∀ vs, o = .lst vs → ¬ w.Fb p) → H' p = some o ∧ ¬ Live A' ρ' p) (hp : H' p = H p) (r : CellR w ρ A H p c) : CellR w ρ' A' H' p c := by
  cases c with
  | lst xs => obtain ⟨vs, h1, h2⟩ := r; exact ⟨vs, hp.trans h1, h2.move hn hρ k⟩
  | dK ks xs => obtain ⟨vs, h1, h2, h3, h4⟩ := r; exact ⟨vs, hp.trans h1, h2, h3, h4.move hn hρ k⟩
  | dT ks xs => obtain ⟨vs, h1, h2, h3, h4⟩ := r; exact ⟨vs, hp.trans h1, h2, h3, h4.move hn hρ k⟩
theorem EnvR.move (hn : A.c.length ≤ A'.c.length) (hρ : ∀ n, n < A.c.length → ρ' n = ρ n)
    (k : ∀ p o, H p = some o → ¬ Live A ρ p → (∀ vs, o = .lst vs → ¬ w.Fb p) → H' p = some o ∧ ¬ Live A' ρ' p) (r : EnvR w ρ A H env σ) : EnvR w ρ' A' H' env σ :=
  ⟨r.1, fun i v q => let ⟨x, h1, h2⟩ := r.2 i v q; ⟨x, h1, h2.move hn hρ k⟩⟩
/-- the list at D changes: nobody notices -/
theorem updD_k (hD : ∃ us, H D = some (.lst us)) (hF : w.Fb D) (vs : List V) : ∀ p o, H p = some o → ¬ Live A ρ p → (∀ vs, o = .lst vs → ¬ w.Fb p) → upd H D (.lst vs) p = some o ∧ ¬ Live A ρ p := fun p o h1 h2 h3 => by
  obtain ⟨us, hD⟩ := hD
  refine ⟨?_, h2⟩
  rw [upd_ne]
  · exact h1
  · intro e
    subst e
    rw [hD] at h1
    exact h3 us (Option.some.inj h1).symm hF
theorem RelA.updD (hD : ∃ us, H D = some (.lst us)) (hF : w.Fb D) (vs : List V) {v : AV} {x : V} (r : RelA w ρ A H v x) : RelA w ρ A (upd H D (.lst vs)) v x := r.move (Nat.le_refl _) (fun _ _ => rfl) (updD_k hD hF vs)
theorem RelAs.updD (hD : ∃ us, H D = some (.lst us)) (hF : w.Fb D) (vs : List V) {v : List AV} {x : List V} (r : RelAs w ρ A H v x) : RelAs w ρ A (upd H D (.lst vs)) v x := r.move (Nat.le_refl _) (fun _ _ => rfl) (updD_k hD hF vs)
theorem Sit.updD (S : Sit w ρ A H env σ) (hD : ∃ us, H D = some (.lst us)) (hF : w.Fb D) (h0 : w.H0 D = none) (vs : List V) : Sit w ρ A (upd H D (.lst vs)) env σ := by
  refine ⟨fun a o h n => ?_, fun a h => ?_, fun a h => ?_, S.inj, fun n c e => ?_, S.lo, S.ins, fun p hp => ⟨(S.pend p hp).1, (S.pend p hp).2.updD hD hF vs⟩, ⟨S.env.1, fun i v q => let ⟨x, h1, h2⟩ := S.env.2 i v q; ⟨x, h1, h2.updD hD hF vs⟩⟩⟩
  · rw [upd_ne (fun e => by rw [e, h0] at h; cases h)]
    exact S.keep a o h n
  · by_cases e : a = D
    · rw [e, upd_same]; exact fun z => nomatch z
    · rw [upd_ne e]; exact S.mono a h
  · by_cases e : a = D
    · rw [e, upd_same]; exact fun z => nomatch z
    · rw [upd_ne e]; exact S.fb a h
  · obtain ⟨h1, h2, h3⟩ := S.cell n c e
    have ne : ρ n ≠ D := fun z => h1 (z ▸ hF)
    refine ⟨h1, ?_, h3⟩
    cases c with
    | lst xs => obtain ⟨us, q1, q2⟩ := h2; exact ⟨us, by rw [upd_ne ne]; exact q1, q2.updD hD hF vs⟩
    | dK ks xs => obtain ⟨us, q1, q2, q3, q4⟩ := h2; exact ⟨us, by rw [upd_ne ne]; exact q1, q2, q3, q4.updD hD hF vs⟩
    | dT ks xs => obtain ⟨us, q1, q2, q3, q4⟩ := h2; exact ⟨us, by rw [upd_ne ne]; exact q1, q2, q3, q4.updD hD hF vs⟩
/-- D is laid, empty; the inner world -/
theorem Sit.toFbd (S : Sit w ρ A H env σ) (hD : H D = none) (vs : List V) : Sit (w.fbd D) ρ A (upd H D (.lst vs)) env σ := by
  have nl : ∀ us, H D ≠ some (.lst us) := fun us e => by rw [hD] at e; cases e
  obtain ⟨e1, S1⟩ := S.new (o := .lst vs) hD
  refine ⟨S1.keep, S1.mono, fun a h => ?_, S1.inj, fun n c e => ?_, S1.lo, S1.ins, fun p hp => ?_, ?_⟩
  · rcases h with h | rfl
    · exact S1.fb a h
    · rw [upd_same]; exact fun z => nomatch z
  · obtain ⟨h1, h2, h3⟩ := S.cell n c e
    obtain ⟨o, ho⟩ := h2.some
    have ne : ρ n ≠ D := fun z => by rw [z, hD] at ho; cases ho
    refine ⟨fun z => ?_, ?_, h3⟩
    · rcases z with z | z
      · exact h1 z
      · exact ne z
    · exact (cellW (w := w) (w' := w.fbd D) rfl rfl rfl (fun p vs hp nf hf => by
        rcases hf with hf | rfl
        · exact nf hf
        · exact nl vs hp) h2).ext e1 (upd_ne ne)
  · obtain ⟨h1, h2⟩ := S.pend p hp
    exact ⟨h1, (fbdR nl h2).ext e1⟩
  · exact (S.env.world (w := w) (w' := w.fbd D) rfl rfl rfl fun p vs hp nf hf => by
      rcases hf with hf | rfl
      · exact nf hf
      · exact nl vs hp).ext e1
/-- back in the outer world, with the outer names -/
theorem Sit.unFbd {env0 : Env} {σ0 : L2.St} (S : Sit (w.fbd D) ρ A H env0 σ0) (e : EnvR w ρ A H env σ) : Sit w ρ A H env σ := by
  refine ⟨S.keep, S.mono, fun a h => S.fb a (.inl h), S.inj, fun n c q => ?_, S.lo, S.ins, fun p hp => ⟨(S.pend p hp).1, unfbdR (S.pend p hp).2⟩, e⟩
  obtain ⟨h1, h2, h3⟩ := S.cell n c q
  exact ⟨fun z => h1 (.inl z), cellW (w := w.fbd D) (w' := w) rfl rfl rfl (fun p vs hp nf hf => nf (.inl hf)) h2, h3⟩
/-- names forgotten on both sides -/
theorem wipe_get (σ : L2.St) : ∀ (vs : List Nat) (j : Nat), (wipe σ vs)[j]? = if j ∈ vs ∧ j < σ.length then some none else σ[j]?
  | [], j => by simp [wipe]
  | v :: vs, j => by
    unfold wipe
    by_cases e : v = j
    · subst e
      by_cases hl : v < σ.length
      · rw [List.getElem?_set_self (by rw [wipe_length]; exact hl), if_pos ⟨List.mem_cons_self, hl⟩]
      · rw [List.getElem?_eq_none (by simp [wipe_length]; omega), if_neg (fun h => hl h.2), List.getElem?_eq_none (by omega)]
    · rw [List.getElem?_set_ne e, wipe_get σ vs j]
      have : (j ∈ v :: vs) ↔ j ∈ vs := by simp [Ne.symm e]
      simp only [this]
theorem wipe_wipe (σ : L2.St) (vs : List Nat) : wipe (wipe σ vs) vs = wipe σ vs := by
  apply List.ext_getElem?
  intro j
  rw [wipe_get, wipe_get, wipe_length]
  split <;> rfl
theorem wipe_set (σ : L2.St) (vs : List Nat) (i : Nat) (o : Option V) (h : i ∈ vs) : wipe (σ.set i o) vs = wipe σ vs := by
  apply List.ext_getElem?
  intro j
  rw [wipe_get, wipe_get, List.length_set]
  by_cases e : i = j
  · subst e
    by_cases hl : i < σ.length
    · rw [if_pos ⟨h, hl⟩, if_pos ⟨h, hl⟩]
    · rw [if_neg (fun z => hl z.2), if_neg (fun z => hl z.2), List.getElem?_eq_none (by simp; omega), List.getElem?_eq_none (by omega)]
  · rw [List.getElem?_set_ne e]
theorem EnvR.wipe1 (h : EnvR w ρ A H env σ) (i : Nat) : EnvR w ρ A H (env.set i none) (σ.set i none) := by
  refine ⟨by simp [h.1], fun j u q => ?_⟩
  by_cases e : i = j
  · subst e
    by_cases hi : i < env.length
    · rw [List.getElem?_set_self hi] at q; cases q
    · rw [List.getElem?_eq_none (by simpa using hi)] at q; cases q
  · rw [List.getElem?_set_ne e] at q ⊢
    exact h.2 j u q
theorem Sit.wipe (S : Sit w ρ A H env σ) : ∀ vs : List Nat, Sit w ρ A H (Sx.killL vs env) (L2.wipe σ vs)
  | [] => S
  | v :: vs => let T := Sit.wipe S vs; ⟨T.keep, T.mono, T.fb, T.inj, T.cell, T.lo, T.ins, T.pend, T.env.wipe1 v⟩
end

/-! ## targets that are names -/
def tgs : List Nat → TGs
  | [] => gNil
  | i :: is => gCons (gName i) (tgs is)
def gNs : List Nat → CGs
  | [] => gNl
  | i :: is => gCn (gN i) (gNs is)
def Own (t : TG) (vs : List Nat) : Prop := ∀ x σ H (Q Q' : L2.St → Hp → Prop), t x σ H Q → (∀ σ2 H2, wipe σ2 vs = wipe σ vs → Q σ2 H2 → Q' σ2 H2) → t x σ H Q'
def Owns (t : TGs) (vs : List Nat) : Prop := ∀ x σ H (Q Q' : L2.St → Hp → Prop), t x σ H Q → (∀ σ2 H2, wipe σ2 vs = wipe σ vs → Q σ2 H2 → Q' σ2 H2) → t x σ H Q'
theorem own_name {i : Nat} {vs : List Nat} (h : i ∈ vs) : Own (gName i) vs := fun x σ H Q Q' q k => k _ _ (wipe_set σ vs i _ h) q
theorem owns_names {vs : List Nat} : ∀ {is : List Nat}, (∀ i ∈ is, i ∈ vs) → Owns (tgs is) vs
  | [], _ => fun x σ H Q Q' q k => ⟨q.1, k _ _ rfl q.2⟩
  | i :: is, h => fun x σ H Q Q' q k => by
    obtain ⟨v, r, rfl, q⟩ := q
    refine ⟨v, r, rfl, ?_⟩
    exact owns_names (is := is) (fun j hj => h j (List.mem_cons_of_mem _ hj)) r _ H Q Q' q fun σ2 H2 e q => k σ2 H2 (e.trans (wipe_set σ vs i (some v) (h i List.mem_cons_self))) q
theorem gr_name {g : Gb} {i : Nat} : GR g (gName i) (gN i) := fun w ρ A H env σ v x Q e' A' hg S r h q => by
  cases h
  exact q ρ H _ Ext.refl (S.setE r i)
theorem grs_names {g : Gb} : ∀ is : List Nat, GRs g (tgs is) (gNs is)
  | [] => fun w ρ A H env σ v x Q e' A' hg S r h q => by
    cases v with
    | nil =>
      cases h
      exact ⟨r.nil_of, q ρ H _ Ext.refl S⟩
    | cons _ _ => cases h
  | i :: is => fun w ρ A H env σ v x Q e' A' hg S r h q => by
    cases v with
    | nil => cases h
    | cons v vs =>
      obtain ⟨y, ys, rfl, ra, rb⟩ := r.cons_of
      exact ⟨y, ys, rfl, grs_names is w ρ A H _ _ vs ys Q e' A' hg (S.setE ra i) rb h q⟩
theorem own_tup {K : PySem.W.Frag} {n : Nat} {vs is : List Nat} (h : ∀ i ∈ is, i ∈ vs) : Own (gTup K n (tgs is)) vs := fun x σ H Q Q' q k => by
  obtain ⟨a, xs, rfl, h1, h2, q⟩ := q
  exact ⟨a, xs, rfl, h1, h2, owns_names h xs σ H Q Q' q k⟩
theorem gr_tup {g : Gb} {K : PySem.W.Frag} {n : Nat} {is : List Nat} : GR g (gTup K n (tgs is)) (gTp n (gNs is)) := fun w ρ A H env σ v x Q e' A' hg S r h q => by
  cases v with
  | tup xs =>
    unfold gTp at h
    dsimp only at h
    split at h
    · rename_i hl
      obtain ⟨p, vs, rfl, hp, rs⟩ := r.tupOf
      exact ⟨p, vs, rfl, SqT.of hp, by rw [← rs.length]; exact hl, grs_names is w ρ A H env σ xs vs Q e' A' hg S rs h q⟩
    · cases h
  | _ => cases h

/-! ## comprehensions -/
def compL (tgt : CG) (t elt : CE) (env0 : Env) : List AV → St → R (List AV)
  | [], A => .ok [] A
  | v :: vs, A => match tgt v env0 A with
    | none => .stuck
    | some (e1, A1) => match t e1 A1 with
      | .ok (.bl true) A2 => (match elt e1 A2 with
        | .ok y A3 => (match compL tgt t elt env0 vs A3 with
          | .ok ys A4 => .ok (y :: ys) A4
          | _ => .stuck)
        | _ => .stuck)
      | .ok (.bl false) A2 => compL tgt t elt env0 vs A2
      | _ => .stuck
def cComp (fr : Bool) (ci : CI) (tgt : CG) (t elt : CE) (own : List Nat) : CE := fun env A => bnd (ci env A) fun vs A1 => if vs.length ≤ sizeLine then bnd (compL tgt t elt (killL own env) vs A1) fun ys A2 => fin fr (.lst ys) A2 else .stuck
abbrev WF : WX := fun _ _ _ _ => False
section
variable {w : Wd} {ρ ρ' : Nat → Addr} {A A' : St} {H H' : Hp} {env : Env} {σ : L2.St} {g : Gb} {D : Addr}
/-- the inner world's list becomes a cell of the outer one -/
theorem adopt_k : ∀ p o, H p = some o → ¬ Live A ρ p → (∀ vs, o = .lst vs → ¬ (w.fbd D).Fb p) → (∃ us, H D = some (.lst us)) → ∀ xs, H p = some o ∧ ¬ Live ⟨A.c ++ [some (.lst xs)], A.lo⟩ (rhoNew ρ A.c.length D) p := fun p o h1 h2 h3 hD xs => by
  refine ⟨h1, fun hl => ?_⟩
  obtain ⟨n, c, e, q⟩ := hl
  rcases get_push e with e | ⟨e, _⟩
  · have hn : n < A.c.length := (List.getElem?_eq_some_iff.mp e).1
    refine h2 ⟨n, c, e, ?_⟩
    rw [← q]
    unfold rhoNew
    rw [if_neg (Nat.ne_of_lt hn)]
  · rw [e] at q
    have q' : D = p := by
      unfold rhoNew at q
      rw [if_pos rfl] at q
      exact q
    subst q'
    obtain ⟨us, hD⟩ := hD
    rw [hD] at h1
    exact h3 us (Option.some.inj h1).symm (.inr rfl)
theorem ext_adopt {ρ0 : Nat → Addr} {A0 : St} {H0' : Hp} (h0 : H0' D = none) (e : Ext ρ0 A0 H0' ρ A H) (xs : List AV) : Ext ρ0 A0 H0' (rhoNew ρ A.c.length D) ⟨A.c ++ [some (.lst xs)], A.lo⟩ H where
  len := Nat.le_trans e.len (by simp)
  lo := e.lo
  rho := fun n hn => by
    unfold rhoNew
    rw [if_neg (Nat.ne_of_lt (Nat.lt_of_lt_of_le hn e.len))]
    exact e.rho n hn
  frz := fun a o h n => by
    obtain ⟨h1, h2⟩ := e.frz a o h n
    refine ⟨h1, fun hl => ?_⟩
    obtain ⟨m, c, em, q⟩ := hl
    rcases get_push em with em | ⟨em, _⟩
    · have hm : m < A.c.length := (List.getElem?_eq_some_iff.mp em).1
      refine h2 ⟨m, c, em, ?_⟩
      rw [← q]
      unfold rhoNew
      rw [if_neg (Nat.ne_of_lt hm)]
    · rw [em] at q
      have q' : D = a := by
        unfold rhoNew at q
        rw [if_pos rfl] at q
        exact q
      subst q'
      rw [h0] at h; cases h
  mono := e.mono
/-- the end of a comprehension -/
theorem comp_fin {fr : Bool} {xs : List AV} {vs : List V} {Q : VK} {E : Nat → List AV → St → Prop} {ρ0 : Nat → Addr} {A0 : St} {H0' : Hp} {env0 : Env} {σ0 : L2.St} (h0 : H0' D = none) (S0 : Sit w ρ0 A0 H0' env σ) (e : Ext ρ0 A0 H0' ρ A H)
    (S : Sit (w.fbd D) ρ A H env0 σ0) (hD : H D = some (.lst vs)) (hl : ¬ Live A ρ D) (r : RelAs (w.fbd D) ρ A H xs vs) (h : satE (fin fr (.lst xs) A) (PE1 RelA w ρ0 A0 H0' env σ Q) E) : Q (.ref D) H := by
  have hH0 : w.H0 D = none := S0.h0 h0
  unfold fin at h
  cases fr with
  | false =>
    refine h ρ H _ e (S.unFbd (S0.env.ext e)) ?_
    unfold RelA
    exact ⟨D, vs, rfl, hD, hl, S0.notFb h0, hH0, unfbdRs r⟩
  | true =>
    have k : ∀ p o, H p = some o → ¬ Live A ρ p → (∀ vs, o = .lst vs → ¬ (w.fbd D).Fb p) → H p = some o ∧ ¬ Live ⟨A.c ++ [some (.lst xs)], A.lo⟩ (rhoNew ρ A.c.length D) p := fun p o h1 h2 h3 => adopt_k p o h1 h2 h3 ⟨vs, hD⟩ xs
    have hn : A.c.length ≤ (A.c ++ [some (Cell.lst xs)]).length := by simp
    have hρ : ∀ n, n < A.c.length → rhoNew ρ A.c.length D n = ρ n := fun n hn => by unfold rhoNew; rw [if_neg (Nat.ne_of_lt hn)]
    have hρD : rhoNew ρ A.c.length D A.c.length = D := by unfold rhoNew; rw [if_pos rfl]
    have e' := ext_adopt (xs := xs) h0 e
    have un : ∀ {w : Wd} {p : Addr}, (∀ vs : List V, H p = some (.lst vs) → ¬ (w.fbd D).Fb p → ¬ w.Fb p) := fun vs _ nf hf => nf (.inl hf)
    refine h (rhoNew ρ A.c.length D) H _ e' ⟨S.keep, S.mono, fun a h => S.fb a (.inl h), fun n m c c' e1 e2 q => ?_, fun n c q => ?_, ⟨S.lo.1, Nat.le_trans S.lo.2 hn⟩, fun j hj => (hρ j (by have h1 : w.kin ≤ A.lo := S.lo.1; have h2 := S.lo.2; omega)).trans (S.ins j hj), fun p hp => ⟨(S.pend p hp).1, unfbdR (RelA.move (w := w.fbd D) hn hρ k (S.pend p hp).2)⟩, S0.env.ext e'⟩ ?_
    · rcases get_push e1 with e1 | ⟨e1, _⟩ <;> rcases get_push e2 with e2 | ⟨e2, _⟩
      · rw [hρ n (List.getElem?_eq_some_iff.mp e1).1, hρ m (List.getElem?_eq_some_iff.mp e2).1] at q
        exact S.inj n m c c' e1 e2 q
      · rw [hρ n (List.getElem?_eq_some_iff.mp e1).1, e2, hρD] at q
        exact absurd ⟨n, c, e1, q⟩ hl
      · rw [hρ m (List.getElem?_eq_some_iff.mp e2).1, e1, hρD] at q
        exact absurd ⟨m, c', e2, q.symm⟩ hl
      · rw [e1, e2]
    · rcases get_push q with q | ⟨q1, q2⟩
      · obtain ⟨h1, h2, h3⟩ := S.cell n c q
        rw [hρ n (List.getElem?_eq_some_iff.mp q).1]
        exact ⟨fun z => h1 (.inl z), cellW (w := w.fbd D) (w' := w) rfl rfl rfl (fun p vs hp nf hf => nf (.inl hf)) (cellM (w := w.fbd D) hn hρ k rfl h2), h3⟩
      · subst q1
        have q2' : c = .lst xs := Option.some.inj q2
        subst q2'
        rw [hρD]
        exact ⟨S0.notFb h0, ⟨vs, hD, unfbdRs (RelAs.move (w := w.fbd D) hn hρ k r)⟩, .inr ⟨Nat.le_trans S.lo.1 S.lo.2, hH0⟩⟩
    · unfold RelA
      exact ⟨by simp, by rw [hρD]⟩
end
theorem Sit.envOf {w : Wd} {ρ : Nat → Addr} {A : St} {H : Hp} {env e' : Env} {σ σ' : L2.St} (S : Sit w ρ A H env σ) (r : EnvR w ρ A H e' σ') : Sit w ρ A H e' σ' := ⟨S.keep, S.mono, S.fb, S.inj, S.cell, S.lo, S.ins, S.pend, r⟩
theorem Ext.updN {ρ ρ' : Nat → Addr} {A A' : St} {H H' : Hp} {D : Addr} {o : HO} (e : Ext ρ A H ρ' A' H') (hD : H D = none) : Ext ρ A H ρ' A' (upd H' D o) :=
  ⟨e.len, e.lo, e.rho, fun a u h n => by
    obtain ⟨h1, h2⟩ := e.frz a u h n
    exact ⟨by rw [upd_ne (fun z => by rw [z, hD] at h; cases h)]; exact h1, h2⟩, fun a h => by
    by_cases z : a = D
    · rw [z, upd_same]; exact fun z => nomatch z
    · rw [upd_ne z]; exact e.mono a h⟩
section
variable {X : Cx} {g : Gb} {W : WX} {tg elt it : Expr} {ce ct : CE} {ci : CI} {pos : Pos}
theorem lc_ok {fr : Bool} {own : List Nat} {t1 : TG} {c1 : CG} {tt : TT} (r1 : GR g t1 c1) (ow : Own t1 own) (ht : ∀ σ H Q, tT g WF ct σ H Q → tt σ H Q) : ∀ σ H Q, tE g W (cComp fr ci c1 ct ce own) σ H Q → tLc (tI g W ci) t1 tt (tE g WF ce) own σ H Q := by
  intro σ H Q q
  obtain ⟨w, ρ, A, env, hg, S, q⟩ := q
  refine ⟨w, ρ, A, env, hg, S, ?_⟩
  unfold cComp at q
  cases ei : ci env A with
  | exc n xs A1 => rw [ei] at q; exact q
  | stuck => rw [ei] at q; exact q
  | ok items A1 =>
    rw [ei] at q
    intro ρ1 H1 J pd e1 S1 I hpd D hD
    have q : satE (if items.length ≤ sizeLine then bnd (compL c1 ct ce (killL own env) items A1) fun ys A2 => fin fr (.lst ys) A2 else .stuck) (PE1 RelA w ρ1 A1 H1 env σ Q) (PX1 w ρ1 A1 H1 env σ W) := satE.ext e1 q
    by_cases hz : items.length ≤ sizeLine
    · rw [if_pos hz] at q
      have S2 : Sit ((w.pd pd).fbd D) ρ1 A1 (upd H1 D (.lst [])) (killL own env) (wipe σ own) := ((S1.toPd hpd).toFbd hD []).wipe own
      refine ⟨fun i m H' => m = items.length - i ∧ i ≤ items.length ∧ ∃ ρ' A' acc vs, Sit ((w.pd pd).fbd D) ρ' A' H' (killL own env) (wipe σ own) ∧ Ext ρ1 A1 H1 ρ' A' H' ∧ H' D = some (.lst vs) ∧ ¬ Live A' ρ' D ∧ RelAs ((w.pd pd).fbd D) ρ' A' H' acc vs ∧ acc.length ≤ i ∧
          satE (bnd (compL c1 ct ce (killL own env) (items.drop i) A') fun ys A2 => fin fr (.lst (acc ++ ys)) A2) (PE1 RelA w ρ1 A1 H1 env σ Q) (PX1 w ρ1 A1 H1 env σ W),
        ⟨_, rfl, Nat.zero_le _, ρ1, A1, [], [], S2, Ext.grow (upd_keep hD), upd_same, S1.notLive hD, RelAs.nil, Nat.le_refl _, q⟩, fun i m H' hW => ?_⟩
      obtain ⟨rfl, hi, ρ', A', acc, vs, S', e', hDv, hDl, ra, hal, q'⟩ := hW
      have hF : ((w.pd pd).fbd D).Fb D := .inr rfl
      have h00 : ((w.pd pd).fbd D).H0 D = none := S1.h0 hD
      obtain ⟨I1, I2⟩ := I ((w.pd pd).fbd D) ρ' A' H' (killL own env) (wipe σ own) S' (fun y hy => List.mem_append_left _ hy) i
      by_cases hlt : i < items.length
      · have ed : items.drop i = items[i] :: items.drop (i + 1) := List.drop_eq_getElem_cons hlt
        rw [ed] at q'
        obtain ⟨J1, J2⟩ := I2 items[i] (List.getElem?_eq_getElem hlt)
        refine .inr ⟨J1, fun H2 => ∃ ρ2 A2 acc vs, Sit ((w.pd pd).fbd D) ρ2 A2 H2 (killL own env) (wipe σ own) ∧ Ext ρ1 A1 H1 ρ2 A2 H2 ∧ H2 D = some (.lst vs) ∧ ¬ Live A2 ρ2 D ∧ RelAs ((w.pd pd).fbd D) ρ2 A2 H2 acc vs ∧ acc.length ≤ i + 1 ∧
          satE (bnd (compL c1 ct ce (killL own env) (items.drop (i + 1)) A2) fun ys A2 => fin fr (.lst (acc ++ ys)) A2) (PE1 RelA w ρ1 A1 H1 env σ Q) (PX1 w ρ1 A1 H1 env σ W), fun H2 hN => ⟨items.length - (i + 1), by omega, rfl, hlt, hN⟩, fun x H2 hy => ?_⟩
        obtain ⟨e2, S2, rx⟩ := J2 x H2 hy
        unfold compL at q'
        cases et : c1 items[i] (killL own env) A' with
        | none => rw [et] at q'; exact q'.elim
        | some pr =>
          obtain ⟨ee, AA⟩ := pr
          rw [et] at q'
          dsimp only at q'
          refine ow x (wipe σ own) H2 _ _ (r1 ((w.pd pd).fbd D) ρ' A' H2 (killL own env) (wipe σ own) _ x (fun σ3 H3 => ∃ ρ3, Ext ρ' A' H2 ρ3 AA H3 ∧ Sit ((w.pd pd).fbd D) ρ3 AA H3 ee σ3) ee AA hg S2 rx et fun ρ3 H3 σ3 e3 S3 => ⟨ρ3, e3, S3⟩) fun σ3 H3 hw h3 => ?_
          obtain ⟨ρ3, e3, S3⟩ := h3
          rw [wipe_wipe] at hw
          refine ⟨hw, ht _ _ _ ?_⟩
          refine ⟨(w.pd pd).fbd D, ρ3, AA, ee, hg, S3, ?_⟩
          cases ect : ct ee AA with
          | exc n xs A2 => rw [ect] at q'; exact q'.elim
          | stuck => rw [ect] at q'; exact q'.elim
          | ok v A3 =>
            rw [ect] at q'
            intro ρ4 H4 xv e4 S4 rv
            have env4 : EnvR ((w.pd pd).fbd D) ρ4 A3 H4 (killL own env) (wipe σ own) := ((S2.env.ext e3).ext e4)
            cases v with
            | bl b =>
              refine ⟨b, rel_of_bl rv, ?_⟩
              cases b with
              | false =>
                refine iteF ?_
                have E4 := (e2.trans e3).trans e4
                obtain ⟨d1, d2⟩ := E4.frz D _ hDv hDl
                exact ⟨ρ4, A3, acc, vs, S4.envOf env4, e'.trans E4, d1, d2, ra.ext E4, Nat.le_succ_of_le hal, q'⟩
              | true =>
                refine iteT ⟨(w.pd pd).fbd D, ρ4, A3, ee, hg, S4, ?_⟩
                dsimp only at q'
                cases ece : ce ee A3 with
                | exc n xs A2 => rw [ece] at q'; exact q'.elim
                | stuck => rw [ece] at q'; exact q'.elim
                | ok y A4 =>
                  rw [ece] at q'
                  intro ρ5 H5 z e5 S5 rz
                  have E5 := ((e2.trans e3).trans e4).trans e5
                  obtain ⟨d1, d2⟩ := E5.frz D _ hDv hDl
                  have hv : vs.length < sizeLine := by rw [← ra.length]; omega
                  refine ⟨vs, d1, hv, ρ5, A4, acc ++ [y], vs ++ [z], (S5.envOf (env4.ext e5)).updD ⟨_, d1⟩ hF h00 _, (e'.trans E5).updN hD, upd_same, d2, ((ra.ext E5).append (RelAs.cons rz RelAs.nil)).updD ⟨_, d1⟩ hF _, by rw [List.length_append]; simp; omega, ?_⟩
                  dsimp only at q'
                  cases er : compL c1 ct ce (killL own env) (items.drop (i + 1)) A4 with
                  | exc n xs A2 => rw [er] at q'; exact q'.elim
                  | stuck => rw [er] at q'; exact q'.elim
                  | ok ys A5 =>
                    rw [er] at q'
                    show satE (fin fr (.lst ((acc ++ [y]) ++ ys)) A5) _ _
                    rw [List.append_assoc]
                    exact q'
            | _ => exact q'.elim
      · have ei' : items.drop i = [] := List.drop_eq_nil_of_le (Nat.le_of_not_lt hlt)
        rw [ei'] at q'
        refine .inl ⟨I1 (Nat.le_of_not_lt hlt), ?_⟩
        have q'' : satE (fin fr (.lst (acc ++ [])) A') (PE1 RelA w ρ1 A1 H1 env σ Q) (PX1 w ρ1 A1 H1 env σ W) := q'
        rw [List.append_nil] at q''
        have S'' : Sit (w.fbd D) ρ' A' H' (killL own env) (wipe σ own) := Sit.unpd (w := w.fbd D) (pd := pd) S'
        exact comp_fin hD S1 e' S'' hDv hDl (ra.world (w := (w.fbd D).pd pd) (w' := w.fbd D) rfl rfl rfl fun _ _ _ h => h) q''
    · rw [if_neg hz] at q; exact q.elim
theorem se_lc (fr : Bool) {scope : Scope} {ownN : List (Str × Nat)} {own : List Nat} {t1 : TG} {c1 : CG} (hown : own = ownN.map (·.2)) (hc : X.calm = true) (hN : X.N.Nodup) (hi : PI X tg it (tI g W ci)) (ok : BlkOk X.N X.env.scope scope ownN) (r1 : GR g t1 c1) (ow : Own t1 own)
    (hg : ∀ (s : Shared) (H : Hp) (C : Addr) (cl : List (Str × Addr)) (fp : List Addr), PG (X.blk s H scope (compEnvC scope cl C X.env) fp) tg t1)
    (he : ∀ (s : Shared) (H : Hp) (C : Addr) (cl : List (Str × Addr)) (fp : List Addr), PE (X.blk s H scope (compEnvC scope cl C X.env) fp) elt (tE g WF ce)) (hs : ∀ x, foldedSetIterable it X.env x = pure x := by intro _; rfl) :
    PE X (.ListComp elt [⟨tg, it, [], 0⟩] scope pos) (tE g W (cComp fr ci c1 (cK (.bl true)) ce own)) := by
  subst hown
  refine PE.mono (pe_lc hc hN hi ok hg (fun _ _ _ _ _ => pts_nil) he hs) (lc_ok r1 ow fun σ H Q q => ?_)
  obtain ⟨w, ρ, A, env, hg, S, q⟩ := q
  obtain ⟨k, hk, q⟩ := q ρ H _ Ext.refl S (rel_bl true)
  cases hk
  exact q
theorem se_lcIf (fr : Bool) {cond : Expr} {scope : Scope} {ownN : List (Str × Nat)} {own : List Nat} {t1 : TG} {c1 : CG} (hown : own = ownN.map (·.2)) (hc : X.calm = true) (hN : X.N.Nodup) (hi : PI X tg it (tI g W ci)) (ok : BlkOk X.N X.env.scope scope ownN) (r1 : GR g t1 c1) (ow : Own t1 own)
    (hg : ∀ (s : Shared) (H : Hp) (C : Addr) (cl : List (Str × Addr)) (fp : List Addr), PG (X.blk s H scope (compEnvC scope cl C X.env) fp) tg t1)
    (ht : ∀ (s : Shared) (H : Hp) (C : Addr) (cl : List (Str × Addr)) (fp : List Addr), PT (X.blk s H scope (compEnvC scope cl C X.env) fp) cond (tT g WF ct))
    (he : ∀ (s : Shared) (H : Hp) (C : Addr) (cl : List (Str × Addr)) (fp : List Addr), PE (X.blk s H scope (compEnvC scope cl C X.env) fp) elt (tE g WF ce)) (hs : ∀ x, foldedSetIterable it X.env x = pure x := by intro _; rfl) :
    PE X (.ListComp elt [⟨tg, it, [cond], 0⟩] scope pos) (tE g W (cComp fr ci c1 ct ce own)) := by
  subst hown
  exact PE.mono (pe_lc hc hN hi ok hg (fun s H C cl fp => pts_one (ht s H C cl fp)) he hs) (lc_ok r1 ow fun σ H Q q => q)
/-- y = [..], y a local -/
theorem ss_setLc (fr : Bool) {i : Nat} {y : Str} {py spos : Pos} {conds : List Expr} {scope : Scope} {ownN : List (Str × Nat)} {own : List Nat} {t1 : TG} {c1 : CG} {tt : TT} (hown : own = ownN.map (·.2)) (hc : X.calm = true) (hN : X.N.Nodup) (hy : X.N[i]? = some y) (hyl : X.env.scope.names.lookup y = some .local)
    (hsw : swapsWith (.ListComp elt [⟨tg, it, conds, 0⟩] scope pos) (some (.Name y py)) spos.line X.env = pure true) (hi : PI X tg it (tI g W ci)) (ok : BlkOk X.N X.env.scope scope ownN) (r1 : GR g t1 c1) (ow : Own t1 own)
    (hg : ∀ (s : Shared) (H : Hp) (C : Addr) (cl : List (Str × Addr)) (fp : List Addr), PG (X.blk s H scope (compEnvC scope cl C X.env) fp) tg t1)
    (ht : ∀ (s : Shared) (H : Hp) (C : Addr) (cl : List (Str × Addr)) (fp : List Addr), PTs (X.blk s H scope (compEnvC scope cl C X.env) fp) conds tt) (htt : ∀ σ H Q, tT g WF ct σ H Q → tt σ H Q)
    (he : ∀ (s : Shared) (H : Hp) (C : Addr) (cl : List (Str × Addr)) (fp : List Addr), PE (X.blk s H scope (compEnvC scope cl C X.env) fp) elt (tE g WF ce)) (hs : ∀ x, foldedSetIterable it X.env x = pure x := by intro _; rfl) :
    PS X (.Assign [.Name y py] (.ListComp elt [⟨tg, it, conds, 0⟩] scope pos) spos) (tS g W (sSet i (cComp fr ci c1 ct ce own))) := by
  subst hown
  refine PS.mono (ps_setLc hc hN hy hyl hsw hi ok hg ht he hs) fun D σ H q => ?_
  obtain ⟨w, ρ, A, env, hg, S, q⟩ := q
  refine lc_ok (fr := fr) r1 ow htt σ H _ ?_
  exact tG.stmt hg S q fun v A1 ρ1 H1 x e S1 r q => q ρ1 H1 _ (S1.setE r i)
theorem yes_of {g : Gb} : ∀ σ H Q, tT g WF (cK (.bl true)) σ H Q → tYes σ H Q := fun σ H Q q => by
  obtain ⟨w, ρ, A, env, hg, S, q⟩ := q
  obtain ⟨k, hk, q⟩ := q ρ H _ Ext.refl S (rel_bl true)
  cases hk
  exact q
end
end Sx

namespace Sx
open PySem PySem.Spec PyProof.Rows L2
/-! ## functions -/
inductive FR where
  | ok (v : AV) (cs : List (List AV))
  | exc (c : Nat) (xs : List AV) (cs : List (List AV))
  | stuck
/-- arguments, what the lists hold that may change; the same behind it -/
abbrev FS := List AV → List (List AV) → FR
def ent (cs : List (List AV)) : St := ⟨cs.map fun c => some (.lst c), cs.length⟩
mutual
/-- no cell, no error, no script in it -/
def pureB : AV → Bool
  | .tup xs => pureBs xs
  | .lst _ xs => pureBs xs
  | .ref _ => false
  | .exc _ _ => false
  | .scr _ => false
  | .non => true
  | .bl _ => true
  | .int _ => true
  | .str _ => true
def pureBs : List AV → Bool
  | [] => true
  | x :: xs => pureB x && pureBs xs
end
/-- cells from k on are written out -/
def resV (A : St) (k : Nat) : Nat → AV → Option AV
  | 0, _ => none
  | d + 1, v => if pureB v = true then some v else match v with
    | .tup xs => (mapO (resV A k d) xs).map .tup
    | .lst f xs => (mapO (resV A k d) xs).map (.lst f)
    | .ref n => if k ≤ n then (match cellAt A n with
      | some (.lst xs) => (mapO (resV A k d) xs).map (.lst .new)
      | _ => none) else none
    | _ => none
def outsV (A : St) (k : Nat) : Nat → Option (List (List AV))
  | 0 => some []
  | j + 1 => match outsV A k j, cellAt A j with
    | some cs, some (.lst xs) => match mapO (resV A k 40) xs with
      | some ys => some (cs ++ [ys])
      | none => none
    | _, _ => none
def closeF (k : Nat) : RS → FR
  | .rt v _ A => match outsV A k k, resV A k 40 v with
    | some cs, some u => .ok u cs
    | _, _ => .stuck
  | .nx _ A => match outsV A k k with
    | some cs => .ok .non cs
    | _ => .stuck
  | .exc c xs _ A => match outsV A k k, mapO (resV A k 40) xs with
    | some cs, some us => .exc c us cs
    | _, _ => .stuck
  | _ => .stuck
def envOf (n : Nat) (as : List AV) : Env := as.map some ++ List.replicate (n - as.length) none
def runF (np n : Nat) (body : CS) : FS := fun as cs => if as.length = np then closeF cs.length (body (envOf n as) (ent cs)) else .stuck

/-- the promise -/
def PF (w : Wd) (n : Nat) (Q : VK) (E : XK) : FR → Prop
  | .ok v cs => cs.length = n ∧ ∀ ρ' H' x, Sit w ρ' (ent cs) H' [] [] → RelA w ρ' (ent cs) H' v x → Q x H'
  | .exc c xs cs => cs.length = n ∧ ∀ ρ' H' C d, Sit w ρ' (ent cs) H' [] [] → ExcR w ρ' (ent cs) H' c xs C d → E C d H'
  | .stuck => False
def spF (g : Gb) (f : FS) : Sp := fun vs H Q E => ∃ (w : Wd) (ρ : Nat → Addr) (as : List AV) (cs : List (List AV)), w.g = g ∧ w.H0 = H ∧ w.kin = cs.length ∧ w.pend = [] ∧ Sit w ρ (ent cs) H [] [] ∧ RelAs w ρ (ent cs) H as vs ∧ PF w cs.length Q E (f as cs)

section
variable {w : Wd} {ρ ρ' : Nat → Addr} {A A' : St} {H H' : Hp} {env : Env} {σ : L2.St} {g : Gb} {D : Ends}
theorem ent_get {cs : List (List AV)} {n : Nat} {c : Cell} (h : (ent cs).c[n]? = some (some c)) : ∃ xs, c = .lst xs ∧ cs[n]? = some xs := by
  unfold ent at h
  dsimp only at h
  rw [List.getElem?_map] at h
  cases e : cs[n]? with
  | none => rw [e] at h; cases h
  | some xs =>
    rw [e] at h
    cases h
    exact ⟨xs, rfl, rfl⟩
theorem ent_of {cs : List (List AV)} {n : Nat} {xs : List AV} (h : cs[n]? = some xs) : (ent cs).c[n]? = some (some (.lst xs)) := by
  unfold ent
  dsimp only
  rw [List.getElem?_map, h]
  rfl
theorem ent_len (cs : List (List AV)) : (ent cs).c.length = cs.length := by simp [ent]
/-- pure values lean on lists, tuples alone -/
theorem pure_move (hl : ∀ p o, H p = some o → ¬ Live A ρ p → (∀ vs, o = .lst vs → ¬ w.Fb p) → H' p = some o ∧ ¬ Live A' ρ' p) : ∀ {v : AV} {x : V}, pureB v = true → RelA w ρ A H v x → RelA w ρ' A' H' v x := by
  have key : ∀ n : Nat, (∀ v : AV, sizeOf v < n → ∀ x, pureB v = true → RelA w ρ A H v x → RelA w ρ' A' H' v x) ∧ (∀ l : List AV, sizeOf l < n → ∀ xs, pureBs l = true → RelAs w ρ A H l xs → RelAs w ρ' A' H' l xs) := by
    intro n
    induction n with
    | zero => exact ⟨fun v h => absurd h (Nat.not_lt_zero _), fun v h => absurd h (Nat.not_lt_zero _)⟩
    | succ n ih =>
      refine ⟨fun v hv x pv r => ?_, fun l hv xs pv r => ?_⟩
      · cases v with
        | tup xs =>
          unfold RelA at r ⊢
          unfold pureB at pv
          obtain ⟨p, us, rfl, hp, h2, rs⟩ := r
          obtain ⟨k1, k2⟩ := hl p _ hp h2 (fun _ e => nomatch e)
          exact ⟨p, us, rfl, k1, k2, ih.2 xs (by simp at hv; omega) us pv rs⟩
        | lst f xs =>
          unfold RelA at r ⊢
          unfold pureB at pv
          obtain ⟨p, us, rfl, hp, h2, hf, hfl, rs⟩ := r
          obtain ⟨k1, k2⟩ := hl p _ hp h2 (fun _ _ => hf)
          exact ⟨p, us, rfl, k1, k2, hf, hfl, ih.2 xs (by simp at hv; omega) us pv rs⟩
        | ref n => unfold pureB at pv; cases pv
        | scr ns => unfold pureB at pv; cases pv
        | exc c xs => unfold pureB at pv; cases pv
        | _ => unfold RelA at r ⊢; exact r
      · cases l with
        | nil => unfold RelAs at r ⊢; exact r
        | cons v l =>
          obtain ⟨y, ys, rfl, r1, r2⟩ := r.cons_of
          unfold pureBs at pv
          obtain ⟨p1, p2⟩ := Bool.and_eq_true_iff.mp pv
          exact RelAs.cons (ih.1 v (by simp at hv; omega) y p1 r1) (ih.2 l (by simp at hv; omega) ys p2 r2)
  intro v x pv r
  exact (key (sizeOf v + 1)).1 v (Nat.lt_succ_self _) x pv r
/-- a cell is written out -/
theorem resV_ok {cs : List (List AV)} (S : Sit w ρ A H env σ) (hk : w.kin ≤ cs.length) (hlv : ∀ p, Live (ent cs) ρ p → ∃ n c, n < cs.length ∧ A.c[n]? = some (some c) ∧ ρ n = p) :
    ∀ (d : Nat) {v u : AV} {x : V}, resV A cs.length d v = some u → RelA w ρ A H v x → RelA w ρ (ent cs) H u x := by
  have lv : ∀ p, Live (ent cs) ρ p → Live A ρ p := fun p h => let ⟨n, c, _, e, q⟩ := hlv p h; ⟨n, c, e, q⟩
  intro d
  induction d with
  | zero => intro v u x h; cases h
  | succ d ih =>
    have ihs : ∀ {xs ys : List AV} {vs : List V}, mapO (resV A cs.length d) xs = some ys → RelAs w ρ A H xs vs → RelAs w ρ (ent cs) H ys vs := by
      intro xs
      induction xs with
      | nil => intro ys vs h r; cases h; rw [r.nil_of]; exact RelAs.nil
      | cons x0 xs ihx =>
        intro ys vs h r
        obtain ⟨z, zs, rfl, r1, r2⟩ := r.cons_of
        unfold mapO at h
        cases e1 : resV A cs.length d x0 with
        | none => rw [e1] at h; cases h
        | some y =>
          cases e2 : mapO (resV A cs.length d) xs with
          | none => rw [e1, e2] at h; cases h
          | some ys' =>
            rw [e1, e2] at h
            cases h
            exact RelAs.cons (ih e1 r1) (ihx e2 r2)
    intro v u x h r
    unfold resV at h
    by_cases hp : pureB v = true
    · rw [if_pos hp] at h
      cases h
      exact pure_move (fun p o h1 h2 _ => ⟨h1, fun z => h2 (lv p z)⟩) hp r
    · rw [if_neg hp] at h
      cases v with
      | tup xs =>
        dsimp only at h
        cases e : mapO (resV A cs.length d) xs with
        | none => rw [e] at h; cases h
        | some ys =>
          rw [e] at h
          cases h
          unfold RelA at r ⊢
          obtain ⟨p, us, rfl, h1, h2, rs⟩ := r
          exact ⟨p, us, rfl, h1, fun z => h2 (lv p z), ihs e rs⟩
      | lst f xs =>
        dsimp only at h
        cases e : mapO (resV A cs.length d) xs with
        | none => rw [e] at h; cases h
        | some ys =>
          rw [e] at h
          cases h
          unfold RelA at r ⊢
          obtain ⟨p, us, rfl, h1, h2, h3, h4, rs⟩ := r
          exact ⟨p, us, rfl, h1, fun z => h2 (lv p z), h3, h4, ihs e rs⟩
      | ref n =>
        dsimp only at h
        split at h
        · rename_i hn
          split at h
          · rename_i xs ec
            cases e : mapO (resV A cs.length d) xs with
            | none => rw [e] at h; cases h
            | some ys =>
              rw [e] at h
              cases h
              obtain ⟨rfl, us, hu, rs⟩ := S.cellOf r ec
              obtain ⟨c1, _, c3⟩ := S.cell n _ (cellAt_some ec)
              unfold RelA
              refine ⟨ρ n, us, rfl, hu, fun z => ?_, c1, ?_, ihs e rs⟩
              · obtain ⟨m, c, hm, em, q⟩ := hlv _ z
                have := S.inj m n _ _ em (cellAt_some ec) q
                omega
              · rcases c3 with ⟨h1, _⟩ | ⟨_, h1⟩
                · omega
                · exact h1
          · cases h
        · cases h
      | _ => cases h
theorem resVs_ok {cs : List (List AV)} (S : Sit w ρ A H env σ) (hk : w.kin ≤ cs.length) (hlv : ∀ p, Live (ent cs) ρ p → ∃ n c, n < cs.length ∧ A.c[n]? = some (some c) ∧ ρ n = p) (d : Nat) :
    ∀ {xs ys : List AV} {vs : List V}, mapO (resV A cs.length d) xs = some ys → RelAs w ρ A H xs vs → RelAs w ρ (ent cs) H ys vs := by
  intro xs
  induction xs with
  | nil => intro ys vs h r; cases h; rw [r.nil_of]; exact RelAs.nil
  | cons x0 xs ihx =>
    intro ys vs h r
    obtain ⟨z, zs, rfl, r1, r2⟩ := r.cons_of
    unfold mapO at h
    cases e1 : resV A cs.length d x0 with
    | none => rw [e1] at h; cases h
    | some y =>
      cases e2 : mapO (resV A cs.length d) xs with
      | none => rw [e1, e2] at h; cases h
      | some ys' =>
        rw [e1, e2] at h
        cases h
        exact RelAs.cons (resV_ok S hk hlv d e1 r1) (ihx e2 r2)
theorem outsV_get {k : Nat} : ∀ {j : Nat} {cs : List (List AV)}, outsV A k j = some cs → cs.length = j ∧ ∀ n, n < j → ∃ xs ys, cellAt A n = some (.lst xs) ∧ mapO (resV A k 40) xs = some ys ∧ cs[n]? = some ys
  | 0, cs, h => by
    cases h
    exact ⟨rfl, fun n hn => absurd hn (Nat.not_lt_zero _)⟩
  | j + 1, cs, h => by
    unfold outsV at h
    split at h
    · rename_i cs' xs e1 e2
      split at h
      · rename_i ys e3
        cases h
        obtain ⟨l1, l2⟩ := outsV_get e1
        refine ⟨by simp [l1], fun n hn => ?_⟩
        by_cases hj : n = j
        · subst hj
          exact ⟨xs, ys, e2, e3, by rw [← l1]; simp⟩
        · obtain ⟨xs', ys', h1, h2, h3⟩ := l2 n (by omega)
          exact ⟨xs', ys', h1, h2, by rw [List.getElem?_append_left (by omega)]; exact h3⟩
      · cases h
    · cases h
/-- the end of a body -/
theorem close_sit {cs : List (List AV)} (S : Sit w ρ A H env σ) (hk : w.kin = cs.length) (ho : outsV A cs.length cs.length = some cs) (hpd : w.pend = []) :
    Sit w ρ (ent cs) H [] [] ∧ (∀ p, Live (ent cs) ρ p → ∃ n c, n < cs.length ∧ A.c[n]? = some (some c) ∧ ρ n = p) := by
  obtain ⟨_, og⟩ := outsV_get ho
  have hlv : ∀ p, Live (ent cs) ρ p → ∃ n c, n < cs.length ∧ A.c[n]? = some (some c) ∧ ρ n = p := fun p h => by
    obtain ⟨n, c, e, q⟩ := h
    obtain ⟨xs, rfl, ex⟩ := ent_get e
    have hn : n < cs.length := (List.getElem?_eq_some_iff.mp ex).1
    obtain ⟨xs', ys, h1, _, _⟩ := og n hn
    exact ⟨n, _, hn, cellAt_some h1, q⟩
  refine ⟨⟨S.keep, S.mono, S.fb, fun n m c c' e1 e2 q => ?_, fun n c e => ?_, ?_, S.ins, ?_, ?_⟩, hlv⟩
  · obtain ⟨xs, rfl, ex⟩ := ent_get e1
    obtain ⟨ys, rfl, ey⟩ := ent_get e2
    obtain ⟨_, _, h1, _, _⟩ := og n (List.getElem?_eq_some_iff.mp ex).1
    obtain ⟨_, _, h2, _, _⟩ := og m (List.getElem?_eq_some_iff.mp ey).1
    exact S.inj n m _ _ (cellAt_some h1) (cellAt_some h2) q
  · obtain ⟨xs, rfl, ex⟩ := ent_get e
    obtain ⟨zs, ys, h1, h2, h3⟩ := og n (List.getElem?_eq_some_iff.mp ex).1
    rw [ex] at h3
    cases h3
    obtain ⟨c1, ⟨us, hu, ru⟩, c3⟩ := S.cell n _ (cellAt_some h1)
    exact ⟨c1, ⟨us, hu, resVs_ok S (Nat.le_of_eq hk) hlv 40 h2 ru⟩, c3⟩
  · rw [ent_len, hk]
    exact ⟨Nat.le_refl _, Nat.le_refl _⟩
  · intro p hp; rw [hpd] at hp; cases hp
  · exact ⟨rfl, fun i v h => by simp at h⟩
theorem envOf_ok {N : List Str} {as : List AV} {vs : List V} {cs : List (List AV)} (r : RelAs w ρ (ent cs) H as vs) : EnvR w ρ (ent cs) H (envOf N.length as) (L2.start N vs) := by
  refine ⟨by simp [envOf, L2.start, r.length] <;> omega, fun i v h => ?_⟩
  unfold envOf at h
  by_cases hi : i < as.length
  · rw [List.getElem?_append_left (by simpa using hi), List.getElem?_map] at h
    cases e : as[i]? with
    | none => rw [e] at h; cases h
    | some a =>
      rw [e] at h
      cases h
      obtain ⟨x, hx, rx⟩ := r.get e
      have hx' : (L2.start N vs)[i]? = some (some x) := by
        unfold L2.start
        rw [List.getElem?_append_left (by rw [List.length_map, ← r.length]; exact hi), List.getElem?_map, hx]
        rfl
      exact ⟨x, hx', rx⟩
  · rw [List.getElem?_append_right (by simpa using Nat.le_of_not_lt hi), List.getElem?_replicate] at h
    split at h <;> cases h
end
section
variable {P : Program} {w : World} {K : PySem.W.Frag} {mg : Str → Option Value} {base : Heap} {g : Gb}
abbrev wish (E : XK) : WX := fun cls d _ H => E cls d H
theorem run_ok {n np : Nat} {N : List Str} {body : CS} {vs : List V} {H : Hp} {Q : VK} {E : XK} (hn : n = N.length) (h : spF g (runF np n body) vs H Q E) : tS g (wish E) body { nx := fun _ H' => Q .non H', rt := Q } (L2.start N vs) H := by
  subst hn
  obtain ⟨w, ρ, as, cs, hg, h0, hk, hpd, S, r, q⟩ := h
  refine ⟨w, ρ, ent cs, envOf N.length as, hg, S.envOf (envOf_ok r), ?_⟩
  unfold runF at q
  by_cases hl : as.length = np
  case neg => rw [if_neg hl] at q; exact q.elim
  rw [if_pos hl] at q
  have fin : ∀ {v : AV} {A' : St} {v' : AV} {cs' : List (List AV)} {ρ' : Nat → Addr} {H' : Hp} {e : Env} {σ' : L2.St} {x : V}, outsV A' cs.length cs.length = some cs' → resV A' cs.length 40 v = some v' → Sit w ρ' A' H' e σ' → RelA w ρ' A' H' v x →
      cs'.length = cs.length ∧ Sit w ρ' (ent cs') H' [] [] ∧ RelA w ρ' (ent cs') H' v' x := fun {v A' v' cs' ρ' H' e σ' x} h1 h2 S' r' => by
    obtain ⟨l, _⟩ := outsV_get h1
    rw [← l] at h1 h2
    obtain ⟨S2, lv⟩ := close_sit S' (hk.trans l.symm) h1 hpd
    exact ⟨l, S2, resV_ok S' (Nat.le_of_eq (hk.trans l.symm)) lv 40 h2 r'⟩
  cases eb : body (envOf N.length as) (ent cs) with
  | nx e A' =>
    rw [eb] at q
    unfold closeF at q
    dsimp only at q
    cases e1 : outsV A' cs.length cs.length with
    | none => rw [e1] at q; exact q.elim
    | some cs' =>
      rw [e1] at q
      intro ρ' H' σ' S'
      obtain ⟨_, S2, r2⟩ := fin (v := .non) (v' := .non) (x := .non) e1 rfl S' rel_non
      exact q.2 ρ' H' _ S2 r2
  | rt v e A' =>
    rw [eb] at q
    unfold closeF at q
    dsimp only at q
    cases e1 : outsV A' cs.length cs.length with
    | none => rw [e1] at q; exact q.elim
    | some cs' =>
      cases e2 : resV A' cs.length 40 v with
      | none => rw [e1, e2] at q; exact q.elim
      | some v' =>
        rw [e1, e2] at q
        intro ρ' H' σ' x S' r'
        obtain ⟨_, S2, r2⟩ := fin e1 e2 S' r'
        exact q.2 ρ' H' _ S2 r2
  | exc c xs e A' =>
    rw [eb] at q
    unfold closeF at q
    dsimp only at q
    cases e1 : outsV A' cs.length cs.length with
    | none => rw [e1] at q; exact q.elim
    | some cs' =>
      cases e2 : mapO (resV A' cs.length 40) xs with
      | none => rw [e1, e2] at q; exact q.elim
      | some us =>
        rw [e1, e2] at q
        intro ρ' H' σ' C d S' r'
        obtain ⟨l, _⟩ := outsV_get e1
        rw [← l] at e1 e2
        obtain ⟨S2, lv⟩ := close_sit S' (hk.trans l.symm) e1 hpd
        obtain ⟨d', fs, vs', h1, h2, h3, h4, h5, h6, h7⟩ := r'
        refine q.2 ρ' H' C d S2 ⟨d', fs, vs', h1, h2, h3, fun z => h4 ?_, h5, h6, resVs_ok S' (Nat.le_of_eq (hk.trans l.symm)) lv 40 e2 h7⟩
        obtain ⟨n, c, _, en, qn⟩ := lv _ z
        exact ⟨n, c, en, qn⟩
  | bk e A' => rw [eb] at q; exact q.elim
  | ct e A' => rw [eb] at q; exact q.elim
  | stuck => rw [eb] at q; exact q.elim
/-- THE RULE of a def -/
theorem fn_ok {x qual : Str} {st : Stmt} {f : Addr} {fd : FuncData} {N ps : List Str} {k n np : Nat} {body : CS} (F : Fun K x qual st f fd) (S : FnScope N ps (defScope st)) (hn : n = N.length) (hp : np = ps.length)
    (hb : ∀ (cdv : Value) (A : Around) (outer : List PySem.Env) (s : Shared) (H : Hp) (E : XK), Room k (A.deeper (envOfC qual (defScope st) s.heap.objs.size f cdv)) →
      PSs (cxOf (L2.CX P w) P w K mg base N qual (defScope st) f cdv A outer s H E) (defBody st) (tS g (wish E) body)) : FnOk P w K mg base (L2.CX P w) (k + 1) f fd ps (spF g (runF np n body)) := by
  refine F.okX S (fun vs H Q E h => ?_) (fun cdv A outer s H vs Q E hr h => ⟨_, hb cdv A outer s H E hr, run_ok hn h⟩)
  obtain ⟨w, ρ, as, cs, hg, h0, hk, hpd, S, r, q⟩ := h
  unfold runF at q
  by_cases hl : as.length = np
  case neg => rw [if_neg hl] at q; exact q.elim
  rw [← r.length, hl, hp]
end
end Sx

namespace Sx
open PySem PySem.Spec PyProof.Rows L2
/-! ## calls -/
mutual
def toOld : AV → AV
  | .tup xs => .tup (toOlds xs)
  | .lst _ xs => .lst .old (toOlds xs)
  | v => v
def toOlds : List AV → List AV
  | [] => []
  | x :: xs => toOld x :: toOlds xs
end
def impFl : Fl → Fl
  | .new => .new
  | _ => .any
mutual
def imp : AV → AV
  | .tup xs => .tup (imps xs)
  | .lst f xs => .lst (impFl f) (imps xs)
  | v => v
def imps : List AV → List AV
  | [] => []
  | x :: xs => imp x :: imps xs
end
mutual
/-- every list in it is new -/
def newB : AV → Bool
  | .tup xs => newBs xs
  | .lst f xs => decide (f = .new) && newBs xs
  | _ => true
def newBs : List AV → Bool
  | [] => true
  | x :: xs => newB x && newBs xs
end
/-- the cells handed over -/
def ioN : List Bool → List AV → Option (List Nat)
  | true :: fl, .ref n :: vs => (ioN fl vs).map (n :: ·)
  | true :: _, _ => none
  | false :: fl, _ :: vs => ioN fl vs
  | [], [] => some []
  | _, _ => none
/-- a value as the callee sees it; cells (not those of ns) written out -/
def expV (A : St) (ns : List Nat) : Nat → AV → Option AV
  | 0, _ => none
  | d + 1, v => if pureB v = true then some (toOld v) else match v with
    | .tup xs => (mapO (expV A ns d) xs).map .tup
    | .lst _ xs => (mapO (expV A ns d) xs).map (.lst .old)
    | .ref n => if n ∈ ns then none else (match cellAt A n with
      | some (.lst xs) => (mapO (expV A ns d) xs).map (.lst .old)
      | _ => none)
    | .scr ks => some (.scr ks)
    | _ => none
def expA (A : St) (ns : List Nat) : Nat → List Bool → List AV → Option (List AV)
  | j, true :: fl, _ :: vs => (expA A ns (j + 1) fl vs).map (.ref j :: ·)
  | j, false :: fl, v :: vs => match expV A ns 40 v, expA A ns j fl vs with
    | some u, some us => some (u :: us)
    | _, _ => none
  | _, [], [] => some []
  | _, _, _ => none
/-- some cell is lent -/
def lent : List Bool → List AV → Bool
  | true :: fl, _ :: vs => lent fl vs
  | false :: fl, v :: vs => (match v with
    | .scr _ => false
    | v => !pureB v) || lent fl vs
  | _, _ => false
def contents (A : St) : List Nat → Option (List (List AV))
  | [] => some []
  | n :: ns => match cellAt A n, contents A ns with
    | some (.lst xs), some cs => if pureBs xs = true then some (toOlds xs :: cs) else none
    | _, _ => none
def putC : List (Option Cell) → List Nat → List (List AV) → List (Option Cell)
  | c, n :: ns, xs :: cs => putC (c.set n (some (.lst (imps xs)))) ns cs
  | c, _, _ => c
def okOut (l : Bool) (vs : List AV) (cs : List (List AV)) : Bool := pureBs vs && cs.all pureBs && (!l || (newBs vs && cs.all newBs))
mutual
/-- every list in it is old -/
def oldB : AV → Bool
  | .tup xs => oldBs xs
  | .lst f xs => decide (f = .old) && oldBs xs
  | _ => true
def oldBs : List AV → Bool
  | [] => true
  | x :: xs => oldB x && oldBs xs
end
/-- the answer is to be a cell (th) -/
def thaw (th : Bool) (v : AV) (cs : List (List AV)) (A : St) : R AV := match th with
  | false => .ok (imp v) A
  | true => match v with
    | .lst .new xs => if cs.all oldBs = true then .ok (.ref A.c.length) ⟨A.c ++ [some (.lst (imps xs))], A.lo⟩ else .stuck
    | .tup [.str s, .lst .new xs] => if cs.all oldBs = true then .ok (.tup [.str s, .ref A.c.length]) ⟨A.c ++ [some (.lst (imps xs))], A.lo⟩ else .stuck
    | v => .ok (imp v) A
/-- f called with these values: io tells where cells are handed over to be changed -/
def callF (th : Bool) (f : FS) (io : List Bool) (vs : List AV) (A : St) : R AV := match ioN io vs with
  | none => .stuck
  | some ns => if ns.Nodup then match contents A ns, expA A ns 0 io vs with
    | some cs, some as => match f as cs with
      | .ok v cs' => if okOut (lent io vs) [v] cs' = true ∧ cs'.length = cs.length then thaw th v cs' ⟨putC A.c ns cs', A.lo⟩ else .stuck
      | .exc c xs cs' => if okOut (lent io vs) xs cs' = true ∧ cs'.length = cs.length then .exc c (imps xs) ⟨putC A.c ns cs', A.lo⟩ else .stuck
      | .stuck => .stuck
    | _, _ => .stuck else .stuck
def cCall (th : Bool) (f : FS) (io : List Bool) (cs : Env → St → R (List AV)) : CE := fun env A => bnd (cs env A) fun vs A1 => callF th f io vs A1

section
variable {w : Wd} {ρ ρ' : Nat → Addr} {A A' : St} {H H' : Hp} {env : Env} {σ : L2.St} {g : Gb} {ns : List Nat}
/-- the callee's world -/
def wc (w : Wd) (ρ : Nat → Addr) (A : St) (H : Hp) (ns : List Nat) (l : Bool) : Wd where
  g := w.g
  H0 := H
  Mu := fun a => ∃ n ∈ ns, ρ n = a
  Fb := fun a => w.Fb a ∨ (l = false ∧ ∃ n c, A.c[n]? = some (some c) ∧ n ∉ ns ∧ ρ n = a)
  kin := ns.length
  rin := fun j => ρ (ns.getD j 0)
  cur := none
  pend := []
def rc (ρ : Nat → Addr) (ns : List Nat) : Nat → Addr := fun j => ρ (ns.getD j 0)
theorem contents_get : ∀ {ns : List Nat} {cs : List (List AV)}, contents A ns = some cs → cs.length = ns.length ∧ ∀ (j n : Nat), ns[j]? = some n → ∃ xs, cellAt A n = some (.lst xs) ∧ pureBs xs = true ∧ cs[j]? = some (toOlds xs)
  | [], cs, h => by
    cases h
    exact ⟨rfl, fun j n e => by simp at e⟩
  | m :: ns, cs, h => by
    unfold contents at h
    split at h
    · rename_i xs cs' e1 e2
      split at h
      · rename_i hp
        cases h
        obtain ⟨l1, l2⟩ := contents_get e2
        refine ⟨by simp [l1], fun j n e => ?_⟩
        cases j with
        | zero =>
          have e' : m = n := by simpa using e
          subst e'
          exact ⟨xs, e1, hp, rfl⟩
        | succ j => exact l2 j n (by simpa using e)
      · cases h
    · cases h
theorem live_rc {cs : List (List AV)} (hl : cs.length = ns.length) {p : Addr} : Live (ent cs) (rc ρ ns) p ↔ ∃ n ∈ ns, ρ n = p := by
  constructor
  · rintro ⟨j, c, e, q⟩
    obtain ⟨xs, rfl, ex⟩ := ent_get e
    have hj : j < ns.length := by rw [← hl]; exact (List.getElem?_eq_some_iff.mp ex).1
    refine ⟨ns[j], List.getElem_mem hj, ?_⟩
    rw [← q]
    unfold rc
    rw [List.getD_eq_getElem?_getD, List.getElem?_eq_getElem hj]
    rfl
  · rintro ⟨n, hn, q⟩
    obtain ⟨j, hj, e⟩ := List.mem_iff_getElem.mp hn
    have hj' : j < cs.length := by rw [hl]; exact hj
    refine ⟨j, .lst cs[j], ent_of (List.getElem?_eq_getElem hj'), ?_⟩
    unfold rc
    rw [List.getD_eq_getElem?_getD, List.getElem?_eq_getElem hj, ← q, ← e]
    rfl
/-- how a value lies for the callee -/
theorem old_rel {cs : List (List AV)} {l : Bool} (S : Sit w ρ A H env σ) (hl : cs.length = ns.length) (hns : ∀ n ∈ ns, ∃ c, A.c[n]? = some (some c)) : ∀ {v : AV} {x : V}, pureB v = true → RelA w ρ A H v x → RelA (wc w ρ A H ns l) (rc ρ ns) (ent cs) H (toOld v) x := by
  have nl : ∀ p, ¬ Live A ρ p → ¬ Live (ent cs) (rc ρ ns) p := fun p h z => by
    obtain ⟨n, hn, q⟩ := (live_rc hl).mp z
    obtain ⟨c, e⟩ := hns n hn
    exact h ⟨n, c, e, q⟩
  have key : ∀ n : Nat, (∀ v : AV, sizeOf v < n → ∀ x, pureB v = true → RelA w ρ A H v x → RelA (wc w ρ A H ns l) (rc ρ ns) (ent cs) H (toOld v) x) ∧ (∀ l' : List AV, sizeOf l' < n → ∀ xs, pureBs l' = true → RelAs w ρ A H l' xs → RelAs (wc w ρ A H ns l) (rc ρ ns) (ent cs) H (toOlds l') xs) := by
    intro n
    induction n with
    | zero => exact ⟨fun v h => absurd h (Nat.not_lt_zero _), fun v h => absurd h (Nat.not_lt_zero _)⟩
    | succ n ih =>
      refine ⟨fun v hv x pv r => ?_, fun l' hv xs pv r => ?_⟩
      · cases v with
        | tup xs =>
          unfold toOld
          unfold RelA at r ⊢
          unfold pureB at pv
          obtain ⟨p, us, rfl, hp, h2, rs⟩ := r
          exact ⟨p, us, rfl, hp, nl p h2, ih.2 xs (by simp at hv; omega) us pv rs⟩
        | lst f xs =>
          unfold toOld
          unfold RelA at r ⊢
          unfold pureB at pv
          obtain ⟨p, us, rfl, hp, h2, hf, hfl, rs⟩ := r
          refine ⟨p, us, rfl, hp, nl p h2, fun z => ?_, ?_, ih.2 xs (by simp at hv; omega) us pv rs⟩
          · rcases z with z | ⟨_, m, c, e, _, q⟩
            · exact hf z
            · exact h2 ⟨m, c, e, q⟩
          · show H p ≠ none
            rw [hp]; exact fun z => nomatch z
        | ref n => unfold pureB at pv; cases pv
        | scr ns => unfold pureB at pv; cases pv
        | exc c xs => unfold pureB at pv; cases pv
        | _ => unfold toOld; unfold RelA at r ⊢; exact r
      · cases l' with
        | nil => unfold toOlds; unfold RelAs at r ⊢; exact r
        | cons v l' =>
          obtain ⟨y, ys, rfl, r1, r2⟩ := r.cons_of
          unfold pureBs at pv
          obtain ⟨p1, p2⟩ := Bool.and_eq_true_iff.mp pv
          unfold toOlds
          exact RelAs.cons (ih.1 v (by simp at hv; omega) y p1 r1) (ih.2 l' (by simp at hv; omega) ys p2 r2)
  intro v x pv r
  exact (key (sizeOf v + 1)).1 v (Nat.lt_succ_self _) x pv r
theorem olds_rel {cs : List (List AV)} {l : Bool} (S : Sit w ρ A H env σ) (hl : cs.length = ns.length) (hns : ∀ n ∈ ns, ∃ c, A.c[n]? = some (some c)) : ∀ {v : List AV} {x : List V}, pureBs v = true → RelAs w ρ A H v x → RelAs (wc w ρ A H ns l) (rc ρ ns) (ent cs) H (toOlds v) x
  | [], _, _, r => by
    rw [r.nil_of]
    unfold toOlds
    exact RelAs.nil
  | v :: vs, _, pv, r => by
    obtain ⟨y, ys, rfl, r1, r2⟩ := r.cons_of
    unfold pureBs at pv
    obtain ⟨p1, p2⟩ := Bool.and_eq_true_iff.mp pv
    unfold toOlds
    exact RelAs.cons (old_rel S hl hns p1 r1) (olds_rel S hl hns p2 r2)
theorem exp_rel {cs : List (List AV)} (S : Sit w ρ A H env σ) (hl : cs.length = ns.length) (hns : ∀ n ∈ ns, ∃ c, A.c[n]? = some (some c)) : ∀ (d : Nat) {v u : AV} {x : V} {l : Bool}, (l = false → pureB v = true ∨ ∃ ks, v = .scr ks) → expV A ns d v = some u → RelA w ρ A H v x → RelA (wc w ρ A H ns l) (rc ρ ns) (ent cs) H u x := by
  have nl : ∀ p, ¬ Live A ρ p → ¬ Live (ent cs) (rc ρ ns) p := fun p h z => by
    obtain ⟨n, hn, q⟩ := (live_rc hl).mp z
    obtain ⟨c, e⟩ := hns n hn
    exact h ⟨n, c, e, q⟩
  intro d
  induction d with
  | zero => intro v u x l _ h; cases h
  | succ d ih =>
    have ihs : ∀ {xs ys : List AV} {vs : List V}, mapO (expV A ns d) xs = some ys → RelAs w ρ A H xs vs → RelAs (wc w ρ A H ns true) (rc ρ ns) (ent cs) H ys vs := by
      intro xs
      induction xs with
      | nil => intro ys vs h r; cases h; rw [r.nil_of]; exact RelAs.nil
      | cons x0 xs ihx =>
        intro ys vs h r
        obtain ⟨z, zs, rfl, r1, r2⟩ := r.cons_of
        unfold mapO at h
        cases e1 : expV A ns d x0 with
        | none => rw [e1] at h; cases h
        | some y =>
          cases e2 : mapO (expV A ns d) xs with
          | none => rw [e1, e2] at h; cases h
          | some ys' =>
            rw [e1, e2] at h
            cases h
            exact RelAs.cons (ih (fun z => nomatch z) e1 r1) (ihx e2 r2)
    intro v u x l hlt h r
    unfold expV at h
    by_cases hp : pureB v = true
    · rw [if_pos hp] at h
      cases h
      exact old_rel S hl hns hp r
    · rw [if_neg hp] at h
      cases l with
      | false =>
        rcases hlt rfl with z | ⟨ks, rfl⟩
        · exact absurd z hp
        · cases h
          unfold RelA at r ⊢
          obtain ⟨p, rfl, h⟩ := r
          rcases h with ⟨ho, h2⟩ | h
          · exact ⟨p, rfl, .inl ⟨ho, nl p h2⟩⟩
          · exact ⟨p, rfl, .inr h⟩
      | true =>
        have nf : ∀ p, ¬ w.Fb p → ¬ (wc w ρ A H ns true).Fb p := fun p h z => by
          rcases z with z | ⟨z, _⟩
          · exact h z
          · cases z
        cases v with
        | tup xs =>
          dsimp only at h
          cases e : mapO (expV A ns d) xs with
          | none => rw [e] at h; cases h
          | some ys =>
            rw [e] at h
            cases h
            unfold RelA at r ⊢
            obtain ⟨p, us, rfl, h1, h2, rs⟩ := r
            exact ⟨p, us, rfl, h1, nl p h2, ihs e rs⟩
        | lst f xs =>
          dsimp only at h
          cases e : mapO (expV A ns d) xs with
          | none => rw [e] at h; cases h
          | some ys =>
            rw [e] at h
            cases h
            unfold RelA at r ⊢
            obtain ⟨p, us, rfl, h1, h2, h3, h4, rs⟩ := r
            exact ⟨p, us, rfl, h1, nl p h2, nf p h3, (show H p ≠ none by rw [h1]; exact fun z => nomatch z), ihs e rs⟩
        | ref n =>
          dsimp only at h
          split at h
          · cases h
          · rename_i hn
            split at h
            · rename_i xs ec
              cases e : mapO (expV A ns d) xs with
              | none => rw [e] at h; cases h
              | some ys =>
                rw [e] at h
                cases h
                obtain ⟨rfl, us, hu, rs⟩ := S.cellOf r ec
                obtain ⟨c1, _, c3⟩ := S.cell n _ (cellAt_some ec)
                unfold RelA
                refine ⟨ρ n, us, rfl, hu, fun z => ?_, nf _ c1, (show H (ρ n) ≠ none by rw [hu]; exact fun z => nomatch z), ihs e rs⟩
                obtain ⟨m, hm, q⟩ := (live_rc hl).mp z
                obtain ⟨c, em⟩ := hns m hm
                have := S.inj m n _ _ em (cellAt_some ec) q
                exact hn (this ▸ hm)
            · cases h
        | scr ks =>
          cases h
          unfold RelA at r ⊢
          obtain ⟨p, rfl, h⟩ := r
          rcases h with ⟨ho, h2⟩ | h
          · exact ⟨p, rfl, .inl ⟨ho, nl p h2⟩⟩
          · exact ⟨p, rfl, .inr h⟩
        | _ => cases h
end
end Sx

namespace Sx
open PySem PySem.Spec PyProof.Rows L2
mutual
def dep : AV → Nat
  | .tup xs => deps xs + 1
  | .lst _ xs => deps xs + 1
  | _ => 0
def deps : List AV → Nat
  | [] => 0
  | x :: xs => max (dep x) (deps xs)
end
mutual
def allL (G : Fl → List AV → Prop) : AV → Prop
  | .tup xs => allLs G xs
  | .lst f xs => G f xs ∧ allLs G xs
  | _ => True
def allLs (G : Fl → List AV → Prop) : List AV → Prop
  | [] => True
  | x :: xs => allL G x ∧ allLs G xs
end
theorem deps_mem {v : AV} : ∀ {xs : List AV}, v ∈ xs → dep v ≤ deps xs
  | x :: xs, h => by
    unfold deps
    cases h with
    | head => omega
    | tail _ h => have := deps_mem h; omega
section
variable {w : Wd} {ρ ρ' : Nat → Addr} {A A' : St} {H H' : Hp} {env : Env} {σ : L2.St} {g : Gb} {ns : List Nat}
/-- what lies at one place is as deep, however it is read -/
theorem dep_eq : ∀ {v u : AV} {x : V}, RelA w ρ A H v x → pureB v = true → pureB u = true → RelA w ρ A H u x → dep v = dep u := by
  have key : ∀ n : Nat, (∀ v : AV, sizeOf v < n → ∀ u x, RelA w ρ A H v x → pureB v = true → pureB u = true → RelA w ρ A H u x → dep v = dep u) ∧ (∀ l : List AV, sizeOf l < n → ∀ l2 xs, RelAs w ρ A H l xs → pureBs l = true → pureBs l2 = true → RelAs w ρ A H l2 xs → deps l = deps l2) := by
    intro n
    induction n with
    | zero => exact ⟨fun v h => absurd h (Nat.not_lt_zero _), fun v h => absurd h (Nat.not_lt_zero _)⟩
    | succ n ih =>
      refine ⟨fun v hv u x r pv pu r2 => ?_, fun l hv l2 xs r pv pu r2 => ?_⟩
      · have sc : ∀ {v : AV} {x : V}, RelA w ρ A H v x → pureB v = true → (∀ p, x ≠ .ref p) → dep v = 0 := fun {v x} r pv hx => by
          cases v with
          | tup xs => unfold RelA at r; obtain ⟨p, _, e, _⟩ := r; exact absurd e (hx p)
          | lst f xs => unfold RelA at r; obtain ⟨p, _, e, _⟩ := r; exact absurd e (hx p)
          | ref n => unfold RelA at r; exact absurd r.2 (hx _)
          | scr ns => unfold RelA at r; obtain ⟨p, e, _⟩ := r; exact absurd e (hx p)
          | exc c xs => unfold pureB at pv; cases pv
          | _ => unfold dep; rfl
        have bad : ∀ {v : AV} {p : Addr}, RelA w ρ A H v (.ref p) → pureB v = true → (∃ xs us, v = .tup xs ∧ H p = some (.tup us) ∧ RelAs w ρ A H xs us ∧ pureBs xs = true) ∨ (∃ f xs us, v = .lst f xs ∧ H p = some (.lst us) ∧ RelAs w ρ A H xs us ∧ pureBs xs = true) := fun {v p} r pv => by
          cases v with
          | tup xs => unfold RelA at r; unfold pureB at pv; obtain ⟨p, us, e, h1, _, r⟩ := r; cases e; exact .inl ⟨xs, us, rfl, h1, r, pv⟩
          | lst f xs => unfold RelA at r; unfold pureB at pv; obtain ⟨p, us, e, h1, _, _, _, r⟩ := r; cases e; exact .inr ⟨f, xs, us, rfl, h1, r, pv⟩
          | ref n => unfold pureB at pv; cases pv
          | scr ns => unfold pureB at pv; cases pv
          | exc c xs => unfold pureB at pv; cases pv
          | _ => unfold RelA at r; cases r
        by_cases hx : ∃ p, x = .ref p
        · obtain ⟨p, rfl⟩ := hx
          rcases bad r pv with ⟨xs, us, rfl, h1, r, pv⟩ | ⟨f, xs, us, rfl, h1, r, pv⟩ <;> rcases bad r2 pu with ⟨xs', us', rfl, h1', r', pv'⟩ | ⟨f', xs', us', rfl, h1', r', pv'⟩
          · rw [h1] at h1'; cases h1'
            unfold dep
            rw [ih.2 xs (by simp at hv; omega) xs' us r pv pv' r']
          · rw [h1] at h1'; cases h1'
          · rw [h1] at h1'; cases h1'
          · rw [h1] at h1'; cases h1'
            unfold dep
            rw [ih.2 xs (by simp at hv; omega) xs' us r pv pv' r']
        · rw [sc r pv (fun p e => hx ⟨p, e⟩), sc r2 pu (fun p e => hx ⟨p, e⟩)]
      · cases l with
        | nil =>
          rw [r.nil_of] at r2
          cases l2 with
          | nil => rfl
          | cons y ys => obtain ⟨_, _, e, _⟩ := r2.cons_of; cases e
        | cons v l =>
          obtain ⟨y, ys, rfl, r3, r4⟩ := r.cons_of
          cases l2 with
          | nil => have := r2.nil_of; cases this
          | cons v2 l2 =>
            obtain ⟨y', ys', e, r5, r6⟩ := r2.cons_of
            cases e
            unfold pureBs at pv pu
            obtain ⟨p1, p2⟩ := Bool.and_eq_true_iff.mp pv
            obtain ⟨p3, p4⟩ := Bool.and_eq_true_iff.mp pu
            unfold deps
            rw [ih.1 v (by simp at hv; omega) v2 y r3 p1 p3 r5, ih.2 l (by simp at hv; omega) l2 ys r4 p2 p4 r6]
  intro v u x r pv pu r2
  exact (key (sizeOf v + 1)).1 v (Nat.lt_succ_self _) u x r pv pu r2
/-- an answer as the caller sees it -/
theorem imp_rel {wk : Wd} {ρ' : Nat → Addr} {A' : St} {ρ'' : Nat → Addr} {A'' : St} {G : Fl → List AV → Prop} (hm : ∀ a, w.H0 a ≠ none → wk.H0 a ≠ none) (hfb : ∀ a, w.Fb a → wk.Fb a)
    (ht : ∀ p us, H' p = some (.tup us) → ¬ Live A' ρ' p → ¬ Live A'' ρ'' p) (hl : ∀ p vs f xs, H' p = some (.lst vs) → RelA wk ρ' A' H' (.lst f xs) (.ref p) → pureBs xs = true → G f xs → ¬ Live A'' ρ'' p) :
    ∀ {v : AV} {x : V}, pureB v = true → allL G v → RelA wk ρ' A' H' v x → RelA w ρ'' A'' H' (imp v) x := by
  have key : ∀ n : Nat, (∀ v : AV, sizeOf v < n → ∀ x, pureB v = true → allL G v → RelA wk ρ' A' H' v x → RelA w ρ'' A'' H' (imp v) x) ∧ (∀ l : List AV, sizeOf l < n → ∀ xs, pureBs l = true → allLs G l → RelAs wk ρ' A' H' l xs → RelAs w ρ'' A'' H' (imps l) xs) := by
    intro n
    induction n with
    | zero => exact ⟨fun v h => absurd h (Nat.not_lt_zero _), fun v h => absurd h (Nat.not_lt_zero _)⟩
    | succ n ih =>
      refine ⟨fun v hv x pv gv r => ?_, fun l hv xs pv gv r => ?_⟩
      · cases v with
        | tup xs =>
          unfold imp
          unfold RelA at r ⊢
          unfold pureB at pv
          unfold allL at gv
          obtain ⟨p, us, rfl, hp, h2, rs⟩ := r
          exact ⟨p, us, rfl, hp, ht p us hp h2, ih.2 xs (by simp at hv; omega) us pv gv rs⟩
        | lst f xs =>
          have r0 := r
          unfold imp
          unfold RelA at r ⊢
          unfold pureB at pv
          unfold allL at gv
          obtain ⟨p, us, rfl, hp, h2, hf, hfl, rs⟩ := r
          refine ⟨p, us, rfl, hp, hl p us f xs hp r0 pv gv.1, fun z => hf (hfb _ z), ?_, ih.2 xs (by simp at hv; omega) us pv gv.2 rs⟩
          cases f with
          | new =>
            show w.H0 p = none
            have hfl' : wk.H0 p = none := hfl
            cases e : w.H0 p with
            | none => rfl
            | some o => exact absurd hfl' (hm p (by rw [e]; exact fun z => nomatch z))
          | old => exact True.intro
          | any => exact True.intro
        | ref n => unfold pureB at pv; cases pv
        | scr ns => unfold pureB at pv; cases pv
        | exc c xs => unfold pureB at pv; cases pv
        | _ => unfold imp; unfold RelA at r ⊢; exact r
      · cases l with
        | nil => unfold imps; unfold RelAs at r ⊢; exact r
        | cons v l =>
          obtain ⟨y, ys, rfl, r1, r2⟩ := r.cons_of
          unfold pureBs at pv
          unfold allLs at gv
          obtain ⟨p1, p2⟩ := Bool.and_eq_true_iff.mp pv
          unfold imps
          exact RelAs.cons (ih.1 v (by simp at hv; omega) y p1 gv.1 r1) (ih.2 l (by simp at hv; omega) ys p2 gv.2 r2)
  intro v x pv gv r
  exact (key (sizeOf v + 1)).1 v (Nat.lt_succ_self _) x pv gv r
theorem imps_rel {wk : Wd} {ρ' : Nat → Addr} {A' : St} {ρ'' : Nat → Addr} {A'' : St} {G : Fl → List AV → Prop} (hm : ∀ a, w.H0 a ≠ none → wk.H0 a ≠ none) (hfb : ∀ a, w.Fb a → wk.Fb a)
    (ht : ∀ p us, H' p = some (.tup us) → ¬ Live A' ρ' p → ¬ Live A'' ρ'' p) (hl : ∀ p vs f xs, H' p = some (.lst vs) → RelA wk ρ' A' H' (.lst f xs) (.ref p) → pureBs xs = true → G f xs → ¬ Live A'' ρ'' p) :
    ∀ {v : List AV} {x : List V}, pureBs v = true → allLs G v → RelAs wk ρ' A' H' v x → RelAs w ρ'' A'' H' (imps v) x
  | [], _, _, _, r => by rw [r.nil_of]; unfold imps; exact RelAs.nil
  | v :: vs, _, pv, gv, r => by
    obtain ⟨y, ys, rfl, r1, r2⟩ := r.cons_of
    unfold pureBs at pv
    unfold allLs at gv
    obtain ⟨p1, p2⟩ := Bool.and_eq_true_iff.mp pv
    unfold imps
    exact RelAs.cons (imp_rel hm hfb ht hl p1 gv.1 r1) (imps_rel hm hfb ht hl p2 gv.2 r2)
/-! ## what putC does -/
theorem putC_len : ∀ {c : List (Option Cell)} {ns : List Nat} {cs : List (List AV)}, (putC c ns cs).length = c.length
  | c, n :: ns, xs :: cs => by
    unfold putC
    rw [putC_len, List.length_set]
  | c, [], _ => by unfold putC; rfl
  | c, n :: ns, [] => by unfold putC; rfl
theorem putC_out : ∀ {c : List (Option Cell)} {ns : List Nat} {cs : List (List AV)} {m : Nat}, m ∉ ns → (putC c ns cs)[m]? = c[m]?
  | c, n :: ns, xs :: cs, m, h => by
    have hne : n ≠ m := fun z => h (by rw [← z]; exact List.mem_cons_self)
    unfold putC
    rw [putC_out (fun z => h (List.mem_cons_of_mem _ z)), List.getElem?_set_ne hne]
  | c, [], _, _, _ => by unfold putC; rfl
  | c, n :: ns, [], _, _ => by unfold putC; rfl
theorem putC_in : ∀ {c : List (Option Cell)} {ns : List Nat} {cs : List (List AV)} {j n : Nat} {xs : List AV}, ns.Nodup → (∀ n ∈ ns, n < c.length) → ns[j]? = some n → cs[j]? = some xs → (putC c ns cs)[n]? = some (some (.lst (imps xs)))
  | c, m :: ns, ys :: cs, 0, n, xs, hd, hl, h1, h2 => by
    have e1 : m = n := by simpa using h1
    have e2 : ys = xs := by simpa using h2
    subst e1; subst e2
    unfold putC
    rw [putC_out (List.nodup_cons.mp hd).1, List.getElem?_set_self (hl m List.mem_cons_self)]
  | c, m :: ns, ys :: cs, j + 1, n, xs, hd, hl, h1, h2 => by
    unfold putC
    exact putC_in (List.nodup_cons.mp hd).2 (fun k hk => by rw [List.length_set]; exact hl k (List.mem_cons_of_mem _ hk)) (by simpa using h1) (by simpa using h2)
  | c, [], _, _, _, _, _, _, h1, _ => by simp at h1
  | c, n :: ns, [], _, _, _, _, _, _, h2 => by simp at h2
theorem ioN_mem : ∀ {io : List Bool} {vs : List AV} {xs : List V} {ns : List Nat}, ioN io vs = some ns → RelAs w ρ A H vs xs → ∀ n ∈ ns, n < A.c.length
  | [], [], _, ns, h, _ => by cases h; exact fun n hn => nomatch hn
  | true :: io, v :: vs, _, ns, h, r => by
    obtain ⟨y, ys, rfl, r1, r2⟩ := r.cons_of
    cases v with
    | ref n =>
      unfold ioN at h
      cases e : ioN io vs with
      | none => rw [e] at h; cases h
      | some ms =>
        rw [e] at h
        cases h
        intro k hk
        cases hk with
        | head => unfold RelA at r1; exact r1.1
        | tail _ hk => exact ioN_mem e r2 k hk
    | _ => cases h
  | false :: io, v :: vs, _, ns, h, r => by
    obtain ⟨y, ys, rfl, r1, r2⟩ := r.cons_of
    exact ioN_mem (io := io) (vs := vs) (by simpa [ioN] using h) r2
  | [], _ :: _, _, _, h, _ => by cases h
  | true :: _, [], _, _, h, _ => by cases h
  | false :: _, [], _, _, h, _ => by cases h

/-- the callee's situation -/
theorem callee_sit {cs : List (List AV)} {l : Bool} (S : Sit w ρ A H env σ) (hd : ns.Nodup) (hc : contents A ns = some cs) (hp : ∀ n ∈ ns, n < A.c.length) : Sit (wc w ρ A H ns l) (rc ρ ns) (ent cs) H [] [] := by
  obtain ⟨cl, cg⟩ := contents_get hc
  have hns : ∀ n ∈ ns, ∃ c, A.c[n]? = some (some c) := fun n hn => by
    obtain ⟨j, hj, e⟩ := List.mem_iff_getElem.mp hn
    obtain ⟨xs, h1, _, _⟩ := cg j n (by rw [List.getElem?_eq_getElem hj, e])
    exact ⟨_, cellAt_some h1⟩
  have rcj : ∀ j n, ns[j]? = some n → rc ρ ns j = ρ n := fun j n h => by
    unfold rc
    rw [List.getD_eq_getElem?_getD, h]
    rfl
  refine ⟨fun a o h _ => h, fun a h => h, fun a h => ?_, fun n m c c' e1 e2 q => ?_, fun n c e => ?_, ?_, fun j hj => rfl, fun p hp => (nomatch hp), ⟨rfl, fun i v h => by simp at h⟩⟩
  · rcases h with h | ⟨_, n, c, e, _, q⟩
    · exact S.fb a h
    · obtain ⟨o, ho⟩ := (S.cell n c e).2.1.some
      rw [← q, ho]; exact fun z => nomatch z
  · obtain ⟨xs, rfl, ex⟩ := ent_get e1
    obtain ⟨ys, rfl, ey⟩ := ent_get e2
    have hn : n < ns.length := by rw [← cl]; exact (List.getElem?_eq_some_iff.mp ex).1
    have hm : m < ns.length := by rw [← cl]; exact (List.getElem?_eq_some_iff.mp ey).1
    rw [rcj n ns[n] (List.getElem?_eq_getElem hn), rcj m ns[m] (List.getElem?_eq_getElem hm)] at q
    obtain ⟨c1, f1⟩ := hns _ (List.getElem_mem hn)
    obtain ⟨c2, f2⟩ := hns _ (List.getElem_mem hm)
    have := S.inj _ _ _ _ f1 f2 q
    exact (List.getElem_inj hd).mp this
  · obtain ⟨xs, rfl, ex⟩ := ent_get e
    have hn : n < ns.length := by rw [← cl]; exact (List.getElem?_eq_some_iff.mp ex).1
    obtain ⟨xs0, h1, h2, h3⟩ := cg n ns[n] (List.getElem?_eq_getElem hn)
    rw [h3] at ex
    cases ex
    rw [rcj n ns[n] (List.getElem?_eq_getElem hn)]
    obtain ⟨c1, ⟨us, hu, ru⟩, c3⟩ := S.cell _ _ (cellAt_some h1)
    refine ⟨fun z => ?_, ⟨us, hu, olds_rel S cl hns h2 ru⟩, .inl ⟨hn, ns[n], List.getElem_mem hn, rfl⟩⟩
    rcases z with z | ⟨_, m, c, e, hm, q⟩
    · exact c1 z
    · have := S.inj _ _ _ _ e (cellAt_some h1) q
      exact hm (this ▸ List.getElem_mem hn)
  · rw [ent_len, cl]
    exact ⟨(by show ns.length ≤ cs.length; omega), (by show cs.length ≤ ns.length; omega)⟩
theorem contents_len {cs : List (List AV)} (hc : contents A ns = some cs) : cs.length = ns.length := (contents_get hc).1
theorem exp_args {cs : List (List AV)} {io : List Bool} {vs : List AV} {xs : List V} {as : List AV} {ns0 : List Nat} {j : Nat} (S : Sit w ρ A H env σ) (hc : contents A ns = some cs) (l : Bool) (hl : lent io vs = true → l = true) (hi : ioN io vs = some ns0) (hj : ns.drop j = ns0) (h : expA A ns j io vs = some as) (r : RelAs w ρ A H vs xs) :
    RelAs (wc w ρ A H ns l) (rc ρ ns) (ent cs) H as xs := by
  obtain ⟨cl, cg⟩ := contents_get hc
  have hns : ∀ n ∈ ns, ∃ c, A.c[n]? = some (some c) := fun n hn => by
    obtain ⟨j, hj, e⟩ := List.mem_iff_getElem.mp hn
    obtain ⟨xs, h1, _, _⟩ := cg j n (by rw [List.getElem?_eq_getElem hj, e])
    exact ⟨_, cellAt_some h1⟩
  induction io generalizing vs xs as ns0 j with
  | nil =>
    cases vs with
    | nil => cases h; rw [r.nil_of]; exact RelAs.nil
    | cons v vs => cases h
  | cons b io ih =>
    cases vs with
    | nil => cases b <;> cases h
    | cons v vs =>
      obtain ⟨y, ys, rfl, r1, r2⟩ := r.cons_of
      cases b with
      | true =>
        cases v with
        | ref n =>
          unfold ioN at hi
          unfold expA at h
          unfold lent at hl
          cases e1 : ioN io vs with
          | none => rw [e1] at hi; cases hi
          | some ms =>
            rw [e1] at hi
            cases hi
            cases e2 : expA A ns (j + 1) io vs with
            | none => rw [e2] at h; cases h
            | some us =>
              rw [e2] at h
              cases h
              have hjn : ns[j]? = some n := by
                have : (ns.drop j)[0]? = some n := by rw [hj]; rfl
                rw [List.getElem?_drop] at this
                simpa using this
              have hd2 : ns.drop (j + 1) = ms := by
                rw [← List.drop_drop, hj]
                rfl
              refine RelAs.cons ?_ (ih hl e1 hd2 e2 r2)
              unfold RelA at r1 ⊢
              obtain ⟨_, rfl⟩ := r1
              refine ⟨by rw [ent_len, cl]; exact (List.getElem?_eq_some_iff.mp hjn).1, ?_⟩
              unfold rc
              rw [List.getD_eq_getElem?_getD, hjn]
              rfl
        | _ => cases hi
      | false =>
        have hi' : ioN io vs = some ns0 := by simpa [ioN] using hi
        unfold expA at h
        cases e1 : expV A ns 40 v with
        | none => rw [e1] at h; cases h
        | some u =>
          cases e2 : expA A ns j io vs with
          | none => rw [e1, e2] at h; cases h
          | some us =>
            rw [e1, e2] at h
            cases h
            refine RelAs.cons (exp_rel S cl hns 40 (fun e => ?_) e1 r1) (ih (fun z => hl ?_) hi' hj e2 r2)
            · have hl0 : lent (false :: io) (v :: vs) = false := by
                cases q : lent (false :: io) (v :: vs) with
                | false => rfl
                | true => rw [hl q] at e; cases e
              unfold lent at hl0
              obtain ⟨q1, _⟩ := Bool.or_eq_false_iff.mp hl0
              cases v with
              | scr ks => exact .inr ⟨ks, rfl⟩
              | _ => exact .inl (by simpa using q1)
            · unfold lent
              rw [z]
              simp
end
end Sx

namespace Sx
open PySem PySem.Spec PyProof.Rows L2
section
variable {w : Wd} {ρ ρ' : Nat → Addr} {A A' : St} {H H' : Hp} {env : Env} {σ : L2.St} {g : Gb} {ns : List Nat}
/-- back from a call -/
theorem back {cs cs' : List (List AV)} {l : Bool} (S : Sit w ρ A H env σ) (hd : ns.Nodup) (hc : contents A ns = some cs) (hp : ∀ n ∈ ns, n < A.c.length) (hl : cs'.length = cs.length) (Sc : Sit (wc w ρ A H ns l) ρ' (ent cs') H' [] [])
    (pc : cs'.all pureBs = true) (nb : l = true → cs'.all newBs = true) : Ext ρ A H ρ ⟨putC A.c ns cs', A.lo⟩ H' ∧ Sit w ρ ⟨putC A.c ns cs', A.lo⟩ H' env σ ∧
      (∀ p us, H' p = some (.tup us) → ¬ Live (ent cs') ρ' p → ¬ Live ⟨putC A.c ns cs', A.lo⟩ ρ p) ∧
      (∀ p us, H' p = some (.xd us) → ¬ Live (ent cs') ρ' p → ¬ Live ⟨putC A.c ns cs', A.lo⟩ ρ p) ∧
      (∀ p vs f xs, H' p = some (.lst vs) → RelA (wc w ρ A H ns l) ρ' (ent cs') H' (.lst f xs) (.ref p) → pureBs xs = true → (l = true → f = .new) → ¬ Live ⟨putC A.c ns cs', A.lo⟩ ρ p) := by
  obtain ⟨cl, cg⟩ := contents_get hc
  have hj : ∀ n ∈ ns, ∃ j xs, ns[j]? = some n ∧ cs'[j]? = some xs ∧ ρ' j = ρ n ∧ j < ns.length := fun n hn => by
    obtain ⟨j, hj, e⟩ := List.mem_iff_getElem.mp hn
    have hj' : j < cs'.length := by omega
    refine ⟨j, cs'[j], by rw [List.getElem?_eq_getElem hj, e], List.getElem?_eq_getElem hj', ?_, hj⟩
    have := Sc.ins j hj
    rw [this]
    show ρ (ns.getD j 0) = ρ n
    rw [List.getD_eq_getElem?_getD, List.getElem?_eq_getElem hj, e]
    rfl
  have hns : ∀ n ∈ ns, ∃ c, A.c[n]? = some (some c) := fun n hn => by
    obtain ⟨j, hj, e⟩ := List.mem_iff_getElem.mp hn
    obtain ⟨xs, h1, _, _⟩ := cg j n (by rw [List.getElem?_eq_getElem hj, e])
    exact ⟨_, cellAt_some h1⟩
  have inp : ∀ n ∈ ns, ∃ xs, xs ∈ cs' ∧ (putC A.c ns cs')[n]? = some (some (.lst (imps xs))) ∧ (∃ vs, H' (ρ n) = some (.lst vs) ∧ RelAs (wc w ρ A H ns l) ρ' (ent cs') H' xs vs) ∧ Live (ent cs') ρ' (ρ n) := fun n hn => by
    obtain ⟨j, xs, h1, h2, h3, _⟩ := hj n hn
    obtain ⟨_, hcell, _⟩ := Sc.cell j _ (ent_of h2)
    rw [h3] at hcell
    exact ⟨xs, List.mem_of_getElem? h2, putC_in hd hp h1 h2, hcell, ⟨j, _, ent_of h2, h3⟩⟩
  have out : ∀ n, n ∉ ns → (putC A.c ns cs')[n]? = A.c[n]? := fun n hn => putC_out hn
  have lv : ∀ p, Live ⟨putC A.c ns cs', A.lo⟩ ρ p → Live A ρ p := fun p h => by
    obtain ⟨n, c, e, q⟩ := h
    by_cases hn : n ∈ ns
    · obtain ⟨c', e'⟩ := hns n hn
      exact ⟨n, c', e', q⟩
    · exact ⟨n, c, by rw [← out n hn]; exact e, q⟩
  have nmu : ∀ p, ¬ Live A ρ p → ¬ (wc w ρ A H ns l).Mu p := fun p h z => by
    obtain ⟨n, hn, q⟩ := z
    obtain ⟨c', e'⟩ := hns n hn
    exact h ⟨n, c', e', q⟩
  have e : Ext ρ A H ρ ⟨putC A.c ns cs', A.lo⟩ H' :=
    ⟨by show A.c.length ≤ (putC A.c ns cs').length; rw [putC_len]; exact Nat.le_refl _, rfl, fun _ _ => rfl, fun a o ho hl => ⟨Sc.keep a o ho (nmu a hl), fun z => hl (lv a z)⟩, fun a ha => Sc.mono a ha⟩
  have sm : ∀ n c, n ∉ ns → A.c[n]? = some (some c) → H' (ρ n) = H (ρ n) := fun n c hn en => by
    obtain ⟨o, ho⟩ := (S.cell n c en).2.1.some
    rw [ho]
    refine Sc.keep _ _ ho fun z => ?_
    obtain ⟨m, hm, q⟩ := z
    obtain ⟨c', e'⟩ := hns m hm
    exact hn (S.inj _ _ _ _ e' en q ▸ hm)
  have lvx : ∀ p, Live ⟨putC A.c ns cs', A.lo⟩ ρ p → Live (ent cs') ρ' p ∨ ∃ n c, n ∉ ns ∧ A.c[n]? = some (some c) ∧ ρ n = p := fun p h => by
    obtain ⟨n, c, en, q⟩ := h
    by_cases hn : n ∈ ns
    · obtain ⟨_, _, _, _, h4⟩ := inp n hn
      exact .inl (q ▸ h4)
    · exact .inr ⟨n, c, hn, by rw [← out n hn]; exact en, q⟩
  have tups : ∀ p us, H' p = some (.tup us) → ¬ Live (ent cs') ρ' p → ¬ Live ⟨putC A.c ns cs', A.lo⟩ ρ p := fun p us hp h z => by
    rcases lvx p z with z | ⟨n, c, hn, en, q⟩
    · exact h z
    · have := sm n c hn en
      rw [q, hp] at this
      have hcell := (S.cell n c en).2.1
      rw [q] at hcell
      cases c with
      | lst xs => obtain ⟨_, hu, _⟩ := hcell; rw [hu] at this; cases this
      | dK ks xs => obtain ⟨_, hu, _⟩ := hcell; rw [hu] at this; cases this
      | dT ks xs => obtain ⟨_, hu, _⟩ := hcell; rw [hu] at this; cases this
  have xds : ∀ p us, H' p = some (.xd us) → ¬ Live (ent cs') ρ' p → ¬ Live ⟨putC A.c ns cs', A.lo⟩ ρ p := fun p us hp h z => by
    rcases lvx p z with z | ⟨n, c, hn, en, q⟩
    · exact h z
    · have := sm n c hn en
      rw [q, hp] at this
      have hcell := (S.cell n c en).2.1
      rw [q] at hcell
      cases c with
      | lst xs => obtain ⟨_, hu, _⟩ := hcell; rw [hu] at this; cases this
      | dK ks xs => obtain ⟨_, hu, _⟩ := hcell; rw [hu] at this; cases this
      | dT ks xs => obtain ⟨_, hu, _⟩ := hcell; rw [hu] at this; cases this
  have lsts : ∀ p vs f xs, H' p = some (.lst vs) → RelA (wc w ρ A H ns l) ρ' (ent cs') H' (.lst f xs) (.ref p) → pureBs xs = true → (l = true → f = .new) → ¬ Live ⟨putC A.c ns cs', A.lo⟩ ρ p := fun p vs f xs hp r px hg z => by
    unfold RelA at r
    obtain ⟨p', us, e1, h1, h2, h3, h4, _⟩ := r
    cases e1
    rcases lvx p z with z | ⟨n, c, hn, en, q⟩
    · exact h2 z
    · cases l with
      | false => exact h3 (.inr ⟨rfl, n, c, en, hn, q⟩)
      | true =>
        rw [hg rfl] at h4
        have h4' : H p = none := h4
        obtain ⟨o, ho⟩ := (S.cell n c en).2.1.some
        rw [q, h4'] at ho; cases ho
  refine ⟨e, ⟨fun a o h1 nm => ?_, fun a h => Sc.mono a (S.mono a h), fun a h => Sc.fb a (.inl h), fun n m c c' e1 e2 q => ?_, fun n c en => ?_, ⟨S.lo.1, by show A.lo ≤ (putC A.c ns cs').length; rw [putC_len]; exact S.lo.2⟩, S.ins, S.pendE e, S.env.ext e⟩, tups, xds, lsts⟩
  · refine Sc.keep a o (S.keep a o h1 nm) fun z => ?_
    obtain ⟨n, hn, q⟩ := z
    obtain ⟨c, en⟩ := hns n hn
    rcases (S.cell n c en).2.2 with ⟨_, h3⟩ | ⟨_, h3⟩
    · exact nm (q ▸ h3)
    · rw [q, h1] at h3; cases h3
  · have w1 : ∀ n c, (putC A.c ns cs')[n]? = some (some c) → ∃ c, A.c[n]? = some (some c) := fun n c en => by
      by_cases hn : n ∈ ns
      · exact hns n hn
      · exact ⟨c, by rw [← out n hn]; exact en⟩
    obtain ⟨d, f1⟩ := w1 n c e1
    obtain ⟨d', f2⟩ := w1 m c' e2
    exact S.inj _ _ _ _ f1 f2 q
  · by_cases hn : n ∈ ns
    · obtain ⟨c0, e0⟩ := hns n hn
      obtain ⟨xs, h0, h1, ⟨vs, h2, h3⟩, h4⟩ := inp n hn
      have en' : (putC A.c ns cs')[n]? = some (some c) := en
      rw [h1] at en'
      cases en'
      refine ⟨(S.cell n c0 e0).1, ⟨vs, h2, ?_⟩, (S.cell n c0 e0).2.2⟩
      have px : pureBs xs = true := List.all_eq_true.mp pc xs h0
      refine imps_rel (G := fun f _ => l = true → f = .new) (wk := wc w ρ A H ns l) (fun a => S.mono a) (fun a => Or.inl) tups lsts px ?_ h3
      cases l with
      | false =>
        have al : ∀ n : Nat, (∀ v : AV, sizeOf v < n → allL (fun f _ => false = true → f = Fl.new) v) ∧ (∀ v : List AV, sizeOf v < n → allLs (fun f _ => false = true → f = Fl.new) v) := by
          intro n
          induction n with
          | zero => exact ⟨fun v h => absurd h (Nat.not_lt_zero _), fun v h => absurd h (Nat.not_lt_zero _)⟩
          | succ n ih =>
            refine ⟨fun v hv => ?_, fun v hv => ?_⟩
            · cases v with
              | tup xs => unfold allL; exact ih.2 xs (by simp at hv; omega)
              | lst f xs => unfold allL; exact ⟨(fun z => nomatch z), ih.2 xs (by simp at hv; omega)⟩
              | _ => unfold allL; exact True.intro
            · cases v with
              | nil => unfold allLs; exact True.intro
              | cons x v => unfold allLs; exact ⟨ih.1 x (by simp at hv; omega), ih.2 v (by simp at hv; omega)⟩
        exact (al (sizeOf xs + 1)).2 xs (Nat.lt_succ_self _)
      | true =>
        have nx := List.all_eq_true.mp (nb rfl) xs h0
        have al : ∀ n : Nat, (∀ v : AV, sizeOf v < n → newB v = true → allL (fun f _ => true = true → f = Fl.new) v) ∧ (∀ v : List AV, sizeOf v < n → newBs v = true → allLs (fun f _ => true = true → f = Fl.new) v) := by
          intro n
          induction n with
          | zero => exact ⟨fun v h => absurd h (Nat.not_lt_zero _), fun v h => absurd h (Nat.not_lt_zero _)⟩
          | succ n ih =>
            refine ⟨fun v hv nv => ?_, fun v hv nv => ?_⟩
            · cases v with
              | tup xs => unfold allL; unfold newB at nv; exact ih.2 xs (by simp at hv; omega) nv
              | lst f xs =>
                unfold allL; unfold newB at nv
                obtain ⟨n1, n2⟩ := Bool.and_eq_true_iff.mp nv
                exact ⟨(fun _ => of_decide_eq_true n1), ih.2 xs (by simp at hv; omega) n2⟩
              | _ => unfold allL; exact True.intro
            · cases v with
              | nil => unfold allLs; exact True.intro
              | cons x v =>
                unfold allLs; unfold newBs at nv
                obtain ⟨n1, n2⟩ := Bool.and_eq_true_iff.mp nv
                exact ⟨ih.1 x (by simp at hv; omega) n1, ih.2 v (by simp at hv; omega) n2⟩
        exact (al (sizeOf xs + 1)).2 xs (Nat.lt_succ_self _) nx
    · have en' : A.c[n]? = some (some c) := by rw [← out n hn]; exact en
      obtain ⟨c1, c2, c3⟩ := S.cell n c en'
      exact ⟨c1, c2.ext e (sm n c hn en'), c3⟩
end
end Sx

namespace Sx
open PySem PySem.Spec PyProof.Rows L2
section
variable {w : Wd} {ρ ρ' : Nat → Addr} {A A' : St} {H H' : Hp} {env : Env} {σ : L2.St} {g : Gb} {ns : List Nat}
theorem deps_cons {x : AV} {xs : List AV} : deps (x :: xs) = max (dep x) (deps xs) := by rw [deps]
theorem allL_of {l : Bool} {b : Nat} : (∀ v : AV, (l = true → newB v = true) → dep v < b → allL (fun f xs => (l = true → f = Fl.new) ∧ (deps xs + 1 < b ∨ f = .old)) v) ∧ (∀ v : List AV, (l = true → newBs v = true) → deps v < b → allLs (fun f xs => (l = true → f = Fl.new) ∧ (deps xs + 1 < b ∨ f = .old)) v) := by
  have al : ∀ n : Nat, (∀ v : AV, sizeOf v < n → (l = true → newB v = true) → dep v < b → allL (fun f xs => (l = true → f = Fl.new) ∧ (deps xs + 1 < b ∨ f = .old)) v) ∧ (∀ v : List AV, sizeOf v < n → (l = true → newBs v = true) → deps v < b → allLs (fun f xs => (l = true → f = Fl.new) ∧ (deps xs + 1 < b ∨ f = .old)) v) := by
    intro n
    induction n with
    | zero => exact ⟨fun v h => absurd h (Nat.not_lt_zero _), fun v h => absurd h (Nat.not_lt_zero _)⟩
    | succ n ih =>
      refine ⟨fun v hv nv dv => ?_, fun v hv nv dv => ?_⟩
      · cases v with
        | tup xs =>
          unfold allL
          unfold dep at dv
          exact ih.2 xs (by simp at hv; omega) (fun z => by have := nv z; unfold newB at this; exact this) (by omega)
        | lst f xs =>
          unfold allL
          unfold dep at dv
          refine ⟨⟨fun z => ?_, .inl dv⟩, ih.2 xs (by simp at hv; omega) (fun z => ?_) (by omega)⟩
          · have := nv z; unfold newB at this
            exact of_decide_eq_true (Bool.and_eq_true_iff.mp this).1
          · have := nv z; unfold newB at this
            exact (Bool.and_eq_true_iff.mp this).2
        | _ => unfold allL; exact True.intro
      · cases v with
        | nil => unfold allLs; exact True.intro
        | cons x v =>
          unfold allLs
          have hd := @deps_cons x v
          refine ⟨ih.1 x (by simp at hv; omega) (fun z => ?_) (by omega), ih.2 v (by simp at hv; omega) (fun z => ?_) (by omega)⟩
          · have := nv z; unfold newBs at this
            exact (Bool.and_eq_true_iff.mp this).1
          · have := nv z; unfold newBs at this
            exact (Bool.and_eq_true_iff.mp this).2
  exact ⟨fun v => (al (sizeOf v + 1)).1 v (Nat.lt_succ_self _), fun v => (al (sizeOf v + 1)).2 v (Nat.lt_succ_self _)⟩
theorem allL_old {l : Bool} {b : Nat} : (∀ v : AV, (l = true → newB v = true) → oldB v = true → allL (fun f xs => (l = true → f = Fl.new) ∧ (deps xs + 1 < b ∨ f = .old)) v) ∧ (∀ v : List AV, (l = true → newBs v = true) → oldBs v = true → allLs (fun f xs => (l = true → f = Fl.new) ∧ (deps xs + 1 < b ∨ f = .old)) v) := by
  have al : ∀ n : Nat, (∀ v : AV, sizeOf v < n → (l = true → newB v = true) → oldB v = true → allL (fun f xs => (l = true → f = Fl.new) ∧ (deps xs + 1 < b ∨ f = .old)) v) ∧ (∀ v : List AV, sizeOf v < n → (l = true → newBs v = true) → oldBs v = true → allLs (fun f xs => (l = true → f = Fl.new) ∧ (deps xs + 1 < b ∨ f = .old)) v) := by
    intro n
    induction n with
    | zero => exact ⟨fun v h => absurd h (Nat.not_lt_zero _), fun v h => absurd h (Nat.not_lt_zero _)⟩
    | succ n ih =>
      refine ⟨fun v hv nv dv => ?_, fun v hv nv dv => ?_⟩
      · cases v with
        | tup xs =>
          unfold allL
          unfold oldB at dv
          exact ih.2 xs (by simp at hv; omega) (fun z => by have := nv z; unfold newB at this; exact this) dv
        | lst f xs =>
          unfold allL
          unfold oldB at dv
          obtain ⟨d1, d2⟩ := Bool.and_eq_true_iff.mp dv
          refine ⟨⟨fun z => ?_, .inr (of_decide_eq_true d1)⟩, ih.2 xs (by simp at hv; omega) (fun z => ?_) d2⟩
          · have := nv z; unfold newB at this
            exact of_decide_eq_true (Bool.and_eq_true_iff.mp this).1
          · have := nv z; unfold newB at this
            exact (Bool.and_eq_true_iff.mp this).2
        | _ => unfold allL; exact True.intro
      · cases v with
        | nil => unfold allLs; exact True.intro
        | cons x v =>
          unfold allLs
          unfold oldBs at dv
          obtain ⟨d1, d2⟩ := Bool.and_eq_true_iff.mp dv
          refine ⟨ih.1 x (by simp at hv; omega) (fun z => ?_) d1, ih.2 v (by simp at hv; omega) (fun z => ?_) d2⟩
          · have := nv z; unfold newBs at this
            exact (Bool.and_eq_true_iff.mp this).1
          · have := nv z; unfold newBs at this
            exact (Bool.and_eq_true_iff.mp this).2
  exact ⟨fun v => (al (sizeOf v + 1)).1 v (Nat.lt_succ_self _), fun v => (al (sizeOf v + 1)).2 v (Nat.lt_succ_self _)⟩
/-- a list that is no cell becomes one -/
theorem Sit.thaw (S : Sit w ρ A H env σ) {H1 : Hp} {ρ1 : Nat → Addr} {A1 : St} (S1 : Sit w ρ1 A1 H1 env σ) (e1 : Ext ρ A H ρ1 A1 H1) (h1 : ∀ (n : Nat) (c : Cell), A1.c[n]? = some (some c) → ∃ c : Cell, A.c[n]? = some (some c)) {p : Addr} {vs : List V} {xs : List AV} (h : H p = none) (hp : H1 p = some (.lst vs)) (hf : ¬ w.Fb p) (h0 : w.H0 p = none)
    (hcs : ∀ (n : Nat) (c : Cell), A1.c[n]? = some (some c) → CellR w (rhoNew ρ1 A1.c.length p) ⟨A1.c ++ [some (.lst xs)], A1.lo⟩ H1 (ρ1 n) c) (r : RelAs w (rhoNew ρ1 A1.c.length p) ⟨A1.c ++ [some (.lst xs)], A1.lo⟩ H1 xs vs) :
    Ext ρ A H (rhoNew ρ1 A1.c.length p) ⟨A1.c ++ [some (.lst xs)], A1.lo⟩ H1 ∧ Sit w (rhoNew ρ1 A1.c.length p) ⟨A1.c ++ [some (.lst xs)], A1.lo⟩ H1 env σ := by
  have ro : ∀ n, n < A1.c.length → rhoNew ρ1 A1.c.length p n = ρ1 n := fun n hn => by unfold rhoNew; rw [if_neg (Nat.ne_of_lt hn)]
  have rn : rhoNew ρ1 A1.c.length p A1.c.length = p := by unfold rhoNew; rw [if_pos rfl]
  have lv : ∀ a, Live ⟨A1.c ++ [some (.lst xs)], A1.lo⟩ (rhoNew ρ1 A1.c.length p) a → Live A1 ρ1 a ∨ a = p := fun a hl => by
    obtain ⟨n, c, e, q⟩ := hl
    rcases get_push e with e | ⟨e, _⟩
    · have hn : n < A1.c.length := (List.getElem?_eq_some_iff.mp e).1
      exact .inl ⟨n, c, e, by rw [← ro n hn]; exact q⟩
    · exact .inr (by rw [← q, e]; exact rn)
  have np : ∀ n c, A1.c[n]? = some (some c) → ρ1 n ≠ p := fun n c en q => by
    obtain ⟨c0, e0⟩ := h1 n c en
    obtain ⟨o, ho⟩ := (S.cell n c0 e0).2.1.some
    rw [← e1.rho n (List.getElem?_eq_some_iff.mp e0).1, q, h] at ho
    cases ho
  have e : Ext ρ A H (rhoNew ρ1 A1.c.length p) ⟨A1.c ++ [some (.lst xs)], A1.lo⟩ H1 := by
    refine ⟨Nat.le_trans e1.len (by simp), e1.lo, fun n hn => (ro n (Nat.lt_of_lt_of_le hn e1.len)).trans (e1.rho n hn), fun a o ho hn => ?_, e1.mono⟩
    obtain ⟨k1, k2⟩ := e1.frz a o ho hn
    refine ⟨k1, fun hl => ?_⟩
    rcases lv a hl with q | q
    · exact k2 q
    · rw [q, h] at ho; cases ho
  refine ⟨e, ⟨S1.keep, S1.mono, S1.fb, fun n m c c' f1 f2 q => ?_, fun n c f1 => ?_, ⟨S1.lo.1, by simp; have := S1.lo.2; omega⟩, fun j hj => (ro j (by have := S1.lo; omega)).trans (S1.ins j hj), fun q hq => ?_, S.env.ext e⟩⟩
  · rcases get_push f1 with f1 | ⟨f1, _⟩ <;> rcases get_push f2 with f2 | ⟨f2, _⟩
    · rw [ro n (List.getElem?_eq_some_iff.mp f1).1, ro m (List.getElem?_eq_some_iff.mp f2).1] at q
      exact S1.inj n m c c' f1 f2 q
    · rw [ro n (List.getElem?_eq_some_iff.mp f1).1, f2, rn] at q
      exact absurd q (np n c f1)
    · rw [ro m (List.getElem?_eq_some_iff.mp f2).1, f1, rn] at q
      exact absurd q.symm (np m c' f2)
    · rw [f1, f2]
  · rcases get_push f1 with f1 | ⟨f1, f2⟩
    · rw [ro n (List.getElem?_eq_some_iff.mp f1).1]
      obtain ⟨c1, c2, c3⟩ := S1.cell n c f1
      exact ⟨c1, hcs n c f1, c3⟩
    · subst f1
      have f2' : c = .lst xs := Option.some.inj f2
      subst f2'
      rw [rn]
      exact ⟨hf, ⟨vs, hp, r⟩, .inr ⟨Nat.le_trans S1.lo.1 S1.lo.2, h0⟩⟩
  · obtain ⟨h1, h2⟩ := S.pend q hq
    refine ⟨?_, h2.ext e⟩
    show below A1.lo q.1 = true
    rw [e1.lo]
    exact h1
/-- a call -/
theorem call_ok {th : Bool} {f : FS} {io : List Bool} {vs : List AV} {us : List V} {Q : VK} {W : WX} (S : Sit w ρ A H env σ) (r : RelAs w ρ A H vs us) (hg : w.g = g) (h : satE (callF th f io vs A) (PE1 RelA w ρ A H env σ Q) (PX1 w ρ A H env σ W)) : spF g f us H Q (WE W σ) := by
  unfold callF at h
  cases e1 : ioN io vs with
  | none => rw [e1] at h; exact h.elim
  | some ns =>
    rw [e1] at h
    dsimp only at h
    by_cases hd : ns.Nodup
    case neg => rw [if_neg hd] at h; exact h.elim
    rw [if_pos hd] at h
    cases e2 : contents A ns with
    | none => rw [e2] at h; exact h.elim
    | some cs =>
      cases e3 : expA A ns 0 io vs with
      | none => rw [e2, e3] at h; exact h.elim
      | some as =>
        rw [e2, e3] at h
        dsimp only at h
        have hp : ∀ n ∈ ns, n < A.c.length := ioN_mem e1 r
        have cl := contents_len e2
        refine ⟨wc w ρ A H ns (lent io vs), rc ρ ns, as, cs, hg, rfl, cl.symm, rfl, callee_sit S hd e2 hp, exp_args S e2 (lent io vs) (fun z => z) e1 (by simp) e3 r, ?_⟩
        have oks : ∀ {xs : List AV} {cs' : List (List AV)}, okOut (lent io vs) xs cs' = true → pureBs xs = true ∧ cs'.all pureBs = true ∧ (lent io vs = true → newBs xs = true) ∧ (lent io vs = true → cs'.all newBs = true) := fun {xs cs'} ho => by
          unfold okOut at ho
          obtain ⟨ho, ho3⟩ := Bool.and_eq_true_iff.mp ho
          obtain ⟨ho1, ho2⟩ := Bool.and_eq_true_iff.mp ho
          have ho3' : lent io vs = true → newBs xs = true ∧ cs'.all newBs = true := fun z => by
            rw [z] at ho3
            exact Bool.and_eq_true_iff.mp (by simpa only [Bool.not_true, Bool.false_or] using ho3)
          exact ⟨ho1, ho2, fun z => (ho3' z).1, fun z => (ho3' z).2⟩
        have mono1 : ∀ a, w.H0 a ≠ none → (wc w ρ A H ns (lent io vs)).H0 a ≠ none := fun a => S.mono a
        cases ef : f as cs with
        | stuck => rw [ef] at h; exact h.elim
        | exc c xs cs' =>
          rw [ef] at h
          dsimp only at h
          by_cases ho : okOut (lent io vs) xs cs' = true ∧ cs'.length = cs.length
          case neg => rw [if_neg ho] at h; exact h.elim
          rw [if_pos ho] at h
          obtain ⟨ho, hlen⟩ := ho
          obtain ⟨o1, o2, o3, o4⟩ := oks ho
          refine ⟨hlen, fun ρ' H' C d Sc rx => ?_⟩
          obtain ⟨eb, Sb, t1, t2, t3⟩ := back S hd e2 hp hlen Sc o2 o4
          obtain ⟨d', fs, vs', k1, k2, k3, k4, k5, k6, k7⟩ := rx
          refine h ρ H' C d eb Sb ⟨d', fs, vs', k1, k2, k3, t2 _ _ k3 k4, k5, k6, ?_⟩
          refine imps_rel (wk := wc w ρ A H ns (lent io vs)) mono1 (fun a => Or.inl) t1 (fun p vs f xs h1 h2 h3 h4 => t3 p vs f xs h1 h2 h3 h4.1) o1 (allL_of.2 xs o3 (Nat.lt_succ_self _)) k7
        | ok v cs' =>
          rw [ef] at h
          dsimp only at h
          by_cases ho : okOut (lent io vs) [v] cs' = true ∧ cs'.length = cs.length
          case neg => rw [if_neg ho] at h; exact h.elim
          rw [if_pos ho] at h
          obtain ⟨ho, hlen⟩ := ho
          obtain ⟨o1, o2, o3, o4⟩ := oks ho
          have o1' : pureB v = true := by unfold pureBs at o1; exact (Bool.and_eq_true_iff.mp o1).1
          have o3' : lent io vs = true → newB v = true := fun z => by
            have := o3 z
            unfold newBs at this
            exact (Bool.and_eq_true_iff.mp this).1
          refine ⟨hlen, fun ρ' H' x Sc rx => ?_⟩
          obtain ⟨eb, Sb, t1, t2, t3⟩ := back S hd e2 hp hlen Sc o2 o4
          have plain : RelA w ρ ⟨putC A.c ns cs', A.lo⟩ H' (imp v) x := imp_rel (wk := wc w ρ A H ns (lent io vs)) mono1 (fun a => Or.inl) t1 (fun p vs f xs h1 h2 h3 h4 => t3 p vs f xs h1 h2 h3 h4.1) o1' (allL_of.1 v o3' (Nat.lt_succ_self _)) rx
          have core : ∀ {xs : List AV} {x : V}, pureBs xs = true → (lent io vs = true → newB (.lst .new xs) = true) → cs'.all oldBs = true → RelA (wc w ρ A H ns (lent io vs)) ρ' (ent cs') H' (.lst .new xs) x →
              ∃ p us', x = .ref p ∧ H' p = some (.lst us') ∧ Ext ρ A H (rhoNew ρ (putC A.c ns cs').length p) ⟨putC A.c ns cs' ++ [some (.lst (imps xs))], A.lo⟩ H' ∧ Sit w (rhoNew ρ (putC A.c ns cs').length p) ⟨putC A.c ns cs' ++ [some (.lst (imps xs))], A.lo⟩ H' env σ := by
            intro xs x o1' o3' hold rx
            have rx0 := rx
            unfold RelA at rx
            obtain ⟨p, us', rfl, q1, q2, q3, q4, q5⟩ := rx
            have hpn : H p = none := q4
            have hpl : ∀ (n : Nat) (c : Cell), (putC A.c ns cs')[n]? = some (some c) → ∃ c : Cell, A.c[n]? = some (some c) := fun n c en => by
              by_cases hn : n ∈ ns
              · obtain ⟨j, hj, e⟩ := List.mem_iff_getElem.mp hn
                obtain ⟨_, h1, _, _⟩ := (contents_get e2).2 j n (by rw [List.getElem?_eq_getElem hj, e])
                exact ⟨_, cellAt_some h1⟩
              · exact ⟨c, by rw [← putC_out hn]; exact en⟩
            have lvn : ∀ q, q ≠ p → ¬ Live ⟨putC A.c ns cs', A.lo⟩ ρ q → ¬ Live ⟨putC A.c ns cs' ++ [some (.lst (imps xs))], A.lo⟩ (rhoNew ρ (putC A.c ns cs').length p) q := fun q hqp hq z => by
              obtain ⟨n, c, en, e⟩ := z
              rcases get_push en with en | ⟨en, _⟩
              · refine hq ⟨n, c, en, ?_⟩
                have hn : n < (putC A.c ns cs').length := (List.getElem?_eq_some_iff.mp en).1
                unfold rhoNew at e
                rw [if_neg (Nat.ne_of_lt hn)] at e
                exact e
              · unfold rhoNew at e
                rw [if_pos en] at e
                exact hqp e.symm
            have t1' : ∀ q us, H' q = some (.tup us) → ¬ Live (ent cs') ρ' q → ¬ Live ⟨putC A.c ns cs' ++ [some (.lst (imps xs))], A.lo⟩ (rhoNew ρ (putC A.c ns cs').length p) q := fun q us hq hq2 => lvn q (fun e => by rw [e, q1] at hq; cases hq) (t1 q us hq hq2)
            have t3' : ∀ q ys f zs, H' q = some (.lst ys) → RelA (wc w ρ A H ns (lent io vs)) ρ' (ent cs') H' (.lst f zs) (.ref q) → pureBs zs = true → ((lent io vs = true → f = Fl.new) ∧ (deps zs + 1 < deps xs + 1 ∨ f = .old)) → ¬ Live ⟨putC A.c ns cs' ++ [some (.lst (imps xs))], A.lo⟩ (rhoNew ρ (putC A.c ns cs').length p) q := fun q ys f zs h1 h2 h3 h4 => by
              refine lvn q (fun e => ?_) (t3 q ys f zs h1 h2 h3 h4.1)
              subst e
              rcases h4.2 with h5 | h5
              · have := dep_eq h2 (by unfold pureB; exact h3) (by unfold pureB; exact o1') rx0
                unfold dep at this
                omega
              · subst h5
                unfold RelA at h2
                obtain ⟨_, _, e, _, _, _, h6, _⟩ := h2
                cases e
                exact h6 hpn
            have nl := allL_of (l := lent io vs) (b := deps xs + 1)
            have hcs : ∀ (n : Nat) (c : Cell), (putC A.c ns cs')[n]? = some (some c) → CellR w (rhoNew ρ (putC A.c ns cs').length p) ⟨putC A.c ns cs' ++ [some (.lst (imps xs))], A.lo⟩ H' (ρ n) c := fun n c en => by
              by_cases hn : n ∈ ns
              · obtain ⟨j, hj, e⟩ := List.mem_iff_getElem.mp hn
                have hj' : j < cs'.length := by omega
                have hpc := putC_in (cs := cs') hd hp (j := j) (n := n) (by rw [List.getElem?_eq_getElem hj, e]) (List.getElem?_eq_getElem hj')
                have en' : (putC A.c ns cs')[n]? = some (some c) := en
                rw [hpc] at en'
                cases en'
                obtain ⟨_, ⟨zs, hz, rz⟩, _⟩ := Sc.cell j _ (ent_of (List.getElem?_eq_getElem hj'))
                have hr : ρ' j = ρ n := by
                  rw [Sc.ins j hj]
                  show ρ (ns.getD j 0) = ρ n
                  rw [List.getD_eq_getElem?_getD, List.getElem?_eq_getElem hj, e]
                  rfl
                rw [hr] at hz
                refine ⟨zs, hz, ?_⟩
                have hm := List.getElem_mem hj'
                exact imps_rel (wk := wc w ρ A H ns (lent io vs)) mono1 (fun a => Or.inl) t1' t3' (List.all_eq_true.mp o2 _ hm) (allL_old.2 _ (fun z => List.all_eq_true.mp (o4 z) _ hm) (List.all_eq_true.mp hold _ hm)) rz
              · obtain ⟨c0, e0⟩ := hpl n c en
                have en' : A.c[n]? = some (some c) := by rw [← putC_out hn]; exact en
                obtain ⟨_, hcell, _⟩ := S.cell n c en'
                obtain ⟨_, hcell2, _⟩ := Sb.cell n c en
                have hpn2 : ρ n ≠ p := fun z => by
                  obtain ⟨o, ho⟩ := hcell.some
                  rw [z, hpn] at ho; cases ho
                -- the cell stands as it stood
                obtain ⟨o, ho⟩ := hcell.some
                have hsame : H' (ρ n) = H (ρ n) := by
                  rw [ho]
                  refine Sc.keep _ _ ho fun z => ?_
                  obtain ⟨m, hm, q⟩ := z
                  obtain ⟨j, hj, e⟩ := List.mem_iff_getElem.mp hm
                  obtain ⟨_, h1, _, _⟩ := (contents_get e2).2 j m (by rw [List.getElem?_eq_getElem hj, e])
                  exact hn (S.inj _ _ _ _ (cellAt_some h1) en' q ▸ hm)
                have e9 : Ext ρ A H (rhoNew ρ (putC A.c ns cs').length p) ⟨putC A.c ns cs' ++ [some (.lst (imps xs))], A.lo⟩ H' := by
                  refine ⟨?_, rfl, fun m hm => ?_, fun a o ho hn => ?_, eb.mono⟩
                  · show A.c.length ≤ (putC A.c ns cs' ++ [some (Cell.lst (imps xs))]).length
                    rw [List.length_append, putC_len]
                    exact Nat.le_add_right _ _
                  · unfold rhoNew
                    rw [putC_len, if_neg (Nat.ne_of_lt hm)]
                  · obtain ⟨k1, k2⟩ := eb.frz a o ho hn
                    exact ⟨k1, lvn a (fun e => by rw [e, hpn] at ho; cases ho) k2⟩
                exact hcell.ext e9 hsame
            obtain ⟨ea, Sa⟩ := S.thaw (p := p) (vs := us') (xs := imps xs) Sb eb hpl hpn q1 (fun z => q3 (.inl z)) (S.h0 hpn) hcs (by
              refine imps_rel (wk := wc w ρ A H ns (lent io vs)) mono1 (fun a => Or.inl) t1' t3' o1' (nl.2 xs (fun z => ?_) (Nat.lt_succ_self _)) q5
              have := o3' z
              unfold newB at this
              exact (Bool.and_eq_true_iff.mp this).2)
            exact ⟨p, us', rfl, q1, ea, Sa⟩
          have hnx : Sx.thaw th v cs' ⟨putC A.c ns cs', A.lo⟩ = .ok (imp v) ⟨putC A.c ns cs', A.lo⟩ → Q x H' := fun e => by
            rw [e] at h
            exact h ρ H' x eb Sb plain
          cases th with
          | false => exact hnx rfl
          | true =>
            by_cases hl : ∃ xs, v = .lst .new xs
            · obtain ⟨xs, rfl⟩ := hl
              unfold Sx.thaw at h
              dsimp only at h
              by_cases hold : cs'.all oldBs = true
              case neg => rw [if_neg hold] at h; exact h.elim
              rw [if_pos hold] at h
              obtain ⟨p, us', rfl, q1, ea, Sa⟩ := core (by unfold pureB at o1'; exact o1') o3' hold rx
              refine h _ H' (.ref p) ea Sa ?_
              unfold RelA
              exact ⟨by simp, by unfold rhoNew; rw [if_pos rfl]⟩
            · by_cases ht : ∃ s xs, v = .tup [.str s, .lst .new xs]
              · obtain ⟨s, xs, rfl⟩ := ht
                unfold Sx.thaw at h
                dsimp only at h
                by_cases hold : cs'.all oldBs = true
                case neg => rw [if_neg hold] at h; exact h.elim
                rw [if_pos hold] at h
                have rx0 := rx
                unfold RelA at rx
                obtain ⟨pt, vt, rfl, ht1, ht2, ht3⟩ := rx
                obtain ⟨x1, r1, rfl, hx1, hr1⟩ := ht3.cons_of
                obtain ⟨x2, r2, rfl, hx2, hr2⟩ := hr1.cons_of
                have hr2' := hr2.nil_of
                subst hr2'
                have o1x : pureBs xs = true := by
                  unfold pureB pureBs pureBs pureB at o1'
                  simp only [Bool.and_eq_true] at o1'
                  exact o1'.2.1
                have o3x : lent io vs = true → newB (.lst .new xs) = true := fun z => by
                  have := o3' z
                  unfold newB newBs newBs at this
                  simp only [Bool.and_eq_true] at this
                  exact this.2.1
                obtain ⟨p, us', rfl, q1, ea, Sa⟩ := core o1x o3x hold hx2
                refine h _ H' _ ea Sa ?_
                unfold RelA
                refine ⟨pt, _, rfl, ht1, fun hl => ?_, RelAs.cons ?_ (RelAs.cons ?_ RelAs.nil)⟩
                · obtain ⟨n, c, en, e⟩ := hl
                  obtain ⟨_, hc, _⟩ := Sa.cell n c en
                  rw [e] at hc
                  cases c with
                  | lst ys => obtain ⟨ws, hq, _⟩ := hc; rw [ht1] at hq; cases hq
                  | dK ks ys => obtain ⟨ws, hq, _⟩ := hc; rw [ht1] at hq; cases hq
                  | dT ks ys => obtain ⟨ws, hq, _⟩ := hc; rw [ht1] at hq; cases hq
                · unfold RelA at hx1 ⊢
                  exact hx1
                · unfold RelA
                  exact ⟨by simp, by unfold rhoNew; rw [if_pos rfl]⟩
              · refine hnx ?_
                unfold Sx.thaw
                dsimp only
                split
                · rename_i xs; exact absurd ⟨xs, rfl⟩ hl
                · rename_i s xs; exact absurd ⟨s, xs, rfl⟩ ht
                · rfl
end
section
variable {P : Program} {w0 : World}
theorem se_call {X : Cx} {k : Nat} {f : Addr} {fd : FuncData} {ps : List Str} {fs : FS} {x : Str} {p pos : Pos} {e : Expr} {es : List Expr} {g : Gb} {W : WX} {cs : Env → St → R (List AV)} (th : Bool) (io : List Bool) (tk : Takes X W) (F : FnOk X.prog X.w X.K X.mg X.base (L2.CX X.prog X.w) k f fd ps (spF g fs)) (hr : Room k X.A) (hg : Gl X x) (hm : X.mg x = some (.ref f)) (hk : PySem.W.keepIn X.K (.ref f) = true) (hb : Binds X.K fd ps [])
    (ha : PA X (e :: es) (tA g W cs)) (hdb : (x == ("__debug__" : Str)) = false := by decide) (he : starEach (e :: es) X.env = (false, eval e X.env) :: starEach es X.env := by rfl) (hpl : (backTo pos (starEach es X.env)).any (·.1) = false := by rfl) :
    PE X (.Call (.Name x p) (e :: es) [] pos) (tE g W (cCall th fs io cs)) := by
  refine PE.mono (pe_callS F hr hg hm hk hb (fun σ => passAt tk σ) ha hdb he hpl) fun σ H Q q => ?_
  refine tG.one q fun w ρ A env v A1 ρ1 H1 x hg S e S1 r1 q => ?_
  exact call_ok S1 r1 hg q
end
end Sx

namespace Sx
open PySem PySem.Spec PyProof.Rows L2
/-! ## cells from m on are lists that no more change -/
def frV (A : St) (m : Nat) : Nat → AV → Option AV
  | 0, _ => none
  | d + 1, v => if below m v = true then some v else match v with
    | .tup xs => (mapO (frV A m d) xs).map .tup
    | .lst f xs => (mapO (frV A m d) xs).map (.lst f)
    | .ref n => match cellAt A n with
      | some (.lst xs) => (mapO (frV A m d) xs).map (.lst .new)
      | _ => none
    | _ => none
def frC (A : St) (m : Nat) : Cell → Option Cell
  | .lst xs => (mapO (frV A m 40) xs).map .lst
  | .dK ks xs => if belows m xs = true then some (.dK ks xs) else none
  | .dT ks xs => if belows m xs = true then some (.dT ks xs) else none
def frA (A : St) (m : Nat) : St := ⟨(A.c.take m).map (fun c => c.bind (frC A m)), A.lo⟩
def sFz (m : Nat) : CS := fun env A => if A.lo ≤ m ∧ m ≤ A.c.length then .nx (env.map fun v => v.bind (frV A m 40)) (frA A m) else .stuck
section
variable {w : Wd} {ρ ρ' : Nat → Addr} {A A' : St} {H H' : Hp} {env : Env} {σ : L2.St} {g : Gb} {W : WX} {m : Nat}
theorem RelA.shrink (hl : m ≤ A'.c.length) (k : ∀ p, Live A' ρ p → Live A ρ p) : ∀ {v : AV} {x : V}, below m v = true → RelA w ρ A H v x → RelA w ρ A' H v x := by
  have key : ∀ n : Nat, (∀ v : AV, sizeOf v < n → ∀ x, below m v = true → RelA w ρ A H v x → RelA w ρ A' H v x) ∧ (∀ l : List AV, sizeOf l < n → ∀ xs, belows m l = true → RelAs w ρ A H l xs → RelAs w ρ A' H l xs) := by
    intro n
    induction n with
    | zero => exact ⟨fun v h => absurd h (Nat.not_lt_zero _), fun v h => absurd h (Nat.not_lt_zero _)⟩
    | succ n ih =>
      refine ⟨fun v hv x b r => ?_, fun l hv xs b r => ?_⟩
      · cases v with
        | tup xs =>
          unfold RelA at r ⊢
          unfold below at b
          obtain ⟨p, us, rfl, hp, hl, rs⟩ := r
          exact ⟨p, us, rfl, hp, fun z => hl (k p z), ih.2 xs (by simp at hv; omega) us b rs⟩
        | lst f xs =>
          unfold RelA at r ⊢
          unfold below at b
          obtain ⟨p, us, rfl, hp, hl, hf, hfl, rs⟩ := r
          exact ⟨p, us, rfl, hp, fun z => hl (k p z), hf, hfl, ih.2 xs (by simp at hv; omega) us b rs⟩
        | ref n =>
          unfold RelA at r ⊢
          unfold below at b
          exact ⟨Nat.lt_of_lt_of_le (of_decide_eq_true b) hl, r.2⟩
        | scr ns =>
          unfold RelA at r ⊢
          obtain ⟨p, rfl, h⟩ := r
          rcases h with ⟨hp, hl⟩ | h
          · exact ⟨p, rfl, .inl ⟨hp, fun z => hl (k p z)⟩⟩
          · exact ⟨p, rfl, .inr h⟩
        | exc c xs =>
          unfold RelA at r ⊢
          unfold below at b
          obtain ⟨a, d, fs, us, e1, rfl, hd, hl, e2, e3, rs⟩ := r
          exact ⟨a, d, fs, us, e1, rfl, hd, fun z => hl (k d z), e2, e3, ih.2 xs (by simp at hv; omega) us b rs⟩
        | _ => unfold RelA at r ⊢; exact r
      · cases l with
        | nil => unfold RelAs at r ⊢; exact r
        | cons v l =>
          obtain ⟨y, ys, rfl, r1, r2⟩ := r.cons_of
          unfold belows at b
          obtain ⟨b1, b2⟩ := Bool.and_eq_true_iff.mp b
          exact RelAs.cons (ih.1 v (by simp at hv; omega) y b1 r1) (ih.2 l (by simp at hv; omega) ys b2 r2)
  intro v x b r
  exact (key (sizeOf v + 1)).1 v (Nat.lt_succ_self _) x b r
theorem RelAs.shrink (hl : m ≤ A'.c.length) (k : ∀ p, Live A' ρ p → Live A ρ p) : ∀ {v : List AV} {x : List V}, belows m v = true → RelAs w ρ A H v x → RelAs w ρ A' H v x
  | [], _, _, r => by rw [r.nil_of]; exact RelAs.nil
  | v :: l, _, b, r => by
    obtain ⟨y, ys, rfl, r1, r2⟩ := r.cons_of
    unfold belows at b
    obtain ⟨b1, b2⟩ := Bool.and_eq_true_iff.mp b
    exact RelAs.cons (RelA.shrink hl k b1 r1) (RelAs.shrink hl k b2 r2)
theorem below_le {m m' : Nat} (h : m ≤ m') : (∀ v : AV, below m v = true → below m' v = true) ∧ (∀ v : List AV, belows m v = true → belows m' v = true) := by
  have key : ∀ n : Nat, (∀ v : AV, sizeOf v < n → below m v = true → below m' v = true) ∧ (∀ l : List AV, sizeOf l < n → belows m l = true → belows m' l = true) := by
    intro n
    induction n with
    | zero => exact ⟨fun v h => absurd h (Nat.not_lt_zero _), fun v h => absurd h (Nat.not_lt_zero _)⟩
    | succ n ih =>
      refine ⟨fun v hv b => ?_, fun l hv b => ?_⟩
      · cases v with
        | tup xs => unfold below at b ⊢; exact ih.2 xs (by simp at hv; omega) b
        | lst f xs => unfold below at b ⊢; exact ih.2 xs (by simp at hv; omega) b
        | ref n => unfold below at b ⊢; exact decide_eq_true (Nat.lt_of_lt_of_le (of_decide_eq_true b) h)
        | exc c xs => unfold below at b ⊢; exact ih.2 xs (by simp at hv; omega) b
        | _ => unfold below; rfl
      · cases l with
        | nil => unfold belows; rfl
        | cons v l =>
          unfold belows at b ⊢
          obtain ⟨b1, b2⟩ := Bool.and_eq_true_iff.mp b
          exact Bool.and_eq_true_iff.mpr ⟨ih.1 v (by simp at hv; omega) b1, ih.2 l (by simp at hv; omega) b2⟩
  exact ⟨fun v => (key (sizeOf v + 1)).1 v (Nat.lt_succ_self _), fun v => (key (sizeOf v + 1)).2 v (Nat.lt_succ_self _)⟩
theorem mapO_rel {f : AV → Option AV} {w' : Wd} {ρ' : Nat → Addr} {A' : St} {H' : Hp} (hf : ∀ v u x, f v = some u → RelA w ρ A H v x → RelA w' ρ' A' H' u x) : ∀ {xs ys : List AV} {vs : List V}, mapO f xs = some ys → RelAs w ρ A H xs vs → RelAs w' ρ' A' H' ys vs := by
  intro xs
  induction xs with
  | nil => intro ys vs h r; cases h; rw [r.nil_of]; exact RelAs.nil
  | cons x0 xs ihx =>
    intro ys vs h r
    obtain ⟨z, zs, rfl, r1, r2⟩ := r.cons_of
    unfold mapO at h
    cases e1 : f x0 with
    | none => rw [e1] at h; cases h
    | some y =>
      cases e2 : mapO f xs with
      | none => rw [e1, e2] at h; cases h
      | some ys' =>
        rw [e1, e2] at h
        cases h
        exact RelAs.cons (hf _ _ _ e1 r1) (ihx e2 r2)
theorem frA_get {n : Nat} {c : Cell} (h : (frA A m).c[n]? = some (some c)) : n < m ∧ ∃ c0, A.c[n]? = some (some c0) ∧ frC A m c0 = some c := by
  unfold frA at h
  dsimp only at h
  rw [List.getElem?_map] at h
  cases e : (A.c.take m)[n]? with
  | none => rw [e] at h; cases h
  | some o =>
    rw [e] at h
    have hn : n < m := by
      have := (List.getElem?_eq_some_iff.mp e).1
      rw [List.length_take] at this
      omega
    rw [List.getElem?_take_of_lt hn] at e
    cases o with
    | none => cases h
    | some c0 => exact ⟨hn, c0, e, Option.some.inj h⟩
theorem frA_live {p : Addr} (h : Live (frA A m) ρ p) : ∃ n c, n < m ∧ A.c[n]? = some (some c) ∧ ρ n = p := by
  obtain ⟨n, c, e, q⟩ := h
  obtain ⟨h1, c0, h2, _⟩ := frA_get e
  exact ⟨n, c0, h1, h2, q⟩
theorem frA_len (h : m ≤ A.c.length) : (frA A m).c.length = m := by
  unfold frA
  dsimp only
  rw [List.length_map, List.length_take]
  omega
theorem frV_ok (S : Sit w ρ A H env σ) (hm : m ≤ A.c.length) (hk : w.kin ≤ m) : ∀ (d : Nat) {v u : AV} {x : V}, frV A m d v = some u → RelA w ρ A H v x → RelA w ρ (frA A m) H u x := by
  have lv : ∀ p, Live (frA A m) ρ p → Live A ρ p := fun p h => let ⟨n, c, _, e, q⟩ := frA_live h; ⟨n, c, e, q⟩
  intro d
  induction d with
  | zero => intro v u x h; cases h
  | succ d ih =>
    intro v u x h r
    unfold frV at h
    by_cases hb : below m v = true
    · rw [if_pos hb] at h
      cases h
      exact r.shrink (Nat.le_of_eq (frA_len hm).symm) lv hb
    · rw [if_neg hb] at h
      cases v with
      | tup xs =>
        dsimp only at h
        cases e : mapO (frV A m d) xs with
        | none => rw [e] at h; cases h
        | some ys =>
          rw [e] at h
          cases h
          unfold RelA at r ⊢
          obtain ⟨p, us, rfl, h1, h2, rs⟩ := r
          exact ⟨p, us, rfl, h1, fun z => h2 (lv p z), mapO_rel (fun _ _ _ => ih) e rs⟩
      | lst f xs =>
        dsimp only at h
        cases e : mapO (frV A m d) xs with
        | none => rw [e] at h; cases h
        | some ys =>
          rw [e] at h
          cases h
          unfold RelA at r ⊢
          obtain ⟨p, us, rfl, h1, h2, h3, h4, rs⟩ := r
          exact ⟨p, us, rfl, h1, fun z => h2 (lv p z), h3, h4, mapO_rel (fun _ _ _ => ih) e rs⟩
      | ref n =>
        dsimp only at h
        split at h
        · rename_i xs ec
          cases e : mapO (frV A m d) xs with
          | none => rw [e] at h; cases h
          | some ys =>
            rw [e] at h
            cases h
            obtain ⟨rfl, us, hu, rs⟩ := S.cellOf r ec
            obtain ⟨c1, _, c3⟩ := S.cell n _ (cellAt_some ec)
            have hn : m ≤ n := by
              unfold below at hb
              have := of_decide_eq_false (Bool.not_eq_true _ ▸ hb)
              omega
            unfold RelA
            refine ⟨ρ n, us, rfl, hu, fun z => ?_, c1, ?_, mapO_rel (fun _ _ _ => ih) e rs⟩
            · obtain ⟨k, c, hk, em, q⟩ := frA_live z
              have := S.inj k n _ _ em (cellAt_some ec) q
              omega
            · rcases c3 with ⟨h1, _⟩ | ⟨_, h1⟩
              · omega
              · exact h1
        · cases h
      | _ => cases h
theorem Sit.fz (S : Sit w ρ A H env σ) (h1 : A.lo ≤ m) (hm : m ≤ A.c.length) : Sit w ρ (frA A m) H (env.map fun v => v.bind (frV A m 40)) σ := by
  have lv : ∀ p, Live (frA A m) ρ p → Live A ρ p := fun p h => let ⟨n, c, _, e, q⟩ := frA_live h; ⟨n, c, e, q⟩
  have hk : w.kin ≤ m := Nat.le_trans S.lo.1 h1
  refine ⟨S.keep, S.mono, S.fb, fun n m' c c' e1 e2 q => ?_, fun n c e => ?_, ⟨S.lo.1, by rw [frA_len hm]; exact h1⟩, S.ins, fun p hp => ?_, ⟨by rw [List.length_map]; exact S.env.1, fun i v q => ?_⟩⟩
  · obtain ⟨_, _, f1, _⟩ := frA_get e1
    obtain ⟨_, _, f2, _⟩ := frA_get e2
    exact S.inj _ _ _ _ f1 f2 q
  · obtain ⟨hn, c0, f1, f2⟩ := frA_get e
    obtain ⟨k1, k2, k3⟩ := S.cell n c0 f1
    refine ⟨k1, ?_, k3⟩
    cases c0 with
    | lst xs =>
      unfold frC at f2
      dsimp only at f2
      cases e3 : mapO (frV A m 40) xs with
      | none => rw [e3] at f2; cases f2
      | some ys =>
        rw [e3] at f2
        cases f2
        obtain ⟨vs, h2, h3⟩ := k2
        exact ⟨vs, h2, mapO_rel (fun _ _ _ => frV_ok S hm hk 40) e3 h3⟩
    | dK ks xs =>
      unfold frC at f2
      dsimp only at f2
      by_cases hb : belows m xs = true
      · rw [if_pos hb] at f2
        cases f2
        obtain ⟨vs, h2, h3, h4, h5⟩ := k2
        exact ⟨vs, h2, h3, h4, h5.shrink (Nat.le_of_eq (frA_len hm).symm) lv hb⟩
      · rw [if_neg hb] at f2; cases f2
    | dT ks xs =>
      unfold frC at f2
      dsimp only at f2
      by_cases hb : belows m xs = true
      · rw [if_pos hb] at f2
        cases f2
        obtain ⟨vs, h2, h3, h4, h5⟩ := k2
        exact ⟨vs, h2, h3, h4, h5.shrink (Nat.le_of_eq (frA_len hm).symm) lv hb⟩
      · rw [if_neg hb] at f2; cases f2
  · obtain ⟨p1, p2⟩ := S.pend p hp
    exact ⟨p1, p2.shrink (Nat.le_of_eq (frA_len hm).symm) lv ((below_le h1).1 _ p1)⟩
  · rw [List.getElem?_map] at q
    cases e : env[i]? with
    | none => rw [e] at q; cases q
    | some o =>
      rw [e] at q
      cases o with
      | none => cases q
      | some v0 =>
        obtain ⟨x, hx, rx⟩ := S.env.2 i v0 e
        exact ⟨x, hx, frV_ok S hm hk 40 (Option.some.inj q) rx⟩
end
section
variable {X : Cx} {g : Gb} {W : WX} {sts : List Stmt} {k k2 : CS}
theorem tS_fz {m : Nat} {D : Ends} {σ : L2.St} {H : Hp} (q : tS g W (sSeq (sFz m) k) D σ H) : tS g W k D σ H := by
  obtain ⟨w, ρ, A, env, hg, S, q⟩ := q
  unfold sSeq sFz at q
  by_cases hm : A.lo ≤ m ∧ m ≤ A.c.length
  · rw [if_pos hm] at q
    exact ⟨w, ρ, frA A m, _, hg, S.fz hm.1 hm.2, q⟩
  · rw [if_neg hm] at q; exact q.elim
theorem sss_fz (m : Nat) (h : PSs X sts (tS g W k)) : PSs X sts (tS g W (sSeq (sFz m) k)) := PSs.mono h fun D σ H q => tS_fz q
end
/-! ## a def of the module; a call of it -/
def BindE (fd : FuncData) (ps : List Str) : Prop := ∀ us : List Value, us.length = ps.length → bindArgs fd ⟨us, []⟩ = pure (ps.zip us)
structure Def (P : Program) (w : World) (K : PySem.W.Frag) (mg : Str → Option Value) (base : Heap) (g : Gb) (x : Str) (k : Nat) (ps : List Str) (fs : FS) : Prop where
  ex : ∃ f fd, mg x = some (.ref f) ∧ PySem.W.keepIn K (.ref f) = true ∧ BindE fd ps ∧ FnOk P w K mg base (L2.CX P w) k f fd ps (spF g fs)
section
theorem se_def {X : Cx} {k j : Nat} {ps : List Str} {fs : FS} {x : Str} {p pos : Pos} {e : Expr} {es : List Expr} {g : Gb} {W : WX} {cs : Env → St → R (List AV)} (th : Bool) (io : List Bool) (D : Def X.prog X.w X.K X.mg X.base g x j ps fs) (tk : Takes X W) (hr : Room k X.A) (hj : j ≤ k) (hg : Gl X x)
    (ha : PA X (e :: es) (tA g W cs)) (hdb : (x == ("__debug__" : Str)) = false := by decide) (he : starEach (e :: es) X.env = (false, eval e X.env) :: starEach es X.env := by rfl) (hpl : (backTo pos (starEach es X.env)).any (·.1) = false := by rfl) :
    PE X (.Call (.Name x p) (e :: es) [] pos) (tE g W (cCall th fs io cs)) := by
  obtain ⟨f, fd, h1, h2, h3, h4⟩ := D.ex
  exact se_call th io tk h4 (hr.mono hj) hg h1 h2 (Binds.all h3) ha hdb he hpl
theorem Room.u65 {k : Nat} {A : Around} (r : Room k A) : A.units + 65 < cLine := by have := r.un; omega
end
end Sx

namespace Sx
open PySem PySem.Spec PyProof.Rows L2
/-! ## the rules as they are printed -/
theorem bt_abs : bootBuiltins "abs" = some (.builtin "abs") := by decide +kernel
theorem bt_sum : bootBuiltins "sum" = some (.builtin "sum") := by decide +kernel
theorem bt_max : bootBuiltins "max" = some (.builtin "max") := by decide +kernel
theorem bt_min : bootBuiltins "min" = some (.builtin "min") := by decide +kernel
theorem bt_all : bootBuiltins "all" = some (.builtin "all") := by decide +kernel
theorem bt_any : bootBuiltins "any" = some (.builtin "any") := by decide +kernel
theorem bt_sorted : bootBuiltins "sorted" = some (.builtin "sorted") := by decide +kernel
theorem bt_isinstance : bootBuiltins "isinstance" = some (.builtin "isinstance") := by decide +kernel
section
variable {X : Cx} {g : Gb} {W : WX} {e a b o : Expr} {es rest : List Expr} {c ca cb ct ci : CE} {cs : Env → St → R (List AV)} {pos p apos : Pos} {st : Stmt} {sts sts2 : List Stmt} {k k2 : CS} {kk : Nat}
theorem q_v (i : Nat) {x : Str} (hN : X.N[i]? = some x := by rfl) (hv : Vis X.env.scope x := by first | exact .inl rfl | exact .inr (.inl rfl) | exact .inr (.inr rfl)) (hd : (x == ("__debug__" : Str)) = false := by decide) (hcd : (x == ("__classdict__" : Str)) = false := by decide) : PE X (.Name x pos) (tE g W (cVar i)) := se_var i (pe_var hN hv hd hcd)
theorem q_add (fr : Bool) (ha : PE X a (tE g W ca)) (hb : PE X b (tE g W cb)) : PE X (.BinOp a .Add b pos) (tE g W (c2 fr addD ca cb)) := se_op fr op_addX addD_ok ha hb
theorem q_sub (ha : PE X a (tE g W ca)) (hb : PE X b (tE g W cb)) : PE X (.BinOp a .Sub b pos) (tE g W (c2 false subD ca cb)) := se_op false op_sub subD_ok ha hb
theorem q_mul (fr : Bool) (ha : PE X a (tE g W ca)) (hb : PE X b (tE g W cb)) : PE X (.BinOp a .Mult b pos) (tE g W (c2 fr mulD ca cb)) := se_op fr op_mulX mulD_ok ha hb
theorem q_mulW (ha : PE X a (tE g W ca)) (hb : PE X b (tE g W cb)) : PE X (.BinOp a .Mult b pos) (tE g W (c2 false mulW ca cb)) := se_op false op_mulW mulW_ok ha hb
theorem q_fdiv (ha : PE X a (tE g W ca)) (hb : PE X b (tE g W cb)) : PE X (.BinOp a .FloorDiv b pos) (tE g W (c2 false fdivD ca cb)) := se_op false op_fdivW fdivD_ok ha hb
theorem q_mod (ha : PE X a (tE g W ca)) (hb : PE X b (tE g W cb)) : PE X (.BinOp a .Mod b pos) (tE g W (c2 false modD ca cb)) := se_op false op_mod modD_ok ha hb
theorem q_pow (ha : PE X a (tE g W ca)) (hb : PE X b (tE g W cb)) : PE X (.BinOp a .Pow b pos) (tE g W (c2 false powD ca cb)) := se_op false op_pow powD_ok ha hb
theorem q_neg (ha : PE X a (tE g W ca)) : PE X (.UnaryOp .USub a pos) (tE g W (c1 false negD ca)) := se_un un_neg negD_ok ha
theorem q_lt (ha : PE X a (tE g W ca)) (hb : PE X b (tE g W cb)) : PE X (.Compare a [.Lt] [b] pos) (tE g W (c2 false ltD ca cb)) := se_cmp op_lt ltD_ok ha hb (nomark _)
theorem q_le (ha : PE X a (tE g W ca)) (hb : PE X b (tE g W cb)) : PE X (.Compare a [.LtE] [b] pos) (tE g W (c2 false leD ca cb)) := se_cmp op_le leD_ok ha hb (nomark _)
theorem q_gt (ha : PE X a (tE g W ca)) (hb : PE X b (tE g W cb)) : PE X (.Compare a [.Gt] [b] pos) (tE g W (c2 false gtD ca cb)) := se_cmp op_gt gtD_ok ha hb (nomark _)
theorem q_ge (ha : PE X a (tE g W ca)) (hb : PE X b (tE g W cb)) : PE X (.Compare a [.GtE] [b] pos) (tE g W (c2 false geD ca cb)) := se_cmp op_ge geD_ok ha hb (nomark _)
theorem q_eq {j : Nat} (hr : Room j X.A) (ha : PE X a (tE g W ca)) (hb : PE X b (tE g W cb)) : PE X (.Compare a [.Eq] [b] pos) (tE g W (c2 false eqD ca cb)) := se_cmp (op_eqX hr.units) eqD_ok ha hb (nomark _)
theorem q_ne {j : Nat} (hr : Room j X.A) (ha : PE X a (tE g W ca)) (hb : PE X b (tE g W cb)) : PE X (.Compare a [.NotEq] [b] pos) (tE g W (c2 false neD ca cb)) := se_cmp (op_neX hr.units) neD_ok ha hb (nomark _)
theorem q_in {j : Nat} (hr : Room j X.A) (ha : PE X a (tE g W ca)) (hb : PE X b (tE g W cb)) (hm : behindInMarks .In b = false := by with_unfolding_all rfl) : PE X (.Compare a [.In] [b] pos) (tE g W (c2 false inD ca cb)) := se_cmp (op_inX (Sx.Room.u65 hr)) inD_ok ha hb hm
theorem q_notin {j : Nat} (hr : Room j X.A) (ha : PE X a (tE g W ca)) (hb : PE X b (tE g W cb)) (hm : behindInMarks .NotIn b = false := by with_unfolding_all rfl) : PE X (.Compare a [.NotIn] [b] pos) (tE g W (c2 false notInD ca cb)) := se_cmp (op_notInX (Sx.Room.u65 hr)) notInD_ok ha hb hm
theorem q_is (ha : PE X a (tE g W ca)) (hb : PE X b (tE g W cb)) : PE X (.Compare a [.Is] [b] pos) (tE g W (c2 false isD ca cb)) := se_cmp op_isN isD_ok ha hb (nomark _)
theorem q_isnt (ha : PE X a (tE g W ca)) (hb : PE X b (tE g W cb)) : PE X (.Compare a [.IsNot] [b] pos) (tE g W (c2 false isntD ca cb)) := se_cmp op_notN isntD_ok ha hb (nomark _)
/-! the same as tests -/
theorem t_lt (ha : PE X a (tE g W ca)) (hb : PE X b (tE g W cb)) : PT X (.Compare a [.Lt] [b] pos) (tT g W (c2 false ltD ca cb)) := st_cmp op_lt ltD_ok ha hb (nomark _)
theorem t_le (ha : PE X a (tE g W ca)) (hb : PE X b (tE g W cb)) : PT X (.Compare a [.LtE] [b] pos) (tT g W (c2 false leD ca cb)) := st_cmp op_le leD_ok ha hb (nomark _)
theorem t_gt (ha : PE X a (tE g W ca)) (hb : PE X b (tE g W cb)) : PT X (.Compare a [.Gt] [b] pos) (tT g W (c2 false gtD ca cb)) := st_cmp op_gt gtD_ok ha hb (nomark _)
theorem t_ge (ha : PE X a (tE g W ca)) (hb : PE X b (tE g W cb)) : PT X (.Compare a [.GtE] [b] pos) (tT g W (c2 false geD ca cb)) := st_cmp op_ge geD_ok ha hb (nomark _)
theorem t_eq {j : Nat} (hr : Room j X.A) (ha : PE X a (tE g W ca)) (hb : PE X b (tE g W cb)) : PT X (.Compare a [.Eq] [b] pos) (tT g W (c2 false eqD ca cb)) := st_cmp (op_eqX hr.units) eqD_ok ha hb (nomark _)
theorem t_ne {j : Nat} (hr : Room j X.A) (ha : PE X a (tE g W ca)) (hb : PE X b (tE g W cb)) : PT X (.Compare a [.NotEq] [b] pos) (tT g W (c2 false neD ca cb)) := st_cmp (op_neX hr.units) neD_ok ha hb (nomark _)
theorem t_in {j : Nat} (hr : Room j X.A) (ha : PE X a (tE g W ca)) (hb : PE X b (tE g W cb)) (hm : behindInMarks .In b = false := by with_unfolding_all rfl) : PT X (.Compare a [.In] [b] pos) (tT g W (c2 false inD ca cb)) := st_cmp (op_inX (Sx.Room.u65 hr)) inD_ok ha hb hm
theorem t_notin {j : Nat} (hr : Room j X.A) (ha : PE X a (tE g W ca)) (hb : PE X b (tE g W cb)) (hm : behindInMarks .NotIn b = false := by with_unfolding_all rfl) : PT X (.Compare a [.NotIn] [b] pos) (tT g W (c2 false notInD ca cb)) := st_cmp (op_notInX (Sx.Room.u65 hr)) notInD_ok ha hb hm
theorem t_is (ha : PE X a (tE g W ca)) (hb : PE X b (tE g W cb)) : PT X (.Compare a [.Is] [b] pos) (tT g W (c2 false isD ca cb)) := st_cmp op_isN isD_ok ha hb (nomark _)
theorem t_isnt (ha : PE X a (tE g W ca)) (hb : PE X b (tE g W cb)) : PT X (.Compare a [.IsNot] [b] pos) (tT g W (c2 false isntD ca cb)) := st_cmp op_notN isntD_ok ha hb (nomark _)
theorem t_bool {op : BoolOp} {l : List Expr} (h : PW X (.BoolOp op l pos) (tT g W ct)) : PT X (.BoolOp op l pos) (tT g W ct) := h.pt
/-! subscripts, slices -/
theorem q_ix (ha : PE X a (tE g W ca)) (hb : PE X b (tE g W cb)) (hs : PlainIx b := by intro _ _; rfl) : PE X (.Subscript a b pos) (tE g W (c2 false ixD ca cb)) := se_ix ix_seq ixD_ok ha hb hs
/-! built-ins -/
theorem q_len (fr : Bool) (hm : X.mg "len" = none) (ha : PA X (e :: es) (tA g W cs)) (hg : Gl X "len" := by rfl) (he : starEach (e :: es) X.env = (false, eval e X.env) :: starEach es X.env := by rfl) (hpl : (backTo pos (starEach es X.env)).any (·.1) = false := by rfl) : PE X (.Call (.Name "len" p) (e :: es) [] pos) (tE g W (cN fr lenD cs)) := se_callB fr call_len lenD_ok hg hm boot_len ha (by decide) (by decide) he hpl
theorem q_abs (fr : Bool) (hm : X.mg "abs" = none) (ha : PA X (e :: es) (tA g W cs)) (hg : Gl X "abs" := by rfl) (he : starEach (e :: es) X.env = (false, eval e X.env) :: starEach es X.env := by rfl) (hpl : (backTo pos (starEach es X.env)).any (·.1) = false := by rfl) : PE X (.Call (.Name "abs" p) (e :: es) [] pos) (tE g W (cN fr absD cs)) := se_callB fr call_abs absD_ok hg hm bt_abs ha (by decide) (by decide) he hpl
theorem q_sum (fr : Bool) (hm : X.mg "sum" = none) (hc : X.calm = true) (ha : PA X (e :: es) (tA g W cs)) (hg : Gl X "sum" := by rfl) (he : starEach (e :: es) X.env = (false, eval e X.env) :: starEach es X.env := by rfl) (hpl : (backTo pos (starEach es X.env)).any (·.1) = false := by rfl) : PE X (.Call (.Name "sum" p) (e :: es) [] pos) (tE g W (cN fr sumD cs)) := se_callB fr (cr_sum hc) sumD_ok hg hm bt_sum ha (by decide) (by decide) he hpl
theorem q_max (fr : Bool) (hm : X.mg "max" = none) (hc : X.calm = true) (ha : PA X (e :: es) (tA g W cs)) (hg : Gl X "max" := by rfl) (he : starEach (e :: es) X.env = (false, eval e X.env) :: starEach es X.env := by rfl) (hpl : (backTo pos (starEach es X.env)).any (·.1) = false := by rfl) : PE X (.Call (.Name "max" p) (e :: es) [] pos) (tE g W (cN fr maxD cs)) := se_callB fr (call_maxX hc) maxD_ok hg hm bt_max ha (by decide) (by decide) he hpl
theorem q_min (fr : Bool) (hm : X.mg "min" = none) (hc : X.calm = true) (ha : PA X (e :: es) (tA g W cs)) (hg : Gl X "min" := by rfl) (he : starEach (e :: es) X.env = (false, eval e X.env) :: starEach es X.env := by rfl) (hpl : (backTo pos (starEach es X.env)).any (·.1) = false := by rfl) : PE X (.Call (.Name "min" p) (e :: es) [] pos) (tE g W (cN fr minD cs)) := se_callB fr (call_minX hc) minD_ok hg hm bt_min ha (by decide) (by decide) he hpl
theorem q_all (fr : Bool) (hm : X.mg "all" = none) (hc : X.calm = true) (ha : PA X (e :: es) (tA g W cs)) (hg : Gl X "all" := by rfl) (he : starEach (e :: es) X.env = (false, eval e X.env) :: starEach es X.env := by rfl) (hpl : (backTo pos (starEach es X.env)).any (·.1) = false := by rfl) : PE X (.Call (.Name "all" p) (e :: es) [] pos) (tE g W (cN fr allD cs)) := se_callB fr (cr_all hc) allD_ok hg hm bt_all ha (by decide) (by decide) he hpl
theorem q_any (fr : Bool) (hm : X.mg "any" = none) (hc : X.calm = true) (ha : PA X (e :: es) (tA g W cs)) (hg : Gl X "any" := by rfl) (he : starEach (e :: es) X.env = (false, eval e X.env) :: starEach es X.env := by rfl) (hpl : (backTo pos (starEach es X.env)).any (·.1) = false := by rfl) : PE X (.Call (.Name "any" p) (e :: es) [] pos) (tE g W (cN fr anyD cs)) := se_callB fr (cr_any hc) anyD_ok hg hm bt_any ha (by decide) (by decide) he hpl
theorem q_sorted (fr : Bool) (hm : X.mg "sorted" = none) (ha : PA X (e :: es) (tA g W cs)) (hg : Gl X "sorted" := by rfl) (he : starEach (e :: es) X.env = (false, eval e X.env) :: starEach es X.env := by rfl) (hpl : (backTo pos (starEach es X.env)).any (·.1) = false := by rfl) : PE X (.Call (.Name "sorted" p) (e :: es) [] pos) (tE g W (cN fr sortedD cs)) := se_callB fr cr_sortedI sortedD_ok hg hm bt_sorted ha (by decide) (by decide) he hpl
theorem q_int (fr : Bool) (hm : X.mg "int" = none) (ha : PA X (e :: es) (tA g W cs)) (hg : Gl X "int" := by rfl) (he : starEach (e :: es) X.env = (false, eval e X.env) :: starEach es X.env := by rfl) (hpl : (backTo pos (starEach es X.env)).any (·.1) = false := by rfl) : PE X (.Call (.Name "int" p) (e :: es) [] pos) (tE g W (cN fr intD cs)) := se_callTy fr call_int1 intD_ok hg hm boot_int ha (by decide) (by decide) he hpl
theorem q_str (fr : Bool) (hm : X.mg "str" = none) (ha : PA X (e :: es) (tA g W cs)) (hg : Gl X "str" := by rfl) (he : starEach (e :: es) X.env = (false, eval e X.env) :: starEach es X.env := by rfl) (hpl : (backTo pos (starEach es X.env)).any (·.1) = false := by rfl) : PE X (.Call (.Name "str" p) (e :: es) [] pos) (tE g W (cN fr strD cs)) := se_callTy fr call_str_int strD_ok hg hm boot_str ha (by decide) (by decide) he hpl
theorem q_list (fr : Bool) (hm : X.mg "list" = none) (ha : PA X (e :: es) (tA g W cs)) (hg : Gl X "list" := by rfl) (he : starEach (e :: es) X.env = (false, eval e X.env) :: starEach es X.env := by rfl) (hpl : (backTo pos (starEach es X.env)).any (·.1) = false := by rfl) : PE X (.Call (.Name "list" p) (e :: es) [] pos) (tE g W (cN fr listD cs)) := se_callTy fr call_list_of listD_ok hg hm boot_list ha (by decide) (by decide) he hpl
theorem q_tuple (fr : Bool) (hm : X.mg "tuple" = none) (ha : PA X (e :: es) (tA g W cs)) (hg : Gl X "tuple" := by rfl) (he : starEach (e :: es) X.env = (false, eval e X.env) :: starEach es X.env := by rfl) (hpl : (backTo pos (starEach es X.env)).any (·.1) = false := by rfl) : PE X (.Call (.Name "tuple" p) (e :: es) [] pos) (tE g W (cN fr tupleD cs)) := se_callTy fr call_tuple_of tupleD_ok hg hm boot_tuple ha (by decide) (by decide) he hpl
/-! methods -/
theorem q_append (ho : PE X o (tE g W c)) (ha : PA X (e :: es) (tA g W cs)) (hbase : attributeBase o "append" X.env (eval o X.env) = eval o X.env := by rfl)
    (hfew : ((backTo pos (starEach (e :: es) X.env)).all (fun x => !x.1) && (backToKw pos (keywordEach [] X.env)).all (fun x => x.1.isSome) && decide ((e :: es).length + ([] : List Keyword).length + (if ([] : List Keyword).isEmpty then 0 else 1) < 30)) = true := by rfl)
    (hline : (apos.endLine == pos.line) = true := by rfl) (hs : starEach (e :: es) X.env = (false, eval e X.env) :: starEach es X.env := by rfl) (hplain : (backTo pos (starEach es X.env)).any (·.1) = false := by rfl) :
    PE X (.Call (.Attribute o "append" apos) (e :: es) [] pos) (tE g W (cM false appendD c cs)) := se_meth false PySem.F.slot_list_append rfl mt_append appendD_ok ho ha hbase hfew hline hs hplain
theorem q_extend (ho : PE X o (tE g W c)) (ha : PA X (e :: es) (tA g W cs)) (hbase : attributeBase o "extend" X.env (eval o X.env) = eval o X.env := by rfl)
    (hfew : ((backTo pos (starEach (e :: es) X.env)).all (fun x => !x.1) && (backToKw pos (keywordEach [] X.env)).all (fun x => x.1.isSome) && decide ((e :: es).length + ([] : List Keyword).length + (if ([] : List Keyword).isEmpty then 0 else 1) < 30)) = true := by rfl)
    (hline : (apos.endLine == pos.line) = true := by rfl) (hs : starEach (e :: es) X.env = (false, eval e X.env) :: starEach es X.env := by rfl) (hplain : (backTo pos (starEach es X.env)).any (·.1) = false := by rfl) :
    PE X (.Call (.Attribute o "extend" apos) (e :: es) [] pos) (tE g W (cM false extendD c cs)) := se_meth false PySem.F.slot_list_extend rfl mt_extend extendD_ok ho ha hbase hfew hline hs hplain
theorem q_popAt (ho : PE X o (tE g W c)) (ha : PA X (e :: es) (tA g W cs)) (hbase : attributeBase o "pop" X.env (eval o X.env) = eval o X.env := by rfl)
    (hfew : ((backTo pos (starEach (e :: es) X.env)).all (fun x => !x.1) && (backToKw pos (keywordEach [] X.env)).all (fun x => x.1.isSome) && decide ((e :: es).length + ([] : List Keyword).length + (if ([] : List Keyword).isEmpty then 0 else 1) < 30)) = true := by rfl)
    (hline : (apos.endLine == pos.line) = true := by rfl) (hs : starEach (e :: es) X.env = (false, eval e X.env) :: starEach es X.env := by rfl) (hplain : (backTo pos (starEach es X.env)).any (·.1) = false := by rfl) :
    PE X (.Call (.Attribute o "pop" apos) (e :: es) [] pos) (tE g W (cM false popAtD c cs)) := se_meth false PySem.F.slot_list_pop rfl mt_popAt popAtD_ok ho ha hbase hfew hline hs hplain
theorem q_insert (ho : PE X o (tE g W c)) (ha : PA X (e :: es) (tA g W cs)) (hbase : attributeBase o "insert" X.env (eval o X.env) = eval o X.env := by rfl)
    (hfew : ((backTo pos (starEach (e :: es) X.env)).all (fun x => !x.1) && (backToKw pos (keywordEach [] X.env)).all (fun x => x.1.isSome) && decide ((e :: es).length + ([] : List Keyword).length + (if ([] : List Keyword).isEmpty then 0 else 1) < 30)) = true := by rfl)
    (hline : (apos.endLine == pos.line) = true := by rfl) (hs : starEach (e :: es) X.env = (false, eval e X.env) :: starEach es X.env := by rfl) (hplain : (backTo pos (starEach es X.env)).any (·.1) = false := by rfl) :
    PE X (.Call (.Attribute o "insert" apos) (e :: es) [] pos) (tE g W (cM false insertD c cs)) := se_meth false PySem.F.slot_list_insert rfl mt_insert insertD_ok ho ha hbase hfew hline hs hplain
theorem q_index (ho : PE X o (tE g W c)) (ha : PA X (e :: es) (tA g W cs)) (hbase : attributeBase o "index" X.env (eval o X.env) = eval o X.env := by rfl)
    (hfew : ((backTo pos (starEach (e :: es) X.env)).all (fun x => !x.1) && (backToKw pos (keywordEach [] X.env)).all (fun x => x.1.isSome) && decide ((e :: es).length + ([] : List Keyword).length + (if ([] : List Keyword).isEmpty then 0 else 1) < 30)) = true := by rfl)
    (hline : (apos.endLine == pos.line) = true := by rfl) (hs : starEach (e :: es) X.env = (false, eval e X.env) :: starEach es X.env := by rfl) (hplain : (backTo pos (starEach es X.env)).any (·.1) = false := by rfl) :
    PE X (.Call (.Attribute o "index" apos) (e :: es) [] pos) (tE g W (cM false indexD c cs)) := se_meth false PySem.F.slot_list_index rfl mt_index indexD_ok ho ha hbase hfew hline hs hplain
theorem q_count (ho : PE X o (tE g W c)) (ha : PA X (e :: es) (tA g W cs)) (hbase : attributeBase o "count" X.env (eval o X.env) = eval o X.env := by rfl)
    (hfew : ((backTo pos (starEach (e :: es) X.env)).all (fun x => !x.1) && (backToKw pos (keywordEach [] X.env)).all (fun x => x.1.isSome) && decide ((e :: es).length + ([] : List Keyword).length + (if ([] : List Keyword).isEmpty then 0 else 1) < 30)) = true := by rfl)
    (hline : (apos.endLine == pos.line) = true := by rfl) (hs : starEach (e :: es) X.env = (false, eval e X.env) :: starEach es X.env := by rfl) (hplain : (backTo pos (starEach es X.env)).any (·.1) = false := by rfl) :
    PE X (.Call (.Attribute o "count" apos) (e :: es) [] pos) (tE g W (cM false countD c cs)) := se_meth false PySem.F.slot_list_count rfl mt_lcount countD_ok ho ha hbase hfew hline hs hplain
theorem q_pop (ho : PE X o (tE g W c)) (hbase : attributeBase o "pop" X.env (eval o X.env) = eval o X.env := by rfl) (hline : (apos.endLine == pos.line) = true := by rfl) :
    PE X (.Call (.Attribute o "pop" apos) [] [] pos) (tE g W (cM false popD c cNil)) := se_meth0 false PySem.F.slot_list_pop rfl mt_pop popD_ok ho hbase hline

/-! ints, in place -/
def addI (v u : AV) (_ : St) : RD := match v, u with
  | .int i, .int j => .val (.int (i + j))
  | _, _ => .bad
theorem addI_ok : D2 (ipI fun i j => i + j) addI := by
  intro w ρ A H env σ v u x y Q S rv ru p
  unfold addI at p
  split at p
  · exact ⟨_, _, rel_of_int rv, rel_of_int ru, p _ (rel_int _)⟩
  · exact p.elim
theorem subI_ok : D2 (ipI fun i j => i - j) subD := by
  intro w ρ A H env σ v u x y Q S rv ru p
  unfold subD at p
  split at p
  · exact ⟨_, _, rel_of_int rv, rel_of_int ru, p _ (rel_int _)⟩
  · exact p.elim
def ipMul (C : Int → Int → Prop) : TIp := fun x y H Q => ∃ i j, x = .int i ∧ y = .int j ∧ C i j ∧ Q (.int (i * j)) H
theorem ip_mul : PIp X .Mult (ipMul CMul) := by
  intro pins s σ H x y v u Q I r1 r2 h
  obtain ⟨i, j, e1, e2, hc, q⟩ := h
  subst e1; subst e2
  obtain ⟨t, rfl⟩ := r1
  obtain ⟨t', rfl⟩ := r2
  exact imul_int ⟨.int _, H, I.tok _, ⟨_, rfl⟩, q⟩ hc.ok
theorem ip_mulW : PIp X .Mult (ipMul CMulW) := by
  intro pins s σ H x y v u Q I r1 r2 h
  obtain ⟨i, j, e1, e2, hc, q⟩ := h
  subst e1; subst e2
  obtain ⟨t, rfl⟩ := r1
  obtain ⟨t', rfl⟩ := r2
  exact imul_int ⟨.int _, H, I.tok _, ⟨_, rfl⟩, q⟩ hc.ok
def mulI (v u : AV) (_ : St) : RD := match v, u with
  | .int i, .int j => if CMul i j then .val (.int (i * j)) else .bad
  | _, _ => .bad
theorem mulI_ok : D2 (ipMul CMul) mulI := by
  intro w ρ A H env σ v u x y Q S rv ru p
  unfold mulI at p
  split at p
  · split at p
    · rename_i h
      exact ⟨_, _, rel_of_int rv, rel_of_int ru, h, p _ (rel_int _)⟩
    · exact p.elim
  · exact p.elim
theorem mulWI_ok : D2 (ipMul CMulW) mulW := by
  intro w ρ A H env σ v u x y Q S rv ru p
  unfold mulW at p
  split at p
  · split at p
    · rename_i h
      exact ⟨_, _, rel_of_int rv, rel_of_int ru, h, p _ (rel_int _)⟩
    · exact p.elim
  · exact p.elim
/-! statements -/
theorem q_set (i : Nat) {x : Str} {p2 : Pos} (hN : X.N.Nodup) (he : PE X e (tE g W c)) (hi : X.N[i]? = some x := by rfl) (hx : Loc X.env.scope x := by first | exact .inl rfl | exact .inr rfl) (hs : swapsWith e (some (.Name x p2)) pos.line X.env = pure false := by rfl)
    (hf : X.fn x = true ∨ X.env.scope.names.lookup x = some .local := by first | exact .inl rfl | exact .inr rfl) : PS X (.Assign [.Name x p2] e pos) (tS g W (sSet i c)) := ss_set hN hi hx he hs hf
theorem q_augAdd (i : Nat) {x : Str} {p2 : Pos} (hN : X.N.Nodup) (he : PE X e (tE g W c)) (hi : X.N[i]? = some x := by rfl) (hx : Loc X.env.scope x := by first | exact .inl rfl | exact .inr rfl) (hf : X.fn x = true ∨ X.env.scope.names.lookup x = some .local := by first | exact .inl rfl | exact .inr rfl) : PS X (.AugAssign (.Name x p2) .Add e pos) (tS g W (sAug i addI c)) := ss_aug (p2 := p2) hN hi hx he ip_add addI_ok fun h => ps_aug hN hi hx h ip_add hf
theorem q_augSub (i : Nat) {x : Str} {p2 : Pos} (hN : X.N.Nodup) (he : PE X e (tE g W c)) (hi : X.N[i]? = some x := by rfl) (hx : Loc X.env.scope x := by first | exact .inl rfl | exact .inr rfl) (hf : X.fn x = true ∨ X.env.scope.names.lookup x = some .local := by first | exact .inl rfl | exact .inr rfl) : PS X (.AugAssign (.Name x p2) .Sub e pos) (tS g W (sAug i subD c)) := ss_aug (p2 := p2) hN hi hx he ip_sub subI_ok fun h => ps_aug hN hi hx h ip_sub hf
theorem q_augMul (i : Nat) {x : Str} {p2 : Pos} (hN : X.N.Nodup) (he : PE X e (tE g W c)) (hi : X.N[i]? = some x := by rfl) (hx : Loc X.env.scope x := by first | exact .inl rfl | exact .inr rfl) (hf : X.fn x = true ∨ X.env.scope.names.lookup x = some .local := by first | exact .inl rfl | exact .inr rfl) : PS X (.AugAssign (.Name x p2) .Mult e pos) (tS g W (sAug i mulI c)) := ss_aug (p2 := p2) hN hi hx he ip_mul mulI_ok fun h => ps_aug hN hi hx h ip_mul hf
theorem q_augMulW (i : Nat) {x : Str} {p2 : Pos} (hN : X.N.Nodup) (he : PE X e (tE g W c)) (hi : X.N[i]? = some x := by rfl) (hx : Loc X.env.scope x := by first | exact .inl rfl | exact .inr rfl) (hf : X.fn x = true ∨ X.env.scope.names.lookup x = some .local := by first | exact .inl rfl | exact .inr rfl) : PS X (.AugAssign (.Name x p2) .Mult e pos) (tS g W (sAug i mulW c)) := ss_aug (p2 := p2) hN hi hx he ip_mulW mulWI_ok fun h => ps_aug hN hi hx h ip_mulW hf
theorem q_augAtAdd {i : Expr} {tpos : Pos} {co cx : CE} (ho : PE X o (tE g W co)) (hi : PE X i (tE g W cx)) (he : PE X e (tE g W c))
    (ha : ∀ ov iv new, augStore i ov iv new = (do holding [new, ov, iv] (setItem ov iv new); release [new, ov, iv] []; pure .next) := by intros; rfl) : PS X (.AugAssign (.Subscript o i tpos) .Add e pos) (tS g W (sAugAt addI co cx c)) := ss_augAt ho hi he ip_add addI_ok ha
theorem q_augAtSub {i : Expr} {tpos : Pos} {co cx : CE} (ho : PE X o (tE g W co)) (hi : PE X i (tE g W cx)) (he : PE X e (tE g W c))
    (ha : ∀ ov iv new, augStore i ov iv new = (do holding [new, ov, iv] (setItem ov iv new); release [new, ov, iv] []; pure .next) := by intros; rfl) : PS X (.AugAssign (.Subscript o i tpos) .Sub e pos) (tS g W (sAugAt subD co cx c)) := ss_augAt ho hi he ip_sub subI_ok ha
theorem q_setAt {i : Expr} {tpos : Pos} {cv co cx : CE} (he : PE X e (tE g W cv)) (ho : PE X o (tE g W co)) (hi : PE X i (tE g W cx)) (hs : swapsWithSole [.Subscript o i tpos] e pos.line X.env = pure false := by rfl)
    (hw : swappedStores [.Subscript o i tpos] e X.env = pure none := by rfl)
    (ha : ∀ v, assign (.Subscript o i tpos) X.env v = (do let ov ← holding [v] (eval o X.env); let iv ← holding [v, ov] (eval i X.env); standAt tpos; holding [v, ov, iv] (setItem ov iv v); release [v, ov, iv] []) := by intros; rfl) : PS X (.Assign [.Subscript o i tpos] e pos) (tS g W (sSetAt cv co cx)) := ss_setAt he ho hi (fun h1 h2 => pg_sub h1 h2 set_list ha) hs hw
theorem q_par (i j : Nat) {x y : Str} {px py pt pt2 : Pos} {kt k2} (hc : X.calm = true) (hN : X.N.Nodup) (h : PA X [a, b] (tA g W cs)) (hi : X.N[i]? = some x := by rfl) (hj : X.N[j]? = some y := by rfl) (hij : i ≠ j := by decide)
    (hx : X.env.scope.names.lookup x = some .local := by rfl) (hy : X.env.scope.names.lookup y = some .local := by rfl) (hw : swappedStores [.Tuple [.Name x px, .Name y py] kt pt] (.Tuple [a, b] k2 pt2) X.env = pure (some [x, y]) := by rfl)
    (hs : swapsWithSole [.Tuple [.Name x px, .Name y py] kt pt] (.Tuple [a, b] k2 pt2) pos.line X.env = pure false := by rfl) : PS X (.Assign [.Tuple [.Name x px, .Name y py] kt pt] (.Tuple [a, b] k2 pt2) pos) (tS g W (sPar i j cs)) := ss_par hc hN hi hj hij h fun h => ps_par hc hN hi hj hij hx hy h hw hs
theorem q_gn (i : Nat) {x : Str} (hN : X.N.Nodup) (hi : X.N[i]? = some x := by rfl) (hx : Loc X.env.scope x := by first | exact .inl rfl | exact .inr rfl) (hf : X.fn x = true ∨ X.env.scope.names.lookup x = some .local := by first | exact .inl rfl | exact .inr rfl) : SG X g (.Name x pos) (gN i) := sg_name hN hi hx hf
/-! lists, tuples walked -/
def iSq (ca : CE) : CI := fun env A => bnd (ca env A) fun v A1 => match v with
  | .lst _ xs => if belows A1.lo xs = true then .ok xs A1 else .stuck
  | .tup xs => if belows A1.lo xs = true then .ok xs A1 else .stuck
  | _ => .stuck
def iAny (K : PySem.W.Frag) (tl : TE) : TI := fun σ H R => tl σ H fun x H1 => ∃ a, x = .ref a ∧ (((∃ xs, SqL K H1 a xs) ∧ R (Itl K a) H1) ∨ ((∃ xs, SqT K H1 a xs) ∧ R (Itt K a) H1))
theorem pi_any {tg l : Expr} {tl : TE} (hl : PE X l tl) : PI X tg l (iAny X.K tl) := by
  refine ⟨fun pins s σ H R I h => ?_⟩
  refine thn (hl.run pins s σ H _ I h) fun v s1 ⟨x, H1, I1, r1, q1⟩ => ?_
  obtain ⟨a, e, q⟩ := q1
  subst e
  cases r1
  rcases q with ⟨⟨xs, hq⟩, q⟩ | ⟨⟨xs, hq⟩, q⟩
  · obtain ⟨its, rv, p, hz⟩ := I1.list hq
    refine wpAny_pyIter_list p.isList ?_
    refine ⟨s1.heap.objs.size, [s1.heap.objs.size], _, _, H1, rfl, I1.kept (t' := s1.toks) fun b o e => Heap.get?_push_of_some _ e, turn_list a _, ⟨_, Heap.get?_push_size _ rfl, rfl, rfl⟩, fun b hb => ?_, q⟩
    have e : b = s1.heap.objs.size := by simpa using hb
    subst e
    exact I1.fpOk (Nat.le_refl _) (I1.hok.fresh (Nat.le_refl _))
  · obtain ⟨its, rv, p, hz⟩ := I1.tuple hq
    refine wpAny_pyIter_tuple (show s1.heap.IsTuple a its.toArray from p) ?_
    refine ⟨s1.heap.objs.size, [s1.heap.objs.size], _, _, H1, rfl, I1.kept (t' := s1.toks) fun b o e => Heap.get?_push_of_some _ e, turn_tuple a _, ⟨_, Heap.get?_push_size _ rfl, rfl, rfl⟩, fun b hb => ?_, q⟩
    have e : b = s1.heap.objs.size := by simpa using hb
    subst e
    exact I1.fpOk (Nat.le_refl _) (I1.hok.fresh (Nat.le_refl _))
theorem si_sq {tg : Expr} (ha : PE X a (tE g W ca)) : PI X tg a (tI g W (iSq ca)) := PI.mono (pi_any ha) fun σ H R q => by
  refine tI.one q fun w ρ1 A1 env H1 v x hg S r q => ?_
  cases v with
  | lst f xs =>
    dsimp only at q
    split at q
    · rename_i hb
      obtain ⟨p, vs, rfl, hv, rs⟩ := S.listOf r (xs := xs) rfl
      refine ⟨p, rfl, .inl ⟨⟨vs, SqL.of hv⟩, q ρ1 H1 _ _ Ext.refl S itr_list fun y hy => ?_⟩⟩
      rw [List.mem_singleton.mp hy]
      exact ⟨below_lst hb, lst_any r⟩
    · exact q.elim
  | tup xs =>
    dsimp only at q
    split at q
    · rename_i hb
      obtain ⟨p, vs, rfl, hv, rs⟩ := r.tupOf
      refine ⟨p, rfl, .inr ⟨⟨vs, SqT.of hv⟩, q ρ1 H1 _ _ Ext.refl S itr_tup fun y hy => ?_⟩⟩
      rw [List.mem_singleton.mp hy]
      exact ⟨below_tup hb, r⟩
    · exact q.elim
  | _ => exact q.elim
end
section
variable {P : Program} {w : World} {K : PySem.W.Frag} {mg : Str → Option Value} {base : Heap} {g : Gb}
theorem fn_def {x : Str} {st : Stmt} {f : Addr} {fd : FuncData} {N ps : List Str} {k n np : Nat} {body : CS} (F : Fun K x x st f fd) (hm : mg x = some (.ref f)) (S : FnScope N ps (defScope st)) (hbd : BindE fd ps) (hn : n = N.length) (hp : np = ps.length)
    (hb : ∀ (cdv : Value) (A : Around) (outer : List PySem.Env) (s : Shared) (H : Hp) (E : XK), Room k (A.deeper (envOfC x (defScope st) s.heap.objs.size f cdv)) →
      Takes (cxOf (L2.CX P w) P w K mg base N x (defScope st) f cdv A outer s H E) (wish E) →
      PassesOwn (model P w) (A.deeper (envOfC x (defScope st) s.heap.objs.size f cdv)) (cxOf (L2.CX P w) P w K mg base N x (defScope st) f cdv A outer s H E).env (cxOf (L2.CX P w) P w K mg base N x (defScope st) f cdv A outer s H E).xe →
      PSs (cxOf (L2.CX P w) P w K mg base N x (defScope st) f cdv A outer s H E) (defBody st) (tS g (wish E) body)) : Def P w K mg base g x (k + 1) ps (runF np n body) :=
  ⟨f, fd, hm, F.kp, hbd, fn_ok F S hn hp fun cdv A outer s H E hr => hb cdv A outer s H E hr (takes_of rfl rfl rfl rfl) (passes_of rfl)⟩

/-! a def that is not yet known; the law's own def -/
theorem def_stuck {x : Str} {st : Stmt} {f : Addr} {fd : FuncData} {N ps : List Str} {k : Nat} (F : Fun K x x st f fd) (hm : mg x = some (.ref f)) (S : FnScope N ps (defScope st)) (hbd : BindE fd ps) : Def P w K mg base g x k ps (fun _ _ => .stuck) := by
  refine ⟨f, fd, hm, F.kp, hbd, ⟨fun vs H Q E h => ?_, fun A outer s H args us vs Q E hr he hb hv h => ?_⟩⟩
  · obtain ⟨w, ρ, as, cs, _, _, _, _, _, _, q⟩ := h
    exact q.elim
  · obtain ⟨w, ρ, as, cs, _, _, _, _, _, _, q⟩ := h
    exact q.elim
/-- the law: for whatever errors' classes -/
def spLawA (f : FS) (K : PySem.W.Frag) : Sp := fun vs H Q E => ∀ g : Gb, g.kk = K → spF g f vs H Q E
theorem bind_e {x qual : Str} {st : Stmt} {f : Addr} {fd : FuncData} {ps : List Str} (F : Fun K x qual st f fd)
    (h : ∀ (kV doc pm : Value) (an : Option Addr) (cdv ct : Value) (us : List Value), us.length = ps.length → bindArgs (PySem.W.fnOf x qual (defArgs st) (defBody st) (defScope st) .none kV doc pm an cdv ct) ⟨us, []⟩ = pure (ps.zip us)) : BindE fd ps := by
  obtain ⟨oc, od, kV, doc, pm, an, cdv, ct, osl, rfl, lk, hcd⟩ := F.ex
  exact h kV doc pm an cdv ct
theorem law_ok {x : Str} {st : Stmt} {f : Addr} {fd : FuncData} {N ps : List Str} {k n np : Nat} {body : CS} (F : Fun K x x st f fd) (S : FnScope N ps (defScope st)) (hn : n = N.length) (hp : np = ps.length) (hg : g.kk = K)
    (hb : ∀ (cdv : Value) (A : Around) (outer : List PySem.Env) (s : Shared) (H : Hp) (E : XK), Room k (A.deeper (envOfC x (defScope st) s.heap.objs.size f cdv)) →
      Takes (cxOf (L2.CX P w) P w K mg base N x (defScope st) f cdv A outer s H E) (wish E) →
      PassesOwn (model P w) (A.deeper (envOfC x (defScope st) s.heap.objs.size f cdv)) (cxOf (L2.CX P w) P w K mg base N x (defScope st) f cdv A outer s H E).env (cxOf (L2.CX P w) P w K mg base N x (defScope st) f cdv A outer s H E).xe →
      PSs (cxOf (L2.CX P w) P w K mg base N x (defScope st) f cdv A outer s H E) (defBody st) (tS g (wish E) body)) : FnOk P w K mg base (L2.CX P w) (k + 1) f fd ps (spLawA (runF np n body) K) :=
  (fn_ok F S hn hp fun cdv A outer s H E hr => hb cdv A outer s H E hr (takes_of rfl rfl rfl rfl) (passes_of rfl)).imp fun vs H Q E q => q g hg
end
theorem cx_false {P : Program} {w : World} {outer : List PySem.Env} {H : Hp} {s : Shared} {e : Value} {s' : Shared} (h : L2.CX P w outer H s (fun _ _ _ => False) e s') : False := by
  obtain ⟨a, B, H', cls, d, _, _, _, _, _, _, _, z⟩ := h
  exact z
theorem spLaw_start {fs : FS} {K : PySem.W.Frag} {H : Hp} {a : Addr} {ns : List Int} (ho : Only H) (hS : SqL K H a (ns.map V.int)) (h : fs [.scr ns] [] = .ok (.bl true) []) : spLawA fs K [.ref a] H (fun v _ => v = .bl true) fun _ _ _ => False := by
  intro g hg
  refine ⟨⟨g, H, fun _ => False, fun _ => False, 0, fun _ => 0, none, []⟩, fun _ => 0, [.scr ns], [], rfl, rfl, rfl, rfl, ?_, RelAs.cons ?_ RelAs.nil, ?_⟩
  · exact ⟨fun a o h _ => h, fun a h => h, fun a h => h.elim, fun n m c c' e => by simp [ent] at e, fun n c e => by simp [ent] at e, ⟨Nat.zero_le _, Nat.zero_le _⟩, fun j hj => absurd hj (Nat.not_lt_zero _), fun p hp => (nomatch hp), ⟨rfl, fun i v h => by simp at h⟩⟩
  · unfold RelA
    refine ⟨a, rfl, ?_⟩
    rcases hS with hS | hS
    · rcases hS with hS | ⟨o, hS⟩
      · rcases ho a with z | ⟨o, xs, z⟩
        · rw [z] at hS; cases hS
        · rw [z] at hS; cases hS
      · exact .inl ⟨⟨o, hS⟩, fun ⟨n, c, e, _⟩ => by simp [ent] at e⟩
    · exact .inr (by rw [hg]; exact hS)
  · rw [h]
    refine ⟨rfl, fun ρ' H' x _ r => ?_⟩
    unfold RelA at r
    exact r
section
variable {X : Cx} {g : Gb} {W : WX} {e : Expr} {es : List Expr} {cs : Env → St → R (List AV)} {pos p : Pos}
/-- list(script) -/
def listSD (vs : List AV) (A : St) : RD := match vs with
  | [.scr ns] => .lst (ns.map AV.int)
  | _ => .bad
theorem q_listS (fr : Bool) (hk : g.kk = X.K) (hm : X.mg "list" = none) (ha : PA X (e :: es) (tA g W cs)) (hg : Gl X "list" := by rfl) (he : starEach (e :: es) X.env = (false, eval e X.env) :: starEach es X.env := by rfl) (hpl : (backTo pos (starEach es X.env)).any (·.1) = false := by rfl) : PE X (.Call (.Name "list" p) (e :: es) [] pos) (tE g W (cN fr listSD cs)) := by
  refine PE.mono (pe_callTy call_list_of hg hm boot_list ha (by decide) (by decide) he hpl) fun σ H Q q => ?_
  refine tG.one q fun w ρ A env vs A1 ρ1 H1 xs hg S e S1 r1 q => ?_
  have p := fin_ok S1 q
  unfold listSD at p
  split at p
  · rename_i ns
    obtain ⟨x, rfl, r2⟩ := one_rel r1
    unfold RelA at r2
    obtain ⟨a, rfl, h⟩ := r2
    have hS : SqL X.K H1 a (ns.map V.int) := by
      rcases h with ⟨⟨o, hp⟩, _⟩ | h
      · exact .inl (.inr ⟨o, hp⟩)
      · rw [hg, hk] at h
        exact .inr h
    exact ⟨a, _, rfl, .inl hS, fun l hl => p l _ hl (rel_ints ns)⟩
  · exact p.elim
end
end Sx

set_option maxHeartbeats 2000000
namespace Sx
open PySem PySem.Spec PyProof.Rows L2
/-! ## errors of own classes: class 0 is the base of all others -/
def subB (c d : Nat) : Bool := c == d || d == 0
structure XcOk (K : PySem.W.Frag) (mg : Str → Option Value) (g : Gb) (n : Nat) (nm : Nat → Str) (fl : Nat → List Str) : Prop where
  mg : ∀ c, c < n → mg (nm c) = some (.ref (g.cls c))
  fld : ∀ c, c < n → g.fld c = fl c
  oex : ∀ c, c < n → OexC K (g.cls c)
  exc : ∀ c, c < n → ExcC K (g.cls c)
  no : ∀ c, c < n → ∀ f ∈ fl c, PySem.W.findIn K (.ref (g.cls c)) f = some none
  sub : ∀ c, c < n → ∀ d, d < n → PySem.W.subIn K (.ref (g.cls c)) (.ref (g.cls d)) = some (subB c d)
  subV : ∀ c, c < n → PySem.W.subIn K (.ref (g.cls c)) (.type "ValueError") = some true
theorem xf_of {K : PySem.W.Frag} {C : Addr} (h : ExcC K C) : XfC K C := ⟨h.hg, h.hk, h.hs, h.hd⟩
/-- the world of a suite -/
def Gb.hot (g : Gb) (c : Addr × Addr × Addr) : Gb := { g with cur := some c }
def Wd.hot (w : Wd) (c : Addr × Addr × Addr) : Wd := { w with g := w.g.hot c }
mutual
def noX : AV → Bool
  | .tup xs => noXs xs
  | .lst _ xs => noXs xs
  | .exc _ _ => false
  | _ => true
def noXs : List AV → Bool
  | [] => true
  | x :: xs => noX x && noXs xs
end
def noXC : Option Cell → Bool
  | some (.lst xs) => noXs xs
  | some (.dK _ xs) => noXs xs
  | some (.dT _ xs) => noXs xs
  | none => true
def noXE : Option AV → Bool
  | some v => noX v
  | none => true
section
variable {w : Wd} {ρ : Nat → Addr} {A : St} {H : Hp} {env : Env} {σ : L2.St} {k : Addr × Addr × Addr}
theorem hot_to (h0 : w.g.cur = none) : ∀ {v : AV} {x : V}, RelA w ρ A H v x → RelA (w.hot k) ρ A H v x ∧ noX v = true := by
  have key : ∀ n : Nat, (∀ v : AV, sizeOf v < n → ∀ x, RelA w ρ A H v x → RelA (w.hot k) ρ A H v x ∧ noX v = true) ∧ (∀ vs : List AV, sizeOf vs < n → ∀ xs, RelAs w ρ A H vs xs → RelAs (w.hot k) ρ A H vs xs ∧ noXs vs = true) := by
    intro n
    induction n with
    | zero => exact ⟨fun v h => absurd h (Nat.not_lt_zero _), fun v h => absurd h (Nat.not_lt_zero _)⟩
    | succ n ih =>
      refine ⟨fun v hv x r => ?_, fun vs hv xs r => ?_⟩
      · cases v with
        | tup xs =>
          unfold RelA at r ⊢
          obtain ⟨p, vs, rfl, hp, hl, rs⟩ := r
          obtain ⟨r1, r2⟩ := ih.2 xs (by simp at hv; omega) vs rs
          exact ⟨⟨p, vs, rfl, hp, hl, r1⟩, by unfold noX; exact r2⟩
        | lst f xs =>
          unfold RelA at r ⊢
          obtain ⟨p, vs, rfl, hp, hl, hf, hfl, rs⟩ := r
          obtain ⟨r1, r2⟩ := ih.2 xs (by simp at hv; omega) vs rs
          exact ⟨⟨p, vs, rfl, hp, hl, hf, hfl, r1⟩, by unfold noX; exact r2⟩
        | exc c xs =>
          unfold RelA at r
          obtain ⟨a, d, fs, vs, e1, _⟩ := r
          rw [h0] at e1
          cases e1
        | _ => unfold RelA at r ⊢; exact ⟨r, rfl⟩
      · cases vs with
        | nil => exact ⟨by unfold RelAs at r ⊢; exact r, rfl⟩
        | cons v vs =>
          obtain ⟨y, ys, rfl, r1, r2⟩ := r.cons_of
          obtain ⟨a1, a2⟩ := ih.1 v (by simp at hv; omega) y r1
          obtain ⟨b1, b2⟩ := ih.2 vs (by simp at hv; omega) ys r2
          exact ⟨RelAs.cons a1 b1, by unfold noXs; rw [a2, b2]; rfl⟩
  intro v x r
  exact (key (sizeOf v + 1)).1 v (Nat.lt_succ_self _) x r
theorem hot_tos (h0 : w.g.cur = none) : ∀ {v : List AV} {x : List V}, RelAs w ρ A H v x → RelAs (w.hot k) ρ A H v x
  | [], _, r => by rw [r.nil_of]; exact RelAs.nil
  | v :: vs, _, r => by
    obtain ⟨y, ys, rfl, r1, r2⟩ := r.cons_of
    exact RelAs.cons (hot_to h0 r1).1 (hot_tos h0 r2)
theorem hot_of : ∀ {v : AV} {x : V}, noX v = true → RelA (w.hot k) ρ A H v x → RelA w ρ A H v x := by
  have key : ∀ n : Nat, (∀ v : AV, sizeOf v < n → ∀ x, noX v = true → RelA (w.hot k) ρ A H v x → RelA w ρ A H v x) ∧ (∀ vs : List AV, sizeOf vs < n → ∀ xs, noXs vs = true → RelAs (w.hot k) ρ A H vs xs → RelAs w ρ A H vs xs) := by
    intro n
    induction n with
    | zero => exact ⟨fun v h => absurd h (Nat.not_lt_zero _), fun v h => absurd h (Nat.not_lt_zero _)⟩
    | succ n ih =>
      refine ⟨fun v hv x no r => ?_, fun vs hv xs no r => ?_⟩
      · cases v with
        | tup xs =>
          unfold RelA at r ⊢
          unfold noX at no
          obtain ⟨p, vs, rfl, hp, hl, rs⟩ := r
          exact ⟨p, vs, rfl, hp, hl, ih.2 xs (by simp at hv; omega) vs no rs⟩
        | lst f xs =>
          unfold RelA at r ⊢
          unfold noX at no
          obtain ⟨p, vs, rfl, hp, hl, hf, hfl, rs⟩ := r
          exact ⟨p, vs, rfl, hp, hl, hf, hfl, ih.2 xs (by simp at hv; omega) vs no rs⟩
        | exc c xs => unfold noX at no; cases no
        | _ => unfold RelA at r ⊢; exact r
      · cases vs with
        | nil => unfold RelAs at r ⊢; exact r
        | cons v vs =>
          obtain ⟨y, ys, rfl, r1, r2⟩ := r.cons_of
          unfold noXs at no
          obtain ⟨n1, n2⟩ := Bool.and_eq_true_iff.mp no
          exact RelAs.cons (ih.1 v (by simp at hv; omega) y n1 r1) (ih.2 vs (by simp at hv; omega) ys n2 r2)
  intro v x no r
  exact (key (sizeOf v + 1)).1 v (Nat.lt_succ_self _) x no r
theorem hot_ofs : ∀ {v : List AV} {x : List V}, noXs v = true → RelAs (w.hot k) ρ A H v x → RelAs w ρ A H v x
  | [], _, _, r => by rw [r.nil_of]; exact RelAs.nil
  | v :: vs, _, no, r => by
    obtain ⟨y, ys, rfl, r1, r2⟩ := r.cons_of
    unfold noXs at no
    obtain ⟨n1, n2⟩ := Bool.and_eq_true_iff.mp no
    exact RelAs.cons (hot_of n1 r1) (hot_ofs n2 r2)
theorem Sit.toHot (S : Sit w ρ A H env σ) (h0 : w.g.cur = none) : Sit (w.hot k) ρ A H env σ :=
  ⟨S.keep, S.mono, S.fb, S.inj, fun n c e => let ⟨h1, h2, h3⟩ := S.cell n c e; ⟨h1, by
    cases c with
    | lst xs => obtain ⟨vs, a, b⟩ := h2; exact ⟨vs, a, hot_tos h0 b⟩
    | dK ks xs => obtain ⟨vs, a, b, c, d⟩ := h2; exact ⟨vs, a, b, c, hot_tos h0 d⟩
    | dT ks xs => obtain ⟨vs, a, b, c, d⟩ := h2; exact ⟨vs, a, b, c, hot_tos h0 d⟩, h3⟩, S.lo, S.ins, fun p hp => ⟨(S.pend p hp).1, (hot_to h0 (S.pend p hp).2).1⟩, S.env.1, fun i v q => let ⟨x, h1, h2⟩ := S.env.2 i v q; ⟨x, h1, (hot_to h0 h2).1⟩⟩
theorem all_get {α : Type} {p : α → Bool} {l : List α} {i : Nat} {x : α} (h : l.all p = true) (e : l[i]? = some x) : p x = true := List.all_eq_true.mp h x (List.mem_of_getElem? e)
theorem Sit.ofHot (hp : ∀ p ∈ w.pend, noX p.1 = true) (hc : A.c.all noXC = true) (he : env.all noXE = true) (S : Sit (w.hot k) ρ A H env σ) : Sit w ρ A H env σ :=
  ⟨S.keep, S.mono, S.fb, S.inj, fun n c e => let ⟨h1, h2, h3⟩ := S.cell n c e; ⟨h1, by
    have no := all_get hc e
    cases c with
    | lst xs => obtain ⟨vs, a, b⟩ := h2; exact ⟨vs, a, hot_ofs no b⟩
    | dK ks xs => obtain ⟨vs, a, b, c, d⟩ := h2; exact ⟨vs, a, b, c, hot_ofs no d⟩
    | dT ks xs => obtain ⟨vs, a, b, c, d⟩ := h2; exact ⟨vs, a, b, c, hot_ofs no d⟩, h3⟩, S.lo, S.ins, fun p hp' => ⟨(S.pend p hp').1, hot_of (hp p hp') (S.pend p hp').2⟩, S.env.1, fun i v q => let ⟨x, h1, h2⟩ := S.env.2 i v q; ⟨x, h1, hot_of (show noX v = true from all_get (p := noXE) (x := some v) he q) h2⟩⟩
theorem Sit.killB (S : Sit w ρ A H env σ) (i : Nat) : Sit w ρ A H (env.set i none) (σ.set i none) :=
  ⟨S.keep, S.mono, S.fb, S.inj, S.cell, S.lo, S.ins, S.pend, by simp [S.env.1], fun j v q => by
    by_cases e : i = j
    · subst e
      by_cases hi : i < env.length
      · rw [List.getElem?_set_self hi] at q; cases q
      · rw [List.getElem?_eq_none (by simpa using hi)] at q; cases q
    · rw [List.getElem?_set_ne e] at q ⊢
      exact S.env.2 j v q⟩
end
/-- a suite ends: the name of the error goes -/
def okX (e : Env) (A : St) : Bool := A.c.all noXC && e.all noXE
def offX (i : Nat) : RS → RS
  | .nx e A => if okX (e.set i none) A = true then .nx (e.set i none) A else .stuck
  | .bk e A => if okX (e.set i none) A = true then .bk (e.set i none) A else .stuck
  | .ct e A => if okX (e.set i none) A = true then .ct (e.set i none) A else .stuck
  | .rt v e A => if okX (e.set i none) A = true ∧ noX v = true then .rt v (e.set i none) A else .stuck
  | _ => .stuck
/-- try: b, except class d as i: h -/
def sTry (n d i : Nat) (b h : CS) : CS := fun env A => match b env A with
  | .exc c xs e A1 => if c < n then (if subB c d = true then offX i (h (e.set i (some (.exc c xs))) A1) else .exc c xs e A1) else .stuck
  | r => r
def offX0 : RS → RS
  | .exc _ _ _ _ => .stuck
  | r => r
/-- the same, the error without a name -/
def sTry0 (n d : Nat) (b h : CS) : CS := fun env A => match b env A with
  | .exc c xs e A1 => if c < n then (if subB c d = true then offX0 (h e A1) else .exc c xs e A1) else .stuck
  | r => r
abbrev W0 : WX := fun _ _ _ _ => False
/-- what a suite asks -/
def tHot (g : Gb) (h : CS) (a : Addr) (cls : Value) (d : Option Addr) : TS := match cls, d with
  | .ref C, some d' => tS (g.hot (a, C, d')) W0 h
  | _, _ => fun _ _ _ => False
section
variable {X : Cx} {g : Gb} {W : WX} {n d i : Nat} {nm : Nat → Str} {fl : Nat → List Str} {b h : CS} {x nme : Str} {np pos pos' : Pos} {body suite : List Stmt} {b₀ : Stmt}
theorem exm_of {K : PySem.W.Frag} {mg : Str → Option Value} (Y : XcOk K mg g n nm fl) {c : Nat} (hc : c < n) (hd : d < n) : PySem.W.exmOne K (.ref (g.cls c)) (.ref (g.cls d)) = some (subB c d) :=
  PySem.W.exm_ref (Y.exc d hd).hs (Y.exc d hd).hd (Y.oex d hd).tyC (Y.sub c hc d hd)
theorem pss_false {X : Cx} {st : List Stmt} : PSs X st (fun _ _ _ => False) := ⟨fun _ _ _ _ _ _ q => q.elim⟩
theorem ss_try (Y : XcOk X.K X.mg g n nm fl) (h0 : g.cur = none) (hd : d < n) (tk : Takes X W) (hN : X.N.Nodup) (hs : X.stack = X.env :: X.outer := by rfl) (hf : X.env.frame = some X.env.locals := by rfl) (hi : X.N[i]? = some nme := by rfl) (hln : X.env.kindOf nme = some .local := by rfl)
    (hx : nm d = x := by rfl) (hg : Gl X x := by rfl) (hdb : (x == ("__debug__" : Str)) = false := by decide)
    (hb : ∀ (W : WX) (pn : List (Addr × Obj)) (xe : Value → Shared → Prop), Takes (X.tr pn xe) W → PassesOwn (model X.prog X.w) X.A X.env xe → PSs (X.tr pn xe) body (tS g W b))
    (hsu : ∀ (a : Addr) (oe : Obj) (C d' : Addr) (pn : List (Addr × Obj)), Zc (.ref C) (some d') oe → (∃ vs, oe.data = .fields vs) → PSs (X.suite a ((a, oe) :: pn)) (b₀ :: suite) (tS (g.hot (a, C, d')) W0 h)) :
    PS X (.Try body [.ExceptHandler (some (.Name x np)) (some nme) (b₀ :: suite) pos'] [] [] pos) (tS g W (sTry n d i b h)) := by
  refine PS.mono (ps_try_as (ts := tHot g h) hs hf hN hi hln ⟨hg, hdb, .inl (by rw [← hx]; exact Y.mg d hd)⟩ tk hb (fun a oe cls d' pn hz hfd => ?_)) fun D σ H q => ?_
  · unfold tHot
    split
    · exact hsu a oe _ _ pn hz hfd
    · exact pss_false
  · obtain ⟨w, ρ, A, env, hw, S, q⟩ := q
    refine ⟨w, ρ, A, env, hw, S, ?_⟩
    unfold sTry at q
    have hwc : w.g.cur = none := by rw [hw]; exact h0
    cases e : b env A with
    | nx e1 A1 => rw [e] at q; exact q
    | bk e1 A1 => rw [e] at q; exact q
    | ct e1 A1 => rw [e] at q; exact q
    | rt v e1 A1 => rw [e] at q; exact q
    | stuck => rw [e] at q; exact q
    | exc c xs e1 A1 =>
      rw [e] at q
      dsimp only at q
      split at q
      · rename_i hc
        intro ρ1 H1 σ1 C dd S1 rl
        have rl0 := rl
        obtain ⟨d', fs, vs, rfl, rfl, hd', hlv, hfs, hlen, rs⟩ := rl
        refine ⟨subB c d, by rw [hw]; exact exm_of Y hc hd, fun hyes a ha => ?_, fun hno => ?_⟩
        · rw [if_pos hyes] at q
          show tS (g.hot (a, w.g.cls c, d')) W0 h _ _ _
          have hgh : (w.hot (a, w.g.cls c, d')).g = g.hot (a, w.g.cls c, d') := by show w.g.hot _ = _; rw [hw]
          refine ⟨w.hot (a, w.g.cls c, d'), ρ1, A1, e1.set i (some (.exc c xs)), hgh, (S1.toHot hwc).setE ?_ i, ?_⟩
          · unfold RelA
            exact ⟨a, d', fs, vs, rfl, rfl, hd', hlv, hfs, hlen, hot_tos hwc rs⟩
          · have hp : ∀ p ∈ w.pend, noX p.1 = true := fun p hp => (hot_to (k := (a, w.g.cls c, d')) hwc (S1.pend p hp).2).2
            have back : ∀ {e2 : Env} {A2 : St} {ρ2 : Nat → Addr} {H2 : Hp} {σ2 : L2.St}, okX (e2.set i none) A2 = true → Sit (w.hot (a, w.g.cls c, d')) ρ2 A2 H2 e2 σ2 → Sit w ρ2 A2 H2 (e2.set i none) (σ2.set i none) := fun hok S2 => by
              obtain ⟨o1, o2⟩ := Bool.and_eq_true_iff.mp hok
              exact (S2.killB i).ofHot hp o1 o2
            cases eh : h (e1.set i (some (.exc c xs))) A1 with
            | nx e2 A2 =>
              rw [eh] at q
              unfold offX at q
              dsimp only at q
              split at q
              · rename_i hok
                exact fun ρ2 H2 σ2 S2 => q ρ2 H2 _ (back hok S2)
              · exact q.elim
            | bk e2 A2 =>
              rw [eh] at q
              unfold offX at q
              dsimp only at q
              split at q
              · rename_i hok
                exact fun ρ2 H2 σ2 S2 => q ρ2 H2 _ (back hok S2)
              · exact q.elim
            | ct e2 A2 =>
              rw [eh] at q
              unfold offX at q
              dsimp only at q
              split at q
              · rename_i hok
                exact fun ρ2 H2 σ2 S2 => q ρ2 H2 _ (back hok S2)
              · exact q.elim
            | rt v e2 A2 =>
              rw [eh] at q
              unfold offX at q
              dsimp only at q
              split at q
              · rename_i hok
                exact fun ρ2 H2 σ2 x S2 r2 => q ρ2 H2 _ x (back hok.1 S2) (hot_of hok.2 r2)
              · exact q.elim
            | exc c2 xs2 e2 A2 => rw [eh] at q; exact q.elim
            | stuck => rw [eh] at q; exact q.elim
        · rw [if_neg (by rw [hno]; exact Bool.false_ne_true)] at q
          exact q ρ1 H1 σ1 _ _ S1 rl0
      · exact q.elim
theorem ss_try0 (Y : XcOk X.K X.mg g n nm fl) (hd : d < n) (tk : Takes X W) (hs : X.stack = X.env :: X.outer := by rfl) (hf : X.env.frame = some X.env.locals := by rfl)
    (hx : nm d = x := by rfl) (hg : Gl X x := by rfl) (hdb : (x == ("__debug__" : Str)) = false := by decide)
    (hb : ∀ (W : WX) (pn : List (Addr × Obj)) (xe : Value → Shared → Prop), Takes (X.tr pn xe) W → PassesOwn (model X.prog X.w) X.A X.env xe → PSs (X.tr pn xe) body (tS g W b))
    (hsu : ∀ (a : Addr) (oe : Obj) (pn : List (Addr × Obj)), (∃ vs, oe.data = .fields vs) → PSs (X.suite a ((a, oe) :: pn)) (b₀ :: suite) (tS g W0 h)) :
    PS X (.Try body [.ExceptHandler (some (.Name x np)) none (b₀ :: suite) pos'] [] [] pos) (tS g W (sTry0 n d b h)) := by
  refine PS.mono (ps_try_only (ts := fun _ _ _ => tS g W0 h) hs hf ⟨hg, hdb, .inl (by rw [← hx]; exact Y.mg d hd)⟩ tk hb (fun a oe cls d' pn hz hfd => hsu a oe pn hfd)) fun D σ H q => ?_
  obtain ⟨w, ρ, A, env, hw, S, q⟩ := q
  refine ⟨w, ρ, A, env, hw, S, ?_⟩
  unfold sTry0 at q
  cases e : b env A with
  | nx e1 A1 => rw [e] at q; exact q
  | bk e1 A1 => rw [e] at q; exact q
  | ct e1 A1 => rw [e] at q; exact q
  | rt v e1 A1 => rw [e] at q; exact q
  | stuck => rw [e] at q; exact q
  | exc c xs e1 A1 =>
    rw [e] at q
    dsimp only at q
    split at q
    · rename_i hc
      intro ρ1 H1 σ1 C dd S1 rl
      have rl0 := rl
      obtain ⟨d', fs, vs, rfl, rfl, hd', hlv, hfs, hlen, rs⟩ := rl
      refine ⟨subB c d, by rw [hw]; exact exm_of Y hc hd, fun hyes a ha => ?_, fun hno => ?_⟩
      · rw [if_pos hyes] at q
        refine ⟨w, ρ1, A1, e1, hw, S1, ?_⟩
        cases eh : h e1 A1 with
        | exc c2 xs2 e2 A2 => rw [eh] at q; exact q.elim
        | nx e2 A2 => rw [eh] at q; exact q
        | bk e2 A2 => rw [eh] at q; exact q
        | ct e2 A2 => rw [eh] at q; exact q
        | rt v e2 A2 => rw [eh] at q; exact q
        | stuck => rw [eh] at q; exact q.elim
      · rw [if_neg (by rw [hno]; exact Bool.false_ne_true)] at q
        exact q ρ1 H1 σ1 _ _ S1 rl0
    · exact q.elim
end
/-! ## isinstance(e, C), e.f -/
def cIsX (n d : Nat) (ce : CE) : CE := fun env A => bnd (ce env A) fun v A1 => match v with
  | .exc c _ => if c < n ∧ d < n then .ok (.bl (subB c d)) A1 else .stuck
  | _ => .stuck
def cIsV (n : Nat) (ce : CE) : CE := fun env A => bnd (ce env A) fun v A1 => match v with
  | .exc c _ => if c < n then .ok (.bl true) A1 else .stuck
  | _ => .stuck
def lkX : List Str → List AV → Str → Option AV
  | f :: fs, x :: xs, y => if y = f then some x else lkX fs xs y
  | _, _, _ => none
def cXf (n : Nat) (fl : Nat → List Str) (f : Str) (ce : CE) : CE := fun env A => bnd (ce env A) fun v A1 => match v with
  | .exc c xs => if c < n then (match lkX (fl c) xs f with
    | some u => .ok u A1
    | none => .stuck) else .stuck
  | _ => .stuck
theorem lkX_ok {w : Wd} {ρ : Nat → Addr} {A : St} {H : Hp} : ∀ {fs : List Str} {xs : List AV} {vs : List V} {f : Str} {u : AV}, RelAs w ρ A H xs vs → lkX fs xs f = some u → f ∈ fs ∧ ∃ v, (fs.zip vs).lookup f = some v ∧ RelA w ρ A H u v
  | [], _, _, _, _, _, h => by cases h
  | _ :: _, [], _, _, _, _, h => by cases h
  | g :: fs, x :: xs, vs, f, u, r, h => by
    obtain ⟨v, vs', rfl, r1, r2⟩ := r.cons_of
    unfold lkX at h
    split at h
    · rename_i e
      subst e
      cases h
      exact ⟨List.mem_cons_self, v, by simp [List.lookup], r1⟩
    · rename_i e
      obtain ⟨h1, v', h2, h3⟩ := lkX_ok r2 h
      refine ⟨List.mem_cons_of_mem _ h1, v', ?_, h3⟩
      have e' : (f == g) = false := by simpa using e
      simp [List.lookup, e', h2]
/-- as call_isE, for errors that have a dict -/
theorem kin_classD {prog : Program} {w : World} {A : Around} {E : Value → Shared → Prop} {s : Shared} {K : PySem.W.Frag} {x D : Addr} {ox : Obj} {od : Option Obj} {Q : Option Value → Shared → Prop} (hga : PySem.W.findIn K (.ref D) "__getattribute__" = some (some (.builtin "BaseException.__getattribute__"))) (hgt : PySem.W.findIn K (.ref D) "__getattr__" = some none) (hsub : PySem.W.subIn K (.ref D) (.type "BaseException") = some true)
    (hdct : PySem.W.hasDictIn K D = true) (ha : PySem.W.findIn K (.ref D) "__class__" = some (some (.builtin "object.__class__")))
    (hn : PySem.W.specialIn K (.builtin "object.__class__") "__get__" = some (some (.builtin "getset_descriptor.__get__"))) (htk : PySem.W.takesIn K (.builtin "object.__class__") = some true) (hm : PySem.W.mroIn K D (.type "object") = some true)
    (X : K.In s.heap) (I : PySem.W.InstAt s.heap x ox D od) (h : Q (some (.ref D)) { s with toks := s.toks + 1 }) : wpAny (model prog w) A (getAttr? (.ref x) "__class__") Q E s := by
  have hf : PySem.W.findObj K D od "__class__" = some (.bind (.builtin "getset_descriptor.__get__") (.builtin "object.__class__")) := by
    have hc : (PySem.W.clsIn K D).isSome = true := by obtain ⟨cd, hc, _⟩ := PySem.W.any_some hdct; rw [hc]; rfl
    obtain ⟨cd, hc⟩ := Option.isSome_iff_exists.mp hc
    unfold PySem.W.findObj
    rw [hc, Option.bind_some, ha, Option.bind_some]
    simp [hn, htk]
  obtain ⟨hp, g, d, t, os⟩ := s
  have L0 := I.type (M := model prog w)
  have L1 := PySem.W.looks_findIn (M := model prog w) X hga
  have L2 := PySem.W.looks_findIn (M := model prog w) X hgt
  have L3 := PySem.W.looks_find (M := model prog w) X I hf
  have sub : PySem.W.Looks (model prog w) hp (isInstance (.ref x) (.type "BaseException")) true := L0.andThen (PySem.W.looks_subIn X hsub)
  have hx0 : (false && onTheHeap (Value.builtin "BaseException.__getattribute__")) = false := rfl
  have hx2 : (Value.builtin "BaseException.__getattribute__" == Value.builtin "object.__getattribute__") = false := by decide +kernel
  have hx1 : (onTheHeap (Value.ref D) && Value.builtin "BaseException.__getattribute__" == Value.builtin "object.__getattribute__") = false := by rw [hx2]; rfl
  unfold getAttr? getAttrBy? getAttrBy
  refine wpAny_bind (wpAny_mkText (wpAny_bind (wpAny_attempt (wpAny_holding (wpAny_bind (L0.at (wpAny_bind (L1.at ?_))))))))
  show wpAny _ _ (if (onTheHeap (Value.ref D) && Value.builtin "BaseException.__getattribute__" == Value.builtin "object.__getattribute__") = true then _ else _) _ _ _
  rw [hx1, if_neg Bool.false_ne_true]
  unfold getAttrByItsOwn hookBefore
  refine wpAny_bind ?_
  rw [if_pos (show onTheHeap (Value.ref D) = true from rfl)]
  refine L2.at ?_
  refine wpAny_bind (wpAny_attempt (wpAny_holding ?_))
  unfold callGetattribute
  rw [hx0, if_neg Bool.false_ne_true]
  unfold boundAndCalled
  rw [PySem.F.excAttr_ValueError.ga.bind (.ref x)]
  refine wpAny_bind (wpAny_pure ?_)
  show wpAny _ _ (call (.builtin "BaseException.__getattribute__") [.ref x, .str "__class__" t]) _ _ _
  refine wpAny_call (codeAny_call_builtin PySem.F.excAttr_ValueError.ga.plain PySem.F.entry_bexc_ga ?_)
  refine @PySem.W.check_slot (model prog w) _ _ ⟨hp, g, d, t + 1, os⟩ "BaseException.__getattribute__" "BaseException" "__getattribute__" (.ref x) [.str "__class__" t] [] _ (by decide +kernel) (by decide +kernel) sub (PySem.F.args_bexc_ga (.ref x) (.str "__class__" t)) ?_
  unfold Builtin.«object.__getattribute__»
  refine wpAny_bind (wpAny_of_eq (a := ((Value.ref x : Value), [Value.str "__class__" t])) (by first | rfl | (simp only [slotArgs]; rfl)) ?_)
  refine wpAny_bind (wpAny_pure (wpAny_bind (L0.at (wpAny_bind (L3.at ?_)))))
  show wpAny _ _ (holding [Value.builtin "object.__class__"] (call (.builtin "getset_descriptor.__get__") [.builtin "object.__class__", .ref x, .ref D]) >>= ret) _ _ _
  refine wpAny_bind (wpAny_holding (wpAny_call (PySem.W.class_get (s := ⟨hp, g, d, t + 1, os⟩) (ox := ox) (od := od) X I hm ?_)))
  refine wpAny_pure ?_
  show wpAny _ _ (handedOut (.ref D)) _ _ _
  rw [PySem.W.handedOut_of (v := .ref D) rfl]
  first
    | exact wpAny_pure (wpAny_pure h)
    | exact wpAny_pure h
    | exact wpAny_pure (wpAny_bind (wpAny_pure (wpAny_pure h)))
theorem kitx_excD {K : PySem.W.Frag} {x D : Addr} {ox : Obj} {od : Option Obj} (C : ExcC K D) : PySem.W.KitX K (.ref x) (.ref D) (fun h => PySem.W.InstAt h x ox D od) where
  ty := fun _ _ _ I => I.type
  it := fun _ _ X _ => by
    obtain ⟨cdD, hcD, _⟩ := PySem.W.any_some C.hd
    unfold PySem.W.clsIn at hcD
    split at hcD
    · rename_i c' d' cd' sl' ho
      intro A' Q' E' s' k q
      unfold isType loadHead
      exact wpAny_bind (wpAny_loadPart (k _ _ (X _ _ ho)) (wpAny_pure q))
    · cases hcD
  ne := fun h tp dd its n sl X htp => by
    obtain ⟨cdD, hcD, _⟩ := PySem.W.any_some C.hd
    refine Bool.eq_false_iff.mpr fun q => ?_
    have e : D = tp := Value.ref.inj (beq_iff_eq.mp q)
    subst e
    unfold PySem.W.clsIn at hcD
    split at hcD
    · rename_i c' d' cd' sl' ho
      have z := (X _ _ ho).symm.trans htp
      cases z
    · cases hcD
  ca := fun X I k => kin_classD C.hg C.hk C.hs C.hd C.ha C.hn C.ht C.hm X I k
def rIsD (K : PySem.W.Frag) (D a d : Addr) : List V → Hp → VK → Prop := fun xs H Q => ∃ (c : V) (cv : Value) (b : Bool), xs = [.ref a, c] ∧ (∀ u, RelV c u → u = cv) ∧ PySem.W.kitOne K (.ref D) cv = some b ∧ (∃ fs, H d = some (.xd fs)) ∧ Q (.bl b) H
theorem call_isD {X : Cx} {a D d' : Addr} {oe : Obj} {pn : List (Addr × Obj)} (C : ExcC X.K D) (hz : Zc (.ref D) (some d') oe) (hf : ∃ vs, oe.data = .fields vs) : CallR (X.suite a ((a, oe) :: pn)) (.builtin "isinstance") (rIsD X.K D a d') := by
  intro pins s σ H xs us Q I r h
  obtain ⟨c, cv, b, rfl, hcv, e, ⟨fs, hfs⟩, q⟩ := h
  cases r with
  | cons rx rr =>
    cases rr with
    | cons rt rr =>
      cases rr
      cases rx
      have ec := hcv _ rt
      subst ec
      obtain ⟨hget, _⟩ := I.pin (a, oe) (List.mem_append.mpr (.inl List.mem_cons_self))
      obtain ⟨vs, hv⟩ := hf
      have hx : ObjOk X.prog X.w H s.heap d' (.xd fs) := I.hok d' _ hfs
      obtain ⟨mA, hns, hr⟩ := hx
      obtain ⟨od, ho, hl⟩ := lookIn_ns hns
      have J : PySem.W.InstAt s.heap a oe D (some od) := ⟨hget, hz.1, by unfold PySem.W.notCls; rw [hv] <;> rfl, by rw [hz.2]; exact ho⟩
      exact PySem.W.kia_one (kitx_excD C) I.kIn J e (fun z => nomatch z) fun tk => ⟨.bl b, H, I.kept (t' := tk) fun _ _ z => z, rfl, q⟩
section
variable {X : Cx} {g : Gb} {W : WX} {n d : Nat} {nm : Nat → Str} {fl : Nat → List Str} {e : Expr} {ce : CE} {x tn : Str} {p p2 pos : Pos} {a C d' : Addr} {oe : Obj} {pn : List (Addr × Obj)}
theorem pe_of {X : Cx} {e : Expr} {t : TE} (h : ∀ σ H Q, t σ H Q → ∃ t', PE X e t' ∧ t' σ H Q) : PE X e t := ⟨fun pins s σ H Q I q => let ⟨_, h1, h2⟩ := h σ H Q q; h1.run pins s σ H Q I h2⟩
/-- the value is an error, it is the one that the suite holds -/
theorem exc_at {w : Wd} {ρ : Nat → Addr} {A : St} {H : Hp} {c : Nat} {xs : List AV} {y : V} (hg : w.g = g.hot (a, C, d')) (r : RelA w ρ A H (.exc c xs) y) : C = g.cls c ∧ y = .ref a ∧ ∃ vs, H d' = some (.xd ((g.fld c).zip vs)) ∧ RelAs w ρ A H xs vs := by
  unfold RelA at r
  obtain ⟨a1, d1, fs, vs, e1, rfl, hd, hl, rfl, e3, rs⟩ := r
  rw [hg] at e1
  have e2 : (a, C, d') = (a1, g.cls c, d1) := Option.some.inj e1
  obtain ⟨rfl, rfl, rfl⟩ : a = a1 ∧ C = g.cls c ∧ d' = d1 := by simpa [Prod.ext_iff] using e2
  rw [hg] at hd
  exact ⟨rfl, rfl, vs, hd, rs⟩
theorem q_isX (Y : XcOk X.K X.mg g n nm fl) (hd : d < n) (hz : Zc (.ref C) (some d') oe) (hf : ∃ vs, oe.data = .fields vs) (hm : X.mg "isinstance" = none) (ha : PE (X.suite a ((a, oe) :: pn)) e (tE (g.hot (a, C, d')) W ce)) (hxt : nm d = tn := by rfl) (hg : Gl X "isinstance" := by rfl) (hgT : Gl X tn := by rfl) (hdT : (tn == ("__debug__" : Str)) = false := by decide)
    (he0 : starEach [.Name tn p2] X.env = (false, eval (.Name tn p2) X.env) :: starEach [] X.env := by rfl)
    (he : starEach [e, .Name tn p2] X.env = (false, eval e X.env) :: starEach [.Name tn p2] X.env := by rfl) (hpl : (backTo pos (starEach [.Name tn p2] X.env)).any (·.1) = false := by rfl) :
    PE (X.suite a ((a, oe) :: pn)) (.Call (.Name "isinstance" p) [e, .Name tn p2] [] pos) (tE (g.hot (a, C, d')) W (cIsX n d ce)) := by
  by_cases hC : ∃ c, c < n ∧ C = g.cls c
  · obtain ⟨c, hc, rfl⟩ := hC
    refine PE.mono (pe_callB (X := X.suite a ((a, oe) :: pn)) (call_isD (Y.exc c hc) hz hf) hg hm bt_isinstance (pa_cons ha (pa_cons (pe_glob (v := .ref (g.cls d)) hgT (by rw [← hxt]; exact Y.mg d hd) rfl hdT) pa_nil he0) he) (by decide) (by decide) he hpl) fun σ H Q q => ?_
    refine tG.one q fun w ρ A env v A1 ρ1 H1 x hg S e S1 r1 q => ?_
    cases v with
    | exc c1 xs =>
      dsimp only at q
      split at q
      · rename_i hcd
        obtain ⟨e1, rfl, vs, h1, h2⟩ := exc_at hg r1
        refine ⟨.ref (g.cls d), .ref (g.cls d), subB c1 d, rfl, fun u ru => ru, ?_, ⟨_, h1⟩, q ρ1 H1 _ Ext.refl S1 (rel_bl _)⟩
        unfold PySem.W.kitOne
        have hs := Y.sub c1 hcd.1 d hd
        by_cases hq : (Value.ref (g.cls c) == Value.ref (g.cls d)) = true
        · rw [if_pos hq]
          have hq' : g.cls c = g.cls d := Value.ref.inj (beq_iff_eq.mp hq)
          have h3 := Y.sub d hd d hd
          rw [← e1, hq'] at hs
          rw [hs] at h3
          have h4 : subB d d = true := by unfold subB; simp
          rw [h4] at h3
          exact h3.symm
        · rw [if_neg hq, e1]
          unfold PySem.W.kitCls
          have hcs : (PySem.W.clsIn X.K (g.cls d)).isSome = true := by obtain ⟨cd, hc, _⟩ := PySem.W.any_some (Y.exc d hd).hd; rw [hc]; rfl
          dsimp only
          rw [hcs, (Y.oex d hd).tyC]
          exact hs
      · exact q.elim
    | _ => exact q.elim
  · have hno : CallR (X.suite a ((a, oe) :: pn)) (.builtin "isinstance") (fun _ _ _ => False) := fun _ _ _ _ _ _ _ _ _ q => q.elim
    refine PE.mono (pe_callB (X := X.suite a ((a, oe) :: pn)) hno hg hm bt_isinstance (pa_cons ha (pa_cons (pe_glob (v := .ref (g.cls d)) hgT (by rw [← hxt]; exact Y.mg d hd) rfl hdT) pa_nil he0) he) (by decide) (by decide) he hpl) fun σ H Q q => ?_
    refine tG.one q fun w ρ A env v A1 ρ1 H1 x hg S e S1 r1 q => ?_
    cases v with
    | exc c1 xs =>
      dsimp only at q
      split at q
      · rename_i hcd
        obtain ⟨e1, _⟩ := exc_at hg r1
        exact hC ⟨c1, hcd.1, e1⟩
      · exact q.elim
    | _ => exact q.elim
theorem bt_VE : bootBuiltins "ValueError" = some (.type "ValueError") := by decide +kernel
theorem q_isV (Y : XcOk X.K X.mg g n nm fl) (hz : Zc (.ref C) (some d') oe) (hf : ∃ vs, oe.data = .fields vs) (hm : X.mg "isinstance" = none) (hmV : X.mg "ValueError" = none) (ha : PE (X.suite a ((a, oe) :: pn)) e (tE (g.hot (a, C, d')) W ce)) (hg : Gl X "isinstance" := by rfl) (hgT : Gl X "ValueError" := by rfl)
    (he0 : starEach [.Name "ValueError" p2] X.env = (false, eval (.Name "ValueError" p2) X.env) :: starEach [] X.env := by rfl)
    (he : starEach [e, .Name "ValueError" p2] X.env = (false, eval e X.env) :: starEach [.Name "ValueError" p2] X.env := by rfl) (hpl : (backTo pos (starEach [.Name "ValueError" p2] X.env)).any (·.1) = false := by rfl) :
    PE (X.suite a ((a, oe) :: pn)) (.Call (.Name "isinstance" p) [e, .Name "ValueError" p2] [] pos) (tE (g.hot (a, C, d')) W (cIsV n ce)) := by
  by_cases hC : ∃ c, c < n ∧ C = g.cls c
  · obtain ⟨c, hc, rfl⟩ := hC
    refine PE.mono (pe_callB (X := X.suite a ((a, oe) :: pn)) (call_isD (Y.exc c hc) hz hf) hg hm bt_isinstance (pa_cons ha (pa_cons (pe_bltn (v := .ty "ValueError") hgT hmV bt_VE rfl) pa_nil he0) he) (by decide) (by decide) he hpl) fun σ H Q q => ?_
    refine tG.one q fun w ρ A env v A1 ρ1 H1 x hg S e S1 r1 q => ?_
    cases v with
    | exc c1 xs =>
      dsimp only at q
      split at q
      · rename_i hcd
        obtain ⟨e1, rfl, vs, h1, h2⟩ := exc_at hg r1
        refine ⟨.ty "ValueError", .type "ValueError", true, rfl, fun u ru => ru, ?_, ⟨_, h1⟩, q ρ1 H1 _ Ext.refl S1 (rel_bl _)⟩
        unfold PySem.W.kitOne
        rw [if_neg (show ¬ ((Value.ref (g.cls c) == Value.type "ValueError") = true) from fun z => by have z2 := beq_iff_eq.mp z; cases z2)]
        unfold PySem.W.kitCls
        have hk : PySem.W.kitMeta "ValueError" = true := by decide +kernel
        dsimp only
        rw [if_pos hk]
        exact Y.subV c hc
      · exact q.elim
    | _ => exact q.elim
  · have hno : CallR (X.suite a ((a, oe) :: pn)) (.builtin "isinstance") (fun _ _ _ => False) := fun _ _ _ _ _ _ _ _ _ q => q.elim
    refine PE.mono (pe_callB (X := X.suite a ((a, oe) :: pn)) hno hg hm bt_isinstance (pa_cons ha (pa_cons (pe_bltn (v := .ty "ValueError") hgT hmV bt_VE rfl) pa_nil he0) he) (by decide) (by decide) he hpl) fun σ H Q q => ?_
    refine tG.one q fun w ρ A env v A1 ρ1 H1 x hg S e S1 r1 q => ?_
    cases v with
    | exc c1 xs =>
      dsimp only at q
      split at q
      · rename_i hcd
        obtain ⟨e1, _⟩ := exc_at hg r1
        exact hC ⟨c1, hcd, e1⟩
      · exact q.elim
    | _ => exact q.elim
theorem pe_attr0 {X : Cx} {e : Expr} {te : TE} {f : Str} {pos : Pos} (he : PE X e te) (hb : attributeBase e f X.env (eval e X.env) = eval e X.env) : PE X (.Attribute e f pos) (fun σ H Q => te σ H fun _ _ => False) :=
  ⟨fun pins s σ H Q I h => attr_of hb (thn (he.run pins s σ H _ I h) fun u s1 hh => by
    obtain ⟨x, H1, I1, rx, q⟩ := hh
    exact q.elim)⟩
theorem q_xf (f : Str) (Y : XcOk X.K X.mg g n nm fl) (hz : Zc (.ref C) (some d') oe) (hf : ∃ vs, oe.data = .fields vs) (ha : PE (X.suite a ((a, oe) :: pn)) e (tE (g.hot (a, C, d')) W ce)) (hb : attributeBase e f X.env (eval e X.env) = eval e X.env := by rfl) :
    PE (X.suite a ((a, oe) :: pn)) (.Attribute e f pos) (tE (g.hot (a, C, d')) W (cXf n fl f ce)) := by
  by_cases hC : ∃ c, c < n ∧ C = g.cls c ∧ f ∈ fl c
  · obtain ⟨c, hc, rfl, hfl⟩ := hC
    refine PE.mono (pe_xf (X := X) (xf_of (Y.exc c hc)) (Y.no c hc f hfl) hz hf ha hb) fun σ H Q q => ?_
    refine tG.one q fun w ρ A env v A1 ρ1 H1 x hg S e S1 r1 q => ?_
    cases v with
    | exc c1 xs =>
      dsimp only at q
      split at q
      · rename_i hcd
        obtain ⟨e1, rfl, vs, h1, h2⟩ := exc_at hg r1
        split at q
        · rename_i u hu
          obtain ⟨k1, v, k2, k3⟩ := lkX_ok h2 hu
          refine ⟨rfl, rfl, d', _, v, rfl, h1, ?_, q ρ1 H1 _ Ext.refl S1 k3⟩
          rw [Y.fld c1 hcd]
          exact k2
        · exact q.elim
      · exact q.elim
    | _ => exact q.elim
  · refine PE.mono (pe_attr0 (X := X.suite a ((a, oe) :: pn)) (f := f) (pos := pos) ha hb) fun σ H Q q => ?_
    refine tG.one q fun w ρ A env v A1 ρ1 H1 x hg S e S1 r1 q => ?_
    cases v with
    | exc c1 xs =>
      dsimp only at q
      split at q
      · rename_i hcd
        obtain ⟨e1, rfl, vs, h1, h2⟩ := exc_at hg r1
        split at q
        · rename_i u hu
          obtain ⟨k1, v, k2, k3⟩ := lkX_ok h2 hu
          exact hC ⟨c1, hcd, e1, k1⟩
        · exact q.elim
      · exact q.elim
    | _ => exact q.elim
end
/-! ## raise C(..) -/
theorem newX {H : Hp} {a dx : Addr} {fs : List (Str × V)} (ha : H a = none) (hd : dx ≠ a) {M : Hp} (hM : ∀ b, b ≠ dx → b ≠ a → M b = H b) : upd (del M a) dx (.xd fs) = upd H dx (.xd fs) := by
  funext b
  by_cases e : b = dx
  · subst e; rw [upd_same, upd_same]
  · rw [upd_ne e, upd_ne e]
    by_cases e2 : b = a
    · subst e2; rw [del_same, ha]
    · rw [del_ne e2, hM b e e2]
/-- what C's own __init__ keeps: its fields, the latest first -/
def spI (K : PySem.W.Frag) (C : Addr) (fs : List Str) : Sp := fun vs H Q E => ∃ (a : Addr) (ws : List V), vs = .ref a :: ws ∧ ws.length = fs.length ∧ OexC K C ∧ (∀ f ∈ fs, PySem.W.findIn K (.ref C) f = some none) ∧ H a = some (exo a C none) ∧
  ∀ dx M, H dx = none → dx ≠ a → (∀ b, b ≠ dx → b ≠ a → M b = H b) → Q .non (upd (upd M dx (exd dx (fs.zip ws.reverse))) a (exo a C (some dx)))
section
variable {P : Program} {w : World} {K : PySem.W.Frag} {mg : Str → Option Value} {base : Heap}
theorem spI_len {C : Addr} {fs : List Str} {vs H Q E} (h : spI K C fs vs H Q E) : vs.length = fs.length + 1 := by
  obtain ⟨a, ws, rfl, hl, _⟩ := h
  simp [hl]
theorem init1 {qual : Str} {st : Stmt} {fI C : Addr} {fd : FuncData} {f p0 p1 : Str} (F : Fun K "__init__" qual st fI fd) (S : FnScope [p0, p1] [p0, p1] (defScope st))
    (hb : ∀ (cdv : Value) (A : Around) (outer : List PySem.Env) (s : Shared) (H : Hp) (E : XK), PSs (cxOf (L2.CX P w) P w K mg base [p0, p1] qual (defScope st) fI cdv A outer s H E) (defBody st) (tOst K f (tVar 0) (tVar 1))) :
    FnOk P w K mg base (L2.CX P w) 1 fI fd [p0, p1] (spI K C [f]) :=
  F.okX (k := 0) S (fun vs H Q E h => (spI_len h : vs.length = _)) fun cdv A outer s H vs Q E hr h => ⟨_, hb cdv A outer s H E, by
    obtain ⟨a, ws, rfl, hl, hO, hno, ha, q⟩ := h
    match ws, hl with
    | [v], _ => exact ⟨v, rfl, .ref a, rfl, a, C, rfl, hO, hno f List.mem_cons_self, .inl ⟨ha, fun dx h1 h2 => q dx H h1 h2 (fun _ _ _ => rfl)⟩⟩⟩
theorem init2 {qual : Str} {st : Stmt} {fI C : Addr} {fd : FuncData} {f f2 p0 p1 p2 : Str} (F : Fun K "__init__" qual st fI fd) (S : FnScope [p0, p1, p2] [p0, p1, p2] (defScope st))
    (hb : ∀ (cdv : Value) (A : Around) (outer : List PySem.Env) (s : Shared) (H : Hp) (E : XK), PSs (cxOf (L2.CX P w) P w K mg base [p0, p1, p2] qual (defScope st) fI cdv A outer s H E) (defBody st) (fun D σ H => tOst K f (tVar 0) (tVar 1) { D with nx := tOst K f2 (tVar 0) (tVar 2) D } σ H)) :
    FnOk P w K mg base (L2.CX P w) 1 fI fd [p0, p1, p2] (spI K C [f2, f]) :=
  F.okX (k := 0) S (fun vs H Q E h => (spI_len h : vs.length = _)) fun cdv A outer s H vs Q E hr h => ⟨_, hb cdv A outer s H E, by
    obtain ⟨a, ws, rfl, hl, hO, hno, ha, q⟩ := h
    match ws, hl with
    | [v, v2], _ =>
      refine ⟨v, rfl, .ref a, rfl, a, C, rfl, hO, hno f (by simp), .inl ⟨ha, fun dx h1 h2 => ?_⟩⟩
      refine ⟨v2, rfl, .ref a, rfl, a, C, rfl, hO, hno f2 (by simp), .inr ⟨dx, [(f, v)], upd_same, by rw [upd_ne h2, upd_same], by simp, ?_⟩⟩
      have e : upd (upd (upd H dx (exd dx [(f, v)])) a (exo a C (some dx))) dx (exd dx [(f2, v2), (f, v)]) = upd (upd H dx (exd dx ([f2, f].zip [v, v2].reverse))) a (exo a C (some dx)) := by
        funext b
        by_cases e1 : b = dx
        · subst e1; rw [upd_same, upd_ne h2, upd_same]; rfl
        · rw [upd_ne e1]
          by_cases e2 : b = a
          · subst e2; rw [upd_same, upd_same]
          · rw [upd_ne e2, upd_ne e2, upd_ne e1, upd_ne e1]
      show Q .non _
      rw [e]
      exact q dx H h1 h2 (fun _ _ _ => rfl)⟩
end
/-- raise C(..) -/
def sRaise (n : Nat) (fl : Nat → List Str) (c : Nat) (cs : Env → St → R (List AV)) : CS := fun env A => sB (cs env A) env fun vs A1 => if c < n ∧ vs.length = (fl c).length then .exc c vs.reverse env A1 else .stuck
section
variable {X : Cx} {g : Gb} {W : WX} {n c : Nat} {nm : Nat → Str} {fl : Nat → List Str} {e : Expr} {es : List Expr} {cs : Env → St → R (List AV)} {x : Str} {p pos pos2 : Pos} {fI : Addr} {fd : FuncData} {ps : List Str} {k j : Nat}
/-- a class with its __init__ -/
structure IniOk (P : Program) (w : World) (K : PySem.W.Frag) (mg : Str → Option Value) (base : Heap) (C : Addr) (fs : List Str) : Prop where
  ex : ∃ fI fd ps, PySem.W.findIn K (.ref C) "__init__" = some (some (.ref fI)) ∧ PySem.W.typeIn K (.ref fI) = some (.type "function") ∧ BindE fd ps ∧ FnOk P w K mg base (L2.CX P w) 1 fI fd ps (spI K C fs)
theorem ss_raise (Y : XcOk X.K X.mg g n nm fl) (hcn : c < n) (hc : X.calm = true) (I : IniOk X.prog X.w X.K X.mg X.base (g.cls c) (fl c)) (tk : Takes X W) (hr : Room k X.A) (hk : 2 ≤ k) (ha : PA X (e :: es) (tA g W cs)) (har : (fl c).length ≤ 10 := by decide) (hx : nm c = x := by rfl) (hg : Gl X x := by rfl)
    (hdb : (x == ("__debug__" : Str)) = false := by decide) (he : starEach (e :: es) X.env = (false, eval e X.env) :: starEach es X.env := by rfl) (hpl : (backTo pos (starEach es X.env)).any (·.1) = false := by rfl) :
    PS X (.Raise (some (.Call (.Name x p) (e :: es) [] pos)) none pos2) (tS g W (sRaise n fl c cs)) := by
  obtain ⟨fI, fd, ps, iC, tI, hbd, F1⟩ := I.ex
  have hbb : Binds X.K fd ps [] := Binds.all hbd
  refine PS.mono (ps_raise hc tk (pmk_oex (ds := []) (dvs := []) (Y.oex c hcn) iC tI F1 (hr.mono hk) hbb .nil passL hg (by rw [← hx]; exact Y.mg c hcn) ha hdb he hpl)) fun D σ H q => ?_
  obtain ⟨w, ρ, A, env, hw, S, q⟩ := q
  refine tG.stmt hw S q fun vs A1 ρ1 H1 xs e1 S1 r q => ?_
  split at q
  · rename_i hcl
    have hlen : xs.length = (fl c).length := by rw [← r.length]; exact hcl.2
    refine ⟨by omega, fun a ha => ⟨a, xs, by simp, hlen, Y.oex c hcn, Y.no c hcn, upd_same, fun dx M h1 h2 h3 => ⟨rfl, dx, (fl c).zip xs.reverse, upd_same, by rw [upd_ne h2, upd_same], by rw [upd_ne h2] at h1; exact h1, ?_⟩⟩⟩
    have h1' : H1 dx = none := by rw [upd_ne h2] at h1; exact h1
    rw [newX (H := H1) ha h2 (fun b b1 b2 => by rw [upd_ne b2, upd_ne b1, h3 b b1 b2, upd_ne b2])]
    obtain ⟨f1, f2⟩ := S1.new (o := .xd ((fl c).zip xs.reverse)) h1'
    refine q ρ1 _ _ _ _ f2 ⟨dx, (fl c).zip xs.reverse, xs.reverse, ?_, rfl, upd_same, S1.notLive h1', ?_, ?_, r.reverse.ext f1⟩
    · rw [hw]
    · rw [hw, Y.fld c hcn]
    · rw [hw, Y.fld c hcn]; simp [hlen]
  · exact q.elim
end
/-! as printed -/
def clsBody (st : Stmt) (j : Nat) : Stmt := match st with
  | .ClassDef _ _ _ body _ _ _ _ _ _ _ => body.getD j (.Pass ⟨0, 0, 0, 0⟩)
  | _ => .Pass ⟨0, 0, 0, 0⟩
theorem no_cons {P : Str → Prop} {f : Str} {fs : List Str} (h : P f) (r : ∀ x ∈ fs, P x) : ∀ x ∈ f :: fs, P x := fun x hx => by
  rcases List.mem_cons.mp hx with rfl | hx
  · exact h
  · exact r x hx
section
variable {X : Cx} {g : Gb} {W : WX} {a b : Expr} {ca cb : CE} {pos : Pos}
theorem q_eqU (hu : X.A.units + 64 < cLine) (ha : PE X a (tE g W ca)) (hb : PE X b (tE g W cb)) : PE X (.Compare a [.Eq] [b] pos) (tE g W (c2 false eqD ca cb)) := se_cmp (op_eqX hu) eqD_ok ha hb (nomark _)
theorem q_neU (hu : X.A.units + 64 < cLine) (ha : PE X a (tE g W ca)) (hb : PE X b (tE g W cb)) : PE X (.Compare a [.NotEq] [b] pos) (tE g W (c2 false neD ca cb)) := se_cmp (op_neX hu) neD_ok ha hb (nomark _)
theorem t_eqU (hu : X.A.units + 64 < cLine) (ha : PE X a (tE g W ca)) (hb : PE X b (tE g W cb)) : PT X (.Compare a [.Eq] [b] pos) (tT g W (c2 false eqD ca cb)) := st_cmp (op_eqX hu) eqD_ok ha hb (nomark _)
theorem t_neU (hu : X.A.units + 64 < cLine) (ha : PE X a (tE g W ca)) (hb : PE X b (tE g W cb)) : PT X (.Compare a [.NotEq] [b] pos) (tT g W (c2 false neD ca cb)) := st_cmp (op_neX hu) neD_ok ha hb (nomark _)
end
end Sx

namespace Sx
/-! # plain Lean: what programs of combinators compute. Equations for simp; they fire where the environment is a list written out -/
def varK (o : Option (Option AV)) (A : St) : R AV := match o with
  | some (some v) => .ok v A
  | _ => .stuck
def andK (r : R AV) (cb : CE) (env : Env) : R AV := bnd r fun v A1 => match v with
  | .bl true => cb env A1
  | .bl false => .ok (.bl false) A1
  | _ => .stuck
def orK (r : R AV) (cb : CE) (env : Env) : R AV := bnd r fun v A1 => match v with
  | .bl true => .ok (.bl true) A1
  | .bl false => cb env A1
  | _ => .stuck
def ifE (r : R AV) (ca cb : CE) (env : Env) : R AV := bnd r fun v A1 => match v with
  | .bl true => ca env A1
  | .bl false => cb env A1
  | _ => .stuck
def ifK (r : R AV) (a b : CS) (env : Env) : RS := sB r env fun v A' => match v with
  | .bl true => a env A'
  | .bl false => b env A'
  | _ => .stuck
def seqK (r : RS) (b : CS) : RS := match r with
  | .nx e A' => b e A'
  | r => r
def optV (o : Option AV) : RD := match o with
  | some y => .val y
  | none => .bad
section
variable {α β : Type} {env : Env} {A : St} {c ca cb ct : CE} {cs : Env → St → R (List AV)} {v u : AV} {i : Nat} {k k2 : CS} {o : Option AV} {e : Env} {f : Fl} {xs ys : List AV} {a b j : Int} {P Q : Prop} [Decidable P] [Decidable Q]
@[simp] theorem e_var : cVar i (o :: e) A = varK ((o :: e)[i]?) A := (rfl)
@[simp] theorem varK_some : varK (some (some v)) A = .ok v A := (rfl)
@[simp] theorem e_k : cK v env A = .ok v A := (rfl)
@[simp] theorem bnd_ok {x : α} {g : α → St → R β} : bnd (.ok x A) g = g x A := (rfl)
@[simp] theorem sB_ok {x : α} {g : α → St → RS} : sB (.ok x A) env g = g x A := (rfl)
@[simp] theorem e_c1 {b : Bool} {op : AV → St → RD} : c1 b op ca (o :: e) A = bnd (ca (o :: e) A) fun x A1 => fin b (op x A1) A1 := (rfl)
@[simp] theorem e_c2 {b : Bool} {op : AV → AV → St → RD} : c2 b op ca cb (o :: e) A = bnd (ca (o :: e) A) fun x A1 => bnd (cb (o :: e) A1) fun y A2 => fin b (op x y A2) A2 := (rfl)
@[simp] theorem e_cN {b : Bool} {op : List AV → St → RD} : cN b op cs (o :: e) A = bnd (cs (o :: e) A) fun xs A1 => fin b (op xs A1) A1 := (rfl)
@[simp] theorem e_nil : cNil env A = .ok [] A := (rfl)
@[simp] theorem e_cons : cCons ca cs (o :: e) A = bnd (ca (o :: e) A) fun x A1 => bnd (cs (o :: e) A1) fun xs A2 => .ok (x :: xs) A2 := (rfl)
@[simp] theorem fin_val' {b : Bool} : fin b (.val v) A = .ok v A := (rfl)
@[simp] theorem fin_tup {b : Bool} : fin b (.tup xs) A = .ok (.tup xs) A := (rfl)
@[simp] theorem fin_lstF : fin false (.lst xs) A = .ok (.lst .new xs) A := (rfl)
@[simp] theorem fin_lstT : fin true (.lst xs) A = .ok (.ref A.c.length) ⟨A.c ++ [some (.lst xs)], A.lo⟩ := (rfl)
@[simp] theorem e_and : cAnd ca cb (o :: e) A = andK (ca (o :: e) A) cb (o :: e) := (rfl)
@[simp] theorem andK_t : andK (.ok (.bl true) A) cb env = cb env A := (rfl)
@[simp] theorem andK_f : andK (.ok (.bl false) A) cb env = .ok (.bl false) A := (rfl)
@[simp] theorem andK_d : andK (.ok (.bl (decide P)) A) cb env = if P then cb env A else .ok (.bl false) A := by
  by_cases h : P <;> simp [h]
@[simp] theorem andK_n {p : Bool} : andK (.ok (.bl (!p)) A) cb env = if p = false then cb env A else .ok (.bl false) A := by
  cases p <;> simp
@[simp] theorem e_or : cOr ca cb (o :: e) A = orK (ca (o :: e) A) cb (o :: e) := (rfl)
@[simp] theorem orK_t : orK (.ok (.bl true) A) cb env = .ok (.bl true) A := (rfl)
@[simp] theorem orK_f : orK (.ok (.bl false) A) cb env = cb env A := (rfl)
@[simp] theorem orK_d : orK (.ok (.bl (decide P)) A) cb env = if P then .ok (.bl true) A else cb env A := by
  by_cases h : P <;> simp [h]
@[simp] theorem orK_n {p : Bool} : orK (.ok (.bl (!p)) A) cb env = if p = false then .ok (.bl true) A else cb env A := by
  cases p <;> simp
@[simp] theorem e_if : cIf ct ca cb (o :: e) A = ifE (ct (o :: e) A) ca cb (o :: e) := (rfl)
@[simp] theorem ifE_t : ifE (.ok (.bl true) A) ca cb env = ca env A := (rfl)
@[simp] theorem ifE_f : ifE (.ok (.bl false) A) ca cb env = cb env A := (rfl)
@[simp] theorem ifE_d : ifE (.ok (.bl (decide P)) A) ca cb env = if P then ca env A else cb env A := by
  by_cases h : P <;> simp [h]
/-! operations -/
@[simp] theorem x_addI : addD (.int a) (.int b) A = .val (.int (a + b)) := (rfl)
theorem addL_eq (hv : listOf A v = some xs) (hu : listOf A u = some ys) (h : xs.length + ys.length ≤ PySem.sizeLine) : addD v u A = .lst (xs ++ ys) := by
  cases v <;> cases u <;> simp_all [addD, listOf]
@[simp] theorem x_sub : subD (.int a) (.int b) A = .val (.int (a - b)) := (rfl)
@[simp] theorem x_neg : negD (.int a) A = .val (.int (-a)) := (rfl)
@[simp] theorem x_lt : ltD (.int a) (.int b) A = .val (.bl (decide (a < b))) := (rfl)
@[simp] theorem x_le : leD (.int a) (.int b) A = .val (.bl (decide (a ≤ b))) := (rfl)
@[simp] theorem x_gt : gtD (.int a) (.int b) A = .val (.bl (decide (b < a))) := (rfl)
@[simp] theorem x_ge : geD (.int a) (.int b) A = .val (.bl (decide (b ≤ a))) := (rfl)
@[simp] theorem x_eqI : eqD (.int a) (.int b) A = .val (.bl (decide (a = b))) := (rfl)
@[simp] theorem x_neI : neD (.int a) (.int b) A = .val (.bl (!decide (a = b))) := (rfl)
@[simp] theorem x_isN : isD .non .non A = .val (.bl true) := (rfl)
@[simp] theorem x_isI : isD (.int a) .non A = .val (.bl false) := (rfl)
@[simp] theorem x_isL : isD (.lst f xs) .non A = .val (.bl false) := (rfl)
@[simp] theorem x_isT : isD (.tup xs) .non A = .val (.bl false) := (rfl)
@[simp] theorem x_isntN : isntD .non .non A = .val (.bl false) := (rfl)
@[simp] theorem x_isntI : isntD (.int a) .non A = .val (.bl true) := (rfl)
@[simp] theorem x_isntL : isntD (.lst f xs) .non A = .val (.bl true) := (rfl)
@[simp] theorem x_isntT : isntD (.tup xs) .non A = .val (.bl true) := (rfl)
theorem mul_eq (h : L2.CMul a b) : mulD (.int a) (.int b) A = .val (.int (a * b)) := by simp [mulD, h]
theorem mod_eq (h : 0 < b) : modD (.int a) (.int b) A = .val (.int (a % b)) := by simp [modD, h]
theorem fdiv_eq (h : L2.CDivW a b) : fdivD (.int a) (.int b) A = .val (.int (a / b)) := by simp [fdivD, h]
theorem pow_eq (h : L2.CPow a b) : powD (.int a) (.int b) A = .val (.int (a ^ b.toNat)) := by simp [powD, h]
@[simp] theorem optV_some : optV (some v) = .val v := (rfl)
@[simp] theorem x_notB {p : Bool} : notD (.bl p) A = .val (.bl (!p)) := (rfl)
@[simp] theorem x_ixL : ixD (.lst f xs) (.int a) A = optV (L2.atI xs a) := by
  unfold ixD optV seqOf listOf
  rfl
@[simp] theorem x_ixT : ixD (.tup xs) (.int a) A = optV (L2.atI xs a) := by
  unfold ixD optV seqOf
  rfl
theorem x_ixR (n : Nat) (h : cellAt A n = some (.lst xs)) : ixD (.ref n) (.int a) A = optV (L2.atI xs a) := by
  unfold ixD optV seqOf listOf
  simp only [h]
  try rfl
@[simp] theorem atI_nat {α : Type} (xs : List α) (k : Nat) : L2.atI xs (k : Int) = xs[k]? := by
  unfold L2.atI L2.ixN
  rw [if_pos (Int.natCast_nonneg k)]
  by_cases h : (k : Int) < xs.length
  · rw [if_pos h]; simp
  · rw [if_neg h, List.getElem?_eq_none (by omega)]; rfl
theorem atI_nn {α : Type} (xs : List α) {i : Int} (h : 0 ≤ i) : L2.atI xs i = xs[i.toNat]? := by
  have := atI_nat xs i.toNat
  rwa [Int.toNat_of_nonneg h] at this
@[simp] theorem atI_0 {α : Type} (xs : List α) : L2.atI xs 0 = xs[0]? := atI_nat xs 0
@[simp] theorem atI_1 {α : Type} (xs : List α) : L2.atI xs 1 = xs[1]? := atI_nat xs 1
@[simp] theorem atI_2 {α : Type} (xs : List α) : L2.atI xs 2 = xs[2]? := atI_nat xs 2
@[simp] theorem atI_3 {α : Type} (xs : List α) : L2.atI xs 3 = xs[3]? := atI_nat xs 3
@[simp] theorem atI_m1 {α : Type} (xs : List α) : L2.atI xs (-1) = xs[xs.length - 1]? := by
  unfold L2.atI L2.ixN
  rw [if_neg (by decide)]
  by_cases h : -(xs.length : Int) ≤ -1
  · rw [if_pos h]
    show xs[(-1 + (xs.length : Int)).toNat]? = _
    congr 1
    omega
  · rw [if_neg h, List.getElem?_eq_none (by omega)]; rfl
@[simp] theorem x_lenL : lenD [.lst f xs] A = .val (.int xs.length) := (rfl)
@[simp] theorem x_lenT : lenD [.tup xs] A = .val (.int xs.length) := (rfl)
theorem x_lenR (n : Nat) (h : cellAt A n = some (.lst xs)) : lenD [.ref n] A = .val (.int xs.length) := by
  unfold lenD seqOf listOf
  simp only [h]
@[simp] theorem x_abs : absD [.int a] A = .val (.int (if a < 0 then -a else a)) := (rfl)
@[simp] theorem x_int : intD [.int a] A = .val (.int a) := (rfl)
@[simp] theorem x_intB {p : Bool} : intD [.bl p] A = .val (.int (if p = true then 1 else 0)) := (rfl)
@[simp] theorem x_max : maxD [.int a, .int b] A = .val (.int (max a b)) := by
  show RD.val (.int (if b > a then b else a)) = _
  congr 2
  rw [Int.max_def]
  split <;> split <;> omega
@[simp] theorem x_min : minD [.int a, .int b] A = .val (.int (min a b)) := by
  show RD.val (.int (if b < a then b else a)) = _
  congr 2
  rw [Int.min_def]
  split <;> split <;> omega
theorem x_lst (h : xs.length ≤ PySem.sizeLine) : lstD xs A = .lst xs := by simp [lstD, h]
theorem x_tup (h : xs.length ≤ PySem.sizeLine) : tupD xs A = .tup xs := by simp [tupD, h]
@[simp] theorem x_lst0 : lstD [] A = .lst [] := (rfl)
@[simp] theorem x_lst1 {a : AV} : lstD [a] A = .lst [a] := (rfl)
@[simp] theorem x_lst2 {a b : AV} : lstD [a, b] A = .lst [a, b] := (rfl)
@[simp] theorem x_lst3 {a b c : AV} : lstD [a, b, c] A = .lst [a, b, c] := (rfl)
@[simp] theorem x_lst4 {a b c d : AV} : lstD [a, b, c, d] A = .lst [a, b, c, d] := (rfl)
@[simp] theorem x_tup1 {a : AV} : tupD [a] A = .tup [a] := (rfl)
@[simp] theorem x_tup2 {a b : AV} : tupD [a, b] A = .tup [a, b] := (rfl)
@[simp] theorem x_tup3 {a b c : AV} : tupD [a, b, c] A = .tup [a, b, c] := (rfl)
@[simp] theorem x_listL : listD [.lst f xs] A = .lst xs := (rfl)
@[simp] theorem x_listT : listD [.tup xs] A = .lst xs := (rfl)
/-! statements -/
@[simp] theorem s_seq : sSeq k k2 (o :: e) A = seqK (k (o :: e) A) k2 := (rfl)
@[simp] theorem seqK_nx : seqK (.nx env A) k = k env A := (rfl)
@[simp] theorem seqK_rt : seqK (.rt v env A) k = .rt v env A := (rfl)
@[simp] theorem seqK_bk : seqK (.bk env A) k = .bk env A := (rfl)
@[simp] theorem seqK_ct : seqK (.ct env A) k = .ct env A := (rfl)
@[simp] theorem seqK_exc {n : Nat} : seqK (.exc n xs env A) k = .exc n xs env A := (rfl)
@[simp] theorem s_skip : sSkip env A = .nx env A := (rfl)
@[simp] theorem s_expr : sExpr c (o :: e) A = sB (c (o :: e) A) (o :: e) fun _ A' => .nx (o :: e) A' := (rfl)
@[simp] theorem s_set : sSet i c (o :: e) A = sB (c (o :: e) A) (o :: e) fun v A' => .nx ((o :: e).set i (some v)) A' := (rfl)
@[simp] theorem s_ret : sRet c (o :: e) A = sB (c (o :: e) A) (o :: e) fun v A' => .rt v (o :: e) A' := (rfl)
@[simp] theorem s_retN : sRetN env A = .rt .non env A := (rfl)
@[simp] theorem s_break : sBreak env A = .bk env A := (rfl)
@[simp] theorem s_cont : sCont env A = .ct env A := (rfl)
@[simp] theorem s_if : sIf ct k k2 (o :: e) A = ifK (ct (o :: e) A) k k2 (o :: e) := (rfl)
@[simp] theorem ifK_t : ifK (.ok (.bl true) A) k k2 env = k env A := (rfl)
@[simp] theorem ifK_f : ifK (.ok (.bl false) A) k k2 env = k2 env A := (rfl)
@[simp] theorem ifK_d : ifK (.ok (.bl (decide P)) A) k k2 env = if P then k env A else k2 env A := by
  by_cases h : P <;> simp [h]
@[simp] theorem ifK_n {p : Bool} : ifK (.ok (.bl (!p)) A) k k2 env = if p = false then k env A else k2 env A := by
  cases p <;> simp
end
end Sx

namespace Sx
/-! ## cells written and read -/
def setK (o : Option St) (env : Env) : RS := match o with
  | some A4 => .nx env A4
  | none => .stuck
def augK (o : Option AV) (f : AV → RS) : RS := match o with
  | some x => f x
  | none => .stuck
section
variable {α β : Type} {env : Env} {A : St} {c ca cb ct co ci : CE} {cs : Env → St → R (List AV)} {v u : AV} {i n : Nat} {k k2 : CS} {o : Option AV} {e : Env} {f : Fl} {xs ys : List AV} {a b j : Int} {cl : List (Option Cell)} {lo : Nat} {op : AV → AV → St → RD}
@[simp] theorem cellAt_mk : cellAt ⟨cl, lo⟩ n = (cl[n]?).join := by
  unfold cellAt
  cases h : cl[n]? with
  | none => simp [h]
  | some c => cases c <;> simp [h]
@[simp] theorem s_setAt : sSetAt c co ci (o :: e) A = sB (c (o :: e) A) (o :: e) fun v A1 => sB (co (o :: e) A1) (o :: e) fun x A2 => sB (ci (o :: e) A2) (o :: e) fun i A3 => setK (setAt x i v A3) (o :: e) := (rfl)
@[simp] theorem setK_some {A4 : St} : setK (some A4) env = .nx env A4 := (rfl)
@[simp] theorem s_augAt : sAugAt op co ci c (o :: e) A = sB (co (o :: e) A) (o :: e) fun x A1 => sB (ci (o :: e) A1) (o :: e) fun i A2 => augK (getAt x i A2) fun x0 => sB (c (o :: e) A2) (o :: e) fun y A4 => sB (fin false (op x0 y A4) A4) (o :: e) fun z A5 => setK (setAt x i z A5) (o :: e) := (rfl)
@[simp] theorem augK_some {g : AV → RS} : augK (some v) g = g v := (rfl)
theorem setAt_at (h : cellAt A n = some (.lst xs)) : setAt (.ref n) (.int a) v A = (L2.ixN xs.length a).map fun j => ⟨A.c.set n (some (.lst (xs.set j v))), A.lo⟩ := by
  unfold setAt
  dsimp only
  rw [h]
  dsimp only
  cases L2.ixN xs.length a <;> rfl
theorem getAt_at (h : cellAt A n = some (.lst xs)) : getAt (.ref n) (.int a) A = L2.atI xs a := by
  unfold getAt
  dsimp only
  rw [h]
theorem ixN_nat {n m : Nat} (h : m < n) : L2.ixN n (m : Int) = some m := by
  unfold L2.ixN
  rw [if_pos (Int.natCast_nonneg m), if_pos (by omega)]
  simp
@[simp] theorem ixN_0 {n : Nat} : L2.ixN (n + 1) 0 = some 0 := ixN_nat (m := 0) (by omega)
@[simp] theorem ixN_1 {n : Nat} : L2.ixN (n + 2) 1 = some 1 := ixN_nat (m := 1) (by omega)
@[simp] theorem ixN_2 {n : Nat} : L2.ixN (n + 3) 2 = some 2 := ixN_nat (m := 2) (by omega)
@[simp] theorem ixN_3 {n : Nat} : L2.ixN (n + 4) 3 = some 3 := ixN_nat (m := 3) (by omega)
@[simp] theorem addI_int : addI (.int a) (.int b) A = .val (.int (a + b)) := (rfl)
@[simp] theorem s_aug : sAug i op c (o :: e) A = augK (((o :: e)[i]?).join) fun v => sB (c (o :: e) A) (o :: e) fun u A1 => sB (fin false (op v u A1) A1) (o :: e) fun z A2 => .nx ((o :: e).set i (some z)) A2 := by
  unfold sAug augK
  cases h : (o :: e)[i]? with
  | none => rfl
  | some w => cases w <;> rfl
/-! methods -/
def methK (o : Option (List AV)) (r : R AV) : R AV := match o with
  | some _ => r
  | none => .stuck
@[simp] theorem e_cM {fr : Bool} {g : AV → List AV → St → RD} : cM fr g ca cs (o :: e) A = bnd (ca (o :: e) A) fun x A1 => methK (listOf A1 x) (bnd (cs (o :: e) A1) fun ys A2 => fin fr (g x ys A2) A2) := by
  unfold cM methK
  congr 1
@[simp] theorem methK_some {r : R AV} : methK (some xs) r = r := (rfl)
@[simp] theorem listOf_lst : listOf A (.lst f xs) = some xs := (rfl)
theorem listOf_ref (h : cellAt A n = some (.lst xs)) : listOf A (.ref n) = some xs := by
  unfold listOf
  simp only [h]
theorem append_eq (h : cellAt A n = some (.lst xs)) (hl : xs.length < PySem.sizeLine) : appendD (.ref n) [v] A = .set n (xs ++ [v]) .non := by
  unfold appendD updD
  dsimp only
  rw [h]
  dsimp only
  rw [if_pos hl]
theorem fin_set (h : cellAt A n = some (.lst xs)) {b : Bool} : fin b (.set n ys v) A = .ok v ⟨A.c.set n (some (.lst ys)), A.lo⟩ := by
  unfold fin
  dsimp only
  rw [h]
end
/-! ## defs -/
section
variable {f : FS} {A : St} {env : Env} {v u : AV} {xs ys vs : List AV} {cs cs' : List (List AV)} {body : CS} {np n : Nat} {io : List Bool}
theorem run_eq (h : vs.length = np) : runF np n body vs cs = closeF cs.length (body (envOf n vs) (ent cs)) := by
  unfold runF
  rw [if_pos h]
@[simp] theorem run1 {a0 : AV} : runF 1 n body [a0] cs = closeF cs.length (body (envOf n [a0]) (ent cs)) := run_eq rfl
@[simp] theorem run2 {a0 a1 : AV} : runF 2 n body [a0, a1] cs = closeF cs.length (body (envOf n [a0, a1]) (ent cs)) := run_eq rfl
@[simp] theorem run3 {a0 a1 a2 : AV} : runF 3 n body [a0, a1, a2] cs = closeF cs.length (body (envOf n [a0, a1, a2]) (ent cs)) := run_eq rfl
@[simp] theorem run4 {a0 a1 a2 a3 : AV} : runF 4 n body [a0, a1, a2, a3] cs = closeF cs.length (body (envOf n [a0, a1, a2, a3]) (ent cs)) := run_eq rfl
@[simp] theorem run5 {a0 a1 a2 a3 a4 : AV} : runF 5 n body [a0, a1, a2, a3, a4] cs = closeF cs.length (body (envOf n [a0, a1, a2, a3, a4]) (ent cs)) := run_eq rfl
@[simp] theorem run6 {a0 a1 a2 a3 a4 a5 : AV} : runF 6 n body [a0, a1, a2, a3, a4, a5] cs = closeF cs.length (body (envOf n [a0, a1, a2, a3, a4, a5]) (ent cs)) := run_eq rfl
@[simp] theorem run7 {a0 a1 a2 a3 a4 a5 a6 : AV} : runF 7 n body [a0, a1, a2, a3, a4, a5, a6] cs = closeF cs.length (body (envOf n [a0, a1, a2, a3, a4, a5, a6]) (ent cs)) := run_eq rfl
@[simp] theorem run8 {a0 a1 a2 a3 a4 a5 a6 a7 : AV} : runF 8 n body [a0, a1, a2, a3, a4, a5, a6, a7] cs = closeF cs.length (body (envOf n [a0, a1, a2, a3, a4, a5, a6, a7]) (ent cs)) := run_eq rfl
theorem resV_pure {k d : Nat} (h : pureB v = true) : resV A k (d + 1) v = some v := by
  unfold resV
  rw [if_pos h]
theorem close0 (h : pureB v = true) : closeF 0 (.rt v env A) = .ok v [] := by
  unfold closeF
  dsimp only
  rw [resV_pure h]
  rfl
theorem close0n : closeF 0 (.nx env A) = .ok .non [] := rfl
theorem mapO_pure {k d : Nat} : ∀ {xs : List AV}, pureBs xs = true → mapO (resV A k (d + 1)) xs = some xs
  | [], _ => rfl
  | x :: xs, h => by
    unfold pureBs at h
    obtain ⟨h1, h2⟩ := Bool.and_eq_true_iff.mp h
    unfold mapO
    rw [resV_pure h1, mapO_pure h2]
theorem outs1 (hc : cellAt A 0 = some (.lst xs)) (hx : pureBs xs = true) : outsV A 1 1 = some [xs] := by
  unfold outsV
  rw [hc]
  unfold outsV
  dsimp only
  rw [mapO_pure hx]
  rfl
theorem close1 (hc : cellAt A 0 = some (.lst xs)) (hx : pureBs xs = true) (h : pureB v = true) : closeF 1 (.rt v env A) = .ok v [xs] := by
  unfold closeF
  dsimp only
  rw [resV_pure h, outs1 hc hx]
theorem close1n (hc : cellAt A 0 = some (.lst xs)) (hx : pureBs xs = true) : closeF 1 (.nx env A) = .ok .non [xs] := by
  unfold closeF
  dsimp only
  rw [outs1 hc hx]
/-! ## calls -/
@[simp] theorem toOlds_nil : toOlds [] = [] := by rw [toOlds]
@[simp] theorem toOlds_cons : toOlds (v :: vs) = toOld v :: toOlds vs := by rw [toOlds]
theorem ioN_false : ∀ {vs : List AV}, ioN (List.replicate vs.length false) vs = some []
  | [] => rfl
  | v :: vs => by
    rw [List.length_cons, List.replicate_succ]
    unfold ioN
    exact ioN_false
theorem expA_false {ns : List Nat} {j : Nat} : ∀ {vs : List AV}, pureBs vs = true → expA A ns j (List.replicate vs.length false) vs = some (toOlds vs)
  | [], _ => rfl
  | v :: vs, h => by
    unfold pureBs at h
    obtain ⟨h1, h2⟩ := Bool.and_eq_true_iff.mp h
    rw [List.length_cons, List.replicate_succ]
    unfold expA
    rw [expA_false h2]
    unfold expV
    rw [if_pos h1, toOlds_cons]
theorem lent_false : ∀ {vs : List AV}, pureBs vs = true → lent (List.replicate vs.length false) vs = false
  | [], _ => rfl
  | v :: vs, h => by
    unfold pureBs at h
    obtain ⟨h1, h2⟩ := Bool.and_eq_true_iff.mp h
    rw [List.length_cons, List.replicate_succ]
    unfold lent
    rw [lent_false h2]
    cases v <;> simp_all
/-- a call without cells -/
theorem call0 (hv : pureBs vs = true) (hio : io = List.replicate vs.length false) (h : f (toOlds vs) [] = .ok v []) (hp : pureB v = true) : callF false f io vs A = .ok (imp v) A := by
  subst hio
  unfold callF
  rw [ioN_false]
  dsimp only
  rw [if_pos List.nodup_nil]
  unfold contents
  rw [expA_false hv]
  dsimp only
  rw [h]
  dsimp only
  rw [lent_false hv]
  have : okOut false [v] [] = true := by simp [okOut, pureBs, hp]
  rw [if_pos ⟨this, rfl⟩]
  rfl
/-- .. whose answer becomes a cell -/
theorem call0t (hv : pureBs vs = true) (hio : io = List.replicate vs.length false) (h : f (toOlds vs) [] = .ok (.lst .new xs) []) (hp : pureBs xs = true) : callF true f io vs A = .ok (.ref A.c.length) ⟨A.c ++ [some (.lst (imps xs))], A.lo⟩ := by
  subst hio
  unfold callF
  rw [ioN_false]
  dsimp only
  rw [if_pos List.nodup_nil]
  unfold contents
  rw [expA_false hv]
  dsimp only
  rw [h]
  dsimp only
  rw [lent_false hv]
  have : okOut false [.lst .new xs] [] = true := by simp [okOut, pureBs, pureB, hp]
  rw [if_pos ⟨this, rfl⟩]
  unfold thaw
  dsimp only
  rfl
/-- a call with one cell handed over, first -/
theorem call1 {n : Nat} (hc : cellAt A n = some (.lst xs)) (hx : pureBs xs = true) (hv : pureBs vs = true) (hio : io = true :: List.replicate vs.length false) (h : f (.ref 0 :: toOlds vs) [toOlds xs] = .ok v [ys]) (hp : pureB v = true) (hy : pureBs ys = true) :
    callF false f io (.ref n :: vs) A = .ok (imp v) ⟨A.c.set n (some (.lst (imps ys))), A.lo⟩ := by
  subst hio
  unfold callF
  unfold ioN
  rw [ioN_false]
  dsimp only [Option.map]
  rw [if_pos (by simp)]
  unfold contents
  rw [hc]
  unfold contents
  dsimp only
  rw [if_pos hx]
  unfold expA
  rw [expA_false hv]
  dsimp only [Option.map]
  rw [h]
  dsimp only
  unfold lent
  rw [lent_false hv]
  have : okOut false [v] [ys] = true := by simp [okOut, pureBs, hp, hy]
  rw [if_pos ⟨this, rfl⟩]
  rfl
end
@[simp] theorem e_call {th : Bool} {f : FS} {io : List Bool} {cs : Env → St → R (List AV)} {o : Option AV} {e : Env} {A : St} : cCall th f io cs (o :: e) A = bnd (cs (o :: e) A) fun vs A1 => callF th f io vs A1 := (rfl)
/-! ## comprehensions -/
theorem compL_ok {α : Type} {tgt : CG} {t elt : CE} {env0 : Env} {A : St} {g : α → AV} (p : α → Bool) (h : α → AV) : ∀ {xs : List α}, (∀ x ∈ xs, ∃ e1, tgt (g x) env0 A = some (e1, A) ∧ t e1 A = .ok (.bl (p x)) A ∧ (p x = true → elt e1 A = .ok (h x) A)) →
    compL tgt t elt env0 (xs.map g) A = .ok ((xs.filter p).map h) A
  | [], _ => rfl
  | x :: xs, H => by
    obtain ⟨e1, h1, h2, h3⟩ := H x List.mem_cons_self
    have ih := compL_ok p h (xs := xs) fun y hy => H y (List.mem_cons_of_mem _ hy)
    rw [List.map_cons]
    unfold compL
    rw [h1]
    dsimp only
    rw [h2]
    cases hp : p x with
    | true =>
      dsimp only
      rw [h3 hp]
      dsimp only
      rw [ih, List.filter_cons_of_pos hp]
      rfl
    | false =>
      dsimp only
      rw [ih, List.filter_cons_of_neg (by simp [hp])]
/-- all are taken -/
theorem compL_all {α : Type} {tgt : CG} {elt : CE} {env0 : Env} {A : St} {g : α → AV} (h : α → AV) {xs : List α} (H : ∀ x ∈ xs, ∃ e1, tgt (g x) env0 A = some (e1, A) ∧ elt e1 A = .ok (h x) A) :
    compL tgt (cK (.bl true)) elt env0 (xs.map g) A = .ok (xs.map h) A := by
  have := compL_ok (t := cK (.bl true)) (fun _ => true) h fun x hx => let ⟨e1, h1, h2⟩ := H x hx; ⟨e1, h1, rfl, fun _ => h2⟩
  rw [this, List.filter_eq_self.mpr fun _ _ => rfl]
/-! ## loops -/
/-- one turn's end -/
def Stp (N B : Env → St → Prop) (Q : RS → Prop) : RS → Prop
  | .nx e A => N e A
  | .ct e A => N e A
  | .bk e A => B e A
  | r => Q r
section
variable {N B : Env → St → Prop} {Q : RS → Prop} {e : Env} {A : St} {v : AV} {c : Nat} {xs : List AV}
@[simp] theorem Stp_nx : Stp N B Q (.nx e A) = N e A := (rfl)
@[simp] theorem Stp_ct : Stp N B Q (.ct e A) = N e A := (rfl)
@[simp] theorem Stp_bk : Stp N B Q (.bk e A) = B e A := (rfl)
@[simp] theorem Stp_rt : Stp N B Q (.rt v e A) = Q (.rt v e A) := (rfl)
@[simp] theorem Stp_exc : Stp N B Q (.exc c xs e A) = Q (.exc c xs e A) := (rfl)
end
theorem forL_inv {α : Type} {tgt : CG} {body : CS} {dead : List Nat} (g : α → AV) (I : Nat → Env → St → Prop) (Q : RS → Prop) : ∀ (xs : List α) (i : Nat) {env : Env} {A : St},
    (∀ j x e A, xs[j]? = some x → I (i + j) e A → ∃ e1 A1, tgt (g x) e A = some (e1, A1) ∧ Stp (fun e2 A2 => I (i + j + 1) (killL dead e2) A2) (fun e2 A2 => Q (.nx (killL dead e2) A2)) Q (body e1 A1)) → (∀ e A, I (i + xs.length) e A → Q (.nx e A)) → I i env A → Q (forL tgt body dead (xs.map g) env A)
  | [], i, env, A, _, hn, h0 => by
    unfold List.map forL
    exact hn env A h0
  | x :: xs, i, env, A, H, hn, h0 => by
    obtain ⟨e1, A1, h1, h2⟩ := H 0 x env A rfl h0
    have ih := fun {env A} => forL_inv (tgt := tgt) (body := body) (dead := dead) g I Q xs (i + 1) (env := env) (A := A) (fun j y e A hj hI => by
      have := H (j + 1) y e A (by simpa using hj) (by rw [show i + (j + 1) = i + 1 + j by omega]; exact hI)
      rw [show i + (j + 1) + 1 = i + 1 + j + 1 by omega] at this
      exact this) (fun e A hI => hn e A (by rw [List.length_cons, show i + (xs.length + 1) = i + 1 + xs.length by omega]; exact hI))
    rw [List.map_cons]
    unfold forL
    rw [h1]
    dsimp only
    cases hb : body e1 A1 with
    | nx e2 A2 => rw [hb] at h2; exact ih h2
    | ct e2 A2 => rw [hb] at h2; exact ih h2
    | bk e2 A2 => rw [hb] at h2; exact h2
    | rt v e2 A2 => rw [hb] at h2; exact h2
    | exc c xs e2 A2 => rw [hb] at h2; exact h2
    | stuck => rw [hb] at h2; exact h2

/-! ## arithmetic conditions -/
theorem cmul_l {a b : Int} (h : -(2 ^ 64) < a) (h2 : a < 2 ^ 64) : L2.CMul a b := .inl ⟨h, h2⟩
theorem cmul_r {a b : Int} (h : -(2 ^ 64) < b) (h2 : b < 2 ^ 64) : L2.CMul a b := .inr ⟨h, h2⟩
theorem cdiv {a b : Int} (h : 0 < b) (h2 : b < 2 ^ 64) : L2.CDivW a b := ⟨h, by
  have : b.natAbs < 2 ^ 64 := by omega
  exact Nat.lt_trans (Nat.log2_lt (by omega) |>.mpr this) (by decide)⟩
@[simp] theorem pure_ints : ∀ ns : List Int, pureBs (ns.map AV.int) = true
  | [] => by rw [List.map_nil, pureBs]
  | n :: ns => by rw [List.map_cons, pureBs, pureB, pure_ints ns]; rfl
@[simp] theorem toOld_int {n : Int} : toOld (.int n) = .int n := by unfold toOld; exact (rfl)
@[simp] theorem toOld_bl {n : Bool} : toOld (.bl n) = .bl n := by unfold toOld; exact (rfl)
@[simp] theorem toOld_non : toOld .non = .non := by unfold toOld; exact (rfl)
@[simp] theorem toOld_str {s : PySem.Str} : toOld (.str s) = .str s := by unfold toOld; exact (rfl)
@[simp] theorem toOld_ref {n : Nat} : toOld (.ref n) = .ref n := by unfold toOld; exact (rfl)
@[simp] theorem toOld_lst {f : Fl} {xs : List AV} : toOld (.lst f xs) = .lst .old (toOlds xs) := by rw [toOld]
@[simp] theorem toOld_tup {xs : List AV} : toOld (.tup xs) = .tup (toOlds xs) := by rw [toOld]
@[simp] theorem imp_int {n : Int} : imp (.int n) = .int n := by unfold imp; exact (rfl)
@[simp] theorem imp_bl {n : Bool} : imp (.bl n) = .bl n := by unfold imp; exact (rfl)
@[simp] theorem imp_non : imp .non = .non := by unfold imp; exact (rfl)
@[simp] theorem imp_str {s : PySem.Str} : imp (.str s) = .str s := by unfold imp; exact (rfl)
@[simp] theorem imp_lst {f : Fl} {xs : List AV} : imp (.lst f xs) = .lst (impFl f) (imps xs) := by rw [imp]
@[simp] theorem imp_tup {xs : List AV} : imp (.tup xs) = .tup (imps xs) := by rw [imp]
@[simp] theorem imps_nil : imps [] = [] := by rw [imps]
@[simp] theorem imps_cons {x : AV} {xs : List AV} : imps (x :: xs) = imp x :: imps xs := by rw [imps]
@[simp] theorem impFl_new : impFl .new = .new := (rfl)
@[simp] theorem impFl_old : impFl .old = .any := (rfl)
@[simp] theorem impFl_any : impFl .any = .any := (rfl)
@[simp] theorem pureB_int {n : Int} : pureB (.int n) = true := by unfold pureB; exact (rfl)
@[simp] theorem pureB_bl {n : Bool} : pureB (.bl n) = true := by unfold pureB; exact (rfl)
@[simp] theorem pureB_non : pureB .non = true := by unfold pureB; exact (rfl)
@[simp] theorem pureB_str {s : PySem.Str} : pureB (.str s) = true := by unfold pureB; exact (rfl)
@[simp] theorem pureB_lst {f : Fl} {xs : List AV} : pureB (.lst f xs) = pureBs xs := by rw [pureB]
@[simp] theorem pureB_tup {xs : List AV} : pureB (.tup xs) = pureBs xs := by rw [pureB]
@[simp] theorem pureBs_nil : pureBs [] = true := by rw [pureBs]
@[simp] theorem pureBs_cons {x : AV} {xs : List AV} : pureBs (x :: xs) = (pureB x && pureBs xs) := by rw [pureBs]
@[simp] theorem toOlds_ints : ∀ ns : List Int, toOlds (ns.map AV.int) = ns.map AV.int
  | [] => by simp
  | n :: ns => by simp [toOlds_ints ns]
@[simp] theorem imps_ints : ∀ ns : List Int, imps (ns.map AV.int) = ns.map AV.int
  | [] => by simp
  | n :: ns => by simp [imps_ints ns]
end Sx

namespace Sx
/-! ## iterators -/
def rngK1 (vs : List AV) (A : St) : R (List AV) := match vs with
  | [.int j] => if -(2 ^ 62) ≤ j ∧ j < 2 ^ 62 then .ok (rngL 0 1 j.toNat) A else .stuck
  | _ => .stuck
def rngK2 (vs : List AV) (A : St) : R (List AV) := match vs with
  | [.int i, .int j] => if -(2 ^ 62) ≤ i ∧ i < 2 ^ 62 ∧ -(2 ^ 62) ≤ j ∧ j < 2 ^ 62 then .ok (rngL i 1 (j - i).toNat) A else .stuck
  | _ => .stuck
def sqK (v : AV) (A : St) : R (List AV) := match v with
  | .lst _ xs => if belows A.lo xs = true then .ok xs A else .stuck
  | .tup xs => if belows A.lo xs = true then .ok xs A else .stuck
  | _ => .stuck
def compK (fr : Bool) (tgt : CG) (t elt : CE) (env0 : Env) (vs : List AV) (A : St) : R AV := if vs.length ≤ PySem.sizeLine then bnd (compL tgt t elt env0 vs A) fun ys A2 => fin fr (.lst ys) A2 else .stuck
def forK (tgt : CG) (body : CS) (dead : List Nat) (env : Env) (r : R (List AV)) : RS := sB r env fun vs A1 => forL tgt body dead vs env A1
section
variable {α β : Type} {env : Env} {A : St} {c ca cb ct co : CE} {ci : CI} {tgt : CG} {cs : Env → St → R (List AV)} {v u : AV} {i n : Nat} {k k2 : CS} {o : Option AV} {e : Env} {f : Fl} {xs ys : List AV} {a b j : Int}
@[simp] theorem e_rng1 : iRng1 cs (o :: e) A = bnd (cs (o :: e) A) rngK1 := by
  unfold iRng1
  congr 1
@[simp] theorem e_rng2 : iRng2 cs (o :: e) A = bnd (cs (o :: e) A) rngK2 := by
  unfold iRng2
  congr 1
theorem rngL_1 : rngL a 1 n = (List.range n).map fun i => AV.int (a + (i : Nat)) := by
  unfold rngL
  simp
theorem rngL_0 : rngL 0 1 n = (List.range n).map fun i => AV.int (i : Nat) := by
  unfold rngL
  simp
theorem rngK1_nat (h : n < 2 ^ 62) : rngK1 [.int (n : Nat)] A = .ok ((List.range n).map fun i => AV.int (i : Nat)) A := by
  unfold rngK1
  dsimp only
  rw [if_pos ⟨by omega, by omega⟩, rngL_0]
  rfl
theorem rngK1_int (h : a < 2 ^ 62) (h2 : -(2 ^ 62) ≤ a) : rngK1 [.int a] A = .ok ((List.range a.toNat).map fun i => AV.int (i : Nat)) A := by
  unfold rngK1
  dsimp only
  rw [if_pos ⟨h2, h⟩, rngL_0]
theorem rngK2_int (h1 : -(2 ^ 62) ≤ a) (h2 : a < 2 ^ 62) (h3 : -(2 ^ 62) ≤ b) (h4 : b < 2 ^ 62) : rngK2 [.int a, .int b] A = .ok ((List.range (b - a).toNat).map fun i => AV.int (a + (i : Nat))) A := by
  unfold rngK2
  dsimp only
  rw [if_pos ⟨h1, h2, h3, h4⟩, rngL_1]
@[simp] theorem e_sq : iSq ca (o :: e) A = bnd (ca (o :: e) A) sqK := by
  unfold iSq
  congr 1
theorem sqK_lst (h : belows A.lo xs = true) : sqK (.lst f xs) A = .ok xs A := by
  unfold sqK
  dsimp only
  rw [if_pos h]
theorem sqK_tup (h : belows A.lo xs = true) : sqK (.tup xs) A = .ok xs A := by
  unfold sqK
  dsimp only
  rw [if_pos h]
@[simp] theorem e_comp {fr : Bool} {own : List Nat} : cComp fr ci tgt ct ca own (o :: e) A = bnd (ci (o :: e) A) (compK fr tgt ct ca (killL own (o :: e))) := by
  unfold cComp
  congr 1
theorem compK_eq {fr : Bool} (h : xs.length ≤ PySem.sizeLine) : compK fr tgt ct ca env xs A = bnd (compL tgt ct ca env xs A) fun ys A2 => fin fr (.lst ys) A2 := by
  unfold compK
  rw [if_pos h]
@[simp] theorem s_for {dead : List Nat} : sFor ci tgt k dead (o :: e) A = forK tgt k dead (o :: e) (ci (o :: e) A) := (rfl)
@[simp] theorem forK_ok {dead : List Nat} : forK tgt k dead env (.ok xs A) = forL tgt k dead xs env A := (rfl)
@[simp] theorem gN_e : gN i v env A = some (env.set i (some v), A) := (rfl)
@[simp] theorem killL_nil : killL [] env = env := (rfl)
@[simp] theorem killL_cons {is : List Nat} : killL (i :: is) env = (killL is env).set i none := (rfl)
@[simp] theorem e_isi {T : String} : cIsi T ca (o :: e) A = bnd (ca (o :: e) A) fun x A1 => fin false (isiD T x A1) A1 := (rfl)
@[simp] theorem isi_list_list : isiD "list" (.lst f xs) A = .val (.bl true) := by
  have h : L2.kitB "list" "list" = some true := by decide +kernel
  unfold isiD tyOfA
  dsimp only
  rw [h]
@[simp] theorem isi_list_tuple : isiD "list" (.tup xs) A = .val (.bl false) := by
  have h : L2.kitB "tuple" "list" = some false := by decide +kernel
  unfold isiD tyOfA
  dsimp only
  rw [h]
@[simp] theorem isi_list_int : isiD "list" (.int a) A = .val (.bl false) := by
  have h : L2.kitB "int" "list" = some false := by decide +kernel
  unfold isiD tyOfA
  dsimp only
  rw [h]
@[simp] theorem isi_list_bool {p : Bool} : isiD "list" (.bl p) A = .val (.bl false) := by
  have h : L2.kitB "bool" "list" = some false := by decide +kernel
  unfold isiD tyOfA
  dsimp only
  rw [h]
@[simp] theorem isi_list_str {z : PySem.Str} : isiD "list" (.str z) A = .val (.bl false) := by
  have h : L2.kitB "str" "list" = some false := by decide +kernel
  unfold isiD tyOfA
  dsimp only
  rw [h]
@[simp] theorem isi_list_NoneType : isiD "list" (.non) A = .val (.bl false) := by
  have h : L2.kitB "NoneType" "list" = some false := by decide +kernel
  unfold isiD tyOfA
  dsimp only
  rw [h]
@[simp] theorem isi_tuple_list : isiD "tuple" (.lst f xs) A = .val (.bl false) := by
  have h : L2.kitB "list" "tuple" = some false := by decide +kernel
  unfold isiD tyOfA
  dsimp only
  rw [h]
@[simp] theorem isi_tuple_tuple : isiD "tuple" (.tup xs) A = .val (.bl true) := by
  have h : L2.kitB "tuple" "tuple" = some true := by decide +kernel
  unfold isiD tyOfA
  dsimp only
  rw [h]
@[simp] theorem isi_tuple_int : isiD "tuple" (.int a) A = .val (.bl false) := by
  have h : L2.kitB "int" "tuple" = some false := by decide +kernel
  unfold isiD tyOfA
  dsimp only
  rw [h]
@[simp] theorem isi_tuple_bool {p : Bool} : isiD "tuple" (.bl p) A = .val (.bl false) := by
  have h : L2.kitB "bool" "tuple" = some false := by decide +kernel
  unfold isiD tyOfA
  dsimp only
  rw [h]
@[simp] theorem isi_tuple_str {z : PySem.Str} : isiD "tuple" (.str z) A = .val (.bl false) := by
  have h : L2.kitB "str" "tuple" = some false := by decide +kernel
  unfold isiD tyOfA
  dsimp only
  rw [h]
@[simp] theorem isi_tuple_NoneType : isiD "tuple" (.non) A = .val (.bl false) := by
  have h : L2.kitB "NoneType" "tuple" = some false := by decide +kernel
  unfold isiD tyOfA
  dsimp only
  rw [h]
@[simp] theorem isi_int_list : isiD "int" (.lst f xs) A = .val (.bl false) := by
  have h : L2.kitB "list" "int" = some false := by decide +kernel
  unfold isiD tyOfA
  dsimp only
  rw [h]
@[simp] theorem isi_int_tuple : isiD "int" (.tup xs) A = .val (.bl false) := by
  have h : L2.kitB "tuple" "int" = some false := by decide +kernel
  unfold isiD tyOfA
  dsimp only
  rw [h]
@[simp] theorem isi_int_int : isiD "int" (.int a) A = .val (.bl true) := by
  have h : L2.kitB "int" "int" = some true := by decide +kernel
  unfold isiD tyOfA
  dsimp only
  rw [h]
@[simp] theorem isi_int_bool {p : Bool} : isiD "int" (.bl p) A = .val (.bl true) := by
  have h : L2.kitB "bool" "int" = some true := by decide +kernel
  unfold isiD tyOfA
  dsimp only
  rw [h]
@[simp] theorem isi_int_str {z : PySem.Str} : isiD "int" (.str z) A = .val (.bl false) := by
  have h : L2.kitB "str" "int" = some false := by decide +kernel
  unfold isiD tyOfA
  dsimp only
  rw [h]
@[simp] theorem isi_int_NoneType : isiD "int" (.non) A = .val (.bl false) := by
  have h : L2.kitB "NoneType" "int" = some false := by decide +kernel
  unfold isiD tyOfA
  dsimp only
  rw [h]
@[simp] theorem isi_bool_list : isiD "bool" (.lst f xs) A = .val (.bl false) := by
  have h : L2.kitB "list" "bool" = some false := by decide +kernel
  unfold isiD tyOfA
  dsimp only
  rw [h]
@[simp] theorem isi_bool_tuple : isiD "bool" (.tup xs) A = .val (.bl false) := by
  have h : L2.kitB "tuple" "bool" = some false := by decide +kernel
  unfold isiD tyOfA
  dsimp only
  rw [h]
@[simp] theorem isi_bool_int : isiD "bool" (.int a) A = .val (.bl false) := by
  have h : L2.kitB "int" "bool" = some false := by decide +kernel
  unfold isiD tyOfA
  dsimp only
  rw [h]
@[simp] theorem isi_bool_bool {p : Bool} : isiD "bool" (.bl p) A = .val (.bl true) := by
  have h : L2.kitB "bool" "bool" = some true := by decide +kernel
  unfold isiD tyOfA
  dsimp only
  rw [h]
@[simp] theorem isi_bool_str {z : PySem.Str} : isiD "bool" (.str z) A = .val (.bl false) := by
  have h : L2.kitB "str" "bool" = some false := by decide +kernel
  unfold isiD tyOfA
  dsimp only
  rw [h]
@[simp] theorem isi_bool_NoneType : isiD "bool" (.non) A = .val (.bl false) := by
  have h : L2.kitB "NoneType" "bool" = some false := by decide +kernel
  unfold isiD tyOfA
  dsimp only
  rw [h]
@[simp] theorem isi_str_list : isiD "str" (.lst f xs) A = .val (.bl false) := by
  have h : L2.kitB "list" "str" = some false := by decide +kernel
  unfold isiD tyOfA
  dsimp only
  rw [h]
@[simp] theorem isi_str_tuple : isiD "str" (.tup xs) A = .val (.bl false) := by
  have h : L2.kitB "tuple" "str" = some false := by decide +kernel
  unfold isiD tyOfA
  dsimp only
  rw [h]
@[simp] theorem isi_str_int : isiD "str" (.int a) A = .val (.bl false) := by
  have h : L2.kitB "int" "str" = some false := by decide +kernel
  unfold isiD tyOfA
  dsimp only
  rw [h]
@[simp] theorem isi_str_bool {p : Bool} : isiD "str" (.bl p) A = .val (.bl false) := by
  have h : L2.kitB "bool" "str" = some false := by decide +kernel
  unfold isiD tyOfA
  dsimp only
  rw [h]
@[simp] theorem isi_str_str {z : PySem.Str} : isiD "str" (.str z) A = .val (.bl true) := by
  have h : L2.kitB "str" "str" = some true := by decide +kernel
  unfold isiD tyOfA
  dsimp only
  rw [h]
@[simp] theorem isi_str_NoneType : isiD "str" (.non) A = .val (.bl false) := by
  have h : L2.kitB "NoneType" "str" = some false := by decide +kernel
  unfold isiD tyOfA
  dsimp only
  rw [h]

@[simp] theorem x_isB {p : Bool} : isD (.bl p) .non A = .val (.bl false) := (rfl)
@[simp] theorem x_isS {p : PySem.Str} : isD (.str p) .non A = .val (.bl false) := (rfl)
@[simp] theorem x_isntB {p : Bool} : isntD (.bl p) .non A = .val (.bl true) := (rfl)
@[simp] theorem x_isntS {p : PySem.Str} : isntD (.str p) .non A = .val (.bl true) := (rfl)
@[simp] theorem x_eqB {p q : Bool} : eqD (.bl p) (.bl q) A = .val (.bl (decide (p = q))) := (rfl)
@[simp] theorem x_eqS {p q : PySem.Str} : eqD (.str p) (.str q) A = .val (.bl (decide (p = q))) := (rfl)
@[simp] theorem x_neB {p q : Bool} : neD (.bl p) (.bl q) A = .val (.bl (!decide (p = q))) := (rfl)
/-! ## sizes; values as a def receives them -/
def lim : Nat := 1000000
mutual
def szB : AV → Bool
  | .tup xs => decide (xs.length ≤ lim) && szBs xs
  | .lst _ xs => decide (xs.length ≤ lim) && szBs xs
  | _ => true
def szBs : List AV → Bool
  | [] => true
  | x :: xs => szB x && szBs xs
end
theorem lim_size {n : Nat} (h : n ≤ lim) : n ≤ PySem.sizeLine := Nat.le_trans h (by decide)
theorem lim_rng {n : Nat} (h : n ≤ lim) : n < 2 ^ 62 := Nat.lt_of_le_of_lt h (by decide)
theorem szBs_get : ∀ {xs : List AV} {i : Nat} {x : AV}, szBs xs = true → xs[i]? = some x → szB x = true
  | y :: ys, 0, x, h, e => by
    unfold szBs at h
    have : y = x := by simpa using e
    subst this
    exact (Bool.and_eq_true_iff.mp h).1
  | y :: ys, i + 1, x, h, e => by
    unfold szBs at h
    exact szBs_get (Bool.and_eq_true_iff.mp h).2 (by simpa using e)
  | [], _, _, _, e => by simp at e
theorem pureBs_get : ∀ {xs : List AV} {i : Nat} {x : AV}, pureBs xs = true → xs[i]? = some x → pureB x = true
  | y :: ys, 0, x, h, e => by
    have : y = x := by simpa using e
    subst this
    exact (Bool.and_eq_true_iff.mp (by rwa [pureBs_cons] at h)).1
  | y :: ys, i + 1, x, h, e => pureBs_get (Bool.and_eq_true_iff.mp (by rwa [pureBs_cons] at h)).2 (by simpa using e)
  | [], _, _, _, e => by simp at e
theorem toOlds_get : ∀ {xs : List AV} {i : Nat} {x : AV}, toOlds xs = xs → xs[i]? = some x → toOld x = x
  | y :: ys, 0, x, h, e => by
    have : y = x := by simpa using e
    subst this
    rw [toOlds_cons] at h
    exact (List.cons.inj h).1
  | y :: ys, i + 1, x, h, e => toOlds_get (by rw [toOlds_cons] at h; exact (List.cons.inj h).2) (by simpa using e)
  | [], _, _, _, e => by simp at e
theorem deps_get {xs : List AV} {i : Nat} {x : AV} (e : xs[i]? = some x) : dep x ≤ deps xs := deps_mem (List.mem_of_getElem? e)
theorem blsOf_true (n : Nat) : blsOf ((List.range n).map fun _ => AV.bl true) = some (List.replicate n true) := by
  have : (List.range n).map (fun _ => AV.bl true) = (List.replicate n true).map AV.bl := by
    rw [List.map_replicate]
    exact List.map_const' .. |>.trans (by simp)
  rw [this, blsOf_map]
@[simp] theorem x_all {bs : List Bool} : allD [.lst f (bs.map AV.bl)] A = .val (.bl (bs.all id)) := by
  unfold allD blsD
  simp only [listOf_lst, blsOf_map]
@[simp] theorem x_all_rep {n : Nat} : allD [.lst f (List.replicate n (AV.bl true))] A = .val (.bl true) := by
  have := x_all (A := A) (f := f) (bs := List.replicate n true)
  rw [List.map_replicate] at this
  rw [this]
  simp
@[simp] theorem x_any {bs : List Bool} : anyD [.lst f (bs.map AV.bl)] A = .val (.bl (bs.any id)) := by
  unfold anyD blsD
  simp only [listOf_lst, blsOf_map]
end
end Sx

namespace Sx
/-! ## calls that are lent cells -/
section
variable {f : FS} {A : St} {env : Env} {v u : AV} {xs ys vs as : List AV} {ns : List Nat} {io : List Bool} {n j : Nat}
@[simp] theorem expA_nil : expA A ns j [] [] = some [] := by unfold expA; exact (rfl)
theorem expA_f : expA A ns j (false :: io) (v :: vs) = (match expV A ns 40 v, expA A ns j io vs with | some u, some us => some (u :: us) | _, _ => none) := by
  rw [expA]
  try rfl
theorem expA_pure (h : pureB v = true) (h2 : expA A ns j io vs = some as) : expA A ns j (false :: io) (v :: vs) = some (toOld v :: as) := by
  rw [expA_f, h2]
  unfold expV
  rw [if_pos h]
theorem mapO_expV {d : Nat} : ∀ {xs : List AV}, pureBs xs = true → mapO (expV A ns (d + 1)) xs = some (toOlds xs)
  | [], _ => by rw [toOlds_nil]; rfl
  | x :: xs, h => by
    rw [pureBs_cons] at h
    obtain ⟨h1, h2⟩ := Bool.and_eq_true_iff.mp h
    unfold mapO
    rw [mapO_expV h2]
    unfold expV
    rw [if_pos h1, toOlds_cons]
theorem expA_ref (hc : cellAt A n = some (.lst xs)) (hn : n ∉ ns) (h : pureBs xs = true) (h2 : expA A ns j io vs = some as) : expA A ns j (false :: io) (.ref n :: vs) = some (.lst .old (toOlds xs) :: as) := by
  rw [expA_f, h2]
  unfold expV
  rw [if_neg (by unfold pureB; exact Bool.false_ne_true)]
  dsimp only
  rw [if_neg hn, hc]
  dsimp only
  rw [mapO_expV h]
  rfl
/-- a call without cells to change; some may be lent: the answer is new -/
theorem callL (hio : io = List.replicate vs.length false) (ha : expA A [] 0 io vs = some as) (h : f as [] = .ok v []) (hp : pureB v = true) (hn : newB v = true) : callF false f io vs A = .ok (imp v) A := by
  subst hio
  unfold callF
  rw [ioN_false]
  dsimp only
  rw [if_pos List.nodup_nil]
  unfold contents
  rw [ha]
  dsimp only
  rw [h]
  dsimp only
  have : okOut (lent (List.replicate vs.length false) vs) [v] [] = true := by simp [okOut, hp, newBs, hn]
  rw [if_pos ⟨this, rfl⟩]
  rfl
theorem callLt (hio : io = List.replicate vs.length false) (ha : expA A [] 0 io vs = some as) (h : f as [] = .ok (.lst .new xs) []) (hp : pureBs xs = true) (hn : newBs xs = true) : callF true f io vs A = .ok (.ref A.c.length) ⟨A.c ++ [some (.lst (imps xs))], A.lo⟩ := by
  subst hio
  unfold callF
  rw [ioN_false]
  dsimp only
  rw [if_pos List.nodup_nil]
  unfold contents
  rw [ha]
  dsimp only
  rw [h]
  dsimp only
  have : okOut (lent (List.replicate vs.length false) vs) [.lst .new xs] [] = true := by simp [okOut, hp, newBs, newB, hn]
  rw [if_pos ⟨this, rfl⟩]
  unfold thaw
  dsimp only
  rfl
end
/-! ## more iterators -/
def enmK (vs : List AV) (A : St) : R (List AV) := match vs with
  | [.lst _ xs] => if belows A.lo xs = true then .ok (enmL xs) A else .stuck
  | _ => .stuck
def rvK (vs : List AV) (A : St) : R (List AV) := match vs with
  | [.lst _ xs] => if belows A.lo xs = true then .ok xs.reverse A else .stuck
  | _ => .stuck
section
variable {α : Type} {A : St} {cs : Env → St → R (List AV)} {o : Option AV} {e : Env} {f : Fl} {xs : List AV}
@[simp] theorem e_enm : iEnm cs (o :: e) A = bnd (cs (o :: e) A) enmK := by
  unfold iEnm
  congr 1
theorem enmK_lst (h : belows A.lo xs = true) : enmK [.lst f xs] A = .ok (enmL xs) A := by
  unfold enmK
  dsimp only
  rw [if_pos h]
theorem enmL_map (g : α → AV) (l : List α) : enmL (l.map g) = (l.zipIdx).map fun p => .tup [.int (p.2 : Nat), g p.1] := by
  unfold enmL
  rw [List.mapIdx_eq_zipIdx_map, List.zipIdx_map]
  simp [Function.comp_def]
@[simp] theorem e_rv : iRv cs (o :: e) A = bnd (cs (o :: e) A) rvK := by
  unfold iRv
  congr 1
theorem rvK_lst (h : belows A.lo xs = true) : rvK [.lst f xs] A = .ok xs.reverse A := by
  unfold rvK
  dsimp only
  rw [if_pos h]
/-- pure values name no cell -/
theorem pure_below (m : Nat) : (∀ v : AV, pureB v = true → below m v = true) ∧ (∀ v : List AV, pureBs v = true → belows m v = true) := by
  have key : ∀ n : Nat, (∀ v : AV, sizeOf v < n → pureB v = true → below m v = true) ∧ (∀ l : List AV, sizeOf l < n → pureBs l = true → belows m l = true) := by
    intro n
    induction n with
    | zero => exact ⟨fun v h => absurd h (Nat.not_lt_zero _), fun v h => absurd h (Nat.not_lt_zero _)⟩
    | succ n ih =>
      refine ⟨fun v hv b => ?_, fun l hv b => ?_⟩
      · cases v with
        | tup xs => unfold below; exact ih.2 xs (by simp at hv; omega) (by simpa using b)
        | lst f xs => unfold below; exact ih.2 xs (by simp at hv; omega) (by simpa using b)
        | ref n => unfold pureB at b; cases b
        | exc c xs => unfold pureB at b; cases b
        | _ => unfold below; rfl
      · cases l with
        | nil => unfold belows; rfl
        | cons v l =>
          rw [pureBs_cons] at b
          obtain ⟨b1, b2⟩ := Bool.and_eq_true_iff.mp b
          unfold belows
          exact Bool.and_eq_true_iff.mpr ⟨ih.1 v (by simp at hv; omega) b1, ih.2 l (by simp at hv; omega) b2⟩
  exact ⟨fun v => (key (sizeOf v + 1)).1 v (Nat.lt_succ_self _), fun v => (key (sizeOf v + 1)).2 v (Nat.lt_succ_self _)⟩
end
/-! ## freezing -/
section
variable {A : St} {env : Env} {v : AV} {xs : List AV} {m d : Nat}
theorem frV_below (h : below m v = true) : frV A m (d + 1) v = some v := by
  unfold frV
  rw [if_pos h]
theorem mapO_frV : ∀ {xs : List AV}, belows m xs = true → mapO (frV A m (d + 1)) xs = some xs
  | [], _ => rfl
  | x :: xs, h => by
    unfold belows at h
    obtain ⟨h1, h2⟩ := Bool.and_eq_true_iff.mp h
    unfold mapO
    rw [frV_below h1, mapO_frV h2]
theorem frV_ref {n : Nat} (hn : m ≤ n) (hc : cellAt A n = some (.lst xs)) (h : belows m xs = true) : frV A m 40 (.ref n) = some (.lst .new xs) := by
  unfold frV
  rw [if_neg (by unfold below; simp; omega)]
  dsimp only
  rw [hc]
  dsimp only
  rw [mapO_frV h]
  rfl
@[simp] theorem s_fz : sFz m env A = if A.lo ≤ m ∧ m ≤ A.c.length then .nx (env.map fun v => v.bind (frV A m 40)) (frA A m) else .stuck := (rfl)
end

/-! ## the first cells, written out -/
section
variable {A : St} {env : Env} {v u : AV} {xs ys vs : List AV} {c0 : Option Cell} {cl : List (Option Cell)} {lo m n : Nat} {a : Int} {b : Bool}
@[simp] theorem frV_pure (h : pureB v = true) : frV A m 40 v = some v := frV_below ((pure_below m).1 v h)
@[simp] theorem frV_int {a : Int} : frV A m 40 (.int a) = some (.int a) := frV_pure (by simp)
@[simp] theorem frV_non : frV A m 40 .non = some .non := frV_pure (by simp)
@[simp] theorem frV_bl {a : Bool} : frV A m 40 (.bl a) = some (.bl a) := frV_pure (by simp)
theorem frV_lt (h : n < m) : frV A m 40 (.ref n) = some (.ref n) := frV_below (by unfold below; exact decide_eq_true h)
@[simp] theorem frV_0_1 : frV A 1 40 (.ref 0) = some (.ref 0) := frV_lt (by decide)
@[simp] theorem frV_0_2 : frV A 2 40 (.ref 0) = some (.ref 0) := frV_lt (by decide)
@[simp] theorem frV_1_2 : frV A 2 40 (.ref 1) = some (.ref 1) := frV_lt (by decide)
@[simp] theorem frV_0_0 (h : pureBs xs = true) : frV ⟨some (.lst xs) :: cl, lo⟩ 0 40 (.ref 0) = some (.lst .new xs) := frV_ref (Nat.le_refl _) rfl ((pure_below 0).2 xs h)
@[simp] theorem frV_1_1 (h : pureBs xs = true) : frV ⟨c0 :: some (.lst xs) :: cl, lo⟩ 1 40 (.ref 1) = some (.lst .new xs) := frV_ref (Nat.le_refl _) rfl ((pure_below 1).2 xs h)
@[simp] theorem frV_1_0 (h : pureBs xs = true) : frV ⟨c0 :: some (.lst xs) :: cl, lo⟩ 0 40 (.ref 1) = some (.lst .new xs) := frV_ref (by decide) rfl ((pure_below 0).2 xs h)
@[simp] theorem frC_lst (h : pureBs xs = true) : frC A m (.lst xs) = some (.lst xs) := by
  unfold frC
  dsimp only
  rw [mapO_frV ((pure_below m).2 xs h)]
  rfl
@[simp] theorem listOf_0 : listOf ⟨some (.lst xs) :: cl, lo⟩ (.ref 0) = some xs := listOf_ref rfl
@[simp] theorem listOf_1 : listOf ⟨c0 :: some (.lst xs) :: cl, lo⟩ (.ref 1) = some xs := listOf_ref rfl
@[simp] theorem ix_0 : ixD (.ref 0) (.int a) ⟨some (.lst xs) :: cl, lo⟩ = optV (L2.atI xs a) := x_ixR 0 rfl
@[simp] theorem ix_1 : ixD (.ref 1) (.int a) ⟨c0 :: some (.lst xs) :: cl, lo⟩ = optV (L2.atI xs a) := x_ixR 1 rfl
@[simp] theorem len_0 : lenD [.ref 0] ⟨some (.lst xs) :: cl, lo⟩ = .val (.int xs.length) := x_lenR 0 rfl
@[simp] theorem len_1 : lenD [.ref 1] ⟨c0 :: some (.lst xs) :: cl, lo⟩ = .val (.int xs.length) := x_lenR 1 rfl
@[simp] theorem append_0 (h : xs.length < PySem.sizeLine) : appendD (.ref 0) [v] ⟨some (.lst xs) :: cl, lo⟩ = .set 0 (xs ++ [v]) .non := append_eq rfl h
@[simp] theorem append_1 (h : xs.length < PySem.sizeLine) : appendD (.ref 1) [v] ⟨c0 :: some (.lst xs) :: cl, lo⟩ = .set 1 (xs ++ [v]) .non := append_eq rfl h
@[simp] theorem finset_0 : fin b (.set 0 ys v) ⟨some (.lst xs) :: cl, lo⟩ = .ok v ⟨some (.lst ys) :: cl, lo⟩ := fin_set (xs := xs) rfl
@[simp] theorem finset_1 : fin b (.set 1 ys v) ⟨c0 :: some (.lst xs) :: cl, lo⟩ = .ok v ⟨c0 :: some (.lst ys) :: cl, lo⟩ := fin_set (xs := xs) rfl
end

/-! ## slices, pop -/
def pK (v : AV) (A : St) : R (Option Int) := match v with
  | .int i => .ok (some i) A
  | _ => .stuck
section
variable {A : St} {env : Env} {v u : AV} {xs ys vs : List AV} {cl : List (Option Cell)} {c0 c1' : Option Cell} {lo m n : Nat} {a : Int} {b fr : Bool} {ca c : CE} {l h : CO} {o : Option AV} {e : Env} {f : Fl}
@[simp] theorem e_sl : cSl fr ca l h (o :: e) A = bnd (ca (o :: e) A) fun v A1 => bnd (l (o :: e) A1) fun i A2 => bnd (h (o :: e) A2) fun j A3 => fin fr (slD v i j A3) A3 := (rfl)
@[simp] theorem e_noP : cNoP env A = .ok none A := (rfl)
@[simp] theorem e_cP : cP c (o :: e) A = bnd (c (o :: e) A) pK := by
  unfold cP
  congr 1
@[simp] theorem pK_int : pK (.int a) A = .ok (some a) A := (rfl)
@[simp] theorem x_slL {i j : Option Int} : slD (.lst f xs) i j A = .lst (cutA xs i j) := by
  unfold slD listOf
  exact (rfl)
theorem cutA_to (k : Nat) : cutA xs none (some (k : Int)) = xs.take k := by
  unfold cutA
  rw [HT.sIx_nat]
  show (xs.drop 0).take (min k xs.length - 0) = _
  rw [List.drop_zero, Nat.sub_zero]
  by_cases h : k ≤ xs.length
  · rw [Nat.min_eq_left h]
  · rw [Nat.min_eq_right (by omega), List.take_length, List.take_of_length_le (by omega)]
theorem cutA_from (k : Nat) : cutA xs (some (k : Int)) none = xs.drop k := by
  unfold cutA
  rw [HT.sIx_nat]
  show (xs.drop (min k xs.length)).take (xs.length - min k xs.length) = _
  by_cases h : k ≤ xs.length
  · rw [Nat.min_eq_left h, List.take_of_length_le (by simp)]
  · rw [Nat.min_eq_right (by omega), List.drop_length, List.drop_of_length_le (by omega)]
    simp
theorem pop_0 : popD (.ref 0) [] ⟨some (.lst (ys ++ [v])) :: cl, lo⟩ = .set 0 ys v := by
  unfold popD updD
  dsimp only [cellAt, List.getElem?_cons_zero]
  rw [List.length_append, List.length_singleton, Nat.add_sub_cancel, List.getElem?_append_right (Nat.le_refl _), Nat.sub_self]
  simp
@[simp] theorem listOf_2 : listOf ⟨c0 :: c1' :: some (.lst xs) :: cl, lo⟩ (.ref 2) = some xs := listOf_ref rfl
@[simp] theorem finset_2 : fin b (.set 2 ys v) ⟨c0 :: c1' :: some (.lst xs) :: cl, lo⟩ = .ok v ⟨c0 :: c1' :: some (.lst ys) :: cl, lo⟩ := fin_set (xs := xs) rfl
@[simp] theorem ix_2 : ixD (.ref 2) (.int a) ⟨c0 :: c1' :: some (.lst xs) :: cl, lo⟩ = optV (L2.atI xs a) := x_ixR 2 rfl
@[simp] theorem len_2 : lenD [.ref 2] ⟨c0 :: c1' :: some (.lst xs) :: cl, lo⟩ = .val (.int xs.length) := x_lenR 2 rfl
@[simp] theorem append_2 (h : xs.length < PySem.sizeLine) : appendD (.ref 2) [v] ⟨c0 :: c1' :: some (.lst xs) :: cl, lo⟩ = .set 2 (xs ++ [v]) .non := append_eq rfl h
@[simp] theorem frV_2_1 (h : pureBs xs = true) : frV ⟨c0 :: c1' :: some (.lst xs) :: cl, lo⟩ 1 40 (.ref 2) = some (.lst .new xs) := frV_ref (by decide) rfl ((pure_below 1).2 xs h)
@[simp] theorem frV_2_0 (h : pureBs xs = true) : frV ⟨c0 :: c1' :: some (.lst xs) :: cl, lo⟩ 0 40 (.ref 2) = some (.lst .new xs) := frV_ref (by decide) rfl ((pure_below 0).2 xs h)
@[simp] theorem frV_2_2 (h : pureBs xs = true) : frV ⟨c0 :: c1' :: some (.lst xs) :: cl, lo⟩ 2 40 (.ref 2) = some (.lst .new xs) := frV_ref (by decide) rfl ((pure_below 2).2 xs h)
end
end Sx

set_option maxHeartbeats 2000000
namespace Sx
/-! ## calls, by simp -/
def expK (A : St) (ns : List Nat) (v : AV) (k : AV → R AV) : R AV := match expV A ns 40 v with
  | some u => k u
  | none => .stuck
def lentV (v : AV) : Bool := match v with
  | .scr _ => false
  | v => !pureB v
def conK (th l : Bool) (ns : List Nat) (A : St) : FR → R AV
  | .ok v cs' => if okOut l [v] cs' = true ∧ cs'.length = ns.length then thaw th v cs' ⟨putC A.c ns cs', A.lo⟩ else .stuck
  | .exc c xs cs' => if okOut l xs cs' = true ∧ cs'.length = ns.length then .exc c (imps xs) ⟨putC A.c ns cs', A.lo⟩ else .stuck
  | .stuck => .stuck
section
variable {f : FS} {A : St} {env : Env} {v u a b c d a4 : AV} {xs ys zs vs as : List AV} {ns : List Nat} {io : List Bool} {n j lo : Nat} {th l : Bool} {k : AV → R AV} {cl : List (Option Cell)} {c0 c1 c2 c3 : Option Cell}
theorem lentV_eq : lent (false :: io) (v :: vs) = (lentV v || lent io vs) := by
  cases v <;> rfl
theorem callF_all {as0 : List AV} {ns : List Nat} (hi : ioN io vs = some ns) (hn : ns.Nodup) {cs : List (List AV)} (hc : contents A ns = some cs) : callF th f io vs A = match expA A ns 0 io vs with
    | some as => conK th (lent io vs) ns A (f as cs)
    | none => .stuck := by
  have hl : cs.length = ns.length := (contents_get hc).1
  unfold callF
  rw [hi]
  dsimp only
  rw [if_pos hn, hc]
  cases expA A ns 0 io vs with
  | none => rfl
  | some as =>
    dsimp only
    cases f as cs <;> simp [conK, hl]
theorem callF_f1 : callF th f [false] [a] A = expK A [] a fun u => conK th (lentV a) [] A (f [u] []) := by
  rw [callF_all (as0 := []) (ns := []) (cs := []) rfl List.nodup_nil rfl, expA_f, lentV_eq]
  unfold expK
  cases expV A [] 40 a <;> simp [lent]
theorem callF_f2 : callF th f [false, false] [a, b] A = expK A [] a fun u => expK A [] b fun w => conK th (lentV a || lentV b) [] A (f [u, w] []) := by
  rw [callF_all (as0 := []) (ns := []) (cs := []) rfl List.nodup_nil rfl, expA_f, expA_f, lentV_eq, lentV_eq]
  unfold expK
  cases expV A [] 40 a <;> cases expV A [] 40 b <;> simp [lent]
theorem callF_f3 : callF th f [false, false, false] [a, b, c] A = expK A [] a fun u => expK A [] b fun w => expK A [] c fun x => conK th (lentV a || (lentV b || lentV c)) [] A (f [u, w, x] []) := by
  rw [callF_all (as0 := []) (ns := []) (cs := []) rfl List.nodup_nil rfl, expA_f, expA_f, expA_f, lentV_eq, lentV_eq, lentV_eq]
  unfold expK
  cases expV A [] 40 a <;> cases expV A [] 40 b <;> cases expV A [] 40 c <;> simp [lent]
theorem callF_f4 : callF th f [false, false, false, false] [a, b, c, d] A = expK A [] a fun u => expK A [] b fun w => expK A [] c fun x => expK A [] d fun y => conK th (lentV a || (lentV b || (lentV c || lentV d))) [] A (f [u, w, x, y] []) := by
  rw [callF_all (as0 := []) (ns := []) (cs := []) rfl List.nodup_nil rfl, expA_f, expA_f, expA_f, expA_f, lentV_eq, lentV_eq, lentV_eq, lentV_eq]
  unfold expK
  cases expV A [] 40 a <;> cases expV A [] 40 b <;> cases expV A [] 40 c <;> cases expV A [] 40 d <;> simp [lent]
theorem expK_pure (h : pureB v = true) : expK A ns v k = k (toOld v) := by
  unfold expK expV
  rw [if_pos h]
@[simp] theorem expK_int {i : Int} : expK A ns (.int i) k = k (.int i) := by rw [expK_pure (by simp)]; simp
@[simp] theorem expK_bl {i : Bool} : expK A ns (.bl i) k = k (.bl i) := by rw [expK_pure (by simp)]; simp
@[simp] theorem expK_non : expK A ns .non k = k .non := by rw [expK_pure (by simp)]; simp
@[simp] theorem expK_str {i : PySem.Str} : expK A ns (.str i) k = k (.str i) := by rw [expK_pure (by simp)]; simp
@[simp] theorem expK_lst {g : Fl} (h : pureBs xs = true) : expK A ns (.lst g xs) k = k (.lst .old (toOlds xs)) := by rw [expK_pure (by simpa using h)]; simp
@[simp] theorem expK_tup (h : pureBs xs = true) : expK A ns (.tup xs) k = k (.tup (toOlds xs)) := by rw [expK_pure (by simpa using h)]; simp
theorem expK_ref (hc : cellAt A n = some (.lst xs)) (hn : n ∉ ns) (h : pureBs xs = true) : expK A ns (.ref n) k = k (.lst .old (toOlds xs)) := by
  unfold expK expV
  rw [if_neg (by unfold pureB; exact Bool.false_ne_true)]
  dsimp only
  rw [if_neg hn, hc]
  dsimp only
  rw [mapO_expV h]
  rfl
@[simp] theorem expK_r0 (h : pureBs xs = true) : expK ⟨some (.lst xs) :: cl, lo⟩ [] (.ref 0) k = k (.lst .old (toOlds xs)) := expK_ref rfl (by simp) h
@[simp] theorem expK_r1 (h : pureBs xs = true) : expK ⟨c0 :: some (.lst xs) :: cl, lo⟩ [] (.ref 1) k = k (.lst .old (toOlds xs)) := expK_ref rfl (by simp) h
@[simp] theorem expK_r2 (h : pureBs xs = true) : expK ⟨c0 :: c1 :: some (.lst xs) :: cl, lo⟩ [] (.ref 2) k = k (.lst .old (toOlds xs)) := expK_ref rfl (by simp) h
@[simp] theorem expK_r3 (h : pureBs xs = true) : expK ⟨c0 :: c1 :: c2 :: some (.lst xs) :: cl, lo⟩ [] (.ref 3) k = k (.lst .old (toOlds xs)) := expK_ref rfl (by simp) h
@[simp] theorem lentV_int {i : Int} : lentV (.int i) = false := by simp [lentV]
@[simp] theorem lentV_bl {i : Bool} : lentV (.bl i) = false := by simp [lentV]
@[simp] theorem lentV_non : lentV .non = false := by simp [lentV]
@[simp] theorem lentV_str {i : PySem.Str} : lentV (.str i) = false := by simp [lentV]
@[simp] theorem lentV_lst {g : Fl} : lentV (.lst g xs) = !pureBs xs := by simp [lentV]
@[simp] theorem lentV_tup : lentV (.tup xs) = !pureBs xs := by simp [lentV]
@[simp] theorem lentV_ref : lentV (.ref n) = true := by unfold lentV; dsimp only; unfold pureB; rfl
@[simp] theorem conK_f (hp : pureB v = true) : conK false false [] A (.ok v []) = .ok (imp v) A := by simp [conK, okOut, hp, thaw, putC]
@[simp] theorem conK_l (hp : pureB v = true) (hn : newB v = true) : conK false l [] A (.ok v []) = .ok (imp v) A := by simp [conK, okOut, hp, hn, newBs, thaw, putC]
@[simp] theorem conK_tf (hp : pureBs xs = true) : conK true false [] A (.ok (.lst .new xs) []) = .ok (.ref A.c.length) ⟨A.c ++ [some (.lst (imps xs))], A.lo⟩ := by simp [conK, okOut, hp, thaw, putC]
@[simp] theorem conK_tl (hp : pureBs xs = true) (hn : newBs xs = true) : conK true l [] A (.ok (.lst .new xs) []) = .ok (.ref A.c.length) ⟨A.c ++ [some (.lst (imps xs))], A.lo⟩ := by simp [conK, okOut, hp, hn, newBs, newB, thaw, putC]
@[simp] theorem conK_xf {e : Nat} (hp : pureBs xs = true) : conK th false [] A (.exc e xs []) = .exc e (imps xs) A := by simp [conK, okOut, hp, putC]
@[simp] theorem conK_xl {e : Nat} (hp : pureBs xs = true) (hn : newBs xs = true) : conK th l [] A (.exc e xs []) = .exc e (imps xs) A := by simp [conK, okOut, hp, hn, putC]
@[simp] theorem newB_int {i : Int} : newB (.int i) = true := by unfold newB; rfl
@[simp] theorem newB_bl {i : Bool} : newB (.bl i) = true := by unfold newB; rfl
@[simp] theorem newB_non : newB .non = true := by unfold newB; rfl
@[simp] theorem newB_str {i : PySem.Str} : newB (.str i) = true := by unfold newB; rfl
@[simp] theorem newB_lst {g : Fl} : newB (.lst g xs) = (decide (g = .new) && newBs xs) := by rw [newB]
@[simp] theorem newB_tup : newB (.tup xs) = newBs xs := by rw [newB]
@[simp] theorem newBs_nil : newBs [] = true := by rw [newBs]
@[simp] theorem newBs_cons : newBs (v :: xs) = (newB v && newBs xs) := by rw [newBs]
@[simp] theorem newBs_ints : ∀ ns : List Int, newBs (ns.map AV.int) = true
  | [] => by simp
  | n :: ns => by simp [newBs_ints ns]
/-! ## one cell handed over, the first argument -/
theorem expA_t : expA A ns j (true :: io) (v :: vs) = (expA A ns (j + 1) io vs).map (AV.ref j :: ·) := by
  rw [expA]
theorem expA_f' : expA A ns j (false :: io) (v :: vs) = (match expV A ns 40 v, expA A ns j io vs with | some u, some us => some (u :: us) | _, _ => none) := expA_f
theorem cons1 (hc : cellAt A n = some (.lst xs)) (hx : pureBs xs = true) : contents A [n] = some [toOlds xs] := by
  unfold contents
  rw [hc]
  unfold contents
  dsimp only
  rw [if_pos hx]
theorem callF_t1 (hc : cellAt A n = some (.lst xs)) (hx : pureBs xs = true) : callF th f [true] [.ref n] A = conK th false [n] A (f [.ref 0] [toOlds xs]) := by
  rw [callF_all (as0 := []) (ns := [n]) rfl (by simp) (cons1 hc hx), expA_t]
  simp [lent]
theorem callF_t2 (hc : cellAt A n = some (.lst xs)) (hx : pureBs xs = true) : callF th f [true, false] [.ref n, b] A = expK A [n] b fun u => conK th (lentV b) [n] A (f [.ref 0, u] [toOlds xs]) := by
  rw [callF_all (as0 := []) (ns := [n]) rfl (by simp) (cons1 hc hx), expA_t, expA_f]
  unfold expK
  have : lent [true, false] [.ref n, b] = lentV b := by
    unfold lent
    rw [lentV_eq]
    simp [lent]
  rw [this]
  cases expV A [n] 40 b <;> simp
theorem callF_t3 (hc : cellAt A n = some (.lst xs)) (hx : pureBs xs = true) : callF th f [true, false, false] [.ref n, b, c] A = expK A [n] b fun u => expK A [n] c fun w => conK th (lentV b || lentV c) [n] A (f [.ref 0, u, w] [toOlds xs]) := by
  rw [callF_all (as0 := []) (ns := [n]) rfl (by simp) (cons1 hc hx), expA_t, expA_f, expA_f]
  unfold expK
  have : lent [true, false, false] [.ref n, b, c] = (lentV b || lentV c) := by
    unfold lent
    rw [lentV_eq, lentV_eq]
    simp [lent]
  rw [this]
  cases expV A [n] 40 b <;> cases expV A [n] 40 c <;> simp
theorem conK_t {ys : List AV} (hp : pureB v = true) (hy : pureBs ys = true) : conK false false [n] A (.ok v [ys]) = .ok (imp v) ⟨A.c.set n (some (.lst (imps ys))), A.lo⟩ := by simp [conK, okOut, hp, hy, thaw, putC]
/-! ## errors -/
def tryK (n d i : Nat) (h : CS) : RS → RS
  | .exc c xs e A1 => if c < n then (if subB c d = true then offX i (h (e.set i (some (.exc c xs))) A1) else .exc c xs e A1) else .stuck
  | r => r
def try0K (n d : Nat) (h : CS) : RS → RS
  | .exc c xs e A1 => if c < n then (if subB c d = true then offX0 (h e A1) else .exc c xs e A1) else .stuck
  | r => r
def isxK (n d : Nat) (v : AV) (A1 : St) : R AV := match v with
  | .exc c _ => if c < n ∧ d < n then .ok (.bl (subB c d)) A1 else .stuck
  | _ => .stuck
def isvK (n : Nat) (v : AV) (A1 : St) : R AV := match v with
  | .exc c _ => if c < n then .ok (.bl true) A1 else .stuck
  | _ => .stuck
def xfK (n : Nat) (fl : Nat → List PySem.Str) (f : PySem.Str) (v : AV) (A1 : St) : R AV := match v with
  | .exc c xs => if c < n then (match lkX (fl c) xs f with
    | some u => .ok u A1
    | none => .stuck) else .stuck
  | _ => .stuck
variable {nn i e : Nat} {bo h : CS} {ce : CE} {cs : Env → St → R (List AV)} {fl : Nat → List PySem.Str} {o : Option AV} {ee : Env} {s : PySem.Str}
@[simp] theorem s_try : sTry nn j i bo h (o :: ee) A = tryK nn j i h (bo (o :: ee) A) := by
  unfold sTry tryK
  cases bo (o :: ee) A <;> rfl
@[simp] theorem s_try0 : sTry0 nn j bo h (o :: ee) A = try0K nn j h (bo (o :: ee) A) := by
  unfold sTry0 try0K
  cases bo (o :: ee) A <;> rfl
@[simp] theorem tryK_nx : tryK nn j i h (.nx ee A) = .nx ee A := (rfl)
@[simp] theorem tryK_rt : tryK nn j i h (.rt v ee A) = .rt v ee A := (rfl)
@[simp] theorem tryK_bk : tryK nn j i h (.bk ee A) = .bk ee A := (rfl)
@[simp] theorem tryK_ct : tryK nn j i h (.ct ee A) = .ct ee A := (rfl)
@[simp] theorem tryK_exc : tryK nn j i h (.exc e xs ee A) = if e < nn then (if subB e j = true then offX i (h (ee.set i (some (.exc e xs))) A) else .exc e xs ee A) else .stuck := (rfl)
@[simp] theorem try0K_nx : try0K nn j h (.nx ee A) = .nx ee A := (rfl)
@[simp] theorem try0K_rt : try0K nn j h (.rt v ee A) = .rt v ee A := (rfl)
@[simp] theorem try0K_exc : try0K nn j h (.exc e xs ee A) = if e < nn then (if subB e j = true then offX0 (h ee A) else .exc e xs ee A) else .stuck := (rfl)
@[simp] theorem offX0_nx : offX0 (.nx ee A) = .nx ee A := (rfl)
@[simp] theorem offX0_rt : offX0 (.rt v ee A) = .rt v ee A := (rfl)
@[simp] theorem offX0_ct : offX0 (.ct ee A) = .ct ee A := (rfl)
@[simp] theorem offX0_bk : offX0 (.bk ee A) = .bk ee A := (rfl)
@[simp] theorem offX_nx : offX i (.nx ee A) = if okX (ee.set i none) A = true then .nx (ee.set i none) A else .stuck := (rfl)
@[simp] theorem offX_rt : offX i (.rt v ee A) = if okX (ee.set i none) A = true ∧ noX v = true then .rt v (ee.set i none) A else .stuck := (rfl)
@[simp] theorem okX_eq : okX ee A = (A.c.all noXC && ee.all noXE) := (rfl)
@[simp] theorem noXE_some : noXE (some v) = noX v := (rfl)
@[simp] theorem noXE_none : noXE none = true := (rfl)
@[simp] theorem noXC_none : noXC none = true := (rfl)
@[simp] theorem noXC_lst : noXC (some (.lst xs)) = noXs xs := (rfl)
@[simp] theorem noX_int {i : Int} : noX (.int i) = true := by unfold noX; rfl
@[simp] theorem noX_bl {i : Bool} : noX (.bl i) = true := by unfold noX; rfl
@[simp] theorem noX_non : noX .non = true := by unfold noX; rfl
@[simp] theorem noX_str {i : PySem.Str} : noX (.str i) = true := by unfold noX; rfl
@[simp] theorem noX_ref {i : Nat} : noX (.ref i) = true := by unfold noX; rfl
@[simp] theorem noX_lst {g : Fl} : noX (.lst g xs) = noXs xs := by rw [noX]
@[simp] theorem noX_tup : noX (.tup xs) = noXs xs := by rw [noX]
@[simp] theorem noXs_nil : noXs [] = true := by rw [noXs]
@[simp] theorem noXs_cons : noXs (v :: xs) = (noX v && noXs xs) := by rw [noXs]
theorem noX_pure : (∀ v : AV, pureB v = true → noX v = true) ∧ (∀ vs : List AV, pureBs vs = true → noXs vs = true) := by
  have key : ∀ n : Nat, (∀ v : AV, sizeOf v < n → pureB v = true → noX v = true) ∧ (∀ vs : List AV, sizeOf vs < n → pureBs vs = true → noXs vs = true) := by
    intro n
    induction n with
    | zero => exact ⟨fun v h => absurd h (Nat.not_lt_zero _), fun v h => absurd h (Nat.not_lt_zero _)⟩
    | succ n ih =>
      refine ⟨fun v hv p => ?_, fun vs hv p => ?_⟩
      · cases v with
        | tup xs => rw [noX_tup]; exact ih.2 xs (by simp at hv; omega) (by simpa using p)
        | lst f xs => rw [noX_lst]; exact ih.2 xs (by simp at hv; omega) (by simpa using p)
        | exc c xs => unfold pureB at p; cases p
        | _ => unfold noX; rfl
      · cases vs with
        | nil => rw [noXs]
        | cons v vs =>
          rw [pureBs_cons] at p
          obtain ⟨p1, p2⟩ := Bool.and_eq_true_iff.mp p
          rw [noXs_cons, ih.1 v (by simp at hv; omega) p1, ih.2 vs (by simp at hv; omega) p2]
          rfl
  exact ⟨fun v p => (key (sizeOf v + 1)).1 v (Nat.lt_succ_self _) p, fun v p => (key (sizeOf v + 1)).2 v (Nat.lt_succ_self _) p⟩
@[simp] theorem noXs_ints (ns : List Int) : noXs (ns.map AV.int) = true := noX_pure.2 _ (pure_ints ns)
@[simp] theorem e_isX : cIsX nn j ce (o :: ee) A = bnd (ce (o :: ee) A) (isxK nn j) := by
  unfold cIsX
  congr 1
@[simp] theorem e_isV : cIsV nn ce (o :: ee) A = bnd (ce (o :: ee) A) (isvK nn) := by
  unfold cIsV
  congr 1
@[simp] theorem e_xf : cXf nn fl s ce (o :: ee) A = bnd (ce (o :: ee) A) (xfK nn fl s) := by
  unfold cXf
  congr 1
@[simp] theorem isxK_exc : isxK nn j (.exc e xs) A = if e < nn ∧ j < nn then .ok (.bl (subB e j)) A else .stuck := (rfl)
@[simp] theorem isvK_exc : isvK nn (.exc e xs) A = if e < nn then .ok (.bl true) A else .stuck := (rfl)
theorem xfK_exc {u : AV} (h1 : e < nn) (h : lkX (fl e) xs s = some u) : xfK nn fl s (.exc e xs) A = .ok u A := by
  unfold xfK
  dsimp only
  rw [if_pos h1, h]
@[simp] theorem s_raise : sRaise nn fl e cs (o :: ee) A = sB (cs (o :: ee) A) (o :: ee) fun vs A1 => if e < nn ∧ vs.length = (fl e).length then .exc e vs.reverse (o :: ee) A1 else .stuck := (rfl)
@[simp] theorem bnd_exc {α β : Type} {g : α → St → R β} : bnd (.exc e xs A) g = .exc e xs A := (rfl)
@[simp] theorem sB_exc {α : Type} {g : α → St → RS} : sB (.exc e xs A) env g = .exc e xs env A := (rfl)
theorem close0x (h : pureBs xs = true) : closeF 0 (.exc e xs env A) = .exc e xs [] := by
  unfold closeF
  dsimp only
  rw [mapO_pure h]
  rfl
@[simp] theorem x_sum (ns : List Int) {g : Fl} : sumD [.lst g (ns.map AV.int)] A = .val (.int ns.sum) := by
  simp [sumD, intsD, intsOf_map]
@[simp] theorem x_lst5 {v0 v1 v2 v3 v4 : AV} : lstD [v0, v1, v2, v3, v4] A = .lst [v0, v1, v2, v3, v4] := x_lst (by show _ ≤ 16777216; simp)
@[simp] theorem x_lst6 {v0 v1 v2 v3 v4 v5 : AV} : lstD [v0, v1, v2, v3, v4, v5] A = .lst [v0, v1, v2, v3, v4, v5] := x_lst (by show _ ≤ 16777216; simp)
@[simp] theorem x_lst7 {v0 v1 v2 v3 v4 v5 v6 : AV} : lstD [v0, v1, v2, v3, v4, v5, v6] A = .lst [v0, v1, v2, v3, v4, v5, v6] := x_lst (by show _ ≤ 16777216; simp)
@[simp] theorem x_lst8 {v0 v1 v2 v3 v4 v5 v6 v7 : AV} : lstD [v0, v1, v2, v3, v4, v5, v6, v7] A = .lst [v0, v1, v2, v3, v4, v5, v6, v7] := x_lst (by show _ ≤ 16777216; simp)
@[simp] theorem x_lst9 {v0 v1 v2 v3 v4 v5 v6 v7 v8 : AV} : lstD [v0, v1, v2, v3, v4, v5, v6, v7, v8] A = .lst [v0, v1, v2, v3, v4, v5, v6, v7, v8] := x_lst (by show _ ≤ 16777216; simp)
@[simp] theorem x_lst10 {v0 v1 v2 v3 v4 v5 v6 v7 v8 v9 : AV} : lstD [v0, v1, v2, v3, v4, v5, v6, v7, v8, v9] A = .lst [v0, v1, v2, v3, v4, v5, v6, v7, v8, v9] := x_lst (by show _ ≤ 16777216; simp)
@[simp] theorem x_lst11 {v0 v1 v2 v3 v4 v5 v6 v7 v8 v9 v10 : AV} : lstD [v0, v1, v2, v3, v4, v5, v6, v7, v8, v9, v10] A = .lst [v0, v1, v2, v3, v4, v5, v6, v7, v8, v9, v10] := x_lst (by show _ ≤ 16777216; simp)
@[simp] theorem x_lst12 {v0 v1 v2 v3 v4 v5 v6 v7 v8 v9 v10 v11 : AV} : lstD [v0, v1, v2, v3, v4, v5, v6, v7, v8, v9, v10, v11] A = .lst [v0, v1, v2, v3, v4, v5, v6, v7, v8, v9, v10, v11] := x_lst (by show _ ≤ 16777216; simp)
@[simp] theorem x_lst13 {v0 v1 v2 v3 v4 v5 v6 v7 v8 v9 v10 v11 v12 : AV} : lstD [v0, v1, v2, v3, v4, v5, v6, v7, v8, v9, v10, v11, v12] A = .lst [v0, v1, v2, v3, v4, v5, v6, v7, v8, v9, v10, v11, v12] := x_lst (by show _ ≤ 16777216; simp)
@[simp] theorem x_lst14 {v0 v1 v2 v3 v4 v5 v6 v7 v8 v9 v10 v11 v12 v13 : AV} : lstD [v0, v1, v2, v3, v4, v5, v6, v7, v8, v9, v10, v11, v12, v13] A = .lst [v0, v1, v2, v3, v4, v5, v6, v7, v8, v9, v10, v11, v12, v13] := x_lst (by show _ ≤ 16777216; simp)
@[simp] theorem x_lst15 {v0 v1 v2 v3 v4 v5 v6 v7 v8 v9 v10 v11 v12 v13 v14 : AV} : lstD [v0, v1, v2, v3, v4, v5, v6, v7, v8, v9, v10, v11, v12, v13, v14] A = .lst [v0, v1, v2, v3, v4, v5, v6, v7, v8, v9, v10, v11, v12, v13, v14] := x_lst (by show _ ≤ 16777216; simp)
@[simp] theorem x_lst16 {v0 v1 v2 v3 v4 v5 v6 v7 v8 v9 v10 v11 v12 v13 v14 v15 : AV} : lstD [v0, v1, v2, v3, v4, v5, v6, v7, v8, v9, v10, v11, v12, v13, v14, v15] A = .lst [v0, v1, v2, v3, v4, v5, v6, v7, v8, v9, v10, v11, v12, v13, v14, v15] := x_lst (by show _ ≤ 16777216; simp)
@[simp] theorem x_tup4 {v0 v1 v2 v3 : AV} : tupD [v0, v1, v2, v3] A = .tup [v0, v1, v2, v3] := x_tup (by show _ ≤ 16777216; simp)
@[simp] theorem x_tup5 {v0 v1 v2 v3 v4 : AV} : tupD [v0, v1, v2, v3, v4] A = .tup [v0, v1, v2, v3, v4] := x_tup (by show _ ≤ 16777216; simp)
@[simp] theorem x_tup6 {v0 v1 v2 v3 v4 v5 : AV} : tupD [v0, v1, v2, v3, v4, v5] A = .tup [v0, v1, v2, v3, v4, v5] := x_tup (by show _ ≤ 16777216; simp)
@[simp] theorem x_tup7 {v0 v1 v2 v3 v4 v5 v6 : AV} : tupD [v0, v1, v2, v3, v4, v5, v6] A = .tup [v0, v1, v2, v3, v4, v5, v6] := x_tup (by show _ ≤ 16777216; simp)
@[simp] theorem x_tup8 {v0 v1 v2 v3 v4 v5 v6 v7 : AV} : tupD [v0, v1, v2, v3, v4, v5, v6, v7] A = .tup [v0, v1, v2, v3, v4, v5, v6, v7] := x_tup (by show _ ≤ 16777216; simp)
theorem x_addL {g g' : Fl} (h : xs.length + ys.length ≤ 1000000) : addD (.lst g xs) (.lst g' ys) A = .lst (xs ++ ys) := addL_eq rfl rfl (Nat.le_trans h (by show _ ≤ 16777216; omega))
@[simp] theorem frV_scr {m : Nat} {ks : List Int} : frV A m 40 (.scr ks) = some (.scr ks) := frV_below (by unfold below; rfl)
theorem x_listR (h : cellAt A n = some (.lst xs)) : listD [.ref n] A = .lst xs := by
  simp [listD, seqOf, listOf_ref h]
@[simp] theorem list_0 : listD [.ref 0] ⟨some (.lst xs) :: cl, lo⟩ = .lst xs := x_listR rfl
@[simp] theorem list_1 : listD [.ref 1] ⟨c0 :: some (.lst xs) :: cl, lo⟩ = .lst xs := x_listR rfl
@[simp] theorem list_2 : listD [.ref 2] ⟨c0 :: c1 :: some (.lst xs) :: cl, lo⟩ = .lst xs := x_listR rfl
@[simp] theorem x_truL {g : Fl} : truD (.lst g xs) A = .val (.bl (decide (0 < xs.length))) := by
  unfold truD truB
  dsimp only [seqOf]
  cases xs <;> simp
theorem x_truR (h : cellAt A n = some (.lst xs)) : truD (.ref n) A = .val (.bl (decide (0 < xs.length))) := by
  unfold truD truB
  simp only [seqOf, listOf_ref h]
  cases xs <;> simp
@[simp] theorem tru_0 : truD (.ref 0) ⟨some (.lst xs) :: cl, lo⟩ = .val (.bl (decide (0 < xs.length))) := x_truR rfl
@[simp] theorem tru_1 : truD (.ref 1) ⟨c0 :: some (.lst xs) :: cl, lo⟩ = .val (.bl (decide (0 < xs.length))) := x_truR rfl
@[simp] theorem tru_2 : truD (.ref 2) ⟨c0 :: c1 :: some (.lst xs) :: cl, lo⟩ = .val (.bl (decide (0 < xs.length))) := x_truR rfl
end
end Sx

set_option maxHeartbeats 2000000
namespace Sx
open PySem PySem.Spec PyProof.Rows L2
/-! ## isinstance(x, (list, tuple)) -/
def isi2D (v : AV) (A : St) : RD := match tyOfA A v with
  | some t => match kitB t "list" with
    | some true => .val (.bl true)
    | some false => match kitB t "tuple" with
      | some b => .val (.bl b)
      | none => .bad
    | none => .bad
  | none => .bad
def cIsi2 (ca : CE) : CE := c1 false isi2D ca
theorem isi2D_ok {w ρ A H env σ} {K : PySem.W.Frag} {tp : Addr} {v : AV} {x : V} {Q : VK} (S : Sit w ρ A H env σ) (rv : RelA w ρ A H v x) (ht : H tp = some (.tup [.ty "list", .ty "tuple"])) (p : PostD w ρ A H Q (isi2D v A)) : rIsiT K [x, .ref tp] H Q := by
  have gen : ∀ t : String, tyOfA A v = some t → TyOf K H x (.type t) → rIsiT K [x, .ref tp] H Q := fun t et ty => by
    unfold isi2D at p
    rw [et] at p
    dsimp only at p
    cases ek : kitB t "list" with
    | none => rw [ek] at p; exact p.elim
    | some b =>
      rw [ek] at p
      have k1 : PySem.W.kitOne K (.type t) (.type "list") = some b := kit_ty ek
      cases b with
      | true =>
        refine ⟨x, tp, _, .type t, [.type "list", .type "tuple"], true, rfl, ht, .cons (.ty _) (.cons (.ty _) .nil), .base ty, ?_, p _ (rel_bl true)⟩
        unfold PySem.W.kitAny
        rw [k1]
      | false =>
        dsimp only at p
        cases ek2 : kitB t "tuple" with
        | none => rw [ek2] at p; exact p.elim
        | some b2 =>
          rw [ek2] at p
          have k2 : PySem.W.kitOne K (.type t) (.type "tuple") = some b2 := kit_ty ek2
          refine ⟨x, tp, _, .type t, [.type "list", .type "tuple"], b2, rfl, ht, .cons (.ty _) (.cons (.ty _) .nil), .base ty, ?_, p _ (rel_bl b2)⟩
          unfold PySem.W.kitAny
          rw [k1]
          dsimp only
          unfold PySem.W.kitAny
          rw [k2]
          cases b2 with
          | true => rfl
          | false => dsimp only; unfold PySem.W.kitAny; rfl
  cases v with
  | non => rw [rel_of_non rv] at gen ⊢; exact gen _ rfl .non
  | bl b => rw [rel_of_bl rv] at gen ⊢; exact gen _ rfl (.bl b)
  | int i => rw [rel_of_int rv] at gen ⊢; exact gen _ rfl (.int i)
  | str s => rw [rel_of_str rv] at gen ⊢; exact gen _ rfl (.str s)
  | tup xs =>
    obtain ⟨a, vs, rfl, hp, _⟩ := rv.tupOf
    exact gen _ rfl (.tup hp)
  | lst f xs =>
    obtain ⟨a, vs, rfl, hp, _⟩ := S.listOf rv (xs := xs) rfl
    exact gen _ rfl (.lst hp)
  | ref n =>
    cases ec : cellAt A n with
    | none =>
      unfold isi2D tyOfA at p
      dsimp only at p
      rw [ec] at p
      exact p.elim
    | some c =>
      cases c with
      | lst xs =>
        obtain ⟨a, vs, rfl, hp, _⟩ := S.listOf rv (xs := xs) (by unfold listOf; dsimp only; rw [ec])
        exact gen "list" (by unfold tyOfA; dsimp only; rw [ec]) (.lst hp)
      | dK _ _ =>
        unfold isi2D tyOfA at p
        dsimp only at p
        rw [ec] at p
        exact p.elim
      | dT _ _ =>
        unfold isi2D tyOfA at p
        dsimp only at p
        rw [ec] at p
        exact p.elim
  | scr _ => exact p.elim
  | exc _ _ => exact p.elim
section
variable {X : Cx} {g : Gb} {W : WX} {e a b : Expr} {es rest : List Expr} {c ca cb : CE} {cs : Env → St → R (List AV)} {pos : Pos}
theorem q_isi2 {x : Str} {p p2 p3 p4 : Pos} {x1} (hm : X.mg "isinstance" = none) (hml : X.mg "list" = none) (hmt : X.mg "tuple" = none) (ha : PE X a (tE g W ca)) (hg : Gl X "isinstance" := by rfl) (hgl : Gl X "list" := by rfl) (hgt : Gl X "tuple" := by rfl)
    (h1 : starEach [.Name "tuple" p3] X.env = (false, eval (.Name "tuple" p3) X.env) :: starEach [] X.env := by rfl)
    (h2 : starEach [.Name "list" p2, .Name "tuple" p3] X.env = (false, eval (.Name "list" p2) X.env) :: starEach [.Name "tuple" p3] X.env := by rfl)
    (he0 : starEach [.Tuple [.Name "list" p2, .Name "tuple" p3] x1 p4] X.env = (false, eval (.Tuple [.Name "list" p2, .Name "tuple" p3] x1 p4) X.env) :: starEach [] X.env := by rfl)
    (he : starEach [a, .Tuple [.Name "list" p2, .Name "tuple" p3] x1 p4] X.env = (false, eval a X.env) :: starEach [.Tuple [.Name "list" p2, .Name "tuple" p3] x1 p4] X.env := by rfl) (hpl : (backTo pos (starEach [.Tuple [.Name "list" p2, .Name "tuple" p3] x1 p4] X.env)).any (·.1) = false := by rfl) :
    PE X (.Call (.Name "isinstance" p) [a, .Tuple [.Name "list" p2, .Name "tuple" p3] x1 p4] [] pos) (tE g W (cIsi2 ca)) := by
  refine PE.mono (pe_callB call_isiT hg hm bt_isinstance (pa_cons ha (pa_cons (pe_tup (pa_cons (pe_bltn (v := .ty "list") hgl hml boot_list rfl) (pa_cons (pe_bltn (v := .ty "tuple") hgt hmt boot_tuple rfl) pa_nil h1) h2)) pa_nil he0) he) (by decide) (by decide) he hpl) fun σ H Q q => ?_
  refine tG.one q fun w ρ A env v A1 ρ1 H1 x hg S e S1 r1 q => ?_
  refine ⟨by show 2 ≤ sizeLine; rw [sizeLine_eq]; omega, fun p hp => ?_⟩
  obtain ⟨f1, f2⟩ := S1.new (o := .tup [.ty "list", .ty "tuple"]) hp
  refine isi2D_ok f2 (r1.ext f1) upd_same (fin_ok (b := false) f2 (E := fun _ _ _ => True) ?_)
  refine satE.imp q (fun v A h => ?_) (fun c xs A h => trivial)
  exact fun ρ' H' x e S r => h ρ' H' x (f1.trans e) S r
/-! ## sorted(x, reverse=True) -/
def sortedRD (vs : List AV) (A : St) : RD := match vs with
  | [v] => match listOf A v with
    | some xs => match intsOf xs with
      | some ns => .lst ((srt ns).reverse.map AV.int)
      | none => .bad
    | none => .bad
  | _ => .bad
theorem srtR_eq {ns ms : List Int} (h : ms.Perm ns) (p : ms.Pairwise (· ≥ ·)) : ms = (srt ns).reverse := by
  have h1 : ms.reverse = srt ns := srt_eq ((List.reverse_perm ms).trans h) (by rw [List.pairwise_reverse]; exact p)
  rw [← h1, List.reverse_reverse]
theorem q_sortedR (fr : Bool) {p k1 k2 : Pos} {j} (hm : X.mg "sorted" = none) (ha : PA X [a] (tA g W cs)) (hg : Gl X "sorted" := by rfl)
    (he : backTo pos (starEach [a] X.env) = (false, eval a X.env) :: backTo pos (starEach [] X.env) := by rfl) (hpl : (backTo pos (starEach [a] X.env)).any (·.1) = false := by rfl)
    (hall : (backToKw pos (keywordEach [⟨some "reverse", .Constant (.bool true) j k1, k2⟩] X.env)).all (·.1.isSome) = true := by rfl) (hnone : (backToKw pos (keywordEach [⟨some "reverse", .Constant (.bool true) j k1, k2⟩] X.env)).any (·.1.isNone) = false := by rfl) (hks : (backToKw pos (keywordEach [⟨some "reverse", .Constant (.bool true) j k1, k2⟩] X.env)).filterMap (·.1) = [Str.ofString "reverse"] := by rfl) :
    PE X (.Call (.Name "sorted" p) [a] [⟨some "reverse", .Constant (.bool true) j k1, k2⟩] pos) (tE g W (cN fr sortedRD cs)) := by
  refine PE.mono (pe_callBK (cr_sortedRev (b := true)) hg hm bt_sorted ha (pk_cons pe_bl pk_nil) (by decide) (by decide) he hpl hall hnone hks) fun σ H Q q => ?_
  refine tG.one q fun w ρ A env vs A1 ρ1 H1 xs hg S e S1 r1 q => ?_
  have p := fin_ok S1 q
  show rSortedKw X.K true [.bl true] xs [.bl true] H1 Q
  unfold sortedRD at p
  split at p
  · rename_i v
    obtain ⟨x, rfl, r2⟩ := one_rel r1
    cases e : listOf A1 v with
    | none => rw [e] at p; exact p.elim
    | some ys =>
      rw [e] at p
      dsimp only at p
      obtain ⟨a, us, rfl, hp, rs⟩ := S1.listOf r2 e
      cases e2 : intsOf ys with
      | none => rw [e2] at p; exact p.elim
      | some ns =>
        rw [e2] at p
        rw [ints_rel e2 rs] at hp
        refine ⟨a, ns, rfl, rfl, SqL.of hp, fun ms q h1 h2 hq => ?_⟩
        rw [srtR_eq h1 h2]
        exact p q _ hq (rel_ints _)
  · exact p.elim
end
/-! ## list(range(..)) -/
instance {a b : Int} : Decidable (RgOk a b) := by unfold RgOk; infer_instance
def lstR1 (v : AV) (_ : St) : RD := match v with
  | .int a => if RgOk 0 a then .lst ((List.range a.toNat).map fun i => AV.int (i : Nat)) else .bad
  | _ => .bad
def lstR2 (v u : AV) (_ : St) : RD := match v, u with
  | .int a, .int b => if RgOk a b then .lst ((List.range (b - a).toNat).map fun i => AV.int (a + (i : Nat))) else .bad
  | _, _ => .bad
theorem rel_rg {w ρ A H} (a b : Int) : RelAs w ρ A H ((List.range (b - a).toNat).map fun i => AV.int (a + (i : Nat))) (rgV a b) := by
  have := rel_ints (w := w) (ρ := ρ) (A := A) (H := H) ((List.range (b - a).toNat).map fun i => a + ((i : Nat) : Int))
  unfold rgV
  simpa [Function.comp_def] using this
section
variable {X : Cx} {g : Gb} {W : WX} {e a b : Expr} {ca cb : CE} {pos p p2 pos2 : Pos}
theorem q_lstR1 (fr : Bool) (hc : X.calm = true) (hml : X.mg "list" = none) (hmr : X.mg "range" = none) (ha : PE X a (tE g W ca)) (hgl : Gl X "list" := by rfl) (hgr : Gl X "range" := by rfl) (h1 : starEach [a] X.env = (false, eval a X.env) :: starEach [] X.env := by rfl)
    (na : starEach [.Call (.Name "range" p2) [a] [] pos2] X.env = (false, eval (.Call (.Name "range" p2) [a] [] pos2) X.env) :: starEach [] X.env := by rfl) :
    PE X (.Call (.Name "list" p) [.Call (.Name "range" p2) [a] [] pos2] [] pos) (tE g W (c1 fr lstR1 ca)) := by
  refine PE.mono (pe_listRg hc hgl hml (prg_1 hgr hmr ha h1) na) fun σ H Q q => ?_
  refine tG.one q fun w ρ A env v A1 ρ1 H1 x hg S e S1 r1 q => ?_
  have p := fin_ok S1 q
  unfold lstR1 at p
  split at p
  · rename_i n
    split at p
    · rename_i hok
      refine ⟨n, rel_of_int r1, hok, fun q hq => p q _ hq ?_⟩
      have := rel_rg (w := w) (ρ := ρ1) (A := A1) (H := H1) 0 n
      simpa using this
    · exact p.elim
  · exact p.elim
theorem q_lstR2 (fr : Bool) (hc : X.calm = true) (hml : X.mg "list" = none) (hmr : X.mg "range" = none) (ha : PE X a (tE g W ca)) (hb : PE X b (tE g W cb)) (hgl : Gl X "list" := by rfl) (hgr : Gl X "range" := by rfl) (h1 : starEach [a, b] X.env = (false, eval a X.env) :: starEach [b] X.env := by rfl) (h2 : starEach [b] X.env = (false, eval b X.env) :: starEach [] X.env := by rfl)
    (hp : (backTo pos2 (starEach [b] X.env)).any (·.1) = false := by rfl)
    (na : starEach [.Call (.Name "range" p2) [a, b] [] pos2] X.env = (false, eval (.Call (.Name "range" p2) [a, b] [] pos2) X.env) :: starEach [] X.env := by rfl) :
    PE X (.Call (.Name "list" p) [.Call (.Name "range" p2) [a, b] [] pos2] [] pos) (tE g W (c2 fr lstR2 ca cb)) := by
  refine PE.mono (pe_listRg hc hgl hml (prg_2 hgr hmr ha hb h1 h2 hp) na) fun σ H Q q => ?_
  refine tG.one q fun w ρ A env v A1 ρ1 H1 x hg S e S1 r1 q => ?_
  refine tG.bind hg S1 q fun u A2 ρ2 H2 y e2 S2 r2 q => ?_
  have p := fin_ok S2 q
  cases v with
  | int n =>
    cases u with
    | int m =>
      unfold lstR2 at p
      dsimp only at p
      split at p
      · rename_i hok
        exact ⟨n, m, rel_of_int r1, rel_of_int r2, hok, fun q hq => p q _ hq (rel_rg n m)⟩
      · exact p.elim
    | _ => exact p.elim
  | _ => exact p.elim
end
/-! ## a op1 b op2 c op3 d -/
def tChain3 (r r' r'' : R2) (ta tb tc td : TE) : TE := fun σ H Q => ta σ H fun x H1 => tb σ H1 fun y H2 => r x y H2 fun z H3 => ∃ k, z = .bl k ∧
  (if k = true then tc σ H3 fun w' H4 => r' y w' H4 fun z2 H5 => ∃ k2, z2 = .bl k2 ∧ (if k2 = true then td σ H5 fun w2 H6 => r'' w' w2 H6 Q else Q (.bl false) H5) else Q (.bl false) H3)
def cChain3 (f f' f'' : AV → AV → St → RD) (ca cb cc cd : CE) : CE := fun env A => bnd (ca env A) fun x A1 => bnd (cb env A1) fun y A2 => bnd (fin false (f x y A2) A2) fun z A3 => match z with
  | .bl true => bnd (cc env A3) fun u A4 => bnd (fin false (f' y u A4) A4) fun z2 A5 => (match z2 with
    | .bl true => bnd (cd env A5) fun v A6 => fin false (f'' u v A6) A6
    | .bl false => .ok (.bl false) A5
    | _ => .stuck)
  | .bl false => .ok (.bl false) A3
  | _ => .stuck
section
variable {X : Cx} {g : Gb} {W : WX} {a b c d : Expr} {ca cb cc cd : CE} {ta tb tc td : TE} {pos : Pos}
theorem pe_chain3 {op op' op'' : CmpOp} {r r' r'' : R2} (ho : OpR X (compareOp op) r) (ho' : OpR X (compareOp op') r') (ho'' : OpR X (compareOp op'') r'') (ha : PE X a ta) (hb : PE X b tb) (hc : PE X c tc) (hd : PE X d td)
    (hm : lastMarks [op, op', op''] [b, c, d] = false := by with_unfolding_all rfl) : PE X (.Compare a [op, op', op''] [b, c, d] pos) (tChain3 r r' r'' ta tb tc td) := by
  refine ⟨fun pins s σ H Q I h => ?_⟩
  refine Compare_chain (thn (ha.run pins s σ H _ I h) fun v s1 ⟨x, H1, I1, r1, q1⟩ => chain_link (thn (hb.run pins s1 σ H1 _ I1 q1) fun u s2 ⟨y, H2, I2, r2, q2⟩ =>
    thn (ho pins s2 σ H2 x y v u _ I2 r1 r2 q2) fun d s3 ⟨z, H3, I3, r3, k, e, q3⟩ => ?_)) hm
  subst e
  cases r3
  refine wpAny_truthy_bool ?_
  cases k with
  | false => exact ite_ff ⟨.bl false, H3, I3, rfl, q3⟩
  | true =>
    refine ite_tt (chain_link (thn (hc.run pins s3 σ H3 _ I3 q3) fun w' s4 ⟨z', H4, I4, r4, q4⟩ => thn (ho' pins s4 σ H4 y z' u w' _ I4 r2 r4 q4) fun d s5 ⟨z5, H5, I5, r5, k2, e2, q5⟩ => ?_))
    subst e2
    cases r5
    refine wpAny_truthy_bool ?_
    cases k2 with
    | false => exact ite_ff ⟨.bl false, H5, I5, rfl, q5⟩
    | true => exact ite_tt (chain_last (thn (hd.run pins s5 σ H5 _ I5 q5) fun w2 s6 ⟨z6, H6, I6, r6, q6⟩ => ho'' pins s6 σ H6 z' z6 w' w2 Q I6 r4 r6 q6))
theorem pt_chain3 {op op' op'' : CmpOp} {r r' r'' : R2} (ho : OpR X (compareOp op) r) (ho' : OpR X (compareOp op') r') (ho'' : OpR X (compareOp op'') r'') (ha : PE X a ta) (hb : PE X b tb) (hc : PE X c tc) (hd : PE X d td)
    (hm : lastMarks [op, op', op''] [b, c, d] = false := by with_unfolding_all rfl) : PT X (.Compare a [op, op', op''] [b, c, d] pos) (tTest (tChain3 r r' r'' ta tb tc td)) := by
  refine ⟨fun pins s σ H Q I h => ?_⟩
  refine isTrue_chain (thn (ha.run pins s σ H _ I h) fun v s1 ⟨x, H1, I1, r1, q1⟩ => test_link (thn (hb.run pins s1 σ H1 _ I1 q1) fun u s2 ⟨y, H2, I2, r2, q2⟩ =>
    thn (ho pins s2 σ H2 x y v u _ I2 r1 r2 q2) fun d s3 ⟨z, H3, I3, r3, k, e, q3⟩ => ?_)) hm
  subst e
  cases r3
  refine wpAny_truthy_bool ?_
  cases k with
  | false =>
    obtain ⟨k', e', q'⟩ := q3
    cases e'
    exact ite_ff ⟨H3, I3, q'⟩
  | true =>
    refine ite_tt (test_link (thn (hc.run pins s3 σ H3 _ I3 q3) fun w' s4 ⟨z', H4, I4, r4, q4⟩ => thn (ho' pins s4 σ H4 y z' u w' _ I4 r2 r4 q4) fun d s5 ⟨z5, H5, I5, r5, k2, e2, q5⟩ => ?_))
    subst e2
    cases r5
    refine wpAny_truthy_bool ?_
    cases k2 with
    | false =>
      obtain ⟨k', e', q'⟩ := q5
      cases e'
      exact ite_ff ⟨H5, I5, q'⟩
    | true =>
      refine ite_tt (test_last (thn (hd.run pins s5 σ H5 _ I5 q5) fun w2 s6 ⟨z6, H6, I6, r6, q6⟩ => thn (ho'' pins s6 σ H6 z' z6 w' w2 _ I6 r4 r6 q6) fun d s7 ⟨z7, H7, I7, r7, k3, e3, q7⟩ => ?_))
      subst e3
      cases r7
      exact wpAny_truthy_bool ⟨H7, I7, q7⟩
theorem chain3_ok {r r' r'' : R2} {f f' f'' : AV → AV → St → RD} (d1 : D2 r f) (d2 : D2 r' f') (d3 : D2 r'' f'') : ∀ σ H Q, tE g W (cChain3 f f' f'' ca cb cc cd) σ H Q → tChain3 r r' r'' (tE g W ca) (tE g W cb) (tE g W cc) (tE g W cd) σ H Q := by
  intro σ H Q q
  refine tG.one q fun w ρ A env v A1 ρ1 H1 x hg S e S1 r1 q => ?_
  refine tG.bind hg S1 q fun u A2 ρ2 H2 y e2 S2 r2 q => ?_
  refine d1 w ρ2 A2 H2 env σ v u x y _ S2 (r1.ext e2) r2 (fin_val S2 q fun z A3 ρ3 H3 xz e3 S3 r3 q => ?_)
  cases z with
  | bl b =>
    unfold RelA at r3
    refine ⟨b, r3, ?_⟩
    cases b with
    | true =>
      refine iteT (tG.bind hg S3 (satE.ext e3 q) fun t A4 ρ4 H4 xt e4 S4 r4 q => ?_)
      refine d2 w ρ4 A4 H4 env σ u t y xt _ S4 ((r2.ext e3).ext e4) r4 (fin_val S4 q fun z2 A5 ρ5 H5 xz2 e5 S5 r5 q => ?_)
      cases z2 with
      | bl b2 =>
        unfold RelA at r5
        refine ⟨b2, r5, ?_⟩
        cases b2 with
        | true =>
          refine iteT (tG.bind hg S5 (satE.ext e5 q) fun t2 A6 ρ6 H6 xt2 e6 S6 r6 q => ?_)
          exact d3 w ρ6 A6 H6 env σ t t2 xt xt2 Q S6 ((r4.ext e5).ext e6) r6 (fin_ok S6 q)
        | false => exact iteF (satE.ext e5 q ρ5 H5 _ Ext.refl S5 (rel_bl _))
      | _ => exact q.elim
    | false => exact iteF (satE.ext e3 q ρ3 H3 _ Ext.refl S3 (rel_bl _))
  | _ => exact q.elim
theorem se_chain3 {op op' op'' : CmpOp} {r r' r'' : R2} {f f' f'' : AV → AV → St → RD} (ho : OpR X (compareOp op) r) (d1 : D2 r f) (ho' : OpR X (compareOp op') r') (d2 : D2 r' f') (ho'' : OpR X (compareOp op'') r'') (d3 : D2 r'' f'') (ha : PE X a (tE g W ca)) (hb : PE X b (tE g W cb)) (hc : PE X c (tE g W cc)) (hd : PE X d (tE g W cd))
    (hm : lastMarks [op, op', op''] [b, c, d] = false := by with_unfolding_all rfl) : PE X (.Compare a [op, op', op''] [b, c, d] pos) (tE g W (cChain3 f f' f'' ca cb cc cd)) := PE.mono (pe_chain3 ho ho' ho'' ha hb hc hd hm) (chain3_ok d1 d2 d3)
theorem st_chain3 {op op' op'' : CmpOp} {r r' r'' : R2} {f f' f'' : AV → AV → St → RD} (ho : OpR X (compareOp op) r) (d1 : D2 r f) (ho' : OpR X (compareOp op') r') (d2 : D2 r' f') (ho'' : OpR X (compareOp op'') r'') (d3 : D2 r'' f'') (ha : PE X a (tE g W ca)) (hb : PE X b (tE g W cb)) (hc : PE X c (tE g W cc)) (hd : PE X d (tE g W cd))
    (hm : lastMarks [op, op', op''] [b, c, d] = false := by with_unfolding_all rfl) : PT X (.Compare a [op, op', op''] [b, c, d] pos) (tT g W (cChain3 f f' f'' ca cb cc cd)) := PT.mono (pt_chain3 ho ho' ho'' ha hb hc hd hm) fun σ H Q q => chain3_ok d1 d2 d3 σ H _ q
end
/-! ## by simp -/
section
variable {A : St} {xs : List AV} {f : Fl} {n : Nat} {o : Option AV} {e : Env} {ca : CE}
@[simp] theorem e_isi2 : cIsi2 ca (o :: e) A = bnd (ca (o :: e) A) fun x A1 => fin false (isi2D x A1) A1 := (rfl)
@[simp] theorem isi2_lst : isi2D (.lst f xs) A = .val (.bl true) := by
  have : kitB "list" "list" = some true := by decide +kernel
  unfold isi2D tyOfA; dsimp only; rw [this]
@[simp] theorem isi2_tup : isi2D (.tup xs) A = .val (.bl true) := by
  have h1 : kitB "tuple" "list" = some false := by decide +kernel
  have h2 : kitB "tuple" "tuple" = some true := by decide +kernel
  unfold isi2D tyOfA; dsimp only; rw [h1]; dsimp only; rw [h2]
@[simp] theorem isi2_int {i : Int} : isi2D (.int i) A = .val (.bl false) := by
  have h1 : kitB "int" "list" = some false := by decide +kernel
  have h2 : kitB "int" "tuple" = some false := by decide +kernel
  unfold isi2D tyOfA; dsimp only; rw [h1]; dsimp only; rw [h2]
@[simp] theorem isi2_bl {i : Bool} : isi2D (.bl i) A = .val (.bl false) := by
  have h1 : kitB "bool" "list" = some false := by decide +kernel
  have h2 : kitB "bool" "tuple" = some false := by decide +kernel
  unfold isi2D tyOfA; dsimp only; rw [h1]; dsimp only; rw [h2]
@[simp] theorem isi2_str {i : PySem.Str} : isi2D (.str i) A = .val (.bl false) := by
  have h1 : kitB "str" "list" = some false := by decide +kernel
  have h2 : kitB "str" "tuple" = some false := by decide +kernel
  unfold isi2D tyOfA; dsimp only; rw [h1]; dsimp only; rw [h2]
@[simp] theorem isi2_non : isi2D .non A = .val (.bl false) := by
  have h1 : kitB "NoneType" "list" = some false := by decide +kernel
  have h2 : kitB "NoneType" "tuple" = some false := by decide +kernel
  unfold isi2D tyOfA; dsimp only; rw [h1]; dsimp only; rw [h2]
@[simp] theorem x_sorted (ns : List Int) : sortedD [.lst f (ns.map AV.int)] A = .lst ((srt ns).map AV.int) := by simp [sortedD, intsOf_map]
@[simp] theorem x_sortedR (ns : List Int) : sortedRD [.lst f (ns.map AV.int)] A = .lst ((srt ns).reverse.map AV.int) := by simp [sortedRD, intsOf_map]
theorem x_lstR1 (h : n ≤ 1000000) : lstR1 (.int (n : Nat)) A = .lst ((List.range n).map fun i => AV.int (i : Nat)) := by
  unfold lstR1
  dsimp only
  rw [if_pos (by unfold RgOk; omega)]
  simp
theorem x_lstR2 {a b : Int} (h1 : -(2 ^ 61) ≤ a) (h2 : a ≤ 2 ^ 61) (h3 : -(2 ^ 61) ≤ b) (h4 : b ≤ 2 ^ 61) (h : (b - a).toNat ≤ 1000000) : lstR2 (.int a) (.int b) A = .lst ((List.range (b - a).toNat).map fun i => AV.int (a + (i : Nat))) := by
  unfold lstR2
  dsimp only
  rw [if_pos (by unfold RgOk; omega)]
variable {c : CE} {tg : CG} {v a b : AV} {cl : List (Option Cell)} {c0 c1 : Option Cell} {lo : Nat} {ys : List AV} {env : Env}
def asgK (r : Option (Env × St)) : RS := match r with
  | some (e1, A1) => .nx e1 A1
  | none => .stuck
@[simp] theorem s_asg : sAsg c tg (o :: e) A = sB (c (o :: e) A) (o :: e) fun v A' => asgK (tg v (o :: e) A') := by
  unfold sAsg asgK
  rfl
@[simp] theorem asgK_some : asgK (some (e, A)) = .nx e A := (rfl)
@[simp] theorem gTp2_tup {i j : Nat} : gTp 2 (gCn (gN i) (gCn (gN j) gNl)) (.tup [a, b]) env A = some ((env.set i (some a)).set j (some b), A) := (rfl)
@[simp] theorem pop_1 : popD (.ref 1) [] ⟨c0 :: some (.lst (ys ++ [v])) :: cl, lo⟩ = .set 1 ys v := by
  unfold popD updD
  dsimp only [cellAt, List.getElem?_cons_zero, List.getElem?_cons_succ]
  rw [List.length_append, List.length_singleton, Nat.add_sub_cancel, List.getElem?_append_right (Nat.le_refl _), Nat.sub_self]
  simp
def rngK3 (vs : List AV) (A : St) : R (List AV) := match vs with
  | [.int i, .int j, .int c] => if c = -1 then (if -(2 ^ 62) ≤ i ∧ i < 2 ^ 62 ∧ -(2 ^ 62) ≤ j ∧ j < 2 ^ 62 then .ok (rngL i (-1) (i - j).toNat) A else .stuck) else
      if c ≠ 0 ∧ c.natAbs < 1073741824 ∧ PySem.Builtin.Range.small i j c = true ∧ 0 ≤ PySem.Builtin.Range.rangeSize i j c then .ok (rngL i c (PySem.Builtin.Range.rangeSize i j c).toNat) A else .stuck
  | _ => .stuck
@[simp] theorem e_rng3 {cs : Env → St → R (List AV)} : iRng3 cs (o :: e) A = bnd (cs (o :: e) A) rngK3 := by
  unfold iRng3
  congr 1
theorem rngK3_down (h : n < 2 ^ 61) : rngK3 [.int (n : Nat), .int (-1), .int (-1)] A = .ok ((List.range (n + 1)).map fun i => AV.int ((n : Int) - (i : Nat))) A := by
  unfold rngK3
  dsimp only
  rw [if_pos rfl, if_pos (by omega)]
  unfold rngL
  have : ((n : Int) - -1).toNat = n + 1 := by omega
  rw [this]
  congr 1
  refine List.map_congr_left fun i _ => ?_
  congr 1
  omega
theorem eqv_ints : ∀ ns : List Int, PyData.eqvAll (ns.map PyData.int) (ns.map PyData.int) = true
  | [] => by rw [List.map_nil]; rfl
  | n :: ns => by rw [List.map_cons, PyData.eqvAll, eqv_ints ns]; simp [PyData.eqv]
theorem eqB_ints (ns : List Int) {g : Fl} : eqB A (.lst f (ns.map AV.int)) (.lst g (ns.map AV.int)) = some true := by
  have h : ∀ f, toD A 40 (.lst f (ns.map AV.int)) = some (.list (ns.map PyData.int)) := fun f => by
    unfold toD
    dsimp only
    rw [mapO_map (toD A 39) AV.int PyData.int (fun x => rfl)]
    rfl
  unfold eqB
  have hs : scA (.lst f (ns.map AV.int)) (.lst g (ns.map AV.int)) = none := rfl
  rw [hs]
  dsimp only
  rw [h f, h g]
  dsimp only
  rw [PyData.eqv, eqv_ints]
@[simp] theorem neL_ints (ns : List Int) {g : Fl} : neD (.lst f (ns.map AV.int)) (.lst g (ns.map AV.int)) A = .val (.bl false) := by
  unfold neD
  rw [eqB_ints]
  rfl
@[simp] theorem eqL_ints (ns : List Int) {g : Fl} : eqD (.lst f (ns.map AV.int)) (.lst g (ns.map AV.int)) A = .val (.bl true) := by
  unfold eqD
  rw [eqB_ints]
theorem eqv_dec : ∀ ns os : List Int, PyData.eqvAll (ns.map PyData.int) (os.map PyData.int) = decide (ns = os)
  | [], [] => rfl
  | [], _ :: _ => rfl
  | _ :: _, [] => rfl
  | n :: ns, o :: os => by
    rw [List.map_cons, List.map_cons, PyData.eqvAll, eqv_dec ns os]
    have : (n == o) = decide (n = o) := rfl
    simp [PyData.eqv, this]
theorem eqd_ints (ns os : List Int) {f g : Fl} {A : St} : eqD (.lst f (ns.map AV.int)) (.lst g (os.map AV.int)) A = .val (.bl (decide (ns = os))) := by
  have h : ∀ (f : Fl) (ns : List Int), toD A 40 (.lst f (ns.map AV.int)) = some (.list (ns.map PyData.int)) := fun f ns => by
    unfold toD
    dsimp only
    rw [mapO_map (toD A 39) AV.int PyData.int (fun x => rfl)]
    rfl
  unfold eqD eqB
  have hs : scA (.lst f (ns.map AV.int)) (.lst g (os.map AV.int)) = none := rfl
  rw [hs]
  dsimp only
  rw [h f, h g]
  dsimp only
  rw [PyData.eqv, eqv_dec]
@[simp] theorem x_count (ns : List Int) {k : Int} : countD (.lst f (ns.map AV.int)) [.int k] A = .val (.int (ns.count k : Nat)) := by simp [countD, intsOf_map]
/-- elements that change the store -/
theorem compL_inv {α : Type} {tgt : CG} {elt : CE} {env0 : Env} {g : α → AV} (I : Nat → St → List AV → Prop) : ∀ (xs : List α) (i : Nat) {A : St} {acc : List AV},
    (∀ j x A acc, xs[j]? = some x → I (i + j) A acc → ∃ e1 A1 v A2, tgt (g x) env0 A = some (e1, A1) ∧ elt e1 A1 = .ok v A2 ∧ I (i + j + 1) A2 (acc ++ [v])) → I i A acc →
    ∃ ys A2, compL tgt (cK (.bl true)) elt env0 (xs.map g) A = .ok ys A2 ∧ I (i + xs.length) A2 (acc ++ ys)
  | [], i, A, acc, _, h => ⟨[], A, rfl, by simpa using h⟩
  | x :: xs, i, A, acc, H, h => by
    obtain ⟨e1, A1, v, A2, h1, h2, h3⟩ := H 0 x A acc rfl h
    obtain ⟨ys, A3, h4, h5⟩ := compL_inv (tgt := tgt) (elt := elt) (env0 := env0) (g := g) I xs (i + 1) (A := A2) (acc := acc ++ [v]) (fun j y A acc hj hI => by
      have := H (j + 1) y A acc (by simpa using hj) (by rw [show i + (j + 1) = i + 1 + j by omega]; exact hI)
      rw [show i + (j + 1) + 1 = i + 1 + j + 1 by omega] at this
      exact this) h3
    refine ⟨v :: ys, A3, ?_, ?_⟩
    · rw [List.map_cons]
      unfold compL
      rw [h1]
      dsimp only
      show (match elt e1 A1 with | .ok y A3 => (match compL tgt (cK (.bl true)) elt env0 (xs.map g) A3 with | .ok ys A4 => R.ok (y :: ys) A4 | _ => .stuck) | _ => .stuck) = _
      rw [h2]
      dsimp only
      rw [h4]
    · rw [List.length_cons, show i + (xs.length + 1) = i + 1 + xs.length by omega]
      simpa using h5
/-- a loop over values as they stand -/
theorem forL_invV {tgt : CG} {body : CS} {dead : List Nat} (I : Nat → Env → St → Prop) (Q : RS → Prop) (xs : List AV) (i : Nat) {env : Env} {A : St}
    (H : ∀ j x e A, xs[j]? = some x → I (i + j) e A → ∃ e1 A1, tgt x e A = some (e1, A1) ∧ Stp (fun e2 A2 => I (i + j + 1) (killL dead e2) A2) (fun e2 A2 => Q (.nx (killL dead e2) A2)) Q (body e1 A1)) (hn : ∀ e A, I (i + xs.length) e A → Q (.nx e A)) (h0 : I i env A) : Q (forL tgt body dead xs env A) := by
  have := forL_inv (fun v : AV => v) I Q xs i (env := env) (A := A) H hn h0
  rwa [List.map_id'] at this
/-- a loop over a list that is written out -/
def lpK (dead : List Nat) (k : CS) (r : RS) : RS := match r with
  | .nx e A => k (killL dead e) A
  | .ct e A => k (killL dead e) A
  | .bk e A => .nx (killL dead e) A
  | r => r
section
variable {dead : List Nat} {k body : CS} {ee : Env} {i : Nat} {vs : List AV} {x : Nat}
@[simp] theorem lpK_nx : lpK dead k (.nx ee A) = k (killL dead ee) A := (rfl)
@[simp] theorem lpK_ct : lpK dead k (.ct ee A) = k (killL dead ee) A := (rfl)
@[simp] theorem lpK_bk : lpK dead k (.bk ee A) = .nx (killL dead ee) A := (rfl)
@[simp] theorem lpK_rt : lpK dead k (.rt v ee A) = .rt v ee A := (rfl)
@[simp] theorem lpK_exc : lpK dead k (.exc x vs ee A) = .exc x vs ee A := (rfl)
theorem forL_c : forL (gN i) body dead (v :: vs) env A = lpK dead (forL (gN i) body dead vs) (body (env.set i (some v)) A) := by
  rw [forL, gN_e]
  unfold lpK
  rfl
theorem forL_n {tgt : CG} : forL tgt body dead [] env A = .nx env A := by rw [forL]
end
/-- while: m falls -/
theorem whileL_inv {t : CE} {body : CS} {dead : List Nat} (I : Nat → Env → St → Prop) (Q : RS → Prop)
    (H : ∀ m e A, I m e A → (∃ A', t e A = .ok (.bl false) A' ∧ Q (.nx (killL dead e) A')) ∨ (∃ A', t e A = .ok (.bl true) A' ∧ Stp (fun e2 A2 => ∃ m', m' < m ∧ I m' (killL dead e2) A2) (fun e2 A2 => Q (.nx (killL dead e2) A2)) Q (body e A'))) :
    ∀ n m e A, m < n → I m e A → Q (whileL t body dead n e A)
  | 0, _, _, _, h, _ => absurd h (Nat.not_lt_zero _)
  | n + 1, m, e, A, h, hI => by
    unfold whileL
    rcases H m e A hI with ⟨A', h1, h2⟩ | ⟨A', h1, h2⟩
    · rw [h1]
      exact h2
    · rw [h1]
      show Q (match body e A' with
        | .nx e2 A2 => whileL t body dead n (killL dead e2) A2
        | .ct e2 A2 => whileL t body dead n (killL dead e2) A2
        | .bk e2 A2 => .nx (killL dead e2) A2
        | r => r)
      cases hb : body e A' with
      | nx e2 A2 =>
        rw [hb] at h2
        obtain ⟨m', h3, h4⟩ := h2
        exact whileL_inv I Q H n m' _ _ (by omega) h4
      | ct e2 A2 =>
        rw [hb] at h2
        obtain ⟨m', h3, h4⟩ := h2
        exact whileL_inv I Q H n m' _ _ (by omega) h4
      | bk e2 A2 => rw [hb] at h2; exact h2
      | rt v e2 A2 => rw [hb] at h2; exact h2
      | exc x vs e2 A2 => rw [hb] at h2; exact h2
      | stuck => rw [hb] at h2; exact h2
@[simp] theorem s_while {t : CE} {body : CS} {dead : List Nat} : sWhile n t body dead (o :: e) A = whileL t body dead n (o :: e) A := (rfl)
@[simp] theorem e_chain2 {f1 f2 : AV → AV → St → RD} {ca cb cc : CE} : cChain f1 f2 ca cb cc (o :: e) A = bnd (ca (o :: e) A) fun x A1 => bnd (cb (o :: e) A1) fun y A2 => andK (fin false (f1 x y A2) A2) (fun env A3 => bnd (cc env A3) fun u A4 => fin false (f2 y u A4) A4) (o :: e) := by
  unfold cChain andK
  rfl
@[simp] theorem e_chain3 {f1 f2 f3 : AV → AV → St → RD} {ca cb cc cd : CE} : cChain3 f1 f2 f3 ca cb cc cd (o :: e) A = bnd (ca (o :: e) A) fun x A1 => bnd (cb (o :: e) A1) fun y A2 => andK (fin false (f1 x y A2) A2) (fun env A3 => bnd (cc env A3) fun u A4 => andK (fin false (f2 y u A4) A4) (fun env A5 => bnd (cd env A5) fun v A6 => fin false (f3 u v A6) A6) env) (o :: e) := by
  unfold cChain3 andK
  rfl
@[simp] theorem conK_tn {l : Bool} : conK true l [] A (.ok .non []) = .ok .non A := by simp [conK, okOut, newBs, thaw, putC]
end
end Sx

namespace K52
open PySem PySem.Spec PyProof.Rows L2 Sx
def top (i : Nat) : Stmt := PySem.Challenge.pw_spelledrows_k52_whole_uneven_moves.main.body.getD i (.Pass ⟨0, 0, 0, 0⟩)
def nmX : Nat → Str
  | 0 => "ShelfError"
  | 1 => "NotAlike"
  | 2 => "BadShape"
  | 3 => "NoSuch"
  | _ => ""
def flX : Nat → List Str
  | 0 => []
  | 1 => ["other", "shape"]
  | 2 => ["at"]
  | 3 => ["k"]
  | _ => []
/-! ## the bodies -/
abbrev sf_is_whole : Stmt := top 6
def bf_is_whole : CS :=
  (sRet (cAnd (cIsi "int" (cVar 0)) (c1 false notD (cIsi "bool" (cVar 0)))))
def f_is_whole : FS := runF 1 1 bf_is_whole
abbrev sf_first_less : Stmt := top 8
def bf_first_less : CS :=
  (sSeq (sFor (iRng2 (cCons (cK (.int 1)) (cCons (c2 false addD (cN false maxD (cCons (cN false lenD (cCons (cVar 0) cNil)) (cCons (cN false lenD (cCons (cVar 1) cNil)) cNil))) (cK (.int 1))) cNil))) (gN 2)
  (sIf (c2 false ltD (cN false sumD (cCons (cSl false (cVar 0) cNoP (cP (cVar 2))) cNil)) (cN false sumD (cCons (cSl false (cVar 1) cNoP (cP (cVar 2))) cNil)))
  (sRet (cVar 2))
  sSkip) [2])
  (sRet (cK .non)))
def f_first_less : FS := runF 2 3 bf_first_less
abbrev sf_moved : Stmt := top 9
def bf_moved : CS :=
  (sSeq (sSet 3 (cN true listD (cCons (cVar 0) cNil)))
  (sSeq (sIf (c2 false eqD (cVar 2) (cN false lenD (cCons (cVar 3) cNil)))
  (sExpr (cM false appendD (cVar 3) (cCons (cK (.int 0)) cNil)))
  sSkip)
  (sSeq (sAugAt subD (cVar 3) (cVar 1) (cK (.int 1)))
  (sSeq (sAugAt addI (cVar 3) (cVar 2) (cK (.int 1)))
  (sSeq (sFz 0) (sRet (cVar 3)))))))
def f_moved : FS := runF 3 4 bf_moved
abbrev sf_next_move : Stmt := top 10
def bf_next_move : CS :=
  (sSeq (sSet 2 (c2 false addD (cN false maxD (cCons (cN false lenD (cCons (cVar 0) cNil)) (cCons (cN false lenD (cCons (cVar 1) cNil)) cNil))) (cK (.int 1))))
  (sSeq (sSet 3 (c2 false addD (cVar 0) (c2 false mulD (cN false lstD (cCons (cK (.int 0)) cNil)) (c2 false subD (cVar 2) (cN false lenD (cCons (cVar 0) cNil))))))
  (sSeq (sSet 4 (c2 false addD (cVar 1) (c2 false mulD (cN false lstD (cCons (cK (.int 0)) cNil)) (c2 false subD (cVar 2) (cN false lenD (cCons (cVar 1) cNil))))))
  (sSeq (sSet 5 (cK (.int 0)))
  (sSeq (sWhile 1000 (c2 false eqD (c2 false ixD (cVar 3) (cVar 5)) (c2 false ixD (cVar 4) (cVar 5)))
  (sAug 5 addI (cK (.int 1))) [])
  (sSeq (sSet 6 (cVar 5))
  (sSeq (sSet 7 (c2 false subD (c2 false ixD (cVar 3) (cVar 5)) (c2 false ixD (cVar 4) (cVar 5))))
  (sSeq (sWhile 1000 (c2 false gtD (cVar 7) (cK (.int 0)))
  (sSeq (sAug 6 addI (cK (.int 1)))
  (sAug 7 addI (c2 false subD (c2 false ixD (cVar 3) (cVar 6)) (c2 false ixD (cVar 4) (cVar 6))))) [])
  (sSeq (sSet 8 (cComp false (iEnm (cCons (cVar 3) cNil)) (gTp 2 (gNs [9, 10])) (c2 false eqD (cVar 10) (c2 false ixD (cVar 3) (cVar 5))) (cVar 9) [9, 10]))
  (sRet (cN false tupD (cCons (c2 false ixD (cVar 8) (c1 false negD (cK (.int 1)))) (cCons (cM false indexD (cVar 3) (cCons (c2 false ixD (cVar 3) (cVar 6)) cNil)) cNil)))))))))))))
def f_next_move : FS := runF 2 11 bf_next_move
abbrev sf_moves_to : Stmt := top 11
def bf_moves_to : CS :=
  (sSeq (sSet 2 (cN true lstD cNil))
  (sSeq (sSet 3 (cN false listD (cCons (cVar 0) cNil)))
  (sSeq (sWhile 1000 (c2 false neD (cVar 3) (cVar 1))
  (sSeq (sAsg (cCall false f_next_move [false, false] (cCons (cVar 3) (cCons (cVar 1) cNil))) (gTp 2 (gCn (gN 4) (gCn (gN 5) gNl))))
  (sSeq (sExpr (cM false appendD (cVar 2) (cCons (cN false tupD (cCons (cVar 4) (cCons (cVar 5) cNil))) cNil)))
  (sSet 3 (cCall false f_moved [false, false, false] (cCons (cVar 3) (cCons (cVar 4) (cCons (cVar 5) cNil))))))) [4, 5])
  (sSeq (sFz 0) (sRet (cVar 2))))))
def f_moves_to : FS := runF 2 6 bf_moves_to
abbrev sf_is_as_uneven : Stmt := top 12
def bf_is_as_uneven : CS :=
  (sSeq (sIf (c2 false neD (cN false sumD (cCons (cVar 0) cNil)) (cN false sumD (cCons (cVar 1) cNil)))
  (sRaise 4 flX 1 (cCons (cN false listD (cCons (cVar 0) cNil)) (cCons (cN false listD (cCons (cVar 1) cNil)) cNil)))
  sSkip)
  (sSeq (sSet 2 (cCall false f_first_less [false, false] (cCons (cVar 0) (cCons (cVar 1) cNil))))
  (sSeq (sIf (c2 false isntD (cVar 2) (cK .non))
  (sRet (cN false tupD (cCons (cK (.str "less")) (cCons (cVar 2) cNil))))
  sSkip)
  (sRet (cN false tupD (cCons (cK (.str "uneven")) (cCons (cCall false f_moves_to [false, false] (cCons (cVar 0) (cCons (cVar 1) cNil))) cNil)))))))
def f_is_as_uneven : FS := runF 2 3 bf_is_as_uneven
abbrev sf_is_move : Stmt := top 13
def bf_is_move : CS :=
  (sSeq (sIf (cOr (c1 false notD (cIsi "tuple" (cVar 0))) (c2 false neD (cN false lenD (cCons (cVar 0) cNil)) (cK (.int 2))))
  (sRet (cK (.bl false)))
  sSkip)
  (sSeq (sAsg (cVar 0) (gTp 2 (gCn (gN 2) (gCn (gN 3) gNl))))
  (sRet (cAnd (cCall false f_is_whole [false] (cCons (cVar 2) cNil)) (cAnd (cCall false f_is_whole [false] (cCons (cVar 3) cNil)) (cChain3 leD ltD leD (cK (.int 0)) (cVar 2) (cVar 3) (cVar 1)))))))
def f_is_move : FS := runF 2 4 bf_is_move
abbrev sf_is_falling : Stmt := top 14
def bf_is_falling : CS :=
  (sSeq (sFor (iEnm (cCons (cVar 0) cNil)) (gTp 2 (gCn (gN 1) (gCn (gN 2) gNl)))
  (sIf (cOr (c2 false ltD (cVar 2) (cK (.int 1))) (cAnd (c2 false gtD (cVar 1) (cK (.int 0))) (c2 false gtD (cVar 2) (c2 false ixD (cVar 0) (c2 false subD (cVar 1) (cK (.int 1)))))))
  (sRet (cK (.bl false)))
  sSkip) [1, 2])
  (sRet (cK (.bl true))))
def f_is_falling : FS := runF 1 3 bf_is_falling
abbrev sf_shows_uneven : Stmt := top 15
def bf_shows_uneven : CS :=
  (sSeq (sIf (c1 false notD (cIsi "list" (cVar 2)))
  (sRet (cK (.bl false)))
  sSkip)
  (sSeq (sSet 3 (cN false listD (cCons (cVar 0) cNil)))
  (sSeq (sFor (iSq (cVar 2)) (gN 4)
  (sSeq (sIf (c1 false notD (cCall false f_is_move [false, false] (cCons (cVar 4) (cCons (cN false lenD (cCons (cVar 3) cNil)) cNil))))
  (sRet (cK (.bl false)))
  sSkip)
  (sSeq (sSet 3 (cCall false f_moved [false, false, false] (cCons (cVar 3) (cCons (c2 false ixD (cVar 4) (cK (.int 0))) (cCons (c2 false ixD (cVar 4) (cK (.int 1))) cNil)))))
  (sIf (c1 false notD (cCall false f_is_falling [false] (cCons (cVar 3) cNil)))
  (sRet (cK (.bl false)))
  sSkip))) [4])
  (sRet (c2 false eqD (cVar 3) (cVar 1))))))
def f_shows_uneven : FS := runF 3 5 bf_shows_uneven
abbrev sf_law_feed : Stmt := top 17
def bf_law_feed : CS :=
  (sRet (cN false lstD (cCons (cN false listSD (cCons (cVar 0) cNil)) (cCons (cK (.int 0)) (cCons (cK (.int 0)) (cCons (cK (.int 1)) cNil))))))
def f_law_feed : FS := runF 1 1 bf_law_feed
abbrev sf_law_draw : Stmt := top 18
def bf_law_draw : CS :=
  (sSeq (sIf (cAnd (c2 false eqD (c2 false ixD (cVar 0) (cK (.int 2))) (cK (.int 0))) (c2 false ltD (c2 false ixD (cVar 0) (cK (.int 1))) (cN false lenD (cCons (c2 false ixD (cVar 0) (cK (.int 0))) cNil))))
  (sSeq (sSet 2 (cN false absD (cCons (cN false intD (cCons (c2 false ixD (c2 false ixD (cVar 0) (cK (.int 0))) (c2 false ixD (cVar 0) (cK (.int 1)))) cNil)) cNil)))
  (sSeq (sAugAt addI (cVar 0) (cK (.int 1)) (cK (.int 1)))
  (sIf (c2 false geD (cVar 2) (c2 false powD (cK (.int 10)) (cK (.int 18))))
  (sSetAt (cVar 2) (cVar 0) (cK (.int 2)))
  (sSetAt (c2 false modD (cN false intD (cCons (c2 false addD (c2 false addD (c2 false mulD (c2 false ixD (cVar 0) (cK (.int 3))) (cK (.int 48271))) (c2 false mulD (cVar 2) (cK (.int 69621)))) (c2 false ixD (cVar 0) (cK (.int 1)))) cNil)) (cK (.int 2147483647))) (cVar 0) (cK (.int 3))))))
  sSkip)
  (sSeq (sIf (c2 false gtD (c2 false ixD (cVar 0) (cK (.int 2))) (cK (.int 0)))
  (sSeq (sSet 3 (c2 false modD (cN false intD (cCons (c2 false ixD (cVar 0) (cK (.int 2))) cNil)) (cVar 1)))
  (sSeq (sSetAt (c2 false fdivD (c2 false ixD (cVar 0) (cK (.int 2))) (cVar 1)) (cVar 0) (cK (.int 2)))
  (sRet (cVar 3))))
  sSkip)
  (sSeq (sSetAt (c2 false modD (cN false intD (cCons (c2 false addD (c2 false mulD (c2 false ixD (cVar 0) (cK (.int 3))) (cK (.int 16807))) (cK (.int 12345))) cNil)) (cK (.int 2147483647))) (cVar 0) (cK (.int 3)))
  (sSeq (sSet 4 (c2 false modD (cN false intD (cCons (c2 false addD (c2 false mulD (c2 false ixD (cVar 0) (cK (.int 3))) (c2 false ixD (cVar 0) (cK (.int 3)))) (c2 false ixD (cVar 0) (cK (.int 3)))) cNil)) (cK (.int 2147483629))))
  (sRet (c2 false modD (c2 false fdivD (cVar 4) (cK (.int 11))) (cVar 1)))))))
def f_law_draw : FS := runF 2 5 bf_law_draw
abbrev sf_law_same : Stmt := top 19
def bf_law_same (rec : FS) : CS :=
  (sSeq (sIf (cIsi "list" (cVar 1))
  (sSeq (sIf (cOr (c1 false notD (cIsi "list" (cVar 0))) (c2 false neD (cN false lenD (cCons (cVar 0) cNil)) (cN false lenD (cCons (cVar 1) cNil))))
  (sRet (cK (.bl false)))
  sSkip)
  (sRet (cN false allD (cCons (cComp false (iRng1 (cCons (cN false lenD (cCons (cVar 1) cNil)) cNil)) (gN 2) (cK (.bl true)) (cCall false rec [false, false] (cCons (c2 false ixD (cVar 0) (cVar 2)) (cCons (c2 false ixD (cVar 1) (cVar 2)) cNil))) [2]) cNil))))
  sSkip)
  (sSeq (sIf (cIsi "tuple" (cVar 1))
  (sSeq (sIf (cOr (c1 false notD (cIsi "tuple" (cVar 0))) (c2 false neD (cN false lenD (cCons (cVar 0) cNil)) (cN false lenD (cCons (cVar 1) cNil))))
  (sRet (cK (.bl false)))
  sSkip)
  (sRet (cN false allD (cCons (cComp false (iRng1 (cCons (cN false lenD (cCons (cVar 1) cNil)) cNil)) (gN 2) (cK (.bl true)) (cCall false rec [false, false] (cCons (c2 false ixD (cVar 0) (cVar 2)) (cCons (c2 false ixD (cVar 1) (cVar 2)) cNil))) [2]) cNil))))
  sSkip)
  (sSeq (sIf (c2 false isD (cVar 1) (cK .non))
  (sRet (c2 false isD (cVar 0) (cK .non)))
  sSkip)
  (sSeq (sIf (cIsi "bool" (cVar 1))
  (sRet (cAnd (cIsi "bool" (cVar 0)) (c2 false eqD (cVar 0) (cVar 1))))
  sSkip)
  (sSeq (sIf (cIsi "str" (cVar 1))
  (sRet (cAnd (cIsi "str" (cVar 0)) (c2 false eqD (cVar 0) (cVar 1))))
  sSkip)
  (sRet (cAnd (cIsi "int" (cVar 0)) (cAnd (c1 false notD (cIsi "bool" (cVar 0))) (c2 false eqD (cVar 0) (cVar 1))))))))))
def f_law_same : Nat → FS
  | 0 => fun _ _ => .stuck
  | k + 1 => runF 2 3 (bf_law_same (f_law_same k))
abbrev sf_law_shape : Stmt := top 20
def bf_law_shape : CS :=
  (sSeq (sSet 2 (cN true lstD cNil))
  (sSeq (sSet 3 (cVar 1))
  (sSeq (sSet 4 (cVar 1))
  (sSeq (sFor (iRng1 (cCons (cVar 1) cNil)) (gN 5)
  (sIf (c2 false gtD (cVar 3) (cK (.int 0)))
  (sSeq (sSet 4 (c2 false addD (cK (.int 1)) (cCall false f_law_draw [true, false] (cCons (cVar 0) (cCons (cN false minD (cCons (cVar 3) (cCons (cVar 4) cNil))) cNil)))))
  (sSeq (sExpr (cM false appendD (cVar 2) (cCons (cVar 4) cNil)))
  (sSet 3 (c2 false subD (cVar 3) (cVar 4)))))
  sSkip) [5])
  (sSeq (sFz 1) (sRet (cVar 2)))))))
def f_law_shape : FS := runF 2 6 bf_law_shape
abbrev sf_law_falls : Stmt := top 21
def bf_law_falls : CS :=
  (sSeq (sFor (iRng1 (cCons (cN false lenD (cCons (cVar 0) cNil)) cNil)) (gN 1)
  (sIf (cOr (c2 false ltD (c2 false ixD (cVar 0) (cVar 1)) (cK (.int 1))) (cAnd (c2 false gtD (cVar 1) (cK (.int 0))) (c2 false gtD (c2 false ixD (cVar 0) (cVar 1)) (c2 false ixD (cVar 0) (c2 false subD (cVar 1) (cK (.int 1)))))))
  (sRet (cK (.bl false)))
  sSkip) [1])
  (sRet (cK (.bl true))))
def f_law_falls : FS := runF 1 2 bf_law_falls
abbrev sf_law_moved : Stmt := top 22
def bf_law_moved : CS :=
  (sSeq (sSet 3 (c2 true addD (cVar 0) (cComp false (iRng1 (cCons (c2 false subD (c2 false addD (cVar 2) (cK (.int 1))) (cN false lenD (cCons (cVar 0) cNil))) cNil)) (gN 4) (cK (.bl true)) (cK (.int 0)) [4])))
  (sSeq (sSetAt (c2 false subD (c2 false ixD (cVar 3) (cVar 1)) (cK (.int 1))) (cVar 3) (cVar 1))
  (sSeq (sSetAt (c2 false addD (c2 false ixD (cVar 3) (cVar 2)) (cK (.int 1))) (cVar 3) (cVar 2))
  (sSeq (sFz 0) (sRet (cVar 3))))))
def f_law_moved : FS := runF 3 5 bf_law_moved
abbrev sf_law_down : Stmt := top 23
def bf_law_down : CS :=
  (sSeq (sSet 3 (cN true lstD cNil))
  (sSeq (sSet 4 (cN false listD (cCons (cVar 1) cNil)))
  (sSeq (sFor (iRng1 (cCons (cVar 2) cNil)) (gN 5)
  (sSeq (sSet 6 (cN false lstD cNil))
  (sSeq (sFor (iRng1 (cCons (cN false lenD (cCons (cVar 4) cNil)) cNil)) (gN 7)
  (sSet 6 (c2 false addD (cVar 6) (cComp false (iRng2 (cCons (c2 false addD (cVar 7) (cK (.int 1))) (cCons (c2 false addD (cN false lenD (cCons (cVar 4) cNil)) (cK (.int 1))) cNil))) (gN 9) (cCall false f_law_falls [false] (cCons (cCall false f_law_moved [false, false, false] (cCons (cVar 4) (cCons (cVar 7) (cCons (cVar 9) cNil)))) cNil)) (cN false tupD (cCons (cVar 7) (cCons (cVar 9) cNil))) [9]))) [7])
  (sIf (c1 false truD (cVar 6))
  (sSeq (sSet 8 (c2 false ixD (cVar 6) (cCall false f_law_draw [true, false] (cCons (cVar 0) (cCons (cN false lenD (cCons (cVar 6) cNil)) cNil)))))
  (sSeq (sExpr (cM false appendD (cVar 3) (cCons (cVar 8) cNil)))
  (sSet 4 (cCall false f_law_moved [false, false, false] (cCons (cVar 4) (cCons (c2 false ixD (cVar 8) (cK (.int 0))) (cCons (c2 false ixD (cVar 8) (cK (.int 1))) cNil)))))))
  sSkip))) [5, 6, 7, 8])
  (sSeq (sFz 1) (sRet (cN false lstD (cCons (cVar 3) (cCons (cVar 4) cNil))))))))
def f_law_down : FS := runF 3 10 bf_law_down
abbrev sf_law_told : Stmt := top 24
def bf_law_told : CS :=
  (sSeq (sSet 2 (cN false listD (cCons (cVar 0) cNil)))
  (sSeq (sSet 3 (cN false listD (cCons (cVar 1) cNil)))
  (sSeq (sSet 4 (cN false tupD (cCons (cK (.str "nothing")) (cCons (cK (.int 0)) cNil))))
  (sSeq (sTry 4 0 5
  (sSet 4 (cN false tupD (cCons (cK (.str "answer")) (cCons (cCall false f_is_as_uneven [false, false] (cCons (cVar 2) (cCons (cVar 3) cNil))) cNil))))
  (sSeq (sSet 4 (cN false tupD (cCons (cK (.str "another")) (cCons (cK (.int 0)) cNil))))
  (sIf (cAnd (cIsX 4 1 (cVar 5)) (cIsV 4 (cVar 5)))
  (sIf (cAnd (c1 false notD (cIsX 4 2 (cVar 5))) (c1 false notD (cIsX 4 3 (cVar 5))))
  (sSet 4 (cN false tupD (cCons (cK (.str "raised")) (cCons (cXf 4 flX "shape" (cVar 5)) (cCons (cXf 4 flX "other" (cVar 5)) cNil)))))
  sSkip)
  sSkip)))
  (sSeq (sIf (cOr (c1 false notD (cCall false (f_law_same 40) [false, false] (cCons (cVar 2) (cCons (cVar 0) cNil)))) (c1 false notD (cCall false (f_law_same 40) [false, false] (cCons (cVar 3) (cCons (cVar 1) cNil)))))
  (sRet (cN false tupD (cCons (cK (.str "changed")) (cCons (cK (.int 0)) cNil))))
  sSkip)
  (sRet (cVar 4)))))))
def f_law_told : FS := runF 2 6 bf_law_told
abbrev sf_law_first_less : Stmt := top 25
def bf_law_first_less : CS :=
  (sSeq (sSet 2 (cK (.int 0)))
  (sSeq (sSet 3 (cK (.int 0)))
  (sSeq (sFor (iRng1 (cCons (cK (.int 14)) cNil)) (gN 4)
  (sSeq (sSet 2 (c2 false addD (cVar 2) (cN false sumD (cCons (cSl false (cVar 0) (cP (cVar 4)) (cP (c2 false addD (cVar 4) (cK (.int 1))))) cNil))))
  (sSeq (sSet 3 (c2 false addD (cVar 3) (cN false sumD (cCons (cSl false (cVar 1) (cP (cVar 4)) (cP (c2 false addD (cVar 4) (cK (.int 1))))) cNil))))
  (sIf (c2 false ltD (cVar 2) (cVar 3))
  (sRet (c2 false addD (cVar 4) (cK (.int 1))))
  sSkip))) [4])
  (sRet (cK .non)))))
def f_law_first_less : FS := runF 2 5 bf_law_first_less
abbrev sf_law_leads : Stmt := top 26
def bf_law_leads : CS :=
  (sSeq (sIf (c1 false notD (cIsi "list" (cVar 2)))
  (sRet (cK (.bl false)))
  sSkip)
  (sSeq (sSet 3 (cN false listD (cCons (cVar 0) cNil)))
  (sSeq (sFor (iSq (cVar 2)) (gN 4)
  (sSeq (sIf (cOr (c1 false notD (cIsi "tuple" (cVar 4))) (c2 false neD (cN false lenD (cCons (cVar 4) cNil)) (cK (.int 2))))
  (sRet (cK (.bl false)))
  sSkip)
  (sSeq (sFor (iSq (cVar 4)) (gN 5)
  (sIf (cOr (c1 false notD (cIsi "int" (cVar 5))) (cIsi "bool" (cVar 5)))
  (sRet (cK (.bl false)))
  sSkip) [5])
  (sSeq (sIf (c1 false notD (cChain3 leD ltD leD (cK (.int 0)) (c2 false ixD (cVar 4) (cK (.int 0))) (c2 false ixD (cVar 4) (cK (.int 1))) (cN false lenD (cCons (cVar 3) cNil))))
  (sRet (cK (.bl false)))
  sSkip)
  (sSeq (sSet 3 (cCall false f_law_moved [false, false, false] (cCons (cVar 3) (cCons (c2 false ixD (cVar 4) (cK (.int 0))) (cCons (c2 false ixD (cVar 4) (cK (.int 1))) cNil)))))
  (sIf (c1 false notD (cCall false f_law_falls [false] (cCons (cVar 3) cNil)))
  (sRet (cK (.bl false)))
  sSkip))))) [4, 5])
  (sRet (c2 false eqD (cVar 3) (cVar 1))))))
def f_law_leads : FS := runF 3 6 bf_law_leads
abbrev sf_law_across : Stmt := top 27
def bf_law_across : CS :=
  (sSeq (sIf (c1 false notD (c1 false truD (cVar 0)))
  (sRet (cN false lstD cNil))
  sSkip)
  (sRet (cComp false (iRng1 (cCons (c2 false ixD (cVar 0) (cK (.int 0))) cNil)) (gN 1) (cK (.bl true)) (cN false lenD (cCons (cComp false (iSq (cVar 0)) (gN 2) (c2 false gtD (cVar 2) (cVar 1)) (cVar 2) [2]) cNil)) [1])))
def f_law_across : FS := runF 1 3 bf_law_across
abbrev sf_law_right : Stmt := top 28
def bf_law_right : CS :=
  (sSeq (sSet 2 (cCall false f_law_told [false, false] (cCons (cVar 0) (cCons (cVar 1) cNil))))
  (sSeq (sSet 3 (cCall false f_law_first_less [false, false] (cCons (cVar 0) (cCons (cVar 1) cNil))))
  (sSeq (sIf (c2 false isntD (cVar 3) (cK .non))
  (sRet (cCall false (f_law_same 40) [false, false] (cCons (cVar 2) (cCons (cN false tupD (cCons (cK (.str "answer")) (cCons (cN false tupD (cCons (cK (.str "less")) (cCons (cVar 3) cNil))) cNil))) cNil))))
  sSkip)
  (sSeq (sIf (cOr (c2 false neD (c2 false ixD (cVar 2) (cK (.int 0))) (cK (.str "answer"))) (cOr (c1 false notD (cIsi "tuple" (c2 false ixD (cVar 2) (cK (.int 1))))) (c2 false neD (cN false lenD (cCons (c2 false ixD (cVar 2) (cK (.int 1))) cNil)) (cK (.int 2)))))
  (sRet (cK (.bl false)))
  sSkip)
  (sSeq (sIf (cOr (c1 false notD (cCall false (f_law_same 40) [false, false] (cCons (c2 false ixD (c2 false ixD (cVar 2) (cK (.int 1))) (cK (.int 0))) (cCons (cK (.str "uneven")) cNil)))) (c1 false notD (cCall false f_law_leads [false, false, false] (cCons (cVar 0) (cCons (cVar 1) (cCons (c2 false ixD (c2 false ixD (cVar 2) (cK (.int 1))) (cK (.int 1))) cNil))))))
  (sRet (cK (.bl false)))
  sSkip)
  (sRet (cCall false (f_law_same 40) [false, false] (cCons (cCall false f_shows_uneven [false, false, false] (cCons (cN false listD (cCons (cVar 0) cNil)) (cCons (cN false listD (cCons (cVar 1) cNil)) (cCons (c2 false ixD (c2 false ixD (cVar 2) (cK (.int 1))) (cK (.int 1))) cNil)))) (cCons (cK (.bl true)) cNil)))))))))
def f_law_right : FS := runF 2 4 bf_law_right
abbrev sf_law_same_across : Stmt := top 29
def bf_law_same_across : CS :=
  (sSeq (sSet 2 (cK (.str "uneven")))
  (sSeq (sIf (c2 false isntD (cCall false f_law_first_less [false, false] (cCons (cVar 0) (cCons (cVar 1) cNil))) (cK .non))
  (sSet 2 (cK (.str "less")))
  sSkip)
  (sSeq (sSet 3 (cCall false f_law_told [false, false] (cCons (cCall false f_law_across [false] (cCons (cVar 1) cNil)) (cCons (cCall false f_law_across [false] (cCons (cVar 0) cNil)) cNil))))
  (sRet (cAnd (c2 false eqD (c2 false ixD (cVar 3) (cK (.int 0))) (cK (.str "answer"))) (cCall false (f_law_same 40) [false, false] (cCons (c2 false ixD (c2 false ixD (cVar 3) (cK (.int 1))) (cK (.int 0))) (cCons (cVar 2) cNil))))))))
def f_law_same_across : FS := runF 2 4 bf_law_same_across
abbrev sf_law : Stmt := top 30
def bf_law : CS :=
  (sSeq (sSet 1 (cCall true f_law_feed [false] (cCons (cVar 0) cNil)))
  (sSeq (sSet 2 (cCall false f_law_draw [true, false] (cCons (cVar 1) (cCons (cK (.int 15)) cNil))))
  (sSeq (sIf (c2 false eqD (cCall false f_law_draw [true, false] (cCons (cVar 1) (cCons (cK (.int 4)) cNil))) (cK (.int 0)))
  (sSet 2 (cK (.int 14)))
  sSkip)
  (sSeq (sSet 3 (cCall false f_law_shape [true, false] (cCons (cVar 1) (cCons (cVar 2) cNil))))
  (sSeq (sSet 4 (cN false lstD (cCons (cVar 3) (cCons (cCall false f_law_shape [true, false] (cCons (cVar 1) (cCons (cVar 2) cNil))) (cCons (c2 false ixD (cCall false f_law_down [true, false, false] (cCons (cVar 1) (cCons (cVar 3) (cCons (cCall false f_law_draw [true, false] (cCons (cVar 1) (cCons (cK (.int 8)) cNil))) cNil)))) (cK (.int 1))) cNil)))))
  (sSeq (sFor (iSq (cVar 4)) (gN 5)
  (sFor (iSq (cVar 4)) (gN 6)
  (sSeq (sIf (cOr (c1 false notD (cCall false f_law_right [false, false] (cCons (cVar 5) (cCons (cVar 6) cNil)))) (c1 false notD (cCall false f_law_right [false, false] (cCons (cCall false f_law_across [false] (cCons (cVar 6) cNil)) (cCons (cCall false f_law_across [false] (cCons (cVar 5) cNil)) cNil)))))
  (sRet (cK (.bl false)))
  sSkip)
  (sIf (c1 false notD (cCall false f_law_same_across [false, false] (cCons (cVar 5) (cCons (cVar 6) cNil))))
  (sRet (cK (.bl false)))
  sSkip)) [6]) [5, 6])
  (sSeq (sSet 7 (cCall false f_law_shape [true, false] (cCons (cVar 1) (cCons (c2 false modD (cN false intD (cCons (c2 false addD (c2 false addD (cVar 2) (cK (.int 1))) (cCall false f_law_draw [true, false] (cCons (cVar 1) (cCons (cK (.int 14)) cNil)))) cNil)) (cK (.int 15))) cNil))))
  (sSeq (sFz 0) (sSeq (sFor (iSq (cVar 4)) (gN 5)
  (sSeq (sIf (c1 false notD (cCall false (f_law_same 40) [false, false] (cCons (cCall false f_law_told [false, false] (cCons (cVar 5) (cCons (cVar 7) cNil))) (cCons (cN false tupD (cCons (cK (.str "raised")) (cCons (cVar 5) (cCons (cVar 7) cNil)))) cNil))))
  (sRet (cK (.bl false)))
  sSkip)
  (sSeq (sIf (c1 false notD (cCall false (f_law_same 40) [false, false] (cCons (cCall false f_law_told [false, false] (cCons (cVar 7) (cCons (cVar 5) cNil))) (cCons (cN false tupD (cCons (cK (.str "raised")) (cCons (cVar 7) (cCons (cVar 5) cNil)))) cNil))))
  (sRet (cK (.bl false)))
  sSkip)
  (sIf (c1 false notD (cCall false (f_law_same 40) [false, false] (cCons (cCall false f_shows_uneven [false, false, false] (cCons (cN false listD (cCons (cVar 5) cNil)) (cCons (cN false listD (cCons (cVar 7) cNil)) (cCons (cN false lstD cNil) cNil)))) (cCons (cK (.bl false)) cNil))))
  (sRet (cK (.bl false)))
  sSkip))) [5])
  (sRet (cK (.bl true))))))))))))
def f_law : FS := runF 1 8 bf_law
end K52

namespace K52
open PySem PySem.Spec PyProof.Rows L2 Sx
/-! ## the derivations -/
def blts : List Str := ["ValueError", "abs", "all", "bool", "enumerate", "int", "isinstance", "len", "list", "max", "min", "range", "str", "sum", "tuple"]
section
variable {P : Program} {w : World} {K : PySem.W.Frag} {mg : Str → Option Value} {base : Heap} {g : Gb}
theorem scf_is_whole : FnScope ["value"] ["value"] (defScope sf_is_whole) := ⟨rfl, rfl, rfl, by decide +kernel, rfl, by decide +kernel, by decide +kernel⟩
theorem okf_is_whole (hz : ∀ x ∈ blts, mg x = none) {f : Addr} {fd : FuncData} (F : Fun K "is_whole" "is_whole" sf_is_whole f fd) (hm : mg "is_whole" = some (.ref f)) : Def P w K mg base g "is_whole" 1 ["value"] f_is_whole :=
  fn_def (k := 0) F hm scf_is_whole (bind_e F (ps := ["value"]) fun _ _ _ _ _ _ us hl => match us, hl with | [_], _ => rfl) rfl rfl fun cdv A outer s H E hr tk hp => have nd := scf_is_whole.nd; (
  (sss_one (ss_ret (se_and (se_isi rfl (hz "isinstance" (by decide)) bt_isinstance (q_v 0) rfl (hz "int" (by decide)) boot_int) (se_one (se_not (se_isi rfl (hz "isinstance" (by decide)) bt_isinstance (q_v 0) rfl (hz "bool" (by decide)) boot_bool)))))))
theorem scf_first_less : FnScope ["shape", "other", "k"] ["shape", "other"] (defScope sf_first_less) := ⟨rfl, rfl, rfl, by decide +kernel, rfl, by decide +kernel, by decide +kernel⟩
theorem okf_first_less (hz : ∀ x ∈ blts, mg x = none) {f : Addr} {fd : FuncData} (F : Fun K "first_less" "first_less" sf_first_less f fd) (hm : mg "first_less" = some (.ref f)) : Def P w K mg base g "first_less" 1 ["shape", "other"] f_first_less :=
  fn_def (k := 0) F hm scf_first_less (bind_e F (ps := ["shape", "other"]) fun _ _ _ _ _ _ us hl => match us, hl with | [_, _], _ => rfl) rfl rfl fun cdv A outer s H E hr tk hp => have nd := scf_first_less.nd; (
  (sss_cons (ss_for [2] hp rfl (si_rng2 rfl (hz "range" (by decide)) (sa_cons se_int (sa_cons (q_add false (q_max false (hz "max" (by decide)) rfl (sa_cons (q_len false (hz "len" (by decide)) (sa_cons (q_v 0) sa_nil)) (sa_cons (q_len false (hz "len" (by decide)) (sa_cons (q_v 1) sa_nil)) sa_nil))) se_int) sa_nil))) (q_gn 2 nd)
  (sss_one (ss_if (t_lt (q_sum false (hz "sum" (by decide)) rfl (sa_cons (se_slice false (q_v 0) so_none (so_some (q_v 2))) sa_nil)) (q_sum false (hz "sum" (by decide)) rfl (sa_cons (se_slice false (q_v 1) so_none (so_some (q_v 2))) sa_nil)))
  (sss_one (ss_ret (q_v 2)))
  sss_nil)))
  (sss_one (ss_ret se_non))))
theorem scf_moved : FnScope ["shape", "i", "j", "numbers"] ["shape", "i", "j"] (defScope sf_moved) := ⟨rfl, rfl, rfl, by decide +kernel, rfl, by decide +kernel, by decide +kernel⟩
theorem okf_moved (hz : ∀ x ∈ blts, mg x = none) {f : Addr} {fd : FuncData} (F : Fun K "moved" "moved" sf_moved f fd) (hm : mg "moved" = some (.ref f)) : Def P w K mg base g "moved" 1 ["shape", "i", "j"] f_moved :=
  fn_def (k := 0) F hm scf_moved (bind_e F (ps := ["shape", "i", "j"]) fun _ _ _ _ _ _ us hl => match us, hl with | [_, _, _], _ => rfl) rfl rfl fun cdv A outer s H E hr tk hp => have nd := scf_moved.nd; (
  (sss_cons (q_set 3 nd (q_list true (hz "list" (by decide)) (sa_cons (q_v 0) sa_nil)))
  (sss_cons (ss_if (t_eq hr (q_v 2) (q_len false (hz "len" (by decide)) (sa_cons (q_v 3) sa_nil)))
  (sss_one (ss_expr (q_append (q_v 3) (sa_cons se_int sa_nil))))
  sss_nil)
  (sss_cons (q_augAtSub (q_v 3) (q_v 1) se_int)
  (sss_cons (q_augAtAdd (q_v 3) (q_v 2) se_int)
  (sss_fz 0 (sss_one (ss_ret (q_v 3)))))))))
theorem scf_next_move : FnScope ["shape", "other", "size", "mine", "theirs", "first", "last", "ahead", "equal", "at", "number"] ["shape", "other"] (defScope sf_next_move) := ⟨rfl, rfl, rfl, by decide +kernel, rfl, by decide +kernel, by decide +kernel⟩
theorem okf_next_move (hz : ∀ x ∈ blts, mg x = none) {f : Addr} {fd : FuncData} (F : Fun K "next_move" "next_move" sf_next_move f fd) (hm : mg "next_move" = some (.ref f)) : Def P w K mg base g "next_move" 1 ["shape", "other"] f_next_move :=
  fn_def (k := 0) F hm scf_next_move (bind_e F (ps := ["shape", "other"]) fun _ _ _ _ _ _ us hl => match us, hl with | [_, _], _ => rfl) rfl rfl fun cdv A outer s H E hr tk hp => have nd := scf_next_move.nd; (
  (sss_cons (q_set 2 nd (q_add false (q_max false (hz "max" (by decide)) rfl (sa_cons (q_len false (hz "len" (by decide)) (sa_cons (q_v 0) sa_nil)) (sa_cons (q_len false (hz "len" (by decide)) (sa_cons (q_v 1) sa_nil)) sa_nil))) se_int))
  (sss_cons (q_set 3 nd (q_add false (q_v 0) (q_mul false (se_lst false (sa_cons se_int sa_nil)) (q_sub (q_v 2) (q_len false (hz "len" (by decide)) (sa_cons (q_v 0) sa_nil))))))
  (sss_cons (q_set 4 nd (q_add false (q_v 1) (q_mul false (se_lst false (sa_cons se_int sa_nil)) (q_sub (q_v 2) (q_len false (hz "len" (by decide)) (sa_cons (q_v 1) sa_nil))))))
  (sss_cons (q_set 5 nd se_int)
  (sss_cons (ss_while 1000 [] hp (t_eq hr (q_ix (q_v 3) (q_v 5)) (q_ix (q_v 4) (q_v 5)))
  (sss_one (q_augAdd 5 nd se_int)))
  (sss_cons (q_set 6 nd (q_v 5))
  (sss_cons (q_set 7 nd (q_sub (q_ix (q_v 3) (q_v 5)) (q_ix (q_v 4) (q_v 5))))
  (sss_cons (ss_while 1000 [] hp (t_gt (q_v 7) se_int)
  (sss_cons (q_augAdd 6 nd se_int)
  (sss_one (q_augAdd 7 nd (q_sub (q_ix (q_v 3) (q_v 6)) (q_ix (q_v 4) (q_v 6)))))))
  (sss_cons (ss_setLc false (i := 8) (own := [9, 10]) (ownN := [("at", 9), ("number", 10)]) rfl rfl nd rfl rfl (sw_true rfl rfl rfl (by decide +kernel)) (si_enum rfl (hz "enumerate" (by decide)) (sa_cons (q_v 3) sa_nil)) (blkOk_by (own := [("at", 9), ("number", 10)]) (by kernel_rfl)) gr_tup (own_tup (is := [9, 10]) (by decide)) (fun _ _ _ _ _ => pg_tup (t := tgs [9, 10]) (n := 2) rfl (pgs_cons (pg_name (i := 9) nd rfl (by first | exact .inl rfl | exact .inr rfl)) (pgs_cons (pg_name (i := 10) nd rfl (by first | exact .inl rfl | exact .inr rfl)) pgs_nil))) (fun _ _ _ _ _ => pts_one (t_eq hr (q_v 10) (q_ix (q_v 3) (q_v 5)))) (fun _ _ _ q => q) (fun _ _ _ _ _ => (q_v 9)))
  (sss_one (ss_ret (se_tup (sa_cons (q_ix (q_v 8) (q_neg se_int)) (sa_cons (q_index (q_v 3) (sa_cons (q_ix (q_v 3) (q_v 6)) sa_nil)) sa_nil)))))))))))))))
theorem scf_moves_to : FnScope ["shape", "other", "moves", "now", "i", "j"] ["shape", "other"] (defScope sf_moves_to) := ⟨rfl, rfl, rfl, by decide +kernel, rfl, by decide +kernel, by decide +kernel⟩
theorem okf_moves_to (hz : ∀ x ∈ blts, mg x = none) (D_f_moved : Def P w K mg base g "moved" 1 ["shape", "i", "j"] f_moved) (D_f_next_move : Def P w K mg base g "next_move" 1 ["shape", "other"] f_next_move) {f : Addr} {fd : FuncData} (F : Fun K "moves_to" "moves_to" sf_moves_to f fd) (hm : mg "moves_to" = some (.ref f)) : Def P w K mg base g "moves_to" 2 ["shape", "other"] f_moves_to :=
  fn_def (k := 1) F hm scf_moves_to (bind_e F (ps := ["shape", "other"]) fun _ _ _ _ _ _ us hl => match us, hl with | [_, _], _ => rfl) rfl rfl fun cdv A outer s H E hr tk hp => have nd := scf_moves_to.nd; (
  (sss_cons (q_set 2 nd (se_lst true sa_nil))
  (sss_cons (q_set 3 nd (q_list false (hz "list" (by decide)) (sa_cons (q_v 0) sa_nil)))
  (sss_cons (ss_while 1000 [4, 5] hp (t_ne hr (q_v 3) (q_v 1))
  (sss_cons (ss_asg (se_def false [false, false] D_f_next_move tk hr (by omega) rfl (sa_cons (q_v 3) (sa_cons (q_v 1) sa_nil))) (sg_tup rfl (sgs_cons (q_gn 4 nd) (sgs_cons (q_gn 5 nd) sgs_nil))))
  (sss_cons (ss_expr (q_append (q_v 2) (sa_cons (se_tup (sa_cons (q_v 4) (sa_cons (q_v 5) sa_nil))) sa_nil)))
  (sss_one (q_set 3 nd (se_def false [false, false, false] D_f_moved tk hr (by omega) rfl (sa_cons (q_v 3) (sa_cons (q_v 4) (sa_cons (q_v 5) sa_nil)))))))))
  (sss_fz 0 (sss_one (ss_ret (q_v 2))))))))
theorem scf_is_as_uneven : FnScope ["shape", "other", "k"] ["shape", "other"] (defScope sf_is_as_uneven) := ⟨rfl, rfl, rfl, by decide +kernel, rfl, by decide +kernel, by decide +kernel⟩
theorem okf_is_as_uneven (hz : ∀ x ∈ blts, mg x = none) (D_f_first_less : Def P w K mg base g "first_less" 1 ["shape", "other"] f_first_less) (D_f_moves_to : Def P w K mg base g "moves_to" 2 ["shape", "other"] f_moves_to) (Y : XcOk K mg g 4 nmX flX) (h0 : g.cur = none) (I_NotAlike : IniOk P w K mg base (g.cls 1) (flX 1)) {f : Addr} {fd : FuncData} (F : Fun K "is_as_uneven" "is_as_uneven" sf_is_as_uneven f fd) (hm : mg "is_as_uneven" = some (.ref f)) : Def P w K mg base g "is_as_uneven" 3 ["shape", "other"] f_is_as_uneven :=
  fn_def (k := 2) F hm scf_is_as_uneven (bind_e F (ps := ["shape", "other"]) fun _ _ _ _ _ _ us hl => match us, hl with | [_, _], _ => rfl) rfl rfl fun cdv A outer s H E hr tk hp => have nd := scf_is_as_uneven.nd; (
  (sss_cons (ss_if (t_ne hr (q_sum false (hz "sum" (by decide)) rfl (sa_cons (q_v 0) sa_nil)) (q_sum false (hz "sum" (by decide)) rfl (sa_cons (q_v 1) sa_nil)))
  (sss_one (ss_raise (c := 1) Y (by decide) rfl I_NotAlike tk hr (by omega) (sa_cons (q_list false (hz "list" (by decide)) (sa_cons (q_v 0) sa_nil)) (sa_cons (q_list false (hz "list" (by decide)) (sa_cons (q_v 1) sa_nil)) sa_nil))))
  sss_nil)
  (sss_cons (q_set 2 nd (se_def false [false, false] D_f_first_less tk hr (by omega) rfl (sa_cons (q_v 0) (sa_cons (q_v 1) sa_nil))))
  (sss_cons (ss_if (t_isnt (q_v 2) se_non)
  (sss_one (ss_ret (se_tup (sa_cons se_str (sa_cons (q_v 2) sa_nil)))))
  sss_nil)
  (sss_one (ss_ret (se_tup (sa_cons se_str (sa_cons (se_def false [false, false] D_f_moves_to tk hr (by omega) rfl (sa_cons (q_v 0) (sa_cons (q_v 1) sa_nil))) sa_nil)))))))))
theorem scf_is_move : FnScope ["move", "many", "i", "j"] ["move", "many"] (defScope sf_is_move) := ⟨rfl, rfl, rfl, by decide +kernel, rfl, by decide +kernel, by decide +kernel⟩
theorem okf_is_move (hz : ∀ x ∈ blts, mg x = none) (D_f_is_whole : Def P w K mg base g "is_whole" 1 ["value"] f_is_whole) {f : Addr} {fd : FuncData} (F : Fun K "is_move" "is_move" sf_is_move f fd) (hm : mg "is_move" = some (.ref f)) : Def P w K mg base g "is_move" 2 ["move", "many"] f_is_move :=
  fn_def (k := 1) F hm scf_is_move (bind_e F (ps := ["move", "many"]) fun _ _ _ _ _ _ us hl => match us, hl with | [_, _], _ => rfl) rfl rfl fun cdv A outer s H E hr tk hp => have nd := scf_is_move.nd; (
  (sss_cons (ss_if (t_bool (sw_or (st_not (st_val (se_isi rfl (hz "isinstance" (by decide)) bt_isinstance (q_v 0) rfl (hz "tuple" (by decide)) boot_tuple))) (sw_or1 (t_ne hr (q_len false (hz "len" (by decide)) (sa_cons (q_v 0) sa_nil)) se_int))))
  (sss_one (ss_ret se_bl))
  sss_nil)
  (sss_cons (ss_asg (q_v 0) (sg_tup rfl (sgs_cons (q_gn 2 nd) (sgs_cons (q_gn 3 nd) sgs_nil))))
  (sss_one (ss_ret (se_and (se_def false [false] D_f_is_whole tk hr (by omega) rfl (sa_cons (q_v 2) sa_nil)) (se_and (se_def false [false] D_f_is_whole tk hr (by omega) rfl (sa_cons (q_v 3) sa_nil)) (se_one (se_chain3 op_le leD_ok op_lt ltD_ok op_le leD_ok se_int (q_v 2) (q_v 3) (q_v 1))))))))))
theorem scf_is_falling : FnScope ["numbers", "at", "number"] ["numbers"] (defScope sf_is_falling) := ⟨rfl, rfl, rfl, by decide +kernel, rfl, by decide +kernel, by decide +kernel⟩
theorem okf_is_falling (hz : ∀ x ∈ blts, mg x = none) {f : Addr} {fd : FuncData} (F : Fun K "is_falling" "is_falling" sf_is_falling f fd) (hm : mg "is_falling" = some (.ref f)) : Def P w K mg base g "is_falling" 1 ["numbers"] f_is_falling :=
  fn_def (k := 0) F hm scf_is_falling (bind_e F (ps := ["numbers"]) fun _ _ _ _ _ _ us hl => match us, hl with | [_], _ => rfl) rfl rfl fun cdv A outer s H E hr tk hp => have nd := scf_is_falling.nd; (
  (sss_cons (ss_for [1, 2] hp rfl (si_enum rfl (hz "enumerate" (by decide)) (sa_cons (q_v 0) sa_nil)) (sg_tup rfl (sgs_cons (q_gn 1 nd) (sgs_cons (q_gn 2 nd) sgs_nil)))
  (sss_one (ss_if (t_bool (sw_or (t_lt (q_v 2) se_int) (sw_or1 (t_bool (sw_and (t_gt (q_v 1) se_int) (sw_and1 (t_gt (q_v 2) (q_ix (q_v 0) (q_sub (q_v 1) se_int)))))))))
  (sss_one (ss_ret se_bl))
  sss_nil)))
  (sss_one (ss_ret se_bl))))
theorem scf_shows_uneven : FnScope ["shape", "other", "moves", "now", "move"] ["shape", "other", "moves"] (defScope sf_shows_uneven) := ⟨rfl, rfl, rfl, by decide +kernel, rfl, by decide +kernel, by decide +kernel⟩
theorem okf_shows_uneven (hz : ∀ x ∈ blts, mg x = none) (D_f_moved : Def P w K mg base g "moved" 1 ["shape", "i", "j"] f_moved) (D_f_is_move : Def P w K mg base g "is_move" 2 ["move", "many"] f_is_move) (D_f_is_falling : Def P w K mg base g "is_falling" 1 ["numbers"] f_is_falling) {f : Addr} {fd : FuncData} (F : Fun K "shows_uneven" "shows_uneven" sf_shows_uneven f fd) (hm : mg "shows_uneven" = some (.ref f)) : Def P w K mg base g "shows_uneven" 3 ["shape", "other", "moves"] f_shows_uneven :=
  fn_def (k := 2) F hm scf_shows_uneven (bind_e F (ps := ["shape", "other", "moves"]) fun _ _ _ _ _ _ us hl => match us, hl with | [_, _, _], _ => rfl) rfl rfl fun cdv A outer s H E hr tk hp => have nd := scf_shows_uneven.nd; (
  (sss_cons (ss_if (st_not (st_val (se_isi rfl (hz "isinstance" (by decide)) bt_isinstance (q_v 2) rfl (hz "list" (by decide)) boot_list)))
  (sss_one (ss_ret se_bl))
  sss_nil)
  (sss_cons (q_set 3 nd (q_list false (hz "list" (by decide)) (sa_cons (q_v 0) sa_nil)))
  (sss_cons (ss_for [4] hp rfl (si_sq (q_v 2)) (q_gn 4 nd)
  (sss_cons (ss_if (st_not (st_val (se_def false [false, false] D_f_is_move tk hr (by omega) rfl (sa_cons (q_v 4) (sa_cons (q_len false (hz "len" (by decide)) (sa_cons (q_v 3) sa_nil)) sa_nil)))))
  (sss_one (ss_ret se_bl))
  sss_nil)
  (sss_cons (q_set 3 nd (se_def false [false, false, false] D_f_moved tk hr (by omega) rfl (sa_cons (q_v 3) (sa_cons (q_ix (q_v 4) se_int) (sa_cons (q_ix (q_v 4) se_int) sa_nil)))))
  (sss_one (ss_if (st_not (st_val (se_def false [false] D_f_is_falling tk hr (by omega) rfl (sa_cons (q_v 3) sa_nil))))
  (sss_one (ss_ret se_bl))
  sss_nil)))))
  (sss_one (ss_ret (q_eq hr (q_v 3) (q_v 1))))))))
theorem scf_law_feed : FnScope ["script"] ["script"] (defScope sf_law_feed) := ⟨rfl, rfl, rfl, by decide +kernel, rfl, by decide +kernel, by decide +kernel⟩
theorem okf_law_feed (hz : ∀ x ∈ blts, mg x = none) (hgk : g.kk = K) {f : Addr} {fd : FuncData} (F : Fun K "_law_feed" "_law_feed" sf_law_feed f fd) (hm : mg "_law_feed" = some (.ref f)) : Def P w K mg base g "_law_feed" 1 ["script"] f_law_feed :=
  fn_def (k := 0) F hm scf_law_feed (bind_e F (ps := ["script"]) fun _ _ _ _ _ _ us hl => match us, hl with | [_], _ => rfl) rfl rfl fun cdv A outer s H E hr tk hp => have nd := scf_law_feed.nd; (
  (sss_one (ss_ret (se_lst false (sa_cons (q_listS false hgk (hz "list" (by decide)) (sa_cons (q_v 0) sa_nil)) (sa_cons se_int (sa_cons se_int (sa_cons se_int sa_nil))))))))
theorem scf_law_draw : FnScope ["feed", "many", "cell", "told", "mixed"] ["feed", "many"] (defScope sf_law_draw) := ⟨rfl, rfl, rfl, by decide +kernel, rfl, by decide +kernel, by decide +kernel⟩
theorem okf_law_draw (hz : ∀ x ∈ blts, mg x = none) {f : Addr} {fd : FuncData} (F : Fun K "_law_draw" "_law_draw" sf_law_draw f fd) (hm : mg "_law_draw" = some (.ref f)) : Def P w K mg base g "_law_draw" 1 ["feed", "many"] f_law_draw :=
  fn_def (k := 0) F hm scf_law_draw (bind_e F (ps := ["feed", "many"]) fun _ _ _ _ _ _ us hl => match us, hl with | [_, _], _ => rfl) rfl rfl fun cdv A outer s H E hr tk hp => have nd := scf_law_draw.nd; (
  (sss_cons (ss_if (t_bool (sw_and (t_eq hr (q_ix (q_v 0) se_int) se_int) (sw_and1 (t_lt (q_ix (q_v 0) se_int) (q_len false (hz "len" (by decide)) (sa_cons (q_ix (q_v 0) se_int) sa_nil))))))
  (sss_cons (q_set 2 nd (q_abs false (hz "abs" (by decide)) (sa_cons (q_int false (hz "int" (by decide)) (sa_cons (q_ix (q_ix (q_v 0) se_int) (q_ix (q_v 0) se_int)) sa_nil)) sa_nil)))
  (sss_cons (q_augAtAdd (q_v 0) se_int se_int)
  (sss_one (ss_if (t_ge (q_v 2) (q_pow se_int se_int))
  (sss_one (q_setAt (q_v 2) (q_v 0) se_int))
  (sss_one (q_setAt (q_mod (q_int false (hz "int" (by decide)) (sa_cons (q_add false (q_add false (q_mul false (q_ix (q_v 0) se_int) se_int) (q_mul false (q_v 2) se_int)) (q_ix (q_v 0) se_int)) sa_nil)) se_int) (q_v 0) se_int))))))
  sss_nil)
  (sss_cons (ss_if (t_gt (q_ix (q_v 0) se_int) se_int)
  (sss_cons (q_set 3 nd (q_mod (q_int false (hz "int" (by decide)) (sa_cons (q_ix (q_v 0) se_int) sa_nil)) (q_v 1)))
  (sss_cons (q_setAt (q_fdiv (q_ix (q_v 0) se_int) (q_v 1)) (q_v 0) se_int)
  (sss_one (ss_ret (q_v 3)))))
  sss_nil)
  (sss_cons (q_setAt (q_mod (q_int false (hz "int" (by decide)) (sa_cons (q_add false (q_mul false (q_ix (q_v 0) se_int) se_int) se_int) sa_nil)) se_int) (q_v 0) se_int)
  (sss_cons (q_set 4 nd (q_mod (q_int false (hz "int" (by decide)) (sa_cons (q_add false (q_mul false (q_ix (q_v 0) se_int) (q_ix (q_v 0) se_int)) (q_ix (q_v 0) se_int)) sa_nil)) se_int))
  (sss_one (ss_ret (q_mod (q_fdiv (q_v 4) se_int) (q_v 1)))))))))
theorem scf_law_same : FnScope ["actual", "due", "k"] ["actual", "due"] (defScope sf_law_same) := ⟨rfl, rfl, rfl, by decide +kernel, rfl, by decide +kernel, by decide +kernel⟩
theorem okf_law_same (hz : ∀ x ∈ blts, mg x = none) {f : Addr} {fd : FuncData} (F : Fun K "_law_same" "_law_same" sf_law_same f fd) (hm : mg "_law_same" = some (.ref f)) : ∀ k : Nat, Def P w K mg base g "_law_same" (0 + k) ["actual", "due"] (f_law_same k)
  | 0 => def_stuck F hm scf_law_same (bind_e F (ps := ["actual", "due"]) fun _ _ _ _ _ _ us hl => match us, hl with | [_, _], _ => rfl)
  | k + 1 => by
    have D_f_law_same := okf_law_same hz F hm k
    exact fn_def (k := 0 + k) F hm scf_law_same (bind_e F (ps := ["actual", "due"]) fun _ _ _ _ _ _ us hl => match us, hl with | [_, _], _ => rfl) rfl rfl fun cdv A outer s H E hr tk hp => have nd := scf_law_same.nd; (
  (sss_cons (ss_if (st_val (se_isi rfl (hz "isinstance" (by decide)) bt_isinstance (q_v 1) rfl (hz "list" (by decide)) boot_list))
  (sss_cons (ss_if (t_bool (sw_or (st_not (st_val (se_isi rfl (hz "isinstance" (by decide)) bt_isinstance (q_v 0) rfl (hz "list" (by decide)) boot_list))) (sw_or1 (t_ne hr (q_len false (hz "len" (by decide)) (sa_cons (q_v 0) sa_nil)) (q_len false (hz "len" (by decide)) (sa_cons (q_v 1) sa_nil))))))
  (sss_one (ss_ret se_bl))
  sss_nil)
  (sss_one (ss_ret (q_all false (hz "all" (by decide)) rfl (sa_cons (se_lc false (own := [2]) (ownN := [("k", 2)]) rfl rfl nd (si_rng1 rfl (hz "range" (by decide)) (sa_cons (q_len false (hz "len" (by decide)) (sa_cons (q_v 1) sa_nil)) sa_nil)) (blkOk_by (own := [("k", 2)]) (by kernel_rfl)) gr_name (own_name (by decide)) (fun _ _ _ _ _ => pg_name (i := 2) nd rfl (by first | exact .inl rfl | exact .inr rfl)) (fun _ _ _ _ _ => (se_def false [false, false] D_f_law_same takes0 hr (by omega) rfl (sa_cons (q_ix (q_v 0) (q_v 2)) (sa_cons (q_ix (q_v 1) (q_v 2)) sa_nil))))) sa_nil)))))
  sss_nil)
  (sss_cons (ss_if (st_val (se_isi rfl (hz "isinstance" (by decide)) bt_isinstance (q_v 1) rfl (hz "tuple" (by decide)) boot_tuple))
  (sss_cons (ss_if (t_bool (sw_or (st_not (st_val (se_isi rfl (hz "isinstance" (by decide)) bt_isinstance (q_v 0) rfl (hz "tuple" (by decide)) boot_tuple))) (sw_or1 (t_ne hr (q_len false (hz "len" (by decide)) (sa_cons (q_v 0) sa_nil)) (q_len false (hz "len" (by decide)) (sa_cons (q_v 1) sa_nil))))))
  (sss_one (ss_ret se_bl))
  sss_nil)
  (sss_one (ss_ret (q_all false (hz "all" (by decide)) rfl (sa_cons (se_lc false (own := [2]) (ownN := [("k", 2)]) rfl rfl nd (si_rng1 rfl (hz "range" (by decide)) (sa_cons (q_len false (hz "len" (by decide)) (sa_cons (q_v 1) sa_nil)) sa_nil)) (blkOk_by (own := [("k", 2)]) (by kernel_rfl)) gr_name (own_name (by decide)) (fun _ _ _ _ _ => pg_name (i := 2) nd rfl (by first | exact .inl rfl | exact .inr rfl)) (fun _ _ _ _ _ => (se_def false [false, false] D_f_law_same takes0 hr (by omega) rfl (sa_cons (q_ix (q_v 0) (q_v 2)) (sa_cons (q_ix (q_v 1) (q_v 2)) sa_nil))))) sa_nil)))))
  sss_nil)
  (sss_cons (ss_if (t_is (q_v 1) se_non)
  (sss_one (ss_ret (q_is (q_v 0) se_non)))
  sss_nil)
  (sss_cons (ss_if (st_val (se_isi rfl (hz "isinstance" (by decide)) bt_isinstance (q_v 1) rfl (hz "bool" (by decide)) boot_bool))
  (sss_one (ss_ret (se_and (se_isi rfl (hz "isinstance" (by decide)) bt_isinstance (q_v 0) rfl (hz "bool" (by decide)) boot_bool) (se_one (q_eq hr (q_v 0) (q_v 1))))))
  sss_nil)
  (sss_cons (ss_if (st_val (se_isi rfl (hz "isinstance" (by decide)) bt_isinstance (q_v 1) rfl (hz "str" (by decide)) boot_str))
  (sss_one (ss_ret (se_and (se_isi rfl (hz "isinstance" (by decide)) bt_isinstance (q_v 0) rfl (hz "str" (by decide)) boot_str) (se_one (q_eq hr (q_v 0) (q_v 1))))))
  sss_nil)
  (sss_one (ss_ret (se_and (se_isi rfl (hz "isinstance" (by decide)) bt_isinstance (q_v 0) rfl (hz "int" (by decide)) boot_int) (se_and (se_not (se_isi rfl (hz "isinstance" (by decide)) bt_isinstance (q_v 0) rfl (hz "bool" (by decide)) boot_bool)) (se_one (q_eq hr (q_v 0) (q_v 1)))))))))))))
theorem scf_law_shape : FnScope ["feed", "n", "shape", "left", "most", "k"] ["feed", "n"] (defScope sf_law_shape) := ⟨rfl, rfl, rfl, by decide +kernel, rfl, by decide +kernel, by decide +kernel⟩
theorem okf_law_shape (hz : ∀ x ∈ blts, mg x = none) (D_f_law_draw : Def P w K mg base g "_law_draw" 1 ["feed", "many"] f_law_draw) {f : Addr} {fd : FuncData} (F : Fun K "_law_shape" "_law_shape" sf_law_shape f fd) (hm : mg "_law_shape" = some (.ref f)) : Def P w K mg base g "_law_shape" 2 ["feed", "n"] f_law_shape :=
  fn_def (k := 1) F hm scf_law_shape (bind_e F (ps := ["feed", "n"]) fun _ _ _ _ _ _ us hl => match us, hl with | [_, _], _ => rfl) rfl rfl fun cdv A outer s H E hr tk hp => have nd := scf_law_shape.nd; (
  (sss_cons (q_set 2 nd (se_lst true sa_nil))
  (sss_cons (q_set 3 nd (q_v 1))
  (sss_cons (q_set 4 nd (q_v 1))
  (sss_cons (ss_for [5] hp rfl (si_rng1 rfl (hz "range" (by decide)) (sa_cons (q_v 1) sa_nil)) (q_gn 5 nd)
  (sss_one (ss_if (t_gt (q_v 3) se_int)
  (sss_cons (q_set 4 nd (q_add false se_int (se_def false [true, false] D_f_law_draw tk hr (by omega) rfl (sa_cons (q_v 0) (sa_cons (q_min false (hz "min" (by decide)) rfl (sa_cons (q_v 3) (sa_cons (q_v 4) sa_nil))) sa_nil)))))
  (sss_cons (ss_expr (q_append (q_v 2) (sa_cons (q_v 4) sa_nil)))
  (sss_one (q_set 3 nd (q_sub (q_v 3) (q_v 4))))))
  sss_nil)))
  (sss_fz 1 (sss_one (ss_ret (q_v 2)))))))))
theorem scf_law_falls : FnScope ["numbers", "at"] ["numbers"] (defScope sf_law_falls) := ⟨rfl, rfl, rfl, by decide +kernel, rfl, by decide +kernel, by decide +kernel⟩
theorem okf_law_falls (hz : ∀ x ∈ blts, mg x = none) {f : Addr} {fd : FuncData} (F : Fun K "_law_falls" "_law_falls" sf_law_falls f fd) (hm : mg "_law_falls" = some (.ref f)) : Def P w K mg base g "_law_falls" 1 ["numbers"] f_law_falls :=
  fn_def (k := 0) F hm scf_law_falls (bind_e F (ps := ["numbers"]) fun _ _ _ _ _ _ us hl => match us, hl with | [_], _ => rfl) rfl rfl fun cdv A outer s H E hr tk hp => have nd := scf_law_falls.nd; (
  (sss_cons (ss_for [1] hp rfl (si_rng1 rfl (hz "range" (by decide)) (sa_cons (q_len false (hz "len" (by decide)) (sa_cons (q_v 0) sa_nil)) sa_nil)) (q_gn 1 nd)
  (sss_one (ss_if (t_bool (sw_or (t_lt (q_ix (q_v 0) (q_v 1)) se_int) (sw_or1 (t_bool (sw_and (t_gt (q_v 1) se_int) (sw_and1 (t_gt (q_ix (q_v 0) (q_v 1)) (q_ix (q_v 0) (q_sub (q_v 1) se_int)))))))))
  (sss_one (ss_ret se_bl))
  sss_nil)))
  (sss_one (ss_ret se_bl))))
theorem scf_law_moved : FnScope ["shape", "i", "j", "numbers", "k"] ["shape", "i", "j"] (defScope sf_law_moved) := ⟨rfl, rfl, rfl, by decide +kernel, rfl, by decide +kernel, by decide +kernel⟩
theorem okf_law_moved (hz : ∀ x ∈ blts, mg x = none) {f : Addr} {fd : FuncData} (F : Fun K "_law_moved" "_law_moved" sf_law_moved f fd) (hm : mg "_law_moved" = some (.ref f)) : Def P w K mg base g "_law_moved" 1 ["shape", "i", "j"] f_law_moved :=
  fn_def (k := 0) F hm scf_law_moved (bind_e F (ps := ["shape", "i", "j"]) fun _ _ _ _ _ _ us hl => match us, hl with | [_, _, _], _ => rfl) rfl rfl fun cdv A outer s H E hr tk hp => have nd := scf_law_moved.nd; (
  (sss_cons (q_set 3 nd (q_add true (q_v 0) (se_lc false (own := [4]) (ownN := [("k", 4)]) rfl rfl nd (si_rng1 rfl (hz "range" (by decide)) (sa_cons (q_sub (q_add false (q_v 2) se_int) (q_len false (hz "len" (by decide)) (sa_cons (q_v 0) sa_nil))) sa_nil)) (blkOk_by (own := [("k", 4)]) (by kernel_rfl)) gr_name (own_name (by decide)) (fun _ _ _ _ _ => pg_name (i := 4) nd rfl (by first | exact .inl rfl | exact .inr rfl)) (fun _ _ _ _ _ => se_int))))
  (sss_cons (q_setAt (q_sub (q_ix (q_v 3) (q_v 1)) se_int) (q_v 3) (q_v 1))
  (sss_cons (q_setAt (q_add false (q_ix (q_v 3) (q_v 2)) se_int) (q_v 3) (q_v 2))
  (sss_fz 0 (sss_one (ss_ret (q_v 3))))))))
theorem scf_law_down : FnScope ["feed", "shape", "many", "moves", "now", "k", "ways", "i", "move", "j"] ["feed", "shape", "many"] (defScope sf_law_down) := ⟨rfl, rfl, rfl, by decide +kernel, rfl, by decide +kernel, by decide +kernel⟩
theorem okf_law_down (hz : ∀ x ∈ blts, mg x = none) (D_f_law_draw : Def P w K mg base g "_law_draw" 1 ["feed", "many"] f_law_draw) (D_f_law_falls : Def P w K mg base g "_law_falls" 1 ["numbers"] f_law_falls) (D_f_law_moved : Def P w K mg base g "_law_moved" 1 ["shape", "i", "j"] f_law_moved) {f : Addr} {fd : FuncData} (F : Fun K "_law_down" "_law_down" sf_law_down f fd) (hm : mg "_law_down" = some (.ref f)) : Def P w K mg base g "_law_down" 2 ["feed", "shape", "many"] f_law_down :=
  fn_def (k := 1) F hm scf_law_down (bind_e F (ps := ["feed", "shape", "many"]) fun _ _ _ _ _ _ us hl => match us, hl with | [_, _, _], _ => rfl) rfl rfl fun cdv A outer s H E hr tk hp => have nd := scf_law_down.nd; (
  (sss_cons (q_set 3 nd (se_lst true sa_nil))
  (sss_cons (q_set 4 nd (q_list false (hz "list" (by decide)) (sa_cons (q_v 1) sa_nil)))
  (sss_cons (ss_for [5, 6, 7, 8] hp rfl (si_rng1 rfl (hz "range" (by decide)) (sa_cons (q_v 2) sa_nil)) (q_gn 5 nd)
  (sss_cons (q_set 6 nd (se_lst false sa_nil))
  (sss_cons (ss_for [7] hp rfl (si_rng1 rfl (hz "range" (by decide)) (sa_cons (q_len false (hz "len" (by decide)) (sa_cons (q_v 4) sa_nil)) sa_nil)) (q_gn 7 nd)
  (sss_one (q_set 6 nd (q_add false (q_v 6) (se_lcIf false (own := [9]) (ownN := [("j", 9)]) rfl rfl nd (si_rng2 rfl (hz "range" (by decide)) (sa_cons (q_add false (q_v 7) se_int) (sa_cons (q_add false (q_len false (hz "len" (by decide)) (sa_cons (q_v 4) sa_nil)) se_int) sa_nil))) (blkOk_by (own := [("j", 9)]) (by kernel_rfl)) gr_name (own_name (by decide)) (fun _ _ _ _ _ => pg_name (i := 9) nd rfl (by first | exact .inl rfl | exact .inr rfl)) (fun _ _ _ _ _ => (st_val (se_def false [false] D_f_law_falls takes0 hr (by omega) rfl (sa_cons (se_def false [false, false, false] D_f_law_moved takes0 hr (by omega) rfl (sa_cons (q_v 4) (sa_cons (q_v 7) (sa_cons (q_v 9) sa_nil)))) sa_nil)))) (fun _ _ _ _ _ => (se_tup (sa_cons (q_v 7) (sa_cons (q_v 9) sa_nil)))))))))
  (sss_one (ss_if (st_truth (q_v 6) (by intro _; rfl))
  (sss_cons (q_set 8 nd (q_ix (q_v 6) (se_def false [true, false] D_f_law_draw tk hr (by omega) rfl (sa_cons (q_v 0) (sa_cons (q_len false (hz "len" (by decide)) (sa_cons (q_v 6) sa_nil)) sa_nil)))))
  (sss_cons (ss_expr (q_append (q_v 3) (sa_cons (q_v 8) sa_nil)))
  (sss_one (q_set 4 nd (se_def false [false, false, false] D_f_law_moved tk hr (by omega) rfl (sa_cons (q_v 4) (sa_cons (q_ix (q_v 8) se_int) (sa_cons (q_ix (q_v 8) se_int) sa_nil))))))))
  sss_nil)))))
  (sss_fz 1 (sss_one (ss_ret (se_lst false (sa_cons (q_v 3) (sa_cons (q_v 4) sa_nil))))))))))
theorem scf_law_told : FnScope ["shape", "other", "one", "two", "told", "e"] ["shape", "other"] (defScope sf_law_told) := ⟨rfl, rfl, rfl, by decide +kernel, rfl, by decide +kernel, by decide +kernel⟩
theorem okf_law_told (hz : ∀ x ∈ blts, mg x = none) (D_f_is_as_uneven : Def P w K mg base g "is_as_uneven" 3 ["shape", "other"] f_is_as_uneven) (D_f_law_same : Def P w K mg base g "_law_same" 40 ["actual", "due"] (f_law_same 40)) (Y : XcOk K mg g 4 nmX flX) (h0 : g.cur = none) {f : Addr} {fd : FuncData} (F : Fun K "_law_told" "_law_told" sf_law_told f fd) (hm : mg "_law_told" = some (.ref f)) : Def P w K mg base g "_law_told" 41 ["shape", "other"] f_law_told :=
  fn_def (k := 40) F hm scf_law_told (bind_e F (ps := ["shape", "other"]) fun _ _ _ _ _ _ us hl => match us, hl with | [_, _], _ => rfl) rfl rfl fun cdv A outer s H E hr tk hp => have nd := scf_law_told.nd; (
  (sss_cons (q_set 2 nd (q_list false (hz "list" (by decide)) (sa_cons (q_v 0) sa_nil)))
  (sss_cons (q_set 3 nd (q_list false (hz "list" (by decide)) (sa_cons (q_v 1) sa_nil)))
  (sss_cons (q_set 4 nd (se_tup (sa_cons se_str (sa_cons se_int sa_nil))))
  (sss_cons (ss_try (d := 0) (i := 5) Y h0 (by decide) tk nd (hb := fun _ _ _ tk hp => 
  (sss_one (q_set 4 nd (se_tup (sa_cons se_str (sa_cons (se_def false [false, false] D_f_is_as_uneven tk hr (by omega) rfl (sa_cons (q_v 2) (sa_cons (q_v 3) sa_nil))) sa_nil)))))) (hsu := fun _ _ _ _ _ hzc hfd => 
  (sss_cons (q_set 4 nd (se_tup (sa_cons se_str (sa_cons se_int sa_nil))))
  (sss_one (ss_if (t_bool (sw_and (st_val (q_isX (d := 1) Y (by decide) hzc hfd (hz "isinstance" (by decide)) (q_v 5))) (sw_and1 (st_val (q_isV Y hzc hfd (hz "isinstance" (by decide)) (hz "ValueError" (by decide)) (q_v 5))))))
  (sss_one (ss_if (t_bool (sw_and (st_not (st_val (q_isX (d := 2) Y (by decide) hzc hfd (hz "isinstance" (by decide)) (q_v 5)))) (sw_and1 (st_not (st_val (q_isX (d := 3) Y (by decide) hzc hfd (hz "isinstance" (by decide)) (q_v 5)))))))
  (sss_one (q_set 4 nd (se_tup (sa_cons se_str (sa_cons (q_xf "shape" Y hzc hfd (q_v 5)) (sa_cons (q_xf "other" Y hzc hfd (q_v 5)) sa_nil))))))
  sss_nil))
  sss_nil)))))
  (sss_cons (ss_if (t_bool (sw_or (st_not (st_val (se_def false [false, false] D_f_law_same tk hr (by omega) rfl (sa_cons (q_v 2) (sa_cons (q_v 0) sa_nil))))) (sw_or1 (st_not (st_val (se_def false [false, false] D_f_law_same tk hr (by omega) rfl (sa_cons (q_v 3) (sa_cons (q_v 1) sa_nil))))))))
  (sss_one (ss_ret (se_tup (sa_cons se_str (sa_cons se_int sa_nil)))))
  sss_nil)
  (sss_one (ss_ret (q_v 4)))))))))
theorem scf_law_first_less : FnScope ["shape", "other", "mine", "theirs", "k"] ["shape", "other"] (defScope sf_law_first_less) := ⟨rfl, rfl, rfl, by decide +kernel, rfl, by decide +kernel, by decide +kernel⟩
theorem okf_law_first_less (hz : ∀ x ∈ blts, mg x = none) {f : Addr} {fd : FuncData} (F : Fun K "_law_first_less" "_law_first_less" sf_law_first_less f fd) (hm : mg "_law_first_less" = some (.ref f)) : Def P w K mg base g "_law_first_less" 1 ["shape", "other"] f_law_first_less :=
  fn_def (k := 0) F hm scf_law_first_less (bind_e F (ps := ["shape", "other"]) fun _ _ _ _ _ _ us hl => match us, hl with | [_, _], _ => rfl) rfl rfl fun cdv A outer s H E hr tk hp => have nd := scf_law_first_less.nd; (
  (sss_cons (q_set 2 nd se_int)
  (sss_cons (q_set 3 nd se_int)
  (sss_cons (ss_for [4] hp rfl (si_rng1 rfl (hz "range" (by decide)) (sa_cons se_int sa_nil)) (q_gn 4 nd)
  (sss_cons (q_set 2 nd (q_add false (q_v 2) (q_sum false (hz "sum" (by decide)) rfl (sa_cons (se_slice false (q_v 0) (so_some (q_v 4)) (so_some (q_add false (q_v 4) se_int))) sa_nil))))
  (sss_cons (q_set 3 nd (q_add false (q_v 3) (q_sum false (hz "sum" (by decide)) rfl (sa_cons (se_slice false (q_v 1) (so_some (q_v 4)) (so_some (q_add false (q_v 4) se_int))) sa_nil))))
  (sss_one (ss_if (t_lt (q_v 2) (q_v 3))
  (sss_one (ss_ret (q_add false (q_v 4) se_int)))
  sss_nil)))))
  (sss_one (ss_ret se_non))))))
theorem scf_law_leads : FnScope ["shape", "other", "moves", "now", "move", "one"] ["shape", "other", "moves"] (defScope sf_law_leads) := ⟨rfl, rfl, rfl, by decide +kernel, rfl, by decide +kernel, by decide +kernel⟩
theorem okf_law_leads (hz : ∀ x ∈ blts, mg x = none) (D_f_law_falls : Def P w K mg base g "_law_falls" 1 ["numbers"] f_law_falls) (D_f_law_moved : Def P w K mg base g "_law_moved" 1 ["shape", "i", "j"] f_law_moved) {f : Addr} {fd : FuncData} (F : Fun K "_law_leads" "_law_leads" sf_law_leads f fd) (hm : mg "_law_leads" = some (.ref f)) : Def P w K mg base g "_law_leads" 2 ["shape", "other", "moves"] f_law_leads :=
  fn_def (k := 1) F hm scf_law_leads (bind_e F (ps := ["shape", "other", "moves"]) fun _ _ _ _ _ _ us hl => match us, hl with | [_, _, _], _ => rfl) rfl rfl fun cdv A outer s H E hr tk hp => have nd := scf_law_leads.nd; (
  (sss_cons (ss_if (st_not (st_val (se_isi rfl (hz "isinstance" (by decide)) bt_isinstance (q_v 2) rfl (hz "list" (by decide)) boot_list)))
  (sss_one (ss_ret se_bl))
  sss_nil)
  (sss_cons (q_set 3 nd (q_list false (hz "list" (by decide)) (sa_cons (q_v 0) sa_nil)))
  (sss_cons (ss_for [4, 5] hp rfl (si_sq (q_v 2)) (q_gn 4 nd)
  (sss_cons (ss_if (t_bool (sw_or (st_not (st_val (se_isi rfl (hz "isinstance" (by decide)) bt_isinstance (q_v 4) rfl (hz "tuple" (by decide)) boot_tuple))) (sw_or1 (t_ne hr (q_len false (hz "len" (by decide)) (sa_cons (q_v 4) sa_nil)) se_int))))
  (sss_one (ss_ret se_bl))
  sss_nil)
  (sss_cons (ss_for [5] hp rfl (si_sq (q_v 4)) (q_gn 5 nd)
  (sss_one (ss_if (t_bool (sw_or (st_not (st_val (se_isi rfl (hz "isinstance" (by decide)) bt_isinstance (q_v 5) rfl (hz "int" (by decide)) boot_int))) (sw_or1 (st_val (se_isi rfl (hz "isinstance" (by decide)) bt_isinstance (q_v 5) rfl (hz "bool" (by decide)) boot_bool)))))
  (sss_one (ss_ret se_bl))
  sss_nil)))
  (sss_cons (ss_if (st_not (st_chain3 op_le leD_ok op_lt ltD_ok op_le leD_ok se_int (q_ix (q_v 4) se_int) (q_ix (q_v 4) se_int) (q_len false (hz "len" (by decide)) (sa_cons (q_v 3) sa_nil))))
  (sss_one (ss_ret se_bl))
  sss_nil)
  (sss_cons (q_set 3 nd (se_def false [false, false, false] D_f_law_moved tk hr (by omega) rfl (sa_cons (q_v 3) (sa_cons (q_ix (q_v 4) se_int) (sa_cons (q_ix (q_v 4) se_int) sa_nil)))))
  (sss_one (ss_if (st_not (st_val (se_def false [false] D_f_law_falls tk hr (by omega) rfl (sa_cons (q_v 3) sa_nil))))
  (sss_one (ss_ret se_bl))
  sss_nil)))))))
  (sss_one (ss_ret (q_eq hr (q_v 3) (q_v 1))))))))
theorem scf_law_across : FnScope ["shape", "column", "number"] ["shape"] (defScope sf_law_across) := ⟨rfl, rfl, rfl, by decide +kernel, rfl, by decide +kernel, by decide +kernel⟩
theorem okf_law_across (hz : ∀ x ∈ blts, mg x = none) {f : Addr} {fd : FuncData} (F : Fun K "_law_across" "_law_across" sf_law_across f fd) (hm : mg "_law_across" = some (.ref f)) : Def P w K mg base g "_law_across" 1 ["shape"] f_law_across :=
  fn_def (k := 0) F hm scf_law_across (bind_e F (ps := ["shape"]) fun _ _ _ _ _ _ us hl => match us, hl with | [_], _ => rfl) rfl rfl fun cdv A outer s H E hr tk hp => have nd := scf_law_across.nd; (
  (sss_cons (ss_if (st_not (st_truth (q_v 0) (by intro _; rfl)))
  (sss_one (ss_ret (se_lst false sa_nil)))
  sss_nil)
  (sss_one (ss_ret (se_lc false (own := [1]) (ownN := [("column", 1)]) rfl rfl nd (si_rng1 rfl (hz "range" (by decide)) (sa_cons (q_ix (q_v 0) se_int) sa_nil)) (blkOk_by (own := [("column", 1)]) (by kernel_rfl)) gr_name (own_name (by decide)) (fun _ _ _ _ _ => pg_name (i := 1) nd rfl (by first | exact .inl rfl | exact .inr rfl)) (fun _ _ _ _ _ => (q_len false (hz "len" (by decide)) (sa_cons (se_lcIf false (own := [2]) (ownN := [("number", 2)]) rfl rfl nd (si_sq (q_v 0)) (blkOk_by (own := [("number", 2)]) (by kernel_rfl)) gr_name (own_name (by decide)) (fun _ _ _ _ _ => pg_name (i := 2) nd rfl (by first | exact .inl rfl | exact .inr rfl)) (fun _ _ _ _ _ => (t_gt (q_v 2) (q_v 1))) (fun _ _ _ _ _ => (q_v 2))) sa_nil))))))))
theorem scf_law_right : FnScope ["shape", "other", "told", "k"] ["shape", "other"] (defScope sf_law_right) := ⟨rfl, rfl, rfl, by decide +kernel, rfl, by decide +kernel, by decide +kernel⟩
theorem okf_law_right (hz : ∀ x ∈ blts, mg x = none) (D_f_shows_uneven : Def P w K mg base g "shows_uneven" 3 ["shape", "other", "moves"] f_shows_uneven) (D_f_law_same : Def P w K mg base g "_law_same" 40 ["actual", "due"] (f_law_same 40)) (D_f_law_told : Def P w K mg base g "_law_told" 41 ["shape", "other"] f_law_told) (D_f_law_first_less : Def P w K mg base g "_law_first_less" 1 ["shape", "other"] f_law_first_less) (D_f_law_leads : Def P w K mg base g "_law_leads" 2 ["shape", "other", "moves"] f_law_leads) {f : Addr} {fd : FuncData} (F : Fun K "_law_right" "_law_right" sf_law_right f fd) (hm : mg "_law_right" = some (.ref f)) : Def P w K mg base g "_law_right" 42 ["shape", "other"] f_law_right :=
  fn_def (k := 41) F hm scf_law_right (bind_e F (ps := ["shape", "other"]) fun _ _ _ _ _ _ us hl => match us, hl with | [_, _], _ => rfl) rfl rfl fun cdv A outer s H E hr tk hp => have nd := scf_law_right.nd; (
  (sss_cons (q_set 2 nd (se_def false [false, false] D_f_law_told tk hr (by omega) rfl (sa_cons (q_v 0) (sa_cons (q_v 1) sa_nil))))
  (sss_cons (q_set 3 nd (se_def false [false, false] D_f_law_first_less tk hr (by omega) rfl (sa_cons (q_v 0) (sa_cons (q_v 1) sa_nil))))
  (sss_cons (ss_if (t_isnt (q_v 3) se_non)
  (sss_one (ss_ret (se_def false [false, false] D_f_law_same tk hr (by omega) rfl (sa_cons (q_v 2) (sa_cons (se_tup (sa_cons se_str (sa_cons (se_tup (sa_cons se_str (sa_cons (q_v 3) sa_nil))) sa_nil))) sa_nil)))))
  sss_nil)
  (sss_cons (ss_if (t_bool (sw_or (t_ne hr (q_ix (q_v 2) se_int) se_str) (sw_or (st_not (st_val (se_isi rfl (hz "isinstance" (by decide)) bt_isinstance (q_ix (q_v 2) se_int) rfl (hz "tuple" (by decide)) boot_tuple))) (sw_or1 (t_ne hr (q_len false (hz "len" (by decide)) (sa_cons (q_ix (q_v 2) se_int) sa_nil)) se_int)))))
  (sss_one (ss_ret se_bl))
  sss_nil)
  (sss_cons (ss_if (t_bool (sw_or (st_not (st_val (se_def false [false, false] D_f_law_same tk hr (by omega) rfl (sa_cons (q_ix (q_ix (q_v 2) se_int) se_int) (sa_cons se_str sa_nil))))) (sw_or1 (st_not (st_val (se_def false [false, false, false] D_f_law_leads tk hr (by omega) rfl (sa_cons (q_v 0) (sa_cons (q_v 1) (sa_cons (q_ix (q_ix (q_v 2) se_int) se_int) sa_nil)))))))))
  (sss_one (ss_ret se_bl))
  sss_nil)
  (sss_one (ss_ret (se_def false [false, false] D_f_law_same tk hr (by omega) rfl (sa_cons (se_def false [false, false, false] D_f_shows_uneven tk hr (by omega) rfl (sa_cons (q_list false (hz "list" (by decide)) (sa_cons (q_v 0) sa_nil)) (sa_cons (q_list false (hz "list" (by decide)) (sa_cons (q_v 1) sa_nil)) (sa_cons (q_ix (q_ix (q_v 2) se_int) se_int) sa_nil)))) (sa_cons se_bl sa_nil)))))))))))
theorem scf_law_same_across : FnScope ["shape", "other", "word", "told"] ["shape", "other"] (defScope sf_law_same_across) := ⟨rfl, rfl, rfl, by decide +kernel, rfl, by decide +kernel, by decide +kernel⟩
theorem okf_law_same_across (hz : ∀ x ∈ blts, mg x = none) (D_f_law_same : Def P w K mg base g "_law_same" 40 ["actual", "due"] (f_law_same 40)) (D_f_law_told : Def P w K mg base g "_law_told" 41 ["shape", "other"] f_law_told) (D_f_law_first_less : Def P w K mg base g "_law_first_less" 1 ["shape", "other"] f_law_first_less) (D_f_law_across : Def P w K mg base g "_law_across" 1 ["shape"] f_law_across) {f : Addr} {fd : FuncData} (F : Fun K "_law_same_across" "_law_same_across" sf_law_same_across f fd) (hm : mg "_law_same_across" = some (.ref f)) : Def P w K mg base g "_law_same_across" 42 ["shape", "other"] f_law_same_across :=
  fn_def (k := 41) F hm scf_law_same_across (bind_e F (ps := ["shape", "other"]) fun _ _ _ _ _ _ us hl => match us, hl with | [_, _], _ => rfl) rfl rfl fun cdv A outer s H E hr tk hp => have nd := scf_law_same_across.nd; (
  (sss_cons (q_set 2 nd se_str)
  (sss_cons (ss_if (t_isnt (se_def false [false, false] D_f_law_first_less tk hr (by omega) rfl (sa_cons (q_v 0) (sa_cons (q_v 1) sa_nil))) se_non)
  (sss_one (q_set 2 nd se_str))
  sss_nil)
  (sss_cons (q_set 3 nd (se_def false [false, false] D_f_law_told tk hr (by omega) rfl (sa_cons (se_def false [false] D_f_law_across tk hr (by omega) rfl (sa_cons (q_v 1) sa_nil)) (sa_cons (se_def false [false] D_f_law_across tk hr (by omega) rfl (sa_cons (q_v 0) sa_nil)) sa_nil))))
  (sss_one (ss_ret (se_and (q_eq hr (q_ix (q_v 3) se_int) se_str) (se_one (se_def false [false, false] D_f_law_same tk hr (by omega) rfl (sa_cons (q_ix (q_ix (q_v 3) se_int) se_int) (sa_cons (q_v 2) sa_nil)))))))))))
theorem scf_law : FnScope ["script", "feed", "n", "shape", "shapes", "one", "two", "strange"] ["script"] (defScope sf_law) := ⟨rfl, rfl, rfl, by decide +kernel, rfl, by decide +kernel, by decide +kernel⟩
theorem okf_law (hz : ∀ x ∈ blts, mg x = none) (D_f_shows_uneven : Def P w K mg base g "shows_uneven" 3 ["shape", "other", "moves"] f_shows_uneven) (D_f_law_feed : Def P w K mg base g "_law_feed" 1 ["script"] f_law_feed) (D_f_law_draw : Def P w K mg base g "_law_draw" 1 ["feed", "many"] f_law_draw) (D_f_law_same : Def P w K mg base g "_law_same" 40 ["actual", "due"] (f_law_same 40)) (D_f_law_shape : Def P w K mg base g "_law_shape" 2 ["feed", "n"] f_law_shape) (D_f_law_down : Def P w K mg base g "_law_down" 2 ["feed", "shape", "many"] f_law_down) (D_f_law_told : Def P w K mg base g "_law_told" 41 ["shape", "other"] f_law_told) (D_f_law_across : Def P w K mg base g "_law_across" 1 ["shape"] f_law_across) (D_f_law_right : Def P w K mg base g "_law_right" 42 ["shape", "other"] f_law_right) (D_f_law_same_across : Def P w K mg base g "_law_same_across" 42 ["shape", "other"] f_law_same_across) (hgk : g.kk = K) {f : Addr} {fd : FuncData} (F : Fun K "law" "law" sf_law f fd) : FnOk P w K mg base (L2.CX P w) 43 f fd ["script"] (spLawA f_law K) :=
  law_ok (k := 42) F scf_law rfl rfl hgk fun cdv A outer s H E hr tk hp => have nd := scf_law.nd; (
  (sss_cons (q_set 1 nd (se_def true [false] D_f_law_feed tk hr (by omega) rfl (sa_cons (q_v 0) sa_nil)))
  (sss_cons (q_set 2 nd (se_def false [true, false] D_f_law_draw tk hr (by omega) rfl (sa_cons (q_v 1) (sa_cons se_int sa_nil))))
  (sss_cons (ss_if (t_eq hr (se_def false [true, false] D_f_law_draw tk hr (by omega) rfl (sa_cons (q_v 1) (sa_cons se_int sa_nil))) se_int)
  (sss_one (q_set 2 nd se_int))
  sss_nil)
  (sss_cons (q_set 3 nd (se_def false [true, false] D_f_law_shape tk hr (by omega) rfl (sa_cons (q_v 1) (sa_cons (q_v 2) sa_nil))))
  (sss_cons (q_set 4 nd (se_lst false (sa_cons (q_v 3) (sa_cons (se_def false [true, false] D_f_law_shape tk hr (by omega) rfl (sa_cons (q_v 1) (sa_cons (q_v 2) sa_nil))) (sa_cons (q_ix (se_def false [true, false, false] D_f_law_down tk hr (by omega) rfl (sa_cons (q_v 1) (sa_cons (q_v 3) (sa_cons (se_def false [true, false] D_f_law_draw tk hr (by omega) rfl (sa_cons (q_v 1) (sa_cons se_int sa_nil))) sa_nil)))) se_int) sa_nil)))))
  (sss_cons (ss_for [5, 6] hp rfl (si_sq (q_v 4)) (q_gn 5 nd)
  (sss_one (ss_for [6] hp rfl (si_sq (q_v 4)) (q_gn 6 nd)
  (sss_cons (ss_if (t_bool (sw_or (st_not (st_val (se_def false [false, false] D_f_law_right tk hr (by omega) rfl (sa_cons (q_v 5) (sa_cons (q_v 6) sa_nil))))) (sw_or1 (st_not (st_val (se_def false [false, false] D_f_law_right tk hr (by omega) rfl (sa_cons (se_def false [false] D_f_law_across tk hr (by omega) rfl (sa_cons (q_v 6) sa_nil)) (sa_cons (se_def false [false] D_f_law_across tk hr (by omega) rfl (sa_cons (q_v 5) sa_nil)) sa_nil))))))))
  (sss_one (ss_ret se_bl))
  sss_nil)
  (sss_one (ss_if (st_not (st_val (se_def false [false, false] D_f_law_same_across tk hr (by omega) rfl (sa_cons (q_v 5) (sa_cons (q_v 6) sa_nil)))))
  (sss_one (ss_ret se_bl))
  sss_nil))))))
  (sss_cons (q_set 7 nd (se_def false [true, false] D_f_law_shape tk hr (by omega) rfl (sa_cons (q_v 1) (sa_cons (q_mod (q_int false (hz "int" (by decide)) (sa_cons (q_add false (q_add false (q_v 2) se_int) (se_def false [true, false] D_f_law_draw tk hr (by omega) rfl (sa_cons (q_v 1) (sa_cons se_int sa_nil)))) sa_nil)) se_int) sa_nil))))
  (sss_fz 0 (sss_cons (ss_for [5] hp rfl (si_sq (q_v 4)) (q_gn 5 nd)
  (sss_cons (ss_if (st_not (st_val (se_def false [false, false] D_f_law_same tk hr (by omega) rfl (sa_cons (se_def false [false, false] D_f_law_told tk hr (by omega) rfl (sa_cons (q_v 5) (sa_cons (q_v 7) sa_nil))) (sa_cons (se_tup (sa_cons se_str (sa_cons (q_v 5) (sa_cons (q_v 7) sa_nil)))) sa_nil)))))
  (sss_one (ss_ret se_bl))
  sss_nil)
  (sss_cons (ss_if (st_not (st_val (se_def false [false, false] D_f_law_same tk hr (by omega) rfl (sa_cons (se_def false [false, false] D_f_law_told tk hr (by omega) rfl (sa_cons (q_v 7) (sa_cons (q_v 5) sa_nil))) (sa_cons (se_tup (sa_cons se_str (sa_cons (q_v 7) (sa_cons (q_v 5) sa_nil)))) sa_nil)))))
  (sss_one (ss_ret se_bl))
  sss_nil)
  (sss_one (ss_if (st_not (st_val (se_def false [false, false] D_f_law_same tk hr (by omega) rfl (sa_cons (se_def false [false, false, false] D_f_shows_uneven tk hr (by omega) rfl (sa_cons (q_list false (hz "list" (by decide)) (sa_cons (q_v 5) sa_nil)) (sa_cons (q_list false (hz "list" (by decide)) (sa_cons (q_v 7) sa_nil)) (sa_cons (se_lst false sa_nil) sa_nil)))) (sa_cons se_bl sa_nil)))))
  (sss_one (ss_ret se_bl))
  sss_nil)))))
  (sss_one (ss_ret se_bl))))))))))))
abbrev sini_NotAlike : Stmt := clsBody (top 2) 0
theorem sc_ini_NotAlike : FnScope ["self", "shape", "other"] ["self", "shape", "other"] (defScope sini_NotAlike) := ⟨rfl, rfl, rfl, by decide +kernel, rfl, by decide +kernel, by decide +kernel⟩
theorem ini_NotAlike {C fI : Addr} {fd : FuncData} (F : Fun K "__init__" "NotAlike.__init__" sini_NotAlike fI fd) (iC : PySem.W.findIn K (.ref C) "__init__" = some (some (.ref fI))) (tI : PySem.W.typeIn K (.ref fI) = some (.type "function")) : IniOk P w K mg base C ["other", "shape"] :=
  ⟨fI, fd, ["self", "shape", "other"], iC, tI, bind_e F (ps := ["self", "shape", "other"]) (fun _ _ _ _ _ _ us hl => match us, hl with | [_, _, _], _ => rfl), init2 F sc_ini_NotAlike fun cdv A outer s H E => pss_cons (ps_ost (pe_var (i := 0) rfl (.inl rfl)) (pe_var (i := 1) rfl (.inl rfl))) (pss_one (ps_ost (pe_var (i := 0) rfl (.inl rfl)) (pe_var (i := 2) rfl (.inl rfl))))⟩
end
end K52

namespace K52
open Sx

/-! ## the feed -/
/-- what the feed holds -/
def fdL (f : Fl) (ns : List Int) (i : Nat) (b s : Int) : List AV := [.lst f (ns.map .int), .int (i : Nat), .int b, .int s]
def FdOk (f : Fl) (xs : List AV) : Prop := ∃ ns i b s, xs = fdL f ns i b s ∧ i ≤ ns.length ∧ 0 ≤ b ∧ 0 ≤ s ∧ s < 2147483647
def tail_draw : CS := (sSeq (sIf (c2 false gtD (c2 false ixD (cVar 0) (cK (.int 2))) (cK (.int 0)))
  (sSeq (sSet 3 (c2 false modD (cN false intD (cCons (c2 false ixD (cVar 0) (cK (.int 2))) cNil)) (cVar 1)))
  (sSeq (sSetAt (c2 false fdivD (c2 false ixD (cVar 0) (cK (.int 2))) (cVar 1)) (cVar 0) (cK (.int 2)))
  (sRet (cVar 3))))
  sSkip)
  (sSeq (sSetAt (c2 false modD (cN false intD (cCons (c2 false addD (c2 false mulD (c2 false ixD (cVar 0) (cK (.int 3))) (cK (.int 16807))) (cK (.int 12345))) cNil)) (cK (.int 2147483647))) (cVar 0) (cK (.int 3)))
  (sSeq (sSet 4 (c2 false modD (cN false intD (cCons (c2 false addD (c2 false mulD (c2 false ixD (cVar 0) (cK (.int 3))) (c2 false ixD (cVar 0) (cK (.int 3)))) (c2 false ixD (cVar 0) (cK (.int 3)))) cNil)) (cK (.int 2147483629))))
  (sRet (c2 false modD (c2 false fdivD (cVar 4) (cK (.int 11))) (cVar 1))))))
theorem tail_q (Q : FR → Prop) (ns : List Int) (i : Nat) (b s m : Int) (o : Option AV) (hi : i ≤ ns.length) (hb : 0 ≤ b) (hs0 : 0 ≤ s) (hs : s < 2147483647) (hm : 0 < m) (hm2 : m < 2 ^ 64)
    (k : ∀ v i' b' s', 0 ≤ v → v < m → i' ≤ ns.length → 0 ≤ b' → 0 ≤ s' → s' < 2147483647 → Q (.ok (.int v) [fdL .old ns i' b' s'])) :
    Q (closeF 1 (tail_draw [some (.ref 0), some (.int m), o, none, none] ⟨[some (.lst [.lst .old (ns.map .int), .int (i : Nat), .int b, .int s])], 1⟩)) := by
  have m2 : L2.CMul s 16807 := cmul_r (by decide) (by decide)
  have hms := Int.emod_nonneg (s * 16807 + 12345) (b := 2147483647) (by decide)
  have hms2 := Int.emod_lt_of_pos (s * 16807 + 12345) (b := 2147483647) (by decide)
  have m3 : L2.CMul ((s * 16807 + 12345) % 2147483647) ((s * 16807 + 12345) % 2147483647) := cmul_r (by omega) (by omega)
  have d1 : L2.CDivW b m := cdiv hm hm2
  have d2 : ∀ z, L2.CDivW z 11 := fun z => cdiv (by decide) (by decide)
  have q1 := Int.emod_nonneg b (b := m) (by omega)
  have q2 := Int.emod_lt_of_pos b hm
  have q3 : 0 ≤ b / m := Int.ediv_nonneg hb (by omega)
  unfold tail_draw
  by_cases h : 0 < b
  · simp [x_ixR, h, mod_eq, hm, setAt_at, fdiv_eq, d1, close1]
    exact k _ i _ s q1 q2 hi q3 hs0 hs
  · simp [x_ixR, h, mod_eq, hm, setAt_at, fdiv_eq, mul_eq, m2, m3, d2, close1]
    exact k _ i _ _ (Int.emod_nonneg _ (by omega)) (Int.emod_lt_of_pos _ hm) hi hb hms hms2
theorem draw_q (Q : FR → Prop) (ns : List Int) (i : Nat) (b s m : Int) (hi : i ≤ ns.length) (hb : 0 ≤ b) (hs0 : 0 ≤ s) (hs : s < 2147483647) (hm : 0 < m) (hm2 : m < 2 ^ 64)
    (k : ∀ v i' b' s', 0 ≤ v → v < m → i' ≤ ns.length → 0 ≤ b' → 0 ≤ s' → s' < 2147483647 → Q (.ok (.int v) [fdL .old ns i' b' s'])) : Q (f_law_draw [.ref 0, .int m] [fdL .old ns i b s]) := by
  have m1 : L2.CMul s 48271 := cmul_r (by decide) (by decide)
  have m2 : ∀ z, L2.CMul z 69621 := fun z => cmul_r (by decide) (by decide)
  have p0 : L2.CPow 10 18 := by decide
  have tl := fun i b s o hi hb hs0 hs => tail_q Q ns i b s m o hi hb hs0 hs hm hm2 k
  unfold f_law_draw bf_law_draw fdL
  rw [run2]
  show Q (closeF 1 (sSeq _ tail_draw _ _))
  by_cases hb0 : b = 0
  · by_cases hil : (i : Int) < ns.length
    · have hget : ns[i]? = some (ns[i]'(by omega)) := List.getElem?_eq_getElem (by omega)
      generalize ns[i]'(by omega) = z at hget
      have hc : 0 ≤ (if z < 0 then -z else z) := by split <;> omega
      by_cases hz : 1000000000000000000 ≤ (if z < 0 then -z else z)
      · simp [ent, envOf, x_ixR, hb0, hil, hget, setAt_at, getAt_at, pow_eq p0, hz]
        have h := tl (i + 1) _ s (some (.int (if z < 0 then -z else z))) (by omega) hc hs0 hs
        push_cast at h
        exact h
      · simp [ent, envOf, x_ixR, hb0, hil, hget, setAt_at, getAt_at, pow_eq p0, hz, mul_eq, m1, m2, mod_eq]
        have h := fun w => tl (i + 1) 0 (w % 2147483647) (some (.int (if z < 0 then -z else z))) (by omega) (by omega) (Int.emod_nonneg _ (by decide)) (Int.emod_lt_of_pos _ (by decide))
        push_cast at h
        exact h _
    · simp [ent, envOf, x_ixR, hb0, hil]
      exact tl i 0 s none hi (by omega) hs0 hs
  · simp [ent, envOf, x_ixR, hb0]
    exact tl i b s none hi hb hs0 hs
theorem fdL_old {f : Fl} {ns : List Int} {i : Nat} {b s : Int} : toOlds (fdL f ns i b s) = fdL .old ns i b s := by simp [fdL]
theorem fdL_imp {ns : List Int} {i : Nat} {b s : Int} : imps (fdL .old ns i b s) = fdL .any ns i b s := by simp [fdL]
theorem fdL_pure {f : Fl} {ns : List Int} {i : Nat} {b s : Int} : pureBs (fdL f ns i b s) = true := by simp [fdL]
/-- the feed in a cell's content, whatever the flag -/
def Fd (xs : List AV) : Prop := ∃ f ns i b s, xs = fdL f ns i b s ∧ i ≤ ns.length ∧ 0 ≤ b ∧ 0 ≤ s ∧ s < 2147483647
theorem Fd.pure {xs : List AV} (h : Fd xs) : pureBs xs = true := by
  obtain ⟨f, ns, i, b, s, rfl, _⟩ := h
  exact fdL_pure
theorem Fd.olds {xs : List AV} (h : Fd xs) : Fd (toOlds xs) := by
  obtain ⟨f, ns, i, b, s, rfl, h⟩ := h
  exact ⟨_, ns, i, b, s, fdL_old, h⟩
theorem Fd.imps {xs : List AV} (h : Fd xs) : Fd (imps xs) := by
  obtain ⟨f, ns, i, b, s, rfl, h⟩ := h
  exact ⟨impFl f, ns, i, b, s, by simp [fdL], h⟩
theorem draw_call {A : St} {n : Nat} {xs : List AV} {m : Int} (h : cellAt A n = some (.lst xs)) (hx : Fd xs) (hm : 0 < m) (hm2 : m < 2 ^ 64) :
    ∃ v ys, Fd ys ∧ 0 ≤ v ∧ v < m ∧ callF false f_law_draw [true, false] [.ref n, .int m] A = .ok (.int v) ⟨A.c.set n (some (.lst ys)), A.lo⟩ := by
  have hx0 := hx
  obtain ⟨f, ns, i, b, s, rfl, h1, h2, h3, h4⟩ := hx
  refine draw_q (fun r => ∀ z, f_law_draw [.ref 0, .int m] [toOlds (fdL f ns i b s)] = r → _ ) ns i b s m h1 h2 h3 h4 hm hm2 (fun v i' b' s' v0 v1 g1 g2 g3 g4 _ e => ?_) (0 : Nat) (by rw [fdL_old])
  refine ⟨v, fdL .any ns i' b' s', ⟨_, ns, i', b', s', rfl, g1, g2, g3, g4⟩, v0, v1, ?_⟩
  have := call1 (f := f_law_draw) (io := [true, false]) (vs := [.int m]) h hx0.pure (by simp) rfl (v := .int v) (ys := fdL .old ns i' b' s') (by simpa using e) (by simp) fdL_pure
  rw [fdL_imp, imp_int] at this
  exact this
/-! ## _law_same: what is alike -/
theorem same_refl : ∀ (k : Nat) (v : AV), dep v < k → pureB v = true → toOld v = v → szB v = true → f_law_same k [v, v] [] = .ok (.bl true) []
  | 0, _, h, _, _, _ => absurd h (Nat.not_lt_zero _)
  | k + 1, v, h, hp, ho, hs => by
    have ih := same_refl k
    have rec1 : ∀ {xs : List AV} {i : Nat} {x : AV} {A : St}, pureBs xs = true → toOlds xs = xs → szBs xs = true → deps xs < k → xs[i]? = some x → callF false (f_law_same k) [false, false] [x, x] A = .ok (.bl true) A := by
      intro xs i x A h1 h2 h3 h4 e
      have hx := pureBs_get h1 e
      have hox := toOlds_get h2 e
      have := call0 (f := f_law_same k) (A := A) (io := [false, false]) (vs := [x, x]) (by simp [hx]) rfl (v := .bl true) (by
        simp only [toOlds_cons, toOlds_nil, hox]
        exact ih x (Nat.lt_of_le_of_lt (deps_get e) h4) hx hox (szBs_get h3 e)) (by simp)
      simpa using this
    have lp : ∀ {xs : List AV} {w : AV} (A : St), pureBs xs = true → toOlds xs = xs → szBs xs = true → deps xs < k → (∀ i : Nat, ixD w (.int i) A = optV xs[i]?) →
        compL (gN 2) (cK (.bl true)) (cCall false (f_law_same k) [false, false] (cCons (c2 false ixD (cVar 0) (cVar 2)) (cCons (c2 false ixD (cVar 1) (cVar 2)) cNil))) [some w, some w, none] ((List.range xs.length).map fun i => AV.int (i : Nat)) A = .ok ((List.replicate xs.length true).map AV.bl) A := by
      intro xs w A h1 h2 h3 h4 hw
      rw [compL_all (fun _ => .bl true) fun i hi => ?_]
      · simp [List.map_const']
      · have hi' : i < xs.length := by simpa using hi
        have e : xs[i]? = some xs[i] := List.getElem?_eq_getElem hi'
        refine ⟨_, rfl, ?_⟩
        simp [hw, e, rec1 h1 h2 h3 h4 e]
    unfold f_law_same bf_law_same
    cases v with
    | lst f xs =>
      unfold dep at h
      unfold szB at hs
      obtain ⟨s1, s2⟩ := Bool.and_eq_true_iff.mp hs
      have s1 := of_decide_eq_true s1
      rw [toOld_lst] at ho
      obtain ⟨ef, ho1⟩ := AV.lst.inj ho
      subst ef
      have hp1 : pureBs xs = true := by simpa using hp
      have l := lp (w := .lst .old xs) ⟨[], 0⟩ hp1 ho1 s2 (by omega) (fun i => by simp)
      simp [ent, envOf, rngK1_nat (lim_rng s1), compK_eq, lim_size s1, l, close0]
    | tup xs =>
      unfold dep at h
      unfold szB at hs
      obtain ⟨s1, s2⟩ := Bool.and_eq_true_iff.mp hs
      have s1 := of_decide_eq_true s1
      rw [toOld_tup] at ho
      have ho1 := AV.tup.inj ho
      have hp1 : pureBs xs = true := by simpa using hp
      have l := lp (w := .tup xs) ⟨[], 0⟩ hp1 ho1 s2 (by omega) (fun i => by simp)
      simp [ent, envOf, rngK1_nat (lim_rng s1), compK_eq, lim_size s1, l, close0]
    | ref n => unfold pureB at hp; cases hp
    | scr ns => unfold pureB at hp; cases hp
    | exc c xs => unfold pureB at hp; cases hp
    | non => simp [ent, envOf, close0]
    | bl b => simp [ent, envOf, close0]
    | int i => simp [ent, envOf, close0]
    | str z => simp [ent, envOf, close0]
theorem feed_ok (ns : List Int) : f_law_feed [.scr ns] [] = .ok (.lst .new (fdL .new ns 0 0 1)) [] := by
  have l : listSD [.scr ns] ⟨[], 0⟩ = .lst (ns.map AV.int) := rfl
  unfold f_law_feed bf_law_feed fdL
  simp [ent, envOf, l, close0]
theorem feed_call (ns : List Int) : callF true f_law_feed [false] [.scr ns] ⟨[], 0⟩ = .ok (.ref 0) ⟨[some (.lst (fdL .new ns 0 0 1))], 0⟩ := by
  have e : expA ⟨[], 0⟩ [] 0 [false] [.scr ns] = some [.scr ns] := by
    rw [expA_f, expA_nil]
    unfold expV
    rw [if_neg (by unfold pureB; exact Bool.false_ne_true)]
  have hl : lent [false] [.scr ns] = false := by unfold lent lent; rfl
  unfold callF
  have hi : ioN [false] [.scr ns] = some [] := rfl
  rw [hi]
  dsimp only
  rw [if_pos List.nodup_nil]
  unfold contents
  rw [e]
  dsimp only
  rw [feed_ok]
  dsimp only
  rw [hl]
  have ho : okOut false [.lst .new (fdL .new ns 0 0 1)] [] = true := by simp [okOut, fdL]
  rw [if_pos ⟨ho, rfl⟩]
  unfold thaw
  dsimp only
  rw [if_pos (by rfl)]
  simp [fdL, putC]
theorem feed_fd (ns : List Int) : Fd (fdL .new ns 0 0 1) := ⟨.new, ns, 0, 0, 1, rfl, Nat.zero_le _, by decide, by decide, by decide⟩
theorem range_get {n j i : Nat} (h : (List.range n)[j]? = some i) : i = j ∧ j < n := by
  have hj : j < n := by simpa using (List.getElem?_eq_some_iff.mp h).1
  rw [List.getElem?_range hj] at h
  exact ⟨(Option.some.inj h).symm, hj⟩
theorem draw0 {xs : List AV} (hx : Fd xs) (cl : List (Option Cell)) (lo : Nat) (m : Int) (hm : 0 < m) (hm2 : m < 2 ^ 64) :
    ∃ v ys, Fd ys ∧ 0 ≤ v ∧ v < m ∧ callF false f_law_draw [true, false] [.ref 0, .int m] ⟨some (.lst xs) :: cl, lo⟩ = .ok (.int v) ⟨some (.lst ys) :: cl, lo⟩ := draw_call (A := ⟨some (.lst xs) :: cl, lo⟩) rfl hx hm hm2
theorem close1r {xs ls : List AV} {env : Env} {lo : Nat} (hx : pureBs xs = true) (hl : pureBs ls = true) : closeF 1 (.rt (.ref 1) env ⟨[some (.lst xs), some (.lst ls)], lo⟩) = .ok (.lst .new ls) [xs] := by
  unfold closeF
  dsimp only
  rw [outs1 rfl hx]
  unfold resV
  rw [if_neg (by unfold pureB; exact Bool.false_ne_true)]
  dsimp only [cellAt, List.getElem?_cons_zero, List.getElem?_cons_succ]
  rw [if_pos (by decide), mapO_pure hl]
  rfl
@[simp] theorem szBs_ints : ∀ ps : List Int, szBs (ps.map AV.int) = true
  | [] => by rw [List.map_nil]; unfold szBs; rfl
  | p :: ps => by
    rw [List.map_cons]
    unfold szBs
    rw [szBs_ints ps]
    simp [szB]
@[simp] theorem deps_ints : ∀ ps : List Int, deps (ps.map AV.int) = 0
  | [] => by rw [List.map_nil]; unfold deps; rfl
  | p :: ps => by
    rw [List.map_cons]
    unfold deps
    rw [deps_ints ps]
    simp [dep]
@[simp] theorem szBs_nil : szBs [] = true := by unfold szBs; rfl
@[simp] theorem szBs_cons {x : AV} {xs : List AV} : szBs (x :: xs) = (szB x && szBs xs) := by rw [szBs]
@[simp] theorem szB_lst {f : Fl} {xs : List AV} : szB (.lst f xs) = (decide (xs.length ≤ lim) && szBs xs) := by rw [szB]
@[simp] theorem szB_tup {xs : List AV} : szB (.tup xs) = (decide (xs.length ≤ lim) && szBs xs) := by rw [szB]
@[simp] theorem szB_int {i : Int} : szB (.int i) = true := by simp [szB]
@[simp] theorem szB_bl {i : Bool} : szB (.bl i) = true := by simp [szB]
@[simp] theorem szB_non : szB .non = true := by simp [szB]
@[simp] theorem szB_str {i : PySem.Str} : szB (.str i) = true := by simp [szB]
@[simp] theorem dep_int {i : Int} : dep (.int i) = 0 := by simp [dep]
@[simp] theorem dep_bl {i : Bool} : dep (.bl i) = 0 := by simp [dep]
@[simp] theorem dep_non : dep .non = 0 := by simp [dep]
@[simp] theorem dep_str {i : PySem.Str} : dep (.str i) = 0 := by simp [dep]
@[simp] theorem dep_lst {f : Fl} {xs : List AV} : dep (.lst f xs) = deps xs + 1 := by rw [dep]
@[simp] theorem dep_tup {xs : List AV} : dep (.tup xs) = deps xs + 1 := by rw [dep]
@[simp] theorem deps_nil : deps [] = 0 := by unfold deps; rfl
@[simp] theorem deps_cons {x : AV} {xs : List AV} : deps (x :: xs) = max (dep x) (deps xs) := by rw [deps]
theorem same_40 {v : AV} (h1 : dep v < 40) (h2 : pureB v = true) (h3 : toOld v = v) (h4 : szB v = true) : f_law_same 40 [v, v] [] = .ok (.bl true) [] := same_refl 40 v h1 h2 h3 h4

/-! ## kinds of values -/
def isTupB : AV → Bool
  | .tup _ => true
  | _ => false
def isLstB : AV → Bool
  | .lst _ _ => true
  | _ => false
def isIntB : AV → Bool
  | .int _ => true
  | .bl _ => true
  | _ => false
def isBolB : AV → Bool
  | .bl _ => true
  | _ => false
section
variable {v : AV} {A : St} (h : pureB v = true)
include h
theorem isi_tupB : isiD "tuple" v A = .val (.bl (isTupB v)) := by
  cases v with
  | ref n => unfold pureB at h; cases h
  | scr n => unfold pureB at h; cases h
  | exc c xs => unfold pureB at h; cases h
  | _ => simp [isTupB]
theorem isi_lstB : isiD "list" v A = .val (.bl (isLstB v)) := by
  cases v with
  | ref n => unfold pureB at h; cases h
  | scr n => unfold pureB at h; cases h
  | exc c xs => unfold pureB at h; cases h
  | _ => simp [isLstB]
theorem isi_intB : isiD "int" v A = .val (.bl (isIntB v)) := by
  cases v with
  | ref n => unfold pureB at h; cases h
  | scr n => unfold pureB at h; cases h
  | exc c xs => unfold pureB at h; cases h
  | _ => simp [isIntB]
theorem isi_bolB : isiD "bool" v A = .val (.bl (isBolB v)) := by
  cases v with
  | ref n => unfold pureB at h; cases h
  | scr n => unfold pureB at h; cases h
  | exc c xs => unfold pureB at h; cases h
  | _ => simp [isBolB]
end
/-! ## moves -/
def mvOf : AV → Option (Int × Int)
  | .tup [.int i, .int j] => some (i, j)
  | _ => none
def badB (ns : List Int) (i : Nat) : Bool := match ns[i]? with
  | some z => decide (z < 1) || (decide (0 < i) && decide ((ns[i - 1]?.getD 0) < z))
  | none => false
def fallB (ns : List Int) : Bool := !(List.range ns.length).any (badB ns)
def incAt (ns : List Int) (i : Nat) (d : Int) : List Int := ns.set i ((ns[i]?.getD 0) + d)
def movedP (ns : List Int) (i j : Nat) : List Int := incAt (incAt (if j = ns.length then ns ++ [0] else ns) i (-1)) j 1
def stepP (ns : List Int) (m : AV) : Option (List Int) := match mvOf m with
  | some (i, j) => if 0 ≤ i ∧ i < j ∧ j ≤ ns.length then (if fallB (movedP ns i.toNat j.toNat) = true then some (movedP ns i.toNat j.toNat) else none) else none
  | none => none
def walkP (ns : List Int) : List AV → Option (List Int)
  | [] => some ns
  | m :: ms => match stepP ns m with
    | some k => walkP k ms
    | none => none
def leadsB (ns os : List Int) : AV → Bool
  | .lst _ ms => match walkP ns ms with
    | some now => decide (now = os)
    | none => false
  | _ => false
theorem incAt_len (ns : List Int) (i : Nat) (d : Int) : (incAt ns i d).length = ns.length := by simp [incAt]
theorem movedP_len {ns : List Int} {i j : Nat} (h : j ≤ ns.length) : (movedP ns i j).length = if j = ns.length then ns.length + 1 else ns.length := by
  unfold movedP
  rw [incAt_len, incAt_len]
  split <;> simp
theorem hsz {n : Nat} (h : n ≤ 100000) : n < PySem.sizeLine := by show n < 16777216; omega
theorem atI_pred {α : Type} {xs : List α} {i : Nat} (h : 0 < i) : L2.atI xs ((i : Int) - 1) = xs[i - 1]? := by
  rw [show (i : Int) - 1 = ((i - 1 : Nat) : Int) by omega, atI_nat]
theorem set_int {ns : List Int} {i : Nat} {z : Int} : (ns.map AV.int).set i (.int z) = (ns.set i z).map AV.int := by rw [List.map_set]
theorem getI {ns : List Int} {i : Nat} (h : i < ns.length) : L2.atI (ns.map AV.int) (i : Nat) = some (.int (ns[i]?.getD 0)) := by
  rw [atI_nat, List.getElem?_map, List.getElem?_eq_getElem h]
  rfl
theorem any_step {p : Nat → Bool} {j : Nat} (h : ∀ i, i < j → p i = false) (hj : p j = false) : ∀ i, i < j + 1 → p i = false := fun i hi => by
  rcases Nat.lt_succ_iff_lt_or_eq.mp hi with hi | rfl
  · exact h i hi
  · exact hj
theorem any_true {p : Nat → Bool} {n j : Nat} (hj : j < n) (h : p j = true) : (List.range n).any p = true := List.any_eq_true.mpr ⟨j, List.mem_range.mpr hj, h⟩
theorem any_false {p : Nat → Bool} {n : Nat} (h : ∀ i, i < n → p i = false) : (List.range n).any p = false := List.any_eq_false.mpr fun i hi => by simp [h i (List.mem_range.mp hi)]
theorem enum_get {α : Type} {l : List α} {j : Nat} {x : α × Nat} (h : l.zipIdx[j]? = some x) : l[j]? = some x.1 ∧ x.2 = j := by
  rw [List.getElem?_zipIdx] at h
  cases e : l[j]? with
  | none => rw [e] at h; cases h
  | some z => rw [e] at h; simp at h; rw [← h]; simp
theorem falling_ok (ns : List Int) : f_is_falling [.lst .old (ns.map .int)] [] = .ok (.bl (fallB ns)) [] := by
  suffices key : ∀ Q : FR → Prop, Q (.ok (.bl (fallB ns)) []) → Q (f_is_falling [.lst .old (ns.map .int)] []) from key (fun r => r = .ok (.bl (fallB ns)) []) rfl
  intro Q k
  unfold fallB at k
  unfold f_is_falling bf_is_falling
  simp [ent, envOf]
  rw [enmK_lst ((pure_below _).2 _ (pure_ints ns)), enmL_map, forK_ok]
  refine forL_inv _ (fun j e A => e = [some (.lst .old (ns.map .int)), none, none] ∧ A = ⟨[], 0⟩ ∧ ∀ i, i < j → badB ns i = false) (fun r => Q (closeF 0 (seqK r _))) ns.zipIdx 0 (fun j x e A hj hI => ?_) (fun e A hI => ?_) ⟨rfl, rfl, fun i h => absurd h (Nat.not_lt_zero _)⟩
  · obtain ⟨rfl, rfl, hb⟩ := hI
    simp only [Nat.zero_add] at *
    obtain ⟨z, i⟩ := x
    obtain ⟨hz, rfl⟩ := enum_get hj
    simp only at hz
    have hin : i < ns.length := (List.getElem?_eq_some_iff.mp hz).1
    refine ⟨_, _, rfl, ?_⟩
    have hprev : 0 < i → L2.atI (ns.map AV.int) ((i : Int) - 1) = some (.int (ns[i - 1]?.getD 0)) := fun h0 => by
      rw [atI_pred h0, List.getElem?_map, List.getElem?_eq_getElem (show i - 1 < ns.length by omega)]
      simp
    have hbad : badB ns i = (decide (z < 1) || (decide (0 < i) && decide ((ns[i - 1]?.getD 0) < z))) := by unfold badB; rw [hz]
    have t := fun h => any_true (p := badB ns) hin h
    by_cases h1 : z < 1
    · rw [t (by rw [hbad]; simp [h1])] at k
      simp [h1, close0]
      exact k
    · by_cases h2 : 0 < i
      · by_cases h3 : (ns[i - 1]?.getD 0) < z
        · rw [t (by rw [hbad]; simp [h2, h3])] at k
          simp [h1, h2, hprev h2, h3, close0]
          exact k
        · conv => arg 4; simp [h1, h2, hprev h2, h3]
          exact ⟨rfl, rfl, any_step hb (by rw [hbad]; simp [h1, h3])⟩
      · conv => arg 4; simp [h1, h2]
        exact ⟨rfl, rfl, any_step hb (by rw [hbad]; simp [h1, h2])⟩
  · obtain ⟨rfl, rfl, hb⟩ := hI
    rw [any_false (by simpa using hb)] at k
    simpa [close0] using k
theorem law_falls_ok (ns : List Int) (hl : ns.length ≤ 100000) : f_law_falls [.lst .old (ns.map .int)] [] = .ok (.bl (fallB ns)) [] := by
  suffices key : ∀ Q : FR → Prop, Q (.ok (.bl (fallB ns)) []) → Q (f_law_falls [.lst .old (ns.map .int)] []) from key (fun r => r = .ok (.bl (fallB ns)) []) rfl
  intro Q k
  unfold fallB at k
  unfold f_law_falls bf_law_falls
  simp [ent, envOf, rngK1_nat (n := ns.length) (by omega)]
  refine forL_inv _ (fun j e A => e = [some (.lst .old (ns.map .int)), none] ∧ A = ⟨[], 0⟩ ∧ ∀ i, i < j → badB ns i = false) (fun r => Q (closeF 0 (seqK r _))) (List.range ns.length) 0 (fun j i e A hj hI => ?_) (fun e A hI => ?_) ⟨rfl, rfl, fun i h => absurd h (Nat.not_lt_zero _)⟩
  · obtain ⟨rfl, rfl, hb⟩ := hI
    obtain ⟨rfl, hin⟩ := range_get hj
    simp only [Nat.zero_add] at *
    obtain ⟨z, hz⟩ : ∃ z, ns[i]? = some z := ⟨_, List.getElem?_eq_getElem hin⟩
    refine ⟨_, _, rfl, ?_⟩
    have hprev : 0 < i → L2.atI (ns.map AV.int) ((i : Int) - 1) = some (.int (ns[i - 1]?.getD 0)) := fun h0 => by
      rw [atI_pred h0, List.getElem?_map, List.getElem?_eq_getElem (show i - 1 < ns.length by omega)]
      simp
    have hbad : badB ns i = (decide (z < 1) || (decide (0 < i) && decide ((ns[i - 1]?.getD 0) < z))) := by unfold badB; rw [hz]
    have t := fun h => any_true (p := badB ns) hin h
    by_cases h1 : z < 1
    · rw [t (by rw [hbad]; simp [h1])] at k
      simp [hz, h1, close0]
      exact k
    · by_cases h2 : 0 < i
      · by_cases h3 : (ns[i - 1]?.getD 0) < z
        · rw [t (by rw [hbad]; simp [h2, h3])] at k
          simp [hz, h1, h2, hprev h2, h3, close0]
          exact k
        · conv => arg 4; simp [hz, h1, h2, hprev h2, h3]
          exact ⟨rfl, rfl, any_step hb (by rw [hbad]; simp [h1, h3])⟩
      · conv => arg 4; simp [hz, h1, h2]
        exact ⟨rfl, rfl, any_step hb (by rw [hbad]; simp [h1, h2])⟩
  · obtain ⟨rfl, rfl, hb⟩ := hI
    rw [any_false (by simpa using hb)] at k
    simpa [close0] using k
theorem moved_ok (ns : List Int) (i j : Nat) (hij : i < j) (hj : j ≤ ns.length) (hl : ns.length ≤ 99999) : f_moved [.lst .old (ns.map .int), .int (i : Nat), .int (j : Nat)] [] = .ok (.lst .new ((movedP ns i j).map .int)) [] := by
  unfold f_moved bf_moved
  have s1 : ns.length < PySem.sizeLine := hsz (by omega)
  by_cases h : j = ns.length
  · have g1 := getI (ns := ns ++ [0]) (i := i) (by simp; omega)
    have x1 : L2.ixN (ns.length + 1) (i : Nat) = some i := ixN_nat (by omega)
    have x2 : L2.ixN (ns.length + 1) (j : Nat) = some j := ixN_nat (by omega)
    have g2 := getI (ns := incAt (ns ++ [0]) i (-1)) (i := j) (by rw [incAt_len]; simp; omega)
    unfold movedP
    rw [if_pos h]
    have e1 : ((ns ++ [0]).map AV.int).set i (.int (((ns ++ [0])[i]?.getD 0) - 1)) = (incAt (ns ++ [0]) i (-1)).map AV.int := by rw [set_int]; rfl
    have e2 : ((incAt (ns ++ [0]) i (-1)).map AV.int).set j (.int (((incAt (ns ++ [0]) i (-1))[j]?.getD 0) + 1)) = (incAt (incAt (ns ++ [0]) i (-1)) j 1).map AV.int := by rw [set_int]; rfl
    have hlen : (incAt (ns ++ [0]) i (-1)).length = ns.length + 1 := by rw [incAt_len]; simp
    generalize hP : incAt (ns ++ [0]) i (-1) = P at *
    generalize hR : incAt P j 1 = R at *
    generalize (ns ++ [0])[i]?.getD 0 = z1 at *
    have hjI : ((j : Int) = (ns.length : Int)) := by omega
    simp only [List.map_append, List.map_cons, List.map_nil] at g1 e1
    simp [ent, envOf, hjI, s1]
    rw [← hjI]
    simp [getAt_at, setAt_at, g1, x1, x2, e1, g2, hlen, e2, frA, close0]
  · have g1 := getI (ns := ns) (i := i) (by omega)
    have x1 : L2.ixN ns.length (i : Nat) = some i := ixN_nat (by omega)
    have x2 : L2.ixN ns.length (j : Nat) = some j := ixN_nat (by omega)
    have g2 := getI (ns := incAt ns i (-1)) (i := j) (by rw [incAt_len]; omega)
    unfold movedP
    rw [if_neg h]
    have e1 : (ns.map AV.int).set i (.int ((ns[i]?.getD 0) - 1)) = (incAt ns i (-1)).map AV.int := by rw [set_int]; rfl
    have e2 : ((incAt ns i (-1)).map AV.int).set j (.int (((incAt ns i (-1))[j]?.getD 0) + 1)) = (incAt (incAt ns i (-1)) j 1).map AV.int := by rw [set_int]; rfl
    have hlen : (incAt ns i (-1)).length = ns.length := incAt_len _ _ _
    generalize hP : incAt ns i (-1) = P at *
    generalize hR : incAt P j 1 = R at *
    generalize ns[i]?.getD 0 = z1 at *
    have hjI : ¬ ((j : Int) = (ns.length : Int)) := by omega
    simp [ent, envOf, hjI, getAt_at, setAt_at, g1, x1, x2, e1, g2, hlen, e2, frA, close0]

theorem lmoved_ok (ns : List Int) (i j : Nat) (hij : i < j) (hj : j ≤ ns.length) (hl : ns.length ≤ 99999) : f_law_moved [.lst .old (ns.map .int), .int (i : Nat), .int (j : Nat)] [] = .ok (.lst .new ((movedP ns i j).map .int)) [] := by
  unfold f_law_moved bf_law_moved
  have s1 : ns.length < PySem.sizeLine := hsz (by omega)
  have rg : ∀ A, rngK1 [.int ((j : Int) + 1 - (ns.length : Nat))] A = .ok ((List.range (if j = ns.length then 1 else 0)).map fun i => AV.int (i : Nat)) A := fun A => by
    rw [rngK1_int (by omega) (by omega)]
    congr 3
    split <;> omega
  have cc : ∀ (env : Env) (A : St) (n : Nat), n ≤ 1 → compL (gN 4) (cK (.bl true)) (cK (.int 0)) (some (.lst .old (ns.map AV.int)) :: env) ((List.range n).map fun i => AV.int (i : Nat)) A = .ok (((List.range n).map fun _ => (0 : Int)).map AV.int) A := by
    intro env A n hn
    rw [compL_all (fun _ => .int 0) fun i hi => ⟨_, rfl, rfl⟩]
    simp
  obtain ⟨Z, hZ, hZl⟩ : ∃ Z : List Int, ((List.range (if j = ns.length then 1 else 0)).map fun _ => (0 : Int)) = Z ∧ Z.length ≤ 1 := ⟨_, rfl, by simp; split <;> omega⟩
  have e0 : ns.map AV.int ++ Z.map AV.int = (if j = ns.length then ns ++ [0] else ns).map AV.int := by
    rw [← hZ]
    split
    · simp
    · simp
  unfold movedP
  have hle : (if j = ns.length then ns ++ [0] else ns).length = if j = ns.length then ns.length + 1 else ns.length := by split <;> simp
  obtain ⟨M, hM⟩ : ∃ M, M = (if j = ns.length then ns ++ [0] else ns) := ⟨_, rfl⟩
  rw [← hM] at hle ⊢
  have hlen : j < M.length := by rw [hle]; split <;> omega
  have hlen2 : M.length ≤ 100000 := by rw [hle]; split <;> omega
  have g1 := getI (ns := M) (i := i) (by omega)
  have x1 : L2.ixN M.length (i : Nat) = some i := ixN_nat (by omega)
  have x2 : L2.ixN M.length (j : Nat) = some j := ixN_nat (by omega)
  have g2 := getI (ns := incAt M i (-1)) (i := j) (by rw [incAt_len]; omega)
  have e1 : (M.map AV.int).set i (.int ((M[i]?.getD 0) - 1)) = (incAt M i (-1)).map AV.int := by rw [set_int]; rfl
  have e2 : ((incAt M i (-1)).map AV.int).set j (.int (((incAt M i (-1))[j]?.getD 0) + 1)) = (incAt (incAt M i (-1)) j 1).map AV.int := by rw [set_int]; rfl
  have hll : (incAt M i (-1)).length = M.length := incAt_len _ _ _
  have ad : ∀ A f g, addD (.lst f (ns.map AV.int)) (.lst g (Z.map AV.int)) A = .lst (M.map AV.int) := fun A f g => by
    rw [x_addL (by simp; omega), e0, ← hM]
  have ck : ∀ (env : Env) A, compK false (gN 4) (cK (.bl true)) (cK (.int 0)) (some (.lst .old (ns.map AV.int)) :: env) ((List.range (if j = ns.length then 1 else 0)).map fun i => AV.int (i : Nat)) A = .ok (.lst .new (Z.map AV.int)) A := fun env A => by
    rw [compK_eq (by simp; split <;> decide), cc _ _ _ (by split <;> omega), hZ]
    rfl
  generalize hP : incAt M i (-1) = P at *
  generalize hR : incAt P j 1 = R at *
  generalize M[i]?.getD 0 = z1 at *
  generalize P[j]?.getD 0 = z2 at *
  simp [ent, envOf, rg, ck, ad, g1, setAt_at, x1, e1, g2, hll, x2, e2, frA, close0]

def whB : AV → Bool
  | .int _ => true
  | _ => false
theorem wh_is {v : AV} (h : whB v = true) : ∃ i, v = .int i := by
  cases v with
  | int i => exact ⟨i, rfl⟩
  | _ => cases h
theorem whole_ok {v : AV} (h : pureB v = true) : f_is_whole [v] [] = .ok (.bl (whB v)) [] := by
  unfold f_is_whole bf_is_whole
  cases v with
  | ref n => unfold pureB at h; cases h
  | scr n => unfold pureB at h; cases h
  | exc c xs => unfold pureB at h; cases h
  | _ => simp [ent, envOf, whB, close0]
inductive MvC (m : AV) : Prop
  | no (h : isTupB m = false)
  | odd (xs : List AV) (e : m = .tup xs) (h : xs.length ≠ 2)
  | two (a b : AV) (e : m = .tup [a, b])
theorem mvc (m : AV) : MvC m := by
  cases m with
  | tup xs => match xs with
    | [] => exact .odd _ rfl (by decide)
    | [_] => exact .odd _ rfl (by simp)
    | [a, b] => exact .two _ _ rfl
    | _ :: _ :: _ :: _ => exact .odd _ rfl (by simp)
  | _ => exact .no rfl
theorem mv_no {m : AV} (h : isTupB m = false) : mvOf m = none := by
  cases m with
  | tup xs => cases h
  | _ => rfl
theorem mv_odd {xs : List AV} (h : xs.length ≠ 2) : mvOf (.tup xs) = none := by
  unfold mvOf
  split
  · rename_i e
    cases e
    exact absurd rfl h
  · rfl
theorem mv_a {a b : AV} (h : whB a = false) : mvOf (.tup [a, b]) = none := by
  cases a with
  | int i => cases h
  | _ => rfl
theorem mv_b {a b : AV} (h : whB b = false) : mvOf (.tup [a, b]) = none := by
  cases b with
  | int i => cases h
  | _ => cases a <;> rfl
def mvB (m : AV) (n : Nat) : Bool := match mvOf m with
  | some (i, j) => decide (0 ≤ i) && (decide (i < j) && decide (j ≤ n))
  | none => false
theorem is_move_ok {m : AV} (n : Nat) (hp : pureB m = true) (ho : toOld m = m) : f_is_move [m, .int n] [] = .ok (.bl (mvB m n)) [] := by
  unfold f_is_move bf_is_move
  cases mvc m with
  | no h => simp [ent, envOf, isi_tupB hp, h, mvB, mv_no h, close0]
  | odd xs e h =>
    subst e
    have h' : ¬ ((xs.length : Int) = 2) := by omega
    simp [ent, envOf, h', mvB, mv_odd h, close0]
  | two a b e =>
    subst e
    simp at hp ho
    have wa : callF false f_is_whole [false] [a] ⟨[], 0⟩ = .ok (.bl (whB a)) ⟨[], 0⟩ := by simp [callF_f1, expK_pure hp.1, ho, whole_ok hp.1]
    have wb : callF false f_is_whole [false] [b] ⟨[], 0⟩ = .ok (.bl (whB b)) ⟨[], 0⟩ := by simp [callF_f1, expK_pure hp.2, ho, whole_ok hp.2]
    simp [ent, envOf]
    rw [wa]
    cases ha : whB a with
    | false => simp [mvB, mv_a ha, close0]
    | true =>
      obtain ⟨i, rfl⟩ := wh_is ha
      cases hb : whB b with
      | false => simp [wb, hb, mvB, mv_b hb, close0]
      | true =>
        rw [hb] at wb
        obtain ⟨j, rfl⟩ := wh_is hb
        by_cases h1 : 0 ≤ i
        · by_cases h2 : i < j
          · simp [wb, mvB, mvOf, h1, h2, close0]
          · simp [wb, mvB, mvOf, h1, h2, close0]
        · simp [wb, mvB, mvOf, h1, close0]

theorem step_none {ns : List Int} {m : AV} {ms : List AV} (h : stepP ns m = none) : walkP ns (m :: ms) = none := by
  unfold walkP
  rw [h]
theorem step_some {ns ks : List Int} {m : AV} {ms : List AV} (h : stepP ns m = some ks) : walkP ns (m :: ms) = walkP ks ms := by
  rw [walkP, h]
theorem step_bad {ns : List Int} {m : AV} (h : mvB m ns.length = false) : stepP ns m = none := by
  unfold stepP
  unfold mvB at h
  cases e : mvOf m with
  | none => rfl
  | some p =>
    obtain ⟨i, j⟩ := p
    rw [e] at h
    dsimp only at h ⊢
    rw [if_neg fun ⟨h1, h2, h3⟩ => by simp [h1, h2, h3] at h]
theorem step_good {ns : List Int} {m : AV} (h : mvB m ns.length = true) : ∃ i j : Nat, m = .tup [.int (i : Nat), .int (j : Nat)] ∧ i < j ∧ j ≤ ns.length ∧ stepP ns m = if fallB (movedP ns i j) = true then some (movedP ns i j) else none := by
  unfold mvB at h
  cases e : mvOf m with
  | none => rw [e] at h; cases h
  | some p =>
    obtain ⟨i, j⟩ := p
    rw [e] at h
    dsimp only at h
    simp only [Bool.and_eq_true, decide_eq_true_eq] at h
    have em : m = .tup [.int i, .int j] := by
      unfold mvOf at e
      split at e
      · cases e; rfl
      · cases e
    refine ⟨i.toNat, j.toNat, ?_, by omega, by omega, ?_⟩
    · rw [em, show ((i.toNat : Nat) : Int) = i by omega, show ((j.toNat : Nat) : Int) = j by omega]
    · unfold stepP
      rw [e]
      dsimp only
      rw [if_pos (by omega)]
theorem leads_none {ns os : List Int} {f : Fl} {ms : List AV} (h : walkP ns ms = none) : leadsB ns os (.lst f ms) = false := by
  unfold leadsB
  dsimp only
  rw [h]
theorem leads_some {ns os ks : List Int} {f : Fl} {ms : List AV} (h : walkP ns ms = some ks) : leadsB ns os (.lst f ms) = decide (ks = os) := by
  unfold leadsB
  dsimp only
  rw [h]
theorem leads_no {ns os : List Int} {v : AV} (h : isLstB v = false) : leadsB ns os v = false := by
  cases v with
  | lst f ms => cases h
  | _ => rfl
theorem moved_f (ns : List Int) (i j : Nat) (f : Fl) (A : St) (hij : i < j) (hj : j ≤ ns.length) (hl : ns.length ≤ 99999) : callF false f_moved [false, false, false] [.lst f (ns.map .int), .int (i : Nat), .int (j : Nat)] A = .ok (.lst .new ((movedP ns i j).map .int)) A := by
  simp [callF_f3, moved_ok ns i j hij hj hl]
theorem lmoved_f (ns : List Int) (i j : Nat) (f : Fl) (A : St) (hij : i < j) (hj : j ≤ ns.length) (hl : ns.length ≤ 99999) : callF false f_law_moved [false, false, false] [.lst f (ns.map .int), .int (i : Nat), .int (j : Nat)] A = .ok (.lst .new ((movedP ns i j).map .int)) A := by
  simp [callF_f3, lmoved_ok ns i j hij hj hl]
theorem falling_f (ns : List Int) (f : Fl) (A : St) : callF false f_is_falling [false] [.lst f (ns.map .int)] A = .ok (.bl (fallB ns)) A := by
  simp [callF_f1, falling_ok ns]
theorem falls_f (ns : List Int) (f : Fl) (A : St) (hl : ns.length ≤ 100000) : callF false f_law_falls [false] [.lst f (ns.map .int)] A = .ok (.bl (fallB ns)) A := by
  simp [callF_f1, law_falls_ok ns hl]
theorem is_move_f {m : AV} (n : Nat) (A : St) (hp : pureB m = true) (ho : toOld m = m) : callF false f_is_move [false, false] [m, .int (n : Nat)] A = .ok (.bl (mvB m n)) A := by
  simp [callF_f2, expK_pure hp, ho, is_move_ok n hp ho]
theorem uneven_ok (ns os : List Int) {v : AV} (hp : pureB v = true) (ho : toOld v = v) (hn : ns.length ≤ 100) (hl : ∀ f ms, v = .lst f ms → ms.length ≤ 1000) :
    f_shows_uneven [.lst .old (ns.map .int), .lst .old (os.map .int), v] [] = .ok (.bl (leadsB ns os v)) [] := by
  suffices key : ∀ Q : FR → Prop, Q (.ok (.bl (leadsB ns os v)) []) → Q (f_shows_uneven [.lst .old (ns.map .int), .lst .old (os.map .int), v] []) from key (fun r => r = .ok (.bl (leadsB ns os v)) []) rfl
  intro Q k
  unfold f_shows_uneven bf_shows_uneven
  cases hv : isLstB v with
  | false =>
    rw [leads_no hv] at k
    simp [ent, envOf, isi_lstB hp, hv, close0]
    exact k
  | true =>
    cases v with
    | lst f ms =>
      have hml := hl f ms rfl
      rw [toOld_lst] at ho
      obtain ⟨ef, ho1⟩ := AV.lst.inj ho
      subst ef
      have hp1 : pureBs ms = true := by simpa using hp
      have hsq : sqK (.lst .old ms) ⟨[], 0⟩ = .ok ms ⟨[], 0⟩ := sqK_lst ((pure_below _).2 _ hp1)
      simp [ent, envOf, hsq]
      refine forL_invV (fun j e A => ∃ (now : List Int) (f : Fl), now.length ≤ ns.length + j ∧ walkP now (ms.drop j) = walkP ns ms ∧ e = [some (.lst .old (ns.map .int)), some (.lst .old (os.map .int)), some (.lst .old ms), some (.lst f (now.map .int)), none] ∧ A = ⟨[], 0⟩) (fun r => Q (closeF 0 (seqK r _))) ms 0 (fun j m e A hj hI => ?_) (fun e A hI => ?_) ⟨ns, _, by omega, rfl, rfl, rfl⟩
      · obtain ⟨now, f, hnl, hw, rfl, rfl⟩ := hI
        simp only [Nat.zero_add] at *
        have hjl : j < ms.length := (List.getElem?_eq_some_iff.mp hj).1
        have hmp := pureBs_get hp1 hj
        have hmo := toOlds_get ho1 hj
        have hd : ms.drop j = m :: ms.drop (j + 1) := by
          rw [List.drop_eq_getElem_cons hjl]
          congr 1
          exact (List.getElem?_eq_some_iff.mp hj).2
        rw [hd] at hw
        refine ⟨_, _, rfl, ?_⟩
        cases hb : mvB m now.length with
        | false =>
          rw [step_none (step_bad hb)] at hw
          rw [leads_none hw.symm] at k
          simp [is_move_f now.length _ hmp hmo, hb, close0]
          exact k
        | true =>
          obtain ⟨a, b, em, hab, hbl, hs⟩ := step_good hb
          have ml := movedP_len (i := a) hbl
          have ml2 : (movedP now a b).length ≤ now.length + 1 := by rw [ml]; split <;> omega
          have fm := falling_f (movedP now a b)
          have mm := fun f A => moved_f now a b f A hab hbl (by omega)
          generalize movedP now a b = R at *
          have im := is_move_f now.length ⟨[], 0⟩ hmp hmo
          rw [hb] at im
          subst em
          cases hf : fallB R with
          | false =>
            rw [if_neg (by rw [hf]; simp)] at hs
            rw [step_none hs] at hw
            rw [leads_none hw.symm] at k
            simp [im, mm, fm, hf, close0]
            exact k
          | true =>
            rw [if_pos hf] at hs
            rw [step_some hs] at hw
            conv => arg 4; simp [im, mm, fm, hf]
            exact ⟨R, _, by omega, hw, rfl, rfl⟩
      · obtain ⟨now, f, hnl, hw, rfl, rfl⟩ := hI
        simp only [Nat.zero_add] at *
        rw [List.drop_length] at hw
        rw [leads_some hw.symm] at k
        simp [eqd_ints, close0]
        exact k
    | _ => cases hv

def tail_leads : CS := (sSeq (sIf (c1 false notD (cChain3 leD ltD leD (cK (.int 0)) (c2 false ixD (cVar 4) (cK (.int 0))) (c2 false ixD (cVar 4) (cK (.int 1))) (cN false lenD (cCons (cVar 3) cNil))))
  (sRet (cK (.bl false)))
  sSkip)
  (sSeq (sSet 3 (cCall false f_law_moved [false, false, false] (cCons (cVar 3) (cCons (c2 false ixD (cVar 4) (cK (.int 0))) (cCons (c2 false ixD (cVar 4) (cK (.int 1))) cNil)))))
  (sIf (c1 false notD (cCall false f_law_falls [false] (cCons (cVar 3) cNil)))
  (sRet (cK (.bl false)))
  sSkip)))
theorem isi_wh {v : AV} (h : pureB v = true) : (isIntB v = true ∧ isBolB v = false) ↔ whB v = true := by
  cases v with
  | _ => simp [isIntB, isBolB, whB]
theorem mvB_two {i j : Int} {n : Nat} : mvB (.tup [.int i, .int j]) n = (decide (0 ≤ i) && (decide (i < j) && decide (j ≤ n))) := rfl
def bd5 : CS := (sIf (cOr (c1 false notD (cIsi "int" (cVar 5))) (cIsi "bool" (cVar 5)))
  (sRet (cK (.bl false)))
  sSkip)
theorem inner5 {a b c d f : Option AV} {v : AV} {A : St} (h : pureB v = true) : bd5 [a, b, c, d, f, some v] A = if whB v = true then .nx [a, b, c, d, f, some v] A else .rt (.bl false) [a, b, c, d, f, some v] A := by
  unfold bd5
  cases v with
  | ref n => unfold pureB at h; cases h
  | scr n => unfold pureB at h; cases h
  | exc c xs => unfold pureB at h; cases h
  | _ => simp [whB]
theorem lleads_ok (ns os : List Int) {v : AV} (hp : pureB v = true) (ho : toOld v = v) (hn : ns.length ≤ 100) (hl : ∀ f ms, v = .lst f ms → ms.length ≤ 1000) :
    f_law_leads [.lst .old (ns.map .int), .lst .old (os.map .int), v] [] = .ok (.bl (leadsB ns os v)) [] := by
  suffices key : ∀ Q : FR → Prop, Q (.ok (.bl (leadsB ns os v)) []) → Q (f_law_leads [.lst .old (ns.map .int), .lst .old (os.map .int), v] []) from key (fun r => r = .ok (.bl (leadsB ns os v)) []) rfl
  intro Q k
  unfold f_law_leads bf_law_leads
  cases hv : isLstB v with
  | false =>
    rw [leads_no hv] at k
    simp [ent, envOf, isi_lstB hp, hv, close0]
    exact k
  | true =>
    cases v with
    | lst f ms =>
      have hml := hl f ms rfl
      rw [toOld_lst] at ho
      obtain ⟨ef, ho1⟩ := AV.lst.inj ho
      subst ef
      have hp1 : pureBs ms = true := by simpa using hp
      have hsq : sqK (.lst .old ms) ⟨[], 0⟩ = .ok ms ⟨[], 0⟩ := sqK_lst ((pure_below _).2 _ hp1)
      simp [ent, envOf, hsq]
      refine forL_invV (fun j e A => ∃ (now : List Int) (f : Fl), now.length ≤ ns.length + j ∧ walkP now (ms.drop j) = walkP ns ms ∧ e = [some (.lst .old (ns.map .int)), some (.lst .old (os.map .int)), some (.lst .old ms), some (.lst f (now.map .int)), none, none] ∧ A = ⟨[], 0⟩) (fun r => Q (closeF 0 (seqK r _))) ms 0 (fun j m e A hj hI => ?_) (fun e A hI => ?_) ⟨ns, _, by omega, rfl, rfl, rfl⟩
      · obtain ⟨now, f, hnl, hw, rfl, rfl⟩ := hI
        simp only [Nat.zero_add] at *
        have hjl : j < ms.length := (List.getElem?_eq_some_iff.mp hj).1
        have hmp := pureBs_get hp1 hj
        have hmo := toOlds_get ho1 hj
        have hd : ms.drop j = m :: ms.drop (j + 1) := by
          rw [List.drop_eq_getElem_cons hjl]
          congr 1
          exact (List.getElem?_eq_some_iff.mp hj).2
        rw [hd] at hw
        refine ⟨_, _, rfl, ?_⟩
        have no : stepP now m = none → Q (.ok (.bl false) []) := fun h => by
          rw [step_none h] at hw
          rw [leads_none hw.symm] at k
          exact k
        cases mvc m with
        | no h =>
          have := no (step_bad (by unfold mvB; rw [mv_no h]))
          simp [isi_tupB hmp, h, close0]
          exact this
        | odd xs e h =>
          subst e
          have := no (step_bad (by unfold mvB; rw [mv_odd h]))
          have h' : ¬ ((xs.length : Int) = 2) := by omega
          simp [h', close0]
          exact this
        | two a b e =>
          subst e
          simp at hmp hmo
          have hs2 : sqK (.tup [a, b]) ⟨[], 0⟩ = .ok [a, b] ⟨[], 0⟩ := sqK_tup ((pure_below _).2 _ (by simp [hmp]))
          show Stp _ _ _ ((sSeq _ (sSeq (sFor (iSq (cVar 4)) (gN 5) bd5 [5]) tail_leads)) _ _)
          cases ha : whB a with
          | false =>
            have := no (step_bad (by unfold mvB; rw [mv_a ha]))
            simp [hs2, forL_c, forL_n, inner5 hmp.1, ha, close0]
            exact this
          | true =>
            cases hb : whB b with
            | false =>
              have := no (step_bad (by unfold mvB; rw [mv_b hb]))
              simp [hs2, forL_c, forL_n, inner5 hmp.1, inner5 hmp.2, ha, hb, close0]
              exact this
            | true =>
              obtain ⟨i, rfl⟩ := wh_is ha
              obtain ⟨t, rfl⟩ := wh_is hb
              have c1 := fun {a b c d f} => @inner5 a b c d f (.int i) ⟨[], 0⟩ (by simp)
              have c2 := fun {a b c d f} => @inner5 a b c d f (.int t) ⟨[], 0⟩ (by simp)
              cases hm : mvB (.tup [.int i, .int t]) now.length with
              | false =>
                have := no (step_bad hm)
                rw [mvB_two] at hm
                by_cases h1 : 0 ≤ i
                · by_cases h2 : i < t
                  · have h3 : ¬ (t ≤ now.length) := fun h3 => by simp [h1, h2, h3] at hm
                    simp [hs2, forL_c, forL_n, c1, c2, whB, tail_leads, h1, h2, h3, close0]
                    exact this
                  · simp [hs2, forL_c, forL_n, c1, c2, whB, tail_leads, h1, h2, close0]
                    exact this
                · simp [hs2, forL_c, forL_n, c1, c2, whB, tail_leads, h1, close0]
                  exact this
              | true =>
                obtain ⟨a, b, em, hab, hbl, hs⟩ := step_good hm
                have ml := movedP_len (i := a) hbl
                have ml2 : (movedP now a b).length ≤ now.length + 1 := by rw [ml]; split <;> omega
                have fm := fun f A => falls_f (movedP now a b) f A (by omega)
                have mm := fun f A => lmoved_f now a b f A hab hbl (by omega)
                generalize movedP now a b = R at *
                simp at em
                obtain ⟨rfl, rfl⟩ := em
                have h2 : ((a : Nat) : Int) < (b : Nat) := by omega
                have h3 : ((b : Nat) : Int) ≤ (now.length : Nat) := by omega
                cases hf : fallB R with
                | false =>
                  rw [if_neg (by rw [hf]; simp)] at hs
                  have := no hs
                  simp [hs2, forL_c, forL_n, c1, c2, whB, tail_leads, hab, hbl, mm, fm, hf, close0]
                  exact this
                | true =>
                  rw [if_pos hf] at hs
                  rw [step_some hs] at hw
                  conv => arg 4; simp [hs2, forL_c, forL_n, c1, c2, whB, tail_leads, hab, hbl, mm, fm, hf]
                  exact ⟨R, .new, by omega, hw, by simp, rfl⟩
      · obtain ⟨now, f, hnl, hw, rfl, rfl⟩ := hI
        simp only [Nat.zero_add] at *
        rw [List.drop_length] at hw
        rw [leads_some hw.symm] at k
        simp [eqd_ints, close0]
        exact k
    | _ => cases hv

theorem same_f {u v : AV} {A : St} (hu : pureB u = true) (hv : pureB v = true) (eu : toOld u = v) (ev : toOld v = v) (hd : dep v < 40) (hs : szB v = true) : callF false (f_law_same 40) [false, false] [u, v] A = .ok (.bl true) A := by
  simp [callF_f2, expK_pure hu, expK_pure hv, eu, ev, same_40 hd hv ev hs]
theorem uneven_f (ns os : List Int) {v u : AV} {f g : Fl} {A : St} (hp : pureB v = true) (ho : toOld v = u) (hou : toOld u = u) (hpu : pureB u = true) (hn : ns.length ≤ 100) (hl : ∀ f ms, u = .lst f ms → ms.length ≤ 1000) :
    callF false f_shows_uneven [false, false, false] [.lst f (ns.map .int), .lst g (os.map .int), v] A = .ok (.bl (leadsB ns os u)) A := by
  simp [callF_f3, expK_pure hp, ho, uneven_ok ns os hpu hou hn hl]
theorem lleads_f (ns os : List Int) {v u : AV} {f g : Fl} {A : St} (hp : pureB v = true) (ho : toOld v = u) (hou : toOld u = u) (hpu : pureB u = true) (hn : ns.length ≤ 100) (hl : ∀ f ms, u = .lst f ms → ms.length ≤ 1000) :
    callF false f_law_leads [false, false, false] [.lst f (ns.map .int), .lst g (os.map .int), v] A = .ok (.bl (leadsB ns os u)) A := by
  simp [callF_f3, expK_pure hp, ho, lleads_ok ns os hpu hou hn hl]
theorem same_bl (b : Bool) (A : St) : callF false (f_law_same 40) [false, false] [.bl b, .bl b] A = .ok (.bl true) A := same_f (by simp) (by simp) (by simp) (by simp) (by simp) (by simp)

/-! ## small values -/
def okV : Nat → AV → Bool
  | _, .int _ => true
  | _, .bl _ => true
  | _, .non => true
  | _, .str _ => true
  | d + 1, .tup xs => decide (xs.length ≤ 1000) && xs.all (okV d)
  | d + 1, .lst _ xs => decide (xs.length ≤ 1000) && xs.all (okV d)
  | _, _ => false
theorem toOlds_map : ∀ xs : List AV, toOlds xs = xs.map toOld
  | [] => by simp
  | x :: xs => by simp [toOlds_map xs]
theorem imps_map : ∀ xs : List AV, imps xs = xs.map imp
  | [] => by simp
  | x :: xs => by simp [imps_map xs]
theorem pureBs_all : ∀ {xs : List AV}, (∀ x ∈ xs, pureB x = true) → pureBs xs = true
  | [], _ => by simp
  | x :: xs, h => by simp [h x List.mem_cons_self, pureBs_all fun y hy => h y (List.mem_cons_of_mem _ hy)]
theorem szBs_all : ∀ {xs : List AV}, (∀ x ∈ xs, szB x = true) → szBs xs = true
  | [], _ => by simp
  | x :: xs, h => by simp [h x List.mem_cons_self, szBs_all fun y hy => h y (List.mem_cons_of_mem _ hy)]
theorem deps_all {d : Nat} : ∀ {xs : List AV}, (∀ x ∈ xs, dep x ≤ d) → deps xs ≤ d
  | [], _ => by simp
  | x :: xs, h => by
    have h1 := h x List.mem_cons_self
    have h2 := deps_all fun y hy => h y (List.mem_cons_of_mem x hy)
    simp
    omega
theorem map_same {f : AV → AV} {xs : List AV} (h : ∀ x ∈ xs, f x = x) : xs.map f = xs := by
  conv => rhs; rw [← List.map_id xs]
  exact List.map_congr_left h
structure OkF (d : Nat) (v : AV) : Prop where
  p : pureB v = true
  dp : dep v ≤ d
  s : szB v = true
  o : okV d (toOld v) = true
  i : okV d (imp v) = true
  oo : toOld (toOld v) = toOld v
  up : okV (d + 1) v = true
theorem okF : ∀ (d : Nat) (v : AV), okV d v = true → OkF d v
  | d, .int i, _ => ⟨by simp, by simp, by simp, by simp [okV], by simp [okV], by simp, by simp [okV]⟩
  | d, .bl i, _ => ⟨by simp, by simp, by simp, by simp [okV], by simp [okV], by simp, by simp [okV]⟩
  | d, .non, _ => ⟨by simp, by simp, by simp, by simp [okV], by simp [okV], by simp, by simp [okV]⟩
  | d, .str i, _ => ⟨by simp, by simp, by simp, by simp [okV], by simp [okV], by simp, by simp [okV]⟩
  | d + 1, .tup xs, h => by
    unfold okV at h
    simp only [Bool.and_eq_true, decide_eq_true_eq, List.all_eq_true] at h
    obtain ⟨hl, h⟩ := h
    have ih := fun x hx => okF d x (h x hx)
    refine ⟨?_, ?_, ?_, ?_, ?_, ?_, ?_⟩
    · simp [pureBs_all fun x hx => (ih x hx).p]
    · have := deps_all fun x hx => (ih x hx).dp
      simp
      omega
    · simp [szBs_all fun x hx => (ih x hx).s]
      unfold lim
      omega
    · rw [toOld_tup, toOlds_map]
      simp only [okV, Bool.and_eq_true, decide_eq_true_eq, List.all_eq_true, List.length_map, List.mem_map]
      exact ⟨hl, fun y ⟨x, hx, e⟩ => e ▸ (ih x hx).o⟩
    · rw [imp_tup, imps_map]
      simp only [okV, Bool.and_eq_true, decide_eq_true_eq, List.all_eq_true, List.length_map, List.mem_map]
      exact ⟨hl, fun y ⟨x, hx, e⟩ => e ▸ (ih x hx).i⟩
    · rw [toOld_tup, toOlds_map, toOld_tup, toOlds_map, List.map_map]
      congr 1
      exact List.map_congr_left fun x hx => (ih x hx).oo
    · simp only [okV, Bool.and_eq_true, decide_eq_true_eq, List.all_eq_true]
      exact ⟨hl, fun x hx => (ih x hx).up⟩
  | d + 1, .lst f xs, h => by
    unfold okV at h
    simp only [Bool.and_eq_true, decide_eq_true_eq, List.all_eq_true] at h
    obtain ⟨hl, h⟩ := h
    have ih := fun x hx => okF d x (h x hx)
    refine ⟨?_, ?_, ?_, ?_, ?_, ?_, ?_⟩
    · simp [pureBs_all fun x hx => (ih x hx).p]
    · have := deps_all fun x hx => (ih x hx).dp
      simp
      omega
    · simp [szBs_all fun x hx => (ih x hx).s]
      unfold lim
      omega
    · rw [toOld_lst, toOlds_map]
      simp only [okV, Bool.and_eq_true, decide_eq_true_eq, List.all_eq_true, List.length_map, List.mem_map]
      exact ⟨hl, fun y ⟨x, hx, e⟩ => e ▸ (ih x hx).o⟩
    · rw [imp_lst, imps_map]
      simp only [okV, Bool.and_eq_true, decide_eq_true_eq, List.all_eq_true, List.length_map, List.mem_map]
      exact ⟨hl, fun y ⟨x, hx, e⟩ => e ▸ (ih x hx).i⟩
    · rw [toOld_lst, toOlds_map, toOld_lst, toOlds_map, List.map_map]
      congr 1
      exact List.map_congr_left fun x hx => (ih x hx).oo
    · simp only [okV, Bool.and_eq_true, decide_eq_true_eq, List.all_eq_true]
      exact ⟨hl, fun x hx => (ih x hx).up⟩
  | 0, .tup xs, h => by cases h
  | 0, .lst f xs, h => by cases h
  | 0, .ref n, h => by cases h
  | 0, .scr n, h => by cases h
  | 0, .exc c xs, h => by cases h
  | _ + 1, .ref n, h => by cases h
  | _ + 1, .scr n, h => by cases h
  | _ + 1, .exc c xs, h => by cases h
theorem ok_len {d : Nat} {v : AV} (h : okV d v = true) : ∀ f ms, v = .lst f ms → ms.length ≤ 1000 := fun f ms e => by
  subst e
  cases d with
  | zero => cases h
  | succ d =>
    unfold okV at h
    exact of_decide_eq_true (Bool.and_eq_true_iff.mp h).1

theorem range_nat {n j : Nat} {i : Nat} (h : (List.range n)[j]? = some i) : i = j ∧ j < n := range_get h
theorem shape_q (xs : List AV) (n : Nat) (hx : Fd xs) (hn : n ≤ 14) : ∃ (ns : List Int) (ys : List AV), Fd ys ∧ ns.length ≤ 14 ∧ f_law_shape [.ref 0, .int (n : Nat)] [xs] = .ok (.lst .new (ns.map .int)) [ys] := by
  suffices key : ∀ Q : FR → Prop, (∀ (ns : List Int) (ys : List AV), Fd ys → ns.length ≤ 14 → Q (.ok (.lst .new (ns.map .int)) [ys])) → Q (f_law_shape [.ref 0, .int (n : Nat)] [xs]) by
    exact key (fun r => ∃ (ns : List Int) (ys : List AV), Fd ys ∧ ns.length ≤ 14 ∧ r = .ok (.lst .new (ns.map .int)) [ys]) fun ns ys h1 h2 => ⟨ns, ys, h1, h2, rfl⟩
  intro Q k
  unfold f_law_shape bf_law_shape
  simp [ent, envOf, rngK1_nat (n := n) (by omega)]
  refine forL_inv _ (fun j e A => ∃ (ns : List Int) (ys : List AV) (left most : Int), ns.length ≤ j ∧ j ≤ n ∧ Fd ys ∧ 0 ≤ left ∧ left ≤ 14 ∧ (0 < n → 1 ≤ most) ∧ most ≤ 14 ∧
    e = [some (.ref 0), some (.int (n : Nat)), some (.ref 1), some (.int left), some (.int most), none] ∧ A = ⟨[some (.lst ys), some (.lst (ns.map .int))], 1⟩) (fun r => Q (closeF 1 (seqK r _))) (List.range n) 0 (fun j i e A hj hI => ?_) (fun e A hI => ?_) ⟨[], xs, n, n, by simp, by omega, hx, by omega, by omega, fun h => by omega, by omega, rfl, rfl⟩
  · obtain ⟨ns, ys, left, most, h1, h2, hy, h3, h4, h5, h6, rfl, rfl⟩ := hI
    obtain ⟨rfl, hin⟩ := range_get hj
    simp only [Nat.zero_add] at *
    refine ⟨_, _, rfl, ?_⟩
    have h5' := h5 (by omega)
    by_cases hl : 0 < left
    · obtain ⟨v, y2, hy2, v0, v1, d⟩ := draw0 hy [some (.lst (ns.map .int))] 1 (min left most) (by omega) (by omega)
      have hs : ns.length < PySem.sizeLine := by show _ < 16777216; omega
      conv => arg 4; simp [hl, d, hs]
      refine ⟨ns ++ [1 + v], y2, left - (1 + v), 1 + v, by simp; omega, by omega, hy2, by omega, by omega, fun _ => by omega, by omega, rfl, by simp⟩
    · conv => arg 4; simp [hl]
      exact ⟨ns, ys, left, most, by omega, by omega, hy, by omega, by omega, h5, by omega, rfl, rfl⟩
  · obtain ⟨ns, ys, left, most, h1, h2, hy, h3, h4, h5, h6, rfl, rfl⟩ := hI
    simp [frA, hy.pure]
    rw [close1 rfl hy.pure (by simp)]
    exact k ns ys hy (by omega)
theorem set0 {c : Option Cell} {cl : List (Option Cell)} {lo : Nat} {c' : Option Cell} : (⟨(c :: cl).set 0 c', lo⟩ : St) = ⟨c' :: cl, lo⟩ := rfl
theorem shape_call {xs : List AV} (hx : Fd xs) (cl : List (Option Cell)) (lo : Nat) (n : Nat) (hn : n ≤ 14) : ∃ (ns : List Int) (ys : List AV), Fd ys ∧ ns.length ≤ 14 ∧ callF false f_law_shape [true, false] [.ref 0, .int (n : Nat)] ⟨some (.lst xs) :: cl, lo⟩ = .ok (.lst .new (ns.map .int)) ⟨some (.lst ys) :: cl, lo⟩ := by
  obtain ⟨ns, ys, hy, hl, e⟩ := shape_q (toOlds xs) n hx.olds hn
  refine ⟨ns, imps ys, hy.imps, hl, ?_⟩
  rw [callF_t2 (xs := xs) rfl hx.pure, expK_int, lentV_int, e, conK_t (by simp) hy.pure]
  simp

/-! ## moves that are made -/
def mvT (p : Nat × Nat) : AV := .tup [.int (p.1 : Nat), .int (p.2 : Nat)]
theorem mvT_ok (p : Nat × Nat) : okV 1 (mvT p) = true := by simp [mvT, okV]
theorem walk_snoc : ∀ (ms : List AV) (ns : List Int) (m : AV), walkP ns (ms ++ [m]) = match walkP ns ms with
    | some k => stepP k m
    | none => none
  | [], ns, m => by
    rw [List.nil_append]
    simp only [walkP]
    cases stepP ns m <;> rfl
  | x :: ms, ns, m => by
    rw [List.cons_append]
    simp only [walkP]
    cases stepP ns x with
    | none => rfl
    | some k => exact walk_snoc ms k m
def GoodM (now : List Int) (p : Nat × Nat) : Prop := p.1 < p.2 ∧ p.2 ≤ now.length ∧ fallB (movedP now p.1 p.2) = true
theorem good_step {now : List Int} {p : Nat × Nat} (h : GoodM now p) : stepP now (mvT p) = some (movedP now p.1 p.2) := by
  obtain ⟨h1, h2, h3⟩ := h
  have hb : mvB (mvT p) now.length = true := by
    unfold mvT
    rw [mvB_two]
    simp
    omega
  unfold stepP mvT mvOf
  dsimp only
  rw [if_pos (by omega)]
  simp [h3]
def bdw : CS := (sSeq (sSet 6 (cN false lstD cNil))
  (sSeq (sFor (iRng1 (cCons (cN false lenD (cCons (cVar 4) cNil)) cNil)) (gN 7)
  (sSet 6 (c2 false addD (cVar 6) (cComp false (iRng2 (cCons (c2 false addD (cVar 7) (cK (.int 1))) (cCons (c2 false addD (cN false lenD (cCons (cVar 4) cNil)) (cK (.int 1))) cNil))) (gN 9) (cCall false f_law_falls [false] (cCons (cCall false f_law_moved [false, false, false] (cCons (cVar 4) (cCons (cVar 7) (cCons (cVar 9) cNil)))) cNil)) (cN false tupD (cCons (cVar 7) (cCons (cVar 9) cNil))) [9]))) [7])
  (sIf (c1 false truD (cVar 6))
  (sSeq (sSet 8 (c2 false ixD (cVar 6) (cCall false f_law_draw [true, false] (cCons (cVar 0) (cCons (cN false lenD (cCons (cVar 6) cNil)) cNil)))))
  (sSeq (sExpr (cM false appendD (cVar 3) (cCons (cVar 8) cNil)))
  (sSet 4 (cCall false f_law_moved [false, false, false] (cCons (cVar 4) (cCons (c2 false ixD (cVar 8) (cK (.int 0))) (cCons (c2 false ixD (cVar 8) (cK (.int 1))) cNil)))))))
  sSkip)))
theorem range_mem {n i : Nat} (h : i ∈ List.range n) : i < n := List.mem_range.mp h
/-- the ways from one line -/
theorem ways_i (now : List Int) (i : Nat) (hi : i < now.length) (hl : now.length ≤ 30) (e0 e1 e2 e3 e5 e6 e8 : Option AV) (A : St) :
    ∃ ps : List (Nat × Nat), ps.length ≤ 31 ∧ (∀ p ∈ ps, GoodM now p) ∧
    cComp false (iRng2 (cCons (c2 false addD (cVar 7) (cK (.int 1))) (cCons (c2 false addD (cN false lenD (cCons (cVar 4) cNil)) (cK (.int 1))) cNil))) (gN 9) (cCall false f_law_falls [false] (cCons (cCall false f_law_moved [false, false, false] (cCons (cVar 4) (cCons (cVar 7) (cCons (cVar 9) cNil)))) cNil)) (cN false tupD (cCons (cVar 7) (cCons (cVar 9) cNil))) [9] [e0, e1, e2, e3, some (.lst .new (now.map .int)), e5, e6, some (.int (i : Nat)), e8, none] A = .ok (.lst .new (ps.map mvT)) A := by
  have r2 : ∀ A, rngK2 [.int ((i : Int) + 1), .int ((now.length : Int) + 1)] A = .ok ((List.range (now.length - i)).map fun j => AV.int ((i : Int) + 1 + (j : Nat))) A := fun A => by
    rw [rngK2_int (by omega) (by omega) (by omega) (by omega), show (((now.length : Int) + 1) - ((i : Int) + 1)).toNat = now.length - i by omega]
  have c := compL_ok (tgt := gN 9) (t := cCall false f_law_falls [false] (cCons (cCall false f_law_moved [false, false, false] (cCons (cVar 4) (cCons (cVar 7) (cCons (cVar 9) cNil)))) cNil)) (elt := cN false tupD (cCons (cVar 7) (cCons (cVar 9) cNil))) (env0 := [e0, e1, e2, e3, some (.lst .new (now.map .int)), e5, e6, some (.int (i : Nat)), e8, none]) (A := A) (g := fun j : Nat => AV.int ((i : Int) + 1 + (j : Nat)))
    (fun j => fallB (movedP now i (i + 1 + j))) (fun j => mvT (i, i + 1 + j)) (xs := List.range (now.length - i)) (fun j hj => by
      have hj := range_mem hj
      refine ⟨_, rfl, ?_, fun _ => ?_⟩
      · have ml := movedP_len (ns := now) (i := i) (j := i + 1 + j) (by omega)
        have ml2 : (movedP now i (i + 1 + j)).length ≤ now.length + 1 := by rw [ml]; split <;> omega
        have m := lmoved_f now i (i + 1 + j) .new A (by omega) (by omega) (by omega)
        have f := falls_f (movedP now i (i + 1 + j)) .new A (by omega)
        push_cast at m
        simp [m, f]
      · simp [mvT])
  refine ⟨((List.range (now.length - i)).filter fun j => fallB (movedP now i (i + 1 + j))).map fun j => (i, i + 1 + j), ?_, fun p hp => ?_, ?_⟩
  · rw [List.length_map]
    refine Nat.le_trans (List.length_filter_le _ _) ?_
    simp
    omega
  · obtain ⟨j, hj, rfl⟩ := List.mem_map.mp hp
    obtain ⟨hj, hf⟩ := List.mem_filter.mp hj
    have := range_mem hj
    exact ⟨by dsimp only; omega, by dsimp only; omega, hf⟩
  · simp [r2]
    have h100 : 100 ≤ PySem.sizeLine := by decide
    rw [compK_eq (by simp; omega), c]
    simp
/-- all ways -/
def wy : CS := (sSet 6 (c2 false addD (cVar 6) (cComp false (iRng2 (cCons (c2 false addD (cVar 7) (cK (.int 1))) (cCons (c2 false addD (cN false lenD (cCons (cVar 4) cNil)) (cK (.int 1))) cNil))) (gN 9) (cCall false f_law_falls [false] (cCons (cCall false f_law_moved [false, false, false] (cCons (cVar 4) (cCons (cVar 7) (cCons (cVar 9) cNil)))) cNil)) (cN false tupD (cCons (cVar 7) (cCons (cVar 9) cNil))) [9])))
def wtail : CS := (sIf (c1 false truD (cVar 6))
  (sSeq (sSet 8 (c2 false ixD (cVar 6) (cCall false f_law_draw [true, false] (cCons (cVar 0) (cCons (cN false lenD (cCons (cVar 6) cNil)) cNil)))))
  (sSeq (sExpr (cM false appendD (cVar 3) (cCons (cVar 8) cNil)))
  (sSet 4 (cCall false f_law_moved [false, false, false] (cCons (cVar 4) (cCons (c2 false ixD (cVar 8) (cK (.int 0))) (cCons (c2 false ixD (cVar 8) (cK (.int 1))) cNil)))))))
  sSkip)
theorem bdw_eq : bdw = (sSeq (sSet 6 (cN false lstD cNil)) (sSeq (sFor (iRng1 (cCons (cN false lenD (cCons (cVar 4) cNil)) cNil)) (gN 7) wy [7]) wtail)) := rfl
theorem ways_q (now : List Int) (hl : now.length ≤ 30) (e0 e1 e2 e3 e5 : Option AV) (A : St) (Q : RS → Prop)
    (k : ∀ ps : List (Nat × Nat), ps.length ≤ 1000 → (∀ p ∈ ps, GoodM now p) → Q (.nx [e0, e1, e2, e3, some (.lst .new (now.map .int)), e5, some (.lst .new (ps.map mvT)), none, none, none] A)) :
    Q (forL (gN 7) wy [7] ((List.range now.length).map fun i => AV.int (i : Nat)) [e0, e1, e2, e3, some (.lst .new (now.map .int)), e5, some (.lst .new []), none, none, none] A) := by
  refine forL_inv (tgt := gN 7) (body := wy) (dead := [7]) (fun i : Nat => AV.int (i : Nat)) (fun j e A' => ∃ ps : List (Nat × Nat), ps.length ≤ 31 * j ∧ (∀ p ∈ ps, GoodM now p) ∧ e = [e0, e1, e2, e3, some (.lst .new (now.map .int)), e5, some (.lst .new (ps.map mvT)), none, none, none] ∧ A' = A) Q (List.range now.length) 0 (fun j i e A' hj hI => ?_) (fun e A' hI => ?_) ⟨[], by simp, by simp, rfl, rfl⟩
  · obtain ⟨ps, h1, h2, rfl, rfl⟩ := hI
    obtain ⟨rfl, hin⟩ := range_get hj
    simp only [Nat.zero_add] at *
    obtain ⟨qs, g1, g2, w⟩ := ways_i now i hin hl e0 e1 e2 e3 e5 (some (.lst .new (ps.map mvT))) none A'
    refine ⟨_, _, rfl, ?_⟩
    have ha : ∀ A, addD (.lst .new (ps.map mvT)) (.lst .new (qs.map mvT)) A = .lst (ps.map mvT ++ qs.map mvT) := fun A => x_addL (by simp; omega)
    unfold wy
    conv => arg 4; simp [-e_comp, w, ha]
    refine ⟨ps ++ qs, by simp; omega, fun p hp => ?_, by simp, rfl⟩
    rcases List.mem_append.mp hp with h | h
    · exact h2 p h
    · exact g2 p h
  · obtain ⟨ps, h1, h2, rfl, rfl⟩ := hI
    simp only [Nat.zero_add, List.length_range] at h1
    exact k ps (by omega) h2
theorem down_q (xs : List AV) (ns : List Int) (m : Nat) (hx : Fd xs) (hn : ns.length ≤ 14) (hm : m ≤ 7) :
    ∃ (ms : List (Nat × Nat)) (now : List Int) (ys : List AV), Fd ys ∧ ms.length ≤ 7 ∧ now.length ≤ 21 ∧ walkP ns (ms.map mvT) = some now ∧ f_law_down [.ref 0, .lst .old (ns.map .int), .int (m : Nat)] [xs] = .ok (.lst .new [.lst .new (ms.map mvT), .lst .new (now.map .int)]) [ys] := by
  suffices key : ∀ Q : FR → Prop, (∀ (ms : List (Nat × Nat)) (now : List Int) (ys : List AV), Fd ys → ms.length ≤ 7 → now.length ≤ 21 → walkP ns (ms.map mvT) = some now → Q (.ok (.lst .new [.lst .new (ms.map mvT), .lst .new (now.map .int)]) [ys])) → Q (f_law_down [.ref 0, .lst .old (ns.map .int), .int (m : Nat)] [xs]) by
    exact key (fun r => ∃ (ms : List (Nat × Nat)) (now : List Int) (ys : List AV), Fd ys ∧ ms.length ≤ 7 ∧ now.length ≤ 21 ∧ walkP ns (ms.map mvT) = some now ∧ r = .ok (.lst .new [.lst .new (ms.map mvT), .lst .new (now.map .int)]) [ys]) fun ms now ys h1 h2 h3 h4 => ⟨ms, now, ys, h1, h2, h3, h4, rfl⟩
  intro Q k
  have pm : ∀ ms : List (Nat × Nat), pureBs (ms.map mvT) = true := fun ms => pureBs_all fun x hx => by
    obtain ⟨p, _, rfl⟩ := List.mem_map.mp hx
    exact (okF _ _ (mvT_ok p)).p
  unfold f_law_down bf_law_down
  show Q (runF 3 10 (sSeq _ (sSeq _ (sSeq (sFor _ _ bdw _) _))) _ _)
  rw [bdw_eq]
  simp [ent, envOf, rngK1_nat (n := m) (by omega)]
  refine forL_inv _ (fun j e A => ∃ (ms : List (Nat × Nat)) (now : List Int) (ys : List AV), Fd ys ∧ ms.length ≤ j ∧ j ≤ m ∧ now.length ≤ 14 + j ∧ walkP ns (ms.map mvT) = some now ∧ e = [some (.ref 0), some (.lst .old (ns.map .int)), some (.int (m : Nat)), some (.ref 1), some (.lst .new (now.map .int)), none, none, none, none, none] ∧ A = ⟨[some (.lst ys), some (.lst (ms.map mvT))], 1⟩) (fun r => Q (closeF 1 (seqK r _))) (List.range m) 0 (fun j i e A hj hI => ?_) (fun e A hI => ?_) ⟨[], ns, xs, hx, by simp, by omega, by omega, rfl, rfl, rfl⟩
  · obtain ⟨ms, now, ys, hy, h1, h2, h3, h4, rfl, rfl⟩ := hI
    obtain ⟨rfl, hin⟩ := range_get hj
    simp only [Nat.zero_add] at *
    refine ⟨_, _, rfl, ?_⟩
    simp [rngK1_nat (n := now.length) (by omega)]
    refine ways_q now (by omega) _ _ _ _ _ _ (fun r => Stp _ _ _ (seqK r wtail)) fun ps hp1 hp2 => ?_
    unfold wtail
    by_cases h : 0 < ps.length
    · obtain ⟨v, y2, hy2, v0, v1, d⟩ := draw0 hy [some (.lst (ms.map mvT))] 1 (ps.length : Int) (by omega) (by omega)
      obtain ⟨q, hq⟩ : ∃ q, ps[v.toNat]? = some q := ⟨_, List.getElem?_eq_getElem (by omega)⟩
      have hg := hp2 q (List.mem_of_getElem? hq)
      have hat : L2.atI (ps.map mvT) v = some (mvT q) := by
        rw [atI_nn _ v0, List.getElem?_map, hq]
        rfl
      have mv := lmoved_f now q.1 q.2 .new ⟨[some (.lst y2), some (.lst (ms.map mvT ++ [mvT q]))], 1⟩ hg.1 hg.2.1 (by omega)
      have ml := movedP_len (ns := now) (i := q.1) (j := q.2) hg.2.1
      have ml2 : (movedP now q.1 q.2).length ≤ now.length + 1 := by rw [ml]; split <;> omega
      have gs := good_step hg
      have hs : ms.length < PySem.sizeLine := hsz (by omega)
      have i0 : ∀ A, ixD (mvT q) (.int 0) A = .val (.int (q.1 : Nat)) := fun A => by simp [mvT]
      have i1 : ∀ A, ixD (mvT q) (.int 1) A = .val (.int (q.2 : Nat)) := fun A => by simp [mvT]
      generalize movedP now q.1 q.2 = R at *
      conv => arg 4; simp [h, d, hat, hs, i0, i1, mv]
      refine ⟨ms ++ [q], R, y2, hy2, by simp; omega, by omega, by omega, ?_, by simp, by simp⟩
      rw [List.map_append, List.map_singleton, walk_snoc, h4]
      exact gs
    · conv => arg 4; simp [h]
      exact ⟨ms, now, ys, hy, by omega, by omega, by omega, h4, by simp, rfl⟩
  · obtain ⟨ms, now, ys, hy, h1, h2, h3, h4, rfl, rfl⟩ := hI
    simp only [Nat.zero_add, List.length_range] at *
    simp [frA, hy.pure, pm]
    rw [close1 rfl hy.pure (by simp [pm])]
    exact k ms now ys hy (by omega) (by omega) h4

/-! ## numbers and first sums -/
def vl (ns : List Int) (i : Nat) : Int := ns[i]?.getD 0
def Pf (ns : List Int) : Nat → Int
  | 0 => 0
  | k + 1 => Pf ns k + vl ns k
structure Shp (ns : List Int) : Prop where
  pos : ∀ i, i < ns.length → 1 ≤ vl ns i
  anti : ∀ i, vl ns (i + 1) ≤ vl ns i
theorem vl_ge {ns : List Int} {i : Nat} (h : ns.length ≤ i) : vl ns i = 0 := by
  unfold vl
  rw [List.getElem?_eq_none h]
  rfl
theorem vl_get {ns : List Int} {i : Nat} (h : i < ns.length) : ns[i]? = some (vl ns i) := by
  unfold vl
  rw [List.getElem?_eq_getElem h]
  rfl
theorem Shp.mono {ns : List Int} (h : Shp ns) {i : Nat} : ∀ {j}, i ≤ j → vl ns j ≤ vl ns i
  | 0, hij => by
    have : i = 0 := by omega
    subst this
    omega
  | j + 1, hij => by
    by_cases e : i = j + 1
    · subst e; omega
    · have := h.mono (i := i) (j := j) (by omega)
      have := h.anti j
      omega
theorem Shp.nn {ns : List Int} (h : Shp ns) (i : Nat) : 0 ≤ vl ns i := by
  by_cases hi : i < ns.length
  · have := h.pos i hi; omega
  · rw [vl_ge (by omega)]; omega
theorem Shp.zero {ns : List Int} (h : Shp ns) {i : Nat} (h0 : vl ns i < 1) : ns.length ≤ i := by
  by_cases hi : i < ns.length
  · have := h.pos i hi; omega
  · omega
theorem fall_iff (ns : List Int) : fallB ns = true ↔ Shp ns := by
  have hb : ∀ i, i < ns.length → badB ns i = (decide (vl ns i < 1) || (decide (0 < i) && decide (vl ns (i - 1) < vl ns i))) := fun i hi => by
    unfold badB
    rw [vl_get hi]
    rfl
  unfold fallB
  constructor
  · intro h
    have h : ∀ i, i < ns.length → badB ns i = false := by
      simpa using h
    refine ⟨fun i hi => ?_, fun i => ?_⟩
    · have := h i hi
      rw [hb i hi] at this
      simp at this
      omega
    · by_cases hi : i + 1 < ns.length
      · have := h (i + 1) hi
        rw [hb _ hi] at this
        simp at this
        omega
      · rw [vl_ge (i := i + 1) (by omega)]
        by_cases hi2 : i < ns.length
        · have := h i hi2
          rw [hb _ hi2] at this
          simp at this
          omega
        · rw [vl_ge (by omega)]; omega
  · intro h
    have : ∀ i, i < ns.length → badB ns i = false := fun i hi => by
      rw [hb i hi]
      have h1 := h.pos i hi
      have h2 := h.mono (i := i - 1) (j := i) (by omega)
      simp
      omega
    simpa using this
theorem Pf_take (ns : List Int) : ∀ k, (ns.take k).sum = Pf ns k
  | 0 => by simp [Pf]
  | k + 1 => by
    unfold Pf
    rw [← Pf_take ns k]
    by_cases h : k < ns.length
    · rw [List.take_succ, vl_get h]
      simp
    · rw [vl_ge (by omega), List.take_of_length_le (by omega), List.take_of_length_le (by omega)]
      omega
theorem Pf_sum {ns : List Int} {k : Nat} (h : ns.length ≤ k) : Pf ns k = ns.sum := by
  rw [← Pf_take, List.take_of_length_le h]
theorem vl_append (ns : List Int) (t : Nat) : vl (ns ++ [0]) t = vl ns t := by
  unfold vl
  rw [List.getElem?_append]
  split
  · rfl
  · rename_i h
    rw [List.getElem?_eq_none (l := ns) (by omega)]
    by_cases h2 : t - ns.length = 0
    · rw [h2]; rfl
    · rw [List.getElem?_eq_none (by simp; omega)]
theorem vl_inc {ns : List Int} {i : Nat} {d : Int} (h : i < ns.length) (t : Nat) : vl (incAt ns i d) t = vl ns t + if t = i then d else 0 := by
  unfold vl incAt
  rw [List.getElem?_set]
  by_cases e : i = t
  · subst e
    rw [if_pos rfl, if_pos h, if_pos rfl]
    rfl
  · rw [if_neg e, if_neg (Ne.symm e)]
    omega
theorem vl_moved {ns : List Int} {i j : Nat} (hij : i < j) (hj : j ≤ ns.length) (t : Nat) : vl (movedP ns i j) t = vl ns t + (if t = i then -1 else 0) + (if t = j then 1 else 0) := by
  unfold movedP
  have hl : (if j = ns.length then ns ++ [0] else ns).length = if j = ns.length then ns.length + 1 else ns.length := by split <;> simp
  rw [vl_inc (by rw [incAt_len, hl]; split <;> omega), vl_inc (by rw [hl]; split <;> omega)]
  split
  · rw [vl_append]
  · rfl
theorem Pf_moved {ns : List Int} {i j : Nat} (hij : i < j) (hj : j ≤ ns.length) : ∀ k, Pf (movedP ns i j) k = Pf ns k + (if i < k then -1 else 0) + (if j < k then 1 else 0)
  | 0 => by simp [Pf]
  | k + 1 => by
    unfold Pf
    rw [Pf_moved hij hj k, vl_moved hij hj k]
    split <;> split <;> split <;> split <;> (try split) <;> (try split) <;> omega
theorem sum_moved {ns : List Int} {i j : Nat} (hij : i < j) (hj : j ≤ ns.length) : (movedP ns i j).sum = ns.sum := by
  have hl := movedP_len (i := i) hj
  rw [← Pf_sum (k := ns.length + 1) (by rw [hl]; split <;> omega), Pf_moved hij hj, Pf_sum (by omega), if_pos (by omega), if_pos (by omega)]
  omega
theorem Shp.len {ns : List Int} (h : Shp ns) : ∀ k, k ≤ ns.length → (k : Int) ≤ Pf ns k
  | 0, _ => by simp [Pf]
  | k + 1, hk => by
    unfold Pf
    have := h.len k (by omega)
    have := h.pos k (by omega)
    push_cast
    omega
theorem Shp.len_le {ns : List Int} (h : Shp ns) : (ns.length : Int) ≤ ns.sum := by
  have := h.len ns.length (by omega)
  rwa [Pf_sum (by omega)] at this
theorem shp_ext {a b : List Int} (ha : Shp a) (hb : Shp b) (h : ∀ t, vl a t = vl b t) : a = b := by
  have hl : a.length = b.length := by
    rcases Nat.lt_trichotomy a.length b.length with g | g | g
    · have := hb.pos a.length g
      rw [← h, vl_ge (by omega)] at this
      omega
    · exact g
    · have := ha.pos b.length g
      rw [h, vl_ge (by omega)] at this
      omega
  apply List.ext_getElem?
  intro t
  by_cases ht : t < a.length
  · rw [vl_get ht, vl_get (by omega), h]
  · rw [List.getElem?_eq_none (by omega), List.getElem?_eq_none (by omega)]
/-- the least number -/
theorem least {p : Nat → Prop} [DecidablePred p] : ∀ n, p n → ∃ m, m ≤ n ∧ p m ∧ ∀ t, t < m → ¬ p t
  | 0, h => ⟨0, by omega, h, by omega⟩
  | n + 1, h => by
    by_cases e : ∃ t, t ≤ n ∧ p t
    · obtain ⟨t, h1, h2⟩ := e
      obtain ⟨m, h3, h4, h5⟩ := least t h2
      exact ⟨m, by omega, h4, h5⟩
    · exact ⟨n + 1, by omega, h, fun t ht hp => e ⟨t, by omega, hp⟩⟩
termination_by n => n
/-- the greatest number below n -/
theorem greatest {p : Nat → Prop} [DecidablePred p] : ∀ n t, t < n → p t → ∃ m, t ≤ m ∧ m < n ∧ p m ∧ ∀ s, m < s → s < n → ¬ p s
  | 0, t, h, _ => by omega
  | n + 1, t, h, hp => by
    by_cases e : p n
    · exact ⟨n, by omega, by omega, e, by omega⟩
    · have htn : t ≠ n := fun x => e (x ▸ hp)
      obtain ⟨m, h1, h2, h3, h4⟩ := greatest n t (by omega) hp
      refine ⟨m, h1, by omega, h3, fun s hs hsn => ?_⟩
      by_cases hsn2 : s = n
      · rw [hsn2]; exact e
      · exact h4 s hs (by omega)
def dom (a b : List Int) : Prop := ∀ k, Pf b k ≤ Pf a k
/-- what next_move finds -/
structure NM (a b : List Int) (n f l i j : Nat) : Prop where
  eqf : ∀ t, t < f → vl a t = vl b t
  nef : vl a f ≠ vl b f
  fl : f < l
  ln : l < n
  up : ∀ t, f ≤ t → t < l → Pf b (t + 1) < Pf a (t + 1)
  eql : Pf a (l + 1) = Pf b (l + 1)
  ie : vl a i = vl a f
  inn : i < n
  il : ∀ s, i < s → s < n → vl a s ≠ vl a f
  je : vl a j = vl a l
  jn : j < n
  jl : ∀ s, s < j → vl a s ≠ vl a l
theorem nm_ex {a b : List Int} (ha : Shp a) (hb : Shp b) (hs : a.sum = b.sum) (hd : dom a b) (hne : a ≠ b) (n : Nat) (hn : a.length < n) (hn2 : b.length < n) :
    ∃ f l i j, NM a b n f l i j := by
  have hex : ∃ t, t < n ∧ vl a t ≠ vl b t := by
    refine Decidable.byContradiction fun h => hne (shp_ext ha hb fun t => ?_)
    by_cases ht : t < n
    · exact Decidable.byContradiction fun g => h ⟨t, ht, g⟩
    · rw [vl_ge (by omega), vl_ge (by omega)]
  obtain ⟨t, ht, hv⟩ := hex
  obtain ⟨f, hf, hfv, hfl⟩ := least (p := fun t => vl a t ≠ vl b t) t hv
  have hfl : ∀ t, t < f → vl a t = vl b t := fun t ht => Decidable.byContradiction (hfl t ht)
  have hpf : ∀ k, k ≤ f → Pf a k = Pf b k := by
    intro k
    induction k with
    | zero => intro _; rfl
    | succ k ih =>
      intro hk
      unfold Pf
      rw [ih (by omega), hfl k (by omega)]
  have hup : Pf b (f + 1) < Pf a (f + 1) := by
    have := hd (f + 1)
    unfold Pf at this ⊢
    have := hpf f (by omega)
    omega
  have hfn : f < n - 1 := by
    refine Decidable.byContradiction fun h => hfv ?_
    rw [vl_ge (by omega), vl_ge (by omega)]
  have hend : Pf a n = Pf b n := by rw [Pf_sum (by omega), Pf_sum (by omega), hs]
  obtain ⟨l, hl1, ⟨hl2, hl3⟩, hl4⟩ := least (p := fun t => f < t ∧ Pf a (t + 1) = Pf b (t + 1)) (n - 1) ⟨hfn, by rw [show n - 1 + 1 = n by omega]; exact hend⟩
  have hup2 : ∀ t, f ≤ t → t < l → Pf b (t + 1) < Pf a (t + 1) := fun t h1 h2 => by
    by_cases e : t = f
    · rw [e]; exact hup
    · have := hd (t + 1)
      have : Pf a (t + 1) ≠ Pf b (t + 1) := fun h => hl4 t h2 ⟨by omega, h⟩
      omega
  obtain ⟨i, hi1, hi2, hi3, hi4⟩ := greatest (p := fun t => vl a t = vl a f) n f (by omega) rfl
  obtain ⟨j, hj1, hj2, hj3⟩ := least (p := fun t => vl a t = vl a l) l rfl
  exact ⟨f, l, i, j, hfl, hfv, hl2, by omega, hup2, hl3, hi3, hi2, hi4, hj2, by omega, hj3⟩
structure NG (a b : List Int) (i j : Nat) : Prop where
  ij : i < j
  jl : j ≤ a.length
  shp : Shp (movedP a i j)
  dm : dom (movedP a i j) b
theorem nm_good {a b : List Int} (ha : Shp a) (hb : Shp b) (hd : dom a b) {n f l i j : Nat} (hn : a.length < n) (h : NM a b n f l i j) : NG a b i j := by
  have e1 := h.up f (by omega) h.fl
  have e2 := h.up (l - 1) (by have := h.fl; omega) (by have := h.fl; omega)
  have hfl := h.fl
  have hpf : ∀ k, k ≤ f → Pf a k = Pf b k := by
    intro k
    induction k with
    | zero => intro _; rfl
    | succ k ih =>
      intro hk
      unfold Pf
      rw [ih (by omega), h.eqf k (by omega)]
  have v1 : vl b f < vl a f := by
    have := hpf f (by omega)
    unfold Pf at e1
    omega
  have v2 : vl a l < vl b l := by
    have := h.eql
    unfold Pf at this
    rw [show l - 1 + 1 = l by omega] at e2
    omega
  have v3 := hb.mono (i := f) (j := l) (by omega)
  have hfi : f ≤ i := Decidable.byContradiction fun g => by
    exact h.il f (by omega) (by have := h.ln; omega) rfl
  have hjl : j ≤ l := Decidable.byContradiction fun g => h.jl l (by omega) rfl
  have hij : i < j := Decidable.byContradiction fun g => by
    have := ha.mono (i := j) (j := i) (by omega)
    have := h.ie
    have := h.je
    omega
  have hja : j ≤ a.length := Decidable.byContradiction fun g => by
    have h1 := h.jl a.length (by omega)
    rw [vl_ge (by omega)] at h1
    have h2 := h.je
    rw [vl_ge (by omega)] at h2
    omega
  have vm := vl_moved hij hja
  have hie := h.ie
  have hje := h.je
  refine ⟨hij, hja, ⟨fun t ht => ?_, fun t => ?_⟩, fun k => ?_⟩
  · rw [vm]
    have hl := movedP_len (i := i) hja
    rw [hl] at ht
    by_cases t1 : t = i
    · rw [if_pos t1, if_neg (by omega), t1]
      have := ha.nn l
      omega
    · by_cases t2 : t = j
      · rw [if_neg t1, if_pos t2]
        have := ha.nn t
        omega
      · rw [if_neg t1, if_neg t2]
        have : t < a.length := by split at ht <;> omega
        have := ha.pos t this
        omega
  · rw [vm, vm]
    have an := ha.anti t
    by_cases t1 : t = i
    · by_cases t2 : t + 1 = j
      · rw [if_neg (by omega), if_pos t2, if_pos t1, if_neg (by omega)]
        rw [t1] at t2 ⊢
        rw [← t2] at hje
        omega
      · have := h.il (t + 1) (by omega) (by have := h.jn; omega)
        rw [if_neg (by omega), if_neg t2, if_pos t1, if_neg (by omega)]
        rw [t1] at this an ⊢
        omega
    · by_cases t2 : t + 1 = j
      · have := h.jl t (by omega)
        rw [t2] at an ⊢
        rw [if_neg (by omega), if_pos rfl, if_neg t1, if_neg (by omega)]
        omega
      · rw [if_neg t2, if_neg t1]
        split <;> split <;> omega
  · rw [Pf_moved hij hja]
    have := hd k
    by_cases k1 : i < k
    · by_cases k2 : j < k
      · rw [if_pos k1, if_pos k2]; omega
      · have := h.up (k - 1) (by omega) (by omega)
        rw [show k - 1 + 1 = k by omega] at this
        rw [if_pos k1, if_neg k2]
        omega
    · rw [if_neg k1, if_neg (by omega)]; omega
/-- what falls -/
def Phi (ns : List Int) : Nat → Int
  | 0 => 0
  | k + 1 => Phi ns k + Pf ns k
theorem Phi_moved {a : List Int} {i j : Nat} (hij : i < j) (hj : j ≤ a.length) : ∀ k, Phi (movedP a i j) k ≤ Phi a k ∧ (i + 1 < k → Phi (movedP a i j) k < Phi a k)
  | 0 => by simp [Phi]
  | k + 1 => by
    have ih := Phi_moved hij hj k
    have e := Pf_moved hij hj k
    unfold Phi
    by_cases k1 : i < k
    · by_cases k2 : j < k
      · rw [if_pos k1, if_pos k2] at e
        have := ih.2 (by omega)
        omega
      · rw [if_pos k1, if_neg k2] at e
        omega
    · rw [if_neg k1, if_neg (by omega)] at e
      constructor <;> omega
theorem Phi_nn {a : List Int} (ha : Shp a) : ∀ k, 0 ≤ Phi a k
  | 0 => by simp [Phi]
  | k + 1 => by
    unfold Phi
    have := Phi_nn ha k
    have : 0 ≤ Pf a k := by
      clear this
      induction k with
      | zero => simp [Pf]
      | succ k ih =>
        unfold Pf
        have := ha.nn k
        omega
    omega
theorem Pf_le {a : List Int} (ha : Shp a) {k : Nat} : Pf a k ≤ a.sum := by
  by_cases h : a.length ≤ k
  · rw [Pf_sum h]; omega
  · have key : ∀ m, Pf a k ≤ Pf a (k + m) := by
      intro m
      induction m with
      | zero => simp
      | succ m ih =>
        rw [show k + (m + 1) = k + m + 1 by omega]
        show _ ≤ Pf a (k + m) + vl a (k + m)
        have := ha.nn (k + m)
        omega
    have := key (a.length - k)
    rw [show k + (a.length - k) = a.length by omega, Pf_sum (k := a.length) (Nat.le_refl _)] at this
    exact this
theorem Phi_le {a : List Int} (ha : Shp a) : ∀ k, Phi a k ≤ k * a.sum
  | 0 => by simp [Phi]
  | k + 1 => by
    unfold Phi
    have h1 := Phi_le ha k
    have h2 := Pf_le ha (k := k)
    push_cast
    rw [Int.add_mul]
    omega

theorem size_leK {n : Nat} (h : n ≤ 1000) : n ≤ PySem.sizeLine := by show n ≤ 16777216; omega
def cmp8 : CE := (cComp false (iEnm (cCons (cVar 3) cNil)) (gTp 2 (gNs [9, 10])) (c2 false eqD (cVar 10) (c2 false ixD (cVar 3) (cVar 5))) (cVar 9) [9, 10])
def nm8 : CS := (sSeq (sSet 8 cmp8)
  (sRet (cN false tupD (cCons (c2 false ixD (cVar 8) (c1 false negD (cK (.int 1)))) (cCons (cM false indexD (cVar 3) (cCons (c2 false ixD (cVar 3) (cVar 6)) cNil)) cNil)))))
def nm6 : CS := (sSeq (sSet 6 (cVar 5))
  (sSeq (sSet 7 (c2 false subD (c2 false ixD (cVar 3) (cVar 5)) (c2 false ixD (cVar 4) (cVar 5))))
  (sSeq (sWhile 1000 (c2 false gtD (cVar 7) (cK (.int 0)))
  (sSeq (sAug 6 addI (cK (.int 1)))
  (sAug 7 addI (c2 false subD (c2 false ixD (cVar 3) (cVar 6)) (c2 false ixD (cVar 4) (cVar 6))))) [])
  nm8)))
def nm5 : CS := (sSeq (sSet 5 (cK (.int 0)))
  (sSeq (sWhile 1000 (c2 false eqD (c2 false ixD (cVar 3) (cVar 5)) (c2 false ixD (cVar 4) (cVar 5)))
  (sAug 5 addI (cK (.int 1))) [])
  nm6))
def Mx (a : List Int) (n : Nat) : List Int := a ++ List.replicate (n - a.length) 0
theorem Mx_len {a : List Int} {n : Nat} (h : a.length ≤ n) : (Mx a n).length = n := by simp [Mx]; omega
theorem Mx_get {a : List Int} {n t : Nat} (h : a.length ≤ n) (ht : t < n) : (Mx a n)[t]? = some (vl a t) := by
  unfold Mx
  by_cases h1 : t < a.length
  · rw [List.getElem?_append_left h1, vl_get h1]
  · rw [List.getElem?_append_right (by omega), vl_ge (by omega), List.getElem?_replicate]
    rw [if_pos (by omega)]
theorem Mx_at {a : List Int} {n t : Nat} {f : Fl} {A : St} (h : a.length ≤ n) (ht : t < n) : ixD (.lst f ((Mx a n).map AV.int)) (.int (t : Nat)) A = .val (.int (vl a t)) := by
  simp [Mx_get h ht]
theorem Mx_zip {a : List Int} {n : Nat} (h : a.length ≤ n) : (Mx a n).zipIdx = (List.range n).map fun t => (vl a t, t) := by
  apply List.ext_getElem?
  intro t
  rw [List.getElem?_zipIdx, List.getElem?_map]
  by_cases ht : t < n
  · rw [Mx_get h ht, List.getElem?_range ht]
    simp
  · rw [List.getElem?_eq_none (by rw [Mx_len h]; omega), List.getElem?_eq_none (by simp; omega)]
    rfl
theorem last_filter {p : Nat → Bool} {n i : Nat} (hi : i < n) (h : p i = true) (hl : ∀ s, i < s → s < n → p s = false) : (List.range n).filter p = (List.range i).filter p ++ [i] := by
  have e : List.range n = List.range (i + 1) ++ (List.range (n - (i + 1))).map ((i + 1) + ·) := by
    rw [← List.range_add]
    congr 1
    omega
  have hz : ((List.range (n - (i + 1))).map ((i + 1) + ·)).filter p = [] := by
    rw [List.filter_eq_nil_iff]
    intro x hx
    obtain ⟨y, hy, rfl⟩ := List.mem_map.mp hx
    have := range_mem hy
    simp [hl (i + 1 + y) (by omega) (by omega)]
  rw [e, List.filter_append, List.range_succ, List.filter_append, hz]
  simp [h]
theorem mul0 {k : Int} {n : Nat} {f : Fl} {A : St} (h : k = (n : Nat)) (hn : n ≤ 1000) : mulD (.lst f [.int 0]) (.int k) A = .lst ((List.replicate n 0).map AV.int) := by
  subst h
  unfold mulD
  dsimp only
  have : listOf A (.lst f [AV.int 0]) = some [AV.int 0] := rfl
  rw [this]
  dsimp only
  have hs : [AV.int 0].length * n ≤ PySem.sizeLine := by simp; exact size_leK hn
  rw [if_pos ⟨by omega, by omega, by simpa using hs⟩]
  simp
theorem nm8_q {a b : List Int} {n f l i j : Nat} (h : NM a b n f l i j) (hn : a.length ≤ n) (hn2 : n ≤ 1000) (o0 o1 o2 o4 o7 : AV) :
    closeF 0 (nm8 [some o0, some o1, some o2, some (.lst .new ((Mx a n).map .int)), some o4, some (.int (f : Nat)), some (.int (l : Nat)), some o7, none, none, none] ⟨[], 0⟩) = .ok (.tup [.int (i : Nat), .int (j : Nat)]) [] := by
  have hf : f < n := by have := h.fl; have := h.ln; omega
  have hc : cmp8 [some o0, some o1, some o2, some (.lst .new ((Mx a n).map .int)), some o4, some (.int (f : Nat)), some (.int (l : Nat)), some o7, none, none, none] ⟨[], 0⟩ = .ok (.lst .new (((List.range n).filter fun t => decide (vl a t = vl a f)).map fun t => AV.int (t : Nat))) ⟨[], 0⟩ := by
    unfold cmp8
    have c := compL_ok (tgt := gTp 2 (gNs [9, 10])) (t := c2 false eqD (cVar 10) (c2 false ixD (cVar 3) (cVar 5))) (elt := cVar 9) (env0 := [some o0, some o1, some o2, some (.lst .new ((Mx a n).map .int)), some o4, some (.int (f : Nat)), some (.int (l : Nat)), some o7, none, none, none]) (A := ⟨[], 0⟩) (g := fun t : Nat => .tup [.int (t : Nat), .int (vl a t)]) (fun t => decide (vl a t = vl a f)) (fun t => AV.int (t : Nat)) (xs := List.range n) (fun t ht => by
      refine ⟨_, rfl, ?_, fun _ => rfl⟩
      simp [Mx_get hn hf])
    have e : ∀ A : St, enmK [.lst .new ((Mx a n).map AV.int)] A = .ok ((List.range n).map fun t : Nat => .tup [.int (t : Nat), .int (vl a t)]) A := fun A => by
      rw [enmK_lst ((pure_below _).2 _ (pure_ints _)), enmL_map, Mx_zip hn, List.map_map]
      rfl
    simp [e]
    rw [compK_eq (by simp; exact size_leK hn2), c]
    simp
  unfold nm8
  have hl := last_filter (p := fun t => decide (vl a t = vl a f)) h.inn (by simp [h.ie]) (fun s h1 h2 => by simp [h.il s h1 h2])
  rw [hl] at hc
  rw [s_seq, s_set, hc]
  have hat : ∀ xs : List AV, L2.atI (xs ++ [AV.int (i : Nat)]) (-1) = some (.int (i : Nat)) := fun xs => by simp
  have hM : (Mx a n)[l]? = some (vl a l) := Mx_get hn h.ln
  have hix : ∀ A, indexD (.lst .new ((Mx a n).map AV.int)) [.int (vl a l)] A = .val (.int (j : Nat)) := fun A => by
    unfold indexD
    dsimp only
    have : listOf A (.lst .new ((Mx a n).map AV.int)) = some ((Mx a n).map AV.int) := rfl
    rw [this]
    dsimp only
    rw [intsOf_map]
    dsimp only
    have hj : (Mx a n).findIdx? (· == vl a l) = some j := by
      rw [List.findIdx?_eq_some_iff_getElem]
      have hjl : j < (Mx a n).length := by rw [Mx_len hn]; exact h.jn
      refine ⟨hjl, ?_, fun s hs => ?_⟩
      · have := Mx_get hn h.jn
        rw [List.getElem?_eq_getElem hjl] at this
        have := Option.some.inj this
        rw [this, h.je]
        simp
      · have hsl : s < (Mx a n).length := by omega
        have := Mx_get (a := a) hn (show s < n by have := h.jn; omega)
        rw [List.getElem?_eq_getElem hsl] at this
        have := Option.some.inj this
        rw [this]
        have := h.jl s hs
        simpa using this
    rw [hj]
  simp [hat, hM, hix, close0]
theorem nm6_q {a b : List Int} {n f l i j : Nat} (h : NM a b n f l i j) (hn : a.length ≤ n) (hb : b.length ≤ n) (hn2 : n ≤ 900) (o0 o1 o2 : AV) :
    closeF 0 (nm6 [some o0, some o1, some o2, some (.lst .new ((Mx a n).map .int)), some (.lst .new ((Mx b n).map .int)), some (.int (f : Nat)), none, none, none, none, none] ⟨[], 0⟩) = .ok (.tup [.int (i : Nat), .int (j : Nat)]) [] := by
  have hf : f < n := by have := h.fl; have := h.ln; omega
  have hfl := h.fl
  have hln := h.ln
  have hpf : ∀ k, k ≤ f → Pf a k = Pf b k := by
    intro k
    induction k with
    | zero => intro _; rfl
    | succ k ih =>
      intro hk
      unfold Pf
      rw [ih (by omega), h.eqf k (by omega)]
  suffices key : ∀ Q : FR → Prop, Q (.ok (.tup [.int (i : Nat), .int (j : Nat)]) []) → Q (closeF 0 (nm6 [some o0, some o1, some o2, some (.lst .new ((Mx a n).map .int)), some (.lst .new ((Mx b n).map .int)), some (.int (f : Nat)), none, none, none, none, none] ⟨[], 0⟩)) from key (fun r => r = .ok (.tup [.int (i : Nat), .int (j : Nat)]) []) rfl
  intro Q k
  unfold nm6
  simp [Mx_get hn hf, Mx_get hb hf]
  refine whileL_inv (fun m e A => ∃ t : Nat, f ≤ t ∧ t ≤ l ∧ m = l - t ∧ e = [some o0, some o1, some o2, some (.lst .new ((Mx a n).map .int)), some (.lst .new ((Mx b n).map .int)), some (.int (f : Nat)), some (.int (t : Nat)), some (.int (Pf a (t + 1) - Pf b (t + 1))), none, none, none] ∧ A = ⟨[], 0⟩) (fun r => Q (closeF 0 (seqK r _))) (fun m e A hI => ?_) 1000 (l - f) _ _ (by omega) ⟨f, by omega, by omega, rfl, by
    have : Pf a (f + 1) - Pf b (f + 1) = vl a f - vl b f := by
      have := hpf f (by omega)
      unfold Pf
      omega
    rw [this], rfl⟩
  obtain ⟨t, t1, t2, rfl, rfl, rfl⟩ := hI
  by_cases ht : t < l
  · have hu := h.up t t1 ht
    refine Or.inr ⟨⟨[], 0⟩, ?_, ?_⟩
    · simp
      omega
    · have g1 := Mx_get hn (show t + 1 < n by omega)
      have g2 := Mx_get hb (show t + 1 < n by omega)
      have i1 := Mx_at (f := .new) (A := ⟨[], 0⟩) hn (show t + 1 < n by omega)
      have i2 := Mx_at (f := .new) (A := ⟨[], 0⟩) hb (show t + 1 < n by omega)
      push_cast at i1 i2
      conv => arg 4; simp [i1, i2, -x_ixL]
      refine ⟨l - (t + 1), by omega, t + 1, by omega, by omega, rfl, ?_, rfl⟩
      have : Pf a (t + 1) - Pf b (t + 1) + (vl a (t + 1) - vl b (t + 1)) = Pf a (t + 1 + 1) - Pf b (t + 1 + 1) := by
        show _ = (Pf a (t + 1) + vl a (t + 1)) - (Pf b (t + 1) + vl b (t + 1))
        omega
      rw [this]
      simp
  · have : t = l := by omega
    subst this
    refine Or.inl ⟨⟨[], 0⟩, ?_, ?_⟩
    · have := h.eql
      simp
      omega
    · have := nm8_q h hn (by omega) o0 o1 o2 (.lst .new ((Mx b n).map .int)) (.int (Pf a (t + 1) - Pf b (t + 1)))
      rw [← this] at k
      simpa using k
theorem nm5_q {a b : List Int} {n f l i j : Nat} (h : NM a b n f l i j) (hn : a.length ≤ n) (hb : b.length ≤ n) (hn2 : n ≤ 900) (o0 o1 o2 : AV) :
    closeF 0 (nm5 [some o0, some o1, some o2, some (.lst .new ((Mx a n).map .int)), some (.lst .new ((Mx b n).map .int)), none, none, none, none, none, none] ⟨[], 0⟩) = .ok (.tup [.int (i : Nat), .int (j : Nat)]) [] := by
  have hf : f < n := by have := h.fl; have := h.ln; omega
  suffices key : ∀ Q : FR → Prop, Q (.ok (.tup [.int (i : Nat), .int (j : Nat)]) []) → Q (closeF 0 (nm5 [some o0, some o1, some o2, some (.lst .new ((Mx a n).map .int)), some (.lst .new ((Mx b n).map .int)), none, none, none, none, none, none] ⟨[], 0⟩)) from key (fun r => r = .ok (.tup [.int (i : Nat), .int (j : Nat)]) []) rfl
  intro Q k
  unfold nm5
  simp
  refine whileL_inv (fun m e A => ∃ t : Nat, t ≤ f ∧ m = f - t ∧ e = [some o0, some o1, some o2, some (.lst .new ((Mx a n).map .int)), some (.lst .new ((Mx b n).map .int)), some (.int (t : Nat)), none, none, none, none, none] ∧ A = ⟨[], 0⟩) (fun r => Q (closeF 0 (seqK r _))) (fun m e A hI => ?_) 1000 f _ _ (by omega) ⟨0, by omega, rfl, rfl, rfl⟩
  obtain ⟨t, t1, rfl, rfl, rfl⟩ := hI
  have g1 := Mx_get hn (show t < n by omega)
  have g2 := Mx_get hb (show t < n by omega)
  by_cases ht : t < f
  · refine Or.inr ⟨⟨[], 0⟩, ?_, ?_⟩
    · simp [g1, g2, h.eqf t ht]
    · conv => arg 4; simp
      exact ⟨f - (t + 1), by omega, t + 1, by omega, rfl, by simp, rfl⟩
  · have : t = f := by omega
    subst this
    refine Or.inl ⟨⟨[], 0⟩, ?_, ?_⟩
    · simp [g1, g2, h.nef]
    · have := nm6_q h hn hb hn2 o0 o1 o2
      rw [← this] at k
      simpa using k
theorem next_ok {a b : List Int} {f l i j : Nat} (h : NM a b (max a.length b.length + 1) f l i j) (ha : a.length ≤ 400) (hb : b.length ≤ 400) : f_next_move [.lst .old (a.map .int), .lst .old (b.map .int)] [] = .ok (.tup [.int (i : Nat), .int (j : Nat)]) [] := by
  rw [← nm5_q h (by omega) (by omega) (by omega) (.lst .old (a.map .int)) (.lst .old (b.map .int)) (.int (max a.length b.length + 1 : Nat))]
  obtain ⟨n, hn⟩ : ∃ n, n = max a.length b.length + 1 := ⟨_, rfl⟩
  rw [← hn]
  have hN : (max (a.length : Int) (b.length : Int) + 1) = (n : Nat) := by omega
  unfold f_next_move
  show runF 2 11 (sSeq _ (sSeq _ (sSeq _ nm5))) _ _ = _
  have m1 := fun f A => mul0 (k := (n : Int) - a.length) (n := n - a.length) (f := f) (A := A) (by omega) (by omega)
  have m2 := fun f A => mul0 (k := (n : Int) - b.length) (n := n - b.length) (f := f) (A := A) (by omega) (by omega)
  have a1 : ∀ A f g, addD (.lst f (a.map AV.int)) (.lst g ((List.replicate (n - a.length) 0).map AV.int)) A = .lst ((Mx a n).map AV.int) := fun A f g => by
    rw [x_addL (by simp; omega)]
    simp [Mx]
  have a2 : ∀ A f g, addD (.lst f (b.map AV.int)) (.lst g ((List.replicate (n - b.length) 0).map AV.int)) A = .lst ((Mx b n).map AV.int) := fun A f g => by
    rw [x_addL (by simp; omega)]
    simp [Mx]
  generalize (List.replicate (n - a.length) (0 : Int)) = r1 at *
  generalize (List.replicate (n - b.length) (0 : Int)) = r2 at *
  generalize Mx a n = M1 at *
  generalize Mx b n = M2 at *
  simp [ent, envOf, hN, m1, m2, a1, a2]

theorem ned_ints (ns os : List Int) {f g : Fl} {A : St} : neD (.lst f (ns.map AV.int)) (.lst g (os.map AV.int)) A = .val (.bl (!decide (ns = os))) := by
  have h := eqd_ints ns os (f := f) (g := g) (A := A)
  unfold eqD at h
  unfold neD
  cases e : eqB A (.lst f (ns.map AV.int)) (.lst g (os.map AV.int)) with
  | none => rw [e] at h; cases h
  | some k =>
    rw [e] at h
    dsimp only at h
    simp at h
    rw [h]
theorem next_f {a b : List Int} {f l i j : Nat} (h : NM a b (max a.length b.length + 1) f l i j) (ha : a.length ≤ 400) (hb : b.length ≤ 400) (g g2 : Fl) (A : St) : callF false f_next_move [false, false] [.lst g (a.map .int), .lst g2 (b.map .int)] A = .ok (.tup [.int (i : Nat), .int (j : Nat)]) A := by
  simp [callF_f2, next_ok h ha hb]
theorem moves_ok {a b : List Int} (ha : Shp a) (hb : Shp b) (hs : a.sum = b.sum) (hd : dom a b) (h14 : a.sum ≤ 14) :
    ∃ ms : List (Nat × Nat), ms.length ≤ 300 ∧ walkP a (ms.map mvT) = some b ∧ f_moves_to [.lst .old (a.map .int), .lst .old (b.map .int)] [] = .ok (.lst .new (ms.map mvT)) [] := by
  suffices key : ∀ Q : FR → Prop, (∀ ms : List (Nat × Nat), ms.length ≤ 300 → walkP a (ms.map mvT) = some b → Q (.ok (.lst .new (ms.map mvT)) [])) → Q (f_moves_to [.lst .old (a.map .int), .lst .old (b.map .int)] []) by
    exact key (fun r => ∃ ms : List (Nat × Nat), ms.length ≤ 300 ∧ walkP a (ms.map mvT) = some b ∧ r = .ok (.lst .new (ms.map mvT)) []) fun ms h1 h2 => ⟨ms, h1, h2, rfl⟩
  intro Q k
  have pm : ∀ ms : List (Nat × Nat), pureBs (ms.map mvT) = true := fun ms => pureBs_all fun x hx => by
    obtain ⟨p, _, rfl⟩ := List.mem_map.mp hx
    exact (okF _ _ (mvT_ok p)).p
  have hbl := hb.len_le
  have P0 := Phi_le ha 16
  have P1 := Phi_nn ha 16
  have P2 : Phi a 16 ≤ 300 := by omega
  unfold f_moves_to bf_moves_to
  simp [ent, envOf]
  refine whileL_inv (fun m e A => ∃ (now : List Int) (ms : List (Nat × Nat)), Shp now ∧ now.sum = a.sum ∧ dom now b ∧ walkP a (ms.map mvT) = some now ∧ (m : Int) = Phi now 16 ∧ (ms.length : Int) + Phi now 16 ≤ Phi a 16 ∧ e = [some (.lst .old (a.map .int)), some (.lst .old (b.map .int)), some (.ref 0), some (.lst .new (now.map .int)), none, none] ∧ A = ⟨[some (.lst (ms.map mvT))], 0⟩) (fun r => Q (closeF 0 (seqK r _))) (fun m e A hI => ?_) 1000 (Phi a 16).toNat _ _ (by omega) ⟨a, [], ha, rfl, hd, rfl, by omega, by simp, rfl, rfl⟩
  obtain ⟨now, ms, h1, h2, h3, h4, h5, h6, rfl, rfl⟩ := hI
  have hnl := h1.len_le
  have hp := Phi_nn h1 16
  by_cases hne : now = b
  · subst hne
    refine Or.inl ⟨⟨[some (.lst (ms.map mvT))], 0⟩, ?_, ?_⟩
    · simp [ned_ints]
    · have := pm ms
      simp [this, frA, close0]
      exact k ms (by omega) h4
  · obtain ⟨f, l, i, j, nm⟩ := nm_ex h1 hb (by omega) h3 hne (max now.length b.length + 1) (by omega) (by omega)
    have ng := nm_good h1 hb h3 (by omega) nm
    have nx := next_f nm (by omega) (by omega)
    obtain ⟨hij, hja, hsh, hdm⟩ := ng
    have mv := moved_f now i j .new
    have ph := (Phi_moved hij hja 16).2 (by omega)
    have sm := sum_moved hij hja
    have st : stepP now (mvT (i, j)) = some (movedP now i j) := good_step ⟨hij, hja, (fall_iff _).mpr hsh⟩
    have mv := fun A => moved_f now i j .new A hij hja (by omega)
    have hq := Phi_nn hsh 16
    generalize movedP now i j = R at *
    refine Or.inr ⟨⟨[some (.lst (ms.map mvT))], 0⟩, ?_, ?_⟩
    · simp [ned_ints, hne]
    · have hs : ms.length < PySem.sizeLine := hsz (by omega)
      conv => arg 4; simp [nx, hs, mv]
      refine ⟨(Phi R 16).toNat, by omega, R, ms ++ [(i, j)], hsh, by omega, hdm, ?_, by omega, by simp; omega, by simp, by simp [mvT]⟩
      rw [List.map_append, List.map_singleton, walk_snoc, h4]
      exact st
/-- the least k -/
def lessK (a b : List Int) (k : Nat) : Prop := 1 ≤ k ∧ Pf a k < Pf b k ∧ ∀ t, t < k → Pf b t ≤ Pf a t
theorem less_or {a b : List Int} (hs : a.sum = b.sum) (n : Nat) (ha : a.length ≤ n) (hb : b.length ≤ n) : dom a b ∨ ∃ k, k ≤ n ∧ lessK a b k := by
  by_cases h : ∃ k, k ≤ n ∧ Pf a k < Pf b k
  · obtain ⟨k, h1, h2⟩ := h
    obtain ⟨m, g1, g2, g3⟩ := least (p := fun t => Pf a t < Pf b t) k h2
    refine Or.inr ⟨m, by omega, ?_, g2, fun t ht => by have := g3 t ht; omega⟩
    cases m with
    | zero => simp [Pf] at g2
    | succ m => omega
  · refine Or.inl fun k => ?_
    by_cases hk : k ≤ n
    · exact Decidable.byContradiction fun g => h ⟨k, hk, by omega⟩
    · rw [Pf_sum (by omega), Pf_sum (by omega)]
      omega
theorem less_le {a b : List Int} (hs : a.sum = b.sum) {k n : Nat} (h : lessK a b k) (ha : a.length ≤ n) (hb : b.length ≤ n) : k ≤ n := by
  refine Decidable.byContradiction fun g => ?_
  have := h.2.1
  rw [Pf_sum (by omega), Pf_sum (by omega)] at this
  omega
theorem less_dom {a b : List Int} {k : Nat} (h : lessK a b k) : ¬ dom a b := fun d => by
  have := d k
  have := h.2.1
  omega
theorem sumT (a : List Int) (k : Nat) (f : Fl) (A : St) : sumD [.lst f ((a.map AV.int).take k)] A = .val (.int (Pf a k)) := by
  rw [← List.map_take, x_sum, Pf_take]
theorem cut1 (xs : List AV) (k : Nat) : cutA xs (some (k : Int)) (some ((k : Int) + 1)) = (xs.drop k).take 1 := by
  unfold cutA
  rw [HT.sIx_nat, show (k : Int) + 1 = ((k + 1 : Nat) : Int) by omega, HT.sIx_nat]
  by_cases h : k < xs.length
  · rw [Nat.min_eq_left (by omega), Nat.min_eq_left (by omega)]
    congr 1
    omega
  · rw [Nat.min_eq_right (by omega), Nat.min_eq_right (by omega), List.drop_length, List.drop_of_length_le (by omega)]
    simp
theorem sumC (a : List Int) (k : Nat) (f : Fl) (A : St) : sumD [.lst f (cutA (a.map AV.int) (some (k : Int)) (some ((k : Int) + 1)))] A = .val (.int (vl a k)) := by
  rw [cut1, ← List.map_drop, ← List.map_take, x_sum]
  by_cases h : k < a.length
  · have e : (a.drop k).take 1 = [a[k]] := by rw [List.drop_eq_getElem_cons h]; rfl
    rw [e]
    simp [vl, h]
  · rw [List.drop_of_length_le (by omega), vl_ge (by omega)]
    simp
theorem first_ok {a b : List Int} (hs : a.sum = b.sum) (ha : a.length ≤ 400) (hb : b.length ≤ 400) :
    (dom a b → f_first_less [.lst .old (a.map .int), .lst .old (b.map .int)] [] = .ok .non []) ∧ (∀ k, lessK a b k → f_first_less [.lst .old (a.map .int), .lst .old (b.map .int)] [] = .ok (.int (k : Nat)) []) := by
  obtain ⟨n, hn⟩ : ∃ n, n = max a.length b.length := ⟨_, rfl⟩
  have hN : (max (a.length : Int) (b.length : Int) + 1) = (n : Nat) + 1 := by omega
  have r2 : ∀ A, rngK2 [.int 1, .int ((n : Int) + 1)] A = .ok ((List.range n).map fun i => AV.int (1 + (i : Nat))) A := fun A => by
    rw [rngK2_int (by omega) (by omega) (by omega) (by omega), show ((n : Int) + 1 - 1).toNat = n by omega]
  have c1 : ∀ (xs : List AV) (i : Nat), cutA xs none (some (1 + (i : Int))) = xs.take (i + 1) := fun xs i => by
    rw [show (1 : Int) + i = ((i + 1 : Nat) : Int) by omega, cutA_to]
  have key : ∀ (K : Option Nat) (Q : FR → Prop), (match K with | none => dom a b | some k => lessK a b k) → Q (.ok (match K with | none => .non | some k => .int (k : Nat)) []) → Q (f_first_less [.lst .old (a.map .int), .lst .old (b.map .int)] []) := by
    intro K Q hK k
    unfold f_first_less bf_first_less
    simp [ent, envOf, hN, r2]
    refine forL_inv _ (fun j e A => (∀ t, t < j → Pf b (t + 1) ≤ Pf a (t + 1)) ∧ e = [some (.lst .old (a.map .int)), some (.lst .old (b.map .int)), none] ∧ A = ⟨[], 0⟩) (fun r => Q (closeF 0 (seqK r _))) (List.range n) 0 (fun j i e A hj hI => ?_) (fun e A hI => ?_) ⟨by omega, rfl, rfl⟩
    · obtain ⟨h1, rfl, rfl⟩ := hI
      obtain ⟨rfl, hin⟩ := range_get hj
      simp only [Nat.zero_add] at *
      refine ⟨_, _, rfl, ?_⟩
      by_cases hlt : Pf a (i + 1) < Pf b (i + 1)
      · cases K with
        | none =>
          have := hK (i + 1)
          omega
        | some q =>
          have e : q = i + 1 := by
            obtain ⟨q1, q2, q3⟩ := hK
            rcases Nat.lt_trichotomy q (i + 1) with g | g | g
            · have := h1 (q - 1) (by omega)
              rw [show q - 1 + 1 = q by omega] at this
              omega
            · exact g
            · have := q3 (i + 1) g
              omega
          subst e
          simp [c1, sumT, hlt, close0]
          push_cast at k
          rw [show (1 : Int) + i = (i : Int) + 1 by omega]
          exact k
      · conv => arg 4; simp [c1, sumT, hlt]
        refine ⟨fun t ht => ?_, rfl, rfl⟩
        by_cases e : t = i
        · subst e; omega
        · exact h1 t (by omega)
    · obtain ⟨h1, rfl, rfl⟩ := hI
      simp only [Nat.zero_add, List.length_range] at h1
      cases K with
      | none =>
        simp [close0]
        exact k
      | some q =>
        have := less_le hs hK (n := n) (by omega) (by omega)
        obtain ⟨q1, q2, q3⟩ := hK
        have := h1 (q - 1) (by omega)
        rw [show q - 1 + 1 = q by omega] at this
        omega
  exact ⟨fun h => key none (fun r => r = .ok .non []) h rfl, fun k h => key (some k) (fun r => r = .ok (.int (k : Nat)) []) h rfl⟩
theorem lfirst_ok {a b : List Int} (hs : a.sum = b.sum) (ha : a.length ≤ 14) (hb : b.length ≤ 14) :
    (dom a b → f_law_first_less [.lst .old (a.map .int), .lst .old (b.map .int)] [] = .ok .non []) ∧ (∀ k, lessK a b k → f_law_first_less [.lst .old (a.map .int), .lst .old (b.map .int)] [] = .ok (.int (k : Nat)) []) := by
  obtain ⟨n, hn⟩ : ∃ n : Nat, n = 14 := ⟨_, rfl⟩
  have r1 : ∀ A, rngK1 [.int 14] A = .ok ((List.range n).map fun i => AV.int (i : Nat)) A := fun A => by
    rw [hn]
    exact rngK1_nat (n := 14) (by decide)
  have key : ∀ (K : Option Nat) (Q : FR → Prop), (match K with | none => dom a b | some k => lessK a b k) → Q (.ok (match K with | none => .non | some k => .int (k : Nat)) []) → Q (f_law_first_less [.lst .old (a.map .int), .lst .old (b.map .int)] []) := by
    intro K Q hK k
    unfold f_law_first_less bf_law_first_less
    simp [ent, envOf, r1]
    refine forL_inv _ (fun j e A => (∀ t, t < j → Pf b (t + 1) ≤ Pf a (t + 1)) ∧ e = [some (.lst .old (a.map .int)), some (.lst .old (b.map .int)), some (.int (Pf a j)), some (.int (Pf b j)), none] ∧ A = ⟨[], 0⟩) (fun r => Q (closeF 0 (seqK r _))) (List.range n) 0 (fun j i e A hj hI => ?_) (fun e A hI => ?_) ⟨by omega, rfl, rfl⟩
    · obtain ⟨h1, rfl, rfl⟩ := hI
      obtain ⟨rfl, hin⟩ := range_get hj
      simp only [Nat.zero_add] at *
      refine ⟨_, _, rfl, ?_⟩
      have ea : Pf a i + vl a i = Pf a (i + 1) := rfl
      have eb : Pf b i + vl b i = Pf b (i + 1) := rfl
      by_cases hlt : Pf a (i + 1) < Pf b (i + 1)
      · cases K with
        | none =>
          have := hK (i + 1)
          omega
        | some q =>
          have e : q = i + 1 := by
            obtain ⟨q1, q2, q3⟩ := hK
            rcases Nat.lt_trichotomy q (i + 1) with g | g | g
            · have := h1 (q - 1) (by omega)
              rw [show q - 1 + 1 = q by omega] at this
              omega
            · exact g
            · have := q3 (i + 1) g
              omega
          subst e
          simp [sumC, ea, eb, hlt, close0]
          push_cast at k
          exact k
      · conv => arg 4; simp [sumC, ea, eb, hlt]
        refine ⟨fun t ht => ?_, rfl, rfl⟩
        by_cases e : t = i
        · subst e; omega
        · exact h1 t (by omega)
    · obtain ⟨h1, rfl, rfl⟩ := hI
      simp only [Nat.zero_add, List.length_range] at h1 ⊢
      generalize Pf a n = pa at *
      generalize Pf b n = pb at *
      cases K with
      | none =>
        simp [close0]
        exact k
      | some q =>
        have := less_le hs hK (n := n) (by omega) (by omega)
        obtain ⟨q1, q2, q3⟩ := hK
        have := h1 (q - 1) (by omega)
        rw [show q - 1 + 1 = q by omega] at this
        omega
  exact ⟨fun h => key none (fun r => r = .ok .non []) h rfl, fun k h => key (some k) (fun r => r = .ok (.int (k : Nat)) []) h rfl⟩

/-! ## across -/
def cnt (a : List Int) (c : Nat) : Nat := (a.filter fun z => decide ((c : Int) < z)).length
def conj (a : List Int) : List Int := (List.range (vl a 0).toNat).map fun c => (cnt a c : Int)
theorem cnt_iff {a : List Int} (ha : Shp a) (c t : Nat) : t < cnt a c ↔ (c : Int) < vl a t := by
  obtain ⟨m, h1, h2, h3⟩ := least (p := fun t => vl a t ≤ c) a.length (by rw [vl_ge (Nat.le_refl _)]; omega)
  have e : cnt a c = m := by
    unfold cnt
    conv => lhs; rw [← List.take_append_drop m a]
    rw [List.filter_append, List.length_append]
    have f1 : (a.take m).filter (fun z => decide ((c : Int) < z)) = a.take m := by
      rw [List.filter_eq_self]
      intro z hz
      obtain ⟨t, ht⟩ := List.mem_iff_getElem?.mp hz
      have htl := (List.getElem?_eq_some_iff.mp ht).1
      simp at htl
      rw [List.getElem?_take, if_pos (by omega), vl_get (by omega)] at ht
      have := h3 t (by omega)
      have := Option.some.inj ht
      simp
      omega
    have f2 : (a.drop m).filter (fun z => decide ((c : Int) < z)) = [] := by
      rw [List.filter_eq_nil_iff]
      intro z hz
      obtain ⟨t, ht⟩ := List.mem_iff_getElem?.mp hz
      have htl := (List.getElem?_eq_some_iff.mp ht).1
      simp at htl
      rw [List.getElem?_drop, vl_get (by omega)] at ht
      have := ha.mono (i := m) (j := m + t) (by omega)
      have := Option.some.inj ht
      simp
      omega
    rw [f1, f2]
    simp
    omega
  rw [e]
  constructor
  · intro ht
    have := h3 t ht
    omega
  · intro ht
    refine Decidable.byContradiction fun g => ?_
    have := ha.mono (i := m) (j := t) (by omega)
    omega
theorem conj_len (a : List Int) : (conj a).length = (vl a 0).toNat := by simp [conj]
theorem vl_conj {a : List Int} (ha : Shp a) (c : Nat) : vl (conj a) c = cnt a c := by
  by_cases h : c < (vl a 0).toNat
  · unfold vl conj
    rw [List.getElem?_map, List.getElem?_range h]
    rfl
  · rw [vl_ge (by rw [conj_len]; omega)]
    have : ¬ 0 < cnt a c := by
      rw [cnt_iff ha]
      omega
    omega
theorem conj_shp {a : List Int} (ha : Shp a) : Shp (conj a) := by
  refine ⟨fun c hc => ?_, fun c => ?_⟩
  · rw [conj_len] at hc
    rw [vl_conj ha]
    have := (cnt_iff ha c 0).mpr (by omega)
    omega
  · rw [vl_conj ha, vl_conj ha]
    have : ¬ cnt a c < cnt a (c + 1) := fun h => by
      have h1 := (cnt_iff ha (c + 1) (cnt a c)).mp h
      have h2 := (cnt_iff ha c (cnt a c)).mpr (by push_cast at h1; omega)
      omega
    omega
theorem conj_conj {a : List Int} (ha : Shp a) : conj (conj a) = a := by
  have hc := conj_shp ha
  refine shp_ext (conj_shp hc) ha fun t => ?_
  rw [vl_conj hc]
  have key : ∀ s : Nat, s < cnt (conj a) t ↔ (s : Int) < vl a t := fun s => by
    rw [cnt_iff hc, vl_conj ha]
    have := cnt_iff ha s t
    omega
  have h0 := ha.nn t
  have h1 := key (vl a t).toNat
  have h2 := key (cnt (conj a) t)
  omega
def Sm (a : List Int) (k : Nat) : Nat → Int
  | 0 => 0
  | n + 1 => Sm a k n + min (vl a n) k
theorem Sm_succ {a : List Int} (ha : Shp a) (k : Nat) : ∀ n, Sm a (k + 1) n = Sm a k n + min (cnt a k) n
  | 0 => by simp [Sm]
  | n + 1 => by
    unfold Sm
    rw [Sm_succ ha k n]
    have := cnt_iff ha k n
    push_cast
    by_cases h : (k : Int) < vl a n
    · have := this.mpr h
      omega
    · have : ¬ n < cnt a k := fun g => h (this.mp g)
      omega
theorem cnt_le (a : List Int) (k : Nat) : cnt a k ≤ a.length := List.length_filter_le _ _
theorem Sm_zero {a : List Int} (ha : Shp a) : ∀ n, Sm a 0 n = 0
  | 0 => rfl
  | n + 1 => by
    unfold Sm
    rw [Sm_zero ha n]
    have := ha.nn n
    simp
    omega
theorem Pf_conj {a : List Int} (ha : Shp a) {n : Nat} (hn : a.length ≤ n) : ∀ k, Pf (conj a) k = Sm a k n
  | 0 => by rw [Sm_zero ha]; rfl
  | k + 1 => by
    unfold Pf
    rw [Pf_conj ha hn k, Sm_succ ha, vl_conj ha]
    have := cnt_le a k
    omega
theorem Sm_big {a : List Int} (ha : Shp a) {k : Nat} (hk : vl a 0 ≤ k) : ∀ n, Sm a k n = Pf a n
  | 0 => rfl
  | n + 1 => by
    unfold Sm Pf
    rw [Sm_big ha hk n]
    have := ha.mono (i := 0) (j := n) (by omega)
    omega
theorem conj_sum {a : List Int} (ha : Shp a) : (conj a).sum = a.sum := by
  have h0 := ha.nn 0
  rw [← Pf_sum (k := (vl a 0).toNat) (by rw [conj_len]; omega), Pf_conj ha (Nat.le_refl _), Sm_big ha (by omega), Pf_sum (Nat.le_refl _)]
theorem Sm_eq {b : List Int} (hb : Shp b) (k : Nat) : ∀ n, Sm b k n = if n ≤ cnt b k then (k : Int) * n else k * (cnt b k) + Pf b n - Pf b (cnt b k)
  | 0 => by simp [Sm]
  | n + 1 => by
    unfold Sm
    rw [Sm_eq hb k n]
    have hc := cnt_iff hb k n
    by_cases h : n + 1 ≤ cnt b k
    · rw [if_pos (by omega), if_pos h]
      have := hc.mp (by omega)
      push_cast
      rw [Int.mul_add]
      omega
    · have : ¬ (k : Int) < vl b n := fun g => by have := hc.mpr g; omega
      rw [if_neg h]
      by_cases h2 : n ≤ cnt b k
      · have e : n = cnt b k := by omega
        rw [if_pos h2]
        rw [← e]
        show _ = k * (n : Int) + (Pf b n + vl b n) - Pf b n
        omega
      · rw [if_neg h2]
        show _ = k * (cnt b k : Int) + (Pf b n + vl b n) - Pf b (cnt b k)
        omega
theorem Sm_le0 {a : List Int} (k : Nat) : ∀ n, Sm a k n ≤ k * n
  | 0 => by simp [Sm]
  | n + 1 => by
    unfold Sm
    have := Sm_le0 (a := a) k n
    push_cast
    rw [Int.mul_add]
    omega
theorem Sm_le {a : List Int} (k m : Nat) : ∀ d, Sm a k (m + d) ≤ k * m + Pf a (m + d) - Pf a m
  | 0 => by
    have := Sm_le0 (a := a) k m
    simp
    omega
  | d + 1 => by
    have := Sm_le (a := a) k m d
    show Sm a k (m + d) + min (vl a (m + d)) k ≤ k * m + (Pf a (m + d) + vl a (m + d)) - Pf a m
    omega
theorem dom_conj {a b : List Int} (ha : Shp a) (hb : Shp b) (hs : a.sum = b.sum) (hd : dom a b) : dom (conj b) (conj a) := fun k => by
  obtain ⟨n, hn⟩ : ∃ n, n = a.length + b.length + 1 := ⟨_, rfl⟩
  rw [Pf_conj ha (n := n) (by omega), Pf_conj hb (n := n) (by omega), Sm_eq hb]
  have hc := cnt_le b k
  rw [if_neg (by omega)]
  have h1 := Sm_le (a := a) k (cnt b k) (n - cnt b k)
  rw [show cnt b k + (n - cnt b k) = n by omega] at h1
  have h2 := hd (cnt b k)
  rw [Pf_sum (ns := a) (k := n) (by omega)] at h1
  rw [Pf_sum (ns := b) (k := n) (by omega)]
  omega
theorem dom_conj_iff {a b : List Int} (ha : Shp a) (hb : Shp b) (hs : a.sum = b.sum) : dom (conj b) (conj a) ↔ dom a b := by
  refine ⟨fun h => ?_, dom_conj ha hb hs⟩
  have := dom_conj (conj_shp hb) (conj_shp ha) (by rw [conj_sum ha, conj_sum hb, hs]) h
  rwa [conj_conj ha, conj_conj hb] at this
theorem across_ok {a : List Int} (ha : Shp a) (h14 : a.sum ≤ 14) : f_law_across [.lst .old (a.map .int)] [] = .ok (.lst .new ((conj a).map .int)) [] := by
  have hl := ha.len_le
  unfold f_law_across bf_law_across
  by_cases h : 0 < a.length
  · have h0 : a[0]? = some (vl a 0) := vl_get h
    have hp := Pf_le ha (k := 1)
    have hpe : Pf a 1 = vl a 0 := by simp [Pf]
    have hnn := ha.nn 0
    have e0 : a[0] = vl a 0 := by
      rw [List.getElem?_eq_getElem h] at h0
      exact Option.some.inj h0
    have r1 : ∀ A, rngK1 [.int a[0]] A = .ok ((List.range (vl a 0).toNat).map fun i => AV.int (i : Nat)) A := fun A => by
      rw [e0]
      exact rngK1_int (by omega) (by omega)
    have hsq : ∀ A : St, sqK (.lst .old (a.map AV.int)) A = .ok (a.map AV.int) A := fun A => sqK_lst ((pure_below _).2 _ (pure_ints _))
    have cc2 : ∀ (t : Nat) (A : St), compL (gN 2) (c2 false gtD (cVar 2) (cVar 1)) (cVar 2) [some (.lst .old (a.map .int)), some (.int (t : Nat)), none] (a.map AV.int) A = .ok ((a.filter fun z => decide ((t : Int) < z)).map AV.int) A := fun t A =>
      compL_ok (fun z => decide ((t : Int) < z)) AV.int fun z hz => by
        refine ⟨_, rfl, ?_, fun _ => rfl⟩
        simp
    have c1 := compL_all (tgt := gN 1) (elt := (cN false lenD (cCons (cComp false (iSq (cVar 0)) (gN 2) (c2 false gtD (cVar 2) (cVar 1)) (cVar 2) [2]) cNil))) (env0 := [some (.lst .old (a.map .int)), none, none]) (A := ⟨[], 0⟩) (g := fun i : Nat => AV.int (i : Nat)) (fun c => AV.int (cnt a c : Int)) (xs := List.range (vl a 0).toNat) (fun t ht => by
      refine ⟨_, rfl, ?_⟩
      simp [hsq]
      rw [compK_eq (by simp; exact size_leK (by omega)), cc2]
      simp [cnt])
    have hsz2 : ((List.range (vl a 0).toNat).map fun i => AV.int (i : Nat)).length ≤ PySem.sizeLine := by
      rw [List.length_map, List.length_range]
      exact size_leK (by omega)
    have e : (List.range (vl a 0).toNat).map (fun c => AV.int (cnt a c : Int)) = (conj a).map AV.int := by simp [conj]
    rw [e] at c1
    simp [ent, envOf, h, h0, r1]
    rw [compK_eq hsz2, c1]
    simp [close0]
  · have hn : a = [] := by cases a with | nil => rfl | cons _ _ => simp at h
    subst hn
    simp [ent, envOf, conj, vl, close0]
theorem across_f {a : List Int} (ha : Shp a) (h14 : a.sum ≤ 14) (f : Fl) (A : St) : callF false f_law_across [false] [.lst f (a.map .int)] A = .ok (.lst .new ((conj a).map .int)) A := by
  simp [callF_f1, across_ok ha h14]

@[simp] theorem x_neS' {p q : PySem.Str} {A : St} : neD (.str p) (.str q) A = .val (.bl (!decide (p = q))) := (rfl)
abbrev ol (ns : List Int) : AV := .lst .old (ns.map .int)
abbrev nl (ns : List Int) : AV := .lst .new (ns.map .int)
theorem pm (ms : List (Nat × Nat)) : pureBs (ms.map mvT) = true := pureBs_all fun x hx => by
  obtain ⟨p, _, rfl⟩ := List.mem_map.mp hx
  exact (okF _ _ (mvT_ok p)).p
theorem nm' (ms : List (Nat × Nat)) : newBs (ms.map mvT) = true := by
  induction ms with
  | nil => simp
  | cons m ms ih => simp [ih, mvT]
theorem om (ms : List (Nat × Nat)) : toOlds (ms.map mvT) = ms.map mvT := by
  rw [toOlds_map]
  refine map_same fun x hx => ?_
  obtain ⟨p, _, rfl⟩ := List.mem_map.mp hx
  simp [mvT]
theorem im (ms : List (Nat × Nat)) : imps (ms.map mvT) = ms.map mvT := by
  rw [imps_map]
  refine map_same fun x hx => ?_
  obtain ⟨p, _, rfl⟩ := List.mem_map.mp hx
  simp [mvT]
theorem newBs_il (a b : List Int) : newBs [nl a, nl b] = true := by simp
theorem un_ne {a b : List Int} (hs : a.sum ≠ b.sum) : f_is_as_uneven [ol a, ol b] [] = .exc 1 [nl b, nl a] [] := by
  unfold f_is_as_uneven bf_is_as_uneven
  simp [ent, envOf, hs, flX, close0x]
theorem un_less {a b : List Int} (hs : a.sum = b.sum) (ha : a.length ≤ 400) (hb : b.length ≤ 400) {k : Nat} (h : lessK a b k) : f_is_as_uneven [ol a, ol b] [] = .ok (.tup [.str "less", .int (k : Nat)]) [] := by
  have f := (first_ok hs ha hb).2 k h
  unfold f_is_as_uneven bf_is_as_uneven
  simp [ent, envOf, hs, callF_f2, f, close0]
theorem un_dom {a b : List Int} (ha : Shp a) (hb : Shp b) (hs : a.sum = b.sum) (hd : dom a b) (h14 : a.sum ≤ 14) : ∃ ms : List (Nat × Nat), ms.length ≤ 300 ∧ walkP a (ms.map mvT) = some b ∧ f_is_as_uneven [ol a, ol b] [] = .ok (.tup [.str "uneven", .lst .new (ms.map mvT)]) [] := by
  obtain ⟨ms, h1, h2, h3⟩ := moves_ok ha hb hs hd h14
  have hal := ha.len_le
  have hbl := hb.len_le
  have f := (first_ok hs (by omega) (by omega)).1 hd
  refine ⟨ms, h1, h2, ?_⟩
  have p1 := pm ms
  have p2 := nm' ms
  have p3 := im ms
  generalize ms.map mvT = M at *
  unfold f_is_as_uneven bf_is_as_uneven
  simp [ent, envOf, hs, callF_f2, f, h3, p1, p2, p3, close0]
theorem same_il {a : List Int} (h : a.length ≤ 400) (A : St) (f g : Fl) : callF false (f_law_same 40) [false, false] [.lst f (a.map .int), .lst g (a.map .int)] A = .ok (.bl true) A := by
  have := same_f (u := .lst f (a.map .int)) (v := .lst .old (a.map .int)) (A := A) (by simp) (by simp) (by simp) (by simp) (by simp) (by simp; unfold lim; omega)
  rw [callF_f2] at this ⊢
  simpa using this
theorem xf_shape (x y : AV) (A : St) : xfK 4 flX (PySem.Str.ofString "shape") (.exc 1 [x, y]) A = .ok y A := xfK_exc (by decide) (by
  have : PySem.Str.ofString "other" ≠ PySem.Str.ofString "shape" := by decide
  simp [lkX, flX, this, Ne.symm this])
theorem told_ne {a b : List Int} (hs : a.sum ≠ b.sum) (ha : a.length ≤ 400) (hb : b.length ≤ 400) : f_law_told [ol a, ol b] [] = .ok (.tup [.str "raised", nl a, nl b]) [] := by
  have u := un_ne hs
  have s1 := fun A => same_il ha A .new .old
  have s2 := fun A => same_il hb A .new .old
  unfold f_law_told bf_law_told
  simp [ent, envOf, callF_f2] at s1 s2 ⊢
  simp [callF_f2, u, s1, s2, close0, subB, xf_shape, xfK_exc, flX, lkX]
theorem told_ans {a b : List Int} {v : AV} (ha : a.length ≤ 400) (hb : b.length ≤ 400) (u : f_is_as_uneven [ol a, ol b] [] = .ok v []) (hp : pureB v = true) (hn : newB v = true) (hi : imp v = v) : f_law_told [ol a, ol b] [] = .ok (.tup [.str "answer", v]) [] := by
  have s1 := fun A => same_il ha A .new .old
  have s2 := fun A => same_il hb A .new .old
  unfold f_law_told bf_law_told
  simp [ent, envOf, callF_f2] at s1 s2 ⊢
  simp [callF_f2, u, hp, hn, hi, s1, s2, close0]
theorem ok_all {d : Nat} {f : Fl} {xs : List AV} (hl : xs.length ≤ 1000) (h : ∀ x ∈ xs, okV d x = true) : okV (d + 1) (.lst f xs) = true ∧ okV (d + 1) (.tup xs) = true := by
  simp only [okV, Bool.and_eq_true, decide_eq_true_eq, List.all_eq_true]
  exact ⟨⟨hl, h⟩, hl, h⟩
theorem okM (ms : List (Nat × Nat)) (h : ms.length ≤ 300) (f : Fl) : okV 9 (.lst f (ms.map mvT)) = true := (ok_all (d := 8) (by simp; omega) fun x hx => by
  obtain ⟨p, _, rfl⟩ := List.mem_map.mp hx
  simp [mvT, okV]).1
structure Two (a b : List Int) : Prop where
  pa : Shp a
  pb : Shp b
  s : a.sum = b.sum
  l : a.sum ≤ 14
theorem right_ok {a b : List Int} (h : Two a b) : f_law_right [ol a, ol b] [] = .ok (.bl true) [] := by
  obtain ⟨ha, hb, hs, h14⟩ := h
  have hal := ha.len_le
  have hbl := hb.len_le
  have ne1 : PySem.Str.ofString "answer" ≠ PySem.Str.ofString "raised" := by decide
  rcases less_or hs 14 (by omega) (by omega) with hd | ⟨k, _, hk⟩
  · obtain ⟨ms, m1, m2, u⟩ := un_dom ha hb hs hd h14
    have t := told_ans (by omega) (by omega) u (by simp [pm]) (by simp [nm']) (by simp [im])
    have f := (lfirst_ok hs (by omega) (by omega)).1 hd
    have hM := okF _ _ (okM ms m1 .new)
    have hM2 := okF _ _ (okM ms m1 .old)
    have ld := fun A => lleads_f (A := A) a b (v := .lst .new (ms.map mvT)) (u := .lst .old (ms.map mvT)) (f := .old) (g := .old) hM.p (by simp [om]) (by simp [om]) hM2.p (by omega) (fun f xs e => by cases e; simp; omega)
    have sh := fun A => uneven_f (A := A) a b (v := .lst .new (ms.map mvT)) (u := .lst .old (ms.map mvT)) (f := .new) (g := .new) hM.p (by simp [om]) (by simp [om]) hM2.p (by omega) (fun f xs e => by cases e; simp; omega)
    rw [leads_some m2] at ld sh
    simp only [decide_true] at ld sh
    have sb := fun A => same_f (u := .bl true) (v := .bl true) (A := A) (by simp) (by simp) (by simp) (by simp) (by simp) (by simp)
    have su := fun A => same_f (u := .str (PySem.Str.ofString "uneven")) (v := .str (PySem.Str.ofString "uneven")) (A := A) (by simp) (by simp) (by simp) (by simp) (by simp) (by simp)
    have p1 := pm ms
    have p2 := nm' ms
    have p3 := im ms
    generalize ms.map mvT = M at *
    unfold f_law_right bf_law_right
    simp [ent, envOf]
    rw [callF_f2]
    simp [t, p1, p2, p3]
    rw [callF_f2]
    simp [f, ld, sh, sb, su, close0]
  · have u := un_less hs (by omega) (by omega) hk
    have t := told_ans (by omega) (by omega) u (by simp) (by simp) (by simp)
    have f := (lfirst_ok hs (by omega) (by omega)).2 k hk
    have sb := fun A => same_f (u := .tup [.str (PySem.Str.ofString "answer"), .tup [.str (PySem.Str.ofString "less"), .int (k : Nat)]]) (v := .tup [.str (PySem.Str.ofString "answer"), .tup [.str (PySem.Str.ofString "less"), .int (k : Nat)]]) (A := A) (by simp) (by simp) (by simp) (by simp) (by simp) (by simp; decide)
    unfold f_law_right bf_law_right
    simp [ent, envOf]
    rw [callF_f2]
    simp [t]
    rw [callF_f2]
    simp [f, sb, close0]
theorem same_across_ok {a b : List Int} (h : Two a b) : f_law_same_across [ol a, ol b] [] = .ok (.bl true) [] := by
  obtain ⟨ha, hb, hs, h14⟩ := h
  have hal := ha.len_le
  have hbl := hb.len_le
  have hca := conj_shp ha
  have hcb := conj_shp hb
  have hsa := conj_sum ha
  have hsb := conj_sum hb
  have hcal := hca.len_le
  have hcbl := hcb.len_le
  have xa := fun A => across_f ha h14 .old A
  have xb := fun A => across_f hb (by omega) .old A
  have hss : (conj b).sum = (conj a).sum := by omega
  rcases less_or hs 14 (by omega) (by omega) with hd | ⟨k, _, hk⟩
  · have hd' := dom_conj ha hb hs hd
    obtain ⟨ms, m1, m2, u⟩ := un_dom hcb hca hss hd' (by omega)
    have t := told_ans (by omega) (by omega) u (by simp [pm]) (by simp [nm']) (by simp [im])
    have f := (lfirst_ok hs (by omega) (by omega)).1 hd
    have su := fun A => same_f (u := .str (PySem.Str.ofString "uneven")) (v := .str (PySem.Str.ofString "uneven")) (A := A) (by simp) (by simp) (by simp) (by simp) (by simp) (by simp)
    have p1 := pm ms
    have p2 := nm' ms
    have p3 := im ms
    generalize ms.map mvT = M at *
    generalize conj a = a' at *
    generalize conj b = b' at *
    unfold f_law_same_across bf_law_same_across
    simp [ent, envOf]
    rw [callF_f2]
    simp [f, xa, xb]
    rw [callF_f2]
    simp [t, p1, p2, p3, su, close0]
  · have hnd : ¬ dom (conj b) (conj a) := fun g => less_dom hk ((dom_conj_iff ha hb hs).mp g)
    obtain ⟨k', _, hk'⟩ := (less_or hss 14 (by omega) (by omega)).resolve_left hnd
    have u := un_less hss (by omega) (by omega) hk'
    have t := told_ans (by omega) (by omega) u (by simp) (by simp) (by simp)
    have f := (lfirst_ok hs (by omega) (by omega)).2 k hk
    have su := fun A => same_f (u := .str (PySem.Str.ofString "less")) (v := .str (PySem.Str.ofString "less")) (A := A) (by simp) (by simp) (by simp) (by simp) (by simp) (by simp)
    generalize conj a = a' at *
    generalize conj b = b' at *
    unfold f_law_same_across bf_law_same_across
    simp [ent, envOf]
    rw [callF_f2]
    simp [f, xa, xb]
    rw [callF_f2]
    simp [t, su, close0]

theorem shp_snoc {ns : List Int} {z : Int} (h : Shp ns) (h1 : 1 ≤ z) (h2 : 0 < ns.length → z ≤ vl ns (ns.length - 1)) : Shp (ns ++ [z]) := by
  have e1 : ∀ t, t < ns.length → vl (ns ++ [z]) t = vl ns t := fun t ht => by
    unfold vl
    rw [List.getElem?_append_left ht]
  have e2 : vl (ns ++ [z]) ns.length = z := by simp [vl]
  refine ⟨fun i hi => ?_, fun i => ?_⟩
  · by_cases g : i < ns.length
    · rw [e1 i g]; exact h.pos i g
    · simp at hi
      have : i = ns.length := by omega
      rw [this, e2]
      exact h1
  · by_cases g : i + 1 < ns.length
    · rw [e1 _ g, e1 i (by omega)]; exact h.anti i
    · by_cases g2 : i + 1 = ns.length
      · rw [g2, e2, e1 i (by omega)]
        have := h2 (by omega)
        rwa [show ns.length - 1 = i by omega] at this
      · rw [vl_ge (i := i + 1) (by simp; omega)]
        by_cases g3 : i = ns.length
        · rw [g3, e2]; omega
        · rw [vl_ge (by simp; omega)]; omega
theorem shape_s (xs : List AV) (n : Nat) (hx : Fd xs) (hn : n ≤ 14) : ∃ (ns : List Int) (ys : List AV), Fd ys ∧ Shp ns ∧ ns.sum = n ∧ f_law_shape [.ref 0, .int (n : Nat)] [xs] = .ok (nl ns) [ys] := by
  suffices key : ∀ Q : FR → Prop, (∀ (ns : List Int) (ys : List AV), Fd ys → Shp ns → ns.sum = n → Q (.ok (nl ns) [ys])) → Q (f_law_shape [.ref 0, .int (n : Nat)] [xs]) by
    exact key (fun r => ∃ (ns : List Int) (ys : List AV), Fd ys ∧ Shp ns ∧ ns.sum = n ∧ r = .ok (nl ns) [ys]) fun ns ys h1 h2 h3 => ⟨ns, ys, h1, h2, h3, rfl⟩
  intro Q k
  unfold f_law_shape bf_law_shape
  simp [ent, envOf, rngK1_nat (n := n) (by omega)]
  refine forL_inv _ (fun j e A => ∃ (ns : List Int) (ys : List AV) (left most : Int), Shp ns ∧ ns.sum + left = n ∧ j ≤ n ∧ Fd ys ∧ 0 ≤ left ∧ left + j ≤ n ∧ (0 < ns.length → most = vl ns (ns.length - 1)) ∧ (ns.length = 0 → most = n) ∧
    e = [some (.ref 0), some (.int (n : Nat)), some (.ref 1), some (.int left), some (.int most), none] ∧ A = ⟨[some (.lst ys), some (.lst (ns.map .int))], 1⟩) (fun r => Q (closeF 1 (seqK r _))) (List.range n) 0 (fun j i e A hj hI => ?_) (fun e A hI => ?_) ⟨[], xs, n, n, ⟨fun i hi => by simp at hi, fun i => by simp [vl]⟩, by simp, by omega, hx, by omega, by omega, fun h => by simp at h, fun _ => rfl, rfl, rfl⟩
  · obtain ⟨ns, ys, left, most, hs, h1, h2, hy, h3, h4, h5, h6, rfl, rfl⟩ := hI
    obtain ⟨rfl, hin⟩ := range_get hj
    simp only [Nat.zero_add] at *
    refine ⟨_, _, rfl, ?_⟩
    have hm1 : 1 ≤ most := by
      by_cases g : 0 < ns.length
      · rw [h5 g]; exact hs.pos _ (by omega)
      · rw [h6 (by omega)]; omega
    have hln := hs.len_le
    by_cases hl : 0 < left
    · obtain ⟨v, y2, hy2, v0, v1, d⟩ := draw0 hy [some (.lst (ns.map .int))] 1 (min left most) (by omega) (by omega)
      have hsz : ns.length < PySem.sizeLine := hsz (by omega)
      conv => arg 4; simp [hl, d, hsz]
      refine ⟨ns ++ [1 + v], y2, left - (1 + v), 1 + v, shp_snoc hs (by omega) (fun g => by have := h5 g; omega), by simp; omega, by omega, hy2, by omega, by omega, fun _ => by simp [vl], fun g => by simp at g, rfl, by simp⟩
    · conv => arg 4; simp [hl]
      exact ⟨ns, ys, left, most, hs, h1, by omega, hy, by omega, by omega, h5, h6, rfl, rfl⟩
  · obtain ⟨ns, ys, left, most, hs, h1, h2, hy, h3, h4, h5, h6, rfl, rfl⟩ := hI
    simp only [Nat.zero_add, List.length_range] at h4
    simp [frA, hy.pure]
    rw [close1 rfl hy.pure (by simp)]
    exact k ns ys hy hs (by omega)
theorem shape_c {xs : List AV} (hx : Fd xs) (cl : List (Option Cell)) (lo : Nat) (n : Nat) (hn : n ≤ 14) : ∃ (ns : List Int) (ys : List AV), Fd ys ∧ Shp ns ∧ ns.sum = n ∧ callF false f_law_shape [true, false] [.ref 0, .int (n : Nat)] ⟨some (.lst xs) :: cl, lo⟩ = .ok (nl ns) ⟨some (.lst ys) :: cl, lo⟩ := by
  obtain ⟨ns, ys, hy, hs, hl, e⟩ := shape_s (toOlds xs) n hx.olds hn
  refine ⟨ns, imps ys, hy.imps, hs, hl, ?_⟩
  rw [callF_t2 (xs := xs) rfl hx.pure, expK_int, lentV_int, e, conK_t (by simp) hy.pure]
  simp
theorem walk_shp : ∀ (ms : List AV) {ns now : List Int}, Shp ns → walkP ns ms = some now → Shp now ∧ now.sum = ns.sum
  | [], ns, now, hs, h => by
    cases h
    exact ⟨hs, rfl⟩
  | m :: ms, ns, now, hs, h => by
    cases e : stepP ns m with
    | none => rw [step_none e] at h; cases h
    | some ks =>
      rw [step_some e] at h
      have hk : Shp ks ∧ ks.sum = ns.sum := by
        cases hb : mvB m ns.length with
        | false => rw [step_bad hb] at e; cases e
        | true =>
          obtain ⟨i, j, _, hij, hj, hst⟩ := step_good hb
          rw [e] at hst
          split at hst
          · rename_i hf
            cases hst
            exact ⟨(fall_iff _).mp hf, sum_moved hij hj⟩
          · cases hst
      obtain ⟨g1, g2⟩ := walk_shp ms hk.1 h
      exact ⟨g1, by omega⟩
theorem down_c {xs : List AV} (hx : Fd xs) (cl : List (Option Cell)) (lo : Nat) (ns : List Int) (hs : Shp ns) (f : Fl) (m : Nat) (hn : ns.length ≤ 14) (hm : m ≤ 7) :
    ∃ (ms : List (Nat × Nat)) (now : List Int) (ys : List AV), Fd ys ∧ Shp now ∧ now.sum = ns.sum ∧ callF false f_law_down [true, false, false] [.ref 0, .lst f (ns.map .int), .int (m : Nat)] ⟨some (.lst xs) :: cl, lo⟩ = .ok (.lst .new [.lst .new (ms.map mvT), .lst .new (now.map .int)]) ⟨some (.lst ys) :: cl, lo⟩ := by
  obtain ⟨ms, now, ys, hy, h1, h2, h3, e⟩ := down_q (toOlds xs) ns m hx.olds hn hm
  obtain ⟨g1, g2⟩ := walk_shp _ hs h3
  refine ⟨ms, now, imps ys, hy.imps, g1, g2, ?_⟩
  rw [callF_t3 (xs := xs) rfl hx.pure, expK_lst (by simp), expK_int, lentV_int]
  simp only [toOlds_ints]
  rw [e]
  have : lentV (.lst f (ns.map AV.int)) = false := by simp
  rw [this, Bool.false_or, conK_t (by simp [pm]) hy.pure]
  simp [im]
def bod8 : CS := (sSeq (sIf (c1 false notD (cCall false (f_law_same 40) [false, false] (cCons (cCall false f_law_told [false, false] (cCons (cVar 5) (cCons (cVar 7) cNil))) (cCons (cN false tupD (cCons (cK (.str "raised")) (cCons (cVar 5) (cCons (cVar 7) cNil)))) cNil))))
  (sRet (cK (.bl false)))
  sSkip)
  (sSeq (sIf (c1 false notD (cCall false (f_law_same 40) [false, false] (cCons (cCall false f_law_told [false, false] (cCons (cVar 7) (cCons (cVar 5) cNil))) (cCons (cN false tupD (cCons (cK (.str "raised")) (cCons (cVar 7) (cCons (cVar 5) cNil)))) cNil))))
  (sRet (cK (.bl false)))
  sSkip)
  (sIf (c1 false notD (cCall false (f_law_same 40) [false, false] (cCons (cCall false f_shows_uneven [false, false, false] (cCons (cN false listD (cCons (cVar 5) cNil)) (cCons (cN false listD (cCons (cVar 7) cNil)) (cCons (cN false lstD cNil) cNil)))) (cCons (cK (.bl false)) cNil))))
  (sRet (cK (.bl false)))
  sSkip)))
def law8 : CS := (sSeq (sFor (iSq (cVar 4)) (gN 5)
  bod8 [5])
  (sRet (cK (.bl true))))
def law7 : CS := (sSeq (sSet 7 (cCall false f_law_shape [true, false] (cCons (cVar 1) (cCons (c2 false modD (cN false intD (cCons (c2 false addD (c2 false addD (cVar 2) (cK (.int 1))) (cCall false f_law_draw [true, false] (cCons (cVar 1) (cCons (cK (.int 14)) cNil)))) cNil)) (cK (.int 15))) cNil))))
  (sSeq (sFz 0) law8))
def bod6 : CS := (sSeq (sIf (cOr (c1 false notD (cCall false f_law_right [false, false] (cCons (cVar 5) (cCons (cVar 6) cNil)))) (c1 false notD (cCall false f_law_right [false, false] (cCons (cCall false f_law_across [false] (cCons (cVar 6) cNil)) (cCons (cCall false f_law_across [false] (cCons (cVar 5) cNil)) cNil)))))
  (sRet (cK (.bl false)))
  sSkip)
  (sIf (c1 false notD (cCall false f_law_same_across [false, false] (cCons (cVar 5) (cCons (cVar 6) cNil))))
  (sRet (cK (.bl false)))
  sSkip))
def inn6 : CS := (sFor (iSq (cVar 4)) (gN 6)
  bod6 [6])
def law5 : CS := (sSeq (sFor (iSq (cVar 4)) (gN 5)
  inn6 [5, 6])
  law7)
def law3 : CS := (sSeq (sSet 3 (cCall false f_law_shape [true, false] (cCons (cVar 1) (cCons (cVar 2) cNil))))
  (sSeq (sSet 4 (cN false lstD (cCons (cVar 3) (cCons (cCall false f_law_shape [true, false] (cCons (cVar 1) (cCons (cVar 2) cNil))) (cCons (c2 false ixD (cCall false f_law_down [true, false, false] (cCons (cVar 1) (cCons (cVar 3) (cCons (cCall false f_law_draw [true, false] (cCons (cVar 1) (cCons (cK (.int 8)) cNil))) cNil)))) (cK (.int 1))) cNil)))))
  law5))

theorem right_f {a b : List Int} (h : Two a b) (f g : Fl) (A : St) : callF false f_law_right [false, false] [.lst f (a.map .int), .lst g (b.map .int)] A = .ok (.bl true) A := by
  simp [callF_f2, right_ok h]
theorem sacross_f {a b : List Int} (h : Two a b) (f g : Fl) (A : St) : callF false f_law_same_across [false, false] [.lst f (a.map .int), .lst g (b.map .int)] A = .ok (.bl true) A := by
  simp [callF_f2, same_across_ok h]
theorem bod6_ok {a b : List Int} (h : Two a b) (e0 e1 e2 e3 e4 e7 : Option AV) (A : St) : bod6 [e0, e1, e2, e3, e4, some (nl a), some (nl b), e7] A = .nx [e0, e1, e2, e3, e4, some (nl a), some (nl b), e7] A := by
  obtain ⟨ha, hb, hs, hl⟩ := h
  have x1 := fun A => across_f ha hl .new A
  have x2 := fun A => across_f hb (by omega) .new A
  have r1 := fun A => right_f (a := a) (b := b) ⟨ha, hb, hs, hl⟩ .new .new A
  have r2 := fun A => right_f (a := conj b) (b := conj a) ⟨conj_shp hb, conj_shp ha, by rw [conj_sum ha, conj_sum hb, hs], by rw [conj_sum hb]; omega⟩ .new .new A
  have s1 := fun A => sacross_f (a := a) (b := b) ⟨ha, hb, hs, hl⟩ .new .new A
  generalize conj a = a' at *
  generalize conj b = b' at *
  unfold bod6
  simp [x1, x2, r1, r2, s1]
theorem told_nf {a b : List Int} (hs : a.sum ≠ b.sum) (ha : a.length ≤ 400) (hb : b.length ≤ 400) (f g : Fl) (A : St) : callF false f_law_told [false, false] [.lst f (a.map .int), .lst g (b.map .int)] A = .ok (.tup [.str "raised", nl a, nl b]) A := by
  simp [callF_f2, told_ne hs ha hb]
theorem bod8_ok {a b : List Int} (ha : Shp a) (hb : Shp b) (hs : a.sum ≠ b.sum) (h1 : a.sum ≤ 14) (h2 : b.sum ≤ 14) (e0 e1 e2 e3 e4 e6 : Option AV) (A : St) : bod8 [e0, e1, e2, e3, e4, some (nl a), e6, some (nl b)] A = .nx [e0, e1, e2, e3, e4, some (nl a), e6, some (nl b)] A := by
  have hal := ha.len_le
  have hbl := hb.len_le
  have t1 := fun A => told_nf hs (by omega) (by omega) .new .new A
  have t2 := fun A => told_nf (Ne.symm hs) (by omega) (by omega) .new .new A
  have u := fun A => uneven_f (A := A) a b (v := .lst .new []) (u := .lst .old []) (f := .new) (g := .new) (by simp) (by simp) (by simp) (by simp) (by omega) (fun f xs e => by cases e; simp)
  have hne : leadsB a b (.lst .old []) = false := by
    rw [leads_some (ks := a) rfl]
    have : a ≠ b := fun e => hs (by rw [e])
    simp [this]
  rw [hne] at u
  have s1 := fun A => same_f (A := A) (u := .tup [.str "raised", nl a, nl b]) (v := .tup [.str "raised", ol a, ol b]) (by simp) (by simp) (by simp) (by simp) (by simp) (by simp; unfold lim; omega)
  have s2 := fun A => same_f (A := A) (u := .tup [.str "raised", nl b, nl a]) (v := .tup [.str "raised", ol b, ol a]) (by simp) (by simp) (by simp) (by simp) (by simp) (by simp; unfold lim; omega)
  have s1' : ∀ A, callF false (f_law_same 40) [false, false] [.tup [.str "raised", nl a, nl b], .tup [.str "raised", nl a, nl b]] A = .ok (.bl true) A := fun A => by
    have := s1 A
    rw [callF_f2] at this ⊢
    simpa using this
  have s2' : ∀ A, callF false (f_law_same 40) [false, false] [.tup [.str "raised", nl b, nl a], .tup [.str "raised", nl b, nl a]] A = .ok (.bl true) A := fun A => by
    have := s2 A
    rw [callF_f2] at this ⊢
    simpa using this
  have sb := fun A => same_f (u := .bl false) (v := .bl false) (A := A) (by simp) (by simp) (by simp) (by simp) (by simp) (by simp)
  unfold bod8
  simp [t1, t2, u, s1', s2', sb]
structure Sp (n : Nat) (a : List Int) : Prop where
  h : Shp a
  s : a.sum = n
theorem law8_q (n m : Nat) (hn : n ≤ 14) (hm : m ≤ 14) (hnm : n ≠ m) (Ss : List (List Int)) (hS : ∀ a ∈ Ss, Sp n a) (b : List Int) (hb : Sp m b) (o0 o1 o2 o3 : AV) :
    closeF 0 (law8 [some o0, some o1, some o2, some o3, some (.lst .new (Ss.map nl)), none, none, some (nl b)] ⟨[], 0⟩) = .ok (.bl true) [] := by
  suffices key : ∀ Q : FR → Prop, Q (.ok (.bl true) []) → Q (closeF 0 (law8 [some o0, some o1, some o2, some o3, some (.lst .new (Ss.map nl)), none, none, some (nl b)] ⟨[], 0⟩)) from key (fun r => r = .ok (.bl true) []) rfl
  intro Q k
  have hsq : sqK (.lst .new (Ss.map nl)) ⟨[], 0⟩ = .ok (Ss.map nl) ⟨[], 0⟩ := sqK_lst ((pure_below _).2 _ (pureBs_all fun x hx => by
    obtain ⟨a, _, rfl⟩ := List.mem_map.mp hx
    simp))
  unfold law8
  simp only [s_seq, s_for, e_sq]
  have ev : cVar 4 [some o0, some o1, some o2, some o3, some (.lst .new (Ss.map nl)), none, none, some (nl b)] ⟨[], 0⟩ = .ok (.lst .new (Ss.map nl)) ⟨[], 0⟩ := rfl
  rw [ev, bnd_ok, hsq, forK_ok]
  refine forL_inv nl (fun j e A => e = [some o0, some o1, some o2, some o3, some (.lst .new (Ss.map nl)), none, none, some (nl b)] ∧ A = ⟨[], 0⟩) (fun r => Q (closeF 0 (seqK r _))) Ss 0 (fun j a e A hj hI => ?_) (fun e A hI => ?_) ⟨rfl, rfl⟩
  · obtain ⟨rfl, rfl⟩ := hI
    have ha := hS a (List.mem_of_getElem? hj)
    have := bod8_ok ha.h hb.h (by rw [ha.s, hb.s]; omega) (by rw [ha.s]; omega) (by rw [hb.s]; omega) (some o0) (some o1) (some o2) (some o3) (some (.lst .new (Ss.map nl))) none ⟨[], 0⟩
    refine ⟨_, _, rfl, ?_⟩
    simp only [List.set_cons_succ, List.set_cons_zero]
    rw [this]
    exact ⟨rfl, rfl⟩
  · obtain ⟨rfl, rfl⟩ := hI
    simp [close0]
    exact k
theorem inn6_ok (n : Nat) (hn : n ≤ 14) (Ss : List (List Int)) (hS : ∀ a ∈ Ss, Sp n a) (a : List Int) (ha : Sp n a) (o0 o1 o2 o3 : AV) (cl : List (Option Cell)) :
    inn6 [some o0, some o1, some o2, some o3, some (.lst .new (Ss.map nl)), some (nl a), none, none] ⟨cl, 0⟩ = .nx [some o0, some o1, some o2, some o3, some (.lst .new (Ss.map nl)), some (nl a), none, none] ⟨cl, 0⟩ := by
  have hsq : sqK (.lst .new (Ss.map nl)) ⟨cl, 0⟩ = .ok (Ss.map nl) ⟨cl, 0⟩ := sqK_lst ((pure_below _).2 _ (pureBs_all fun x hx => by
    obtain ⟨a, _, rfl⟩ := List.mem_map.mp hx
    simp))
  have ev : cVar 4 [some o0, some o1, some o2, some o3, some (.lst .new (Ss.map nl)), some (nl a), none, none] ⟨cl, 0⟩ = .ok (.lst .new (Ss.map nl)) ⟨cl, 0⟩ := rfl
  unfold inn6
  simp only [s_for, e_sq]
  rw [ev, bnd_ok, hsq, forK_ok]
  refine forL_inv nl (fun j e A => e = [some o0, some o1, some o2, some o3, some (.lst .new (Ss.map nl)), some (nl a), none, none] ∧ A = ⟨cl, 0⟩) (fun r => r = .nx [some o0, some o1, some o2, some o3, some (.lst .new (Ss.map nl)), some (nl a), none, none] ⟨cl, 0⟩) Ss 0 (fun j b e A hj hI => ?_) (fun e A hI => ?_) ⟨rfl, rfl⟩
  · obtain ⟨rfl, rfl⟩ := hI
    have hb := hS b (List.mem_of_getElem? hj)
    have := bod6_ok (a := a) (b := b) ⟨ha.h, hb.h, by rw [ha.s, hb.s], by rw [ha.s]; omega⟩ (some o0) (some o1) (some o2) (some o3) (some (.lst .new (Ss.map nl))) none ⟨cl, 0⟩
    refine ⟨_, _, rfl, ?_⟩
    simp only [List.set_cons_succ, List.set_cons_zero]
    rw [this]
    exact ⟨rfl, rfl⟩
  · obtain ⟨rfl, rfl⟩ := hI
    rfl
theorem law7_q (sc : List Int) (n : Nat) (hn : n ≤ 14) (Ss : List (List Int)) (hS : ∀ a ∈ Ss, Sp n a) (o3 : AV) (p3 : pureB o3 = true) (xs : List AV) (hx : Fd xs) :
    closeF 0 (law7 [some (.scr sc), some (.ref 0), some (.int (n : Nat)), some o3, some (.lst .new (Ss.map nl)), none, none, none] ⟨[some (.lst xs)], 0⟩) = .ok (.bl true) [] := by
  obtain ⟨d, y1, hy1, d0, d1, e1⟩ := draw0 hx [] 0 14 (by omega) (by omega)
  obtain ⟨m, hm⟩ : ∃ m : Nat, ((n : Int) + 1 + d) % 15 = m := ⟨(((n : Int) + 1 + d) % 15).toNat, by omega⟩
  obtain ⟨b, y2, hy2, hb, hbs, e2⟩ := shape_c hy1 [] 0 m (by omega)
  have pS : pureBs (Ss.map nl) = true := pureBs_all fun x hx => by
    obtain ⟨a, _, rfl⟩ := List.mem_map.mp hx
    simp
  have := law8_q n m hn (by omega) (by omega) Ss hS b ⟨hb, hbs⟩ (.scr sc) (.lst .new y2) (.int (n : Nat)) o3
  rw [← this]
  unfold law7
  simp [e1, mod_eq, hm, e2, hy2.pure, frA, frV_pure p3, pS]
theorem law5_q (sc : List Int) (n : Nat) (hn : n ≤ 14) (Ss : List (List Int)) (hS : ∀ a ∈ Ss, Sp n a) (o3 : AV) (p3 : pureB o3 = true) (xs : List AV) (hx : Fd xs) :
    closeF 0 (law5 [some (.scr sc), some (.ref 0), some (.int (n : Nat)), some o3, some (.lst .new (Ss.map nl)), none, none, none] ⟨[some (.lst xs)], 0⟩) = .ok (.bl true) [] := by
  suffices key : ∀ Q : FR → Prop, Q (.ok (.bl true) []) → Q (closeF 0 (law5 [some (.scr sc), some (.ref 0), some (.int (n : Nat)), some o3, some (.lst .new (Ss.map nl)), none, none, none] ⟨[some (.lst xs)], 0⟩)) from key (fun r => r = .ok (.bl true) []) rfl
  intro Q k
  have hsq : sqK (.lst .new (Ss.map nl)) ⟨[some (.lst xs)], 0⟩ = .ok (Ss.map nl) ⟨[some (.lst xs)], 0⟩ := sqK_lst ((pure_below _).2 _ (pureBs_all fun x hx => by
    obtain ⟨a, _, rfl⟩ := List.mem_map.mp hx
    simp))
  have ev : cVar 4 [some (.scr sc), some (.ref 0), some (.int (n : Nat)), some o3, some (.lst .new (Ss.map nl)), none, none, none] ⟨[some (.lst xs)], 0⟩ = .ok (.lst .new (Ss.map nl)) ⟨[some (.lst xs)], 0⟩ := rfl
  unfold law5
  simp only [s_seq, s_for, e_sq]
  rw [ev, bnd_ok, hsq, forK_ok]
  refine forL_inv nl (fun j e A => e = [some (.scr sc), some (.ref 0), some (.int (n : Nat)), some o3, some (.lst .new (Ss.map nl)), none, none, none] ∧ A = ⟨[some (.lst xs)], 0⟩) (fun r => Q (closeF 0 (seqK r _))) Ss 0 (fun j a e A hj hI => ?_) (fun e A hI => ?_) ⟨rfl, rfl⟩
  · obtain ⟨rfl, rfl⟩ := hI
    have ha := hS a (List.mem_of_getElem? hj)
    have := inn6_ok n hn Ss hS a ha (.scr sc) (.ref 0) (.int (n : Nat)) o3 [some (.lst xs)]
    refine ⟨_, _, rfl, ?_⟩
    simp only [List.set_cons_succ, List.set_cons_zero]
    rw [this]
    exact ⟨rfl, rfl⟩
  · obtain ⟨rfl, rfl⟩ := hI
    have := law7_q sc n hn Ss hS o3 p3 xs hx
    simp only [seqK_nx]
    rw [this]
    exact k
theorem law3_q (sc : List Int) (n : Nat) (hn : n ≤ 14) (xs : List AV) (hx : Fd xs) :
    closeF 0 (law3 [some (.scr sc), some (.ref 0), some (.int (n : Nat)), none, none, none, none, none] ⟨[some (.lst xs)], 0⟩) = .ok (.bl true) [] := by
  obtain ⟨a, y1, hy1, ha, has, d1⟩ := shape_c hx [] 0 n hn
  obtain ⟨b, y2, hy2, hb, hbs, d2⟩ := shape_c hy1 [] 0 n hn
  obtain ⟨m, y3, hy3, m0, m1, d3⟩ := draw0 hy2 [] 0 8 (by omega) (by omega)
  obtain ⟨m, rfl⟩ : ∃ k : Nat, m = k := ⟨m.toNat, by omega⟩
  have hal := ha.len_le
  obtain ⟨ms, c, y4, hy4, hc, hcs, d4⟩ := down_c hy3 [] 0 a ha .new m (by omega) (by omega)
  have t := law5_q sc n hn [a, b, c] (fun x hx => by
    simp at hx
    rcases hx with rfl | rfl | rfl
    · exact ⟨ha, has⟩
    · exact ⟨hb, hbs⟩
    · exact ⟨hc, by omega⟩) (nl a) (by simp) y4 hy4
  simp only [List.map_cons, List.map_nil] at t
  unfold law3
  simp [d1, d2, d3, d4]
  exact t
theorem law_true (ns : List Int) : f_law [.scr ns] [] = .ok (.bl true) [] := by
  obtain ⟨n, y1, hy1, n0, n1, d1⟩ := draw0 (feed_fd ns) [] 0 15 (by omega) (by omega)
  obtain ⟨q, y2, hy2, q0, q1, d2⟩ := draw0 hy1 [] 0 4 (by omega) (by omega)
  obtain ⟨k, rfl⟩ : ∃ k : Nat, n = k := ⟨n.toNat, by omega⟩
  unfold f_law bf_law
  rw [run1]
  show closeF 0 (sSeq _ (sSeq _ (sSeq _ law3)) _ _) = _
  by_cases h : q = 0
  · have := law3_q ns 14 (by omega) y2 hy2
    simp [ent, envOf, feed_call, d1, d2, h]
    exact this
  · have := law3_q ns k (by omega) y2 hy2
    simp [ent, envOf, feed_call, d1, d2, h]
    exact this

end K52

namespace K52
open PySem PySem.Spec PyProof.Rows L2 Sx
/-! ## what the top has written -/
def gb0 (K : PySem.W.Frag) (x0 x1 x2 x3 : Addr) : Gb := { cls := fun c => match c with | 0 => x0 | 1 => x1 | 2 => x2 | 3 => x3 | _ => 0, fld := flX, kk := K }
theorem all_mk {w : World} {K : PySem.W.Frag} {h : Heap} {mg : Str → Option Value} {fa : Addr} {a0 a1 a2 a3 a4 a5 a6 a7 a8 a9 a10 a11 a12 a13 a14 a15 a16 a17 a18 a19 a20 a21 a22 : Addr} (X : K.In h) (G : h.Ns mainGlobals mg) (hfa : mg "law" = some (.ref fa))
    {od0 an0 od1 an1 od2 an2 od3 an3 od4 an4 od5 an5 od6 an6 od7 an7 od8 an8 od9 an9 od10 an10 od11 an11 od12 an12 od13 an13 od14 an14 od15 an15 od16 an16 od17 an17 od18 an18 od19 an19 od20 an20 od21 an21 od22 an22 : Option Addr} {sl0 sl1 sl2 sl3 sl4 sl5 sl6 sl7 sl8 sl9 sl10 sl11 sl12 sl13 sl14 sl15 sl16 sl17 sl18 sl19 sl20 sl21 sl22 : Array (Option Value)} {oc0 kV0 dc0 pm0 cd0 ct0 oc1 kV1 dc1 pm1 cd1 ct1 oc2 kV2 dc2 pm2 cd2 ct2 oc3 kV3 dc3 pm3 cd3 ct3 oc4 kV4 dc4 pm4 cd4 ct4 oc5 kV5 dc5 pm5 cd5 ct5 oc6 kV6 dc6 pm6 cd6 ct6 oc7 kV7 dc7 pm7 cd7 ct7 oc8 kV8 dc8 pm8 cd8 ct8 oc9 kV9 dc9 pm9 cd9 ct9 oc10 kV10 dc10 pm10 cd10 ct10 oc11 kV11 dc11 pm11 cd11 ct11 oc12 kV12 dc12 pm12 cd12 ct12 oc13 kV13 dc13 pm13 cd13 ct13 oc14 kV14 dc14 pm14 cd14 ct14 oc15 kV15 dc15 pm15 cd15 ct15 oc16 kV16 dc16 pm16 cd16 ct16 oc17 kV17 dc17 pm17 cd17 ct17 oc18 kV18 dc18 pm18 cd18 ct18 oc19 kV19 dc19 pm19 cd19 ct19 oc20 kV20 dc20 pm20 cd20 ct20 oc21 kV21 dc21 pm21 cd21 ct21 oc22 kV22 dc22 pm22 cd22 ct22 : Value}
    (n0 : PySem.W.nsIn K mainGlobals "is_whole" = some (some (.ref a0))) (l0 : K.lookup a0 = some ⟨oc0, od0, .func (PySem.W.fnOf "is_whole" "is_whole" (defArgs sf_is_whole) (defBody sf_is_whole) (defScope sf_is_whole) .none kV0 dc0 pm0 an0 cd0 ct0), sl0⟩) (c0 : PySem.W.codeIn K cd0 "is_whole" = true) (k0 : PySem.W.keepIn K (.ref a0) = true)
    (n1 : PySem.W.nsIn K mainGlobals "first_less" = some (some (.ref a1))) (l1 : K.lookup a1 = some ⟨oc1, od1, .func (PySem.W.fnOf "first_less" "first_less" (defArgs sf_first_less) (defBody sf_first_less) (defScope sf_first_less) .none kV1 dc1 pm1 an1 cd1 ct1), sl1⟩) (c1 : PySem.W.codeIn K cd1 "first_less" = true) (k1 : PySem.W.keepIn K (.ref a1) = true)
    (n2 : PySem.W.nsIn K mainGlobals "moved" = some (some (.ref a2))) (l2 : K.lookup a2 = some ⟨oc2, od2, .func (PySem.W.fnOf "moved" "moved" (defArgs sf_moved) (defBody sf_moved) (defScope sf_moved) .none kV2 dc2 pm2 an2 cd2 ct2), sl2⟩) (c2 : PySem.W.codeIn K cd2 "moved" = true) (k2 : PySem.W.keepIn K (.ref a2) = true)
    (n3 : PySem.W.nsIn K mainGlobals "next_move" = some (some (.ref a3))) (l3 : K.lookup a3 = some ⟨oc3, od3, .func (PySem.W.fnOf "next_move" "next_move" (defArgs sf_next_move) (defBody sf_next_move) (defScope sf_next_move) .none kV3 dc3 pm3 an3 cd3 ct3), sl3⟩) (c3 : PySem.W.codeIn K cd3 "next_move" = true) (k3 : PySem.W.keepIn K (.ref a3) = true)
    (n4 : PySem.W.nsIn K mainGlobals "moves_to" = some (some (.ref a4))) (l4 : K.lookup a4 = some ⟨oc4, od4, .func (PySem.W.fnOf "moves_to" "moves_to" (defArgs sf_moves_to) (defBody sf_moves_to) (defScope sf_moves_to) .none kV4 dc4 pm4 an4 cd4 ct4), sl4⟩) (c4 : PySem.W.codeIn K cd4 "moves_to" = true) (k4 : PySem.W.keepIn K (.ref a4) = true)
    (n5 : PySem.W.nsIn K mainGlobals "is_as_uneven" = some (some (.ref a5))) (l5 : K.lookup a5 = some ⟨oc5, od5, .func (PySem.W.fnOf "is_as_uneven" "is_as_uneven" (defArgs sf_is_as_uneven) (defBody sf_is_as_uneven) (defScope sf_is_as_uneven) .none kV5 dc5 pm5 an5 cd5 ct5), sl5⟩) (c5 : PySem.W.codeIn K cd5 "is_as_uneven" = true) (k5 : PySem.W.keepIn K (.ref a5) = true)
    (n6 : PySem.W.nsIn K mainGlobals "is_move" = some (some (.ref a6))) (l6 : K.lookup a6 = some ⟨oc6, od6, .func (PySem.W.fnOf "is_move" "is_move" (defArgs sf_is_move) (defBody sf_is_move) (defScope sf_is_move) .none kV6 dc6 pm6 an6 cd6 ct6), sl6⟩) (c6 : PySem.W.codeIn K cd6 "is_move" = true) (k6 : PySem.W.keepIn K (.ref a6) = true)
    (n7 : PySem.W.nsIn K mainGlobals "is_falling" = some (some (.ref a7))) (l7 : K.lookup a7 = some ⟨oc7, od7, .func (PySem.W.fnOf "is_falling" "is_falling" (defArgs sf_is_falling) (defBody sf_is_falling) (defScope sf_is_falling) .none kV7 dc7 pm7 an7 cd7 ct7), sl7⟩) (c7 : PySem.W.codeIn K cd7 "is_falling" = true) (k7 : PySem.W.keepIn K (.ref a7) = true)
    (n8 : PySem.W.nsIn K mainGlobals "shows_uneven" = some (some (.ref a8))) (l8 : K.lookup a8 = some ⟨oc8, od8, .func (PySem.W.fnOf "shows_uneven" "shows_uneven" (defArgs sf_shows_uneven) (defBody sf_shows_uneven) (defScope sf_shows_uneven) .none kV8 dc8 pm8 an8 cd8 ct8), sl8⟩) (c8 : PySem.W.codeIn K cd8 "shows_uneven" = true) (k8 : PySem.W.keepIn K (.ref a8) = true)
    (n9 : PySem.W.nsIn K mainGlobals "_law_feed" = some (some (.ref a9))) (l9 : K.lookup a9 = some ⟨oc9, od9, .func (PySem.W.fnOf "_law_feed" "_law_feed" (defArgs sf_law_feed) (defBody sf_law_feed) (defScope sf_law_feed) .none kV9 dc9 pm9 an9 cd9 ct9), sl9⟩) (c9 : PySem.W.codeIn K cd9 "_law_feed" = true) (k9 : PySem.W.keepIn K (.ref a9) = true)
    (n10 : PySem.W.nsIn K mainGlobals "_law_draw" = some (some (.ref a10))) (l10 : K.lookup a10 = some ⟨oc10, od10, .func (PySem.W.fnOf "_law_draw" "_law_draw" (defArgs sf_law_draw) (defBody sf_law_draw) (defScope sf_law_draw) .none kV10 dc10 pm10 an10 cd10 ct10), sl10⟩) (c10 : PySem.W.codeIn K cd10 "_law_draw" = true) (k10 : PySem.W.keepIn K (.ref a10) = true)
    (n11 : PySem.W.nsIn K mainGlobals "_law_same" = some (some (.ref a11))) (l11 : K.lookup a11 = some ⟨oc11, od11, .func (PySem.W.fnOf "_law_same" "_law_same" (defArgs sf_law_same) (defBody sf_law_same) (defScope sf_law_same) .none kV11 dc11 pm11 an11 cd11 ct11), sl11⟩) (c11 : PySem.W.codeIn K cd11 "_law_same" = true) (k11 : PySem.W.keepIn K (.ref a11) = true)
    (n12 : PySem.W.nsIn K mainGlobals "_law_shape" = some (some (.ref a12))) (l12 : K.lookup a12 = some ⟨oc12, od12, .func (PySem.W.fnOf "_law_shape" "_law_shape" (defArgs sf_law_shape) (defBody sf_law_shape) (defScope sf_law_shape) .none kV12 dc12 pm12 an12 cd12 ct12), sl12⟩) (c12 : PySem.W.codeIn K cd12 "_law_shape" = true) (k12 : PySem.W.keepIn K (.ref a12) = true)
    (n13 : PySem.W.nsIn K mainGlobals "_law_falls" = some (some (.ref a13))) (l13 : K.lookup a13 = some ⟨oc13, od13, .func (PySem.W.fnOf "_law_falls" "_law_falls" (defArgs sf_law_falls) (defBody sf_law_falls) (defScope sf_law_falls) .none kV13 dc13 pm13 an13 cd13 ct13), sl13⟩) (c13 : PySem.W.codeIn K cd13 "_law_falls" = true) (k13 : PySem.W.keepIn K (.ref a13) = true)
    (n14 : PySem.W.nsIn K mainGlobals "_law_moved" = some (some (.ref a14))) (l14 : K.lookup a14 = some ⟨oc14, od14, .func (PySem.W.fnOf "_law_moved" "_law_moved" (defArgs sf_law_moved) (defBody sf_law_moved) (defScope sf_law_moved) .none kV14 dc14 pm14 an14 cd14 ct14), sl14⟩) (c14 : PySem.W.codeIn K cd14 "_law_moved" = true) (k14 : PySem.W.keepIn K (.ref a14) = true)
    (n15 : PySem.W.nsIn K mainGlobals "_law_down" = some (some (.ref a15))) (l15 : K.lookup a15 = some ⟨oc15, od15, .func (PySem.W.fnOf "_law_down" "_law_down" (defArgs sf_law_down) (defBody sf_law_down) (defScope sf_law_down) .none kV15 dc15 pm15 an15 cd15 ct15), sl15⟩) (c15 : PySem.W.codeIn K cd15 "_law_down" = true) (k15 : PySem.W.keepIn K (.ref a15) = true)
    (n16 : PySem.W.nsIn K mainGlobals "_law_told" = some (some (.ref a16))) (l16 : K.lookup a16 = some ⟨oc16, od16, .func (PySem.W.fnOf "_law_told" "_law_told" (defArgs sf_law_told) (defBody sf_law_told) (defScope sf_law_told) .none kV16 dc16 pm16 an16 cd16 ct16), sl16⟩) (c16 : PySem.W.codeIn K cd16 "_law_told" = true) (k16 : PySem.W.keepIn K (.ref a16) = true)
    (n17 : PySem.W.nsIn K mainGlobals "_law_first_less" = some (some (.ref a17))) (l17 : K.lookup a17 = some ⟨oc17, od17, .func (PySem.W.fnOf "_law_first_less" "_law_first_less" (defArgs sf_law_first_less) (defBody sf_law_first_less) (defScope sf_law_first_less) .none kV17 dc17 pm17 an17 cd17 ct17), sl17⟩) (c17 : PySem.W.codeIn K cd17 "_law_first_less" = true) (k17 : PySem.W.keepIn K (.ref a17) = true)
    (n18 : PySem.W.nsIn K mainGlobals "_law_leads" = some (some (.ref a18))) (l18 : K.lookup a18 = some ⟨oc18, od18, .func (PySem.W.fnOf "_law_leads" "_law_leads" (defArgs sf_law_leads) (defBody sf_law_leads) (defScope sf_law_leads) .none kV18 dc18 pm18 an18 cd18 ct18), sl18⟩) (c18 : PySem.W.codeIn K cd18 "_law_leads" = true) (k18 : PySem.W.keepIn K (.ref a18) = true)
    (n19 : PySem.W.nsIn K mainGlobals "_law_across" = some (some (.ref a19))) (l19 : K.lookup a19 = some ⟨oc19, od19, .func (PySem.W.fnOf "_law_across" "_law_across" (defArgs sf_law_across) (defBody sf_law_across) (defScope sf_law_across) .none kV19 dc19 pm19 an19 cd19 ct19), sl19⟩) (c19 : PySem.W.codeIn K cd19 "_law_across" = true) (k19 : PySem.W.keepIn K (.ref a19) = true)
    (n20 : PySem.W.nsIn K mainGlobals "_law_right" = some (some (.ref a20))) (l20 : K.lookup a20 = some ⟨oc20, od20, .func (PySem.W.fnOf "_law_right" "_law_right" (defArgs sf_law_right) (defBody sf_law_right) (defScope sf_law_right) .none kV20 dc20 pm20 an20 cd20 ct20), sl20⟩) (c20 : PySem.W.codeIn K cd20 "_law_right" = true) (k20 : PySem.W.keepIn K (.ref a20) = true)
    (n21 : PySem.W.nsIn K mainGlobals "_law_same_across" = some (some (.ref a21))) (l21 : K.lookup a21 = some ⟨oc21, od21, .func (PySem.W.fnOf "_law_same_across" "_law_same_across" (defArgs sf_law_same_across) (defBody sf_law_same_across) (defScope sf_law_same_across) .none kV21 dc21 pm21 an21 cd21 ct21), sl21⟩) (c21 : PySem.W.codeIn K cd21 "_law_same_across" = true) (k21 : PySem.W.keepIn K (.ref a21) = true)
    (n22 : PySem.W.nsIn K mainGlobals "law" = some (some (.ref a22))) (l22 : K.lookup a22 = some ⟨oc22, od22, .func (PySem.W.fnOf "law" "law" (defArgs sf_law) (defBody sf_law) (defScope sf_law) .none kV22 dc22 pm22 an22 cd22 ct22), sl22⟩) (c22 : PySem.W.codeIn K cd22 "law" = true) (k22 : PySem.W.keepIn K (.ref a22) = true)
    (z0 : PySem.W.nsIn K mainGlobals "ValueError" = some none)
    (z1 : PySem.W.nsIn K mainGlobals "abs" = some none)
    (z2 : PySem.W.nsIn K mainGlobals "all" = some none)
    (z3 : PySem.W.nsIn K mainGlobals "bool" = some none)
    (z4 : PySem.W.nsIn K mainGlobals "enumerate" = some none)
    (z5 : PySem.W.nsIn K mainGlobals "int" = some none)
    (z6 : PySem.W.nsIn K mainGlobals "isinstance" = some none)
    (z7 : PySem.W.nsIn K mainGlobals "len" = some none)
    (z8 : PySem.W.nsIn K mainGlobals "list" = some none)
    (z9 : PySem.W.nsIn K mainGlobals "max" = some none)
    (z10 : PySem.W.nsIn K mainGlobals "min" = some none)
    (z11 : PySem.W.nsIn K mainGlobals "range" = some none)
    (z12 : PySem.W.nsIn K mainGlobals "str" = some none)
    (z13 : PySem.W.nsIn K mainGlobals "sum" = some none)
    (z14 : PySem.W.nsIn K mainGlobals "tuple" = some none)
    {x0 x1 x2 x3 : Addr}
    {nmx0 qx0 Nx0 bsx0 bmx0 snx0 sbx0 abx0 cox0 ddx0 ka0 kb0 kc0 kd0 ke0}
    (mx0 : PySem.W.nsIn K mainGlobals "ShelfError" = some (some (.ref x0))) (lx0 : K.lookup x0 = some (excClassObj nmx0 qx0 x0 Nx0 bsx0 bmx0 true snx0 sbx0 abx0 cox0 ddx0 ka0 kb0 kc0 kd0 ke0 "ValueError.__new__"))
    (rx0 : PySem.HandSPX.refsVE bmx0 = true) (sx0 : PySem.W.findIn K (.ref x0) "__setattr__" = some (some (.builtin "object.__setattr__"))) (ex0 : PySem.W.subIn K (.ref x0) (.type "BaseException") = some true) (tx0 : PySem.W.typeIn K (.ref x0) = some (.type "type")) (kx0 : PySem.W.keepIn K (.ref x0) = true)
    (gx0 : PySem.W.findIn K (.ref x0) "__getattribute__" = some (some (.builtin "BaseException.__getattribute__"))) (hx0 : PySem.W.findIn K (.ref x0) "__getattr__" = some none) (dx0 : PySem.W.hasDictIn K x0 = true) (ax0 : PySem.W.findIn K (.ref x0) "__class__" = some (some (.builtin "object.__class__"))) (ox0 : PySem.W.mroIn K x0 (.type "object") = some true) (vx0 : PySem.W.subIn K (.ref x0) (.type "ValueError") = some true)
    {nmx1 qx1 Nx1 bsx1 bmx1 snx1 sbx1 abx1 cox1 ddx1 ka1 kb1 kc1 kd1 ke1}
    (mx1 : PySem.W.nsIn K mainGlobals "NotAlike" = some (some (.ref x1))) (lx1 : K.lookup x1 = some (excClassObj nmx1 qx1 x1 Nx1 bsx1 bmx1 true snx1 sbx1 abx1 cox1 ddx1 ka1 kb1 kc1 kd1 ke1 "ValueError.__new__"))
    (rx1 : PySem.HandSPX.refsVE bmx1 = true) (sx1 : PySem.W.findIn K (.ref x1) "__setattr__" = some (some (.builtin "object.__setattr__"))) (ex1 : PySem.W.subIn K (.ref x1) (.type "BaseException") = some true) (tx1 : PySem.W.typeIn K (.ref x1) = some (.type "type")) (kx1 : PySem.W.keepIn K (.ref x1) = true)
    (gx1 : PySem.W.findIn K (.ref x1) "__getattribute__" = some (some (.builtin "BaseException.__getattribute__"))) (hx1 : PySem.W.findIn K (.ref x1) "__getattr__" = some none) (dx1 : PySem.W.hasDictIn K x1 = true) (ax1 : PySem.W.findIn K (.ref x1) "__class__" = some (some (.builtin "object.__class__"))) (ox1 : PySem.W.mroIn K x1 (.type "object") = some true) (vx1 : PySem.W.subIn K (.ref x1) (.type "ValueError") = some true)
    (fx1_shape : PySem.W.findIn K (.ref x1) "shape" = some none)
    (fx1_other : PySem.W.findIn K (.ref x1) "other" = some none)
    {nmx2 qx2 Nx2 bsx2 bmx2 snx2 sbx2 abx2 cox2 ddx2 ka2 kb2 kc2 kd2 ke2}
    (mx2 : PySem.W.nsIn K mainGlobals "BadShape" = some (some (.ref x2))) (lx2 : K.lookup x2 = some (excClassObj nmx2 qx2 x2 Nx2 bsx2 bmx2 true snx2 sbx2 abx2 cox2 ddx2 ka2 kb2 kc2 kd2 ke2 "ValueError.__new__"))
    (rx2 : PySem.HandSPX.refsVE bmx2 = true) (sx2 : PySem.W.findIn K (.ref x2) "__setattr__" = some (some (.builtin "object.__setattr__"))) (ex2 : PySem.W.subIn K (.ref x2) (.type "BaseException") = some true) (tx2 : PySem.W.typeIn K (.ref x2) = some (.type "type")) (kx2 : PySem.W.keepIn K (.ref x2) = true)
    (gx2 : PySem.W.findIn K (.ref x2) "__getattribute__" = some (some (.builtin "BaseException.__getattribute__"))) (hx2 : PySem.W.findIn K (.ref x2) "__getattr__" = some none) (dx2 : PySem.W.hasDictIn K x2 = true) (ax2 : PySem.W.findIn K (.ref x2) "__class__" = some (some (.builtin "object.__class__"))) (ox2 : PySem.W.mroIn K x2 (.type "object") = some true) (vx2 : PySem.W.subIn K (.ref x2) (.type "ValueError") = some true)
    (fx2_at : PySem.W.findIn K (.ref x2) "at" = some none)
    {nmx3 qx3 Nx3 bsx3 bmx3 snx3 sbx3 abx3 cox3 ddx3 ka3 kb3 kc3 kd3 ke3}
    (mx3 : PySem.W.nsIn K mainGlobals "NoSuch" = some (some (.ref x3))) (lx3 : K.lookup x3 = some (excClassObj nmx3 qx3 x3 Nx3 bsx3 bmx3 true snx3 sbx3 abx3 cox3 ddx3 ka3 kb3 kc3 kd3 ke3 "ValueError.__new__"))
    (rx3 : PySem.HandSPX.refsVE bmx3 = true) (sx3 : PySem.W.findIn K (.ref x3) "__setattr__" = some (some (.builtin "object.__setattr__"))) (ex3 : PySem.W.subIn K (.ref x3) (.type "BaseException") = some true) (tx3 : PySem.W.typeIn K (.ref x3) = some (.type "type")) (kx3 : PySem.W.keepIn K (.ref x3) = true)
    (gx3 : PySem.W.findIn K (.ref x3) "__getattribute__" = some (some (.builtin "BaseException.__getattribute__"))) (hx3 : PySem.W.findIn K (.ref x3) "__getattr__" = some none) (dx3 : PySem.W.hasDictIn K x3 = true) (ax3 : PySem.W.findIn K (.ref x3) "__class__" = some (some (.builtin "object.__class__"))) (ox3 : PySem.W.mroIn K x3 (.type "object") = some true) (vx3 : PySem.W.subIn K (.ref x3) (.type "ValueError") = some true)
    (fx3_k : PySem.W.findIn K (.ref x3) "k" = some none)
    (spx : PySem.W.specialIn K (.builtin "object.__class__") "__get__" = some (some (.builtin "getset_descriptor.__get__"))) (tkx : PySem.W.takesIn K (.builtin "object.__class__") = some true)
    (u0_0 : PySem.W.subIn K (.ref x0) (.ref x0) = some true)
    (u0_1 : PySem.W.subIn K (.ref x0) (.ref x1) = some false)
    (u0_2 : PySem.W.subIn K (.ref x0) (.ref x2) = some false)
    (u0_3 : PySem.W.subIn K (.ref x0) (.ref x3) = some false)
    (u1_0 : PySem.W.subIn K (.ref x1) (.ref x0) = some true)
    (u1_1 : PySem.W.subIn K (.ref x1) (.ref x1) = some true)
    (u1_2 : PySem.W.subIn K (.ref x1) (.ref x2) = some false)
    (u1_3 : PySem.W.subIn K (.ref x1) (.ref x3) = some false)
    (u2_0 : PySem.W.subIn K (.ref x2) (.ref x0) = some true)
    (u2_1 : PySem.W.subIn K (.ref x2) (.ref x1) = some false)
    (u2_2 : PySem.W.subIn K (.ref x2) (.ref x2) = some true)
    (u2_3 : PySem.W.subIn K (.ref x2) (.ref x3) = some false)
    (u3_0 : PySem.W.subIn K (.ref x3) (.ref x0) = some true)
    (u3_1 : PySem.W.subIn K (.ref x3) (.ref x1) = some false)
    (u3_2 : PySem.W.subIn K (.ref x3) (.ref x2) = some false)
    (u3_3 : PySem.W.subIn K (.ref x3) (.ref x3) = some true)
    {iy1 : Addr} {oy1 ny1 : Option Addr} {sly1 : Array (Option Value)} {ocy1 kVy1 dcy1 pmy1 cdy1 cty1 : Value} (ix1 : PySem.W.findIn K (.ref x1) "__init__" = some (some (.ref iy1))) (iz1 : PySem.W.typeIn K (.ref iy1) = some (.type "function"))
    (ly1 : K.lookup iy1 = some ⟨ocy1, oy1, .func (PySem.W.fnOf "__init__" "NotAlike.__init__" (defArgs sini_NotAlike) (defBody sini_NotAlike) (defScope sini_NotAlike) .none kVy1 dcy1 pmy1 ny1 cdy1 cty1), sly1⟩) (cy1 : PySem.W.codeIn K cdy1 "NotAlike.__init__" = true) (ky1 : PySem.W.keepIn K (.ref iy1) = true)
    : ∃ fd : FuncData, (∀ (s : Shared) (v : Value), BindsTo s fd ⟨[v], []⟩ [("script", v)]) ∧ ∀ base : Heap, K.In base → base.Ns mainGlobals mg → FnOk PySem.Challenge.pw_spelledrows_k52_whole_uneven_moves w K mg base (L2.CX PySem.Challenge.pw_spelledrows_k52_whole_uneven_moves w) 43 fa fd ["script"] (spLawA f_law K) := by
  have e := hfa.symm.trans (PySem.W.mg_of X G n22)
  cases e
  have hz : ∀ x ∈ blts, mg x = none := by
    intro x hx
    simp only [blts, List.mem_cons, List.not_mem_nil, or_false] at hx
    rcases hx with rfl | rfl | rfl | rfl | rfl | rfl | rfl | rfl | rfl | rfl | rfl | rfl | rfl | rfl | rfl
    · exact PySem.W.mg_none_of X G z0
    · exact PySem.W.mg_none_of X G z1
    · exact PySem.W.mg_none_of X G z2
    · exact PySem.W.mg_none_of X G z3
    · exact PySem.W.mg_none_of X G z4
    · exact PySem.W.mg_none_of X G z5
    · exact PySem.W.mg_none_of X G z6
    · exact PySem.W.mg_none_of X G z7
    · exact PySem.W.mg_none_of X G z8
    · exact PySem.W.mg_none_of X G z9
    · exact PySem.W.mg_none_of X G z10
    · exact PySem.W.mg_none_of X G z11
    · exact PySem.W.mg_none_of X G z12
    · exact PySem.W.mg_none_of X G z13
    · exact PySem.W.mg_none_of X G z14
  refine ⟨PySem.W.fnOf "law" "law" (defArgs sf_law) (defBody sf_law) (defScope sf_law) .none kV22 dc22 pm22 an22 cd22 ct22, fun s v => .of_eq rfl, fun base _ _ => ?_⟩
  have hgk : (gb0 K x0 x1 x2 x3).kk = K := rfl
  have h0 : (gb0 K x0 x1 x2 x3).cur = none := rfl
  have Y : XcOk K mg (gb0 K x0 x1 x2 x3) 4 nmX flX := {
    mg := fun c hc => match c, hc with | 0, _ => PySem.W.mg_of X G mx0 | 1, _ => PySem.W.mg_of X G mx1 | 2, _ => PySem.W.mg_of X G mx2 | 3, _ => PySem.W.mg_of X G mx3 | c + 4, hc => absurd hc (by omega)
    fld := fun _ _ => rfl
    oex := fun c hc => match c, hc with | 0, _ => ⟨⟨_, _, _, _, _, _, _, _, _, _, _, _, _, _, _, lx0, rx0⟩, sx0, ex0, tx0, kx0⟩ | 1, _ => ⟨⟨_, _, _, _, _, _, _, _, _, _, _, _, _, _, _, lx1, rx1⟩, sx1, ex1, tx1, kx1⟩ | 2, _ => ⟨⟨_, _, _, _, _, _, _, _, _, _, _, _, _, _, _, lx2, rx2⟩, sx2, ex2, tx2, kx2⟩ | 3, _ => ⟨⟨_, _, _, _, _, _, _, _, _, _, _, _, _, _, _, lx3, rx3⟩, sx3, ex3, tx3, kx3⟩ | c + 4, hc => absurd hc (by omega)
    exc := fun c hc => match c, hc with | 0, _ => ⟨gx0, hx0, ex0, dx0, ax0, spx, tkx, ox0⟩ | 1, _ => ⟨gx1, hx1, ex1, dx1, ax1, spx, tkx, ox1⟩ | 2, _ => ⟨gx2, hx2, ex2, dx2, ax2, spx, tkx, ox2⟩ | 3, _ => ⟨gx3, hx3, ex3, dx3, ax3, spx, tkx, ox3⟩ | c + 4, hc => absurd hc (by omega)
    no := fun c hc => match c, hc with | 0, _ => fun _ h => nomatch h | 1, _ => no_cons fx1_other (no_cons fx1_shape (fun _ h => nomatch h)) | 2, _ => no_cons fx2_at (fun _ h => nomatch h) | 3, _ => no_cons fx3_k (fun _ h => nomatch h) | c + 4, hc => absurd hc (by omega)
    sub := fun c hc => match c, hc with | 0, _ => (fun d hd => match d, hd with | 0, _ => u0_0 | 1, _ => u0_1 | 2, _ => u0_2 | 3, _ => u0_3 | d + 4, hd => absurd hd (by omega)) | 1, _ => (fun d hd => match d, hd with | 0, _ => u1_0 | 1, _ => u1_1 | 2, _ => u1_2 | 3, _ => u1_3 | d + 4, hd => absurd hd (by omega)) | 2, _ => (fun d hd => match d, hd with | 0, _ => u2_0 | 1, _ => u2_1 | 2, _ => u2_2 | 3, _ => u2_3 | d + 4, hd => absurd hd (by omega)) | 3, _ => (fun d hd => match d, hd with | 0, _ => u3_0 | 1, _ => u3_1 | 2, _ => u3_2 | 3, _ => u3_3 | d + 4, hd => absurd hd (by omega)) | c + 4, hc => absurd hc (by omega)
    subV := fun c hc => match c, hc with | 0, _ => vx0 | 1, _ => vx1 | 2, _ => vx2 | 3, _ => vx3 | c + 4, hc => absurd hc (by omega) }
  have I_NotAlike : IniOk PySem.Challenge.pw_spelledrows_k52_whole_uneven_moves w K mg base ((gb0 K x0 x1 x2 x3).cls 1) (flX 1) := ini_NotAlike (fun_mk (st := sini_NotAlike) ly1 cy1 ky1) ix1 iz1
  have D_f_is_whole : Def PySem.Challenge.pw_spelledrows_k52_whole_uneven_moves w K mg base (gb0 K x0 x1 x2 x3) "is_whole" 1 ["value"] f_is_whole := okf_is_whole hz (fun_mk (st := sf_is_whole) l0 c0 k0) (PySem.W.mg_of X G n0)
  have D_f_first_less : Def PySem.Challenge.pw_spelledrows_k52_whole_uneven_moves w K mg base (gb0 K x0 x1 x2 x3) "first_less" 1 ["shape", "other"] f_first_less := okf_first_less hz (fun_mk (st := sf_first_less) l1 c1 k1) (PySem.W.mg_of X G n1)
  have D_f_moved : Def PySem.Challenge.pw_spelledrows_k52_whole_uneven_moves w K mg base (gb0 K x0 x1 x2 x3) "moved" 1 ["shape", "i", "j"] f_moved := okf_moved hz (fun_mk (st := sf_moved) l2 c2 k2) (PySem.W.mg_of X G n2)
  have D_f_next_move : Def PySem.Challenge.pw_spelledrows_k52_whole_uneven_moves w K mg base (gb0 K x0 x1 x2 x3) "next_move" 1 ["shape", "other"] f_next_move := okf_next_move hz (fun_mk (st := sf_next_move) l3 c3 k3) (PySem.W.mg_of X G n3)
  have D_f_moves_to : Def PySem.Challenge.pw_spelledrows_k52_whole_uneven_moves w K mg base (gb0 K x0 x1 x2 x3) "moves_to" 2 ["shape", "other"] f_moves_to := okf_moves_to hz D_f_moved D_f_next_move (fun_mk (st := sf_moves_to) l4 c4 k4) (PySem.W.mg_of X G n4)
  have D_f_is_as_uneven : Def PySem.Challenge.pw_spelledrows_k52_whole_uneven_moves w K mg base (gb0 K x0 x1 x2 x3) "is_as_uneven" 3 ["shape", "other"] f_is_as_uneven := okf_is_as_uneven hz D_f_first_less D_f_moves_to Y h0 I_NotAlike (fun_mk (st := sf_is_as_uneven) l5 c5 k5) (PySem.W.mg_of X G n5)
  have D_f_is_move : Def PySem.Challenge.pw_spelledrows_k52_whole_uneven_moves w K mg base (gb0 K x0 x1 x2 x3) "is_move" 2 ["move", "many"] f_is_move := okf_is_move hz D_f_is_whole (fun_mk (st := sf_is_move) l6 c6 k6) (PySem.W.mg_of X G n6)
  have D_f_is_falling : Def PySem.Challenge.pw_spelledrows_k52_whole_uneven_moves w K mg base (gb0 K x0 x1 x2 x3) "is_falling" 1 ["numbers"] f_is_falling := okf_is_falling hz (fun_mk (st := sf_is_falling) l7 c7 k7) (PySem.W.mg_of X G n7)
  have D_f_shows_uneven : Def PySem.Challenge.pw_spelledrows_k52_whole_uneven_moves w K mg base (gb0 K x0 x1 x2 x3) "shows_uneven" 3 ["shape", "other", "moves"] f_shows_uneven := okf_shows_uneven hz D_f_moved D_f_is_move D_f_is_falling (fun_mk (st := sf_shows_uneven) l8 c8 k8) (PySem.W.mg_of X G n8)
  have D_f_law_feed : Def PySem.Challenge.pw_spelledrows_k52_whole_uneven_moves w K mg base (gb0 K x0 x1 x2 x3) "_law_feed" 1 ["script"] f_law_feed := okf_law_feed hz hgk (fun_mk (st := sf_law_feed) l9 c9 k9) (PySem.W.mg_of X G n9)
  have D_f_law_draw : Def PySem.Challenge.pw_spelledrows_k52_whole_uneven_moves w K mg base (gb0 K x0 x1 x2 x3) "_law_draw" 1 ["feed", "many"] f_law_draw := okf_law_draw hz (fun_mk (st := sf_law_draw) l10 c10 k10) (PySem.W.mg_of X G n10)
  have D_f_law_same : Def PySem.Challenge.pw_spelledrows_k52_whole_uneven_moves w K mg base (gb0 K x0 x1 x2 x3) "_law_same" 40 ["actual", "due"] (f_law_same 40) := okf_law_same hz (fun_mk (st := sf_law_same) l11 c11 k11) (PySem.W.mg_of X G n11) 40
  have D_f_law_shape : Def PySem.Challenge.pw_spelledrows_k52_whole_uneven_moves w K mg base (gb0 K x0 x1 x2 x3) "_law_shape" 2 ["feed", "n"] f_law_shape := okf_law_shape hz D_f_law_draw (fun_mk (st := sf_law_shape) l12 c12 k12) (PySem.W.mg_of X G n12)
  have D_f_law_falls : Def PySem.Challenge.pw_spelledrows_k52_whole_uneven_moves w K mg base (gb0 K x0 x1 x2 x3) "_law_falls" 1 ["numbers"] f_law_falls := okf_law_falls hz (fun_mk (st := sf_law_falls) l13 c13 k13) (PySem.W.mg_of X G n13)
  have D_f_law_moved : Def PySem.Challenge.pw_spelledrows_k52_whole_uneven_moves w K mg base (gb0 K x0 x1 x2 x3) "_law_moved" 1 ["shape", "i", "j"] f_law_moved := okf_law_moved hz (fun_mk (st := sf_law_moved) l14 c14 k14) (PySem.W.mg_of X G n14)
  have D_f_law_down : Def PySem.Challenge.pw_spelledrows_k52_whole_uneven_moves w K mg base (gb0 K x0 x1 x2 x3) "_law_down" 2 ["feed", "shape", "many"] f_law_down := okf_law_down hz D_f_law_draw D_f_law_falls D_f_law_moved (fun_mk (st := sf_law_down) l15 c15 k15) (PySem.W.mg_of X G n15)
  have D_f_law_told : Def PySem.Challenge.pw_spelledrows_k52_whole_uneven_moves w K mg base (gb0 K x0 x1 x2 x3) "_law_told" 41 ["shape", "other"] f_law_told := okf_law_told hz D_f_is_as_uneven D_f_law_same Y h0 (fun_mk (st := sf_law_told) l16 c16 k16) (PySem.W.mg_of X G n16)
  have D_f_law_first_less : Def PySem.Challenge.pw_spelledrows_k52_whole_uneven_moves w K mg base (gb0 K x0 x1 x2 x3) "_law_first_less" 1 ["shape", "other"] f_law_first_less := okf_law_first_less hz (fun_mk (st := sf_law_first_less) l17 c17 k17) (PySem.W.mg_of X G n17)
  have D_f_law_leads : Def PySem.Challenge.pw_spelledrows_k52_whole_uneven_moves w K mg base (gb0 K x0 x1 x2 x3) "_law_leads" 2 ["shape", "other", "moves"] f_law_leads := okf_law_leads hz D_f_law_falls D_f_law_moved (fun_mk (st := sf_law_leads) l18 c18 k18) (PySem.W.mg_of X G n18)
  have D_f_law_across : Def PySem.Challenge.pw_spelledrows_k52_whole_uneven_moves w K mg base (gb0 K x0 x1 x2 x3) "_law_across" 1 ["shape"] f_law_across := okf_law_across hz (fun_mk (st := sf_law_across) l19 c19 k19) (PySem.W.mg_of X G n19)
  have D_f_law_right : Def PySem.Challenge.pw_spelledrows_k52_whole_uneven_moves w K mg base (gb0 K x0 x1 x2 x3) "_law_right" 42 ["shape", "other"] f_law_right := okf_law_right hz D_f_shows_uneven D_f_law_same D_f_law_told D_f_law_first_less D_f_law_leads (fun_mk (st := sf_law_right) l20 c20 k20) (PySem.W.mg_of X G n20)
  have D_f_law_same_across : Def PySem.Challenge.pw_spelledrows_k52_whole_uneven_moves w K mg base (gb0 K x0 x1 x2 x3) "_law_same_across" 42 ["shape", "other"] f_law_same_across := okf_law_same_across hz D_f_law_same D_f_law_told D_f_law_first_less D_f_law_across (fun_mk (st := sf_law_same_across) l21 c21 k21) (PySem.W.mg_of X G n21)
  exact okf_law hz D_f_shows_uneven D_f_law_feed D_f_law_draw D_f_law_same D_f_law_shape D_f_law_down D_f_law_told D_f_law_across D_f_law_right D_f_law_same_across hgk (fun_mk (st := sf_law) l22 c22 k22)
end K52
open PySem PySem.W PyProof.Rows
set_option maxHeartbeats 0 in
theorem PySem.Challenge.cw_spelledrows_k52_whole_uneven_moves_holds : PySem.Challenge.rw_spelledrows_k52_whole_uneven_moves.Holds := by
  w_on; o_law; k_head; (case hw => w_witness2)
  k_fill
  refine L2.walk_of (l := PySem.Challenge.rw_spelledrows_k52_whole_uneven_moves) (n := 63) (k := 43) (x := "script") (CX := fun w => L2.CX PySem.Challenge.pw_spelledrows_k52_whole_uneven_moves w) (sp := fun w => Sx.spLawA K52.f_law _) rfl (by decide) rfl ⟨rfl, by decide, by decide⟩ (fun w h Y => PySem.W.kIn_of Y) ?F (fun _ _ a ns hl ho hS => Sx.spLaw_start ho hS (K52.law_true ns)) (fun _ _ _ _ _ h => Sx.cx_false h)
  case F =>
    intro w mg fa h KX G hmg
    refine' K52.all_mk KX G hmg ?n0 ?l0 ?c0 ?k0 ?n1 ?l1 ?c1 ?k1 ?n2 ?l2 ?c2 ?k2 ?n3 ?l3 ?c3 ?k3 ?n4 ?l4 ?c4 ?k4 ?n5 ?l5 ?c5 ?k5 ?n6 ?l6 ?c6 ?k6 ?n7 ?l7 ?c7 ?k7 ?n8 ?l8 ?c8 ?k8 ?n9 ?l9 ?c9 ?k9 ?n10 ?l10 ?c10 ?k10 ?n11 ?l11 ?c11 ?k11 ?n12 ?l12 ?c12 ?k12 ?n13 ?l13 ?c13 ?k13 ?n14 ?l14 ?c14 ?k14 ?n15 ?l15 ?c15 ?k15 ?n16 ?l16 ?c16 ?k16 ?n17 ?l17 ?c17 ?k17 ?n18 ?l18 ?c18 ?k18 ?n19 ?l19 ?c19 ?k19 ?n20 ?l20 ?c20 ?k20 ?n21 ?l21 ?c21 ?k21 ?n22 ?l22 ?c22 ?k22 ?z0 ?z1 ?z2 ?z3 ?z4 ?z5 ?z6 ?z7 ?z8 ?z9 ?z10 ?z11 ?z12 ?z13 ?z14 ?mx0 ?lx0 ?rx0 ?sx0 ?ex0 ?tx0 ?kx0 ?gx0 ?hx0 ?dx0 ?ax0 ?ox0 ?vx0 ?mx1 ?lx1 ?rx1 ?sx1 ?ex1 ?tx1 ?kx1 ?gx1 ?hx1 ?dx1 ?ax1 ?ox1 ?vx1 ?fx1_shape ?fx1_other ?mx2 ?lx2 ?rx2 ?sx2 ?ex2 ?tx2 ?kx2 ?gx2 ?hx2 ?dx2 ?ax2 ?ox2 ?vx2 ?fx2_at ?mx3 ?lx3 ?rx3 ?sx3 ?ex3 ?tx3 ?kx3 ?gx3 ?hx3 ?dx3 ?ax3 ?ox3 ?vx3 ?fx3_k ?spx ?tkx ?u0_0 ?u0_1 ?u0_2 ?u0_3 ?u1_0 ?u1_1 ?u1_2 ?u1_3 ?u2_0 ?u2_1 ?u2_2 ?u2_3 ?u3_0 ?u3_1 ?u3_2 ?u3_3 ?ix1 ?iz1 ?ly1 ?cy1 ?ky1
    (case n0 => k_is); (case l0 => k_is); (case c0 => k_is); (case k0 => k_is); (case n1 => k_is); (case l1 => k_is); (case c1 => k_is); (case k1 => k_is); (case n2 => k_is); (case l2 => k_is); (case c2 => k_is); (case k2 => k_is); (case n3 => k_is); (case l3 => k_is); (case c3 => k_is); (case k3 => k_is); (case n4 => k_is); (case l4 => k_is); (case c4 => k_is); (case k4 => k_is); (case n5 => k_is); (case l5 => k_is); (case c5 => k_is); (case k5 => k_is); (case n6 => k_is); (case l6 => k_is); (case c6 => k_is); (case k6 => k_is); (case n7 => k_is); (case l7 => k_is); (case c7 => k_is); (case k7 => k_is); (case n8 => k_is); (case l8 => k_is); (case c8 => k_is); (case k8 => k_is); (case n9 => k_is); (case l9 => k_is); (case c9 => k_is); (case k9 => k_is); (case n10 => k_is); (case l10 => k_is); (case c10 => k_is); (case k10 => k_is); (case n11 => k_is); (case l11 => k_is); (case c11 => k_is); (case k11 => k_is); (case n12 => k_is); (case l12 => k_is); (case c12 => k_is); (case k12 => k_is); (case n13 => k_is); (case l13 => k_is); (case c13 => k_is); (case k13 => k_is); (case n14 => k_is); (case l14 => k_is); (case c14 => k_is); (case k14 => k_is); (case n15 => k_is); (case l15 => k_is); (case c15 => k_is); (case k15 => k_is); (case n16 => k_is); (case l16 => k_is); (case c16 => k_is); (case k16 => k_is); (case n17 => k_is); (case l17 => k_is); (case c17 => k_is); (case k17 => k_is); (case n18 => k_is); (case l18 => k_is); (case c18 => k_is); (case k18 => k_is); (case n19 => k_is); (case l19 => k_is); (case c19 => k_is); (case k19 => k_is); (case n20 => k_is); (case l20 => k_is); (case c20 => k_is); (case k20 => k_is); (case n21 => k_is); (case l21 => k_is); (case c21 => k_is); (case k21 => k_is); (case n22 => k_is); (case l22 => k_is); (case c22 => k_is); (case k22 => k_is); (case z0 => k_is); (case z1 => k_is); (case z2 => k_is); (case z3 => k_is); (case z4 => k_is); (case z5 => k_is); (case z6 => k_is); (case z7 => k_is); (case z8 => k_is); (case z9 => k_is); (case z10 => k_is); (case z11 => k_is); (case z12 => k_is); (case z13 => k_is); (case z14 => k_is); (case mx0 => k_is); (case lx0 => k_is); (case rx0 => rfl); (case sx0 => k_is); (case ex0 => k_is); (case tx0 => k_is); (case kx0 => k_is); (case gx0 => k_is); (case hx0 => k_is); (case dx0 => k_is); (case ax0 => k_is); (case ox0 => k_is); (case vx0 => k_is); (case mx1 => k_is); (case lx1 => k_is); (case rx1 => rfl); (case sx1 => k_is); (case ex1 => k_is); (case tx1 => k_is); (case kx1 => k_is); (case gx1 => k_is); (case hx1 => k_is); (case dx1 => k_is); (case ax1 => k_is); (case ox1 => k_is); (case vx1 => k_is); (case fx1_shape => k_is); (case fx1_other => k_is); (case mx2 => k_is); (case lx2 => k_is); (case rx2 => rfl); (case sx2 => k_is); (case ex2 => k_is); (case tx2 => k_is); (case kx2 => k_is); (case gx2 => k_is); (case hx2 => k_is); (case dx2 => k_is); (case ax2 => k_is); (case ox2 => k_is); (case vx2 => k_is); (case fx2_at => k_is); (case mx3 => k_is); (case lx3 => k_is); (case rx3 => rfl); (case sx3 => k_is); (case ex3 => k_is); (case tx3 => k_is); (case kx3 => k_is); (case gx3 => k_is); (case hx3 => k_is); (case dx3 => k_is); (case ax3 => k_is); (case ox3 => k_is); (case vx3 => k_is); (case fx3_k => k_is); (case spx => k_is); (case tkx => k_is); (case u0_0 => k_is); (case u0_1 => k_is); (case u0_2 => k_is); (case u0_3 => k_is); (case u1_0 => k_is); (case u1_1 => k_is); (case u1_2 => k_is); (case u1_3 => k_is); (case u2_0 => k_is); (case u2_1 => k_is); (case u2_2 => k_is); (case u2_3 => k_is); (case u3_0 => k_is); (case u3_1 => k_is); (case u3_2 => k_is); (case u3_3 => k_is); (case ix1 => k_is); (case iz1 => k_is); (case ly1 => k_is); (case cy1 => k_is); (case ky1 => k_is)
