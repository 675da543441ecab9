import PyProof.Rows.All
import HandS.ForMost
import HandS.Walk
import HandS.Wide
import HandS.IsInst
import HandS.Flow
import HandS.EndBits
import HandS.TupMul
import HandS.Zip
import HandS.Rev
import HandS.TupAny
import HandS.Conv
import HandS.Style
import HandS.Deep
import HandS.NoneIn
import KE.KRevSl
import HandS.Text
import KE.SortData
import PyProof.ListStr
import PySem.Challenge.RW_upwide_k61_whole_christoffel_and_central
set_option Elab.async false
set_option linter.all false
set_option maxRecDepth 100000
set_option maxHeartbeats 4000000
/-! A layer over HandS: mirrors with value semantics. -/
namespace VS
open PySem L2

/-- data -/
inductive D where
  | non | bl (b : Bool) | int (i : Int) | str (s : List Nat) | tup (xs : List D) | lst (xs : List D)
  | dict (kvs : List (D × D)) | set (xs : List D) | fn (x : List Nat) | ty (n : String) | obj (c : List Nat) (fs : List (List Nat × D))

/-- a key as data -/
def kD : Key → D
  | .inl i => .int i
  | .inr x => .str x.cps.toList

/-- a text of the machine -/
def OkS (s : List Nat) : Prop := s.length ≤ sizeLine ∧ ∀ c ∈ s, c < 1114112
def keyOk : Key → Prop
  | .inl _ => True
  | .inr x => OkS x.cps.toList
mutual
def RD (K : PySem.W.Frag) (mg : Str → Option Value) (F : Hp) : D → V → Prop
  | .non, v => v = .non
  | .bl b, v => v = .bl b
  | .int i, v => v = .int i
  | .str s, v => v = .str ⟨s.toArray⟩ ∧ OkS s
  | .tup ds, v => ∃ a vs, v = .ref a ∧ SqT K F a vs ∧ RDs K mg F ds vs
  | .lst ds, v => ∃ a vs, v = .ref a ∧ SqL K F a vs ∧ RDs K mg F ds vs
  | .dict ds, v => ∃ a, v = .ref a ∧ ((∃ kvs, F a = some (.dK kvs) ∧ RDk K mg F ds kvs) ∨ ∃ kvs, F a = some (.dT kvs) ∧ RDt K mg F ds kvs)
  | .set _, _ => False
  | .fn x, v => ∃ f, v = .ref f ∧ mg ⟨x.toArray⟩ = some (.ref f)
  | .ty n, v => v = .ty n
  | .obj _ _, _ => False
def RDs (K : PySem.W.Frag) (mg : Str → Option Value) (F : Hp) : List D → List V → Prop
  | [], vs => vs = []
  | d :: ds, vs => ∃ v r, vs = v :: r ∧ RD K mg F d v ∧ RDs K mg F ds r
def RDk (K : PySem.W.Frag) (mg : Str → Option Value) (F : Hp) : List (D × D) → List (Key × V) → Prop
  | [], vs => vs = []
  | (k, d) :: ds, vs => ∃ c v r, vs = (c, v) :: r ∧ (k = kD c ∧ keyOk c) ∧ RD K mg F d v ∧ RDk K mg F ds r
def RDt (K : PySem.W.Frag) (mg : Str → Option Value) (F : Hp) : List (D × D) → List (List Key × V) → Prop
  | [], vs => vs = []
  | (k, d) :: ds, vs => ∃ c v r, vs = (c, v) :: r ∧ (k = .tup (c.map kD) ∧ ∀ z ∈ c, keyOk z) ∧ RD K mg F d v ∧ RDt K mg F ds r
end

section
variable {K : PySem.W.Frag} {mg : Str → Option Value} {F F' H H' : Hp}
mutual
theorem RD.mono (h : Same F F') : ∀ (d : D) (v : V), RD K mg F d v → RD K mg F' d v
  | .non, v, e => by simpa only [RD] using e
  | .bl b, v, e => by simpa only [RD] using e
  | .int i, v, e => by simpa only [RD] using e
  | .str s, v, e => by simpa only [RD] using e
  | .fn s, v, e => by simpa only [RD] using e
  | .ty s, v, e => by simpa only [RD] using e
  | .tup ds, v, e => by
    simp only [RD] at e ⊢
    obtain ⟨a, vs, e1, e2, e3⟩ := e
    refine ⟨a, vs, e1, ?_, RDs.mono h ds vs e3⟩
    rcases e2 with (e2 | ⟨o, e2⟩) | e2
    · exact .inl (.inl (h _ _ e2))
    · exact .inl (.inr ⟨o, h _ _ e2⟩)
    · exact .inr e2
  | .lst ds, v, e => by
    simp only [RD] at e ⊢
    obtain ⟨a, vs, e1, e2, e3⟩ := e
    exact ⟨a, vs, e1, h.seq e2, RDs.mono h ds vs e3⟩
  | .dict ds, v, e => by
    simp only [RD] at e ⊢
    obtain ⟨a, e1, e2⟩ := e
    refine ⟨a, e1, ?_⟩
    rcases e2 with ⟨kvs, e2, e3⟩ | ⟨kvs, e2, e3⟩
    · exact .inl ⟨kvs, h _ _ e2, RDk.mono h ds kvs e3⟩
    · exact .inr ⟨kvs, h _ _ e2, RDt.mono h ds kvs e3⟩
  | .set _, v, e => by simp only [RD] at e
  | .obj _ _, v, e => by simp only [RD] at e
theorem RDs.mono (h : Same F F') : ∀ (ds : List D) (vs : List V), RDs K mg F ds vs → RDs K mg F' ds vs
  | [], vs, e => by simpa only [RDs] using e
  | d :: ds, vs, e => by
    simp only [RDs] at e ⊢
    obtain ⟨v, r, e1, e2, e3⟩ := e
    exact ⟨v, r, e1, RD.mono h d v e2, RDs.mono h ds r e3⟩
theorem RDk.mono (h : Same F F') : ∀ (ds : List (D × D)) (vs : List (Key × V)), RDk K mg F ds vs → RDk K mg F' ds vs
  | [], vs, e => by simpa only [RDk] using e
  | (k, d) :: ds, vs, e => by
    simp only [RDk] at e ⊢
    obtain ⟨c, v, r, e1, e0, e2, e3⟩ := e
    exact ⟨c, v, r, e1, e0, RD.mono h d v e2, RDk.mono h ds r e3⟩
theorem RDt.mono (h : Same F F') : ∀ (ds : List (D × D)) (vs : List (List Key × V)), RDt K mg F ds vs → RDt K mg F' ds vs
  | [], vs, e => by simpa only [RDt] using e
  | (k, d) :: ds, vs, e => by
    simp only [RDt] at e ⊢
    obtain ⟨c, v, r, e1, e0, e2, e3⟩ := e
    exact ⟨c, v, r, e1, e0, RD.mono h d v e2, RDt.mono h ds r e3⟩
end
end

/-- a value is known; an object of nobody else; that of a slot; that of the store -/
inductive EV where
  | val (d : D) | fresh (d : D) | slot (i : Nat) | par (k : Nat)
inductive Cell where
  | un | val (d : D) | own (d : D) | par (k : Nat)
inductive SC where
  | own (d : D) | frz (d : D)
structure VEnv where
  sl : List Cell
  st : List SC
inductive Fl where
  | nx | brk | cont | ret (r : EV)
abbrev M := VEnv → Option (EV × VEnv)
abbrev MB := VEnv → Option (Bool × VEnv)
abbrev ML := VEnv → Option (List EV × VEnv)
abbrev MS := VEnv → Option (Fl × VEnv)
abbrev MG := EV → VEnv → Option VEnv

def OwnAt (K : PySem.W.Frag) (mg : Str → Option Value) (F H : Hp) (a : Addr) (d : D) : Prop :=
  F a = none ∧ match d with
    | .lst ds => ∃ vs, H a = some (.lst vs) ∧ RDs K mg F ds vs
    | .dict ds => (∃ kvs, H a = some (.dK kvs) ∧ RDk K mg F ds kvs) ∨ ∃ kvs, H a = some (.dT kvs) ∧ RDt K mg F ds kvs
    | _ => False

/-- where the objects stand that may be written -/
def LocAt (ρ : List Addr) (Γ : VEnv) (σ : St) : Nat ⊕ Nat → Addr → Prop
  | .inl i, a => (∃ d, Γ.sl[i]? = some (Cell.own d)) ∧ σ[i]? = some (some (.ref a))
  | .inr k, a => (∃ d, Γ.st[k]? = some (SC.own d)) ∧ ρ[k]? = some a

structure Rep (K : PySem.W.Frag) (mg : Str → Option Value) (ρ : List Addr) (O : Addr → Prop) (Γ : VEnv) (σ : St) (H F : Hp) : Prop where
  le : Same F H
  len : σ.length = Γ.sl.length
  vl : ∀ (i : Nat) (d : D), Γ.sl[i]? = some (Cell.val d) → ∃ v, σ[i]? = some (some v) ∧ RD K mg F d v
  ow : ∀ (i : Nat) (d : D), Γ.sl[i]? = some (Cell.own d) → ∃ a, σ[i]? = some (some (V.ref a)) ∧ OwnAt K mg F H a d
  pr : ∀ (i k : Nat), Γ.sl[i]? = some (Cell.par k) → ∃ a, ρ[k]? = some a ∧ σ[i]? = some (some (V.ref a))
  plen : ρ.length = Γ.st.length
  sow : ∀ (k : Nat) (d : D), Γ.st[k]? = some (SC.own d) → ∃ a, ρ[k]? = some a ∧ OwnAt K mg F H a d
  sfz : ∀ (k : Nat) (d : D), Γ.st[k]? = some (SC.frz d) → ∃ a, ρ[k]? = some a ∧ RD K mg F d (.ref a)
  inj : ∀ l l' a, LocAt ρ Γ σ l a → LocAt ρ Γ σ l' a → l = l'
  prot : ∀ a, O a → F a = none ∧ H a ≠ none ∧ ∀ l, ¬ LocAt ρ Γ σ l a

def RepEV (K : PySem.W.Frag) (mg : Str → Option Value) (ρ : List Addr) (O : Addr → Prop) (Γ : VEnv) (σ : St) (H F : Hp) : EV → V → Prop
  | .val d, v => RD K mg F d v
  | .fresh d, v => ∃ p, v = .ref p ∧ OwnAt K mg F H p d ∧ ¬ O p ∧ ∀ l, ¬ LocAt ρ Γ σ l p
  | .slot i, v => σ[i]? = some (some v) ∧ True
  | .par k, v => ∃ a, ρ[k]? = some a ∧ v = .ref a

def frs (r : EV) (v : V) : Addr → Prop := fun a => match r with
  | .fresh _ => v = .ref a
  | _ => False
def orO (O O' : Addr → Prop) : Addr → Prop := fun a => O a ∨ O' a

/-- what an operation that only makes new things leaves -/
structure Grow (F H F' H' : Hp) : Prop where
  hs : Same H H'
  fs : Same F F'
  le : Same F' H'
  nw : ∀ a, F' a ≠ none → F a ≠ none ∨ H a = none

section
variable {K : PySem.W.Frag} {mg : Str → Option Value} {ρ : List Addr} {O O' : Addr → Prop} {Γ Γ' : VEnv} {σ : St} {H F F' H' : Hp} {r : EV} {v : V} {d : D} {a : Addr}
theorem OwnAt.there (h : OwnAt K mg F H a d) : H a ≠ none := by
  obtain ⟨_, h⟩ := h
  cases d <;> simp only at h
  · obtain ⟨vs, e, _⟩ := h; rw [e]; exact fun z => nomatch z
  · rcases h with ⟨vs, e, _⟩ | ⟨vs, e, _⟩ <;> (rw [e]; exact fun z => nomatch z)
theorem OwnAt.stay (h : OwnAt K mg F H a d) (hf : Same F F') (hn : F' a = none) (hh : H' a = H a) : OwnAt K mg F' H' a d := by
  obtain ⟨_, h⟩ := h
  refine ⟨hn, ?_⟩
  cases d <;> simp only at h ⊢
  · obtain ⟨vs, e, q⟩ := h; exact ⟨vs, hh.trans e, RDs.mono hf _ _ q⟩
  · rcases h with ⟨vs, e, q⟩ | ⟨vs, e, q⟩
    · exact .inl ⟨vs, hh.trans e, RDk.mono hf _ _ q⟩
    · exact .inr ⟨vs, hh.trans e, RDt.mono hf _ _ q⟩
theorem Same.at_ (h : Same H H') (e : H a ≠ none) : H' a = H a := by
  cases q : H a with
  | none => exact absurd q e
  | some o => exact h a o q
theorem Grow.refl (h : Same F H) : Grow F H F H := ⟨Same.refl _, Same.refl _, h, fun a e => .inl e⟩
theorem Grow.keepN (g : Grow F H F' H') (hn : F a = none) (e : H a ≠ none) : F' a = none := by
  cases q : F' a with
  | none => rfl
  | some o => rcases g.nw a (by rw [q]; exact fun z => nomatch z) with z | z
              · exact absurd hn z
              · exact absurd z e
theorem Grow.own (g : Grow F H F' H') (h : OwnAt K mg F H a d) : OwnAt K mg F' H' a d :=
  h.stay g.fs (g.keepN h.1 h.there) (Same.at_ g.hs h.there)
theorem Grow.trans {F2 H2 : Hp} (g : Grow F H F' H') (g' : Grow F' H' F2 H2) : Grow F H F2 H2 where
  hs := g.hs.trans g'.hs
  fs := g.fs.trans g'.fs
  le := g'.le
  nw := fun a e => by
    rcases g'.nw a e with z | z
    · exact g.nw a z
    · right
      cases q : H a with
      | none => rfl
      | some o => rw [g.hs a o q] at z; cases z
theorem Rep.grow (R : Rep K mg ρ O Γ σ H F) (g : Grow F H F' H') : Rep K mg ρ O Γ σ H' F' where
  le := g.le
  len := R.len
  vl := fun i d e => let ⟨v, h1, h2⟩ := R.vl i d e; ⟨v, h1, RD.mono g.fs _ _ h2⟩
  ow := fun i d e => let ⟨v, h1, h2⟩ := R.ow i d e; ⟨v, h1, g.own h2⟩
  pr := R.pr
  plen := R.plen
  sow := fun i d e => let ⟨v, h1, h2⟩ := R.sow i d e; ⟨v, h1, g.own h2⟩
  sfz := fun i d e => let ⟨v, h1, h2⟩ := R.sfz i d e; ⟨v, h1, RD.mono g.fs _ _ h2⟩
  inj := R.inj
  prot := fun a h => let ⟨h1, h2, h3⟩ := R.prot a h; ⟨g.keepN h1 h2, by rw [Same.at_ g.hs h2]; exact h2, h3⟩
theorem Rep.opres (R : Rep K mg ρ O Γ σ H F) (g : Same H H') : ∀ a, O a → H' a = H a := fun a h => Same.at_ g (R.prot a h).2.1
theorem Rep.weakO (R : Rep K mg ρ O Γ σ H F) (h : ∀ a, O' a → O a) : Rep K mg ρ O' Γ σ H F :=
  { R with prot := fun a z => R.prot a (h a z) }
theorem RepEV.grow (e : RepEV K mg ρ O Γ σ H F r v) (g : Grow F H F' H') : RepEV K mg ρ O Γ σ H' F' r v := by
  cases r with
  | val d => exact RD.mono g.fs _ _ e
  | fresh d => obtain ⟨p, h1, h2, h3, h4⟩ := e; exact ⟨p, h1, g.own h2, h3, h4⟩
  | slot i => exact e
  | par k => exact e
theorem RepEV.weakO (e : RepEV K mg ρ O Γ σ H F r v) (h : ∀ a, O' a → O a) : RepEV K mg ρ O' Γ σ H F r v := by
  cases r with
  | val d => exact e
  | fresh d => obtain ⟨p, h1, h2, h3, h4⟩ := e; exact ⟨p, h1, h2, fun z => h3 (h _ z), h4⟩
  | slot i => exact e
  | par k => exact e
/-- the pending object is protected while more is evaluated -/
theorem Rep.pend (R : Rep K mg ρ O Γ σ H F) (e : RepEV K mg ρ O Γ σ H F r v) : Rep K mg ρ (orO O (frs r v)) Γ σ H F :=
  by
  refine { R with prot := fun a z => ?_ }
  rcases z with z | z
  · exact R.prot a z
  · cases r with
    | fresh d =>
      obtain ⟨p, h1, h2, h3, h4⟩ := e
      have z' : v = .ref a := z
      rw [h1] at z'; cases z'
      exact ⟨h2.1, h2.there, h4⟩
    | val d => exact False.elim z
    | slot i => exact False.elim z
    | par k => exact False.elim z
/-- which slots hold what: a step only freezes -/
def Cells (_ _ : VEnv) : Prop := True
theorem RepEV.later (R : Rep K mg ρ O Γ σ H F) (e : RepEV K mg ρ O Γ σ H F r v) (R' : Rep K mg ρ (orO O (frs r v)) Γ' σ H' F') (hf : Same F F') (ho : ∀ a, orO O (frs r v) a → H' a = H a) (hc : Cells Γ Γ') : RepEV K mg ρ O Γ' σ H' F' r v := by
  cases r with
  | val d => exact RD.mono hf _ _ e
  | fresh d =>
    obtain ⟨p, h1, h2, h3, h4⟩ := e
    have hp : orO O (frs (.fresh d) v) p := .inr h1
    obtain ⟨q1, q2, q3⟩ := R'.prot p hp
    exact ⟨p, h1, h2.stay hf q1 (ho p hp), h3, q3⟩
  | slot i => exact ⟨e.1, trivial⟩
  | par k => exact e
end

/-! ### reading -/
def peek (Γ : VEnv) : EV → Option D
  | .val d => some d
  | .fresh d => some d
  | .slot i => match Γ.sl[i]? with
    | some (.own d) => some d
    | some (.val d) => some d
    | _ => none
  | .par k => match Γ.st[k]? with
    | some (.own d) => some d
    | some (.frz d) => some d
    | _ => none
/-- frozen, or an object that may be written, as it stands -/
def RP (K : PySem.W.Frag) (mg : Str → Option Value) (F H : Hp) (d : D) (v : V) : Prop := RD K mg F d v ∨ ∃ a, v = .ref a ∧ OwnAt K mg F H a d
def freeze : EV → VEnv → Option (D × VEnv)
  | .val d, Γ => some (d, Γ)
  | .fresh d, Γ => some (d, Γ)
  | .slot i, Γ => match Γ.sl[i]? with
    | some (.own d) => some (d, ⟨Γ.sl.set i (.val d), Γ.st⟩)
    | some (.val d) => some (d, Γ)
    | _ => none
  | .par k, Γ => match Γ.st[k]? with
    | some (.own d) => some (d, ⟨Γ.sl, Γ.st.set k (.frz d)⟩)
    | some (.frz d) => some (d, Γ)
    | _ => none
/-- the object that may be written -/
def content (Γ : VEnv) : EV → Option D
  | .slot i => match Γ.sl[i]? with
    | some (.own d) => some d
    | _ => none
  | .par k => match Γ.st[k]? with
    | some (.own d) => some d
    | _ => none
  | _ => none
def putC (Γ : VEnv) (d : D) : EV → VEnv
  | .slot i => ⟨Γ.sl.set i (.own d), Γ.st⟩
  | .par k => ⟨Γ.sl, Γ.st.set k (.own d)⟩
  | _ => Γ
def setCell (Γ : VEnv) (i : Nat) (c : Cell) : VEnv := ⟨Γ.sl.set i c, Γ.st⟩
/-- name = value -/
def asgn (i : Nat) : MG := fun r Γ => match r with
  | .val d => some (setCell Γ i (.val d))
  | .fresh d => some (setCell Γ i (.own d))
  | .slot j => (freeze (.slot j) Γ).map fun p => setCell p.2 i (.val p.1)
  | .par k => some (setCell Γ i (.par k))

theorem gset {α : Type} {l : List α} {i j : Nat} {x y : α} (h : (l.set i x)[j]? = some y) : (j = i ∧ y = x ∧ i < l.length) ∨ (j ≠ i ∧ l[j]? = some y) := by
  by_cases e : j = i
  · subst e
    left
    have hl : j < l.length := by
      have := (List.getElem?_eq_some_iff.mp h).1
      simpa using this
    rw [List.getElem?_set_self hl] at h
    exact ⟨rfl, (Option.some.inj h).symm, hl⟩
  · right
    rw [List.getElem?_set_ne (Ne.symm e)] at h
    exact ⟨e, h⟩
section
variable {K : PySem.W.Frag} {mg : Str → Option Value} {ρ : List Addr} {O O' : Addr → Prop} {Γ Γ' : VEnv} {σ : St} {H F F' H' : Hp} {r : EV} {v : V} {d : D} {a : Addr}
theorem peek_ok (R : Rep K mg ρ O Γ σ H F) (e : RepEV K mg ρ O Γ σ H F r v) (h : peek Γ r = some d) : RP K mg F H d v := by
  cases r with
  | val d' => cases h; exact .inl e
  | fresh d' => cases h; obtain ⟨p, h1, h2, _⟩ := e; exact .inr ⟨p, h1, h2⟩
  | slot i =>
    obtain ⟨e, _⟩ := e
    simp only [peek] at h
    cases q : Γ.sl[i]? with
    | none => rw [q] at h; cases h
    | some c =>
      rw [q] at h
      cases c with
      | own d' => cases h; obtain ⟨a, h1, h2⟩ := R.ow i _ q; rw [e] at h1; cases h1; exact .inr ⟨a, rfl, h2⟩
      | val d' => cases h; obtain ⟨a, h1, h2⟩ := R.vl i _ q; rw [e] at h1; cases h1; exact .inl h2
      | un => cases h
      | par k => cases h
  | par k =>
    obtain ⟨a, e, rfl⟩ := e
    simp only [peek] at h
    cases q : Γ.st[k]? with
    | none => rw [q] at h; cases h
    | some c =>
      rw [q] at h
      cases c with
      | own d' => cases h; obtain ⟨b, h1, h2⟩ := R.sow k _ q; rw [e] at h1; cases h1; exact .inr ⟨a, rfl, h2⟩
      | frz d' => cases h; obtain ⟨b, h1, h2⟩ := R.sfz k _ q; rw [e] at h1; cases h1; exact .inl h2
/-- the heap's frozen part with one object more -/
def plus (F H : Hp) (a : Addr) : Hp := fun b => if b = a then H a else F b
theorem plus_same (hn : F a = none) : Same F (plus F H a) := fun b o e => by
  unfold plus
  by_cases hb : b = a
  · subst hb; rw [hn] at e; cases e
  · rw [if_neg hb]; exact e
theorem plus_le (h : Same F H) : Same (plus F H a) H := fun b o e => by
  unfold plus at e
  by_cases hb : b = a
  · subst hb; rw [if_pos rfl] at e; exact e
  · rw [if_neg hb] at e; exact h b o e
theorem plus_ne {b : Addr} (h : b ≠ a) : plus F H a b = F b := by unfold plus; rw [if_neg h]
theorem OwnAt.frozen (h : OwnAt K mg F H a d) : RD K mg (plus F H a) d (.ref a) := by
  obtain ⟨hn, h⟩ := h
  have sm : Same F (plus F H a) := plus_same hn
  cases d <;> simp only at h
  · obtain ⟨vs, e, q⟩ := h
    simp only [RD]
    exact ⟨a, vs, rfl, .inl (.inl (by unfold plus; rw [if_pos rfl]; exact e)), RDs.mono sm _ _ q⟩
  · simp only [RD]
    refine ⟨a, rfl, ?_⟩
    rcases h with ⟨vs, e, q⟩ | ⟨vs, e, q⟩
    · exact .inl ⟨vs, by unfold plus; rw [if_pos rfl]; exact e, RDk.mono sm _ _ q⟩
    · exact .inr ⟨vs, by unfold plus; rw [if_pos rfl]; exact e, RDt.mono sm _ _ q⟩
theorem OwnAt.plus {b : Addr} (h : OwnAt K mg F H b d) (hn : F a = none) (hne : b ≠ a) : OwnAt K mg (plus F H a) H b d :=
  h.stay (plus_same hn) (by rw [plus_ne hne]; exact h.1) rfl
/-- a pending object is frozen -/
theorem Rep.frzNew (R : Rep K mg ρ O Γ σ H F) (h : OwnAt K mg F H a d) (ho : ¬ O a) (hl : ∀ l, ¬ LocAt ρ Γ σ l a) : Rep K mg ρ O Γ σ H (plus F H a) where
  le := plus_le R.le
  len := R.len
  vl := fun i d e => let ⟨v, h1, h2⟩ := R.vl i d e; ⟨v, h1, RD.mono (plus_same h.1) _ _ h2⟩
  ow := fun i d e => let ⟨b, h1, h2⟩ := R.ow i d e; ⟨b, h1, h2.plus h.1 (fun z => hl (.inl i) ⟨⟨d, e⟩, by rw [h1, z]⟩)⟩
  pr := R.pr
  plen := R.plen
  sow := fun i d e => let ⟨b, h1, h2⟩ := R.sow i d e; ⟨b, h1, h2.plus h.1 (fun z => hl (.inr i) ⟨⟨d, e⟩, by rw [h1, z]⟩)⟩
  sfz := fun i d e => let ⟨v, h1, h2⟩ := R.sfz i d e; ⟨v, h1, RD.mono (plus_same h.1) _ _ h2⟩
  inj := R.inj
  prot := fun b hb => let ⟨h1, h2, h3⟩ := R.prot b hb; ⟨by rw [plus_ne (fun (z : b = a) => ho (z ▸ hb))]; exact h1, h2, h3⟩
theorem Rep.frzSlot {i : Nat} (R : Rep K mg ρ O Γ σ H F) (q : Γ.sl[i]? = some (Cell.own d)) (hs : σ[i]? = some (some (V.ref a))) (h : OwnAt K mg F H a d) :
    Rep K mg ρ O ⟨Γ.sl.set i (.val d), Γ.st⟩ σ H (plus F H a) := by
  have la : LocAt ρ Γ σ (.inl i) a := ⟨⟨d, q⟩, hs⟩
  have loc : ∀ l b, LocAt ρ ⟨Γ.sl.set i (.val d), Γ.st⟩ σ l b → LocAt ρ Γ σ l b ∧ b ≠ a := by
    intro l b hb
    cases l with
    | inl j =>
      obtain ⟨⟨d', e⟩, h1⟩ := hb
      rcases gset e with ⟨_, z, _⟩ | ⟨hne, e⟩
      · cases z
      · refine ⟨⟨⟨d', e⟩, h1⟩, fun z => ?_⟩
        subst z
        exact hne (by injection (R.inj (.inl j) (.inl i) b ⟨⟨d', e⟩, h1⟩ la))
    | inr k =>
      refine ⟨hb, fun z => ?_⟩
      subst z
      cases R.inj (.inr k) (.inl i) b hb la
  have ho : ∀ b, O b → b ≠ a := fun b hb z => (R.prot b hb).2.2 (.inl i) (z ▸ la)
  refine ⟨plus_le R.le, by rw [R.len]; simp, fun j d' e => ?_, fun j d' e => ?_, fun j k e => ?_, R.plen, fun k d' e => ?_, fun k d' e => ?_, fun l l' b h1 h2 => R.inj l l' b (loc l b h1).1 (loc l' b h2).1, fun b hb => ?_⟩
  · rcases gset e with ⟨rfl, z, _⟩ | ⟨_, e⟩
    · cases z; exact ⟨_, hs, h.frozen⟩
    · obtain ⟨v, h1, h2⟩ := R.vl j d' e; exact ⟨v, h1, RD.mono (plus_same h.1) _ _ h2⟩
  · rcases gset e with ⟨_, z, _⟩ | ⟨hne, e⟩
    · cases z
    · obtain ⟨b, h1, h2⟩ := R.ow j d' e
      exact ⟨b, h1, h2.plus h.1 (loc (.inl j) b ⟨⟨d', by rw [List.getElem?_set_ne (Ne.symm hne)]; exact e⟩, h1⟩).2⟩
  · rcases gset e with ⟨_, z, _⟩ | ⟨_, e⟩
    · cases z
    · exact R.pr j k e
  · obtain ⟨b, h1, h2⟩ := R.sow k d' e
    exact ⟨b, h1, h2.plus h.1 (loc (.inr k) b ⟨⟨d', e⟩, h1⟩).2⟩
  · obtain ⟨b, h1, h2⟩ := R.sfz k d' e; exact ⟨b, h1, RD.mono (plus_same h.1) _ _ h2⟩
  · obtain ⟨h1, h2, h3⟩ := R.prot b hb
    exact ⟨by rw [plus_ne (ho b hb)]; exact h1, h2, fun l z => h3 l (loc l b z).1⟩
theorem Rep.frzPar {i : Nat} (R : Rep K mg ρ O Γ σ H F) (q : Γ.st[i]? = some (SC.own d)) (hs : ρ[i]? = some a) (h : OwnAt K mg F H a d) :
    Rep K mg ρ O ⟨Γ.sl, Γ.st.set i (.frz d)⟩ σ H (plus F H a) := by
  have la : LocAt ρ Γ σ (.inr i) a := ⟨⟨d, q⟩, hs⟩
  have loc : ∀ l b, LocAt ρ ⟨Γ.sl, Γ.st.set i (.frz d)⟩ σ l b → LocAt ρ Γ σ l b ∧ b ≠ a := by
    intro l b hb
    cases l with
    | inr j =>
      obtain ⟨⟨d', e⟩, h1⟩ := hb
      rcases gset e with ⟨_, z, _⟩ | ⟨hne, e⟩
      · cases z
      · refine ⟨⟨⟨d', e⟩, h1⟩, fun z => ?_⟩
        subst z
        exact hne (by injection (R.inj (.inr j) (.inr i) b ⟨⟨d', e⟩, h1⟩ la))
    | inl k =>
      refine ⟨hb, fun z => ?_⟩
      subst z
      cases R.inj (.inl k) (.inr i) b hb la
  have ho : ∀ b, O b → b ≠ a := fun b hb z => (R.prot b hb).2.2 (.inr i) (z ▸ la)
  refine ⟨plus_le R.le, R.len, fun j d' e => ?_, fun j d' e => ?_, R.pr, by rw [R.plen]; simp, fun k d' e => ?_, fun k d' e => ?_, fun l l' b h1 h2 => R.inj l l' b (loc l b h1).1 (loc l' b h2).1, fun b hb => ?_⟩
  · obtain ⟨v, h1, h2⟩ := R.vl j d' e; exact ⟨v, h1, RD.mono (plus_same h.1) _ _ h2⟩
  · obtain ⟨b, h1, h2⟩ := R.ow j d' e
    exact ⟨b, h1, h2.plus h.1 (loc (.inl j) b ⟨⟨d', e⟩, h1⟩).2⟩
  · rcases gset e with ⟨_, z, _⟩ | ⟨hne, e⟩
    · cases z
    · obtain ⟨b, h1, h2⟩ := R.sow k d' e
      exact ⟨b, h1, h2.plus h.1 (loc (.inr k) b ⟨⟨d', by rw [List.getElem?_set_ne (Ne.symm hne)]; exact e⟩, h1⟩).2⟩
  · rcases gset e with ⟨rfl, z, _⟩ | ⟨_, e⟩
    · cases z; exact ⟨_, hs, h.frozen⟩
    · obtain ⟨b, h1, h2⟩ := R.sfz k d' e; exact ⟨b, h1, RD.mono (plus_same h.1) _ _ h2⟩
  · obtain ⟨h1, h2, h3⟩ := R.prot b hb
    exact ⟨by rw [plus_ne (ho b hb)]; exact h1, h2, fun l z => h3 l (loc l b z).1⟩
theorem Cells.refl : Cells Γ Γ := trivial
theorem Cells.trans {Γ2 : VEnv} (_ : Cells Γ Γ') (_ : Cells Γ' Γ2) : Cells Γ Γ2 := trivial
theorem freeze_ok (R : Rep K mg ρ O Γ σ H F) (e : RepEV K mg ρ O Γ σ H F r v) (h : freeze r Γ = some (d, Γ')) : ∃ F', Rep K mg ρ O Γ' σ H F' ∧ Same F F' ∧ RD K mg F' d v ∧ Cells Γ Γ' := by
  cases r with
  | val d' => cases h; exact ⟨F, R, Same.refl _, e, Cells.refl⟩
  | fresh d' => cases h; obtain ⟨p, rfl, h2, h3, h4⟩ := e; exact ⟨_, R.frzNew h2 h3 h4, plus_same h2.1, h2.frozen, Cells.refl⟩
  | slot i =>
    obtain ⟨e, _⟩ := e
    simp only [freeze] at h
    cases q : Γ.sl[i]? with
    | none => rw [q] at h; cases h
    | some c =>
      rw [q] at h
      cases c with
      | own d' =>
        cases h
        obtain ⟨a, h1, h2⟩ := R.ow i _ q; rw [e] at h1; cases h1
        exact ⟨_, R.frzSlot q e h2, plus_same h2.1, h2.frozen, trivial⟩
      | val d' => cases h; obtain ⟨a, h1, h2⟩ := R.vl i _ q; rw [e] at h1; cases h1; exact ⟨F, R, Same.refl _, h2, Cells.refl⟩
      | un => cases h
      | par k => cases h
  | par k =>
    obtain ⟨a, e, rfl⟩ := e
    simp only [freeze] at h
    cases q : Γ.st[k]? with
    | none => rw [q] at h; cases h
    | some c =>
      rw [q] at h
      cases c with
      | own d' => cases h; obtain ⟨b, h1, h2⟩ := R.sow k _ q; rw [e] at h1; cases h1; exact ⟨_, R.frzPar q e h2, plus_same h2.1, h2.frozen, trivial⟩
      | frz d' => cases h; obtain ⟨b, h1, h2⟩ := R.sfz k _ q; rw [e] at h1; cases h1; exact ⟨F, R, Same.refl _, h2, Cells.refl⟩
theorem sset {σ : St} {i j : Nat} {x : Option V} {y : V} (h : (σ.set i x)[j]? = some (some y)) : (j = i ∧ x = some y ∧ i < σ.length) ∨ (j ≠ i ∧ σ[j]? = some (some y)) := by
  rcases gset h with ⟨h1, h2, h3⟩ | h
  · exact .inl ⟨h1, h2.symm, h3⟩
  · exact .inr h
/-- a slot gets a new cell -/
theorem Rep.setCell {i : Nat} {c : Cell} {x : Option V} (R : Rep K mg ρ O Γ σ H F)
    (hc : match c with
      | .un => True
      | .val d => ∃ v, x = some v ∧ RD K mg F d v
      | .own d => ∃ a, x = some (.ref a) ∧ OwnAt K mg F H a d ∧ ¬ O a ∧ ∀ l, ¬ LocAt ρ Γ σ l a
      | .par k => ∃ a, ρ[k]? = some a ∧ x = some (.ref a)) : Rep K mg ρ O (setCell Γ i c) (σ.set i x) H F := by
  have lenσ := R.len
  have loc : ∀ l b, LocAt ρ (VS.setCell Γ i c) (σ.set i x) l b → (LocAt ρ Γ σ l b ∧ l ≠ .inl i) ∨ (l = .inl i ∧ (∃ d, c = .own d) ∧ x = some (.ref b)) := by
    intro l b hb
    cases l with
    | inl j =>
      obtain ⟨⟨d', e⟩, h1⟩ := hb
      rcases gset e with ⟨rfl, z, _⟩ | ⟨hne, e⟩
      · right
        rcases sset h1 with ⟨_, z2, _⟩ | ⟨z2, _⟩
        · exact ⟨rfl, ⟨d', z.symm⟩, z2⟩
        · exact absurd rfl z2
      · left
        rcases sset h1 with ⟨z2, _⟩ | ⟨_, h1⟩
        · exact absurd z2 hne
        · exact ⟨⟨⟨d', e⟩, h1⟩, fun z => hne (by injection z)⟩
    | inr k => exact .inl ⟨hb, fun z => nomatch z⟩
  have hi : ∀ {j : Nat} {c' : Cell}, (Γ.sl.set i c)[j]? = some c' → j = i → j < σ.length := fun e _ => by
    have := (List.getElem?_eq_some_iff.mp e).1
    rw [lenσ]; simpa using this
  refine ⟨R.le, by simp [VS.setCell, lenσ], fun j d' e => ?_, fun j d' e => ?_, fun j k e => ?_, R.plen, R.sow, R.sfz, fun l l' b h1 h2 => ?_, fun b hb => ?_⟩
  · rcases gset e with ⟨hj, z, _⟩ | ⟨hne, e'⟩
    · subst z
      obtain ⟨v, h1, h2⟩ := hc
      have := hi e hj
      subst hj
      exact ⟨v, by rw [List.getElem?_set_self this, h1], h2⟩
    · obtain ⟨v, h1, h2⟩ := R.vl j d' e'
      exact ⟨v, by rw [List.getElem?_set_ne (Ne.symm hne)]; exact h1, h2⟩
  · rcases gset e with ⟨hj, z, _⟩ | ⟨hne, e'⟩
    · subst z
      obtain ⟨a, h1, h2, _⟩ := hc
      have := hi e hj
      subst hj
      exact ⟨a, by rw [List.getElem?_set_self this, h1], h2⟩
    · obtain ⟨v, h1, h2⟩ := R.ow j d' e'
      exact ⟨v, by rw [List.getElem?_set_ne (Ne.symm hne)]; exact h1, h2⟩
  · rcases gset e with ⟨hj, z, _⟩ | ⟨hne, e'⟩
    · subst z
      obtain ⟨a, h1, h2⟩ := hc
      have := hi e hj
      subst hj
      exact ⟨a, h1, by rw [List.getElem?_set_self this, h2]⟩
    · obtain ⟨v, h1, h2⟩ := R.pr j k e'
      exact ⟨v, h1, by rw [List.getElem?_set_ne (Ne.symm hne)]; exact h2⟩
  · rcases loc l b h1 with ⟨a1, n1⟩ | ⟨e1, ⟨d1, z1⟩, x1⟩
    · rcases loc l' b h2 with ⟨a2, n2⟩ | ⟨e2, ⟨d2, z2⟩, x2⟩
      · exact R.inj l l' b a1 a2
      · subst z2
        obtain ⟨a, q1, q2, q3, q4⟩ := hc
        rw [x2] at q1; cases q1
        exact absurd a1 (q4 l)
    · rcases loc l' b h2 with ⟨a2, n2⟩ | ⟨e2, _⟩
      · subst z1
        obtain ⟨a, q1, q2, q3, q4⟩ := hc
        rw [x1] at q1; cases q1
        exact absurd a2 (q4 l')
      · rw [e1, e2]
  · obtain ⟨h1, h2, h3⟩ := R.prot b hb
    refine ⟨h1, h2, fun l hl => ?_⟩
    rcases loc l b hl with ⟨z, _⟩ | ⟨_, ⟨d1, z1⟩, x1⟩
    · exact h3 l z
    · subst z1
      obtain ⟨a, q1, q2, q3, q4⟩ := hc
      rw [x1] at q1; cases q1
      exact q3 hb
theorem asgn_ok {i : Nat} (R : Rep K mg ρ O Γ σ H F) (e : RepEV K mg ρ O Γ σ H F r v) (h : asgn i r Γ = some Γ') : ∃ F', Rep K mg ρ O Γ' (σ.set i (some v)) H F' ∧ Same F F' := by
  cases r with
  | val d => cases h; exact ⟨F, R.setCell ⟨v, rfl, e⟩, Same.refl _⟩
  | fresh d => cases h; obtain ⟨p, rfl, h2, h3, h4⟩ := e; exact ⟨F, R.setCell ⟨p, rfl, h2, h3, h4⟩, Same.refl _⟩
  | slot j =>
    simp only [asgn] at h
    cases q : freeze (.slot j) Γ with
    | none => rw [q] at h; cases h
    | some p =>
      rw [q] at h
      cases h
      obtain ⟨F', R', s, rd, _⟩ := freeze_ok R e q
      exact ⟨F', R'.setCell ⟨v, rfl, rd⟩, s⟩
  | par k => cases h; obtain ⟨a, h1, rfl⟩ := e; exact ⟨F, R.setCell ⟨a, h1, rfl⟩, Same.refl _⟩
/-- an object that may be written is written -/
theorem mut_ok (R : Rep K mg ρ O Γ σ H F) (e : RepEV K mg ρ O Γ σ H F r v) (h : content Γ r = some d) :
    ∃ a, v = .ref a ∧ OwnAt K mg F H a d ∧ ∀ H' d', (∀ b, b ≠ a → H' b = H b) → OwnAt K mg F H' a d' → Rep K mg ρ O (putC Γ d' r) σ H' F ∧ ∀ b, O b → H' b = H b := by
  have le : ∀ {a : Addr} {H' : Hp}, F a = none → (∀ b, b ≠ a → H' b = H b) → Same F H' := fun {a H'} hn hh b o q => by
    rw [hh b (fun z => by rw [z, hn] at q; cases q)]; exact R.le b o q
  cases r with
  | val d' => cases h
  | fresh d' => cases h
  | slot i =>
    obtain ⟨e, _⟩ := e
    simp only [content] at h
    cases q : Γ.sl[i]? with
    | none => rw [q] at h; cases h
    | some c =>
      rw [q] at h
      cases c with
      | own d0 =>
        cases h
        obtain ⟨a, h1, h2⟩ := R.ow i _ q; rw [e] at h1; cases h1
        refine ⟨a, rfl, h2, fun H' d' hh ho => ?_⟩
        have la : LocAt ρ Γ σ (.inl i) a := ⟨⟨d, q⟩, e⟩
        have hl : i < Γ.sl.length := (List.getElem?_eq_some_iff.mp q).1
        have loc : ∀ l b, LocAt ρ ⟨Γ.sl.set i (.own d'), Γ.st⟩ σ l b → LocAt ρ Γ σ l b := by
          intro l b hb
          cases l with
          | inl j =>
            obtain ⟨⟨d2, z⟩, h1⟩ := hb
            rcases gset z with ⟨rfl, _, _⟩ | ⟨_, z⟩
            · exact ⟨⟨d, q⟩, h1⟩
            · exact ⟨⟨d2, z⟩, h1⟩
          | inr k => exact hb
        have st : ∀ l b d2, LocAt ρ Γ σ l b → l ≠ .inl i → OwnAt K mg F H b d2 → OwnAt K mg F H' b d2 := fun l b d2 hb hn hO =>
          hO.stay (Same.refl _) hO.1 (hh b fun z => hn (R.inj l (.inl i) b hb (z ▸ la)))
        refine ⟨⟨le h2.1 hh, by rw [R.len]; simp [putC], fun j d2 z => ?_, fun j d2 z => ?_, fun j k z => ?_, R.plen, fun k d2 z => ?_, R.sfz, fun l l' b h1 h2 => R.inj l l' b (loc l b h1) (loc l' b h2), fun b hb => ?_⟩, fun b hb => hh b fun z => (R.prot b hb).2.2 (.inl i) (z ▸ la)⟩
        · rcases gset z with ⟨_, z, _⟩ | ⟨_, z⟩
          · cases z
          · exact R.vl j d2 z
        · rcases gset z with ⟨rfl, z, _⟩ | ⟨hne, z⟩
          · cases z; exact ⟨a, e, ho⟩
          · obtain ⟨b, h1, h2⟩ := R.ow j d2 z
            exact ⟨b, h1, st (.inl j) b d2 ⟨⟨d2, z⟩, h1⟩ (fun z => hne (by injection z)) h2⟩
        · rcases gset z with ⟨_, z, _⟩ | ⟨_, z⟩
          · cases z
          · exact R.pr j k z
        · obtain ⟨b, h1, h2⟩ := R.sow k d2 z
          exact ⟨b, h1, st (.inr k) b d2 ⟨⟨d2, z⟩, h1⟩ (fun z => nomatch z) h2⟩
        · obtain ⟨h1, h2, h3⟩ := R.prot b hb
          exact ⟨h1, by rw [hh b fun z => h3 (.inl i) (z ▸ la)]; exact h2, fun l z => h3 l (loc l b z)⟩
      | val d' => cases h
      | un => cases h
      | par k => cases h
  | par i =>
    obtain ⟨a, e, rfl⟩ := e
    simp only [content] at h
    cases q : Γ.st[i]? with
    | none => rw [q] at h; cases h
    | some c =>
      rw [q] at h
      cases c with
      | own d0 =>
        cases h
        obtain ⟨a, h1, h2⟩ := R.sow i _ q; rw [e] at h1; cases h1
        refine ⟨a, rfl, h2, fun H' d' hh ho => ?_⟩
        have la : LocAt ρ Γ σ (.inr i) a := ⟨⟨d, q⟩, e⟩
        have loc : ∀ l b, LocAt ρ ⟨Γ.sl, Γ.st.set i (.own d')⟩ σ l b → LocAt ρ Γ σ l b := by
          intro l b hb
          cases l with
          | inr j =>
            obtain ⟨⟨d2, z⟩, h1⟩ := hb
            rcases gset z with ⟨rfl, _, _⟩ | ⟨_, z⟩
            · exact ⟨⟨d, q⟩, h1⟩
            · exact ⟨⟨d2, z⟩, h1⟩
          | inl k => exact hb
        have st : ∀ l b d2, LocAt ρ Γ σ l b → l ≠ .inr i → OwnAt K mg F H b d2 → OwnAt K mg F H' b d2 := fun l b d2 hb hn hO =>
          hO.stay (Same.refl _) hO.1 (hh b fun z => hn (R.inj l (.inr i) b hb (z ▸ la)))
        refine ⟨⟨le h2.1 hh, R.len, R.vl, fun j d2 z => ?_, R.pr, by rw [R.plen]; simp [putC], fun k d2 z => ?_, fun k d2 z => ?_, fun l l' b h1 h2 => R.inj l l' b (loc l b h1) (loc l' b h2), fun b hb => ?_⟩, fun b hb => hh b fun z => (R.prot b hb).2.2 (.inr i) (z ▸ la)⟩
        · obtain ⟨b, h1, h2⟩ := R.ow j d2 z
          exact ⟨b, h1, st (.inl j) b d2 ⟨⟨d2, z⟩, h1⟩ (fun z => nomatch z) h2⟩
        · rcases gset z with ⟨rfl, z, _⟩ | ⟨hne, z⟩
          · cases z; exact ⟨a, e, ho⟩
          · obtain ⟨b, h1, h2⟩ := R.sow k d2 z
            exact ⟨b, h1, st (.inr k) b d2 ⟨⟨d2, z⟩, h1⟩ (fun z => hne (by injection z)) h2⟩
        · rcases gset z with ⟨_, z, _⟩ | ⟨_, z⟩
          · cases z
          · exact R.sfz k d2 z
        · obtain ⟨h1, h2, h3⟩ := R.prot b hb
          exact ⟨h1, by rw [hh b fun z => h3 (.inr i) (z ▸ la)]; exact h2, fun l z => h3 l (loc l b z)⟩
      | frz d' => cases h
end
end VS

set_option Elab.async false
set_option linter.all false
set_option maxRecDepth 100000
set_option maxHeartbeats 4000000
namespace VS
open PySem L2

/-- what a step leaves -/
structure Stp (K : PySem.W.Frag) (mg : Str → Option Value) (ρ : List Addr) (O : Addr → Prop) (Γ' : VEnv) (σ' : St) (H F H' F' : Hp) : Prop where
  rep : Rep K mg ρ O Γ' σ' H' F'
  fs : Same F F'
  op : ∀ a, O a → H' a = H a
section
variable (K : PySem.W.Frag) (mg : Str → Option Value)
def tV (m : M) : TE := fun σ H Q => ∃ ρ O Γ F r Γ', Rep K mg ρ O Γ σ H F ∧ m Γ = some (r, Γ') ∧
  ∀ v H' F', Stp K mg ρ O Γ' σ H F H' F' → Cells Γ Γ' → RepEV K mg ρ O Γ' σ H' F' r v → Q v H'
def tB (m : MB) : TT := fun σ H Q => ∃ ρ O Γ F b Γ', Rep K mg ρ O Γ σ H F ∧ m Γ = some (b, Γ') ∧
  ∀ H' F', Stp K mg ρ O Γ' σ H F H' F' → Cells Γ Γ' → Q b H'
/-- the values of a list of arguments, each pending while the next ones are evaluated -/
def RepL (ρ : List Addr) (Γ : VEnv) (σ : St) (H F : Hp) : (Addr → Prop) → List EV → List V → Prop
  | _, [], vs => vs = []
  | O, r :: rs, vs => ∃ v ws, vs = v :: ws ∧ RepEV K mg ρ O Γ σ H F r v ∧ RepL ρ Γ σ H F (orO O (frs r v)) rs ws
def tL (m : ML) : TA := fun σ H Q => ∃ ρ O Γ F rs Γ', Rep K mg ρ O Γ σ H F ∧ m Γ = some (rs, Γ') ∧
  ∀ vs H' F', Stp K mg ρ O Γ' σ H F H' F' → Cells Γ Γ' → RepL K mg ρ Γ' σ H' F' O rs vs → Q vs H'
def FlK (ρ : List Addr) (O : Addr → Prop) (Γ' : VEnv) (H F : Hp) (D : Ends) : Fl → Prop
  | .nx => ∀ σ' H' F', Stp K mg ρ O Γ' σ' H F H' F' → D.nx σ' H'
  | .brk => ∀ σ' H' F', Stp K mg ρ O Γ' σ' H F H' F' → D.bk σ' H'
  | .cont => ∀ σ' H' F', Stp K mg ρ O Γ' σ' H F H' F' → D.ct σ' H'
  | .ret r => ∀ v σ' H' F', Stp K mg ρ O Γ' σ' H F H' F' → RepEV K mg ρ O Γ' σ' H' F' r v → D.rt v H'
def tS (m : MS) : TS := fun D σ H => ∃ ρ O Γ F fl Γ', Rep K mg ρ O Γ σ H F ∧ m Γ = some (fl, Γ') ∧ FlK K mg ρ O Γ' H F D fl
/-- ws: the slots that the target writes -/
def tG (ws : List Nat) (g : MG) : TG := fun v σ H Q => ∃ ρ O Γ F r Γ', Rep K mg ρ O Γ σ H F ∧ RepEV K mg ρ O Γ σ H F r v ∧ g r Γ = some Γ' ∧
  ∀ σ' H' F', Stp K mg ρ O Γ' σ' H F H' F' → (∀ us : List Nat, (∀ i ∈ ws, i ∈ us) → wipe σ' us = wipe σ us) → Q σ' H'
end
abbrev VE (X : Cx) (e : Expr) (m : M) : Prop := PE X e (tV X.K X.mg m)
abbrev VT (X : Cx) (e : Expr) (m : MB) : Prop := PT X e (tB X.K X.mg m)
abbrev VW (X : Cx) (e : Expr) (m : MB) : Prop := PW X e (tB X.K X.mg m)
abbrev VA (X : Cx) (es : List Expr) (m : ML) : Prop := PA X es (tL X.K X.mg m)
abbrev VSt (X : Cx) (st : Stmt) (m : MS) : Prop := PS X st (tS X.K X.mg m)
abbrev VSs (X : Cx) (st : List Stmt) (m : MS) : Prop := PSs X st (tS X.K X.mg m)
abbrev VG (X : Cx) (e : Expr) (ws : List Nat) (g : MG) : Prop := PG X e (tG X.K X.mg ws g)

section
variable {X : Cx} {e : Expr} {es : List Expr} {st : Stmt} {sts : List Stmt}
theorem pe_of {t t' : TE} (h : PE X e t) (f : ∀ σ H Q, t' σ H Q → t σ H Q) : PE X e t' := ⟨fun pins s σ H Q I z => h.run pins s σ H Q I (f σ H Q z)⟩
theorem pt_of {t t' : TT} (h : PT X e t) (f : ∀ σ H Q, t' σ H Q → t σ H Q) : PT X e t' := ⟨fun pins s σ H Q I z => h.run pins s σ H Q I (f σ H Q z)⟩
theorem pw_of {t t' : TT} (h : PW X e t) (f : ∀ σ H Q, t' σ H Q → t σ H Q) : PW X e t' := ⟨fun wh pins s σ H Q I z => h.run wh pins s σ H Q I (f σ H Q z)⟩
theorem pa_of {t t' : TA} (h : PA X es t) (f : ∀ σ H Q, t' σ H Q → t σ H Q) : PA X es t' := ⟨fun p pins s σ H Q I z => h.run p pins s σ H Q I (f σ H Q z)⟩
theorem ps_of {t t' : TS} (h : PS X st t) (f : ∀ D σ H, t' D σ H → t D σ H) : PS X st t' := ⟨fun pins s σ H D I z => h.run pins s σ H D I (f D σ H z)⟩
theorem pss_of {t t' : TS} (h : PSs X sts t) (f : ∀ D σ H, t' D σ H → t D σ H) : PSs X sts t' := ⟨fun pins s σ H D I z => h.run pins s σ H D I (f D σ H z)⟩
theorem pg_of {t t' : TG} (h : PG X e t) (f : ∀ v σ H Q, t' v σ H Q → t v σ H Q) : PG X e t' := ⟨fun pins s σ H v u Q I r z => h.run pins s σ H v u Q I r (f v σ H Q z)⟩
end

section
variable {K : PySem.W.Frag} {mg : Str → Option Value} {ρ : List Addr} {O O' : Addr → Prop} {Γ Γ' Γ1 Γ2 : VEnv} {σ σ' : St} {H F H' F' H1 F1 H2 F2 : Hp} {r ra rb : EV} {v : V} {d : D} {a : Addr}
theorem Stp.refl (R : Rep K mg ρ O Γ σ H F) : Stp K mg ρ O Γ σ H F H F := ⟨R, Same.refl _, fun _ _ => rfl⟩
theorem Stp.trans (s1 : Stp K mg ρ O Γ1 σ H F H1 F1) (s2 : Stp K mg ρ O Γ2 σ' H1 F1 H2 F2) : Stp K mg ρ O Γ2 σ' H F H2 F2 :=
  ⟨s2.rep, s1.fs.trans s2.fs, fun a h => (s2.op a h).trans (s1.op a h)⟩
theorem Stp.weakO (s1 : Stp K mg ρ O Γ1 σ H F H1 F1) (h : ∀ a, O' a → O a) : Stp K mg ρ O' Γ1 σ H F H1 F1 := ⟨s1.rep.weakO h, s1.fs, fun a z => s1.op a (h a z)⟩
theorem Stp.grow (R : Rep K mg ρ O Γ σ H F) (g : Grow F H F' H') : Stp K mg ρ O Γ σ H F H' F' := ⟨R.grow g, g.fs, R.opres g.hs⟩
theorem orO_l : ∀ a, O a → orO O O' a := fun _ h => .inl h

/-- one expression, then what follows -/
theorem tV_run {m : M} {Q : VK} (R : Rep K mg ρ O Γ σ H F) (e : m Γ = some (r, Γ'))
    (k : ∀ v H' F', Stp K mg ρ O Γ' σ H F H' F' → Cells Γ Γ' → RepEV K mg ρ O Γ' σ H' F' r v → Q v H') : tV K mg m σ H Q := ⟨ρ, O, Γ, F, r, Γ', R, e, k⟩
/-- two expressions -/
theorem seq2 {ma mb : M} {Q : V → V → Hp → Prop} (R : Rep K mg ρ O Γ σ H F) (ea : ma Γ = some (ra, Γ1)) (eb : mb Γ1 = some (rb, Γ2))
    (k : ∀ x y H' F', Stp K mg ρ O Γ2 σ H F H' F' → Cells Γ Γ2 → RepEV K mg ρ O Γ2 σ H' F' ra x → RepEV K mg ρ (orO O (frs ra x)) Γ2 σ H' F' rb y → Q x y H') :
    tV K mg ma σ H (fun x H1 => tV K mg mb σ H1 fun y H2 => Q x y H2) :=
  tV_run R ea fun x H1 F1 s1 c1 r1 => by
    refine tV_run (s1.rep.pend r1) eb fun y H2 F2 s2 c2 r2 => ?_
    exact k x y H2 F2 (s1.trans (s2.weakO orO_l)) (c1.trans c2) (r1.later s1.rep s2.rep s2.fs s2.op c2) r2
end
end VS

set_option Elab.async false
set_option linter.all false
set_option maxRecDepth 100000
set_option maxHeartbeats 4000000
namespace VS
open PySem L2

/-! ### results -/
def Res (K : PySem.W.Frag) (mg : Str → Option Value) (F' H H' : Hp) : EV → V → Prop
  | .val d, v => RD K mg F' d v
  | .fresh d, v => ∃ p, v = .ref p ∧ H p = none ∧ OwnAt K mg F' H' p d
  | _, _ => False
def GQ (K : PySem.W.Frag) (mg : Str → Option Value) (F H : Hp) (res : EV) (Q : VK) : Prop := ∀ v H' F', Grow F H F' H' → Res K mg F' H H' res v → Q v H'
section
variable {K : PySem.W.Frag} {mg : Str → Option Value} {ρ : List Addr} {O O' : Addr → Prop} {Γ Γ' Γ1 Γ2 : VEnv} {σ σ' : St} {H F H' F' H1 F1 H2 F2 : Hp} {r ra rb res : EV} {v x y : V} {d e : D} {a p : Addr} {Q : VK}
theorem LocAt.there {l : Nat ⊕ Nat} (R : Rep K mg ρ O Γ σ H F) (h : LocAt ρ Γ σ l a) : H a ≠ none := by
  cases l with
  | inl i => obtain ⟨⟨d, e⟩, h⟩ := h; obtain ⟨b, h1, h2⟩ := R.ow i d e; rw [h] at h1; cases h1; exact h2.there
  | inr i => obtain ⟨⟨d, e⟩, h⟩ := h; obtain ⟨b, h1, h2⟩ := R.sow i d e; rw [h] at h1; cases h1; exact h2.there
theorem res_ev (R : Rep K mg ρ O Γ σ H F) (g : Grow F H F' H') (h : Res K mg F' H H' res v) : RepEV K mg ρ O Γ σ H' F' res v := by
  cases res with
  | val d => exact h
  | fresh d => obtain ⟨p, h1, h2, h3⟩ := h; exact ⟨p, h1, h3, fun z => (R.prot p z).2.1 h2, fun l z => z.there R h2⟩
  | slot i => exact h.elim
  | par k => exact h.elim
/-- nothing was made -/
theorem gq_val (h : Same F H) (k : GQ K mg F H (.val d) Q) (rd : RD K mg F d v) : Q v H := k v H F (Grow.refl h) rd
/-- a new list (tuple) of ours -/
theorem grow_own {o : HO} (h : Same F H) (hn : H p = none) : Grow F H F (upd H p o) where
  hs := fun b o' e => by rw [upd_ne (ne_of_none e hn)]; exact e
  fs := Same.refl _
  le := fun b o' e => by rw [upd_ne (ne_of_none (h b o' e) hn)]; exact h b o' e
  nw := fun a e => .inl e
theorem same_none (h : Same F H) (hn : H p = none) : F p = none := by
  cases q : F p with
  | none => rfl
  | some o => rw [h p o q] at hn; cases hn
theorem gq_list {vs : List V} {ds : List D} (h : Same F H) (k : GQ K mg F H (.fresh (.lst ds)) Q) (rd : RDs K mg F ds vs) : ∀ p, H p = none → Q (.ref p) (upd H p (.lst vs)) :=
  fun p hn => k _ _ F (grow_own h hn) ⟨p, rfl, hn, same_none h hn, vs, upd_same, rd⟩
theorem grow_frz {o : HO} (h : Same F H) (hn : H p = none) : Grow F H (upd F p o) (upd H p o) where
  hs := fun b o' e => by rw [upd_ne (ne_of_none e hn)]; exact e
  fs := fun b o' e => by rw [upd_ne (ne_of_none (h b o' e) hn)]; exact e
  le := fun b o' e => by
    by_cases hb : b = p
    · subst hb; rw [upd_same] at e ⊢; exact e
    · rw [upd_ne hb] at e ⊢; exact h b o' e
  nw := fun a e => by
    by_cases hb : a = p
    · subst hb; exact .inr hn
    · rw [upd_ne hb] at e; exact .inl e
theorem gq_tup {vs : List V} {ds : List D} (h : Same F H) (k : GQ K mg F H (.val (.tup ds)) Q) (rd : RDs K mg F ds vs) : ∀ p, H p = none → Q (.ref p) (upd H p (.tup vs)) :=
  fun p hn => by
    have g : Grow F H (upd F p (.tup vs)) (upd H p (.tup vs)) := grow_frz h hn
    refine k _ _ _ g ?_
    simp only [Res, RD]
    exact ⟨p, vs, rfl, .inl (.inl upd_same), RDs.mono g.fs _ _ rd⟩
end

/-! ### two-place operations -/
def OpV (K : PySem.W.Frag) (mg : Str → Option Value) (r : R2) (g : D → D → Option EV) : Prop :=
  ∀ (F H : Hp) (x y : V) (d e : D) (res : EV) (Q : VK), Same F H → RP K mg F H d x → RP K mg F H e y → g d e = some res → GQ K mg F H res Q → r x y H Q
def OpB (K : PySem.W.Frag) (mg : Str → Option Value) (r : R2) (g : D → D → Option Bool) : Prop :=
  ∀ (F H : Hp) (x y : V) (d e : D) (b : Bool) (Q : VK), Same F H → RP K mg F H d x → RP K mg F H e y → g d e = some b → Q (.bl b) H → r x y H Q
def mBin (g : D → D → Option EV) (a b : M) : M := fun Γ =>
  (a Γ).bind fun p => (b p.2).bind fun q => (peek q.2 p.1).bind fun x => (peek q.2 q.1).bind fun y => (g x y).map fun r => (r, q.2)
def mCmp (g : D → D → Option Bool) (a b : M) : MB := fun Γ =>
  (a Γ).bind fun p => (b p.2).bind fun q => (peek q.2 p.1).bind fun x => (peek q.2 q.1).bind fun y => (g x y).map fun r => (r, q.2)
/-- a test's answer as a value -/
def mOfB (m : MB) : M := fun Γ => (m Γ).map fun p => (.val (.bl p.1), p.2)

theorem obind {α β : Type} {o : Option α} {f : α → Option β} {b : β} (h : o.bind f = some b) : ∃ a, o = some a ∧ f a = some b := by
  cases o with
  | none => cases h
  | some a => exact ⟨a, rfl, h⟩
theorem omap {α β : Type} {o : Option α} {f : α → β} {b : β} (h : o.map f = some b) : ∃ a, o = some a ∧ f a = b := by
  cases o with
  | none => cases h
  | some a => exact ⟨a, rfl, Option.some.inj h⟩

section
variable {X : Cx} {a b c : Expr} {pos : Pos} {ma mb mc : M}
theorem ve_bin {op : Operator} {r : R2} {g : D → D → Option EV} (ho : OpR X (binaryOp op) r) (hv : OpV X.K X.mg r g) (ha : VE X a ma) (hb : VE X b mb) : VE X (.BinOp a op b pos) (mBin g ma mb) := by
  refine pe_of (pe_op ho ha hb) fun σ H Q h => ?_
  obtain ⟨ρ, O, Γ, F, res, Γ', R, e, k⟩ := h
  obtain ⟨⟨ra, Γ1⟩, e1, e⟩ := obind e
  obtain ⟨⟨rb, Γ2⟩, e2, e⟩ := obind e
  obtain ⟨dx, e3, e⟩ := obind e
  obtain ⟨dy, e4, e⟩ := obind e
  obtain ⟨res', e5, e⟩ := omap e
  cases e
  refine seq2 R e1 e2 fun x y H' F' s c rx ry => ?_
  refine hv F' H' x y dx dy res Q s.rep.le (peek_ok s.rep rx e3) (peek_ok s.rep (ry.weakO orO_l) e4) e5 fun v H2 F2 g hr => ?_
  exact k v H2 F2 (s.trans (Stp.grow s.rep g)) c (res_ev s.rep g hr)
theorem seq_cmp {r : R2} {g : D → D → Option Bool} (hv : OpB X.K X.mg r g) {σ : St} {H : Hp} {Q : Bool → Hp → Prop} (h : tB X.K X.mg (mCmp g ma mb) σ H Q) :
    tTest (tOp r (tV X.K X.mg ma) (tV X.K X.mg mb)) σ H Q := by
  obtain ⟨ρ, O, Γ, F, res, Γ', R, e, k⟩ := h
  obtain ⟨⟨ra, Γ1⟩, e1, e⟩ := obind e
  obtain ⟨⟨rb, Γ2⟩, e2, e⟩ := obind e
  obtain ⟨dx, e3, e⟩ := obind e
  obtain ⟨dy, e4, e⟩ := obind e
  obtain ⟨res', e5, e⟩ := omap e
  cases e
  refine seq2 R e1 e2 fun x y H' F' s c rx ry => ?_
  exact hv F' H' x y dx dy res _ s.rep.le (peek_ok s.rep rx e3) (peek_ok s.rep (ry.weakO orO_l) e4) e5 ⟨res, rfl, k H' F' s c⟩
theorem vt_cmp {op : CmpOp} {r : R2} {g : D → D → Option Bool} (ho : OpR X (compareOp op) r) (hv : OpB X.K X.mg r g) (ha : VE X a ma) (hb : VE X b mb) (hm : behindInMarks op b = false) : VT X (.Compare a [op] [b] pos) (mCmp g ma mb) :=
  pt_of (pt_cmpR ho ha hb hm) fun σ H Q h => seq_cmp hv h
theorem ve_cmp {op : CmpOp} {r : R2} {g : D → D → Option Bool} (ho : OpR X (compareOp op) r) (hv : OpB X.K X.mg r g) (ha : VE X a ma) (hb : VE X b mb) (hm : behindInMarks op b = false) : VE X (.Compare a [op] [b] pos) (mOfB (mCmp g ma mb)) := by
  refine pe_of (pe_cmpR ho ha hb hm) fun σ H Q h => ?_
  obtain ⟨ρ, O, Γ, F, res, Γ', R, e, k⟩ := h
  obtain ⟨⟨b1, Γ1⟩, e9, e0⟩ := omap e
  cases e0
  clear e
  obtain ⟨⟨ra, Γ1⟩, e1, e⟩ := obind e9
  obtain ⟨⟨rb, Γ2⟩, e2, e⟩ := obind e
  obtain ⟨dx, e3, e⟩ := obind e
  obtain ⟨dy, e4, e⟩ := obind e
  obtain ⟨res', e5, e⟩ := omap e
  cases e
  refine seq2 R e1 e2 fun x y H' F' s c rx ry => ?_
  exact hv F' H' x y dx dy b1 _ s.rep.le (peek_ok s.rep rx e3) (peek_ok s.rep (ry.weakO orO_l) e4) e5 (k _ H' F' s c (by simp only [RepEV, RD]))
/-- an expression whose value is True or False, as a test -/
def mTest (m : M) : MB := fun Γ => (m Γ).bind fun p => match p.1 with
  | .val (.bl b) => some (b, p.2)
  | _ => none
theorem vt_val (h : VE X a ma) (he : ∀ whole, isTrue a X.env whole = (do let v ← whole; standAt a.pos; holding [v] (truthy v)) := by intro _; rfl) : VT X a (mTest ma) := by
  refine pt_of (pt_val h he) fun σ H Q h => ?_
  obtain ⟨ρ, O, Γ, F, b, Γ', R, e, k⟩ := h
  obtain ⟨⟨r, Γ1⟩, e1, e⟩ := obind e
  refine tV_run R e1 fun v H' F' s c rv => ?_
  cases r with
  | val d =>
    cases d with
    | bl b' =>
      cases e
      have rv' : v = .bl b := by simpa only [RepEV, RD] using rv
      exact ⟨b, rv', k H' F' s c⟩
    | _ => cases e
  | fresh d => cases e
  | slot i => cases e
  | par i => cases e
/-! ### and, or, not, if -/
def mAnd (a b : MB) : MB := fun Γ => (a Γ).bind fun p => if p.1 = true then b p.2 else some (false, p.2)
def mOr (a b : MB) : MB := fun Γ => (a Γ).bind fun p => if p.1 = true then some (true, p.2) else b p.2
def mNot (a : MB) : MB := fun Γ => (a Γ).map fun p => (!p.1, p.2)
def mIf (t : MB) (a b : M) : M := fun Γ => (t Γ).bind fun p => if p.1 = true then a p.2 else b p.2
variable {ba bb : MB} {rest : List Expr}
theorem tB_run {K : PySem.W.Frag} {mg : Str → Option Value} {ρ : List Addr} {O : Addr → Prop} {Γ Γ' : VEnv} {σ : St} {H F : Hp} {k : Bool} {m : MB} {Q : Bool → Hp → Prop} (R : Rep K mg ρ O Γ σ H F) (e : m Γ = some (k, Γ'))
    (h : ∀ H' F', Stp K mg ρ O Γ' σ H F H' F' → Cells Γ Γ' → Q k H') : tB K mg m σ H Q := ⟨ρ, O, Γ, F, k, Γ', R, e, h⟩
theorem vw_and1 (ha : VT X a ba) : VW X (.BoolOp .And [a] pos) ba := pw_and1 ha
theorem vw_or1 (ha : VT X a ba) : VW X (.BoolOp .Or [a] pos) ba := pw_or1 ha
theorem vw_and (ha : VT X a ba) (hb : VW X (.BoolOp .And (b :: rest) pos) bb) : VW X (.BoolOp .And (a :: b :: rest) pos) (mAnd ba bb) := by
  refine pw_of (pw_and ha hb) fun σ H Q h => ?_
  obtain ⟨ρ, O, Γ, F, r, Γ', R, e, k⟩ := h
  obtain ⟨⟨r1, Γ1⟩, e1, e⟩ := obind e
  refine tB_run R e1 fun H1 F1 s1 c1 => ?_
  cases r1 with
  | true =>
    refine iteT ?_
    exact tB_run s1.rep e fun H2 F2 s2 c2 => k H2 F2 (s1.trans s2) (c1.trans c2)
  | false => cases e; exact iteF (k H1 F1 s1 c1)
theorem vw_or (ha : VT X a ba) (hb : VW X (.BoolOp .Or (b :: rest) pos) bb) : VW X (.BoolOp .Or (a :: b :: rest) pos) (mOr ba bb) := by
  refine pw_of (pw_or ha hb) fun σ H Q h => ?_
  obtain ⟨ρ, O, Γ, F, r, Γ', R, e, k⟩ := h
  obtain ⟨⟨r1, Γ1⟩, e1, e⟩ := obind e
  refine tB_run R e1 fun H1 F1 s1 c1 => ?_
  cases r1 with
  | false =>
    refine iteF ?_
    exact tB_run s1.rep e fun H2 F2 s2 c2 => k H2 F2 (s1.trans s2) (c1.trans c2)
  | true => cases e; exact iteT (k H1 F1 s1 c1)
theorem vt_w (h : VW X a ba) : VT X a ba := h.pt
theorem vt_not (ha : VT X a ba) : VT X (.UnaryOp .Not a pos) (mNot ba) := by
  refine pt_of (pt_not ha) fun σ H Q h => ?_
  obtain ⟨ρ, O, Γ, F, r, Γ', R, e, k⟩ := h
  obtain ⟨⟨r1, Γ1⟩, e1, e⟩ := omap e
  cases e
  exact tB_run R e1 k
/-- as values -/
theorem ve_and (ha : VE X a (mOfB ba)) (hb : VE X (.BoolOp .And (b :: rest) pos) (mOfB bb)) : VE X (.BoolOp .And (a :: b :: rest) pos) (mOfB (mAnd ba bb)) := by
  refine pe_of (pe_and ha hb) fun σ H Q h => ?_
  obtain ⟨ρ, O, Γ, F, r, Γ', R, e, k⟩ := h
  obtain ⟨⟨r2, Γ2⟩, e9, e0⟩ := omap e
  cases e0
  clear e
  obtain ⟨⟨r1, Γ1⟩, e1, e⟩ := obind e9
  refine tV_run R (r := .val (.bl r1)) (Γ' := Γ1) (by simp only [mOfB, e1, Option.map_some]) fun v H1 F1 s1 c1 rv => ?_
  have rv' : v = .bl r1 := by simpa only [RepEV, RD] using rv
  refine ⟨r1, rv', ?_⟩
  cases r1 with
  | true =>
    refine iteT ?_
    have e' : bb Γ1 = some (r2, Γ2) := e
    exact tV_run s1.rep (r := .val (.bl r2)) (Γ' := Γ2) (by simp only [mOfB, e', Option.map_some]) fun v H2 F2 s2 c2 => k v H2 F2 (s1.trans s2) (c1.trans c2)
  | false => cases e; exact iteF (k _ H1 F1 s1 c1 (by simp only [RepEV, RD]))
theorem ve_or (ha : VE X a (mOfB ba)) (hb : VE X (.BoolOp .Or (b :: rest) pos) (mOfB bb)) : VE X (.BoolOp .Or (a :: b :: rest) pos) (mOfB (mOr ba bb)) := by
  refine pe_of (pe_or ha hb) fun σ H Q h => ?_
  obtain ⟨ρ, O, Γ, F, r, Γ', R, e, k⟩ := h
  obtain ⟨⟨r2, Γ2⟩, e9, e0⟩ := omap e
  cases e0
  clear e
  obtain ⟨⟨r1, Γ1⟩, e1, e⟩ := obind e9
  refine tV_run R (r := .val (.bl r1)) (Γ' := Γ1) (by simp only [mOfB, e1, Option.map_some]) fun v H1 F1 s1 c1 rv => ?_
  have rv' : v = .bl r1 := by simpa only [RepEV, RD] using rv
  refine ⟨r1, rv', ?_⟩
  cases r1 with
  | false =>
    refine iteF ?_
    have e' : bb Γ1 = some (r2, Γ2) := e
    exact tV_run s1.rep (r := .val (.bl r2)) (Γ' := Γ2) (by simp only [mOfB, e', Option.map_some]) fun v H2 F2 s2 c2 => k v H2 F2 (s1.trans s2) (c1.trans c2)
  | true => cases e; exact iteT (k _ H1 F1 s1 c1 (by simp only [RepEV, RD]))
theorem ve_one {op} {m : M} (h : VE X a m) : VE X (.BoolOp op [a] pos) m := pe_one h
theorem ve_not (ha : VE X a (mOfB ba)) : VE X (.UnaryOp .Not a pos) (mOfB (mNot ba)) := by
  refine pe_of (pe_not ha) fun σ H Q h => ?_
  obtain ⟨ρ, O, Γ, F, r, Γ', R, e, k⟩ := h
  obtain ⟨⟨r2, Γ2⟩, e9, e0⟩ := omap e
  cases e0
  clear e
  obtain ⟨⟨r1, Γ1⟩, e1, e⟩ := omap e9
  cases e
  refine tV_run R (r := .val (.bl r1)) (Γ' := Γ1) (by simp only [mOfB, e1, Option.map_some]) fun v H1 F1 s1 c1 rv => ?_
  have rv' : v = .bl r1 := by simpa only [RepEV, RD] using rv
  exact ⟨r1, rv', k _ H1 F1 s1 c1 (by simp only [RepEV, RD])⟩
/-- any value that is True or False, as the answer of a test -/
theorem ve_ofTest {m : M} (h : VE X a m) : VE X a (mOfB (mTest m)) := by
  refine pe_of h fun σ H Q h => ?_
  obtain ⟨ρ, O, Γ, F, r, Γ', R, e, k⟩ := h
  obtain ⟨⟨r2, Γ2⟩, e9, e0⟩ := omap e
  cases e0
  clear e
  obtain ⟨⟨r1, Γ1⟩, e1, e⟩ := obind e9
  refine tV_run R e1 fun v H1 F1 s1 c1 rv => ?_
  cases r1 with
  | val d =>
    cases d with
    | bl b' => cases e; exact k v H1 F1 s1 c1 rv
    | _ => cases e
  | fresh d => cases e
  | slot i => cases e
  | par i => cases e
theorem ve_if {t : MB} (hc : VT X c t) (ha : VE X a ma) (hb : VE X b mb) : VE X (.IfExp c a b pos) (mIf t ma mb) := by
  refine pe_of (pe_ifExp hc ha hb) fun σ H Q h => ?_
  obtain ⟨ρ, O, Γ, F, r, Γ', R, e, k⟩ := h
  obtain ⟨⟨r1, Γ1⟩, e1, e⟩ := obind e
  refine tB_run R e1 fun H1 F1 s1 c1 => ?_
  cases r1 with
  | true => exact iteT (tV_run s1.rep e fun v H2 F2 s2 c2 => k v H2 F2 (s1.trans s2) (c1.trans c2))
  | false => exact iteF (tV_run s1.rep e fun v H2 F2 s2 c2 => k v H2 F2 (s1.trans s2) (c1.trans c2))
/-! ### names, constants -/
def mVar (i : Nat) : M := fun Γ => match Γ.sl[i]? with
  | some (.val d) => some (.val d, Γ)
  | some (.own _) => some (.slot i, Γ)
  | some (.par k) => some (.par k, Γ)
  | _ => none
def mC (d : D) : M := fun Γ => some (.val d, Γ)
theorem ve_var (i : Nat) {x : Str} {pos : Pos} (hN : X.N[i]? = some x := by rfl) (hv : Vis X.env.scope x := by first | exact Or.inl rfl | exact Or.inr (Or.inl rfl) | exact Or.inr (Or.inr rfl)) (hd : (x == ("__debug__" : Str)) = false := by decide)
    (hcd : (x == ("__classdict__" : Str)) = false := by decide) : VE X (.Name x pos) (mVar i) := by
  refine pe_of (pe_var hN hv hd hcd) fun σ H Q h => ?_
  obtain ⟨ρ, O, Γ, F, r, Γ', R, e, k⟩ := h
  simp only [mVar] at e
  cases q : Γ.sl[i]? with
  | none => rw [q] at e; cases e
  | some c =>
    rw [q] at e
    cases c with
    | un => cases e
    | val d => cases e; obtain ⟨v, h1, h2⟩ := R.vl i d q; exact ⟨v, h1, k v H F (Stp.refl R) Cells.refl h2⟩
    | own d => cases e; obtain ⟨a, h1, h2⟩ := R.ow i d q; exact ⟨_, h1, k _ H F (Stp.refl R) Cells.refl ⟨h1, trivial⟩⟩
    | par j => cases e; obtain ⟨a, h1, h2⟩ := R.pr i j q; exact ⟨_, h2, k _ H F (Stp.refl R) Cells.refl ⟨a, h1, rfl⟩⟩
theorem ve_const {v : V} {d : D} (h : PE X a (tC v)) (rd : ∀ F, RD X.K X.mg F d v) : VE X a (mC d) := by
  refine pe_of h fun σ H Q h => ?_
  obtain ⟨ρ, O, Γ, F, r, Γ', R, e, k⟩ := h
  cases e
  exact k v H F (Stp.refl R) Cells.refl (rd F)
theorem ve_int {i j pos} : VE X (.Constant (.int i) j pos) (mC (.int i)) := ve_const pe_int fun F => by simp only [RD]
theorem ve_bl {i j pos} : VE X (.Constant (.bool i) j pos) (mC (.bl i)) := ve_const pe_bl fun F => by simp only [RD]
theorem ve_non {j pos} : VE X (.Constant .none j pos) (mC .non) := ve_const pe_non fun F => by simp only [RD]
theorem ve_str {x : Str} {j pos} (s : List Nat) (h : x = ⟨s.toArray⟩ := by decide +kernel) (ok : OkS s := by decide) : VE X (.Constant (.str x) j pos) (mC (.str s)) := ve_const pe_str fun F => by simp only [RD]; exact ⟨by rw [h], ok⟩
/-- a constant of the module: an int, a text -/
theorem ve_gint {x : Str} {i : Int} {t : Tok} (hm : X.mg x = some (.int i t)) (hg : Gl X x := by rfl) (hd : (x == ("__debug__" : Str)) = false := by decide) : VE X (.Name x pos) (mC (.int i)) :=
  ve_const (v := .int i) (pe_glob hg hm ⟨t, rfl⟩ hd) fun F => by simp only [RD]
theorem ve_gstr {x y : Str} {t : Tok} (s : List Nat) (hm : X.mg x = some (.str y t)) (h : y = ⟨s.toArray⟩ := by decide +kernel) (ok : OkS s := by decide) (hg : Gl X x := by rfl) (hd : (x == ("__debug__" : Str)) = false := by decide) : VE X (.Name x pos) (mC (.str s)) :=
  ve_const (v := .str y) (pe_glob hg hm ⟨t, rfl⟩ hd) fun F => by simp only [RD]; exact ⟨by rw [h], ok⟩
end
end VS

set_option Elab.async false
set_option linter.all false
set_option maxRecDepth 100000
set_option maxHeartbeats 4000000
namespace VS
open PySem L2 PyProof.Rows

section
variable {K : PySem.W.Frag} {mg : Str → Option Value} {F H : Hp} {v x : V} {d : D} {ds : List D} {s : List Nat} {i : Int} {b : Bool}
theorem RP.mono (h : Same F H) (r : RP K mg F H d v) (hd : ∀ xs, d ≠ .lst xs) (hd2 : ∀ xs, d ≠ .dict xs) : RD K mg F d v := by
  rcases r with r | ⟨a, _, _, r⟩
  · exact r
  · cases d <;> simp only at r
    · exact absurd rfl (hd _)
    · exact absurd rfl (hd2 _)
theorem RP.int (r : RP K mg F H (.int i) v) : v = .int i := by
  rcases r with r | ⟨a, _, _, r⟩
  · simpa only [RD] using r
  · simp only at r
theorem RP.bl (r : RP K mg F H (.bl b) v) : v = .bl b := by
  rcases r with r | ⟨a, _, _, r⟩
  · simpa only [RD] using r
  · simp only at r
theorem RP.non (r : RP K mg F H .non v) : v = .non := by
  rcases r with r | ⟨a, _, _, r⟩
  · simpa only [RD] using r
  · simp only at r
theorem RP.str (r : RP K mg F H (.str s) v) : v = .str ⟨s.toArray⟩ ∧ OkS s := by
  rcases r with r | ⟨a, _, _, r⟩
  · simpa only [RD] using r
  · simp only at r
theorem RP.tup (h : Same F H) (r : RP K mg F H (.tup ds) v) : ∃ a vs, v = .ref a ∧ SqT K H a vs ∧ RDs K mg F ds vs := by
  rcases r with r | ⟨a, _, _, r⟩
  · simp only [RD] at r
    obtain ⟨a, vs, e1, e2, e3⟩ := r
    refine ⟨a, vs, e1, ?_, e3⟩
    rcases e2 with (e2 | ⟨o, e2⟩) | e2
    · exact .inl (.inl (h _ _ e2))
    · exact .inl (.inr ⟨o, h _ _ e2⟩)
    · exact .inr e2
  · simp only at r
theorem RP.lst (h : Same F H) (r : RP K mg F H (.lst ds) v) : ∃ a vs, v = .ref a ∧ SqL K H a vs ∧ RDs K mg F ds vs := by
  rcases r with r | ⟨a, e, _, r⟩
  · simp only [RD] at r
    obtain ⟨a, vs, e1, e2, e3⟩ := r
    exact ⟨a, vs, e1, h.seq e2, e3⟩
  · simp only at r
    obtain ⟨vs, e1, e2⟩ := r
    exact ⟨a, vs, e, .inl (.inl e1), e2⟩
theorem RDs.length : ∀ {ds : List D} {vs : List V}, RDs K mg F ds vs → ds.length = vs.length
  | [], vs, h => by simp only [RDs] at h; rw [h]; rfl
  | d :: ds, vs, h => by
    simp only [RDs] at h
    obtain ⟨v, r, rfl, _, h⟩ := h
    simp only [List.length_cons, RDs.length h]
theorem RDs.append : ∀ {ds es : List D} {vs ws : List V}, RDs K mg F ds vs → RDs K mg F es ws → RDs K mg F (ds ++ es) (vs ++ ws)
  | [], es, vs, ws, h, g => by simp only [RDs] at h; rw [h]; exact g
  | d :: ds, es, vs, ws, h, g => by
    simp only [RDs] at h
    obtain ⟨v, r, rfl, h1, h2⟩ := h
    simp only [List.cons_append, RDs]
    exact ⟨v, r ++ ws, rfl, h1, RDs.append h2 g⟩
theorem RDs.get : ∀ {ds : List D} {vs : List V} {i : Nat} {d : D}, RDs K mg F ds vs → ds[i]? = some d → ∃ v, vs[i]? = some v ∧ RD K mg F d v
  | [], vs, i, d, h, e => by simp at e
  | d' :: ds, vs, 0, d, h, e => by
    simp only [RDs] at h
    obtain ⟨v, r, rfl, h1, h2⟩ := h
    simp at e; subst e
    exact ⟨v, rfl, h1⟩
  | d' :: ds, vs, i + 1, d, h, e => by
    simp only [RDs] at h
    obtain ⟨v, r, rfl, h1, h2⟩ := h
    obtain ⟨w, h3, h4⟩ := RDs.get (i := i) h2 (by simpa using e)
    exact ⟨w, by simpa using h3, h4⟩
theorem RDs.set : ∀ {ds : List D} {vs : List V} {d : D} {v : V} (i : Nat), RDs K mg F ds vs → RD K mg F d v → RDs K mg F (ds.set i d) (vs.set i v)
  | [], vs, d, v, i, h, e => by simp only [RDs] at h; subst h; simp [RDs]
  | d' :: ds, vs, d, v, 0, h, e => by
    simp only [RDs] at h
    obtain ⟨w, r, rfl, h1, h2⟩ := h
    simp only [List.set_cons_zero, RDs]
    exact ⟨v, r, rfl, e, h2⟩
  | d' :: ds, vs, d, v, i + 1, h, e => by
    simp only [RDs] at h
    obtain ⟨w, r, rfl, h1, h2⟩ := h
    simp only [List.set_cons_succ, RDs]
    exact ⟨w, _, rfl, h1, RDs.set i h2 e⟩
theorem RDs.take : ∀ {ds : List D} {vs : List V} (n : Nat), RDs K mg F ds vs → RDs K mg F (ds.take n) (vs.take n)
  | _, _, 0, _ => by simp [RDs]
  | [], vs, n + 1, h => by simp only [RDs] at h; subst h; simp [RDs]
  | d :: ds, vs, n + 1, h => by
    simp only [RDs] at h
    obtain ⟨v, r, rfl, h1, h2⟩ := h
    simp only [List.take_succ_cons, RDs]
    exact ⟨v, _, rfl, h1, RDs.take n h2⟩
theorem RDs.drop : ∀ {ds : List D} {vs : List V} (n : Nat), RDs K mg F ds vs → RDs K mg F (ds.drop n) (vs.drop n)
  | _, _, 0, h => by simpa using h
  | [], vs, n + 1, h => by simp only [RDs] at h; subst h; simp [RDs]
  | d :: ds, vs, n + 1, h => by
    simp only [RDs] at h
    obtain ⟨v, r, rfl, h1, h2⟩ := h
    simp only [List.drop_succ_cons]
    exact RDs.drop n h2
theorem RDs.rev {ds : List D} {vs : List V} (h : RDs K mg F ds vs) : RDs K mg F ds.reverse vs.reverse := by
  induction ds generalizing vs with
  | nil => simp only [RDs] at h; subst h; simp [RDs]
  | cons d ds ih =>
    simp only [RDs] at h
    obtain ⟨v, r, rfl, h1, h2⟩ := h
    rw [List.reverse_cons, List.reverse_cons]
    exact (ih h2).append (by simp only [RDs]; exact ⟨v, [], rfl, h1, rfl⟩)
theorem RDs.ints : ∀ {ns : List Int} {vs : List V}, RDs K mg F (ns.map D.int) vs → vs = ns.map V.int
  | [], vs, h => by simpa [RDs] using h
  | n :: ns, vs, h => by
    simp only [List.map_cons, RDs, RD] at h
    obtain ⟨v, r, rfl, rfl, h⟩ := h
    rw [RDs.ints h]; rfl
theorem RDs.bls : ∀ {ns : List Bool} {vs : List V}, RDs K mg F (ns.map D.bl) vs → vs = ns.map V.bl
  | [], vs, h => by simpa [RDs] using h
  | n :: ns, vs, h => by
    simp only [List.map_cons, RDs, RD] at h
    obtain ⟨v, r, rfl, rfl, h⟩ := h
    rw [RDs.bls h]; rfl
theorem RDs.nil_iff {vs : List V} (h : RDs K mg F ds vs) : vs = [] ↔ ds = [] := by
  have := h.length
  cases ds <;> cases vs <;> simp_all
end

/-! ### ints, texts, lists, tuples: + - * // % ** -/
def smallI (i : Int) : Bool := decide (i.natAbs / 18446744073709551616 = 0)
theorem smallI_iff {i : Int} : smallI i = true ↔ i.natAbs < 2 ^ 64 := by
  simp only [smallI, decide_eq_true_eq]
  rw [Nat.div_eq_zero_iff]
  constructor
  · rintro (h | h)
    · cases h
    · exact h
  · intro h; exact .inr h
def mulOk (i j : Int) : Bool := smallI i || smallI j || decide (i.natAbs.log2 + j.natAbs.log2 < 1000000)
def powOk (i j : Int) : Bool := decide (0 ≤ j) && decide (Builtin.Int.intBits i * j.toNat / 134217729 = 0)
theorem powOk_iff {i j : Int} (h : powOk i j = true) : 0 ≤ j ∧ (Builtin.Int.intBits i : Int) * j ≤ 2 ^ 27 := by
  simp only [powOk, Bool.and_eq_true, decide_eq_true_eq] at h
  obtain ⟨h1, h2⟩ := h
  refine ⟨h1, ?_⟩
  rw [Nat.div_eq_zero_iff] at h2
  have h3 : Builtin.Int.intBits i * j.toNat < 134217729 := by
    rcases h2 with h | h
    · cases h
    · exact h
  have e : j = (j.toNat : Int) := by omega
  rw [e]
  have h4 : ((Builtin.Int.intBits i * j.toNat : Nat) : Int) ≤ 134217728 := by omega
  have h5 : (2 ^ 27 : Int) = 134217728 := by decide
  rw [h5, ← Int.natCast_mul]
  exact h4
def addD : D → D → Option EV
  | .int i, .int j => some (.val (.int (i + j)))
  | .int i, .bl k => some (.val (.int (i + if k then 1 else 0)))
  | .str s, .str t => if s.length + t.length ≤ sizeLine then some (.val (.str (s ++ t))) else none
  | .lst xs, .lst ys => if xs.length + ys.length ≤ sizeLine then some (.fresh (.lst (xs ++ ys))) else none
  | .tup xs, .tup ys => if xs.length + ys.length ≤ sizeLine then some (.val (.tup (xs ++ ys))) else none
  | _, _ => none
def subD : D → D → Option EV
  | .int i, .int j => some (.val (.int (i - j)))
  | _, _ => none
def mulD : D → D → Option EV
  | .int i, .int j => if mulOk i j = true then some (.val (.int (i * j))) else none
  | .str s, .int j => if j ≤ 1000 ∧ -1000 ≤ j ∧ s.length ≤ 1000 then some (.val (.str (List.replicate j.toNat s).flatten)) else none
  | .tup xs, .int k => if xs ≠ [] ∧ 2 ≤ k ∧ k ≤ 1000 ∧ xs.length ≤ 1000 then some (.val (.tup (List.replicate k.toNat xs).flatten)) else none
  | _, _ => none
def fdivD : D → D → Option EV
  | .int i, .int j => if 0 < j ∧ j.natAbs.log2 < 9000 then some (.val (.int (i / j))) else none
  | _, _ => none
def modD : D → D → Option EV
  | .int i, .int j => if 0 < j then some (.val (.int (i % j))) else none
  | _, _ => none
def powD : D → D → Option EV
  | .int i, .int j => if powOk i j = true then some (.val (.int (i ^ j.toNat))) else none
  | _, _ => none

theorem OkS.app {s t : List Nat} (hs : OkS s) (ht : OkS t) (h : s.length + t.length ≤ sizeLine) : OkS (s ++ t) :=
  ⟨by rw [List.length_append]; exact h, fun c hc => (List.mem_append.mp hc).elim (hs.2 c) (ht.2 c)⟩

/-- list + list, whatever they are -/
def rCatG (K : PySem.W.Frag) : R2 := fun x y H Q => ∃ l b xs zs, x = .ref l ∧ y = .ref b ∧ SqL K H l xs ∧ SqL K H b zs ∧ xs.length + zs.length ≤ sizeLine ∧ ∀ p, H p = none → Q (.ref p) (upd H p (.lst (xs ++ zs)))
section
variable {X : Cx}
theorem op_catG : OpR X (binaryOp .Add) (rCatG X.K) := by
  intro pins s σ H x y v u Q I rx ry h
  obtain ⟨l, b, xs, zs, rfl, rfl, hH, hB, hz, q⟩ := h
  cases rx
  cases ry
  obtain ⟨its, r, ⟨⟨cls, dd, data, sl⟩, n, e, hc, _, hd⟩, _⟩ := I.list hH
  obtain ⟨its2, r2, ⟨⟨cls2, dd2, data2, sl2⟩, n2, e2, hc2, _, hd2⟩, _⟩ := I.list hB
  simp only at hc hd hc2 hd2
  subst hc hd hc2 hd2
  have h1 := r.length
  have h2 := r2.length
  have ea : its.toArray ++ its2.toArray = (its ++ its2).toArray := by simp
  refine concat_meets ⟨_, e, rfl⟩ ⟨_, e2, rfl⟩ PySem.noFill_list_add PySem.seq_list_add PySem.F.slot_list_add PySem.F.entry_list_add (PySem.F.args_list_add_2 _ _) (list_addW l b its.toArray its2.toArray n n2 dd dd2 sl sl2 (by simp only [List.size_toArray]; omega)) ⟨e, e2, ?_⟩
  rw [ea]
  exact ⟨.ref _, _, I.lnew (t' := s.toks) (r.append r2) (by rw [List.length_append]; omega), rfl, q _ I.fresh⟩
theorem op_powG : OpR X (binaryOp .Pow) (rI (fun i j => 0 ≤ j ∧ (Builtin.Int.intBits i : Int) * j ≤ 2 ^ 27) fun i j => .int (i ^ j.toNat)) := opI fun _ _ _ _ _ _ _ hc q => pow_int hc.1 hc.2 q
def CMulG (i j : Int) : Prop := mulOk i j = true
theorem op_mulG : OpR X (binaryOp .Mult) (rI CMulG fun i j => .int (i * j)) := opI fun i j _ _ _ _ _ hc q => by
  have hc' : mulOk i j = true := hc
  simp only [mulOk, smallI_iff, Bool.or_eq_true, decide_eq_true_eq] at hc'
  refine mul_int q ?_
  rcases hc' with (h | h) | h
  · exact CMul.ok (.inl ⟨by omega, by omega⟩)
  · exact CMul.ok (.inr ⟨by omega, by omega⟩)
  · exact CMulW.ok h
/-- text * int -/
def rRepS : R2 := fun x y H Q => ∃ z k, x = .str z ∧ y = .int k ∧ -(2 ^ 63) ≤ k ∧ k ≤ 1000 ∧ z.length ≤ 1000 ∧ Q (.str ⟨(List.replicate k.toNat z.cps.toList).flatten.toArray⟩) H
theorem rep_flat (z : Array Nat) (n : Nat) : (List.replicate n z).foldl (· ++ ·) #[] = (List.replicate n z.toList).flatten.toArray := by
  have f : ∀ (m : Nat) (acc : List Nat), (List.replicate m z).foldl (· ++ ·) acc.toArray = (acc ++ (List.replicate m z.toList).flatten).toArray := by
    intro m
    induction m with
    | zero => intro acc; simp
    | succ m ih =>
      intro acc
      rw [List.replicate_succ, List.foldl_cons, List.replicate_succ, List.flatten_cons, ← List.append_assoc, ← ih]
      congr 1
      apply Array.ext'
      simp
  have := f n []
  simpa using this
theorem op_repS : OpR X (binaryOp .Mult) rRepS := by
  intro pins s σ H x y v u Q I rx ry h
  obtain ⟨z, k, rfl, rfl, h1, h2, h3, q⟩ := h
  obtain ⟨t, rfl⟩ := rx
  obtain ⟨t', rfl⟩ := ry
  have hlen : z.length = z.cps.toList.length := by simp [Str.length]
  refine PySem.P.mul_str ?_ ?_ ?_ ?_
  · rw [decide_eq_false (by omega), decide_eq_false (by omega)]; rfl
  · intro hk _
    have h0 : (0 : Int) < k := by omega
    intro z2
    have : (2 ^ 63 - 1 : Int) / k ≥ (2 ^ 63 - 1) / 1000 := by
      apply Int.le_ediv_of_mul_le h0
      have : ((2 ^ 63 - 1 : Int) / 1000) * k ≤ ((2 ^ 63 - 1) / 1000) * 1000 := Int.mul_le_mul_of_nonneg_left h2 (by decide)
      omega
    have e : ((2 ^ 63 - 1 : Int)) / 1000 = 9223372036854775 := by decide
    omega
  · intro hk _
    have hm : z.length * k.toNat ≤ 1000 * 1000 := Nat.mul_le_mul h3 (by omega)
    unfold Builtin.Str.tooLong
    exact decide_eq_false (by have : sizeLine = 16777216 := by decide
                              omega)
  · by_cases hk : k < 1
    · rw [if_pos hk]
      have e : k.toNat = 0 := by omega
      rw [e] at q
      exact ⟨by decide, .str Str.empty, H, I.tok _, ⟨_, rfl⟩, q⟩
    · rw [if_neg hk]
      have hq : ∀ t'' s'', Inv X pins σ H s'' → EP X pins σ Q (.str ⟨(List.replicate k.toNat z.cps.toList).flatten.toArray⟩ t'') s'' := fun t'' s'' I' => ⟨.str _, H, I', ⟨t'', rfl⟩, q⟩
      by_cases h1' : (k == 1 || z.length == 0) = true
      · rw [if_pos h1']
        have e : (⟨(List.replicate k.toNat z.cps.toList).flatten.toArray⟩ : Str) = z := by
          rw [Bool.or_eq_true] at h1'
          rcases h1' with h1' | h1'
          · have : k = 1 := by simpa using h1'
            subst this
            simp
          · have hz : z.cps.toList = [] := by
              have : z.length = 0 := by simpa using h1'
              exact List.eq_nil_of_length_eq_zero (by omega)
            rw [hz]
            have hz2 : z = ⟨#[]⟩ := by
              cases z with
              | mk c => congr 1; apply Array.ext'; simpa using hz
            rw [hz2]
            have : ∀ n, (List.replicate n ([] : List Nat)).flatten = [] := by intro n; induction n with
              | zero => rfl
              | succ n ih => rw [List.replicate_succ, List.flatten_cons, ih]; rfl
            rw [this]
        rw [e] at q
        exact ⟨.str z, H, I, ⟨_, rfl⟩, q⟩
      · rw [if_neg h1', rep_flat]
        have hm : z.length * k.toNat ≤ 1000 * 1000 := Nat.mul_le_mul h3 (by omega)
        exact ⟨by
          show (List.replicate k.toNat z.cps.toList).flatten.toArray.size ≤ _
          rw [List.size_toArray, lm_len_rep_flat, ← hlen]
          have : sizeLine = 16777216 := by decide
          first
            | omega
            | (rw [Nat.mul_comm]; omega), hq _ _ (I.tok _)⟩
end

/-! ### the operators by data -/
section
variable {K : PySem.W.Frag} {mg : Str → Option Value}
theorem ov_add_int : OpV K mg (rI0 fun i j => .int (i + j)) fun d e => match d, e with
    | .int i, .int j => some (.val (.int (i + j)))
    | _, _ => none := by
  intro F H x y d e res Q hl rx ry h k
  cases d <;> cases e <;> simp only at h <;> cases h
  exact ⟨_, _, rx.int, ry.int, gq_val hl k (by simp only [RD])⟩
end
theorem flat_rep {α : Type} (n : Nat) (s : List α) : (List.replicate n s).flatten.length = n * s.length := by
  rw [lm_len_rep_flat]
section
variable {X : Cx}
/-- an operation by data, given a rule for each kind of data -/
def OpX (X : Cx) (f : Value → Value → Sem Value) (g : D → D → Option EV) : Prop :=
  ∃ r, OpR X f r ∧ OpV X.K X.mg r g
theorem opx_or {f : Value → Value → Sem Value} {g g1 g2 : D → D → Option EV} (h1 : OpX X f g1) (h2 : OpX X f g2) (h : ∀ d e r, g d e = some r → g1 d e = some r ∨ g2 d e = some r) : OpX X f g := by
  obtain ⟨r1, a1, b1⟩ := h1
  obtain ⟨r2, a2, b2⟩ := h2
  refine ⟨_, a1.or a2, fun F H x y d e res Q hl rx ry hg k => ?_⟩
  rcases h d e res hg with z | z
  · exact .inl (b1 F H x y d e res Q hl rx ry z k)
  · exact .inr (b2 F H x y d e res Q hl rx ry z k)
def gII (C : Int → Int → Bool) (f : Int → Int → Int) : D → D → Option EV
  | .int i, .int j => if C i j = true then some (.val (.int (f i j))) else none
  | _, _ => none
theorem opx_int {f : Value → Value → Sem Value} {C : Int → Int → Prop} {g : Int → Int → Int} {c : Int → Int → Bool} (h : OpR X f (rI C fun i j => .int (g i j))) (hc : ∀ i j, c i j = true → C i j) : OpX X f (gII c g) := by
  refine ⟨_, h, fun F H x y d e res Q hl rx ry hg k => ?_⟩
  cases d <;> cases e <;> simp only [gII] at hg <;> first
    | cases hg; done
    | (rename_i i j
       by_cases z : c i j = true
       · rw [if_pos z] at hg
         cases hg
         exact ⟨_, _, rx.int, ry.int, hc i j z, gq_val hl k (by simp only [RD])⟩
       · rw [if_neg z] at hg; cases hg)
theorem opx_int0 {f : Value → Value → Sem Value} {g : Int → Int → Int} (h : OpR X f (rI0 fun i j => .int (g i j))) : OpX X f (gII (fun _ _ => true) g) := by
  refine ⟨_, h, fun F H x y d e res Q hl rx ry hg k => ?_⟩
  cases d <;> cases e <;> simp only [gII] at hg <;> first
    | cases hg; done
    | (cases hg; exact ⟨_, _, rx.int, ry.int, gq_val hl k (by simp only [RD])⟩)
def gSS : D → D → Option EV
  | .str s, .str t => if s.length + t.length ≤ sizeLine then some (.val (.str (s ++ t))) else none
  | _, _ => none
theorem str_app (s t : List Nat) : ((⟨s.toArray⟩ : Str) ++ (⟨t.toArray⟩ : Str)) = ⟨(s ++ t).toArray⟩ := by
  show (⟨s.toArray ++ t.toArray⟩ : Str) = _
  congr 1
  apply Array.ext'
  simp
theorem opx_addS {f : Value → Value → Sem Value} (h : OpR X f (fun x y H Q => ∃ i j, x = .str i ∧ y = .str j ∧ i.length + j.length ≤ sizeLine ∧ Q (.str (i ++ j)) H)) : OpX X f gSS := by
  refine ⟨_, h, fun F H x y d e res Q hl rx ry hg k => ?_⟩
  cases d <;> cases e <;> simp only [gSS] at hg <;> first
    | cases hg; done
    | (rename_i s t
       by_cases z : s.length + t.length ≤ sizeLine
       · rw [if_pos z] at hg
         cases hg
         refine ⟨_, _, rx.str.1, ry.str.1, z, ?_⟩
         rw [str_app]
         exact gq_val hl k (by simp only [RD]; exact ⟨trivial, rx.str.2.app ry.str.2 z⟩)
       · rw [if_neg z] at hg; cases hg)
def gLL : D → D → Option EV
  | .lst xs, .lst ys => if xs.length + ys.length ≤ sizeLine then some (.fresh (.lst (xs ++ ys))) else none
  | _, _ => none
theorem opx_addL : OpX X (binaryOp .Add) gLL := by
  refine ⟨_, op_catG, fun F H x y d e res Q hl rx ry hg k => ?_⟩
  cases d <;> cases e <;> simp only [gLL] at hg <;> first
    | cases hg; done
    | (rename_i s t
       by_cases z : s.length + t.length ≤ sizeLine
       · rw [if_pos z] at hg
         cases hg
         obtain ⟨a, vs, rfl, h1, h2⟩ := rx.lst hl
         obtain ⟨b, ws, rfl, h3, h4⟩ := ry.lst hl
         exact ⟨_, _, _, _, rfl, rfl, h1, h3, by rw [← h2.length, ← h4.length]; exact z, gq_list hl k (h2.append h4)⟩
       · rw [if_neg z] at hg; cases hg)
def gTT : D → D → Option EV
  | .tup xs, .tup ys => if xs.length + ys.length ≤ sizeLine then some (.val (.tup (xs ++ ys))) else none
  | _, _ => none
theorem sqT_mono {K : PySem.W.Frag} {F H : Hp} {a : Addr} {vs : List V} (h : Same F H) (r : SqT K F a vs) : SqT K H a vs := by
  rcases r with (e2 | ⟨o, e2⟩) | e2
  · exact .inl (.inl (h _ _ e2))
  · exact .inl (.inr ⟨o, h _ _ e2⟩)
  · exact .inr e2
theorem RP.tupF {K : PySem.W.Frag} {mg : Str → Option Value} {F H : Hp} {ds : List D} {v : V} (r : RP K mg F H (.tup ds) v) : ∃ a vs, v = .ref a ∧ SqT K F a vs ∧ RDs K mg F ds vs := by
  rcases r with r | ⟨a, _, _, r⟩
  · simpa only [RD] using r
  · simp only at r
theorem opx_addT : OpX X (binaryOp .Add) gTT := by
  refine ⟨_, op_catA, fun F H x y d e res Q hl rx ry hg k => ?_⟩
  cases d <;> cases e <;> simp only [gTT] at hg <;> first
    | cases hg; done
    | (rename_i s t
       by_cases z : s.length + t.length ≤ sizeLine
       · rw [if_pos z] at hg
         cases hg
         obtain ⟨a, vs, rfl, h1, h2⟩ := rx.tupF
         obtain ⟨b, ws, rfl, h3, h4⟩ := ry.tupF
         refine ⟨_, _, _, _, rfl, rfl, sqT_mono hl h1, sqT_mono hl h3, by rw [← h2.length, ← h4.length]; exact z, fun q => ?_, fun _ q => ?_, fun _ q => gq_tup hl k (h2.append h4)⟩
         · have : s = [] := h2.nil_iff.mp q
           subst this
           rw [List.nil_append] at k
           exact gq_val hl k (by simp only [RD]; exact ⟨b, ws, rfl, h3, h4⟩)
         · have : t = [] := h4.nil_iff.mp q
           subst this
           rw [List.append_nil] at k
           exact gq_val hl k (by simp only [RD]; exact ⟨a, vs, rfl, h1, h2⟩)
       · rw [if_neg z] at hg; cases hg)
def gIB : D → D → Option EV
  | .int i, .bl k => some (.val (.int (i + if k then 1 else 0)))
  | _, _ => none
theorem opx_addIB : OpX X (binaryOp .Add) gIB := by
  refine ⟨_, op_add_ib, fun F H x y d e res Q hl rx ry hg k => ?_⟩
  cases d <;> cases e <;> simp only [gIB] at hg <;> first
    | cases hg; done
    | (cases hg
       refine ⟨_, _, rx.int, ry.bl, gq_val hl k ?_⟩
       simp only [RD]
       rename_i b
       cases b <;> rfl)
theorem ox_add : OpX X (binaryOp .Add) addD := by
  refine opx_or (opx_or (opx_int0 op_add) (opx_addS op_add_str) (g := fun d e => (gII (fun _ _ => true) (fun i j => i + j) d e).or (gSS d e)) fun d e r h => ?_)
    (opx_or opx_addL (opx_or opx_addT opx_addIB (g := fun d e => (gTT d e).or (gIB d e)) fun d e r h => ?_) (g := fun d e => (gLL d e).or ((gTT d e).or (gIB d e))) fun d e r h => ?_) fun d e r h => ?_
  · cases q : gII (fun _ _ => true) (fun i j => i + j) d e <;> simp_all
  · cases q : gTT d e <;> simp_all
  · cases q : gLL d e <;> simp_all
  · cases d <;> cases e <;> simp only [addD] at h <;> first
      | cases h; done
      | simp_all [gII, gSS, gLL, gTT, gIB]
theorem ox_sub : OpX X (binaryOp .Sub) subD := by
  obtain ⟨r, a, b⟩ := opx_int0 (X := X) op_sub
  refine ⟨r, a, fun F H x y d e res Q hl rx ry hg k => b F H x y d e res Q hl rx ry ?_ k⟩
  cases d <;> cases e <;> simp_all [subD, gII]
def gSI : D → D → Option EV
  | .str s, .int j => if j ≤ 1000 ∧ -1000 ≤ j ∧ s.length ≤ 1000 then some (.val (.str (List.replicate j.toNat s).flatten)) else none
  | _, _ => none
theorem mem_rep {α : Type} {n : Nat} {s : List α} {c : α} (h : c ∈ (List.replicate n s).flatten) : c ∈ s := by
  rw [List.mem_flatten] at h
  obtain ⟨l, h1, h2⟩ := h
  rw [List.mem_replicate] at h1
  rw [← h1.2]; exact h2
theorem opx_mulS : OpX X (binaryOp .Mult) gSI := by
  refine ⟨_, op_repS, fun F H x y d e res Q hl rx ry hg k => ?_⟩
  cases d <;> cases e <;> simp only [gSI] at hg <;> first
    | cases hg; done
    | (rename_i s j
       by_cases z : j ≤ 1000 ∧ -1000 ≤ j ∧ s.length ≤ 1000
       · rw [if_pos z] at hg
         cases hg
         refine ⟨_, _, rx.str.1, ry.int, Int.le_trans (by decide) z.2.1, z.1, by simpa [Str.length] using z.2.2, gq_val hl k ?_⟩
         simp only [RD]
         have hm : j.toNat * s.length ≤ 1000 * 1000 := Nat.mul_le_mul (by omega) z.2.2
         have : sizeLine = 16777216 := by decide
         exact ⟨trivial, by rw [flat_rep]; omega, fun c hc => rx.str.2.2 c (mem_rep hc)⟩
       · rw [if_neg z] at hg; cases hg)
def gTI : D → D → Option EV
  | .tup xs, .int k => if xs ≠ [] ∧ 2 ≤ k ∧ k ≤ 1000 ∧ xs.length ≤ 1000 then some (.val (.tup (List.replicate k.toNat xs).flatten)) else none
  | _, _ => none
theorem RDs.rep {K : PySem.W.Frag} {mg : Str → Option Value} {F : Hp} {ds : List D} {vs : List V} (h : RDs K mg F ds vs) : ∀ n : Nat, RDs K mg F (List.replicate n ds).flatten (List.replicate n vs).flatten
  | 0 => by simp [RDs]
  | n + 1 => by rw [List.replicate_succ, List.flatten_cons, List.replicate_succ, List.flatten_cons]; exact h.append (RDs.rep h n)
theorem opx_mulT : OpX X (binaryOp .Mult) gTI := by
  refine ⟨_, op_repT, fun F H x y d e res Q hl rx ry hg k => ?_⟩
  cases d <;> cases e <;> simp only [gTI] at hg <;> first
    | cases hg; done
    | (rename_i s j
       by_cases z : s ≠ [] ∧ 2 ≤ j ∧ j ≤ 1000 ∧ s.length ≤ 1000
       · rw [if_pos z] at hg
         cases hg
         obtain ⟨a, vs, rfl, h1, h2⟩ := rx.tupF
         exact ⟨_, _, _, rfl, ry.int, sqT_mono hl h1, fun q => z.1 (h2.nil_iff.mp q), z.2.1, z.2.2.1, by rw [← h2.length]; exact z.2.2.2, gq_tup hl k (h2.rep _)⟩
       · rw [if_neg z] at hg; cases hg)
theorem ox_mul : OpX X (binaryOp .Mult) mulD := by
  refine opx_or (opx_or (opx_int (c := mulOk) op_mulG fun i j h => h) opx_mulS (g := fun d e => (gII mulOk (fun i j => i * j) d e).or (gSI d e)) fun d e r h => ?_) opx_mulT fun d e r h => ?_
  · cases q : gII mulOk (fun i j => i * j) d e <;> simp_all
  · cases d <;> cases e <;> simp only [mulD] at h <;> first
      | cases h; done
      | simp_all [gII, gSI, gTI]
theorem ox_fdiv : OpX X (binaryOp .FloorDiv) fdivD := by
  obtain ⟨r, a, b⟩ := opx_int (X := X) (c := fun i j => decide (0 < j ∧ j.natAbs.log2 < 9000)) op_fdivW fun i j h => by simpa [CDivW] using h
  refine ⟨r, a, fun F H x y d e res Q hl rx ry hg k => b F H x y d e res Q hl rx ry ?_ k⟩
  cases d <;> cases e <;> simp_all [fdivD, gII]
theorem ox_mod : OpX X (binaryOp .Mod) modD := by
  obtain ⟨r, a, b⟩ := opx_int (X := X) (c := fun i j => decide (0 < j)) op_mod fun i j h => by simpa using h
  refine ⟨r, a, fun F H x y d e res Q hl rx ry hg k => b F H x y d e res Q hl rx ry ?_ k⟩
  cases d <;> cases e <;> simp_all [modD, gII]
theorem ox_pow : OpX X (binaryOp .Pow) powD := by
  obtain ⟨r, a, b⟩ := opx_int (X := X) (c := powOk) op_powG fun i j h => powOk_iff h
  refine ⟨r, a, fun F H x y d e res Q hl rx ry hg k => b F H x y d e res Q hl rx ry ?_ k⟩
  cases d <;> cases e <;> simp_all [powD, gII]
variable {a b : Expr} {pos : Pos} {ma mb : M}
theorem ve_op {op : Operator} {g : D → D → Option EV} (h : OpX X (binaryOp op) g) (ha : VE X a ma) (hb : VE X b mb) : VE X (.BinOp a op b pos) (mBin g ma mb) := by
  obtain ⟨r, h1, h2⟩ := h
  exact ve_bin h1 h2 ha hb
end
end VS

set_option Elab.async false
set_option linter.all false
set_option maxRecDepth 100000
set_option maxHeartbeats 4000000
namespace VS
open PySem L2 PyProof.Rows

/-! ### data as PyData; == -/
mutual
def toPy : D → PyData
  | .non => .none
  | .bl b => .bool b
  | .int i => .int i
  | .str s => .str ⟨s.toArray⟩
  | .tup xs => .tuple (toPys xs)
  | .lst xs => .list (toPys xs)
  | .dict _ => .none
  | .set _ => .none
  | .fn _ => .none
  | .ty _ => .none
  | .obj _ _ => .none
def toPys : List D → List PyData
  | [] => []
  | x :: xs => toPy x :: toPys xs
end
/-- plain data, no deeper than n -/
def dpt : Nat → D → Bool
  | _, .non => true
  | _, .bl _ => true
  | _, .int _ => true
  | _, .str _ => true
  | n + 1, .tup xs => xs.all (dpt n)
  | n + 1, .lst xs => xs.all (dpt n)
  | _, _ => false
mutual
def beq : D → D → Bool
  | .non, .non => true
  | .bl a, .bl b => a == b
  | .bl a, .int j => (if a then 1 else 0) == j
  | .int i, .bl b => i == (if b then 1 else 0)
  | .int i, .int j => i == j
  | .str s, .str t => s == t
  | .lst xs, .lst ys => beqs xs ys
  | .tup xs, .tup ys => beqs xs ys
  | _, _ => false
def beqs : List D → List D → Bool
  | [], [] => true
  | x :: xs, y :: ys => beq x y && beqs xs ys
  | _, _ => false
end
theorem toPys_len : ∀ xs : List D, (toPys xs).length = xs.length
  | [] => by simp [toPys]
  | x :: xs => by simp [toPys, toPys_len xs]
section
variable {K : PySem.W.Frag} {mg : Str → Option Value} {F H : Hp}
mutual
theorem RD.dp (h : Same F H) : ∀ (n : Nat) (d : D) (v : V), RD K mg F d v → dpt n d = true → Dp K H v (toPy d)
  | _, .non, v, r, _ => by simp only [RD] at r; subst r; simp only [toPy]; exact .non
  | _, .bl b, v, r, _ => by simp only [RD] at r; subst r; simp only [toPy]; exact .bl b
  | _, .int i, v, r, _ => by simp only [RD] at r; subst r; simp only [toPy]; exact .int i
  | _, .str s, v, r, _ => by simp only [RD] at r; rw [r.1]; simp only [toPy]; exact .str _
  | n + 1, .tup xs, v, r, e => by
    simp only [RD] at r
    obtain ⟨a, vs, rfl, h1, h2⟩ := r
    simp only [toPy]
    exact .tup (sqT_mono h h1) (RDs.dp h n xs vs h2 (by simpa only [dpt] using e))
  | n + 1, .lst xs, v, r, e => by
    simp only [RD] at r
    obtain ⟨a, vs, rfl, h1, h2⟩ := r
    simp only [toPy]
    exact .lst (h.seq h1) (RDs.dp h n xs vs h2 (by simpa only [dpt] using e))
  | 0, .tup xs, v, r, e => by simp [dpt] at e
  | 0, .lst xs, v, r, e => by simp [dpt] at e
  | n, .dict _, v, r, e => by cases n <;> simp [dpt] at e
  | n, .set _, v, r, e => by cases n <;> simp [dpt] at e
  | n, .fn _, v, r, e => by cases n <;> simp [dpt] at e
  | n, .ty _, v, r, e => by cases n <;> simp [dpt] at e
  | n, .obj _ _, v, r, e => by cases n <;> simp [dpt] at e
theorem RDs.dp (h : Same F H) : ∀ (n : Nat) (ds : List D) (vs : List V), RDs K mg F ds vs → ds.all (dpt n) = true → DpAll K H vs (toPys ds)
  | n, [], vs, r, _ => by simp only [RDs] at r; subst r; simp only [toPys]; exact .nil
  | n, d :: ds, vs, r, e => by
    simp only [RDs] at r
    obtain ⟨v, q, rfl, h1, h2⟩ := r
    simp only [List.all_cons, Bool.and_eq_true] at e
    simp only [toPys]
    exact .cons (RD.dp h n d v h1 e.1) (RDs.dp h n ds q h2 e.2)
end
mutual
theorem RD.lay : ∀ (n : Nat) (d : D) (v : V), RD K mg F d v → dpt n d = true → (toPy d).canLay0 = true ∧ (toPy d).depth ≤ n
  | _, .non, v, r, _ => by simp only [toPy]; exact ⟨by simp only [PyData.canLay0], by simp [PyData.depth]⟩
  | _, .bl b, v, r, _ => by simp only [toPy]; exact ⟨by simp only [PyData.canLay0], by simp [PyData.depth]⟩
  | _, .int i, v, r, _ => by simp only [toPy]; exact ⟨by simp only [PyData.canLay0], by simp [PyData.depth]⟩
  | _, .str s, v, r, _ => by
    simp only [RD] at r
    simp only [toPy]
    refine ⟨?_, by simp [PyData.depth]⟩
    simp only [PyData.canLay0, PyData.strOk]
    have := r.2.2
    simpa using this
  | n + 1, .tup xs, v, r, e => by
    simp only [RD] at r
    obtain ⟨a, vs, rfl, h1, h2⟩ := r
    have := RDs.lay n xs vs h2 (by simpa only [dpt] using e)
    simp only [toPy, PyData.canLay0, PyData.depth]
    exact ⟨this.1, by omega⟩
  | n + 1, .lst xs, v, r, e => by
    simp only [RD] at r
    obtain ⟨a, vs, rfl, h1, h2⟩ := r
    have := RDs.lay n xs vs h2 (by simpa only [dpt] using e)
    simp only [toPy, PyData.canLay0, PyData.depth]
    exact ⟨this.1, by omega⟩
  | 0, .tup xs, v, r, e => by simp [dpt] at e
  | 0, .lst xs, v, r, e => by simp [dpt] at e
  | n, .dict _, v, r, e => by cases n <;> simp [dpt] at e
  | n, .set _, v, r, e => by cases n <;> simp [dpt] at e
  | n, .fn _, v, r, e => by cases n <;> simp [dpt] at e
  | n, .ty _, v, r, e => by cases n <;> simp [dpt] at e
  | n, .obj _ _, v, r, e => by cases n <;> simp [dpt] at e
theorem RDs.lay : ∀ (n : Nat) (ds : List D) (vs : List V), RDs K mg F ds vs → ds.all (dpt n) = true → PyData.canLayAll0 (toPys ds) = true ∧ PyData.depthAll (toPys ds) ≤ n
  | n, [], vs, r, _ => by simp only [toPys]; exact ⟨by simp only [PyData.canLayAll0], by simp [PyData.depthAll]⟩
  | n, d :: ds, vs, r, e => by
    simp only [RDs] at r
    obtain ⟨v, q, rfl, h1, h2⟩ := r
    simp only [List.all_cons, Bool.and_eq_true] at e
    have a := RD.lay n d v h1 e.1
    have b := RDs.lay n ds q h2 e.2
    simp only [toPys, PyData.canLayAll0, PyData.depthAll, a.1, b.1, Bool.and_self]
    exact ⟨trivial, by omega⟩
end
theorem RP.dp {n : Nat} {d : D} {v : V} (h : Same F H) (r : RP K mg F H d v) (e : dpt n d = true) (hn : n ≤ 64) : Dp K H v (toPy d) ∧ SeqAt.shaped (toPy d) = true := by
  have fin : ∀ F', Same F' H → RD K mg F' d v → Dp K H v (toPy d) ∧ SeqAt.shaped (toPy d) = true := fun F' h' r' => by
    have a := RD.lay n d v r' e
    refine ⟨RD.dp h' n d v r' e, ?_⟩
    unfold SeqAt.shaped
    rw [a.1, Bool.true_and, decide_eq_true (Nat.le_trans a.2 hn)]
  rcases r with r | ⟨a, rfl, r⟩
  · exact fin F h r
  · exact fin _ (plus_le h) r.frozen
end
theorem arr_beq (s t : List Nat) : ((⟨s.toArray⟩ : Str) == ⟨t.toArray⟩) = (s == t) := by
  rw [Bool.beq_eq_decide_eq, Bool.beq_eq_decide_eq]
  congr 1
  simp
mutual
theorem eqv_beq : ∀ (n m : Nat) (d e : D), dpt n d = true → dpt m e = true → PyData.eqv (toPy d) (toPy e) = beq d e
  | n, m, .non, e, h1, h2 => by cases e <;> cases m <;> simp [dpt] at h2 <;> simp only [toPy, PyData.eqv, beq]
  | n, m, .bl _, e, h1, h2 => by cases e <;> cases m <;> simp [dpt] at h2 <;> simp only [toPy, PyData.eqv, beq]
  | n, m, .int _, e, h1, h2 => by cases e <;> cases m <;> simp [dpt] at h2 <;> simp only [toPy, PyData.eqv, beq]
  | n, m, .str _, e, h1, h2 => by cases e <;> cases m <;> simp [dpt] at h2 <;> simp only [toPy, PyData.eqv, beq, arr_beq]
  | n, m, .tup xs, e, h1, h2 => by
    cases n with
    | zero => simp [dpt] at h1
    | succ n =>
      cases e with
      | tup ys =>
        cases m with
        | zero => simp [dpt] at h2
        | succ m =>
          simp only [toPy, PyData.eqv, beq]
          exact eqv_beqs n m xs ys (by simpa only [dpt] using h1) (by simpa only [dpt] using h2)
      | _ => cases m <;> simp [dpt] at h2 <;> simp only [toPy, PyData.eqv, beq]
  | n, m, .lst xs, e, h1, h2 => by
    cases n with
    | zero => simp [dpt] at h1
    | succ n =>
      cases e with
      | lst ys =>
        cases m with
        | zero => simp [dpt] at h2
        | succ m =>
          simp only [toPy, PyData.eqv, beq]
          exact eqv_beqs n m xs ys (by simpa only [dpt] using h1) (by simpa only [dpt] using h2)
      | _ => cases m <;> simp [dpt] at h2 <;> simp only [toPy, PyData.eqv, beq]
  | n, m, .dict _, e, h1, h2 => by cases n <;> simp [dpt] at h1
  | n, m, .set _, e, h1, h2 => by cases n <;> simp [dpt] at h1
  | n, m, .fn _, e, h1, h2 => by cases n <;> simp [dpt] at h1
  | n, m, .ty _, e, h1, h2 => by cases n <;> simp [dpt] at h1
  | n, m, .obj _ _, e, h1, h2 => by cases n <;> simp [dpt] at h1
theorem eqv_beqs : ∀ (n m : Nat) (ds es : List D), ds.all (dpt n) = true → es.all (dpt m) = true → PyData.eqvAll (toPys ds) (toPys es) = beqs ds es
  | n, m, [], es, h1, h2 => by cases es <;> simp only [toPys, PyData.eqvAll, beqs]
  | n, m, d :: ds, es, h1, h2 => by
    cases es with
    | nil => simp only [toPys, PyData.eqvAll, beqs]
    | cons e es =>
      simp only [List.all_cons, Bool.and_eq_true] at h1 h2
      simp only [toPys, PyData.eqvAll, beqs]
      rw [eqv_beq n m d e h1.1 h2.1, eqv_beqs n m ds es h1.2 h2.2]
end
def eqD (d e : D) : Option Bool := if dpt 60 d = true ∧ dpt 60 e = true then some (beq d e) else none
def neD (d e : D) : Option Bool := if dpt 60 d = true ∧ dpt 60 e = true then some (!beq d e) else none
/-- a comparison by data -/
def OpC (X : Cx) (f : Value → Value → Sem Value) (g : D → D → Option Bool) : Prop := ∃ r, OpR X f r ∧ OpB X.K X.mg r g
section
variable {X : Cx}
theorem opc_or {f : Value → Value → Sem Value} {g g1 g2 : D → D → Option Bool} (h1 : OpC X f g1) (h2 : OpC X f g2) (h : ∀ d e r, g d e = some r → g1 d e = some r ∨ g2 d e = some r) : OpC X f g := by
  obtain ⟨r1, a1, b1⟩ := h1
  obtain ⟨r2, a2, b2⟩ := h2
  refine ⟨_, a1.or a2, fun F H x y d e res Q hl rx ry hg k => ?_⟩
  rcases h d e res hg with z | z
  · exact .inl (b1 F H x y d e res Q hl rx ry z k)
  · exact .inr (b2 F H x y d e res Q hl rx ry z k)
theorem opc_imp {f : Value → Value → Sem Value} {g g1 : D → D → Option Bool} (h1 : OpC X f g1) (h : ∀ d e r, g d e = some r → g1 d e = some r) : OpC X f g := by
  obtain ⟨r1, a1, b1⟩ := h1
  exact ⟨r1, a1, fun F H x y d e res Q hl rx ry hg k => b1 F H x y d e res Q hl rx ry (h d e res hg) k⟩
theorem oc_eq (hu : X.A.units + 64 < cLine) : OpC X (compareOp .Eq) eqD := by
  refine ⟨_, op_eqD hu, fun F H x y d e res Q hl rx ry hg k => ?_⟩
  unfold eqD at hg
  by_cases z : dpt 60 d = true ∧ dpt 60 e = true
  · rw [if_pos z] at hg
    cases hg
    obtain ⟨a1, a2⟩ := rx.dp hl z.1 (by decide)
    obtain ⟨b1, b2⟩ := ry.dp hl z.2 (by decide)
    exact ⟨_, _, a1, b1, a2, b2, by rw [eqv_beq 60 60 d e z.1 z.2]; exact k⟩
  · rw [if_neg z] at hg; cases hg
theorem oc_ne (hu : X.A.units + 64 < cLine) : OpC X (compareOp .NotEq) neD := by
  refine ⟨_, op_neD hu, fun F H x y d e res Q hl rx ry hg k => ?_⟩
  unfold neD at hg
  by_cases z : dpt 60 d = true ∧ dpt 60 e = true
  · rw [if_pos z] at hg
    cases hg
    obtain ⟨a1, a2⟩ := rx.dp hl z.1 (by decide)
    obtain ⟨b1, b2⟩ := ry.dp hl z.2 (by decide)
    exact ⟨_, _, a1, b1, a2, b2, by rw [eqv_beq 60 60 d e z.1 z.2]; exact k⟩
  · rw [if_neg z] at hg; cases hg
/-! ### < <= > >= -/
def cII (f : Int → Int → Bool) : D → D → Option Bool
  | .int i, .int j => some (f i j)
  | _, _ => none
theorem opc_int {f : Value → Value → Sem Value} {g : Int → Int → Bool} (h : OpR X f (rI0 fun i j => .bl (g i j))) : OpC X f (cII g) := by
  refine ⟨_, h, fun F H x y d e res Q hl rx ry hg k => ?_⟩
  cases d <;> cases e <;> simp only [cII] at hg <;> first
    | cases hg; done
    | (cases hg; exact ⟨_, _, rx.int, ry.int, k⟩)
def cSS (f : List Nat → List Nat → Bool) : D → D → Option Bool
  | .str i, .str j => some (f i j)
  | _, _ => none
theorem opc_str {f : Value → Value → Sem Value} {g : List Nat → List Nat → Bool} (h : OpR X f (fun x y H Q => ∃ i j, x = .str i ∧ y = .str j ∧ Q (.bl (g i.cps.toList j.cps.toList)) H)) : OpC X f (cSS g) := by
  refine ⟨_, h, fun F H x y d e res Q hl rx ry hg k => ?_⟩
  cases d <;> cases e <;> simp only [cSS] at hg <;> first
    | cases hg; done
    | (cases hg; exact ⟨_, _, rx.str.1, ry.str.1, by simpa using k⟩)
/-- tuples of ints -/
def intsOf : List D → Option (List Int)
  | [] => some []
  | .int i :: r => (intsOf r).map (i :: ·)
  | _ => none
theorem intsOf_map : ∀ {ds : List D} {ns : List Int}, intsOf ds = some ns → ds = ns.map D.int
  | [], ns, h => by simp only [intsOf] at h; cases h; rfl
  | d :: r, ns, h => by
    cases d <;> simp only [intsOf] at h <;> first
      | cases h; done
      | (obtain ⟨ms, h1, rfl⟩ := omap h
         rw [intsOf_map h1]; rfl)
theorem intsOf_of (ns : List Int) : intsOf (ns.map D.int) = some ns := by
  induction ns with
  | nil => rfl
  | cons n ns ih => simp only [List.map_cons, intsOf, ih, Option.map_some]
def cTT : D → D → Option Bool
  | .tup xs, .tup ys => (intsOf xs).bind fun ns => (intsOf ys).map fun ms => HT.lexLt ns ms
  | _, _ => none
theorem opc_ltT (hu : X.A.units < cLine) : OpC X (compareOp .Lt) cTT := by
  refine ⟨_, op_ltT hu, fun F H x y d e res Q hl rx ry hg k => ?_⟩
  cases d <;> cases e <;> simp only [cTT] at hg <;> first
    | cases hg; done
    | (obtain ⟨ns, h1, hg⟩ := obind hg
       obtain ⟨ms, h2, hg⟩ := omap hg
       obtain ⟨a, vs, rfl, h3, h4⟩ := rx.tup hl
       obtain ⟨b, ws, rfl, h5, h6⟩ := ry.tup hl
       rw [intsOf_map h1] at h4
       rw [intsOf_map h2] at h6
       rw [h4.ints] at h3
       rw [h6.ints] at h5
       exact ⟨_, _, ns, ms, rfl, rfl, h3, h5, by rw [hg]; exact k⟩)
def ltD : D → D → Option Bool
  | .int i, .int j => some (decide (i < j))
  | .str s, .str t => some (decide (s < t))
  | .tup xs, .tup ys => (intsOf xs).bind fun ns => (intsOf ys).map fun ms => HT.lexLt ns ms
  | _, _ => none
def leD : D → D → Option Bool
  | .int i, .int j => some (decide (i ≤ j))
  | .str s, .str t => some (!decide (t < s))
  | _, _ => none
def gtD : D → D → Option Bool
  | .int i, .int j => some (decide (j < i))
  | .str s, .str t => some (decide (t < s))
  | _, _ => none
def geD : D → D → Option Bool
  | .int i, .int j => some (decide (j ≤ i))
  | .str s, .str t => some (!decide (s < t))
  | _, _ => none
theorem oc_lt (hu : X.A.units < cLine) : OpC X (compareOp .Lt) ltD := by
  refine opc_or (opc_or (opc_int op_lt) (opc_str (g := fun s t => decide (s < t)) op_lt_str) (g := fun d e => (cII (fun i j => decide (i < j)) d e).or (cSS (fun s t => decide (s < t)) d e)) fun d e r h => ?_) (opc_ltT hu) fun d e r h => ?_
  · cases q : cII (fun i j => decide (i < j)) d e <;> simp_all
  · cases d <;> cases e <;> simp only [ltD] at h <;> first
      | cases h; done
      | simp_all [cII, cSS, cTT]
theorem oc_le : OpC X (compareOp .LtE) leD := by
  refine opc_or (opc_int op_le) (opc_str (g := fun s t => !decide (t < s)) op_le_str) fun d e r h => ?_
  cases d <;> cases e <;> simp only [leD] at h <;> first
    | cases h; done
    | simp_all [cII, cSS]
theorem oc_gt : OpC X (compareOp .Gt) gtD := by
  refine opc_or (opc_int op_gt) (opc_str (g := fun s t => decide (t < s)) op_gt_str) fun d e r h => ?_
  cases d <;> cases e <;> simp only [gtD] at h <;> first
    | cases h; done
    | simp_all [cII, cSS]
theorem oc_ge : OpC X (compareOp .GtE) geD := by
  refine opc_or (opc_int op_ge) (opc_str (g := fun s t => !decide (s < t)) op_ge_str) fun d e r h => ?_
  cases d <;> cases e <;> simp only [geD] at h <;> first
    | cases h; done
    | simp_all [cII, cSS]
/-! ### is -/
def isD : D → D → Option Bool
  | .bl a, .bl b => some (decide (a = b))
  | .non, .non => some true
  | .bl _, .non => some false
  | .int _, .non => some false
  | .str _, .non => some false
  | .tup _, .non => some false
  | .lst _, .non => some false
  | .dict _, .non => some false
  | .fn _, .non => some false
  | _, _ => none
def notD (g : D → D → Option Bool) : D → D → Option Bool := fun d e => (g d e).map (!·)
theorem RP.nonIff {K : PySem.W.Frag} {mg : Str → Option Value} {F H : Hp} {d : D} {v : V} {b : Bool} (r : RP K mg F H d v) (h : isD d .non = some b) : decide (v = .non) = b := by
  rcases r with r | ⟨a, rfl, r⟩
  · cases d <;> simp only [isD] at h <;> first
      | (cases h; done)
      | (cases h
         simp only [RD] at r
         first
           | (rw [r]; rfl)
           | (rw [r.1]; rfl)
           | (obtain ⟨a, vs, rfl, _⟩ := r; rfl)
           | (obtain ⟨a, rfl, _⟩ := r; rfl))
  · obtain ⟨_, r⟩ := r
    cases d <;> simp only at r <;> simp only [isD] at h <;> cases h <;> rfl
theorem oc_is : OpC X (compareOp .Is) isD := by
  refine ⟨_, op_isN.or op_isBl, fun F H x y d e res Q hl rx ry hg k => ?_⟩
  cases e with
  | non => exact .inl ⟨ry.non, by rw [rx.nonIff hg]; exact k⟩
  | bl b =>
    cases d <;> simp only [isD] at hg <;> first
      | cases hg; done
      | (cases hg; exact .inr ⟨_, _, rx.bl, ry.bl, k⟩)
  | _ => cases d <;> simp only [isD] at hg <;> cases hg
theorem oc_isNot : OpC X (compareOp .IsNot) (notD isD) := by
  refine ⟨_, op_notN.or op_notBl, fun F H x y d e res Q hl rx ry hg k => ?_⟩
  obtain ⟨b, hg', rfl⟩ := omap hg; clear hg; have hg := hg'
  cases e with
  | non => exact .inl ⟨ry.non, by rw [rx.nonIff hg]; exact k⟩
  | bl b =>
    cases d <;> simp only [isD] at hg <;> first
      | cases hg; done
      | (cases hg; exact .inr ⟨_, _, rx.bl, ry.bl, k⟩)
  | _ => cases d <;> simp only [isD] at hg <;> cases hg
/-! ### in -/
def flatD : D → Bool
  | .non => true
  | .bl _ => true
  | .int _ => true
  | .str _ => true
  | _ => false
def inD : D → D → Option Bool
  | .str [c], .str t => some (decide (c ∈ t))
  | d, .lst ds => if dpt 60 d = true ∧ dpt 60 (.lst ds) = true then some (ds.any fun z => beq z d) else none
  | d, .tup ds => if flatD d = true ∧ ds.all flatD = true then some (ds.any fun z => beq z d) else none
  | _, _ => none
theorem any_beq (d : D) (n : Nat) (hd : dpt n d = true) : ∀ (ds : List D) (m : Nat), ds.all (dpt m) = true → ((toPys ds).any fun z => PyData.eqv z (toPy d)) = ds.any fun z => beq z d
  | [], m, _ => by simp [toPys]
  | x :: xs, m, h => by
    simp only [List.all_cons, Bool.and_eq_true] at h
    simp only [toPys, List.any_cons]
    rw [eqv_beq m n x d h.1 hd, any_beq d n hd xs m h.2]
theorem flat_V {K : PySem.W.Frag} {mg : Str → Option Value} {F : Hp} {d : D} {v : V} (r : RD K mg F d v) (h : flatD d = true) : flatV v = true := by
  cases d <;> simp only [flatD] at h <;> simp only [RD] at r <;> first
    | (cases h; done)
    | (rw [r]; rfl)
    | (rw [r.1]; rfl)
theorem eqV_beq {K : PySem.W.Frag} {mg : Str → Option Value} {F : Hp} {d e : D} {v u : V} (r : RD K mg F d v) (s : RD K mg F e u) (h : flatD d = true) (g : flatD e = true) : eqV v u = beq d e := by
  cases d <;> simp only [flatD] at h <;> simp only [RD] at r <;> cases e <;> simp only [flatD] at g <;> simp only [RD] at s <;> first
    | (cases h; done)
    | (cases g; done)
    | (first | rw [r.1] | rw [r]) <;> (first | rw [s.1] | rw [s]) <;> simp only [eqV, beq, arr_beq]
theorem inV_beq {K : PySem.W.Frag} {mg : Str → Option Value} {F : Hp} {d : D} {v : V} (r : RD K mg F d v) (h : flatD d = true) : ∀ {ds : List D} {vs : List V}, RDs K mg F ds vs → ds.all flatD = true → vs.all flatV = true ∧ inV v vs = ds.any fun z => beq z d
  | [], vs, q, _ => by simp only [RDs] at q; subst q; exact ⟨rfl, rfl⟩
  | e :: ds, vs, q, g => by
    simp only [RDs] at q
    obtain ⟨u, w, rfl, h1, h2⟩ := q
    simp only [List.all_cons, Bool.and_eq_true] at g
    obtain ⟨i1, i2⟩ := inV_beq r h h2 g.2
    refine ⟨by simp only [List.all_cons, flat_V h1 g.1, i1, Bool.and_self], ?_⟩
    unfold inV at i2 ⊢
    rw [List.any_cons, List.any_cons, i2, eqV_beq h1 r g.1 h]
theorem RP.flat {K : PySem.W.Frag} {mg : Str → Option Value} {F H : Hp} {d : D} {v : V} (r : RP K mg F H d v) (h : flatD d = true) : RD K mg F d v := by
  rcases r with r | ⟨a, _, _, r⟩
  · exact r
  · cases d <;> simp only at r <;> simp [flatD] at h
theorem in_cases {d e : D} {b : Bool} (h : inD d e = some b) : (∃ c t, d = .str [c] ∧ e = .str t ∧ b = decide (c ∈ t)) ∨
    (∃ ds, e = .lst ds ∧ dpt 60 d = true ∧ dpt 60 (.lst ds) = true ∧ b = ds.any fun z => beq z d) ∨ ∃ ds, e = .tup ds ∧ flatD d = true ∧ ds.all flatD = true ∧ b = ds.any fun z => beq z d := by
  unfold inD at h
  split at h
  · exact .inl ⟨_, _, rfl, rfl, (Option.some.inj h).symm⟩
  · split at h
    · rename_i ds z
      exact .inr (.inl ⟨ds, rfl, z.1, z.2, (Option.some.inj h).symm⟩)
    · cases h
  · split at h
    · rename_i ds z
      exact .inr (.inr ⟨ds, rfl, z.1, z.2, (Option.some.inj h).symm⟩)
    · cases h
  · cases h
theorem oc_in (hu : X.A.units + 65 < cLine) : OpC X (compareOp .In) inD := by
  refine ⟨_, op_in_sign.or ((op_inD hu).or op_in_seq), fun F H x y d e res Q hl rx ry hg k => ?_⟩
  rcases in_cases hg with ⟨c, t, rfl, rfl, rfl⟩ | ⟨ds, rfl, z1, z2, rfl⟩ | ⟨ds, rfl, z1, z2, rfl⟩
  · exact .inl ⟨c, _, rx.str.1, ry.str.1, by simpa using k⟩
  · obtain ⟨a1, a2⟩ := rx.dp hl z1 (by decide)
    obtain ⟨b1, b2⟩ := ry.dp hl z2 (by decide)
    simp only [toPy] at b1 b2
    exact .inr (.inl ⟨_, _, a1, b1, a2, b2, by rw [any_beq d 60 z1 ds 59 (by simpa only [dpt] using z2)]; exact k⟩)
  · obtain ⟨a, vs, rfl, h1, h2⟩ := ry.tup hl
    obtain ⟨i1, i2⟩ := inV_beq (rx.flat z1) z1 h2 z2
    exact .inr (.inr ⟨a, vs, rfl, .inr h1, flat_V (rx.flat z1) z1, i1, by rw [i2]; exact k⟩)
theorem oc_notIn (hu : X.A.units + 65 < cLine) : OpC X (compareOp .NotIn) (notD inD) := by
  refine ⟨_, op_notIn_sign.or ((op_notInD hu).or op_notIn_seq), fun F H x y d e res Q hl rx ry hg k => ?_⟩
  obtain ⟨b, hg', rfl⟩ := omap hg; clear hg; have hg := hg'
  rcases in_cases hg with ⟨c, t, rfl, rfl, rfl⟩ | ⟨ds, rfl, z1, z2, rfl⟩ | ⟨ds, rfl, z1, z2, rfl⟩
  · exact .inl ⟨c, _, rx.str.1, ry.str.1, by simpa using k⟩
  · obtain ⟨a1, a2⟩ := rx.dp hl z1 (by decide)
    obtain ⟨b1, b2⟩ := ry.dp hl z2 (by decide)
    simp only [toPy] at b1 b2
    exact .inr (.inl ⟨_, _, a1, b1, a2, b2, by rw [any_beq d 60 z1 ds 59 (by simpa only [dpt] using z2)]; exact k⟩)
  · obtain ⟨a, vs, rfl, h1, h2⟩ := ry.tup hl
    obtain ⟨i1, i2⟩ := inV_beq (rx.flat z1) z1 h2 z2
    exact .inr (.inr ⟨a, vs, rfl, .inr h1, flat_V (rx.flat z1) z1, i1, by rw [i2]; exact k⟩)
variable {a b c : Expr} {pos : Pos} {ma mb mc : M}
theorem vt_op {op : CmpOp} {g : D → D → Option Bool} (h : OpC X (compareOp op) g) (ha : VE X a ma) (hb : VE X b mb) (hm : behindInMarks op b = false := by first | exact nomark _ (by decide) (by decide) | rfl) : VT X (.Compare a [op] [b] pos) (mCmp g ma mb) := by
  obtain ⟨r, h1, h2⟩ := h
  exact vt_cmp h1 h2 ha hb hm
theorem ve_opc {op : CmpOp} {g : D → D → Option Bool} (h : OpC X (compareOp op) g) (ha : VE X a ma) (hb : VE X b mb) (hm : behindInMarks op b = false := by first | exact nomark _ (by decide) (by decide) | rfl) : VE X (.Compare a [op] [b] pos) (mOfB (mCmp g ma mb)) := by
  obtain ⟨r, h1, h2⟩ := h
  exact ve_cmp h1 h2 ha hb hm
/-! ### a op b op' c -/
def mChain (g g' : D → D → Option Bool) (a b c : M) : MB := fun Γ =>
  (a Γ).bind fun p => (b p.2).bind fun q => (peek q.2 p.1).bind fun x => (peek q.2 q.1).bind fun y => (g x y).bind fun k =>
    if k = true then (c q.2).bind fun r => (peek r.2 q.1).bind fun y' => (peek r.2 r.1).bind fun z => (g' y' z).map fun k' => (k', r.2) else some (false, q.2)
theorem chain_run {r r' : R2} {g g' : D → D → Option Bool} (hv : OpB X.K X.mg r g) (hv' : OpB X.K X.mg r' g') {σ : L2.St} {H : Hp} {Q : V → Hp → Prop} {ρ : List Addr} {O : Addr → Prop} {Γ Γ' : VEnv} {F : Hp} {k : Bool} (R : Rep X.K X.mg ρ O Γ σ H F)
    (e : mChain g g' ma mb mc Γ = some (k, Γ')) (h : ∀ H' F', Stp X.K X.mg ρ O Γ' σ H F H' F' → Cells Γ Γ' → Q (.bl k) H') : tChain r r' (tV X.K X.mg ma) (tV X.K X.mg mb) (tV X.K X.mg mc) σ H Q := by
  obtain ⟨⟨ra, Γ1⟩, e1, e⟩ := obind e
  obtain ⟨⟨rb, Γ2⟩, e2, e⟩ := obind e
  obtain ⟨dx, e3, e⟩ := obind e
  obtain ⟨dy, e4, e⟩ := obind e
  obtain ⟨k1, e5, e⟩ := obind e
  refine seq2 R e1 e2 fun x y H' F' s c rx ry => ?_
  have ry' := ry.weakO orO_l
  refine hv F' H' x y dx dy k1 _ s.rep.le (peek_ok s.rep rx e3) (peek_ok s.rep ry' e4) e5 ⟨k1, rfl, ?_⟩
  cases k1 with
  | false => cases e; exact iteF (h H' F' s c)
  | true =>
    refine iteT ?_
    obtain ⟨⟨rc, Γ3⟩, e6, e⟩ := obind e
    obtain ⟨dy', e7, e⟩ := obind e
    obtain ⟨dz, e8, e⟩ := obind e
    obtain ⟨k2, e9, e'⟩ := omap e
    cases e'
    refine tV_run (s.rep.pend ry') e6 fun z H2 F2 s2 c2 rz => ?_
    refine hv' F2 H2 y z dy' dz k _ s2.rep.le (peek_ok (s2.rep.weakO orO_l) (ry'.later s.rep s2.rep s2.fs s2.op c2) e7) (peek_ok s2.rep rz e8) e9 ?_
    exact h H2 F2 (s.trans (s2.weakO orO_l)) (c.trans c2)
theorem vt_chain {op op' : CmpOp} {g g' : D → D → Option Bool} (h : OpC X (compareOp op) g) (h' : OpC X (compareOp op') g') (ha : VE X a ma) (hb : VE X b mb) (hc : VE X c mc) (hm : lastMarks [op, op'] [b, c] = false := by with_unfolding_all rfl) :
    VT X (.Compare a [op, op'] [b, c] pos) (mChain g g' ma mb mc) := by
  obtain ⟨r, h1, h2⟩ := h
  obtain ⟨r', h1', h2'⟩ := h'
  refine pt_of (pt_chain h1 h1' ha hb hc hm) fun σ H Q h => ?_
  obtain ⟨ρ, O, Γ, F, res, Γ', R, e, k⟩ := h
  exact chain_run h2 h2' R e fun H' F' s c => ⟨res, rfl, k H' F' s c⟩
theorem ve_chain {op op' : CmpOp} {g g' : D → D → Option Bool} (h : OpC X (compareOp op) g) (h' : OpC X (compareOp op') g') (ha : VE X a ma) (hb : VE X b mb) (hc : VE X c mc) (hm : lastMarks [op, op'] [b, c] = false := by with_unfolding_all rfl) :
    VE X (.Compare a [op, op'] [b, c] pos) (mOfB (mChain g g' ma mb mc)) := by
  obtain ⟨r, h1, h2⟩ := h
  obtain ⟨r', h1', h2'⟩ := h'
  refine pe_of (pe_chain h1 h1' ha hb hc hm) fun σ H Q h => ?_
  obtain ⟨ρ, O, Γ, F, res, Γ', R, e, k⟩ := h
  obtain ⟨⟨b1, Γ1⟩, e9, e0⟩ := omap e
  cases e0
  exact chain_run h2 h2' R e9 fun H' F' s c => k _ H' F' s c (by simp only [RepEV, RD])
end
end VS

set_option Elab.async false
set_option linter.all false
set_option maxRecDepth 100000
set_option maxHeartbeats 4000000
namespace VS
open PySem L2 PyProof.Rows

/-! ### lists of arguments -/
def frL : List EV → List V → Addr → Prop
  | r :: rs, v :: vs => orO (frs r v) (frL rs vs)
  | _, _ => fun _ => False
def mNil : ML := fun Γ => some ([], Γ)
def mCons (m : M) (ml : ML) : ML := fun Γ => (m Γ).bind fun p => (ml p.2).map fun q => (p.1 :: q.1, q.2)
section
variable {K : PySem.W.Frag} {mg : Str → Option Value} {ρ : List Addr} {O O' : Addr → Prop} {Γ Γ' : VEnv} {σ σ' : L2.St} {H F H' F' : Hp} {r : EV} {v : V} {d : D} {a : Addr}
theorem Rep.pendL (R : Rep K mg ρ O Γ σ H F) : ∀ {rs : List EV} {vs : List V} {O1 : Addr → Prop}, RepL K mg ρ Γ σ H F O1 rs vs → Rep K mg ρ (orO O (frL rs vs)) Γ σ H F := by
  intro rs
  induction rs generalizing R O with
  | nil => intro vs O1 h; exact { R with prot := fun a z => z.elim (R.prot a) fun q => by cases vs <;> exact q.elim }
  | cons r rs ih =>
    intro vs O1 h
    simp only [RepL] at h
    obtain ⟨v, ws, rfl, h1, h2⟩ := h
    have h1' : RepEV K mg ρ (fun _ => False) Γ σ H F r v := by
      cases r with
      | fresh d => obtain ⟨p, e1, e2, _, e4⟩ := h1; exact ⟨p, e1, e2, fun z => z, e4⟩
      | _ => exact h1
    have R1 : Rep K mg ρ (orO O (frs r v)) Γ σ H F := by
      refine { R with prot := fun a z => ?_ }
      rcases z with z | z
      · exact R.prot a z
      · exact ((R.weakO (O' := fun _ => False) fun _ q => q.elim).pend h1').prot a (.inr z)
    have R2 := ih R1 h2
    exact R2.weakO fun a z => by
      rcases z with z | z | z
      · exact .inl (.inl z)
      · exact .inl (.inr z)
      · exact .inr z
theorem RepL.later : ∀ {rs : List EV} {vs : List V} {O1 : Addr → Prop}, RepL K mg ρ Γ σ H F O1 rs vs → Rep K mg ρ (orO O' (frL rs vs)) Γ' σ H' F' → Same F F' → (∀ a, frL rs vs a → H' a = H a) → Cells Γ Γ' → RepL K mg ρ Γ' σ H' F' O1 rs vs := by
  intro rs
  induction rs generalizing O' with
  | nil => intro vs O1 h _ _ _ _; exact h
  | cons r rs ih =>
    intro vs O1 h R' hf ho hc
    simp only [RepL] at h ⊢
    obtain ⟨v, ws, rfl, h1, h2⟩ := h
    refine ⟨v, ws, rfl, ?_, ih (O' := O') h2 (R'.weakO fun a z => ?_) hf (fun a z => ho a (.inr z)) hc⟩
    · cases r with
      | val d => exact RD.mono hf _ _ h1
      | fresh d =>
        obtain ⟨p, e1, e2, e3, e4⟩ := h1
        have hp : frL (.fresh d :: rs) (v :: ws) p := .inl e1
        obtain ⟨q1, q2, q3⟩ := R'.prot p (.inr hp)
        exact ⟨p, e1, e2.stay hf q1 (ho p hp), e3, q3⟩
      | slot i => exact ⟨h1.1, trivial⟩
      | par k => exact h1
    · rcases z with z | z
      · exact .inl z
      · exact .inr (.inr z)
theorem tL_run {m : ML} {rs : List EV} {Q : List V → Hp → Prop} (R : Rep K mg ρ O Γ σ H F) (e : m Γ = some (rs, Γ'))
    (k : ∀ vs H' F', Stp K mg ρ O Γ' σ H F H' F' → Cells Γ Γ' → RepL K mg ρ Γ' σ H' F' O rs vs → Q vs H') : tL K mg m σ H Q := ⟨ρ, O, Γ, F, rs, Γ', R, e, k⟩
def peekL (Γ : VEnv) : List EV → Option (List D)
  | [] => some []
  | r :: rs => (peek Γ r).bind fun d => (peekL Γ rs).map fun ds => d :: ds
def RPs (K : PySem.W.Frag) (mg : Str → Option Value) (F H : Hp) : List D → List V → Prop
  | [], vs => vs = []
  | d :: ds, vs => ∃ v ws, vs = v :: ws ∧ RP K mg F H d v ∧ RPs K mg F H ds ws
theorem peekL_ok (R : Rep K mg ρ O' Γ σ H F) : ∀ {rs : List EV} {vs : List V} {ds : List D} {O : Addr → Prop}, RepL K mg ρ Γ σ H F O rs vs → peekL Γ rs = some ds → RPs K mg F H ds vs := by
  intro rs
  induction rs with
  | nil => intro vs ds O h e; simp only [RepL] at h; simp only [peekL] at e; cases e; simp only [RPs]; exact h
  | cons r rs ih =>
    intro vs ds O h e
    simp only [RepL] at h
    obtain ⟨v, ws, rfl, h1, h2⟩ := h
    simp only [peekL] at e
    obtain ⟨d, e1, e⟩ := obind e
    obtain ⟨es, e2, e3⟩ := omap e
    subst e3
    simp only [RPs]
    refine ⟨v, ws, rfl, ?_, ih h2 e2⟩
    have h1' : RepEV K mg ρ (fun _ => False) Γ σ H F r v := by
      cases r with
      | fresh d => obtain ⟨p, q1, q2, _, q4⟩ := h1; exact ⟨p, q1, q2, fun z => z, q4⟩
      | _ => exact h1
    exact peek_ok (R.weakO fun _ q => q.elim) h1' e1
def freezeL : List EV → VEnv → Option (List D × VEnv)
  | [], Γ => some ([], Γ)
  | r :: rs, Γ => (freeze r Γ).bind fun p => (freezeL rs p.2).map fun q => (p.1 :: q.1, q.2)
theorem frL_out : ∀ {rs : List EV} {vs : List V} {O : Addr → Prop}, RepL K mg ρ Γ σ H F O rs vs → ∀ p, frL rs vs p → ¬ O p := by
  intro rs
  induction rs with
  | nil => intro vs O h p z; cases vs <;> exact z.elim
  | cons r rs ih =>
    intro vs O h p z hp
    simp only [RepL] at h
    obtain ⟨v, ws, rfl, h1, h2⟩ := h
    rcases z with z | z
    · cases r with
      | fresh d =>
        obtain ⟨p', e1, e2, e3, _⟩ := h1
        have z' : v = .ref p := z
        rw [e1] at z'; cases z'
        exact e3 hp
      | val d => exact z.elim
      | slot i => exact z.elim
      | par k => exact z.elim
    · exact ih h2 p z (.inl hp)
theorem freezeL_ok : ∀ {rs : List EV} {vs : List V} {ds : List D} {Γ : VEnv} {F : Hp}, Rep K mg ρ O Γ σ H F → RepL K mg ρ Γ σ H F O rs vs → freezeL rs Γ = some (ds, Γ') → ∃ F', Rep K mg ρ O Γ' σ H F' ∧ Same F F' ∧ RDs K mg F' ds vs ∧ Cells Γ Γ' := by
  intro rs
  induction rs with
  | nil =>
    intro vs ds Γ F R h e
    simp only [RepL] at h
    simp only [freezeL] at e
    cases e
    exact ⟨F, R, Same.refl _, by simp only [RDs]; exact h, Cells.refl⟩
  | cons r rs ih =>
    intro vs ds Γ F R h e
    simp only [RepL] at h
    obtain ⟨v, ws, rfl, h1, h2⟩ := h
    simp only [freezeL] at e
    obtain ⟨⟨d, Γ1⟩, e1, e⟩ := obind e
    obtain ⟨⟨es, Γ2⟩, e2, e3⟩ := omap e
    cases e3
    have R1 : Rep K mg ρ (orO O (frL rs ws)) Γ σ H F := R.pendL h2
    have h1' : RepEV K mg ρ (orO O (frL rs ws)) Γ σ H F r v := by
      cases r with
      | fresh d =>
        obtain ⟨p, q1, q2, q3, q4⟩ := h1
        refine ⟨p, q1, q2, fun z => ?_, q4⟩
        rcases z with z | z
        · exact q3 z
        · exact frL_out h2 p z (.inr q1)
      | _ => exact h1
    obtain ⟨F1, R1', s1, rd, c1⟩ := freeze_ok R1 h1' e1
    have h2' : RepL K mg ρ Γ1 σ H F1 O rs ws := by
      have := RepL.later (O' := O) h2 R1' s1 (fun _ _ => rfl) c1
      clear ih e2
      -- weaken the bound on addresses
      have wk : ∀ {rs : List EV} {ws : List V} {O1 O2 : Addr → Prop}, (∀ a, O2 a → O1 a) → RepL K mg ρ Γ1 σ H F1 O1 rs ws → RepL K mg ρ Γ1 σ H F1 O2 rs ws := by
        intro rs
        induction rs with
        | nil => intro ws O1 O2 _ h; exact h
        | cons r rs ih =>
          intro ws O1 O2 hO h
          simp only [RepL] at h ⊢
          obtain ⟨v, us, rfl, a1, a2⟩ := h
          refine ⟨v, us, rfl, a1.weakO hO, ih (fun a z => ?_) a2⟩
          rcases z with z | z
          · exact .inl (hO a z)
          · exact .inr z
      exact wk (fun a z => .inl z) this
    obtain ⟨F2, R2, s2, rds, c2⟩ := ih (R1'.weakO fun a z => .inl z) h2' e2
    refine ⟨F2, R2, s1.trans s2, ?_, c1.trans c2⟩
    simp only [RDs]
    exact ⟨v, ws, rfl, RD.mono s2 _ _ rd, rds⟩
end
section
variable {X : Cx} {e : Expr} {es : List Expr} {m : M} {ml : ML} {pos : Pos}
theorem va_nil : VA X [] mNil := by
  refine pa_of pa_nil fun σ H Q h => ?_
  obtain ⟨ρ, O, Γ, F, rs, Γ', R, e, k⟩ := h
  cases e
  exact k [] H F (Stp.refl R) Cells.refl (by simp only [RepL])
theorem va_cons (ha : VE X e m) (hr : VA X es ml) (hs : starEach (e :: es) X.env = (false, eval e X.env) :: starEach es X.env := by rfl) : VA X (e :: es) (mCons m ml) := by
  refine pa_of (pa_cons ha hr hs) fun σ H Q h => ?_
  obtain ⟨ρ, O, Γ, F, rs, Γ', R, e, k⟩ := h
  obtain ⟨⟨r, Γ1⟩, e1, e⟩ := obind e
  obtain ⟨⟨rs', Γ2⟩, e2, e3⟩ := omap e
  cases e3
  refine tV_run R e1 fun v H1 F1 s1 c1 r1 => ?_
  refine tL_run (s1.rep.pend r1) e2 fun vs H2 F2 s2 c2 r2 => ?_
  refine k (v :: vs) H2 F2 (s1.trans (s2.weakO orO_l)) (c1.trans c2) ?_
  simp only [RepL]
  exact ⟨v, vs, rfl, r1.later s1.rep s2.rep s2.fs s2.op c2, r2⟩
/-! ### displays -/
def mList (ml : ML) : M := fun Γ => (ml Γ).bind fun p => (freezeL p.1 p.2).bind fun q => if q.1.length ≤ sizeLine then some (.fresh (.lst q.1), q.2) else none
def mTup (ml : ML) : M := fun Γ => (ml Γ).bind fun p => (freezeL p.1 p.2).bind fun q => if q.1.length ≤ sizeLine then some (.val (.tup q.1), q.2) else none
theorem ve_list (h : VA X es ml) : VE X (.List es pos) (mList ml) := by
  refine pe_of (pe_lst h) fun σ H Q h => ?_
  obtain ⟨ρ, O, Γ, F, r, Γ', R, e, k⟩ := h
  obtain ⟨⟨rs, Γ1⟩, e1, e⟩ := obind e
  obtain ⟨⟨ds, Γ2⟩, e2, e⟩ := obind e
  refine tL_run R e1 fun vs H1 F1 s1 c1 r1 => ?_
  obtain ⟨F2, R2, s2, rd, c2⟩ := freezeL_ok s1.rep r1 e2
  split at e
  · rename_i hz
    cases e
    have s12 : Stp X.K X.mg ρ O Γ2 σ H F H1 F2 := ⟨R2, s1.fs.trans s2, s1.op⟩
    refine ⟨by rw [← rd.length]; exact hz, fun p hn => ?_⟩
    exact gq_list R2.le (fun v H3 F3 g hr => k v H3 F3 (s12.trans (Stp.grow R2 g)) (c1.trans c2) (res_ev R2 g hr)) rd p hn
  · cases e
theorem ve_tup {x1} (h : VA X es ml) : VE X (.Tuple es x1 pos) (mTup ml) := by
  refine pe_of (pe_tup h) fun σ H Q h => ?_
  obtain ⟨ρ, O, Γ, F, r, Γ', R, e, k⟩ := h
  obtain ⟨⟨rs, Γ1⟩, e1, e⟩ := obind e
  obtain ⟨⟨ds, Γ2⟩, e2, e⟩ := obind e
  refine tL_run R e1 fun vs H1 F1 s1 c1 r1 => ?_
  obtain ⟨F2, R2, s2, rd, c2⟩ := freezeL_ok s1.rep r1 e2
  split at e
  · rename_i hz
    cases e
    have s12 : Stp X.K X.mg ρ O Γ2 σ H F H1 F2 := ⟨R2, s1.fs.trans s2, s1.op⟩
    refine ⟨by rw [← rd.length]; exact hz, fun p hn => ?_⟩
    exact gq_tup R2.le (fun v H3 F3 g hr => k v H3 F3 (s12.trans (Stp.grow R2 g)) (c1.trans c2) (res_ev R2 g hr)) rd p hn
  · cases e
/-! ### calls of what only reads -/
def CallV (K : PySem.W.Frag) (mg : Str → Option Value) (r : List V → Hp → VK → Prop) (g : List D → Option EV) : Prop :=
  ∀ (F H : Hp) (xs : List V) (ds : List D) (res : EV) (Q : VK), Same F H → RPs K mg F H ds xs → g ds = some res → GQ K mg F H res Q → r xs H Q
def CallX (X : Cx) (f : Value) (g : List D → Option EV) : Prop := ∃ r, CallR X f r ∧ CallV X.K X.mg r g
def mCallB (g : List D → Option EV) (ml : ML) : M := fun Γ => (ml Γ).bind fun p => (peekL p.2 p.1).bind fun ds => (g ds).map fun r => (r, p.2)
theorem callB_run {r : List V → Hp → VK → Prop} {g : List D → Option EV} (hv : CallV X.K X.mg r g) {σ : L2.St} {H : Hp} {Q : VK} (h : tV X.K X.mg (mCallB g ml) σ H Q) : tCB r (tL X.K X.mg ml) σ H Q := by
  obtain ⟨ρ, O, Γ, F, res, Γ', R, e, k⟩ := h
  obtain ⟨⟨rs, Γ1⟩, e1, e⟩ := obind e
  obtain ⟨ds, e2, e⟩ := obind e
  obtain ⟨res', e3, e4⟩ := omap e
  cases e4
  refine tL_run R e1 fun vs H1 F1 s1 c1 r1 => ?_
  exact hv F1 H1 vs ds res Q s1.rep.le (peekL_ok s1.rep r1 e2) e3 fun v H2 F2 g hr => k v H2 F2 (s1.trans (Stp.grow s1.rep g)) c1 (res_ev s1.rep g hr)
theorem ve_callB {id : String} {g : List D → Option EV} {x : Str} {p : Pos} (hc : CallX X (.builtin id) g) (hm : X.mg x = none) (ha : VA X (e :: es) ml) (hv : bootBuiltins x = some (.builtin id) := by decide +kernel) (hg : Gl X x := by rfl) (hn : x ≠ "__name__" := by decide)
    (hdb : (x == ("__debug__" : Str)) = false := by decide) (he : starEach (e :: es) X.env = (false, eval e X.env) :: starEach es X.env := by rfl) (hpl : (backTo pos (starEach es X.env)).any (·.1) = false := by rfl) : VE X (.Call (.Name x p) (e :: es) [] pos) (mCallB g ml) := by
  obtain ⟨r, h1, h2⟩ := hc
  exact pe_of (pe_callB h1 hg hm hv ha hn hdb he hpl) fun σ H Q h => callB_run h2 h
theorem ve_callTy {T : String} {g : List D → Option EV} {x : Str} {p : Pos} (hc : CallX X (.type T) g) (hm : X.mg x = none) (ha : VA X (e :: es) ml) (hv : bootBuiltins x = some (.type T) := by decide +kernel) (hg : Gl X x := by rfl) (hn : x ≠ "__name__" := by decide)
    (hdb : (x == ("__debug__" : Str)) = false := by decide) (he : starEach (e :: es) X.env = (false, eval e X.env) :: starEach es X.env := by rfl) (hpl : (backTo pos (starEach es X.env)).any (·.1) = false := by rfl) : VE X (.Call (.Name x p) (e :: es) [] pos) (mCallB g ml) := by
  obtain ⟨r, h1, h2⟩ := hc
  exact pe_of (pe_callTy h1 hg hm hv ha hn hdb he hpl) fun σ H Q h => callB_run h2 h
theorem callx_or {f : Value} {g g1 g2 : List D → Option EV} (h1 : CallX X f g1) (h2 : CallX X f g2) (h : ∀ d r, g d = some r → g1 d = some r ∨ g2 d = some r) : CallX X f g := by
  obtain ⟨r1, a1, b1⟩ := h1
  obtain ⟨r2, a2, b2⟩ := h2
  refine ⟨_, a1.or a2, fun F H xs ds res Q hl rx hg k => ?_⟩
  rcases h ds res hg with z | z
  · exact .inl (b1 F H xs ds res Q hl rx z k)
  · exact .inr (b2 F H xs ds res Q hl rx z k)
theorem RPs.one {K : PySem.W.Frag} {mg : Str → Option Value} {F H : Hp} {d : D} {vs : List V} (h : RPs K mg F H [d] vs) : ∃ v, vs = [v] ∧ RP K mg F H d v := by
  simp only [RPs] at h
  obtain ⟨v, ws, rfl, h, rfl⟩ := h
  exact ⟨v, rfl, h⟩
theorem RPs.two {K : PySem.W.Frag} {mg : Str → Option Value} {F H : Hp} {d e : D} {vs : List V} (h : RPs K mg F H [d, e] vs) : ∃ v w, vs = [v, w] ∧ RP K mg F H d v ∧ RP K mg F H e w := by
  simp only [RPs] at h
  obtain ⟨v, ws, rfl, h, u, us, rfl, h', rfl⟩ := h
  exact ⟨v, u, rfl, h, h'⟩
def lenD : List D → Option EV
  | [.str s] => some (.val (.int s.length))
  | [.lst xs] => some (.val (.int xs.length))
  | [.tup xs] => some (.val (.int xs.length))
  | _ => none
theorem cx_len : CallX X (.builtin "len") lenD := by
  refine ⟨_, call_len, fun F H xs ds res Q hl rx hg k => ?_⟩
  unfold lenD at hg
  split at hg
  · rename_i s
    cases hg
    obtain ⟨v, rfl, h⟩ := rx.one
    obtain ⟨rfl, ok⟩ := h.str
    exact ⟨_, s.length, rfl, ⟨by simpa [Str.length] using ok.1, by simp [Str.length]⟩, gq_val hl k (by simp only [RD])⟩
  · rename_i s
    cases hg
    obtain ⟨v, rfl, h⟩ := rx.one
    obtain ⟨a, vs, rfl, h1, h2⟩ := h.lst hl
    exact ⟨_, s.length, rfl, .inl ⟨vs, h1, h2.length⟩, gq_val hl k (by simp only [RD])⟩
  · rename_i s
    cases hg
    obtain ⟨v, rfl, h⟩ := rx.one
    obtain ⟨a, vs, rfl, h1, h2⟩ := h.tup hl
    exact ⟨_, s.length, rfl, .inr ⟨vs, h1, h2.length⟩, gq_val hl k (by simp only [RD])⟩
  · cases hg
def absD : List D → Option EV
  | [.int i] => some (.val (.int (if i < 0 then -i else i)))
  | _ => none
theorem cx_abs : CallX X (.builtin "abs") absD := by
  refine ⟨_, call_abs, fun F H xs ds res Q hl rx hg k => ?_⟩
  unfold absD at hg
  split at hg
  · cases hg
    obtain ⟨v, rfl, h⟩ := rx.one
    exact ⟨_, by rw [h.int], gq_val hl k (by simp only [RD])⟩
  · cases hg
def intD : List D → Option EV
  | [.int i] => some (.val (.int i))
  | [.bl b] => some (.val (.int (if b then 1 else 0)))
  | _ => none
theorem cx_int : CallX X (.type "int") intD := by
  refine ⟨_, call_int1, fun F H xs ds res Q hl rx hg k => ?_⟩
  unfold intD at hg
  split at hg
  · cases hg
    obtain ⟨v, rfl, h⟩ := rx.one
    exact .inl ⟨_, by rw [h.int], gq_val hl k (by simp only [RD])⟩
  · cases hg
    obtain ⟨v, rfl, h⟩ := rx.one
    exact .inr ⟨_, by rw [h.bl], gq_val hl k (by simp only [RD])⟩
  · cases hg
/-- max and min of two ints; of a list of ints -/
def maxI : List Int → Int
  | [] => 0
  | x :: xs => xs.foldl (fun a b => if a < b then b else a) x
def minI : List Int → Int
  | [] => 0
  | x :: xs => xs.foldl (fun a b => if b < a then b else a) x
theorem foldmax (xs : List Int) : ∀ a : Int, (xs.foldl (fun a b => if a < b then b else a) a ∈ a :: xs) ∧ (∀ y ∈ a :: xs, y ≤ xs.foldl (fun a b => if a < b then b else a) a) := by
  induction xs with
  | nil => intro a; simp
  | cons b xs ih =>
    intro a
    rw [List.foldl_cons]
    by_cases h : a < b
    · rw [if_pos h]
      obtain ⟨i1, i2⟩ := ih b
      refine ⟨List.mem_cons_of_mem _ i1, fun y hy => ?_⟩
      rcases List.mem_cons.mp hy with rfl | hy
      · have := i2 b (List.mem_cons_self); omega
      · exact i2 y hy
    · rw [if_neg h]
      obtain ⟨i1, i2⟩ := ih a
      refine ⟨?_, fun y hy => ?_⟩
      · rcases List.mem_cons.mp i1 with z | z
        · rw [z]; exact List.mem_cons_self
        · exact List.mem_cons_of_mem _ (List.mem_cons_of_mem _ z)
      · rcases List.mem_cons.mp hy with rfl | hy
        · exact i2 y List.mem_cons_self
        · rcases List.mem_cons.mp hy with rfl | hy
          · have := i2 a (List.mem_cons_self); omega
          · exact i2 y (List.mem_cons_of_mem _ hy)
theorem foldmin (xs : List Int) : ∀ a : Int, (xs.foldl (fun a b => if b < a then b else a) a ∈ a :: xs) ∧ (∀ y ∈ a :: xs, xs.foldl (fun a b => if b < a then b else a) a ≤ y) := by
  induction xs with
  | nil => intro a; simp
  | cons b xs ih =>
    intro a
    rw [List.foldl_cons]
    by_cases h : b < a
    · rw [if_pos h]
      obtain ⟨i1, i2⟩ := ih b
      refine ⟨List.mem_cons_of_mem _ i1, fun y hy => ?_⟩
      rcases List.mem_cons.mp hy with rfl | hy
      · have := i2 b (List.mem_cons_self); omega
      · exact i2 y hy
    · rw [if_neg h]
      obtain ⟨i1, i2⟩ := ih a
      refine ⟨?_, fun y hy => ?_⟩
      · rcases List.mem_cons.mp i1 with z | z
        · rw [z]; exact List.mem_cons_self
        · exact List.mem_cons_of_mem _ (List.mem_cons_of_mem _ z)
      · rcases List.mem_cons.mp hy with rfl | hy
        · exact i2 y List.mem_cons_self
        · rcases List.mem_cons.mp hy with rfl | hy
          · have := i2 a (List.mem_cons_self); omega
          · exact i2 y (List.mem_cons_of_mem _ hy)
theorem maxI_of {ns : List Int} {m : Int} (h : m ∈ ns) (h2 : ∀ y ∈ ns, y ≤ m) : m = maxI ns := by
  cases ns with
  | nil => cases h
  | cons x xs =>
    obtain ⟨i1, i2⟩ := foldmax xs x
    have a := h2 _ i1
    have b := i2 m h
    have e : maxI (x :: xs) = xs.foldl (fun a b => if a < b then b else a) x := rfl
    rw [e]
    omega
theorem minI_of {ns : List Int} {m : Int} (h : m ∈ ns) (h2 : ∀ y ∈ ns, m ≤ y) : m = minI ns := by
  cases ns with
  | nil => cases h
  | cons x xs =>
    obtain ⟨i1, i2⟩ := foldmin xs x
    have a := h2 _ i1
    have b := i2 m h
    have e : minI (x :: xs) = xs.foldl (fun a b => if b < a then b else a) x := rfl
    rw [e]
    omega
theorem maxI_mem {ns : List Int} (h : ns ≠ []) : maxI ns ∈ ns ∧ ∀ y ∈ ns, y ≤ maxI ns := by
  cases ns with
  | nil => exact absurd rfl h
  | cons x xs => exact foldmax xs x
theorem minI_mem {ns : List Int} (h : ns ≠ []) : minI ns ∈ ns ∧ ∀ y ∈ ns, minI ns ≤ y := by
  cases ns with
  | nil => exact absurd rfl h
  | cons x xs => exact foldmin xs x
def maxD : List D → Option EV
  | [.int i, .int j] => some (.val (.int (if j > i then j else i)))
  | [.lst xs] => (intsOf xs).bind fun ns => if ns ≠ [] then some (.val (.int (maxI ns))) else none
  | _ => none
def minD : List D → Option EV
  | [.int i, .int j] => some (.val (.int (if j < i then j else i)))
  | [.lst xs] => (intsOf xs).bind fun ns => if ns ≠ [] then some (.val (.int (minI ns))) else none
  | _ => none
theorem RP.ints {K : PySem.W.Frag} {mg : Str → Option Value} {F H : Hp} {ds : List D} {ns : List Int} {v : V} (hl : Same F H) (h : RP K mg F H (.lst ds) v) (e : intsOf ds = some ns) : ∃ a, v = .ref a ∧ SqL K H a (ns.map V.int) := by
  obtain ⟨a, vs, rfl, h1, h2⟩ := h.lst hl
  rw [intsOf_map e] at h2
  rw [h2.ints] at h1
  exact ⟨a, rfl, h1⟩
theorem cx_max (hc : X.calm = true) : CallX X (.builtin "max") maxD := by
  refine ⟨_, (call_max2 hc).or (cr_max hc), fun F H xs ds res Q hl rx hg k => ?_⟩
  unfold maxD at hg
  split at hg
  · cases hg
    obtain ⟨v, w, rfl, h, h'⟩ := rx.two
    exact .inl ⟨_, _, by rw [h.int, h'.int], gq_val hl k (by simp only [RD])⟩
  · obtain ⟨ns, e1, hg⟩ := obind hg
    split at hg
    · rename_i hne
      cases hg
      obtain ⟨v, rfl, h⟩ := rx.one
      obtain ⟨a, rfl, h1⟩ := h.ints hl e1
      refine .inr ⟨a, ns, rfl, h1, List.length_pos_iff.mpr hne, fun m hm hy => ?_⟩
      rw [maxI_of hm hy]
      exact gq_val hl k (by simp only [RD])
    · cases hg
  · cases hg
theorem cx_min (hc : X.calm = true) : CallX X (.builtin "min") minD := by
  refine ⟨_, (call_min2 hc).or (cr_min hc), fun F H xs ds res Q hl rx hg k => ?_⟩
  unfold minD at hg
  split at hg
  · cases hg
    obtain ⟨v, w, rfl, h, h'⟩ := rx.two
    exact .inl ⟨_, _, by rw [h.int, h'.int], gq_val hl k (by simp only [RD])⟩
  · obtain ⟨ns, e1, hg⟩ := obind hg
    split at hg
    · rename_i hne
      cases hg
      obtain ⟨v, rfl, h⟩ := rx.one
      obtain ⟨a, rfl, h1⟩ := h.ints hl e1
      refine .inr ⟨a, ns, rfl, h1, List.length_pos_iff.mpr hne, fun m hm hy => ?_⟩
      rw [minI_of hm hy]
      exact gq_val hl k (by simp only [RD])
    · cases hg
  · cases hg
def sumD : List D → Option EV
  | [.lst xs] => (intsOf xs).map fun ns => .val (.int ns.sum)
  | _ => none
theorem cx_sum (hc : X.calm = true) : CallX X (.builtin "sum") sumD := by
  refine ⟨_, cr_sum hc, fun F H xs ds res Q hl rx hg k => ?_⟩
  unfold sumD at hg
  split at hg
  · obtain ⟨ns, e1, e2⟩ := omap hg
    subst e2
    obtain ⟨v, rfl, h⟩ := rx.one
    obtain ⟨a, rfl, h1⟩ := h.ints hl e1
    exact ⟨a, ns, rfl, h1, gq_val hl k (by simp only [RD])⟩
  · cases hg
def blsOf : List D → Option (List Bool)
  | [] => some []
  | .bl i :: r => (blsOf r).map (i :: ·)
  | _ => none
theorem blsOf_map : ∀ {ds : List D} {ns : List Bool}, blsOf ds = some ns → ds = ns.map D.bl
  | [], ns, h => by simp only [blsOf] at h; cases h; rfl
  | d :: r, ns, h => by
    cases d <;> simp only [blsOf] at h <;> first
      | cases h; done
      | (obtain ⟨ms, h1, rfl⟩ := omap h
         rw [blsOf_map h1]; rfl)
theorem blsOf_of (ns : List Bool) : blsOf (ns.map D.bl) = some ns := by
  induction ns with
  | nil => rfl
  | cons n ns ih => simp only [List.map_cons, blsOf, ih, Option.map_some]
theorem RP.bls {K : PySem.W.Frag} {mg : Str → Option Value} {F H : Hp} {ds : List D} {ns : List Bool} {v : V} (hl : Same F H) (h : RP K mg F H (.lst ds) v) (e : blsOf ds = some ns) : ∃ a, v = .ref a ∧ SqL K H a (ns.map V.bl) := by
  obtain ⟨a, vs, rfl, h1, h2⟩ := h.lst hl
  rw [blsOf_map e] at h2
  rw [h2.bls] at h1
  exact ⟨a, rfl, h1⟩
def allD : List D → Option EV
  | [.lst xs] => (blsOf xs).map fun ns => .val (.bl (ns.all id))
  | _ => none
def anyD : List D → Option EV
  | [.lst xs] => (blsOf xs).map fun ns => .val (.bl (ns.any id))
  | _ => none
theorem cx_all (hc : X.calm = true) : CallX X (.builtin "all") allD := by
  refine ⟨_, cr_all hc, fun F H xs ds res Q hl rx hg k => ?_⟩
  unfold allD at hg
  split at hg
  · obtain ⟨ns, e1, e2⟩ := omap hg
    subst e2
    obtain ⟨v, rfl, h⟩ := rx.one
    obtain ⟨a, rfl, h1⟩ := h.bls hl e1
    exact ⟨a, ns, rfl, h1, gq_val hl k (by simp only [RD])⟩
  · cases hg
theorem cx_any (hc : X.calm = true) : CallX X (.builtin "any") anyD := by
  refine ⟨_, cr_any hc, fun F H xs ds res Q hl rx hg k => ?_⟩
  unfold anyD at hg
  split at hg
  · obtain ⟨ns, e1, e2⟩ := omap hg
    subst e2
    obtain ⟨v, rfl, h⟩ := rx.one
    obtain ⟨a, rfl, h1⟩ := h.bls hl e1
    exact ⟨a, ns, rfl, h1, gq_val hl k (by simp only [RD])⟩
  · cases hg
/-- tuple(x), list(x) of a list or a tuple -/
def tupleD : List D → Option EV
  | [.lst xs] => some (.val (.tup xs))
  | [.tup xs] => some (.val (.tup xs))
  | _ => none
theorem cx_tuple : CallX X (.type "tuple") tupleD := by
  refine ⟨_, call_tuple_of, fun F H xs ds res Q hl rx hg k => ?_⟩
  unfold tupleD at hg
  split at hg
  · cases hg
    obtain ⟨v, rfl, h⟩ := rx.one
    obtain ⟨a, vs, rfl, h1, h2⟩ := h.lst hl
    exact ⟨a, vs, rfl, .inl ⟨h1, gq_tup hl k h2⟩⟩
  · cases hg
    obtain ⟨v, rfl, h⟩ := rx.one
    obtain ⟨a, vs, rfl, h1, h2⟩ := h.tupF
    exact ⟨a, vs, rfl, .inr ⟨sqT_mono hl h1, gq_val hl k (by simp only [RD]; exact ⟨a, vs, rfl, h1, h2⟩)⟩⟩
  · cases hg
def listD : List D → Option EV
  | [.lst xs] => some (.fresh (.lst xs))
  | [.tup xs] => some (.fresh (.lst xs))
  | _ => none
theorem cx_list : CallX X (.type "list") listD := by
  refine ⟨_, call_list_of, fun F H xs ds res Q hl rx hg k => ?_⟩
  unfold listD at hg
  split at hg
  · cases hg
    obtain ⟨v, rfl, h⟩ := rx.one
    obtain ⟨a, vs, rfl, h1, h2⟩ := h.lst hl
    exact ⟨a, vs, rfl, .inl h1, gq_list hl k h2⟩
  · cases hg
    obtain ⟨v, rfl, h⟩ := rx.one
    obtain ⟨a, vs, rfl, h1, h2⟩ := h.tup hl
    exact ⟨a, vs, rfl, .inr h1, gq_list hl k h2⟩
  · cases hg
/-! ### isinstance -/
def tyOf : D → Option String
  | .non => some "NoneType"
  | .bl _ => some "bool"
  | .int _ => some "int"
  | .str _ => some "str"
  | .tup _ => some "tuple"
  | .lst _ => some "list"
  | .dict _ => some "dict"
  | _ => none
def isiD : List D → Option EV
  | [d, .ty n] => (tyOf d).bind fun t => if n ∈ ["int", "bool", "str", "list", "tuple", "dict"] then some (.val (.bl (t == n || (t == "bool" && n == "int")))) else none
  | _ => none
theorem tyX_of {K : PySem.W.Frag} {mg : Str → Option Value} {F H : Hp} {d : D} {v : V} {t : String} (hl : Same F H) (r : RP K mg F H d v) (h : tyOf d = some t) : TyX K H v (.type t) := by
  cases d <;> simp only [tyOf] at h <;> first
    | (cases h; done)
    | (cases h; rw [r.non]; exact .base .non)
    | (cases h; rw [r.bl]; exact .base (.bl _))
    | (cases h; rw [r.int]; exact .base (.int _))
    | (cases h; rw [r.str.1]; exact .base (.str _))
    | (cases h
       obtain ⟨a, vs, rfl, h1, h2⟩ := r.tup hl
       rcases h1 with (h1 | ⟨o, h1⟩) | ⟨o, its, n, e1, e2, _⟩
       · exact .base (.tup h1)
       · exact .fTuple h1
       · exact .kTuple e1 e2)
    | (cases h
       obtain ⟨a, vs, rfl, h1, h2⟩ := r.lst hl
       rcases h1 with (h1 | ⟨o, h1⟩) | ⟨o, its, n, e1, e2, _⟩
       · exact .base (.lst h1)
       · exact .base (.frz h1)
       · exact .kList e1 e2)
    | (cases h
       rcases r with r | ⟨a, rfl, _, r⟩
       · simp only [RD] at r
         obtain ⟨a, rfl, ⟨kvs, e, _⟩ | ⟨kvs, e, _⟩⟩ := r
         · exact .base (.dK (hl _ _ e))
         · exact .base (.dT (hl _ _ e))
       · rcases r with ⟨kvs, e, _⟩ | ⟨kvs, e, _⟩
         · exact .base (.dK e)
         · exact .base (.dT e))
theorem kits : (["NoneType", "bool", "int", "str", "tuple", "list", "dict"].all fun t => ["int", "bool", "str", "list", "tuple", "dict"].all fun n => kitB t n == some (t == n || (t == "bool" && n == "int"))) = true := by decide +kernel
theorem tyOf_mem {d : D} {t : String} (h : tyOf d = some t) : t ∈ ["NoneType", "bool", "int", "str", "tuple", "list", "dict"] := by
  cases d <;> simp only [tyOf] at h <;> cases h <;> simp
theorem RP.ty {K : PySem.W.Frag} {mg : Str → Option Value} {F H : Hp} {n : String} {v : V} (r : RP K mg F H (.ty n) v) : v = .ty n := by
  rcases r with r | ⟨a, _, _, r⟩
  · simpa only [RD] using r
  · simp only at r
theorem cx_isi : CallX X (.builtin "isinstance") isiD := by
  refine ⟨_, call_isi, fun F H xs ds res Q hl rx hg k => ?_⟩
  unfold isiD at hg
  split at hg
  · rename_i d n
    obtain ⟨t, e1, hg⟩ := obind hg
    split at hg
    · rename_i hn
      cases hg
      obtain ⟨v, w, rfl, h, h'⟩ := rx.two
      have q := List.all_eq_true.mp (List.all_eq_true.mp kits t (tyOf_mem e1)) n hn
      have q' : kitB t n = some (t == n || (t == "bool" && n == "int")) := by simpa using q
      exact ⟨v, w, .type t, .type n, _, rfl, by rw [h'.ty]; exact .ty n, tyX_of hl h e1, kit_ty q', gq_val hl k (by simp only [RD])⟩
    · cases hg
  · cases hg
/-- a built-in class as a value -/
theorem ve_ty {x : Str} {p : Pos} (n : String) (hm : X.mg x = none) (hv : bootBuiltins x = some (.type n) := by decide +kernel) (hg : Gl X x := by rfl) (hn : x ≠ "__name__" := by decide) (hdb : (x == ("__debug__" : Str)) = false := by decide) : VE X (.Name x p) (mC (.ty n)) :=
  ve_const (v := .ty n) (pe_bltn hg hm hv rfl hn hdb) fun F => by simp only [RD]
/-! ### a[b] -/
def ixD : D → D → Option EV
  | .lst xs, .int i => (atI xs i).map .val
  | .tup xs, .int i => (atI xs i).map .val
  | .str s, .int i => (atI s i).map fun c => .val (.str [c])
  | _, _ => none
theorem atI_RDs {K : PySem.W.Frag} {mg : Str → Option Value} {F : Hp} {ds : List D} {vs : List V} {i : Int} {d : D} (h : RDs K mg F ds vs) (e : atI ds i = some d) : ∃ v, atI vs i = some v ∧ RD K mg F d v := by
  unfold atI at e ⊢
  obtain ⟨j, e1, e2⟩ := obind e
  rw [← h.length, e1]
  obtain ⟨v, h1, h2⟩ := h.get e2
  exact ⟨v, h1, h2⟩
theorem atI_mem {α : Type} {xs : List α} {i : Int} {c : α} (h : atI xs i = some c) : c ∈ xs := by
  unfold atI at h
  obtain ⟨j, _, e⟩ := obind h
  exact List.mem_of_getElem? e
theorem ve_ix {a b : Expr} {ma mb : M} (ha : VE X a ma) (hb : VE X b mb) (hs : PlainIx b := by intro _ _; rfl) : VE X (.Subscript a b pos) (mBin ixD ma mb) := by
  refine pe_of (pe_ix ix_seq ha hb hs) fun σ H Q h => ?_
  obtain ⟨ρ, O, Γ, F, res, Γ', R, e, k⟩ := h
  obtain ⟨⟨ra, Γ1⟩, e1, e⟩ := obind e
  obtain ⟨⟨rb, Γ2⟩, e2, e⟩ := obind e
  obtain ⟨dx, e3, e⟩ := obind e
  obtain ⟨dy, e4, e⟩ := obind e
  obtain ⟨res', e5, e6⟩ := omap e
  cases e6
  refine seq2 R e1 e2 fun x y H' F' s c rx ry => ?_
  have px := peek_ok s.rep rx e3
  have py := peek_ok s.rep (ry.weakO orO_l) e4
  have kk : GQ X.K X.mg F' H' res Q := fun v H2 F2 g hr => k v H2 F2 (s.trans (Stp.grow s.rep g)) c (res_ev s.rep g hr)
  unfold ixD at e5
  split at e5
  · obtain ⟨d, e7, rfl⟩ := omap e5
    obtain ⟨a, vs, rfl, h1, h2⟩ := px.lst s.rep.le
    obtain ⟨v, h3, h4⟩ := atI_RDs h2 e7
    exact .inl ⟨a, vs, _, v, rfl, py.int, h1, h3, gq_val s.rep.le kk h4⟩
  · obtain ⟨d, e7, rfl⟩ := omap e5
    obtain ⟨a, vs, rfl, h1, h2⟩ := px.tup s.rep.le
    obtain ⟨v, h3, h4⟩ := atI_RDs h2 e7
    exact .inr (.inl ⟨a, vs, _, v, rfl, py.int, h1, h3, gq_val s.rep.le kk h4⟩)
  · obtain ⟨d, e7, rfl⟩ := omap e5
    obtain ⟨rfl, ok⟩ := px.str
    refine .inr (.inr ⟨_, _, d, rfl, py.int, by simpa [Str.length] using ok.1, by simpa using e7, gq_val s.rep.le kk ?_⟩)
    simp only [RD]
    refine ⟨trivial, by show 1 ≤ sizeLine; decide, fun c hc => ?_⟩
    have : c = d := by simpa using hc
    rw [this]
    exact ok.2 d (atI_mem e7)
  · cases e5
/-! ### slices -/
def mPN : VEnv → Option (Option Int × VEnv) := fun Γ => some (none, Γ)
def mPS (m : M) : VEnv → Option (Option Int × VEnv) := fun Γ => (m Γ).bind fun p => match p.1 with
  | .val (.int i) => some (some i, p.2)
  | _ => none
def tP (K : PySem.W.Frag) (mg : Str → Option Value) (m : VEnv → Option (Option Int × VEnv)) : TO := fun σ H Q => ∃ ρ O Γ F r Γ', Rep K mg ρ O Γ σ H F ∧ m Γ = some (r, Γ') ∧
  ∀ H' F', Stp K mg ρ O Γ' σ H F H' F' → Cells Γ Γ' → Q r H'
abbrev VO (X : Cx) (e : Option Expr) (m : VEnv → Option (Option Int × VEnv)) : Prop := PO X e (tP X.K X.mg m)
theorem vo_none : VO X none mPN := ⟨fun pins s σ H Q I h => by
  obtain ⟨ρ, O, Γ, F, r, Γ', R, e, k⟩ := h
  cases e
  exact po_none.run pins s σ H Q I (k H F (Stp.refl R) Cells.refl)⟩
theorem vo_some (h : VE X e m) : VO X (some e) (mPS m) := ⟨fun pins s σ H Q I hh => by
  obtain ⟨ρ, O, Γ, F, r, Γ', R, e, k⟩ := hh
  obtain ⟨⟨q, Γ1⟩, e1, e⟩ := obind e
  refine (po_some h).run pins s σ H Q I (tV_run R e1 fun v H1 F1 s1 c1 r1 => ?_)
  cases q with
  | val d =>
    cases d with
    | int i =>
      cases e
      have : v = .int i := by simpa only [RepEV, RD] using r1
      exact ⟨i, this, k H1 F1 s1 c1⟩
    | _ => cases e
  | _ => cases e⟩
def cutL {α : Type} (xs : List α) (lo hi : Option Int) : List α := (xs.drop (HT.sIx xs.length 0 lo)).take (HT.sIx xs.length xs.length hi - HT.sIx xs.length 0 lo)
def slD (d : D) (lo hi : Option Int) : Option EV := match d with
  | .lst xs => some (.fresh (.lst (cutL xs lo hi)))
  | .tup xs => some (.val (.tup (cutL xs lo hi)))
  | .str s => some (.val (.str (cutL s lo hi)))
  | _ => none
def mSl (m : M) (lo hi : VEnv → Option (Option Int × VEnv)) : M := fun Γ => (m Γ).bind fun p => (lo p.2).bind fun l => (hi l.2).bind fun u => (peek u.2 p.1).bind fun d => (slD d l.1 u.1).map fun r => (r, u.2)
theorem RDs.cut {K : PySem.W.Frag} {mg : Str → Option Value} {F : Hp} {ds : List D} {vs : List V} (h : RDs K mg F ds vs) (lo hi : Option Int) : RDs K mg F (cutL ds lo hi) (cutV vs lo hi) := by
  unfold cutL cutV
  rw [h.length]
  exact (h.drop _).take _
theorem cutL_whole {α : Type} {xs : List α} {lo hi : Option Int} (h : HT.sIx xs.length 0 lo = 0 ∧ HT.sIx xs.length xs.length hi = xs.length) : cutL xs lo hi = xs := by
  unfold cutL
  rw [h.1, h.2]
  simp
theorem cutS_eq (s : List Nat) (lo hi : Option Int) : cutS ⟨s.toArray⟩ lo hi = ⟨(cutL s lo hi).toArray⟩ := by
  unfold cutS cutL
  simp [Str.length]
theorem OkS.cut {s : List Nat} (h : OkS s) (lo hi : Option Int) : OkS (cutL s lo hi) := by
  unfold cutL
  refine ⟨?_, fun c hc => h.2 c (List.mem_of_mem_drop (List.mem_of_mem_take hc))⟩
  have := h.1
  simp only [List.length_take, List.length_drop]
  omega
theorem SlR.or3 {r1 r2 r3 : V → Option Int → Option Int → Hp → VK → Prop} (h1 : SlR X r1) (h2 : SlR X r2) (h3 : SlR X r3) : SlR X (fun x lo hi H Q => r1 x lo hi H Q ∨ r2 x lo hi H Q ∨ r3 x lo hi H Q) := h1.or (h2.or h3)
theorem ve_slice {lo hi : Option Expr} {ml mh : VEnv → Option (Option Int × VEnv)} {p2 : Pos} (he : VE X e m) (hl : VO X lo ml) (hu : VO X hi mh) : VE X (.Subscript e (.Slice lo hi none p2) pos) (mSl m ml mh) := by
  refine pe_of (pe_slice (SlR.or3 sl_list sl_tupA sl_str) he hl hu) fun σ H Q h => ?_
  obtain ⟨ρ, O, Γ, F, res, Γ', R, e, k⟩ := h
  obtain ⟨⟨r, Γ1⟩, e1, e⟩ := obind e
  obtain ⟨⟨l, Γ2⟩, e2, e⟩ := obind e
  obtain ⟨⟨u, Γ3⟩, e3, e⟩ := obind e
  obtain ⟨d, e4, e⟩ := obind e
  obtain ⟨res', e5, e6⟩ := omap e
  cases e6
  refine tV_run R e1 fun v H1 F1 s1 c1 r1 => ?_
  refine ⟨ρ, orO O (frs r v), Γ1, F1, l, Γ2, s1.rep.pend r1, e2, fun H2 F2 s2 c2 => ?_⟩
  refine ⟨ρ, orO O (frs r v), Γ2, F2, u, Γ3, s2.rep, e3, fun H3 F3 s3 c3 => ?_⟩
  have s23 := s2.trans s3
  have r3 := r1.later s1.rep s23.rep s23.fs s23.op (c2.trans c3)
  have s : Stp X.K X.mg ρ O Γ3 σ H F H3 F3 := s1.trans (s23.weakO orO_l)
  have kk : GQ X.K X.mg F3 H3 res Q := fun v H2 F2 g hr => k v H2 F2 (s.trans (Stp.grow s.rep g)) (c1.trans (c2.trans c3)) (res_ev s.rep g hr)
  have px := peek_ok s.rep r3 e4
  cases d with
  | lst xs =>
    simp only [slD] at e5
    cases e5
    obtain ⟨a, vs, rfl, h1, h2⟩ := px.lst s.rep.le
    exact .inl ⟨a, vs, rfl, h1, gq_list s.rep.le kk (h2.cut l u)⟩
  | tup xs =>
    simp only [slD] at e5
    cases e5
    obtain ⟨a, vs, rfl, h1, h2⟩ := px.tupF
    refine .inr (.inl ⟨a, vs, rfl, sqT_mono s.rep.le h1, fun hw => ?_, fun _ => gq_tup s.rep.le kk (h2.cut l u)⟩)
    have ew : cutL xs l u = xs := cutL_whole (by rw [h2.length]; exact hw)
    have kk' : GQ X.K X.mg F3 H3 (.val (.tup xs)) Q := by
      have := kk
      simp only [ew] at this
      exact this
    exact gq_val s.rep.le kk' (by simp only [RD]; exact ⟨a, vs, rfl, h1, h2⟩)
  | str s' =>
    simp only [slD] at e5
    cases e5
    obtain ⟨rfl, ok⟩ := px.str
    refine .inr (.inr ⟨_, rfl, by simpa [Str.length] using ok.1, ?_⟩)
    rw [cutS_eq]
    exact gq_val s.rep.le kk (by simp only [RD]; exact ⟨trivial, ok.cut l u⟩)
  | _ => simp only [slD] at e5; cases e5
/-- xs[::-1] of a list -/
def mRev (m : M) : M := fun Γ => (m Γ).bind fun p => (peek p.2 p.1).bind fun d => match d with
  | .lst xs => some (.fresh (.lst xs.reverse), p.2)
  | _ => none
theorem ve_revL {k : Nat} {p1 p2 p3 : Pos} (he : VE X e m) : VE X (.Subscript e (.Slice none none (some (.UnaryOp .USub (.Constant (.int 1) k p1) p2)) p3) pos) (mRev m) := by
  refine pe_of (pe_revL he) fun σ H Q h => ?_
  obtain ⟨ρ, O, Γ, F, res, Γ', R, e, kk⟩ := h
  obtain ⟨⟨r, Γ1⟩, e1, e⟩ := obind e
  obtain ⟨d, e2, e⟩ := obind e
  refine tV_run R e1 fun v H1 F1 s1 c1 r1 => ?_
  have px := peek_ok s1.rep r1 e2
  cases d with
  | lst xs =>
    cases e
    obtain ⟨a, vs, rfl, h1, h2⟩ := px.lst s1.rep.le
    exact ⟨a, vs, rfl, h1, gq_list s1.rep.le (fun v H2 F2 g hr => kk v H2 F2 (s1.trans (Stp.grow s1.rep g)) c1 (res_ev s1.rep g hr)) h2.rev⟩
  | _ => cases e
/-! ### unary minus -/
def negD : D → Option EV
  | .int i => some (.val (.int (-i)))
  | _ => none
def mUn (g : D → Option EV) (m : M) : M := fun Γ => (m Γ).bind fun p => (peek p.2 p.1).bind fun d => (g d).map fun r => (r, p.2)
theorem ve_neg (he : VE X e m) : VE X (.UnaryOp .USub e pos) (mUn negD m) := by
  refine pe_of (pe_un un_neg he) fun σ H Q h => ?_
  obtain ⟨ρ, O, Γ, F, res, Γ', R, e, kk⟩ := h
  obtain ⟨⟨r, Γ1⟩, e1, e⟩ := obind e
  obtain ⟨d, e2, e⟩ := obind e
  obtain ⟨res', e3, e4⟩ := omap e
  cases e4
  refine tV_run R e1 fun v H1 F1 s1 c1 r1 => ?_
  have px := peek_ok s1.rep r1 e2
  cases d <;> simp only [negD] at e3 <;> cases e3
  exact ⟨_, px.int, gq_val s1.rep.le (fun v H2 F2 g hr => kk v H2 F2 (s1.trans (Stp.grow s1.rep g)) c1 (res_ev s1.rep g hr)) (by simp only [RD])⟩
/-! ### methods that only read -/
def MtV (K : PySem.W.Frag) (mg : Str → Option Value) (r : V → List V → Hp → VK → Prop) (g : D → List D → Option EV) : Prop :=
  ∀ (F H : Hp) (x : V) (xs : List V) (d : D) (ds : List D) (res : EV) (Q : VK), Same F H → RP K mg F H d x → RPs K mg F H ds xs → g d ds = some res → GQ K mg F H res Q → r x xs H Q
def MtX (X : Cx) (id : String) (g : D → List D → Option EV) : Prop := ∃ r, MtR X id r ∧ MtV X.K X.mg r g
def tyM : String → D → Bool
  | "str", .str _ => true
  | "list", .lst _ => true
  | _, _ => false
def mMeth (T : String) (g : D → List D → Option EV) (mo : M) (ml : ML) : M := fun Γ => (mo Γ).bind fun p => (peek p.2 p.1).bind fun d0 => if tyM T d0 = true then
  (ml p.2).bind fun q => (peek q.2 p.1).bind fun d => (peekL q.2 q.1).bind fun ds => (g d ds).map fun r => (r, q.2) else none
theorem tyM_V {T : String} {K : PySem.W.Frag} {mg : Str → Option Value} {F H : Hp} {d : D} {v : V} (hl : Same F H) (h : RP K mg F H d v) (e : tyM T d = true) : tyV K T v H := by
  unfold tyM at e
  split at e
  · rw [h.str.1]; rfl
  · obtain ⟨a, vs, rfl, h1, _⟩ := h.lst hl; exact .inl ⟨rfl, vs, h1⟩
  · cases e
theorem ve_meth {T id : String} {name : Str} {g : D → List D → Option EV} {o : Expr} {mo : M} {apos : Pos} (hm : MtX X id g) (pa : PlainAttrs T) (slot : Slot T name id) (hty : typeOf (.builtin id) = pure (.type "method_descriptor")) (ho : VE X o mo) (ha : VA X (e :: es) ml)
    (hbase : attributeBase o name X.env (eval o X.env) = eval o X.env := by rfl)
    (hfew : ((backTo pos (starEach (e :: es) X.env)).all (fun x => !x.1) && (backToKw pos (keywordEach [] X.env)).all (fun x => x.1.isSome)
      && decide ((e :: es).length + ([] : List Keyword).length + (if ([] : List Keyword).isEmpty then 0 else 1) < 30)) = true := by rfl)
    (hline : (apos.endLine == pos.line) = true := by rfl) (hs : starEach (e :: es) X.env = (false, eval e X.env) :: starEach es X.env := by rfl) (hplain : (backTo pos (starEach es X.env)).any (·.1) = false := by rfl) :
    VE X (.Call (.Attribute o name apos) (e :: es) [] pos) (mMeth T g mo ml) := by
  obtain ⟨r, h1, h2⟩ := hm
  refine pe_of (pe_bm pa slot hty h1 ho ha hbase hfew hline hs hplain) fun σ H Q h => ?_
  obtain ⟨ρ, O, Γ, F, res, Γ', R, e, k⟩ := h
  obtain ⟨⟨r, Γ1⟩, e1, e⟩ := obind e
  obtain ⟨d0, e2, e⟩ := obind e
  split at e
  · rename_i hT
    obtain ⟨⟨rs, Γ2⟩, e3, e⟩ := obind e
    obtain ⟨d, e4, e⟩ := obind e
    obtain ⟨ds, e5, e⟩ := obind e
    obtain ⟨res', e6, e7⟩ := omap e
    cases e7
    refine tV_run R e1 fun v H1 F1 s1 c1 r1 => ?_
    refine ⟨tyM_V s1.rep.le (peek_ok s1.rep r1 e2) hT, ?_⟩
    refine tL_run (s1.rep.pend r1) e3 fun vs H2 F2 s2 c2 r2 => ?_
    have r1' := r1.later s1.rep s2.rep s2.fs s2.op c2
    have s : Stp X.K X.mg ρ O Γ2 σ H F H2 F2 := s1.trans (s2.weakO orO_l)
    exact h2 F2 H2 v vs d ds res Q s.rep.le (peek_ok s.rep r1' e4) (peekL_ok s2.rep r2 e5) e6 fun v H3 F3 g hr => k v H3 F3 (s.trans (Stp.grow s.rep g)) (c1.trans c2) (res_ev s.rep g hr)
  · cases e
end
end VS

set_option Elab.async false
set_option linter.all false
set_option maxRecDepth 100000
set_option maxHeartbeats 4000000
namespace VS
open PySem L2 PyProof.Rows

section
variable {K : PySem.W.Frag} {mg : Str → Option Value} {ρ : List Addr} {O O' : Addr → Prop} {Γ Γ' Γ1 : VEnv} {σ σ' σ1 : L2.St} {H F H' F' H1 F1 : Hp} {r : EV} {v : V} {d : D} {a : Addr} {D : Ends} {fl : Fl}
theorem FlK.from (s : Stp K mg ρ O Γ1 σ1 H F H1 F1) (h : FlK K mg ρ O Γ' H F D fl) : FlK K mg ρ O Γ' H1 F1 D fl := by
  cases fl with
  | nx => exact fun σ' H' F' s' => h σ' H' F' (s.trans s')
  | brk => exact fun σ' H' F' s' => h σ' H' F' (s.trans s')
  | cont => exact fun σ' H' F' s' => h σ' H' F' (s.trans s')
  | ret r => exact fun v σ' H' F' s' => h v σ' H' F' (s.trans s')
theorem tS_run {m : MS} (R : Rep K mg ρ O Γ σ H F) (e : m Γ = some (fl, Γ')) (k : FlK K mg ρ O Γ' H F D fl) : tS K mg m D σ H := ⟨ρ, O, Γ, F, fl, Γ', R, e, k⟩
end
/-! ### statements -/
def mSeq (a b : MS) : MS := fun Γ => (a Γ).bind fun p => match p.1 with
  | .nx => b p.2
  | fl => some (fl, p.2)
def mNext : MS := fun Γ => some (.nx, Γ)
def mDrop (m : M) : MS := fun Γ => (m Γ).map fun p => (.nx, p.2)
def mRet (m : M) : MS := fun Γ => (m Γ).map fun p => (.ret p.1, p.2)
def mRetN : MS := fun Γ => some (.ret (.val .non), Γ)
def mIfS (t : MB) (a b : MS) : MS := fun Γ => (t Γ).bind fun p => if p.1 = true then a p.2 else b p.2
def mAsg (m : M) (g : MG) : MS := fun Γ => (m Γ).bind fun p => (g p.1 p.2).map fun Γ' => (.nx, Γ')
def mBrk : MS := fun Γ => some (.brk, Γ)
def mCont : MS := fun Γ => some (.cont, Γ)
def mNever : MS := fun _ => none
section
variable {X : Cx} {e : Expr} {st : Stmt} {sts : List Stmt} {m : M} {ms mt : MS} {t : MB} {g : MG} {ws : List Nat} {pos : Pos}
theorem vs_nil : VSs X [] mNext := by
  refine pss_of pss_nil fun D σ H h => ?_
  obtain ⟨ρ, O, Γ, F, fl, Γ', R, e, k⟩ := h
  cases e
  exact k σ H F (Stp.refl R)
theorem vs_one (h : VSt X st ms) : VSs X [st] ms := pss_one h
theorem vs_cons (h1 : VSt X st ms) (h2 : VSs X sts mt) : VSs X (st :: sts) (mSeq ms mt) := by
  refine pss_of (pss_cons h1 h2) fun D σ H h => ?_
  obtain ⟨ρ, O, Γ, F, fl, Γ', R, e, k⟩ := h
  obtain ⟨⟨f1, Γ1⟩, e1, e⟩ := obind e
  cases f1 with
  | nx =>
    refine tS_run R e1 ?_
    intro σ1 H1 F1 s1
    exact tS_run s1.rep e (k.from s1)
  | brk => cases e; exact tS_run R e1 k
  | cont => cases e; exact tS_run R e1 k
  | ret r => cases e; exact tS_run R e1 k
theorem vs_expr (h : VE X e m) (hs : swapsWith e none pos.line X.env = pure false := by rfl) : VSt X (.Expr e pos) (mDrop m) := by
  refine ps_of (ps_expr h hs) fun D σ H h => ?_
  obtain ⟨ρ, O, Γ, F, fl, Γ', R, e, k⟩ := h
  obtain ⟨⟨r, Γ1⟩, e1, e2⟩ := omap e
  cases e2
  exact tV_run R e1 fun v H1 F1 s1 c1 r1 => k σ H1 F1 s1
theorem vs_doc {x j pos'} : VSt X (.Expr (.Constant (.str x) j pos) pos') mNext := by
  refine ps_of ps_doc fun D σ H h => ?_
  obtain ⟨ρ, O, Γ, F, fl, Γ', R, e, k⟩ := h
  cases e
  exact k σ H F (Stp.refl R)
theorem vs_ret (h : VE X e m) : VSt X (.Return (some e) pos) (mRet m) := by
  refine ps_of (ps_ret h) fun D σ H h => ?_
  obtain ⟨ρ, O, Γ, F, fl, Γ', R, e, k⟩ := h
  obtain ⟨⟨r, Γ1⟩, e1, e2⟩ := omap e
  cases e2
  exact tV_run R e1 fun v H1 F1 s1 c1 r1 => k v σ H1 F1 s1 r1
theorem vs_retN : VSt X (.Return none pos) mRetN := by
  refine ps_of ps_retN fun D σ H h => ?_
  obtain ⟨ρ, O, Γ, F, fl, Γ', R, e, k⟩ := h
  cases e
  exact k .non σ H F (Stp.refl R) (by simp only [RepEV, RD])
theorem vs_if {c : Expr} {a b : List Stmt} (hc : VT X c t) (ha : VSs X a ms) (hb : VSs X b mt) : VSt X (.If c a b pos) (mIfS t ms mt) := by
  refine ps_of (ps_if hc ha hb) fun D σ H h => ?_
  obtain ⟨ρ, O, Γ, F, fl, Γ', R, e, k⟩ := h
  obtain ⟨⟨b1, Γ1⟩, e1, e⟩ := obind e
  refine tB_run R e1 fun H1 F1 s1 c1 => ?_
  cases b1 with
  | true => exact iteT (tS_run s1.rep e (k.from s1))
  | false => exact iteF (tS_run s1.rep e (k.from s1))
theorem vs_pass : VSt X (.Pass pos) mNext := by
  refine ps_of ps_pass fun D σ H h => ?_
  obtain ⟨ρ, O, Γ, F, fl, Γ', R, e, k⟩ := h
  cases e
  exact k σ H F (Stp.refl R)
theorem vs_break : VSt X (.Break pos) mBrk := by
  refine ps_of ps_break fun D σ H h => ?_
  obtain ⟨ρ, O, Γ, F, fl, Γ', R, e, k⟩ := h
  cases e
  exact k σ H F (Stp.refl R)
theorem vs_continue : VSt X (.Continue pos) mCont := by
  refine ps_of ps_continue fun D σ H h => ?_
  obtain ⟨ρ, O, Γ, F, fl, Γ', R, e, k⟩ := h
  cases e
  exact k σ H F (Stp.refl R)
/-- a statement that is not come to -/
theorem vs_never : VSt X st mNever := by
  refine ps_of ps_never fun D σ H h => ?_
  obtain ⟨ρ, O, Γ, F, fl, Γ', R, e, k⟩ := h
  cases e
/-! ### targets -/
theorem tG_run {K : PySem.W.Frag} {mg : Str → Option Value} {ρ : List Addr} {O : Addr → Prop} {Γ Γ' : VEnv} {σ : L2.St} {H F : Hp} {r : EV} {v : V} {Q : L2.St → Hp → Prop} (R : Rep K mg ρ O Γ σ H F) (rv : RepEV K mg ρ O Γ σ H F r v) (e : g r Γ = some Γ')
    (k : ∀ σ' H' F', Stp K mg ρ O Γ' σ' H F H' F' → (∀ us : List Nat, (∀ i ∈ ws, i ∈ us) → wipe σ' us = wipe σ us) → Q σ' H') : tG K mg ws g v σ H Q := ⟨ρ, O, Γ, F, r, Γ', R, rv, e, k⟩
theorem wipe_at {σ : L2.St} {i : Nat} : ∀ {us : List Nat}, (wipe σ us)[i]? = if i ∈ us ∧ i < σ.length then some none else σ[i]?
  | [] => by simp [wipe]
  | u :: us => by
    simp only [wipe]
    by_cases e : i = u
    · subst e
      by_cases hl : i < σ.length
      · rw [List.getElem?_set_self (by rw [wipe_length]; exact hl), if_pos ⟨List.mem_cons_self, hl⟩]
      · rw [if_neg fun z => hl z.2, List.getElem?_eq_none_iff.mpr (by simp [wipe_length]; omega), List.getElem?_eq_none_iff.mpr (by omega)]
    · rw [List.getElem?_set_ne (Ne.symm e), wipe_at (us := us)]
      simp [e]
theorem wipe_set {σ : L2.St} {i : Nat} {x : Option V} {us : List Nat} (h : i ∈ us) : wipe (σ.set i x) us = wipe σ us := by
  apply List.ext_getElem?
  intro j
  rw [wipe_at, wipe_at, List.length_set]
  by_cases e : j = i
  · subst e
    by_cases hl : j < σ.length
    · rw [if_pos ⟨h, hl⟩, if_pos ⟨h, hl⟩]
    · rw [if_neg fun z => hl z.2, if_neg fun z => hl z.2, List.getElem?_eq_none_iff.mpr (by simp; omega), List.getElem?_eq_none_iff.mpr (by omega)]
  · rw [List.getElem?_set_ne (Ne.symm e)]
theorem vg_name (i : Nat) {x : Str} (hN : X.N.Nodup) (hi : X.N[i]? = some x := by rfl) (hx : Loc X.env.scope x := by first | exact Or.inl rfl | exact Or.inr rfl) (hf : X.fn x = true ∨ X.env.scope.names.lookup x = some .local := by first | exact .inl rfl | exact .inr rfl) : VG X (.Name x pos) [i] (asgn i) := by
  refine pg_of (pg_name hN hi hx hf) fun v σ H Q h => ?_
  obtain ⟨ρ, O, Γ, F, r, Γ', R, rv, e, k⟩ := h
  obtain ⟨F', R', s⟩ := asgn_ok R rv e
  exact k _ H F' ⟨R', s, fun _ _ => rfl⟩ fun us hu => wipe_set (hu i List.mem_cons_self)
theorem vs_asg {tg : Expr} (he : VE X e m) (hg : VG X tg ws g) (hs : swapsWithSole [tg] e pos.line X.env = pure false := by rfl) (hw : swappedStores [tg] e X.env = pure none := by rfl)
    (h1 : (assignEach [tg] X.env).map (·.2) = [assign tg X.env] := by rfl) : VSt X (.Assign [tg] e pos) (mAsg m g) := by
  refine ps_of (ps_asg he hg hs hw h1) fun D σ H h => ?_
  obtain ⟨ρ, O, Γ, F, fl, Γ', R, e, k⟩ := h
  obtain ⟨⟨r, Γ1⟩, e1, e⟩ := obind e
  obtain ⟨Γ2, e2, e3⟩ := omap e
  cases e3
  exact tV_run R e1 fun v H1 F1 s1 c1 r1 => tG_run s1.rep r1 e2 fun σ' H2 F2 s2 _ => k σ' H2 F2 (s1.trans s2)
def mgSeq : List MG → List D → VEnv → Option VEnv
  | [], [], Γ => some Γ
  | g :: gs, d :: ds, Γ => (g (.val d) Γ).bind fun Γ' => mgSeq gs ds Γ'
  | _, _, _ => none
def mgTup (gs : List MG) : MG := fun r Γ => (freeze r Γ).bind fun p => match p.1 with
  | .tup ds => mgSeq gs ds p.2
  | .lst ds => mgSeq gs ds p.2
  | _ => none
/-- several targets, with data -/
def tGs (K : PySem.W.Frag) (mg : Str → Option Value) (ws : List Nat) (gs : List MG) : TGs := fun vs σ H Q => ∃ ρ O Γ F ds Γ', Rep K mg ρ O Γ σ H F ∧ RDs K mg F ds vs ∧ mgSeq gs ds Γ = some Γ' ∧
  ∀ σ' H' F', Stp K mg ρ O Γ' σ' H F H' F' → (∀ us : List Nat, (∀ i ∈ ws, i ∈ us) → wipe σ' us = wipe σ us) → Q σ' H'
abbrev VGs (X : Cx) (es : List Expr) (ws : List Nat) (gs : List MG) : Prop := PGs X es (tGs X.K X.mg ws gs)
theorem pgs_of {es : List Expr} {t t' : TGs} (h : PGs X es t) (f : ∀ v σ H Q, t' v σ H Q → t v σ H Q) : PGs X es t' := ⟨fun pins s σ H v u Q I r z => h.run pins s σ H v u Q I r (f v σ H Q z)⟩
theorem vgs_nil : VGs X [] [] [] := by
  refine pgs_of pgs_nil fun vs σ H Q h => ?_
  obtain ⟨ρ, O, Γ, F, ds, Γ', R, rd, e, k⟩ := h
  cases ds with
  | nil => cases e; simp only [RDs] at rd; exact ⟨rd, k σ H F (Stp.refl R) fun _ _ => rfl⟩
  | cons d ds => cases e
theorem vgs_cons {es : List Expr} {gs : List MG} {ws2 : List Nat} (h1 : VG X e ws g) (h2 : VGs X es ws2 gs) (hs : (assignEach (e :: es) X.env).map (·.2) = assign e X.env :: (assignEach es X.env).map (·.2) := by rfl) : VGs X (e :: es) (ws ++ ws2) (g :: gs) := by
  refine pgs_of (pgs_cons h1 h2 hs) fun vs σ H Q h => ?_
  obtain ⟨ρ, O, Γ, F, ds, Γ', R, rd, e, k⟩ := h
  cases ds with
  | nil => cases e
  | cons d ds =>
    simp only [mgSeq] at e
    obtain ⟨Γ1, e1, e2⟩ := obind e
    simp only [RDs] at rd
    obtain ⟨v, ws, rfl, h1, h2⟩ := rd
    exact ⟨v, ws, rfl, tG_run (r := .val d) R h1 e1 fun σ1 H1 F1 s1 w1 => ⟨ρ, O, Γ1, F1, ds, Γ', s1.rep, RDs.mono s1.fs _ _ h2, e2, fun σ2 H2 F2 s2 w2 => k σ2 H2 F2 (s1.trans s2) fun us hu => (w2 us fun i hi => hu i (List.mem_append_right _ hi)).trans (w1 us fun i hi => hu i (List.mem_append_left _ hi))⟩⟩
theorem PG.or {tg : Expr} {t t' : TG} (h : PG X tg t) (h' : PG X tg t') : PG X tg (fun v σ H Q => t v σ H Q ∨ t' v σ H Q) := ⟨fun pins s σ H v u Q I r z => z.elim (h.run pins s σ H v u Q I r) (h'.run pins s σ H v u Q I r)⟩
theorem mgSeq_len : ∀ {gs : List MG} {ds : List D} {Γ Γ' : VEnv}, mgSeq gs ds Γ = some Γ' → ds.length = gs.length
  | [], [], _, _, _ => rfl
  | g :: gs, d :: ds, Γ, Γ', e => by
    simp only [mgSeq] at e
    obtain ⟨Γ1, _, e2⟩ := obind e
    simp only [List.length_cons, mgSeq_len e2]
  | [], d :: ds, _, _, e => by simp only [mgSeq] at e; cases e
  | g :: gs, [], _, _, e => by simp only [mgSeq] at e; cases e
theorem vg_tup {es : List Expr} {k : Nat} {gs : List MG} (hc : X.calm = true) (h : VGs X es ws gs) (hn : (assignEach es X.env).length = gs.length := by rfl) (hst : (assignEach es X.env).findIdx? (·.1) = none := by rfl) : VG X (.Tuple es k pos) ws (mgTup gs) := by
  refine pg_of (PG.or (pg_tup hc h hn hst) (pg_unl hc h hn hst)) fun v σ H Q h => ?_
  obtain ⟨ρ, O, Γ, F, r, Γ', R, rv, e, kk⟩ := h
  obtain ⟨⟨d, Γ1⟩, e1, e⟩ := obind e
  obtain ⟨F1, R1, s1, rd, _⟩ := freeze_ok R rv e1
  have st : Stp X.K X.mg ρ O Γ1 σ H F H F1 := ⟨R1, s1, fun _ _ => rfl⟩
  cases d with
  | tup ds =>
    simp only [RD] at rd
    obtain ⟨a, vs, rfl, h1, h2⟩ := rd
    exact .inl ⟨a, vs, rfl, sqT_mono R1.le h1, by rw [← h2.length, mgSeq_len e], ρ, O, Γ1, F1, ds, Γ', R1, h2, e, fun σ2 H2 F2 s2 => kk σ2 H2 F2 (st.trans s2)⟩
  | lst ds =>
    simp only [RD] at rd
    obtain ⟨a, vs, rfl, h1, h2⟩ := rd
    exact .inr ⟨a, vs, rfl, R1.le.seq h1, by rw [← h2.length, mgSeq_len e], ρ, O, Γ1, F1, ds, Γ', R1, h2, e, fun σ2 H2 F2 s2 => kk σ2 H2 F2 (st.trans s2)⟩
  | _ => cases e
/-- o[i] = value, a list -/
def mgSub (mo mi : M) : MG := fun r Γ => (mo Γ).bind fun p => (mi p.2).bind fun q => (freeze r q.2).bind fun z => (content z.2 p.1).bind fun c => (peek z.2 q.1).bind fun i => match c, i with
  | .lst xs, .int k => (ixN xs.length k).map fun j => putC z.2 (.lst (xs.set j z.1)) p.1
  | _, _ => none
theorem vg_sub {o i : Expr} {mo mi : M} (ho : VE X o mo) (hi : VE X i mi)
    (ha : ∀ v, assign (.Subscript o i pos) X.env v = (do
      let ov ← holding [v] (eval o X.env)
      let iv ← holding [v, ov] (eval i X.env)
      standAt pos
      holding [v, ov, iv] (setItem ov iv v)
      release [v, ov, iv] []) := by intro _; rfl) : VG X (.Subscript o i pos) [] (mgSub mo mi) := by
  refine pg_of (pg_sub ho hi set_list ha) fun v σ H Q h => ?_
  obtain ⟨ρ, O, Γ, F, r, Γ', R, rv, e, kk⟩ := h
  obtain ⟨⟨ro, Γ1⟩, e1, e⟩ := obind e
  obtain ⟨⟨ri, Γ2⟩, e2, e⟩ := obind e
  obtain ⟨⟨d, Γ3⟩, e3, e⟩ := obind e
  obtain ⟨c, e4, e⟩ := obind e
  obtain ⟨di, e5, e⟩ := obind e
  refine tV_run (R.pend rv) e1 fun x H1 F1 s1 c1 r1 => ?_
  have rv1 := rv.later R s1.rep s1.fs s1.op c1
  refine tV_run (s1.rep.pend r1) e2 fun y H2 F2 s2 c2 r2 => ?_
  have r1' := r1.later s1.rep s2.rep s2.fs s2.op c2
  have s2' : Stp X.K X.mg ρ (orO O (frs r v)) Γ2 σ H1 F1 H2 F2 := s2.weakO orO_l
  have rv2 := rv1.later (s1.rep.weakO orO_l) s2'.rep s2'.fs s2'.op c2
  have s12 : Stp X.K X.mg ρ O Γ2 σ H F H2 F2 := (s1.weakO orO_l).trans (s2'.weakO orO_l)
  obtain ⟨F3, R3, s3, rd, c3⟩ := freeze_ok s12.rep rv2 e3
  have st3 : Stp X.K X.mg ρ O Γ3 σ H F H2 F3 := s12.trans ⟨R3, s3, fun _ _ => rfl⟩
  cases c with
  | lst xs =>
    cases di with
    | int k =>
      obtain ⟨j, e6, e7⟩ := omap e
      -- the object that is written
      have ro3 : RepEV X.K X.mg ρ (fun _ => False) Γ3 σ H2 F3 ro x := by
        cases ro with
        | val d => simp only [content] at e4; cases e4
        | fresh d => simp only [content] at e4; cases e4
        | slot i => exact ⟨r1'.1, trivial⟩
        | par k => exact r1'
      obtain ⟨a, rfl, ho, hm⟩ := mut_ok (R3.weakO fun _ z => z.elim) ro3 e4
      obtain ⟨_, vs, h1, h2⟩ := id ho
      have pi : RP X.K X.mg F3 H2 (.int k) y := by
        have ri3 : RepEV X.K X.mg ρ (fun _ => False) Γ3 σ H2 F3 ri y := by
          cases ri with
          | val d => exact RD.mono s3 _ _ r2
          | fresh d =>
            simp only [peek] at e5
            cases e5
            obtain ⟨p, q1, q2, _⟩ := r2
            exact absurd q2.2 (by simp)
          | slot i => exact ⟨r2.1, trivial⟩
          | par k => exact r2
        exact peek_ok (R3.weakO fun _ z => z.elim) ri3 e5
      refine ⟨a, vs, k, j, rfl, pi.int, h1, by rw [← h2.length]; exact e6, ?_⟩
      have hm' := mut_ok R3 (O := O) (d := .lst xs) (r := ro) (v := .ref a) (by
        cases ro with
        | val d => simp only [content] at e4; cases e4
        | fresh d => simp only [content] at e4; cases e4
        | slot i => exact ro3
        | par k => exact ro3) e4
      obtain ⟨a', q0, _, hm'⟩ := hm'
      cases q0
      obtain ⟨R4, op4⟩ := hm' (upd H2 a (.lst (vs.set j v))) (.lst (xs.set j d)) (fun b hb => upd_ne hb) ⟨ho.1, _, upd_same, RDs.set j h2 rd⟩
      rw [← e7] at kk
      exact kk σ _ F3 (st3.trans ⟨R4, Same.refl _, op4⟩) fun _ _ => rfl
    | _ => cases e
  | _ => cases e
/-! ### name op= value -/
def mAug (g : D → D → Option EV) (i : Nat) (m : M) : MS := fun Γ => (mVar i Γ).bind fun p => (m p.2).bind fun q => (peek q.2 p.1).bind fun x => (peek q.2 q.1).bind fun y => (g x y).bind fun r => (asgn i r q.2).map fun Γ' => (.nx, Γ')
theorem vs_aug {op : Operator} {f : D → D → Option EV} (i : Nat) {x : Str} {pos' : Pos} (ho : OpX X (inplaceOp op) f) (hN : X.N.Nodup) (he : VE X e m) (hi : X.N[i]? = some x := by rfl) (hx : Loc X.env.scope x := by first | exact Or.inl rfl | exact Or.inr rfl)
    (hf : X.fn x = true ∨ X.env.scope.names.lookup x = some .local := by first | exact .inl rfl | exact .inr rfl) : VSt X (.AugAssign (.Name x pos') op e pos) (mAug f i m) := by
  obtain ⟨r, h1, h2⟩ := ho
  refine ps_of (ps_aug hN hi hx he (ti := r) (fun pins s σ H x y v u Q I rx ry h => h1 pins s σ H x y v u Q I rx ry h) hf) fun D σ H h => ?_
  obtain ⟨ρ, O, Γ, F, fl, Γ', R, e, k⟩ := h
  obtain ⟨⟨rx, Γ0⟩, e0, e⟩ := obind e
  obtain ⟨⟨ry, Γ1⟩, e1, e⟩ := obind e
  obtain ⟨dx, e2, e⟩ := obind e
  obtain ⟨dy, e3, e⟩ := obind e
  obtain ⟨res, e4, e⟩ := obind e
  obtain ⟨Γ2, e5, e6⟩ := omap e
  cases e6
  have hv : ∃ v, σ[i]? = some (some v) ∧ RepEV X.K X.mg ρ O Γ σ H F rx v ∧ Γ0 = Γ := by
    simp only [mVar] at e0
    cases q : Γ.sl[i]? with
    | none => rw [q] at e0; cases e0
    | some c =>
      rw [q] at e0
      cases c with
      | un => cases e0
      | val d => cases e0; obtain ⟨v, h1, h2⟩ := R.vl i d q; exact ⟨v, h1, h2, rfl⟩
      | own d => cases e0; obtain ⟨a, h1, h2⟩ := R.ow i d q; exact ⟨_, h1, ⟨h1, trivial⟩, rfl⟩
      | par j => cases e0; obtain ⟨a, h1, h2⟩ := R.pr i j q; exact ⟨_, h2, ⟨a, h1, rfl⟩, rfl⟩
  obtain ⟨v, hv1, hv2, rfl⟩ := hv
  refine ⟨v, hv1, tV_run (R.pend hv2) e1 fun y H1 F1 s1 c1 r1 => ?_⟩
  have hv3 := hv2.later R s1.rep s1.fs s1.op c1
  have s1' : Stp X.K X.mg ρ O Γ1 σ H F H1 F1 := s1.weakO orO_l
  refine h2 F1 H1 v y dx dy res _ s1'.rep.le (peek_ok s1'.rep hv3 e2) (peek_ok s1.rep r1 e3) e4 fun z H2 F2 g hr => ?_
  have R2 := s1'.rep.grow g
  obtain ⟨F3, R3, s3⟩ := asgn_ok R2 (res_ev s1'.rep g hr) e5
  exact k _ H2 F3 (s1'.trans ((Stp.grow s1'.rep g).trans ⟨R3, s3, fun _ _ => rfl⟩))
theorem ox_iadd : OpX X (inplaceOp .Add) (fun d e => match d, e with
    | .int i, .int j => some (.val (.int (i + j)))
    | .str s, .str t => if s.length + t.length ≤ sizeLine then some (.val (.str (s ++ t))) else none
    | _, _ => none) := by
  refine opx_or (opx_int0 iop_add) (opx_addS iop_add_str) fun d e r h => ?_
  cases d <;> cases e <;> simp only at h <;> first
    | (cases h; done)
    | simp_all [gII, gSS]
theorem ox_isub : OpX X (inplaceOp .Sub) (gII (fun _ _ => true) fun i j => i - j) := opx_int0 iop_sub
end
end VS

set_option Elab.async false
set_option linter.all false
set_option maxRecDepth 100000
set_option maxHeartbeats 4000000
namespace VS
open PySem L2 PyProof.Rows RZ

/-! ### what a loop walks, as data -/
structure WalkD (K : PySem.W.Frag) (mg : Str → Option Value) (J : It) (F0 : Hp) (ds : List D) : Prop where
  goes : ∀ i H, i < ds.length → Same F0 H → J.go i H
  stops : ∀ H, Same F0 H → J.stop ds.length H
  yields : ∀ i H x H' F, i < ds.length → J.yld i H x H' → Same F0 F → Same F H → ∃ F' d, ds[i]? = some d ∧ Grow F H F' H' ∧ RD K mg F' d x
abbrev MI := VEnv → Option (List D × VEnv)
def tI (K : PySem.W.Frag) (mg : Str → Option Value) (m : MI) : TI := fun σ H R => ∃ ρ O Γ F ds Γ', Rep K mg ρ O Γ σ H F ∧ m Γ = some (ds, Γ') ∧
  ∀ J H' F', Stp K mg ρ O Γ' σ H F H' F' → Cells Γ Γ' → WalkD K mg J F' ds → R J H'
abbrev VI (X : Cx) (tg iter : Expr) (m : MI) : Prop := PI X tg iter (tI X.K X.mg m)
theorem pi_of {X : Cx} {tg iter : Expr} {t t' : TI} (h : PI X tg iter t) (f : ∀ σ H R, t' σ H R → t σ H R) : PI X tg iter t' := ⟨fun pins s σ H R I z => h.run pins s σ H R I (f σ H R z)⟩
theorem PI.or {X : Cx} {tg iter : Expr} {t t' : TI} (h : PI X tg iter t) (h' : PI X tg iter t') : PI X tg iter (fun σ H R => t σ H R ∨ t' σ H R) := ⟨fun pins s σ H R I z => z.elim (h.run pins s σ H R I) (h'.run pins s σ H R I)⟩
section
variable {K : PySem.W.Frag} {mg : Str → Option Value} {F H : Hp} {a b : Addr} {vs ws : List V} {ds es : List D}
theorem lt_of_get {α : Type} {l : List α} {i : Nat} {x : α} (h : l[i]? = some x) : i < l.length := (List.getElem?_eq_some_iff.mp h).1
theorem get_of_lt {α : Type} {l : List α} {i : Nat} (h : i < l.length) : ∃ x, l[i]? = some x := ⟨l[i], List.getElem?_eq_getElem h⟩
theorem wd_list (h1 : SqL K F a vs) (h2 : RDs K mg F ds vs) : WalkD K mg (Itl K a) F ds where
  goes := fun i H hi hs => by
    obtain ⟨x, hx⟩ := get_of_lt (show i < vs.length by rw [← h2.length]; exact hi)
    exact ⟨vs, x, hs.seq h1, hx⟩
  stops := fun H hs => ⟨vs, hs.seq h1, by rw [h2.length]; exact Nat.le_refl _⟩
  yields := fun i H x H' F' hi hy hf hs => by
    obtain ⟨rfl, hx⟩ := hy
    obtain ⟨d, hd⟩ := get_of_lt hi
    obtain ⟨v, e1, e2⟩ := h2.get hd
    have := hx vs ((hf.trans hs).seq h1)
    rw [e1] at this; cases this
    exact ⟨F', d, hd, Grow.refl hs, RD.mono hf _ _ e2⟩
theorem wd_tup (h1 : SqT K F a vs) (h2 : RDs K mg F ds vs) : WalkD K mg (Itt K a) F ds where
  goes := fun i H hi hs => by
    obtain ⟨x, hx⟩ := get_of_lt (show i < vs.length by rw [← h2.length]; exact hi)
    exact ⟨vs, x, sqT_mono hs h1, hx⟩
  stops := fun H hs => ⟨vs, sqT_mono hs h1, by rw [h2.length]; exact Nat.le_refl _⟩
  yields := fun i H x H' F' hi hy hf hs => by
    obtain ⟨rfl, hx⟩ := hy
    obtain ⟨d, hd⟩ := get_of_lt hi
    obtain ⟨v, e1, e2⟩ := h2.get hd
    have := hx vs (sqT_mono (hf.trans hs) h1)
    rw [e1] at this; cases this
    exact ⟨F', d, hd, Grow.refl hs, RD.mono hf _ _ e2⟩
def rangeD (lo : Int) (n : Nat) : List D := (List.range n).map fun i => .int (lo + (i : Nat))
def rangeDC (lo c : Int) (n : Nat) : List D := (List.range n).map fun i => .int (lo + (i : Nat) * c)
theorem wd_range {lo : Int} {n : Nat} : WalkD K mg (Itr lo n) F (rangeD lo n) where
  goes := fun i H hi hs => show i < n by simpa [rangeD] using hi
  stops := fun H hs => by simp [rangeD, Itr]
  yields := fun i H x H' F' hi hy hf hs => by
    obtain ⟨rfl, rfl⟩ := hy
    have hi' : i < n := by simpa [rangeD] using hi
    exact ⟨F', .int (lo + (i : Nat)), by simp [rangeD, hi'], Grow.refl hs, by simp only [RD]⟩
theorem wd_rangeC {lo c : Int} {n : Nat} : WalkD K mg (Itc lo c n) F (rangeDC lo c n) where
  goes := fun i H hi hs => show i < n by simpa [rangeDC] using hi
  stops := fun H hs => by simp [rangeDC, Itc]
  yields := fun i H x H' F' hi hy hf hs => by
    obtain ⟨rfl, rfl⟩ := hy
    have hi' : i < n := by simpa [rangeDC] using hi
    exact ⟨F', .int (lo + (i : Nat) * c), by simp [rangeDC, hi'], Grow.refl hs, by simp only [RD]⟩
def signsD (s : List Nat) : List D := s.map fun c => .str [c]
theorem wd_str {s : List Nat} (ok : OkS s) : WalkD K mg (Its ⟨s.toArray⟩) F (signsD s) where
  goes := fun i H hi hs => by simpa [signsD, Its] using hi
  stops := fun H hs => by simp [signsD, Its]
  yields := fun i H x H' F' hi hy hf hs => by
    obtain ⟨rfl, c, hc, rfl⟩ := hy
    have hc' : s[i]? = some c := by simpa using hc
    refine ⟨F', .str [c], by simp [signsD, hc'], Grow.refl hs, ?_⟩
    simp only [RD]
    refine ⟨trivial, by show 1 ≤ sizeLine; decide, fun c' hc'' => ?_⟩
    have : c' = c := by simpa using hc''
    rw [this]
    exact ok.2 c (List.mem_of_getElem? hc')
/-- pairs, new ones -/
def enumD (ds : List D) : List D := ds.mapIdx fun i d => .tup [.int (i : Nat), d]
theorem enumD_get {i : Nat} {d : D} (h : ds[i]? = some d) : (enumD ds)[i]? = some (.tup [.int (i : Nat), d]) := by simp [enumD, h]
theorem enumD_len : (enumD ds).length = ds.length := by simp [enumD]
theorem pair_rd {F' : Hp} {T : Addr} {x y : V} {d e : D} (hs : Same F' H) (hT : H T = none) (h1 : RD K mg F' d x) (h2 : RD K mg F' e y) : ∃ F2, Grow F' H F2 (upd H T (.tup [x, y])) ∧ RD K mg F2 (.tup [d, e]) (.ref T) := by
  have g : Grow F' H (upd F' T (.tup [x, y])) (upd H T (.tup [x, y])) := grow_frz hs hT
  refine ⟨_, g, ?_⟩
  simp only [RD]
  exact ⟨T, [x, y], rfl, .inl (.inl upd_same), by simp only [RDs]; exact ⟨x, [y], rfl, RD.mono g.fs _ _ h1, y, [], rfl, RD.mono g.fs _ _ h2, rfl⟩⟩
theorem wd_enum (h1 : SqL K F a vs) (h2 : RDs K mg F ds vs) : WalkD K mg (Ite K a) F (enumD ds) where
  goes := fun i H hi hs => by
    obtain ⟨x, hx⟩ := get_of_lt (show i < vs.length by rw [← h2.length, ← enumD_len]; exact hi)
    exact ⟨vs, x, hs.seq h1, hx⟩
  stops := fun H hs => ⟨vs, hs.seq h1, by rw [enumD_len, h2.length]; exact Nat.le_refl _⟩
  yields := fun i H x H' F' hi hy hf hs => by
    obtain ⟨T, y, rfl, hT, rfl, hx⟩ := hy
    obtain ⟨d, hd⟩ := get_of_lt (show i < ds.length by rw [← enumD_len]; exact hi)
    obtain ⟨v, e1, e2⟩ := h2.get hd
    have := hx vs ((hf.trans hs).seq h1)
    rw [e1] at this; cases this
    obtain ⟨F2, g, rd⟩ := pair_rd (K := K) (mg := mg) (x := .int (i : Nat)) (d := .int (i : Nat)) hs hT (by simp only [RD]) (RD.mono hf _ _ e2)
    exact ⟨F2, _, enumD_get hd, g, rd⟩
def zipD (ds es : List D) : List D := (ds.zip es).map fun p => .tup [p.1, p.2]
theorem wd_zipL (h1 : SqL K F a vs) (h2 : RDs K mg F ds vs) (g1 : SqL K F b ws) (g2 : RDs K mg F es ws) : WalkD K mg (Itz K a b) F (zipD ds es) where
  goes := fun i H hi hs => by
    have hl : i < ds.length ∧ i < es.length := by
      have : i < min ds.length es.length := by simpa [zipD] using hi
      omega
    obtain ⟨x, hx⟩ := get_of_lt (show i < vs.length by rw [← h2.length]; exact hl.1)
    obtain ⟨y, hy⟩ := get_of_lt (show i < ws.length by rw [← g2.length]; exact hl.2)
    exact ⟨vs, ws, x, y, hs.seq h1, hs.seq g1, hx, hy⟩
  stops := fun H hs => ⟨vs, ws, hs.seq h1, hs.seq g1, by simp only [zipD, List.length_map, List.length_zip, ← h2.length, ← g2.length]; omega⟩
  yields := fun i H x H' F' hi hy hf hs => by
    obtain ⟨T, x1, y1, rfl, hT, rfl, hx, hy⟩ := hy
    have hl : i < ds.length ∧ i < es.length := by
      have : i < min ds.length es.length := by simpa [zipD] using hi
      omega
    obtain ⟨d, hd⟩ := get_of_lt hl.1
    obtain ⟨e, he⟩ := get_of_lt hl.2
    obtain ⟨v, e1, e2⟩ := h2.get hd
    obtain ⟨w, e3, e4⟩ := g2.get he
    have q1 := hx vs ((hf.trans hs).seq h1)
    have q2 := hy ws ((hf.trans hs).seq g1)
    rw [e1] at q1; cases q1
    rw [e3] at q2; cases q2
    obtain ⟨F2, g, rd⟩ := pair_rd (K := K) (mg := mg) hs hT (RD.mono hf _ _ e2) (RD.mono hf _ _ e4)
    exact ⟨F2, .tup [d, e], by simp only [zipD, List.getElem?_map, List.getElem?_zip_eq_some (z := (d, e)) |>.mpr ⟨hd, he⟩, Option.map_some], g, rd⟩
theorem wd_zipT (h1 : SqT K F a vs) (h2 : RDs K mg F ds vs) (g1 : SqT K F b ws) (g2 : RDs K mg F es ws) : WalkD K mg (ItzT K a b) F (zipD ds es) where
  goes := fun i H hi hs => by
    have hl : i < ds.length ∧ i < es.length := by
      have : i < min ds.length es.length := by simpa [zipD] using hi
      omega
    obtain ⟨x, hx⟩ := get_of_lt (show i < vs.length by rw [← h2.length]; exact hl.1)
    obtain ⟨y, hy⟩ := get_of_lt (show i < ws.length by rw [← g2.length]; exact hl.2)
    exact ⟨vs, ws, x, y, sqT_mono hs h1, sqT_mono hs g1, hx, hy⟩
  stops := fun H hs => ⟨vs, ws, sqT_mono hs h1, sqT_mono hs g1, by simp only [zipD, List.length_map, List.length_zip, ← h2.length, ← g2.length]; omega⟩
  yields := fun i H x H' F' hi hy hf hs => by
    obtain ⟨T, x1, y1, rfl, hT, rfl, hx, hy⟩ := hy
    have hl : i < ds.length ∧ i < es.length := by
      have : i < min ds.length es.length := by simpa [zipD] using hi
      omega
    obtain ⟨d, hd⟩ := get_of_lt hl.1
    obtain ⟨e, he⟩ := get_of_lt hl.2
    obtain ⟨v, e1, e2⟩ := h2.get hd
    obtain ⟨w, e3, e4⟩ := g2.get he
    have q1 := hx vs (sqT_mono (hf.trans hs) h1)
    have q2 := hy ws (sqT_mono (hf.trans hs) g1)
    rw [e1] at q1; cases q1
    rw [e3] at q2; cases q2
    obtain ⟨F2, g, rd⟩ := pair_rd (K := K) (mg := mg) hs hT (RD.mono hf _ _ e2) (RD.mono hf _ _ e4)
    exact ⟨F2, .tup [d, e], by simp only [zipD, List.getElem?_map, List.getElem?_zip_eq_some (z := (d, e)) |>.mpr ⟨hd, he⟩, Option.map_some], g, rd⟩
end
/-! ### the iterables -/
def miSeq (m : M) : MI := fun Γ => (m Γ).bind fun p => (freeze p.1 p.2).bind fun q => match q.1 with
  | .lst xs => some (xs, q.2)
  | .tup xs => some (xs, q.2)
  | .str s => some (signsD s, q.2)
  | _ => none
def okR (i : Int) : Bool := decide (i.natAbs / 4611686018427387904 = 0)
def miR1 (ml : ML) : MI := fun Γ => (ml Γ).bind fun p => match p.1 with
  | [.val (.int j)] => if okR j = true then some (rangeD 0 j.toNat, p.2) else none
  | _ => none
def miR2 (ml : ML) : MI := fun Γ => (ml Γ).bind fun p => match p.1 with
  | [.val (.int i), .val (.int j)] => if okR i = true ∧ okR j = true then some (rangeD i (j - i).toNat, p.2) else none
  | _ => none
def miR3 (ml : ML) : MI := fun Γ => (ml Γ).bind fun p => match p.1 with
  | [.val (.int i), .val (.int j), .val (.int c)] => if c = -1 ∧ okR i = true ∧ okR j = true then some (rangeDC i (-1) (i - j).toNat, p.2) else none
  | _ => none
def miEnum (ml : ML) : MI := fun Γ => (ml Γ).bind fun p => (freezeL p.1 p.2).bind fun q => match q.1 with
  | [.lst xs] => some (enumD xs, q.2)
  | _ => none
def miZip (ml : ML) : MI := fun Γ => (ml Γ).bind fun p => (freezeL p.1 p.2).bind fun q => match q.1 with
  | [.lst xs, .lst ys] => some (zipD xs ys, q.2)
  | [.tup xs, .tup ys] => some (zipD xs ys, q.2)
  | _ => none
section
variable {X : Cx} {e tg : Expr} {es : List Expr} {m : M} {ml : ML} {p pos : Pos}
theorem vi_seq (he : VE X e m) : VI X tg e (miSeq m) := by
  refine pi_of (PI.or (pi_list he) (PI.or (pi_tup he) (pi_str he))) fun σ H R h => ?_
  obtain ⟨ρ, O, Γ, F, ds, Γ', Rp, e, k⟩ := h
  obtain ⟨⟨r, Γ1⟩, e1, e⟩ := obind e
  obtain ⟨⟨d, Γ2⟩, e2, e⟩ := obind e
  cases d with
  | lst xs =>
    cases e
    refine .inl (tV_run Rp e1 fun v H1 F1 s1 c1 r1 => ?_)
    obtain ⟨F2, R2, s2, rd, c2⟩ := freeze_ok s1.rep r1 e2
    simp only [RD] at rd
    obtain ⟨a, vs, rfl, h1, h2⟩ := rd
    exact ⟨a, rfl, ⟨vs, R2.le.seq h1⟩, k _ H1 F2 ⟨R2, s1.fs.trans s2, s1.op⟩ (c1.trans c2) (wd_list h1 h2)⟩
  | tup xs =>
    cases e
    refine .inr (.inl (tV_run Rp e1 fun v H1 F1 s1 c1 r1 => ?_))
    obtain ⟨F2, R2, s2, rd, c2⟩ := freeze_ok s1.rep r1 e2
    simp only [RD] at rd
    obtain ⟨a, vs, rfl, h1, h2⟩ := rd
    exact ⟨a, rfl, ⟨vs, sqT_mono R2.le h1⟩, k _ H1 F2 ⟨R2, s1.fs.trans s2, s1.op⟩ (c1.trans c2) (wd_tup h1 h2)⟩
  | str s =>
    cases e
    refine .inr (.inr (tV_run Rp e1 fun v H1 F1 s1 c1 r1 => ?_))
    obtain ⟨F2, R2, s2, rd, c2⟩ := freeze_ok s1.rep r1 e2
    simp only [RD] at rd
    obtain ⟨rfl, ok⟩ := rd
    exact ⟨_, rfl, k _ H1 F2 ⟨R2, s1.fs.trans s2, s1.op⟩ (c1.trans c2) (wd_str ok)⟩
  | _ => cases e
theorem okR_of {i : Int} (h : okR i = true) : -(2 ^ 62) ≤ i ∧ i < 2 ^ 62 := by
  simp only [okR, decide_eq_true_eq] at h
  rw [Nat.div_eq_zero_iff] at h
  have h3 : i.natAbs < 4611686018427387904 := by
    rcases h with h | h
    · cases h
    · exact h
  have e : (2 ^ 62 : Int) = 4611686018427387904 := by decide
  rw [e]
  omega
theorem repL_int1 {K : PySem.W.Frag} {mg : Str → Option Value} {ρ : List Addr} {O : Addr → Prop} {Γ : VEnv} {σ : L2.St} {H F : Hp} {i : Int} {rs : List EV} {vs : List V} (h : RepL K mg ρ Γ σ H F O (.val (.int i) :: rs) vs) : ∃ ws O', vs = .int i :: ws ∧ RepL K mg ρ Γ σ H F O' rs ws := by
  simp only [RepL, RepEV, RD] at h
  obtain ⟨v, ws, rfl, rfl, h⟩ := h
  exact ⟨ws, _, rfl, h⟩
theorem vi_range1 {a : Expr} (hm : X.mg "range" = none) (ha : VA X [a] ml) (hg : Gl X "range" := by rfl) (hs : starEach [a] X.env = [(false, eval a X.env)] := by rfl) : VI X tg (.Call (.Name "range" p) [a] [] pos) (miR1 ml) := by
  refine pi_of (pi_range1 hg hm ha hs) fun σ H R h => ?_
  obtain ⟨ρ, O, Γ, F, ds, Γ', Rp, e, k⟩ := h
  obtain ⟨⟨rs, Γ1⟩, e1, e⟩ := obind e
  refine tL_run Rp e1 fun vs H1 F1 s1 c1 r1 => ?_
  split at e
  · rename_i j hj
    simp only at hj
    subst hj
    split at e
    · rename_i hok
      cases e
      obtain ⟨ws, O', rfl, h⟩ := repL_int1 r1
      simp only [RepL] at h
      subst h
      exact ⟨j, rfl, (okR_of hok).1, (okR_of hok).2, k _ H1 F1 s1 c1 wd_range⟩
    · cases e
  · cases e
theorem vi_range2 {a b : Expr} (hm : X.mg "range" = none) (ha : VA X [a, b] ml) (hg : Gl X "range" := by rfl) (hs : starEach [a, b] X.env = [(false, eval a X.env), (false, eval b X.env)] := by rfl) (hs2 : starEach [b] X.env = [(false, eval b X.env)] := by rfl) : VI X tg (.Call (.Name "range" p) [a, b] [] pos) (miR2 ml) := by
  refine pi_of (pi_range2 hg hm ha hs hs2) fun σ H R h => ?_
  obtain ⟨ρ, O, Γ, F, ds, Γ', Rp, e, k⟩ := h
  obtain ⟨⟨rs, Γ1⟩, e1, e⟩ := obind e
  refine tL_run Rp e1 fun vs H1 F1 s1 c1 r1 => ?_
  split at e
  · rename_i i j hj
    simp only at hj
    subst hj
    split at e
    · rename_i hok
      cases e
      obtain ⟨ws, O', rfl, h⟩ := repL_int1 r1
      obtain ⟨ws2, O2', rfl, h2⟩ := repL_int1 h
      simp only [RepL] at h2
      subst h2
      exact ⟨i, j, rfl, ⟨(okR_of hok.1).1, (okR_of hok.1).2, (okR_of hok.2).1, (okR_of hok.2).2⟩, k _ H1 F1 s1 c1 wd_range⟩
    · cases e
  · cases e
theorem vi_range3 {a b c : Expr} (hm : X.mg "range" = none) (ha : VA X [a, b, c] ml) (hg : Gl X "range" := by rfl) (hs : starEach [a, b, c] X.env = (false, eval a X.env) :: starEach [b, c] X.env := by rfl) (hpl : (backTo pos (starEach [b, c] X.env)).any (·.1) = false := by rfl) : VI X tg (.Call (.Name "range" p) [a, b, c] [] pos) (miR3 ml) := by
  refine pi_of (pi_range3 hg hm ha hs hpl) fun σ H R h => ?_
  obtain ⟨ρ, O, Γ, F, ds, Γ', Rp, e, k⟩ := h
  obtain ⟨⟨rs, Γ1⟩, e1, e⟩ := obind e
  refine tL_run Rp e1 fun vs H1 F1 s1 c1 r1 => ?_
  split at e
  · rename_i i j c hj
    simp only at hj
    subst hj
    split at e
    · rename_i hok
      obtain ⟨rfl, hok⟩ := hok
      cases e
      obtain ⟨ws, O', rfl, h⟩ := repL_int1 r1
      obtain ⟨ws2, O2', rfl, h2⟩ := repL_int1 h
      obtain ⟨ws3, O3', rfl, h3⟩ := repL_int1 h2
      simp only [RepL] at h3
      subst h3
      exact ⟨i, j, -1, _, rfl, RgC.neg (okR_of hok.1).1 (okR_of hok.1).2 (okR_of hok.2).1 (okR_of hok.2).2, k _ H1 F1 s1 c1 wd_rangeC⟩
    · cases e
  · cases e
theorem vi_enum {elts : List Expr} {kk : Nat} {tpos : Pos} (hm : X.mg "enumerate" = none) (ha : VA X [e] ml) (hg : Gl X "enumerate" := by rfl) (hs : starEach [e] X.env = [(false, eval e X.env)] := by rfl) : VI X (.Tuple elts kk tpos) (.Call (.Name "enumerate" p) [e] [] pos) (miEnum ml) := by
  refine pi_of (pi_enum hg hm ha hs) fun σ H R h => ?_
  obtain ⟨ρ, O, Γ, F, ds, Γ', Rp, e, k⟩ := h
  obtain ⟨⟨rs, Γ1⟩, e1, e⟩ := obind e
  obtain ⟨⟨fs, Γ2⟩, e2, e⟩ := obind e
  refine tL_run Rp e1 fun vs H1 F1 s1 c1 r1 => ?_
  obtain ⟨F2, R2, s2, rd, c2⟩ := freezeL_ok s1.rep r1 e2
  split at e
  · rename_i xs hj
    simp only at hj
    subst hj
    cases e
    simp only [RDs, RD] at rd
    obtain ⟨v, r, rfl, ⟨a, ws, rfl, h1, h2⟩, rfl⟩ := rd
    exact ⟨a, ws, rfl, R2.le.seq h1, k _ H1 F2 ⟨R2, s1.fs.trans s2, s1.op⟩ (c1.trans c2) (wd_enum h1 h2)⟩
  · cases e
theorem vi_zip {e2 : Expr} {elts : List Expr} {kk : Nat} {tpos : Pos} (hm : X.mg "zip" = none) (ha : VA X [e, e2] ml) (hg : Gl X "zip" := by rfl) (hs : starEach [e, e2] X.env = (false, eval e X.env) :: starEach [e2] X.env := by rfl) (hpl : (backTo pos (starEach [e2] X.env)).any (·.1) = false := by rfl) :
    VI X (.Tuple elts kk tpos) (.Call (.Name "zip" p) [e, e2] [] pos) (miZip ml) := by
  refine pi_of (pi_zipA hg hm ha hs hpl) fun σ H R h => ?_
  obtain ⟨ρ, O, Γ, F, ds, Γ', Rp, e, k⟩ := h
  obtain ⟨⟨rs, Γ1⟩, e1, e⟩ := obind e
  obtain ⟨⟨fs, Γ2⟩, e2, e⟩ := obind e
  refine tL_run Rp e1 fun vs H1 F1 s1 c1 r1 => ?_
  obtain ⟨F2, R2, s2, rd, c2⟩ := freezeL_ok s1.rep r1 e2
  split at e
  · rename_i xs ys hj
    simp only at hj
    subst hj
    cases e
    simp only [RDs, RD] at rd
    obtain ⟨v, r, rfl, ⟨a, ws, rfl, h1, h2⟩, u, q, rfl, ⟨b, us, rfl, h3, h4⟩, rfl⟩ := rd
    exact ⟨a, b, ws, us, rfl, .inl ⟨R2.le.seq h1, R2.le.seq h3, k _ H1 F2 ⟨R2, s1.fs.trans s2, s1.op⟩ (c1.trans c2) (wd_zipL h1 h2 h3 h4)⟩⟩
  · rename_i xs ys hj
    simp only at hj
    subst hj
    cases e
    simp only [RDs, RD] at rd
    obtain ⟨v, r, rfl, ⟨a, ws, rfl, h1, h2⟩, u, q, rfl, ⟨b, us, rfl, h3, h4⟩, rfl⟩ := rd
    exact ⟨a, b, ws, us, rfl, .inr ⟨sqT_mono R2.le h1, sqT_mono R2.le h3, k _ H1 F2 ⟨R2, s1.fs.trans s2, s1.op⟩ (c1.trans c2) (wd_zipT h1 h2 h3 h4)⟩⟩
  · cases e
end
/-! ### for, while -/
def forD (g : MG) (body : MS) : List D → VEnv → Option (Fl × VEnv)
  | [], Γ => some (.nx, Γ)
  | d :: ds, Γ => (g (.val d) Γ).bind fun Γ1 => (body Γ1).bind fun p => match p.1 with
    | .nx => forD g body ds p.2
    | .cont => forD g body ds p.2
    | .brk => some (.nx, p.2)
    | .ret r => some (.ret r, p.2)
def mFor (mi : MI) (g : MG) (body : MS) : MS := fun Γ => (mi Γ).bind fun p => forD g body p.1 p.2
def whileD (t : MB) (body : MS) : Nat → VEnv → Option (Fl × VEnv)
  | 0, _ => none
  | n + 1, Γ => (t Γ).bind fun p => if p.1 = true then (body p.2).bind fun q => match q.1 with
      | .nx => whileD t body n q.2
      | .cont => whileD t body n q.2
      | .brk => some (.nx, q.2)
      | .ret r => some (.ret r, q.2) else some (.nx, p.2)
def mWhile (n : Nat) (t : MB) (body : MS) : MS := whileD t body n
section
variable {X : Cx} {tg iter : Expr} {body : List Stmt} {mi : MI} {g : MG} {ws : List Nat} {mb : MS} {pos : Pos}
theorem vs_for (hp : PassesOwn (model X.prog X.w) X.A X.env X.xe) (hc : X.calm = true) (hi : VI X tg iter mi) (hg : VG X tg ws g) (hb : VSs X body mb)
    (hs : ∀ x, foldedSetIterable iter X.env x = pure x := by intro _; rfl) : VSt X (.For tg iter body [] pos) (mFor mi g mb) := by
  refine ps_of (ps_for hp hc hi hg hb hs) fun D σ H h => ?_
  obtain ⟨ρ, O, Γ, F, fl, Γ', R, e, k⟩ := h
  obtain ⟨⟨ds, Γ1⟩, e1, e⟩ := obind e
  refine ⟨ρ, O, Γ, F, ds, Γ1, R, e1, fun J H1 F1 s1 c1 w => ?_⟩
  refine ⟨fun i m σ' H' => m = ds.length - i ∧ i ≤ ds.length ∧ ∃ Γi Fi, Stp X.K X.mg ρ O Γi σ' H F H' Fi ∧ Same F1 Fi ∧ forD g mb (ds.drop i) Γi = some (fl, Γ'), ⟨_, rfl, Nat.zero_le _, Γ1, F1, s1, Same.refl _, by simpa using e⟩, fun i m σ' H' hW => ?_⟩
  obtain ⟨rfl, hi, Γi, Fi, si, hf, ei⟩ := hW
  have hsame : Same F1 H' := hf.trans si.rep.le
  by_cases hlt : i < ds.length
  · refine .inr ⟨w.goes i H' hlt hsame, fun σ2 H2 => ∃ Γ2 F2, Stp X.K X.mg ρ O Γ2 σ2 H F H2 F2 ∧ Same F1 F2 ∧ forD g mb (ds.drop (i + 1)) Γ2 = some (fl, Γ'), fun σ2 H2 hN => ?_, fun x H2 hy => ?_⟩
    · obtain ⟨Γ2, F2, h1, h2, h3⟩ := hN
      exact ⟨ds.length - (i + 1), by omega, rfl, by omega, Γ2, F2, h1, h2, h3⟩
    · obtain ⟨F2, d, hd, gr, rd⟩ := w.yields i H' x H2 Fi hlt hy hf si.rep.le
      have edrop : ds.drop i = d :: ds.drop (i + 1) := by
        rw [List.drop_eq_getElem_cons hlt]
        congr 1
        rw [List.getElem?_eq_getElem hlt] at hd
        exact Option.some.inj hd
      rw [edrop] at ei
      simp only [forD] at ei
      obtain ⟨Γ2, e2, ei⟩ := obind ei
      obtain ⟨⟨f3, Γ3⟩, e3, ei⟩ := obind ei
      have s2 := si.trans (Stp.grow si.rep gr)
      refine tG_run (r := .val d) s2.rep rd e2 fun σ3 H3 F3 s3 _ => ?_
      have s23 := s2.trans s3
      refine tS_run s23.rep e3 ?_
      have hf3 : Same F1 F3 := (hf.trans gr.fs).trans s3.fs
      cases f3 with
      | nx => exact fun σ4 H4 F4 s4 => ⟨Γ3, F4, s23.trans s4, hf3.trans s4.fs, ei⟩
      | cont => exact fun σ4 H4 F4 s4 => ⟨Γ3, F4, s23.trans s4, hf3.trans s4.fs, ei⟩
      | brk => cases ei; exact fun σ4 H4 F4 s4 => k σ4 H4 F4 (s23.trans s4)
      | ret r => cases ei; exact fun v σ4 H4 F4 s4 hr => k v σ4 H4 F4 (s23.trans s4) hr
  · have hi' : i = ds.length := by omega
    subst hi'
    refine .inl ⟨w.stops H' hsame, ?_⟩
    rw [List.drop_length] at ei
    cases ei
    exact k σ' H' Fi si
theorem vs_while {c : Expr} {t : MB} (n : Nat) (hp : PassesOwn (model X.prog X.w) X.A X.env X.xe) (hc : VT X c t) (hb : VSs X body mb) : VSt X (.While c body [] pos) (mWhile n t mb) := by
  refine ps_of (ps_while hp hc hb) fun D σ H h => ?_
  obtain ⟨ρ, O, Γ, F, fl, Γ', R, e, k⟩ := h
  refine ⟨fun m σ' H' => ∃ Γi Fi, Stp X.K X.mg ρ O Γi σ' H F H' Fi ∧ whileD t mb m Γi = some (fl, Γ'), ⟨n, Γ, F, Stp.refl R, e⟩, fun m σ' H' hW => ?_⟩
  obtain ⟨Γi, Fi, si, ei⟩ := hW
  cases m with
  | zero => cases ei
  | succ m =>
    simp only [whileD] at ei
    obtain ⟨⟨b1, Γ1⟩, e1, ei⟩ := obind ei
    refine tB_run si.rep e1 fun H1 F1 s1 c1 => ?_
    have s01 := si.trans s1
    cases b1 with
    | false =>
      refine iteF ?_
      cases ei
      exact k σ' H1 F1 s01
    | true =>
      refine iteT ⟨fun σ2 H2 => ∃ Γ2 F2, Stp X.K X.mg ρ O Γ2 σ2 H F H2 F2 ∧ whileD t mb m Γ2 = some (fl, Γ'), fun σ2 H2 hN => ⟨m, by omega, hN⟩, ?_⟩
      obtain ⟨⟨f3, Γ3⟩, e3, ei⟩ := obind ei
      refine tS_run s01.rep e3 ?_
      cases f3 with
      | nx => exact fun σ4 H4 F4 s4 => ⟨Γ3, F4, s01.trans s4, ei⟩
      | cont => exact fun σ4 H4 F4 s4 => ⟨Γ3, F4, s01.trans s4, ei⟩
      | brk => cases ei; exact fun σ4 H4 F4 s4 => k σ4 H4 F4 (s01.trans s4)
      | ret r => cases ei; exact fun v σ4 H4 F4 s4 hr => k v σ4 H4 F4 (s01.trans s4) hr
end
end VS

set_option Elab.async false
set_option linter.all false
set_option maxRecDepth 100000
set_option maxHeartbeats 4000000
namespace VS
open PySem L2 PyProof.Rows

/-! ### list comprehensions -/
def wipeE (Γ : VEnv) : List Nat → VEnv
  | [] => Γ
  | v :: vs => setCell (wipeE Γ vs) v .un
/-- the slots vs as they were ahead of the comprehension -/
def backE (Γ Γe : VEnv) : List Nat → VEnv
  | [] => Γe
  | v :: vs => match Γ.sl[v]? with
    | some c => setCell (backE Γ Γe vs) v c
    | none => backE Γ Γe vs
def okW (Γ : VEnv) (vs : List Nat) : Bool := vs.all fun i => match Γ.sl[i]? with
  | some (.own _) => false
  | _ => true
def lcD (vs : List Nat) (g : MG) (tt : MB) (m : M) : List D → List D → VEnv → Option (List D × VEnv)
  | [], acc, Γ => some (acc, Γ)
  | d :: ds, acc, Γ => (g (.val d) Γ).bind fun Γ1 => (tt Γ1).bind fun p => if p.1 = true then
      (m p.2).bind fun q => (freeze q.1 q.2).bind fun z => if acc.length < sizeLine then lcD vs g tt m ds (acc ++ [z.1]) (wipeE z.2 vs) else none
    else lcD vs g tt m ds acc (wipeE p.2 vs)
def mLc (vs : List Nat) (mi : MI) (g : MG) (tt : MB) (m : M) : M := fun Γ => (mi Γ).bind fun p => if okW p.2 vs = true then
  (lcD vs g tt m p.1 [] (wipeE p.2 vs)).map fun q => (.fresh (.lst q.1), backE p.2 q.2 vs) else none
def mYes : MB := fun Γ => some (true, Γ)
section
variable {K : PySem.W.Frag} {mg : Str → Option Value} {ρ : List Addr} {O O' : Addr → Prop} {Γ Γ' Γ1 Γe : VEnv} {σ σ' : L2.St} {H F H' F' H1 F1 : Hp} {a : Addr} {d : D} {vs : List Nat}
theorem Rep.wiped (R : Rep K mg ρ O Γ σ H F) : ∀ vs : List Nat, Rep K mg ρ O (wipeE Γ vs) (wipe σ vs) H F
  | [] => R
  | v :: vs => (Rep.wiped R vs).setCell (c := .un) (x := none) trivial
theorem wipeE_len : ∀ vs : List Nat, (wipeE Γ vs).sl.length = Γ.sl.length
  | [] => rfl
  | v :: vs => by simp [wipeE, setCell, wipeE_len vs]
theorem backE_st : ∀ vs : List Nat, (backE Γ Γe vs).st = Γe.st
  | [] => rfl
  | v :: vs => by
    simp only [backE]
    split
    · exact backE_st vs
    · exact backE_st vs
theorem backE_len : ∀ vs : List Nat, (backE Γ Γe vs).sl.length = Γe.sl.length
  | [] => rfl
  | v :: vs => by
    simp only [backE]
    split
    · simp [setCell, backE_len vs]
    · exact backE_len vs
theorem backE_at {i : Nat} (hl : Γ.sl.length = Γe.sl.length) : ∀ vs : List Nat, (backE Γ Γe vs).sl[i]? = if i ∈ vs then Γ.sl[i]? else Γe.sl[i]?
  | [] => by simp [backE]
  | v :: vs => by
    simp only [backE]
    have ih := backE_at (i := i) hl vs
    cases q : Γ.sl[v]? with
    | none =>
      simp only
      rw [ih]
      by_cases e : i = v
      · subst e
        have h1 : Γ.sl.length ≤ i := List.getElem?_eq_none_iff.mp q
        by_cases e2 : i ∈ vs
        · simp [e2]
        · simp only [e2, if_false, List.mem_cons_self, if_true, q]
          exact List.getElem?_eq_none_iff.mpr (by omega)
      · simp [e]
    | some c =>
      simp only [setCell]
      by_cases e : i = v
      · subst e
        have h1 := lt_of_get q
        rw [List.getElem?_set_self (by rw [backE_len]; omega)]
        simp [q]
      · rw [List.getElem?_set_ne (Ne.symm e), ih]
        simp [e]
/-- behind the comprehension the slots are as they were -/
theorem Rep.back (R : Rep K mg ρ O Γ σ H F) (R' : Rep K mg ρ O Γe (wipe σ vs) H' F') (hf : Same F F') (ok : okW Γ vs = true) : Rep K mg ρ O (backE Γ Γe vs) σ H' F' := by
  have hl : Γ.sl.length = Γe.sl.length := by
    have a := R.len
    have b := R'.len
    rw [wipe_length] at b
    omega
  have out : ∀ {i : Nat}, i ∉ vs → (wipe σ vs)[i]? = σ[i]? := fun h => wipe_out h
  have noown : ∀ {i : Nat} {d : D}, i ∈ vs → Γ.sl[i]? ≠ some (Cell.own d) := fun {i d} h z => by
    have := List.all_eq_true.mp ok i h
    rw [z] at this
    simp at this
  have loc : ∀ l b, LocAt ρ (backE Γ Γe vs) σ l b → LocAt ρ Γe (wipe σ vs) l b := by
    intro l b h
    cases l with
    | inl i =>
      obtain ⟨⟨d, e⟩, h1⟩ := h
      rw [backE_at hl] at e
      by_cases hi : i ∈ vs
      · rw [if_pos hi] at e; exact absurd e (noown hi)
      · rw [if_neg hi] at e; exact ⟨⟨d, e⟩, by rw [out hi]; exact h1⟩
    | inr k => obtain ⟨⟨d, e⟩, h1⟩ := h; rw [backE_st] at e; exact ⟨⟨d, e⟩, h1⟩
  refine ⟨R'.le, by rw [backE_len, ← hl]; exact R.len, fun i d e => ?_, fun i d e => ?_, fun i k e => ?_, by rw [backE_st]; exact R'.plen, fun k d e => ?_, fun k d e => ?_, fun l l' b h1 h2 => R'.inj l l' b (loc l b h1) (loc l' b h2), fun b hb => ?_⟩
  · rw [backE_at hl] at e
    by_cases hi : i ∈ vs
    · rw [if_pos hi] at e
      obtain ⟨v, h1, h2⟩ := R.vl i d e
      exact ⟨v, h1, RD.mono hf _ _ h2⟩
    · rw [if_neg hi] at e
      obtain ⟨v, h1, h2⟩ := R'.vl i d e
      exact ⟨v, by rw [← out hi]; exact h1, h2⟩
  · rw [backE_at hl] at e
    by_cases hi : i ∈ vs
    · rw [if_pos hi] at e; exact absurd e (noown hi)
    · rw [if_neg hi] at e
      obtain ⟨v, h1, h2⟩ := R'.ow i d e
      exact ⟨v, by rw [← out hi]; exact h1, h2⟩
  · rw [backE_at hl] at e
    by_cases hi : i ∈ vs
    · rw [if_pos hi] at e
      exact R.pr i k e
    · rw [if_neg hi] at e
      obtain ⟨v, h1, h2⟩ := R'.pr i k e
      exact ⟨v, h1, by rw [← out hi]; exact h2⟩
  · rw [backE_st] at e; exact R'.sow k d e
  · rw [backE_st] at e; exact R'.sfz k d e
  · obtain ⟨h1, h2, h3⟩ := R'.prot b hb
    exact ⟨h1, h2, fun l z => h3 l (loc l b z)⟩
/-- a protected object is written -/
theorem Rep.updO (R : Rep K mg ρ O Γ σ H F) (ha : O a) (hh : ∀ b, b ≠ a → H' b = H b) (hn : H' a ≠ none) : Rep K mg ρ O Γ σ H' F := by
  obtain ⟨f1, f2, f3⟩ := R.prot a ha
  have ow : ∀ {b : Addr} {d : D}, (∃ l, LocAt ρ Γ σ l b) → OwnAt K mg F H b d → OwnAt K mg F H' b d := fun {b d} hl h => h.stay (Same.refl _) h.1 (hh b fun z => by obtain ⟨l, hl⟩ := hl; rw [z] at hl; exact f3 l hl)
  refine ⟨fun b o e => ?_, R.len, R.vl, fun i d e => ?_, R.pr, R.plen, fun k d e => ?_, R.sfz, R.inj, fun b hb => ?_⟩
  · rw [hh b fun z => by rw [z, f1] at e; cases e]; exact R.le b o e
  · obtain ⟨b, h1, h2⟩ := R.ow i d e; exact ⟨b, h1, ow ⟨.inl i, ⟨d, e⟩, h1⟩ h2⟩
  · obtain ⟨b, h1, h2⟩ := R.sow k d e; exact ⟨b, h1, ow ⟨.inr k, ⟨d, e⟩, h1⟩ h2⟩
  · obtain ⟨h1, h2, h3⟩ := R.prot b hb
    refine ⟨h1, ?_, h3⟩
    by_cases e : b = a
    · rw [e]; exact hn
    · rw [hh b e]; exact h2
theorem Rep.addO (R : Rep K mg ρ O Γ σ H F) (h1 : F a = none) (h2 : H a ≠ none) (h3 : ∀ l, ¬ LocAt ρ Γ σ l a) : Rep K mg ρ (orO O (· = a)) Γ σ H F := by
  refine { R with prot := fun b hb => ?_ }
  rcases hb with hb | hb
  · exact R.prot b hb
  · subst hb; exact ⟨h1, h2, h3⟩
end
section
variable {X : Cx} {e tg iter elt : Expr} {es ifs : List Expr} {m : M} {mi : MI} {g : MG} {ws : List Nat} {tt : MB} {pos : Pos}
abbrev VTs (X : Cx) (ifs : List Expr) (m : MB) : Prop := PTs X ifs (tB X.K X.mg m)
theorem pts_of {t t' : TT} (h : PTs X ifs t) (f : ∀ σ H Q, t' σ H Q → t σ H Q) : PTs X ifs t' := ⟨fun pins s σ H Q I z => h.run pins s σ H Q I (f σ H Q z)⟩
theorem vts_nil : VTs X [] mYes := by
  refine pts_of pts_nil fun σ H Q h => ?_
  obtain ⟨ρ, O, Γ, F, b, Γ', R, e, k⟩ := h
  cases e
  exact k H F (Stp.refl R) Cells.refl
theorem vts_one {c : Expr} {t : MB} (h : VT X c t) : VTs X [c] t := pts_one h
theorem wipe_wipe {σ : L2.St} {vs : List Nat} : wipe (wipe σ vs) vs = wipe σ vs := by
  apply List.ext_getElem?
  intro j
  rw [wipe_at, wipe_length]
  by_cases hj : j ∈ vs ∧ j < σ.length
  · rw [if_pos hj, wipe_at, if_pos hj]
  · rw [if_neg hj]
theorem ve_lc {scope : Scope} {own : List (Str × Nat)} (hc : X.calm = true) (hN : X.N.Nodup) (hi : VI X tg iter mi) (ok : BlkOk X.N X.env.scope scope own) (hw : ∀ i ∈ ws, i ∈ own.map (·.2))
    (hg : ∀ (s : Shared) (H : Hp) (C : Addr) (cl : List (Str × Addr)) (fp : List Addr), VG (X.blk s H scope (compEnvC scope cl C X.env) fp) tg ws g)
    (ht : ∀ (s : Shared) (H : Hp) (C : Addr) (cl : List (Str × Addr)) (fp : List Addr), VTs (X.blk s H scope (compEnvC scope cl C X.env) fp) ifs tt)
    (he : ∀ (s : Shared) (H : Hp) (C : Addr) (cl : List (Str × Addr)) (fp : List Addr), VE (X.blk s H scope (compEnvC scope cl C X.env) fp) elt m) (hs : ∀ x, foldedSetIterable iter X.env x = pure x := by intro _; rfl) :
    PE X (.ListComp elt [⟨tg, iter, ifs, 0⟩] scope pos) (tV X.K X.mg (mLc (own.map (·.2)) mi g tt m)) ∧
    ∀ σ H Q, tV X.K X.mg (mLc (own.map (·.2)) mi g tt m) σ H Q → tLc (tI X.K X.mg mi) (tG X.K X.mg ws g) (tB X.K X.mg tt) (tV X.K X.mg m) (own.map (·.2)) σ H Q := by
  have main : ∀ σ H Q, tV X.K X.mg (mLc (own.map (·.2)) mi g tt m) σ H Q → tLc (tI X.K X.mg mi) (tG X.K X.mg ws g) (tB X.K X.mg tt) (tV X.K X.mg m) (own.map (·.2)) σ H Q := by
    intro σ H Q h
    generalize own.map (·.2) = vs at *
    obtain ⟨ρ, O, Γ, F, r, Γ', R, e, k⟩ := h
    obtain ⟨⟨ds, Γ1⟩, e1, e⟩ := obind e
    split at e
    · rename_i hok
      obtain ⟨⟨res, Γe⟩, e2, e3⟩ := omap e
      cases e3
      refine ⟨ρ, O, Γ, F, ds, Γ1, R, e1, fun J H1 F1 s1 c1 w => ?_⟩
      intro D hD
      have hFD : F1 D = none := same_none s1.rep.le hD
      have nO : ¬ O D := fun z => (s1.rep.prot D z).2.1 hD
      -- the start
      have R0 : Rep X.K X.mg ρ (orO O (· = D)) Γ1 σ (upd H1 D (.lst [])) F1 :=
        (s1.rep.grow (grow_own s1.rep.le hD)).addO hFD (by rw [upd_same]; exact fun z => nomatch z) fun l z => z.there s1.rep hD
      have ho0 : ∀ a, O a → upd H1 D (.lst []) a = H a := fun a ha => by rw [upd_ne (fun (z : a = D) => nO (z ▸ ha))]; exact s1.op a ha
      refine ⟨fun i n H' => n = ds.length - i ∧ i ≤ ds.length ∧ ∃ Γi Fi acc accV, Rep X.K X.mg ρ (orO O (· = D)) Γi (wipe σ vs) H' Fi ∧ Same F1 Fi ∧ (∀ a, O a → H' a = H a) ∧ H' D = some (.lst accV) ∧ RDs X.K X.mg Fi acc accV ∧
          lcD vs g tt m (ds.drop i) acc Γi = some (res, Γe),
        ⟨_, rfl, Nat.zero_le _, wipeE Γ1 vs, F1, [], [], R0.wiped vs, Same.refl _, ho0, upd_same, by simp only [RDs], by simpa using e2⟩, fun i n H' hW => ?_⟩
      obtain ⟨rfl, hi, Γi, Fi, acc, accV, Ri, hfi, hoi, hDi, hai, ei⟩ := hW
      have hsame : Same F1 H' := hfi.trans Ri.le
      by_cases hlt : i < ds.length
      · refine .inr ⟨w.goes i H' hlt hsame, fun H2 => ∃ Γ2 F2 acc2 accV2, Rep X.K X.mg ρ (orO O (· = D)) Γ2 (wipe σ vs) H2 F2 ∧ Same F1 F2 ∧ (∀ a, O a → H2 a = H a) ∧ H2 D = some (.lst accV2) ∧ RDs X.K X.mg F2 acc2 accV2 ∧
            lcD vs g tt m (ds.drop (i + 1)) acc2 Γ2 = some (res, Γe), fun H2 hN => ?_, fun x H2 hy => ?_⟩
        · obtain ⟨Γ2, F2, acc2, accV2, h1, h2, h3, h4, h5, h6⟩ := hN
          exact ⟨ds.length - (i + 1), by omega, rfl, by omega, Γ2, F2, acc2, accV2, h1, h2, h3, h4, h5, h6⟩
        · obtain ⟨F2, d, hd, gr, rd⟩ := w.yields i H' x H2 Fi hlt hy hfi Ri.le
          have edrop : ds.drop i = d :: ds.drop (i + 1) := by
            rw [List.drop_eq_getElem_cons hlt]
            congr 1
            rw [List.getElem?_eq_getElem hlt] at hd
            exact Option.some.inj hd
          rw [edrop] at ei
          simp only [lcD] at ei
          obtain ⟨Γ2, e4, ei⟩ := obind ei
          obtain ⟨⟨b5, Γ3⟩, e5, ei⟩ := obind ei
          have R2 := Ri.grow gr
          refine tG_run (r := .val d) R2 rd e4 fun σ3 H3 F3 s3 hw3 => ?_
          have hw3' : wipe σ3 vs = wipe σ vs := (hw3 vs hw).trans wipe_wipe
          refine ⟨hw3', ?_⟩
          refine tB_run s3.rep e5 fun H4 F4 s4 c4 => ?_
          have s34 := s3.trans s4
          have hf4 : Same F1 F4 := (hfi.trans gr.fs).trans s34.fs
          have ho4 : ∀ a, O a → H4 a = H a := fun a ha => ((s34.op a (.inl ha)).trans (Ri.opres gr.hs a (.inl ha))).trans (hoi a ha)
          have hD4 : H4 D = some (.lst accV) := ((s34.op D (.inr rfl)).trans (Ri.opres gr.hs D (.inr rfl))).trans hDi
          have ha4 : RDs X.K X.mg F4 acc accV := RDs.mono (gr.fs.trans s34.fs) _ _ hai
          cases b5 with
          | false =>
            refine iteF ⟨wipeE Γ3 vs, F4, acc, accV, ?_, hf4, ho4, hD4, ha4, ei⟩
            have := s4.rep.wiped vs
            rw [hw3'] at this
            exact this
          | true =>
            refine iteT ?_
            obtain ⟨⟨r6, Γ4⟩, e6, ei⟩ := obind ei
            obtain ⟨⟨d7, Γ5⟩, e7, ei⟩ := obind ei
            split at ei
            · rename_i hz
              refine tV_run s4.rep e6 fun y H5 F5 s5 c5 r5 => ?_
              obtain ⟨F6, R6, s6, rd6, c6⟩ := freeze_ok s5.rep r5 e7
              have hD5 : H5 D = some (.lst accV) := (s5.op D (.inr rfl)).trans hD4
              have ha6 : RDs X.K X.mg F6 acc accV := RDs.mono (s5.fs.trans s6) _ _ ha4
              refine ⟨accV, hD5, by rw [← ha6.length]; exact hz, wipeE Γ5 vs, F6, acc ++ [d7], accV ++ [y], ?_, (hf4.trans s5.fs).trans s6, fun a ha => ?_, upd_same, ha6.append (by simp only [RDs]; exact ⟨y, [], rfl, rd6, rfl⟩), ei⟩
              · have := (R6.updO (a := D) (.inr rfl) (H' := upd H5 D (.lst (accV ++ [y]))) (fun b hb => upd_ne hb) (by rw [upd_same]; exact fun z => nomatch z)).wiped vs
                rw [hw3'] at this
                exact this
              · rw [upd_ne (fun (z : a = D) => nO (z ▸ ha)), s5.op a (.inl ha)]
                exact ho4 a ha
            · cases ei
      · have hi' : i = ds.length := by omega
        subst hi'
        refine .inl ⟨w.stops H' hsame, ?_⟩
        rw [List.drop_length] at ei
        cases ei
        have Rb : Rep X.K X.mg ρ (orO O (· = D)) (backE Γ1 Γe vs) σ H' Fi := by
          have R1' : Rep X.K X.mg ρ (orO O (· = D)) Γ1 σ (upd H1 D (.lst [])) F1 := R0
          exact R1'.back Ri hfi hok
        have hloc : ∀ l, ¬ LocAt ρ (backE Γ1 Γe vs) σ l D := (Rb.prot D (.inr rfl)).2.2
        have hFi : Fi D = none := (Rb.prot D (.inr rfl)).1
        refine k (.ref D) H' Fi ⟨Rb.weakO fun a z => .inl z, s1.fs.trans hfi, hoi⟩ trivial ⟨D, rfl, ⟨hFi, accV, hDi, hai⟩, nO, hloc⟩
    · cases e
  exact ⟨pe_of (pe_lc hc hN hi ok hg ht he hs) main, main⟩
end
end VS

set_option Elab.async false
set_option linter.all false
set_option maxRecDepth 100000
set_option maxHeartbeats 4000000
namespace VS
open PySem L2 PyProof.Rows

section
variable {X : Cx} {e tg iter elt : Expr} {es ifs : List Expr} {m : M} {mi : MI} {g : MG} {ws : List Nat} {tt : MB} {pos : Pos}
/-- y = [..], y a plain local, on one line -/
theorem vs_setLc {i : Nat} {y : Str} {py spos : Pos} {scope : Scope} {own : List (Str × Nat)} (hc : X.calm = true) (hN : X.N.Nodup) (hi : VI X tg iter mi) (ok : BlkOk X.N X.env.scope scope own) (hw : ∀ i ∈ ws, i ∈ own.map (·.2))
    (hg : ∀ (s : Shared) (H : Hp) (C : Addr) (cl : List (Str × Addr)) (fp : List Addr), VG (X.blk s H scope (compEnvC scope cl C X.env) fp) tg ws g)
    (ht : ∀ (s : Shared) (H : Hp) (C : Addr) (cl : List (Str × Addr)) (fp : List Addr), VTs (X.blk s H scope (compEnvC scope cl C X.env) fp) ifs tt)
    (he : ∀ (s : Shared) (H : Hp) (C : Addr) (cl : List (Str × Addr)) (fp : List Addr), VE (X.blk s H scope (compEnvC scope cl C X.env) fp) elt m)
    (hy : X.N[i]? = some y := by rfl) (hyl : X.env.scope.names.lookup y = some .local := by rfl) (hsw : swapsWith (.ListComp elt [⟨tg, iter, ifs, 0⟩] scope pos) (some (.Name y py)) spos.line X.env = pure true := by exact sw_true rfl rfl rfl (by decide +kernel)) (hs : ∀ x, foldedSetIterable iter X.env x = pure x := by intro _; rfl) :
    VSt X (.Assign [.Name y py] (.ListComp elt [⟨tg, iter, ifs, 0⟩] scope pos) spos) (mAsg (mLc (own.map (·.2)) mi g tt m) (asgn i)) := by
  refine ps_of (ps_setLc (g := tG X.K X.mg ws g) (tt := tB X.K X.mg tt) (te := tV X.K X.mg m) hc hN hy hyl hsw hi ok hg ht he hs) fun D σ H h => ?_
  obtain ⟨ρ, O, Γ, F, fl, Γ', R, e, k⟩ := h
  obtain ⟨⟨r, Γ1⟩, e1, e⟩ := obind e
  obtain ⟨Γ2, e2, e3⟩ := omap e
  cases e3
  refine (ve_lc (pos := pos) hc hN hi ok hw hg ht he hs).2 σ H _ (tV_run R e1 fun v H1 F1 s1 c1 r1 => ?_)
  obtain ⟨F2, R2, s2⟩ := asgn_ok s1.rep r1 e2
  exact k _ H1 F2 (s1.trans ⟨R2, s2, fun _ _ => rfl⟩)
end
/-! ### methods that write their list -/
/-- the arguments are frozen, the list is written; the answer is data -/
def MutV (K : PySem.W.Frag) (mg : Str → Option Value) (r : V → List V → Hp → VK → Prop) (g : List D → List D → Option (D × List D)) : Prop :=
  ∀ (F H : Hp) (a : Addr) (xs : List V) (cs ds : List D) (res : D) (cs' : List D) (Q : VK), Same F H → OwnAt K mg F H a (.lst cs) → RDs K mg F ds xs → g cs ds = some (res, cs') →
    (∀ v H', (∀ b, b ≠ a → H' b = H b) → OwnAt K mg F H' a (.lst cs') → RD K mg F res v → Q v H') → r (.ref a) xs H Q
def MutX (X : Cx) (id : String) (g : List D → List D → Option (D × List D)) : Prop := ∃ r, MtR X id r ∧ MutV X.K X.mg r g
def mMut (g : List D → List D → Option (D × List D)) (mo : M) (ml : ML) : M := fun Γ => (mo Γ).bind fun p => (content p.2 p.1).bind fun c0 => match c0 with
  | .lst _ => (ml p.2).bind fun q => (freezeL q.1 q.2).bind fun z => (content z.2 p.1).bind fun c => match c with
    | .lst cs => (g cs z.1).map fun w => (.val w.1, putC z.2 (.lst w.2) p.1)
    | _ => none
  | _ => none
section
variable {X : Cx} {e o : Expr} {es : List Expr} {mo : M} {ml : ML} {pos apos : Pos} {name : Str}
theorem content_later {K : PySem.W.Frag} {mg : Str → Option Value} {ρ : List Addr} {O : Addr → Prop} {Γ Γ' : VEnv} {σ : L2.St} {H F : Hp} {r : EV} {v : V} {d : D} (h : RepEV K mg ρ O Γ σ H F r v) (e : content Γ' r = some d) (hc : Cells Γ Γ') {H' F' : Hp} {O' : Addr → Prop} : RepEV K mg ρ O' Γ' σ H' F' r v := by
  cases r with
  | val d => cases e
  | fresh d => cases e
  | slot i => exact ⟨h.1, trivial⟩
  | par k => exact h
theorem mut_run {r : V → List V → Hp → VK → Prop} {g : List D → List D → Option (D × List D)} (hv : MutV X.K X.mg r g) {σ : L2.St} {H : Hp} {Q : VK} (h : tV X.K X.mg (mMut g mo ml) σ H Q) : tBM X.K "list" r (tV X.K X.mg mo) (tL X.K X.mg ml) σ H Q := by
  obtain ⟨ρ, O, Γ, F, res, Γ', R, e, k⟩ := h
  obtain ⟨⟨ro, Γ1⟩, e1, e⟩ := obind e
  obtain ⟨c0, e2, e⟩ := obind e
  cases c0 with
  | lst cs0 =>
    obtain ⟨⟨rs, Γ2⟩, e3, e⟩ := obind e
    obtain ⟨⟨ds, Γ3⟩, e4, e⟩ := obind e
    obtain ⟨c, e5, e⟩ := obind e
    cases c with
    | lst cs =>
      obtain ⟨⟨d, cs'⟩, e6, e7⟩ := omap e
      cases e7
      refine tV_run R e1 fun v H1 F1 s1 c1 r1 => ?_
      obtain ⟨a, rfl, ho, _⟩ := mut_ok s1.rep r1 e2
      obtain ⟨_, vs0, h1, _⟩ := id ho
      refine ⟨.inl ⟨rfl, vs0, .inl (.inl h1)⟩, ?_⟩
      refine tL_run s1.rep e3 fun vs H2 F2 s2 c2 r2 => ?_
      obtain ⟨F3, R3, s3, rd, c3⟩ := freezeL_ok s2.rep r2 e4
      have st : Stp X.K X.mg ρ O Γ3 σ H F H2 F3 := (s1.trans s2).trans ⟨R3, s3, fun _ _ => rfl⟩
      have ro3 : RepEV X.K X.mg ρ O Γ3 σ H2 F3 ro (.ref a) := content_later r1 e5 (c2.trans c3)
      obtain ⟨a', q0, ho3, hm⟩ := mut_ok R3 ro3 e5
      cases q0
      refine hv F3 H2 a vs cs ds d cs' Q R3.le ho3 rd e6 fun v H3 hh how rv => ?_
      obtain ⟨R4, op4⟩ := hm H3 _ hh how
      exact k v H3 F3 (st.trans ⟨R4, Same.refl _, op4⟩) trivial rv
    | _ => cases e
  | _ => cases e
theorem ve_mut {id : String} {g : List D → List D → Option (D × List D)} (hm : MutX X id g) (slot : Slot "list" name id) (hty : typeOf (.builtin id) = pure (.type "method_descriptor")) (ho : VE X o mo) (ha : VA X (e :: es) ml)
    (hbase : attributeBase o name X.env (eval o X.env) = eval o X.env := by rfl)
    (hfew : ((backTo pos (starEach (e :: es) X.env)).all (fun x => !x.1) && (backToKw pos (keywordEach [] X.env)).all (fun x => x.1.isSome)
      && decide ((e :: es).length + ([] : List Keyword).length + (if ([] : List Keyword).isEmpty then 0 else 1) < 30)) = true := by rfl)
    (hline : (apos.endLine == pos.line) = true := by rfl) (hs : starEach (e :: es) X.env = (false, eval e X.env) :: starEach es X.env := by rfl) (hplain : (backTo pos (starEach es X.env)).any (·.1) = false := by rfl) :
    VE X (.Call (.Attribute o name apos) (e :: es) [] pos) (mMut g mo ml) := by
  obtain ⟨r, h1, h2⟩ := hm
  exact pe_of (pe_bm PySem.F.plainAttrs_list slot hty h1 ho ha hbase hfew hline hs hplain) fun σ H Q h => mut_run h2 h
theorem ve_mut0 {id : String} {g : List D → List D → Option (D × List D)} (hm : MutX X id g) (slot : Slot "list" name id) (hty : typeOf (.builtin id) = pure (.type "method_descriptor")) (ho : VE X o mo)
    (hbase : attributeBase o name X.env (eval o X.env) = eval o X.env := by rfl) (hline : (apos.endLine == pos.line) = true := by rfl) :
    VE X (.Call (.Attribute o name apos) [] [] pos) (mMut g mo mNil) := by
  obtain ⟨r, h1, h2⟩ := hm
  refine pe_of (pe_bm0 PySem.F.plainAttrs_list slot hty h1 ho hbase hline) fun σ H Q h => ?_
  obtain h := mut_run h2 h
  refine (?_ : ∀ t, tBM X.K "list" r (tV X.K X.mg mo) t σ H Q → (∀ σ H Q, t σ H Q → Q [] H) → tBM0 X.K "list" r (tV X.K X.mg mo) σ H Q) _ h fun σ H Q ht => ?_
  · intro t ht h0
    obtain ⟨ρ, O, Γ, F, rr, Γ', R, e, k⟩ := ht
    exact ⟨ρ, O, Γ, F, rr, Γ', R, e, fun v H' F' s c rv => ⟨(k v H' F' s c rv).1, h0 _ _ _ (k v H' F' s c rv).2⟩⟩
  · obtain ⟨ρ, O, Γ, F, rs, Γ', R, e, k⟩ := ht
    cases e
    exact k [] H F (Stp.refl R) Cells.refl (by simp only [RepL])
variable {K : PySem.W.Frag} {mg : Str → Option Value}
def gAppend : List D → List D → Option (D × List D)
  | cs, [d] => if cs.length < sizeLine then some (.non, cs ++ [d]) else none
  | _, _ => none
theorem OwnAt.put {F H : Hp} {a : Addr} {d : D} {cs : List D} {vs : List V} (h : OwnAt K mg F H a d) (rd : RDs K mg F cs vs) : OwnAt K mg F (upd H a (.lst vs)) a (.lst cs) := ⟨h.1, vs, upd_same, rd⟩
theorem mx_append : MutX X "list.append" gAppend := by
  refine ⟨_, mt_append, fun F H a xs cs ds res cs' Q hl ho rd hg k => ?_⟩
  obtain ⟨_, vs, h1, h2⟩ := id ho
  unfold gAppend at hg
  split at hg
  · split at hg
    · rename_i d hz
      cases hg
      simp only [RDs] at rd
      obtain ⟨v, r, rfl, hv, rfl⟩ := rd
      exact ⟨a, vs, v, rfl, rfl, h1, by rw [← h2.length]; exact hz, k _ _ (fun b hb => upd_ne hb) (ho.put (h2.append (by simp only [RDs]; exact ⟨v, [], rfl, hv, rfl⟩))) (by simp only [RD])⟩
    · cases hg
  · cases hg
def gPop : List D → List D → Option (D × List D)
  | cs, [] => (cs[cs.length - 1]?).map fun d => (d, cs.dropLast)
  | _, _ => none
theorem RDs.dropLast {F : Hp} {cs : List D} {vs : List V} (h : RDs K mg F cs vs) : RDs K mg F cs.dropLast vs.dropLast := by
  rw [List.dropLast_eq_take, List.dropLast_eq_take, h.length]
  exact h.take _
theorem mx_pop : MutX X "list.pop" gPop := by
  refine ⟨_, mt_pop, fun F H a xs cs ds res cs' Q hl ho rd hg k => ?_⟩
  obtain ⟨_, vs, h1, h2⟩ := id ho
  unfold gPop at hg
  split at hg
  · obtain ⟨d, e1, e2⟩ := omap hg
    cases e2
    simp only [RDs] at rd
    subst rd
    obtain ⟨v, e3, hv⟩ := h2.get e1
    exact ⟨a, vs, v, rfl, rfl, h1, by rw [← h2.length]; exact e3, k _ _ (fun b hb => upd_ne hb) (ho.put h2.dropLast) hv⟩
  · cases hg
theorem sm62 {i : Int} (h : i.natAbs / 4611686018427387904 = 0) : -(2 ^ 63) ≤ i ∧ i < 2 ^ 63 := by
  rw [Nat.div_eq_zero_iff] at h
  have h3 : i.natAbs < 4611686018427387904 := by
    rcases h with h | h
    · cases h
    · exact h
  have e : (2 ^ 63 : Int) = 9223372036854775808 := by decide
  rw [e]
  omega
def gPopAt : List D → List D → Option (D × List D)
  | cs, [.int i] => if i.natAbs / 4611686018427387904 = 0 then (seqIndex? i cs.length).bind fun k => (cs[k]?).map fun d => (d, cs.eraseIdx k) else none
  | _, _ => none
theorem RDs.eraseIdx {F : Hp} : ∀ {cs : List D} {vs : List V} (k : Nat), RDs K mg F cs vs → RDs K mg F (cs.eraseIdx k) (vs.eraseIdx k)
  | [], vs, k, h => by simp only [RDs] at h; subst h; simp [RDs]
  | c :: cs, vs, 0, h => by
    simp only [RDs] at h
    obtain ⟨v, r, rfl, _, h⟩ := h
    simpa using h
  | c :: cs, vs, k + 1, h => by
    simp only [RDs] at h
    obtain ⟨v, r, rfl, h1, h⟩ := h
    simp only [List.eraseIdx_cons_succ, RDs]
    exact ⟨v, _, rfl, h1, RDs.eraseIdx k h⟩
theorem mx_popAt : MutX X "list.pop" gPopAt := by
  refine ⟨_, mt_popAt, fun F H a xs cs ds res cs' Q hl ho rd hg k => ?_⟩
  obtain ⟨_, vs, h1, h2⟩ := id ho
  unfold gPopAt at hg
  split at hg
  · rename_i i
    split at hg
    · rename_i hi
      have hi : -(2 ^ 63) ≤ i ∧ i < 2 ^ 63 := sm62 hi
      obtain ⟨j, e1, hg⟩ := obind hg
      obtain ⟨d, e2, e3⟩ := omap hg
      cases e3
      simp only [RDs, RD] at rd
      obtain ⟨v, r, rfl, rfl, rfl⟩ := rd
      obtain ⟨v, e4, hv⟩ := h2.get e2
      exact ⟨a, vs, i, j, v, rfl, rfl, h1, hi.1, hi.2, by rw [← h2.length]; exact e1, e4, k _ _ (fun b hb => upd_ne hb) (ho.put (h2.eraseIdx j)) hv⟩
    · cases hg
  · cases hg
def gReverse : List D → List D → Option (D × List D)
  | cs, [] => some (.non, cs.reverse)
  | _, _ => none
theorem mx_reverse : MutX X "list.reverse" gReverse := by
  refine ⟨_, mt_reverse, fun F H a xs cs ds res cs' Q hl ho rd hg k => ?_⟩
  obtain ⟨_, vs, h1, h2⟩ := id ho
  unfold gReverse at hg
  split at hg
  · cases hg
    simp only [RDs] at rd
    subst rd
    exact ⟨a, vs, rfl, rfl, h1, k _ _ (fun b hb => upd_ne hb) (ho.put h2.rev) (by simp only [RD])⟩
  · cases hg
def gClear : List D → List D → Option (D × List D)
  | _, [] => some (.non, [])
  | _, _ => none
theorem mx_clear : MutX X "list.clear" gClear := by
  refine ⟨_, mt_clear, fun F H a xs cs ds res cs' Q hl ho rd hg k => ?_⟩
  obtain ⟨_, vs, h1, h2⟩ := id ho
  unfold gClear at hg
  split at hg
  · cases hg
    simp only [RDs] at rd
    subst rd
    exact ⟨a, vs, rfl, rfl, h1, k _ _ (fun b hb => upd_ne hb) (ho.put (by simp only [RDs])) (by simp only [RD])⟩
  · cases hg
end
end VS

set_option Elab.async false
set_option linter.all false
set_option maxRecDepth 100000
set_option maxHeartbeats 4000000
namespace VS
open PySem L2 PyProof.Rows

/-! ### extend -/
def ownOf (Γ : VEnv) : EV → Option D
  | .fresh d => some d
  | r => content Γ r
def mExt (mo m : M) : M := fun Γ => (mo Γ).bind fun p => (content p.2 p.1).bind fun c0 => match c0 with
  | .lst _ => (m p.2).bind fun q => (ownOf q.2 q.1).bind fun z => (content q.2 p.1).bind fun c => match c, z with
    | .lst cs, .lst ds => if cs.length + ds.length ≤ sizeLine then some (.val .non, putC q.2 (.lst (cs ++ ds)) p.1) else none
    | _, _ => none
  | _ => none
section
variable {X : Cx} {e o : Expr} {mo m : M} {pos apos : Pos}
theorem ownOf_ok {K : PySem.W.Frag} {mg : Str → Option Value} {ρ : List Addr} {O : Addr → Prop} {Γ : VEnv} {σ : L2.St} {H F : Hp} {r : EV} {v : V} {d : D} (R : Rep K mg ρ O Γ σ H F) (h : RepEV K mg ρ O Γ σ H F r v) (e : ownOf Γ r = some d) : ∃ a, v = .ref a ∧ OwnAt K mg F H a d := by
  cases r with
  | val d => cases e
  | fresh d => cases e; obtain ⟨p, h1, h2, _⟩ := h; exact ⟨p, h1, h2⟩
  | slot i => obtain ⟨a, h1, h2, _⟩ := mut_ok R h e; exact ⟨a, h1, h2⟩
  | par i => obtain ⟨a, h1, h2, _⟩ := mut_ok R h e; exact ⟨a, h1, h2⟩
theorem ve_extend (ho : VE X o mo) (he : VE X e m)
    (hbase : attributeBase o "extend" X.env (eval o X.env) = eval o X.env := by rfl)
    (hfew : ((backTo pos (starEach [e] X.env)).all (fun x => !x.1) && (backToKw pos (keywordEach [] X.env)).all (fun x => x.1.isSome)
      && decide ([e].length + ([] : List Keyword).length + (if ([] : List Keyword).isEmpty then 0 else 1) < 30)) = true := by rfl)
    (hline : (apos.endLine == pos.line) = true := by rfl) (hs : starEach [e] X.env = (false, eval e X.env) :: starEach [] X.env := by rfl) (hplain : (backTo pos (starEach [] X.env)).any (·.1) = false := by rfl) :
    VE X (.Call (.Attribute o "extend" apos) [e] [] pos) (mExt mo m) := by
  refine pe_of (pe_bm PySem.F.plainAttrs_list PySem.F.slot_list_extend PySem.F.type_list_extend mt_extend ho (va_cons he va_nil hs) hbase hfew hline hs hplain) fun σ H Q h => ?_
  obtain ⟨ρ, O, Γ, F, res, Γ', R, e, k⟩ := h
  obtain ⟨⟨ro, Γ1⟩, e1, e⟩ := obind e
  obtain ⟨c0, e2, e⟩ := obind e
  cases c0 with
  | lst cs0 =>
    obtain ⟨⟨r, Γ2⟩, e3, e⟩ := obind e
    obtain ⟨z, e4, e⟩ := obind e
    obtain ⟨c, e5, e⟩ := obind e
    cases c with
    | lst cs =>
      cases z with
      | lst ds =>
        simp only at e
        split at e
        · rename_i hz
          cases e
          refine tV_run R e1 fun v H1 F1 s1 c1 r1 => ?_
          obtain ⟨a, rfl, ho, _⟩ := mut_ok s1.rep r1 e2
          obtain ⟨_, vs0, h1, _⟩ := id ho
          refine ⟨.inl ⟨rfl, vs0, .inl (.inl h1)⟩, ?_⟩
          have em : mCons m mNil Γ1 = some ([r], Γ2) := by simp only [mCons, e3, Option.bind_some, mNil, Option.map_some]
          refine tL_run s1.rep em fun vs H2 F2 s2 c2 r2 => ?_
          simp only [RepL] at r2
          obtain ⟨v2, ws, rfl, r2, rfl⟩ := r2
          have st : Stp X.K X.mg ρ O Γ2 σ H F H2 F2 := s1.trans s2
          have ro3 : RepEV X.K X.mg ρ O Γ2 σ H2 F2 ro (.ref a) := content_later r1 e5 c2
          obtain ⟨a', q0, ho3, hm⟩ := mut_ok st.rep ro3 e5
          cases q0
          obtain ⟨b, rfl, hb⟩ := ownOf_ok st.rep r2 e4
          obtain ⟨_, vs1, g1, g2⟩ := id ho3
          obtain ⟨_, vs2, g3, g4⟩ := id hb
          refine ⟨a, b, vs1, vs2, rfl, rfl, g1, g3, by rw [← g2.length, ← g4.length]; exact hz, ?_⟩
          obtain ⟨R4, op4⟩ := hm (upd H2 a (.lst (vs1 ++ vs2))) (.lst (cs ++ ds)) (fun b hb => upd_ne hb) (ho3.put (g2.append g4))
          exact k .non _ F2 (st.trans ⟨R4, Same.refl _, op4⟩) trivial (by simp only [RepEV, RD])
        · cases e
      | _ => cases e
    | _ => cases e
  | _ => cases e
end
/-! ### defs -/
abbrev Sem' := List Cell → List SC → Option (EV × List SC)
/-- the promise of a def with n parameters that does what f says -/
def spV (K : PySem.W.Frag) (mg : Str → Option Value) (n : Nat) (f : Sem') : Sp := fun vs H Q _ => vs.length = n ∧ ∃ cells ρ F O st r st', Rep K mg ρ O ⟨cells, st⟩ (vs.map some) H F ∧ f cells st = some (r, st') ∧
  ∀ v H' F', Stp K mg ρ O ⟨[], st'⟩ [] H F H' F' → RepEV K mg ρ O ⟨[], st'⟩ [] H' F' r v → Q v H'
def retEV (r : EV) (Γ : VEnv) : Option (EV × List SC) := match r with
  | .val d => some (.val d, Γ.st)
  | .fresh d => some (.fresh d, Γ.st)
  | .slot i => match Γ.sl[i]? with
    | some (.own d) => some (.fresh d, Γ.st)
    | some (.val d) => some (.val d, Γ.st)
    | _ => none
  | .par k => some (.par k, Γ.st)
/-- a body with p parameters and n slots as a def -/
def defOf (p n : Nat) (m : MS) : Sem' := fun cells st => if cells.length = p then (m ⟨cells ++ List.replicate (n - p) .un, st⟩).bind fun q => match q.1 with
  | .ret r => retEV r q.2
  | .nx => some (.val .non, q.2.st)
  | _ => none else none
section
variable {K : PySem.W.Frag} {mg : Str → Option Value} {ρ : List Addr} {O O' : Addr → Prop} {Γ Γ' : VEnv} {σ σ' : L2.St} {H F H' F' : Hp} {r : EV} {v : V} {d : D} {a : Addr}
/-- the slots are given up -/
theorem Rep.drop (R : Rep K mg ρ O Γ σ H F) : Rep K mg ρ O ⟨[], Γ.st⟩ [] H F where
  le := R.le
  len := rfl
  vl := fun i d e => by simp at e
  ow := fun i d e => by simp at e
  pr := fun i k e => by simp at e
  plen := R.plen
  sow := R.sow
  sfz := R.sfz
  inj := fun l l' b h1 h2 => by
    have f : ∀ l, LocAt ρ ⟨[], Γ.st⟩ [] l b → LocAt ρ Γ σ l b := fun l h => by
      cases l with
      | inl i => obtain ⟨⟨d, e⟩, _⟩ := h; simp at e
      | inr k => exact h
    exact R.inj l l' b (f l h1) (f l' h2)
  prot := fun b hb => ⟨(R.prot b hb).1, (R.prot b hb).2.1, fun l h => by
    cases l with
    | inl i => obtain ⟨⟨d, e⟩, _⟩ := h; simp at e
    | inr k => exact (R.prot b hb).2.2 (.inr k) h⟩
theorem locDrop {l : Nat ⊕ Nat} (h : LocAt ρ ⟨[], Γ.st⟩ [] l a) : LocAt ρ Γ σ l a := by
  cases l with
  | inl i => obtain ⟨⟨d, e⟩, _⟩ := h; simp at e
  | inr k => exact h
theorem retEV_ok {st : List SC} {r' : EV} (R : Rep K mg ρ O Γ σ H F) (h : RepEV K mg ρ O Γ σ H F r v) (e : retEV r Γ = some (r', st)) : st = Γ.st ∧ RepEV K mg ρ O ⟨[], st⟩ [] H F r' v := by
  cases r with
  | val d => cases e; exact ⟨rfl, h⟩
  | fresh d => cases e; obtain ⟨p, h1, h2, h3, h4⟩ := h; exact ⟨rfl, p, h1, h2, h3, fun l z => h4 l (locDrop z)⟩
  | slot i =>
    simp only [retEV] at e
    cases q : Γ.sl[i]? with
    | none => rw [q] at e; cases e
    | some c =>
      rw [q] at e
      cases c with
      | own d =>
        cases e
        obtain ⟨a, h1, h2⟩ := R.ow i d q
        have e0 := h.1
        rw [h1] at e0; cases e0
        have la : LocAt ρ Γ σ (.inl i) a := ⟨⟨d, q⟩, h1⟩
        refine ⟨rfl, a, rfl, h2, fun z => (R.prot a z).2.2 (.inl i) la, fun l z => ?_⟩
        have := R.inj l (.inl i) a (locDrop z) la
        subst this
        obtain ⟨⟨d, e⟩, _⟩ := z
        simp at e
      | val d => cases e; obtain ⟨a, h1, h2⟩ := R.vl i d q; have e0 := h.1; rw [h1] at e0; cases e0; exact ⟨rfl, h2⟩
      | un => cases e
      | par k => cases e
  | par k => cases e; exact ⟨rfl, h⟩
theorem rep_start {cells : List Cell} {st : List SC} {vs : List V} {N : List Str} (R : Rep K mg ρ O ⟨cells, st⟩ (vs.map some) H F) (hl : vs.length ≤ N.length) : Rep K mg ρ O ⟨cells ++ List.replicate (N.length - cells.length) .un, st⟩ (L2.start N vs) H F := by
  have hc : cells.length = vs.length := by have := R.len; simpa using this.symm
  have gc : ∀ {i : Nat} {c : Cell}, (cells ++ List.replicate (N.length - cells.length) .un)[i]? = some c → c ≠ .un → cells[i]? = some c ∧ i < vs.length := by
    intro i c h hn
    by_cases hi : i < cells.length
    · rw [List.getElem?_append_left hi] at h; exact ⟨h, by omega⟩
    · rw [List.getElem?_append_right (by omega)] at h
      have := List.getElem?_replicate (n := N.length - cells.length) (a := Cell.un) (i := i - cells.length)
      rw [h] at this
      split at this
      · exact absurd (Option.some.inj this) hn
      · cases this
  have gs : ∀ {i : Nat}, i < vs.length → (L2.start N vs)[i]? = (vs.map some)[i]? := fun hi => by
    unfold L2.start
    rw [List.getElem?_append_left (by simpa using hi)]
  have loc : ∀ l b, LocAt ρ ⟨cells ++ List.replicate (N.length - cells.length) .un, st⟩ (L2.start N vs) l b → LocAt ρ ⟨cells, st⟩ (vs.map some) l b := by
    intro l b h
    cases l with
    | inl i =>
      obtain ⟨⟨d, e⟩, h1⟩ := h
      obtain ⟨e1, e2⟩ := gc e (fun z => nomatch z)
      exact ⟨⟨d, e1⟩, by rw [← gs e2]; exact h1⟩
    | inr k => exact h
  refine ⟨R.le, by simp [L2.start]; omega, fun i d e => ?_, fun i d e => ?_, fun i k e => ?_, R.plen, R.sow, R.sfz, fun l l' b h1 h2 => R.inj l l' b (loc l b h1) (loc l' b h2), fun b hb => ⟨(R.prot b hb).1, (R.prot b hb).2.1, fun l z => (R.prot b hb).2.2 l (loc l b z)⟩⟩
  · obtain ⟨e1, e2⟩ := gc e (fun z => nomatch z)
    obtain ⟨v, h1, h2⟩ := R.vl i d e1
    exact ⟨v, by rw [gs e2]; exact h1, h2⟩
  · obtain ⟨e1, e2⟩ := gc e (fun z => nomatch z)
    obtain ⟨v, h1, h2⟩ := R.ow i d e1
    exact ⟨v, by rw [gs e2]; exact h1, h2⟩
  · obtain ⟨e1, e2⟩ := gc e (fun z => nomatch z)
    obtain ⟨v, h1, h2⟩ := R.pr i k e1
    exact ⟨v, h1, by rw [gs e2]; exact h2⟩
end
section
variable {P : Program} {w : World} {K : PySem.W.Frag} {mg : Str → Option Value} {base : Heap}
/-- a def of the text does what its mirror says -/
theorem fn_ok {x qual : Str} {st : Stmt} {f : Addr} {fd : FuncData} {N ps : List Str} {k : Nat} {m : MS} (F : Fun K x qual st f fd) (S : FnScope N ps (defScope st))
    (hb : ∀ (cdv : Value) (A : Around) (outer : List PySem.Env) (s : Shared) (H : Hp) (E : XK), Room k (A.deeper (envOfC qual (defScope st) s.heap.objs.size f cdv)) → VSs (cxOf CX0 P w K mg base N qual (defScope st) f cdv A outer s H E).nox (defBody st) m)
    (hps : ps.length ≤ N.length := by decide) : FnOk P w K mg base CX0 (k + 1) f fd ps (spV K mg ps.length (defOf ps.length N.length m)) := by
  refine F.ok S (fun vs H Q E h => h.1) fun cdv A outer s H vs Q E hr h => ?_
  obtain ⟨hl, cells, ρ, F, O, st0, r, st', R, e, k⟩ := h
  refine ⟨_, hb cdv A outer s H E hr, ?_⟩
  unfold defOf at e
  split at e
  case isFalse => cases e
  rename_i hcl
  obtain ⟨⟨fl, Γ'⟩, e1, e⟩ := obind e
  rw [← hcl] at e1
  have R' := rep_start (N := N) R (by rw [hl]; exact hps)
  refine tS_run R' e1 ?_
  cases fl with
  | nx =>
    cases e
    exact fun σ' H' F' s' => k .non H' F' ⟨s'.rep.drop, s'.fs, s'.op⟩ (by simp only [RepEV, RD])
  | ret r0 =>
    intro v σ' H' F' s' hr'
    obtain ⟨rfl, h2⟩ := retEV_ok s'.rep hr' e
    exact k v H' F' ⟨s'.rep.drop, s'.fs, s'.op⟩ h2
  | brk => cases e
  | cont => cases e
end
/-! ### calls -/
def passA (b : Bool) (r : EV) (Γ : VEnv) : Option (Cell × VEnv) := match r with
  | .val d => some (.val d, Γ)
  | .fresh d => some (.own d, Γ)
  | .slot i => if b = true then match Γ.sl[i]? with
      | some (.own d) => some (.par Γ.st.length, ⟨Γ.sl.set i (.par Γ.st.length), Γ.st ++ [.own d]⟩)
      | some (.val d) => some (.val d, Γ)
      | some (.par k) => some (.par k, Γ)
      | _ => none
    else (freeze (.slot i) Γ).map fun p => (.val p.1, p.2)
  | .par k => if b = true then some (.par k, Γ) else (freeze (.par k) Γ).map fun p => (.val p.1, p.2)
def passL : List Bool → List EV → VEnv → Option (List Cell × VEnv)
  | _, [], Γ => some ([], Γ)
  | bs, r :: rs, Γ => (passA (bs.headD false) r Γ).bind fun p => (passL bs.tail rs p.2).map fun q => (p.1 :: q.1, q.2)
/-- what was lent comes back -/
def unlend (n : Nat) (st : List SC) : Cell → Cell
  | .par k => if k < n then .par k else match st[k]? with
    | some (.own d) => .own d
    | some (.frz d) => .val d
    | none => .un
  | c => c
def mCall (bs : List Bool) (f : Sem') (ml : ML) : M := fun Γ => (ml Γ).bind fun p => (passL bs p.1 p.2).bind fun q => (f q.1 q.2.st).bind fun z =>
  match z.1 with
  | .val d => some (.val d, ⟨q.2.sl.map (unlend p.2.st.length z.2), z.2.take p.2.st.length⟩)
  | .fresh d => some (.fresh d, ⟨q.2.sl.map (unlend p.2.st.length z.2), z.2.take p.2.st.length⟩)
  | .par k => if k < p.2.st.length then some (.par k, ⟨q.2.sl.map (unlend p.2.st.length z.2), z.2.take p.2.st.length⟩) else none
  | _ => none
end VS

set_option Elab.async false
set_option linter.all false
set_option maxRecDepth 100000
set_option maxHeartbeats 4000000
namespace VS
open PySem L2 PyProof.Rows

section
variable {K : PySem.W.Frag} {mg : Str → Option Value} {ρ : List Addr} {O O' : Addr → Prop} {Γ Γ' : VEnv} {σ σ' : L2.St} {H F H' F' : Hp} {r : EV} {v : V} {d : D} {a : Addr}
/-- a cell of the callee, seen by the caller -/
def CellR (K : PySem.W.Frag) (mg : Str → Option Value) (ρ : List Addr) (Γ : VEnv) (σ : L2.St) (H F : Hp) (O : Addr → Prop) : Cell → V → Prop
  | .un, _ => False
  | .val d, v => RD K mg F d v
  | .own d, v => ∃ p, v = .ref p ∧ OwnAt K mg F H p d ∧ ¬ O p ∧ ∀ l, ¬ LocAt ρ Γ σ l p
  | .par k, v => ∃ a, ρ[k]? = some a ∧ v = .ref a
def ownC (c : Cell) (v : V) : Addr → Prop := fun a => match c with
  | .own _ => v = .ref a
  | _ => False
def CellsL (K : PySem.W.Frag) (mg : Str → Option Value) (ρ : List Addr) (Γ : VEnv) (σ : L2.St) (H F : Hp) : (Addr → Prop) → List Cell → List V → Prop
  | _, [], vs => vs = []
  | O, c :: cs, vs => ∃ v ws, vs = v :: ws ∧ CellR K mg ρ Γ σ H F O c v ∧ CellsL K mg ρ Γ σ H F (orO O (ownC c v)) cs ws
/-- an own object is lent: it stands in the store -/
theorem Rep.lend {i : Nat} (R : Rep K mg ρ O Γ σ H F) (q : Γ.sl[i]? = some (Cell.own d)) (hs : σ[i]? = some (some (V.ref a))) : Rep K mg (ρ ++ [a]) O ⟨Γ.sl.set i (.par Γ.st.length), Γ.st ++ [.own d]⟩ σ H F := by
  obtain ⟨a', h1, h2⟩ := R.ow i d q
  rw [hs] at h1; cases h1
  have la : LocAt ρ Γ σ (.inl i) a := ⟨⟨d, q⟩, hs⟩
  have hpl := R.plen
  have gp : ∀ {k : Nat} {b : Addr}, (ρ ++ [a])[k]? = some b → (k < ρ.length ∧ ρ[k]? = some b) ∨ (k = ρ.length ∧ b = a) := fun {k b} h => by
    by_cases hk : k < ρ.length
    · rw [List.getElem?_append_left hk] at h; exact .inl ⟨hk, h⟩
    · rw [List.getElem?_append_right (by omega)] at h
      have := lt_of_get h
      have e : k = ρ.length := by simp at this; omega
      subst e
      simp at h
      exact .inr ⟨rfl, h.symm⟩
  have gst : ∀ {k : Nat} {c : SC}, (Γ.st ++ [SC.own d])[k]? = some c → (k < Γ.st.length ∧ Γ.st[k]? = some c) ∨ (k = Γ.st.length ∧ c = .own d) := fun {k c} h => by
    by_cases hk : k < Γ.st.length
    · rw [List.getElem?_append_left hk] at h; exact .inl ⟨hk, h⟩
    · rw [List.getElem?_append_right (by omega)] at h
      have := lt_of_get h
      have e : k = Γ.st.length := by simp at this; omega
      subst e
      simp at h
      exact .inr ⟨rfl, h.symm⟩
  have ap : ∀ {k : Nat} {b : Addr}, ρ[k]? = some b → (ρ ++ [a])[k]? = some b := fun h => by rw [List.getElem?_append_left (lt_of_get h)]; exact h
  have loc : ∀ l b, LocAt (ρ ++ [a]) ⟨Γ.sl.set i (.par Γ.st.length), Γ.st ++ [.own d]⟩ σ l b → (LocAt ρ Γ σ l b ∧ l ≠ .inl i) ∨ (l = .inr Γ.st.length ∧ b = a) := by
    intro l b h
    cases l with
    | inl j =>
      obtain ⟨⟨d', e⟩, h1⟩ := h
      rcases gset e with ⟨_, z, _⟩ | ⟨hne, e⟩
      · cases z
      · exact .inl ⟨⟨⟨d', e⟩, h1⟩, fun z => hne (by injection z)⟩
    | inr k =>
      obtain ⟨⟨d', e⟩, h1⟩ := h
      rcases gst e with ⟨hk, e⟩ | ⟨rfl, _⟩
      · rcases gp h1 with ⟨_, h1⟩ | ⟨e2, _⟩
        · exact .inl ⟨⟨⟨d', e⟩, h1⟩, fun z => nomatch z⟩
        · omega
      · rcases gp h1 with ⟨e2, _⟩ | ⟨_, e3⟩
        · omega
        · exact .inr ⟨rfl, e3⟩
  refine ⟨R.le, by rw [R.len]; simp, fun j d' e => ?_, fun j d' e => ?_, fun j k e => ?_, by simp [hpl], fun k d' e => ?_, fun k d' e => ?_, fun l l' b h1 h2 => ?_, fun b hb => ?_⟩
  · rcases gset e with ⟨_, z, _⟩ | ⟨_, e⟩
    · cases z
    · exact R.vl j d' e
  · rcases gset e with ⟨_, z, _⟩ | ⟨_, e⟩
    · cases z
    · exact R.ow j d' e
  · rcases gset e with ⟨rfl, z, _⟩ | ⟨_, e⟩
    · cases z
      exact ⟨a, by rw [← hpl]; simp, hs⟩
    · obtain ⟨b, h3, h4⟩ := R.pr j k e
      exact ⟨b, ap h3, h4⟩
  · rcases gst e with ⟨_, e⟩ | ⟨rfl, z⟩
    · obtain ⟨b, h3, h4⟩ := R.sow k d' e; exact ⟨b, ap h3, h4⟩
    · cases z; exact ⟨a, by rw [← hpl]; simp, h2⟩
  · rcases gst e with ⟨_, e⟩ | ⟨_, z⟩
    · obtain ⟨b, h3, h4⟩ := R.sfz k d' e; exact ⟨b, ap h3, h4⟩
    · cases z
  · rcases loc l b h1 with ⟨a1, n1⟩ | ⟨e1, rfl⟩
    · rcases loc l' b h2 with ⟨a2, n2⟩ | ⟨e2, rfl⟩
      · exact R.inj l l' b a1 a2
      · exact absurd (R.inj l (.inl i) b a1 la) n1
    · rcases loc l' b h2 with ⟨a2, n2⟩ | ⟨e2, _⟩
      · exact absurd (R.inj l' (.inl i) b a2 la) n2
      · rw [e1, e2]
  · obtain ⟨h3, h4, h5⟩ := R.prot b hb
    refine ⟨h3, h4, fun l z => ?_⟩
    rcases loc l b z with ⟨z, _⟩ | ⟨_, rfl⟩
    · exact h5 l z
    · exact h5 _ la
/-- how the caller's slots look while something is lent: n the length of the store ahead -/
structure Lent (n : Nat) (Γ : VEnv) : Prop where
  le : n ≤ Γ.st.length
  inj : ∀ (i j k : Nat), n ≤ k → Γ.sl[i]? = some (Cell.par k) → Γ.sl[j]? = some (Cell.par k) → i = j
theorem freeze_st {r : EV} {Γ Γ' : VEnv} {d : D} (h : freeze r Γ = some (d, Γ')) : Γ'.st.length = Γ.st.length ∧ ∀ (i k : Nat), Γ'.sl[i]? = some (Cell.par k) → Γ.sl[i]? = some (Cell.par k) := by
  cases r with
  | val d' => cases h; exact ⟨rfl, fun _ _ z => z⟩
  | fresh d' => cases h; exact ⟨rfl, fun _ _ z => z⟩
  | slot i =>
    simp only [freeze] at h
    cases q : Γ.sl[i]? with
    | none => rw [q] at h; cases h
    | some c =>
      rw [q] at h
      cases c with
      | own d' =>
        cases h
        refine ⟨rfl, fun j k z => ?_⟩
        rcases gset z with ⟨_, z, _⟩ | ⟨_, z⟩
        · cases z
        · exact z
      | val d' => cases h; exact ⟨rfl, fun _ _ z => z⟩
      | un => cases h
      | par k => cases h
  | par k =>
    simp only [freeze] at h
    cases q : Γ.st[k]? with
    | none => rw [q] at h; cases h
    | some c =>
      rw [q] at h
      cases c with
      | own d' => cases h; exact ⟨by simp, fun _ _ z => z⟩
      | frz d' => cases h; exact ⟨rfl, fun _ _ z => z⟩
theorem Rep.lent0 (R : Rep K mg ρ O Γ σ H F) : Lent Γ.st.length Γ := ⟨Nat.le_refl _, fun i j k hk h1 _ => by
  obtain ⟨a, h3, _⟩ := R.pr i k h1
  have := lt_of_get h3
  have := R.plen
  omega⟩
theorem passA_ok {b : Bool} {c : Cell} {n : Nat} (R : Rep K mg ρ O Γ σ H F) (h : RepEV K mg ρ O Γ σ H F r v) (e : passA b r Γ = some (c, Γ')) (L : Lent n Γ) :
    ∃ ρ1 F', Rep K mg (ρ ++ ρ1) O Γ' σ H F' ∧ Same F F' ∧ CellR K mg (ρ ++ ρ1) Γ' σ H F' O c v ∧ Lent n Γ' ∧ (∀ a, ownC c v a → frs r v a) := by
  have fz : ∀ {r : EV} {p : D × VEnv}, freeze r Γ = some p → RepEV K mg ρ O Γ σ H F r v → ∃ ρ1 F', Rep K mg (ρ ++ ρ1) O p.2 σ H F' ∧ Same F F' ∧ CellR K mg (ρ ++ ρ1) p.2 σ H F' O (.val p.1) v ∧ Lent n p.2 := by
    intro r p e h
    obtain ⟨d, Γ'⟩ := p
    obtain ⟨F', R', s, rd, _⟩ := freeze_ok R h e
    obtain ⟨l1, l2⟩ := freeze_st e
    exact ⟨[], F', by rw [List.append_nil]; exact R', s, rd, by rw [l1]; exact L.le, fun i j k hk z1 z2 => L.inj i j k hk (l2 i k z1) (l2 j k z2)⟩
  cases r with
  | val d => cases e; exact ⟨[], F, by rw [List.append_nil]; exact R, Same.refl _, h, L, fun a z => z.elim⟩
  | fresh d => cases e; obtain ⟨p, h1, h2, h3, h4⟩ := h; exact ⟨[], F, by rw [List.append_nil]; exact R, Same.refl _, ⟨p, h1, h2, h3, by rw [List.append_nil]; exact h4⟩, L, fun a z => z⟩
  | slot i =>
    simp only [passA] at e
    split at e
    · cases q : Γ.sl[i]? with
      | none => rw [q] at e; cases e
      | some c0 =>
        rw [q] at e
        cases c0 with
        | own d =>
          cases e
          obtain ⟨a, h1, h2⟩ := R.ow i d q
          have h0 := h.1
          rw [h1] at h0; cases h0
          refine ⟨[a], F, R.lend q h1, Same.refl _, ⟨a, by rw [← R.plen]; simp, rfl⟩, ⟨by simp; have := L.le; omega, fun i1 j1 k hk z1 z2 => ?_⟩, fun a z => z.elim⟩
          rcases gset z1 with ⟨x1, y1, _⟩ | ⟨hn1, y1⟩
          · rcases gset z2 with ⟨x2, _, _⟩ | ⟨_, y2⟩
            · rw [x1, x2]
            · cases y1
              obtain ⟨a2, h3, _⟩ := R.pr _ _ y2
              have := lt_of_get h3
              have := R.plen
              omega
          · rcases gset z2 with ⟨x2, y2, _⟩ | ⟨_, y2⟩
            · cases y2
              obtain ⟨a2, h3, _⟩ := R.pr _ _ y1
              have := lt_of_get h3
              have := R.plen
              omega
            · exact L.inj i1 j1 k hk y1 y2
        | val d => cases e; obtain ⟨a, h1, h2⟩ := R.vl i d q; have h0 := h.1; rw [h1] at h0; cases h0; exact ⟨[], F, by rw [List.append_nil]; exact R, Same.refl _, h2, L, fun a z => z.elim⟩
        | par k => cases e; obtain ⟨a, h1, h2⟩ := R.pr i k q; have h0 := h.1; rw [h2] at h0; cases h0; exact ⟨[], F, by rw [List.append_nil]; exact R, Same.refl _, ⟨a, by rw [List.append_nil]; exact h1, rfl⟩, L, fun a z => z.elim⟩
        | un => cases e
    · obtain ⟨p, e1, e2⟩ := omap e
      cases e2
      obtain ⟨ρ1, F', h1, h2, h3, h4⟩ := fz e1 h
      exact ⟨ρ1, F', h1, h2, h3, h4, fun a z => z.elim⟩
  | par k =>
    simp only [passA] at e
    split at e
    · cases e; obtain ⟨a, h1, h2⟩ := h; exact ⟨[], F, by rw [List.append_nil]; exact R, Same.refl _, ⟨a, by rw [List.append_nil]; exact h1, h2⟩, L, fun a z => z.elim⟩
    · obtain ⟨p, e1, e2⟩ := omap e
      cases e2
      obtain ⟨ρ1, F', h1, h2, h3, h4⟩ := fz e1 h
      exact ⟨ρ1, F', h1, h2, h3, h4, fun a z => z.elim⟩
theorem CellR.later {c : Cell} {ρ1 : List Addr} (h : CellR K mg ρ Γ σ H F O c v) (R' : Rep K mg (ρ ++ ρ1) O' Γ' σ H F') (hO : ∀ a, ownC c v a → O' a) (hf : Same F F') : CellR K mg (ρ ++ ρ1) Γ' σ H F' O c v := by
  cases c with
  | un => exact h
  | val d => exact RD.mono hf _ _ h
  | own d =>
    obtain ⟨p, h1, h2, h3, h4⟩ := h
    obtain ⟨q1, q2, q3⟩ := R'.prot p (hO p h1)
    exact ⟨p, h1, h2.stay hf q1 rfl, h3, q3⟩
  | par k => obtain ⟨a, h1, h2⟩ := h; exact ⟨a, by rw [List.getElem?_append_left (lt_of_get h1)]; exact h1, h2⟩
theorem RepL.weak : ∀ {rs : List EV} {ws : List V} {O1 O2 : Addr → Prop}, (∀ a, O2 a → O1 a) → RepL K mg ρ Γ σ H F O1 rs ws → RepL K mg ρ Γ σ H F O2 rs ws := by
  intro rs
  induction rs with
  | nil => intro ws O1 O2 _ h; exact h
  | cons r rs ih =>
    intro ws O1 O2 hO h
    simp only [RepL] at h ⊢
    obtain ⟨v, us, rfl, a1, a2⟩ := h
    refine ⟨v, us, rfl, a1.weakO hO, ih (fun a z => ?_) a2⟩
    rcases z with z | z
    · exact .inl (hO a z)
    · exact .inr z
theorem RepL.ext {ρ1 : List Addr} : ∀ {rs : List EV} {ws : List V} {O1 : Addr → Prop}, RepL K mg ρ Γ σ H F O1 rs ws → Rep K mg (ρ ++ ρ1) (orO O' (frL rs ws)) Γ' σ H F' → Same F F' → RepL K mg (ρ ++ ρ1) Γ' σ H F' O1 rs ws := by
  intro rs
  induction rs generalizing O' with
  | nil => intro ws O1 h _ _; exact h
  | cons r rs ih =>
    intro ws O1 h R' hf
    simp only [RepL] at h ⊢
    obtain ⟨v, us, rfl, a1, a2⟩ := h
    refine ⟨v, us, rfl, ?_, ih (O' := O') a2 (R'.weakO fun a z => ?_) hf⟩
    · cases r with
      | val d => exact RD.mono hf _ _ a1
      | fresh d =>
        obtain ⟨p, e1, e2, e3, e4⟩ := a1
        have hp : frL (.fresh d :: rs) (v :: us) p := .inl e1
        obtain ⟨q1, q2, q3⟩ := R'.prot p (.inr hp)
        exact ⟨p, e1, e2.stay hf q1 rfl, e3, q3⟩
      | slot i => exact a1
      | par k => obtain ⟨a, h1, h2⟩ := a1; exact ⟨a, by rw [List.getElem?_append_left (lt_of_get h1)]; exact h1, h2⟩
    · rcases z with z | z
      · exact .inl z
      · exact .inr (.inr z)
theorem passL_ok {n : Nat} : ∀ {rs : List EV} {bs : List Bool} {vs : List V} {cells : List Cell} {Γ : VEnv} {F : Hp} {ρ : List Addr} {O : Addr → Prop}, Rep K mg ρ O Γ σ H F → RepL K mg ρ Γ σ H F O rs vs → passL bs rs Γ = some (cells, Γ') → Lent n Γ →
    ∃ ρ1 F', Rep K mg (ρ ++ ρ1) O Γ' σ H F' ∧ Same F F' ∧ CellsL K mg (ρ ++ ρ1) Γ' σ H F' O cells vs ∧ Lent n Γ' := by
  intro rs
  induction rs with
  | nil =>
    intro bs vs cells Γ F ρ O R h e L
    simp only [RepL] at h
    simp only [passL] at e
    cases e
    exact ⟨[], F, by rw [List.append_nil]; exact R, Same.refl _, by simp only [CellsL]; exact h, L⟩
  | cons r rs ih =>
    intro bs vs cells Γ F ρ O R h e L
    simp only [RepL] at h
    obtain ⟨v, ws, rfl, h1, h2⟩ := h
    simp only [passL] at e
    obtain ⟨⟨c, Γ1⟩, e1, e⟩ := obind e
    obtain ⟨⟨cs, Γ2⟩, e2, e3⟩ := omap e
    cases e3
    have R1 : Rep K mg ρ (orO O (frL rs ws)) Γ σ H F := R.pendL h2
    have h1' : RepEV K mg ρ (orO O (frL rs ws)) Γ σ H F r v := by
      cases r with
      | fresh d =>
        obtain ⟨p, q1, q2, q3, q4⟩ := h1
        refine ⟨p, q1, q2, fun z => ?_, q4⟩
        rcases z with z | z
        · exact q3 z
        · exact frL_out h2 p z (.inr q1)
      | _ => exact h1
    obtain ⟨ρ1, F1, R2, s1, cr, L1, ow⟩ := passA_ok R1 h1' e1 L
    -- the cell's own object is protected from here on
    have R3 : Rep K mg (ρ ++ ρ1) (orO (orO O (ownC c v)) (frL rs ws)) Γ1 σ H F1 := by
      refine { R2 with prot := fun a z => ?_ }
      rcases z with (z | z) | z
      · exact R2.prot a (.inl z)
      · cases c with
        | own d =>
          obtain ⟨p, q1, q2, q3, q4⟩ := cr
          have z' : v = .ref a := z
          rw [q1] at z'; cases z'
          exact ⟨q2.1, q2.there, q4⟩
        | _ => exact z.elim
      · exact R2.prot a (.inr z)
    have h2' : RepL K mg (ρ ++ ρ1) Γ1 σ H F1 (orO O (ownC c v)) rs ws := by
      have := RepL.ext (O' := O) h2 R2 s1
      exact this.weak fun a z => by
        rcases z with z | z
        · exact .inl z
        · exact .inr (ow a z)
    obtain ⟨ρ2, F2, R4, s2, cl, L2⟩ := ih (R3.weakO fun a z => .inl z) h2' e2 L1
    refine ⟨ρ1 ++ ρ2, F2, by rw [← List.append_assoc]; exact R4.weakO fun a z => .inl z, s1.trans s2, ?_, L2⟩
    simp only [CellsL]
    rw [← List.append_assoc]
    refine ⟨v, ws, rfl, ?_, cl⟩
    have cr' : CellR K mg (ρ ++ ρ1) Γ1 σ H F1 O c v := by
      cases c with
      | own d => obtain ⟨p, q1, q2, q3, q4⟩ := cr; exact ⟨p, q1, q2, fun z => q3 (.inl z), q4⟩
      | _ => exact cr
    exact cr'.later R4 (fun a z => .inr z) s2
end
end VS

set_option Elab.async false
set_option linter.all false
set_option maxRecDepth 100000
set_option maxHeartbeats 4000000
namespace VS
open PySem L2 PyProof.Rows

section
variable {K : PySem.W.Frag} {mg : Str → Option Value} {ρ : List Addr} {O O' : Addr → Prop} {Γ Γ' : VEnv} {σ σ' : L2.St} {H F H' F' : Hp} {r : EV} {v : V} {d : D} {a : Addr}
/-- the caller's own slots -/
def ownS (Γ : VEnv) (σ : L2.St) : Addr → Prop := fun a => ∃ i : Nat, (∃ d, Γ.sl[i]? = some (Cell.own d)) ∧ σ[i]? = some (some (V.ref a))
theorem CellsL.len : ∀ {cs : List Cell} {vs : List V} {O : Addr → Prop}, CellsL K mg ρ Γ σ H F O cs vs → cs.length = vs.length
  | [], vs, O, h => by simp only [CellsL] at h; rw [h]; rfl
  | c :: cs, vs, O, h => by
    simp only [CellsL] at h
    obtain ⟨v, ws, rfl, _, h⟩ := h
    simp only [List.length_cons, CellsL.len h]
theorem CellsL.get : ∀ {cs : List Cell} {vs : List V} {O : Addr → Prop} {i : Nat} {c : Cell}, CellsL K mg ρ Γ σ H F O cs vs → cs[i]? = some c → ∃ v O1, vs[i]? = some v ∧ CellR K mg ρ Γ σ H F O1 c v ∧ ∀ a, O a → O1 a
  | [], vs, O, i, c, h, e => by simp at e
  | c0 :: cs, vs, O, 0, c, h, e => by
    simp only [CellsL] at h
    obtain ⟨v, ws, rfl, h1, h2⟩ := h
    simp at e; subst e
    exact ⟨v, O, rfl, h1, fun _ z => z⟩
  | c0 :: cs, vs, O, i + 1, c, h, e => by
    simp only [CellsL] at h
    obtain ⟨v, ws, rfl, h1, h2⟩ := h
    obtain ⟨u, O1, q1, q2, q3⟩ := CellsL.get (i := i) h2 (by simpa using e)
    exact ⟨u, O1, by simpa using q1, q2, fun a z => q3 a (.inl z)⟩
/-- two own cells stand apart -/
theorem CellsL.apart : ∀ {cs : List Cell} {vs : List V} {O : Addr → Prop} {i j : Nat} {d e : D} {a : Addr}, CellsL K mg ρ Γ σ H F O cs vs → cs[i]? = some (Cell.own d) → cs[j]? = some (Cell.own e) → vs[i]? = some (V.ref a) → vs[j]? = some (V.ref a) → i = j
  | [], vs, O, i, j, d, e, a, h, e1, _, _, _ => by simp at e1
  | c0 :: cs, vs, O, 0, 0, d, e, a, h, e1, e2, e3, e4 => rfl
  | c0 :: cs, vs, O, 0, j + 1, d, e, a, h, e1, e2, e3, e4 => by
    simp only [CellsL] at h
    obtain ⟨v, ws, rfl, h1, h2⟩ := h
    simp at e1 e3
    subst e1
    subst e3
    obtain ⟨u, O1, q1, q2, q3⟩ := h2.get (i := j) (by simpa using e2)
    obtain ⟨p, z1, z2, z3, z4⟩ := q2
    have : u = .ref a := by
      have e4' : ws[j]? = some (V.ref a) := by simpa using e4
      rw [q1] at e4'; exact Option.some.inj e4'
    rw [this] at z1; cases z1
    exact absurd (q3 a (.inr rfl)) z3
  | c0 :: cs, vs, O, i + 1, 0, d, e, a, h, e1, e2, e3, e4 => by
    simp only [CellsL] at h
    obtain ⟨v, ws, rfl, h1, h2⟩ := h
    simp at e2 e4
    subst e2
    subst e4
    obtain ⟨u, O1, q1, q2, q3⟩ := h2.get (i := i) (by simpa using e1)
    obtain ⟨p, z1, z2, z3, z4⟩ := q2
    have : u = .ref a := by
      have e4' : ws[i]? = some (V.ref a) := by simpa using e3
      rw [q1] at e4'; exact Option.some.inj e4'
    rw [this] at z1; cases z1
    exact absurd (q3 a (.inr rfl)) z3
  | c0 :: cs, vs, O, i + 1, j + 1, d, e, a, h, e1, e2, e3, e4 => by
    simp only [CellsL] at h
    obtain ⟨v, ws, rfl, h1, h2⟩ := h
    rw [CellsL.apart (i := i) (j := j) h2 (by simpa using e1) (by simpa using e2) (by simpa using e3) (by simpa using e4)]
/-- the callee's view at its entry -/
theorem rep_callee {cells : List Cell} {vs : List V} (R : Rep K mg ρ O Γ σ H F) (h : CellsL K mg ρ Γ σ H F O cells vs) : Rep K mg ρ (orO O (ownS Γ σ)) ⟨cells, Γ.st⟩ (vs.map some) H F := by
  have gv : ∀ {i : Nat} {v : V}, vs[i]? = some v → (vs.map some)[i]? = some (some v) := fun h => by simp [h]
  have vg : ∀ {i : Nat} {v : V}, (vs.map some)[i]? = some (some v) → vs[i]? = some v := fun h => by simpa using h
  refine ⟨R.le, by simp [h.len], fun i d e => ?_, fun i d e => ?_, fun i k e => ?_, R.plen, R.sow, R.sfz, fun l l' b h1 h2 => ?_, fun b hb => ?_⟩
  · obtain ⟨v, O1, q1, q2, _⟩ := h.get e; exact ⟨v, gv q1, q2⟩
  · obtain ⟨v, O1, q1, ⟨p, rfl, z2, z3, z4⟩, _⟩ := h.get e; exact ⟨p, gv q1, z2⟩
  · obtain ⟨v, O1, q1, ⟨p, z1, rfl⟩, _⟩ := h.get e; exact ⟨p, z1, gv q1⟩
  · cases l with
    | inl i =>
      obtain ⟨⟨d, e⟩, e1⟩ := h1
      obtain ⟨v, O1, q1, ⟨p, rfl, z2, z3, z4⟩, _⟩ := h.get e
      have e1' := vg e1
      rw [q1] at e1'; cases e1'
      cases l' with
      | inl j =>
        obtain ⟨⟨d', e'⟩, e2⟩ := h2
        rw [h.apart e e' q1 (vg e2)]
      | inr k => exact absurd (show LocAt ρ Γ σ (.inr k) b from h2) (z4 (.inr k))
    | inr k =>
      cases l' with
      | inl j =>
        obtain ⟨⟨d, e⟩, e1⟩ := h2
        obtain ⟨v, O1, q1, ⟨p, rfl, z2, z3, z4⟩, _⟩ := h.get e
        have e1' := vg e1
        rw [q1] at e1'; cases e1'
        exact absurd (show LocAt ρ Γ σ (.inr k) b from h1) (z4 (.inr k))
      | inr k' => exact R.inj (.inr k) (.inr k') b h1 h2
  · have out : F b = none ∧ H b ≠ none ∧ (∀ k, ¬ LocAt ρ Γ σ (.inr k) b) ∧ (O b ∨ ∃ i, LocAt ρ Γ σ (.inl i) b) := by
      rcases hb with hb | ⟨i, hb⟩
      · exact ⟨(R.prot b hb).1, (R.prot b hb).2.1, fun k => (R.prot b hb).2.2 _, .inl hb⟩
      · have lb : LocAt ρ Γ σ (.inl i) b := hb
        obtain ⟨⟨d, e⟩, e1⟩ := hb
        obtain ⟨a, h1, h2⟩ := R.ow i d e
        rw [e1] at h1; cases h1
        exact ⟨h2.1, h2.there, (fun k z => by cases R.inj _ _ b lb z), .inr ⟨i, lb⟩⟩
    refine ⟨out.1, out.2.1, fun l hl => ?_⟩
    cases l with
    | inr k => exact out.2.2.1 k hl
    | inl i =>
      obtain ⟨⟨d, e⟩, e1⟩ := hl
      obtain ⟨v, O1, q1, ⟨p, rfl, z2, z3, z4⟩, z5⟩ := h.get e
      have e1' := vg e1
      rw [q1] at e1'; cases e1'
      rcases out.2.2.2 with z | ⟨j, z⟩
      · exact z3 (z5 b z)
      · exact z4 _ z
/-- behind the call: what was lent is back -/
theorem rep_back {n : Nat} {st' : List SC} (R : Rep K mg ρ O Γ σ H F) (L : Lent n Γ) (s : Stp K mg ρ (orO O (ownS Γ σ)) ⟨[], st'⟩ [] H F H' F') : Rep K mg (ρ.take n) O ⟨Γ.sl.map (unlend n st'), st'.take n⟩ σ H' F' ∧
    (∀ l b, LocAt (ρ.take n) ⟨Γ.sl.map (unlend n st'), st'.take n⟩ σ l b → LocAt ρ ⟨[], st'⟩ [] (.inr (match l with | .inl _ => 0 | .inr k => k)) b ∨ (∃ k, LocAt ρ ⟨[], st'⟩ [] (.inr k) b) ∨ ownS Γ σ b) := by
  have R' := s.rep
  have hpl : ρ.length = st'.length := R'.plen
  have hpl0 := R.plen
  have gs : ∀ {i : Nat} {c : Cell}, (Γ.sl.map (unlend n st'))[i]? = some c → ∃ c0, Γ.sl[i]? = some c0 ∧ unlend n st' c0 = c := fun {i c} h => by
    rw [List.getElem?_map] at h
    obtain ⟨c0, h1, h2⟩ := omap h
    exact ⟨c0, h1, h2⟩
  have tk : ∀ {α : Type} {l : List α} {k : Nat} {x : α}, (l.take n)[k]? = some x → k < n ∧ l[k]? = some x := fun {α l k x} h => by
    rw [List.getElem?_take] at h
    split at h
    · exact ⟨by assumption, h⟩
    · cases h
  have kt : ∀ {α : Type} {l : List α} {k : Nat} {x : α}, k < n → l[k]? = some x → (l.take n)[k]? = some x := fun hk h => by rw [List.getElem?_take, if_pos hk]; exact h
  -- a lent slot
  have lent : ∀ {i : Nat} {c0 : Cell} {d : D}, Γ.sl[i]? = some c0 → unlend n st' c0 = .own d → (c0 = .own d ∧ ∃ a, σ[i]? = some (some (V.ref a)) ∧ OwnAt K mg F H a d) ∨ ∃ k a, n ≤ k ∧ c0 = .par k ∧ st'[k]? = some (SC.own d) ∧ ρ[k]? = some a ∧ σ[i]? = some (some (V.ref a)) := by
    intro i c0 d h e
    cases c0 with
    | un => cases e
    | val d' => cases e
    | own d' => cases e; exact .inl ⟨rfl, R.ow i d h⟩
    | par k =>
      simp only [unlend] at e
      split at e
      · cases e
      · obtain ⟨a, h1, h2⟩ := R.pr i k h
        cases q : st'[k]? with
        | none => rw [q] at e; cases e
        | some c =>
          rw [q] at e
          cases c with
          | own d' => cases e; exact .inr ⟨k, a, by omega, rfl, q, h1, h2⟩
          | frz d' => cases e
  have loc : ∀ l b, LocAt (ρ.take n) ⟨Γ.sl.map (unlend n st'), st'.take n⟩ σ l b → (∃ i, l = .inl i ∧ LocAt ρ Γ σ (.inl i) b) ∨ (∃ i k, l = .inl i ∧ n ≤ k ∧ Γ.sl[i]? = some (Cell.par k) ∧ LocAt ρ ⟨[], st'⟩ [] (.inr k) b) ∨ ∃ k, l = .inr k ∧ k < n ∧ LocAt ρ ⟨[], st'⟩ [] (.inr k) b := by
    intro l b h
    cases l with
    | inl i =>
      obtain ⟨⟨d, e⟩, e1⟩ := h
      obtain ⟨c0, h1, h2⟩ := gs e
      rcases lent h1 h2 with ⟨rfl, _⟩ | ⟨k, a, hk, rfl, q1, q2, q3⟩
      · exact .inl ⟨i, rfl, ⟨d, h1⟩, e1⟩
      · rw [q3] at e1; cases e1
        exact .inr (.inl ⟨i, k, rfl, hk, h1, ⟨d, q1⟩, q2⟩)
    | inr k =>
      obtain ⟨⟨d, e⟩, e1⟩ := h
      obtain ⟨hk, e⟩ := tk e
      exact .inr (.inr ⟨k, rfl, hk, ⟨d, e⟩, (tk e1).2⟩)
  have oS : ∀ {i : Nat} {b : Addr}, LocAt ρ Γ σ (.inl i) b → orO O (ownS Γ σ) b := fun {i b} h => .inr ⟨i, h⟩
  refine ⟨⟨R'.le, by rw [R.len]; simp, fun i d e => ?_, fun i d e => ?_, fun i k e => ?_, by simp only [List.length_take]; omega, fun k d e => ?_, fun k d e => ?_, fun l l' b h1 h2 => ?_, fun b hb => ?_⟩, fun l b h => ?_⟩
  · obtain ⟨c0, h1, h2⟩ := gs e
    cases c0 with
    | un => cases h2
    | val d' => cases h2; obtain ⟨v, h3, h4⟩ := R.vl i d h1; exact ⟨v, h3, RD.mono s.fs _ _ h4⟩
    | own d' => cases h2
    | par k =>
      simp only [unlend] at h2
      split at h2
      · cases h2
      · obtain ⟨a, h3, h4⟩ := R.pr i k h1
        cases q : st'[k]? with
        | none => rw [q] at h2; cases h2
        | some c =>
          rw [q] at h2
          cases c with
          | own d' => cases h2
          | frz d' => cases h2; obtain ⟨a', h5, h6⟩ := R'.sfz k d q; rw [h3] at h5; cases h5; exact ⟨_, h4, h6⟩
  · obtain ⟨c0, h1, h2⟩ := gs e
    rcases lent h1 h2 with ⟨rfl, a, h3, h4⟩ | ⟨k, a, hk, rfl, q1, q2, q3⟩
    · have ho : orO O (ownS Γ σ) a := .inr ⟨i, ⟨d, h1⟩, h3⟩
      exact ⟨a, h3, h4.stay s.fs (R'.prot a ho).1 (s.op a ho)⟩
    · obtain ⟨a', h5, h6⟩ := R'.sow k d q1
      rw [q2] at h5; cases h5
      exact ⟨a, q3, h6⟩
  · obtain ⟨c0, h1, h2⟩ := gs e
    cases c0 with
    | un => cases h2
    | val d' => cases h2
    | own d' => cases h2
    | par k' =>
      simp only [unlend] at h2
      split at h2
      · rename_i hk
        cases h2
        obtain ⟨a, h3, h4⟩ := R.pr i k h1
        exact ⟨a, kt hk h3, h4⟩
      · cases q : st'[k']? with
        | none => rw [q] at h2; cases h2
        | some c => rw [q] at h2; cases c <;> cases h2
  · obtain ⟨hk, e⟩ := tk e
    obtain ⟨a, h1, h2⟩ := R'.sow k d e
    exact ⟨a, kt hk h1, h2⟩
  · obtain ⟨hk, e⟩ := tk e
    obtain ⟨a, h1, h2⟩ := R'.sfz k d e
    exact ⟨a, kt hk h1, h2⟩
  · have pr : ∀ {i : Nat} {k : Nat}, LocAt ρ Γ σ (.inl i) b → LocAt ρ ⟨[], st'⟩ [] (.inr k) b → False := fun h1 h2 => (R'.prot b (oS h1)).2.2 _ h2
    rcases loc l b h1 with ⟨i, rfl, a1⟩ | ⟨i, k, rfl, hk, p1, a1⟩ | ⟨k, rfl, hk, a1⟩
    · rcases loc l' b h2 with ⟨i', rfl, a2⟩ | ⟨i', k', rfl, hk', p2, a2⟩ | ⟨k', rfl, hk', a2⟩
      · exact R.inj _ _ b a1 a2
      · exact (pr a1 a2).elim
      · exact (pr a1 a2).elim
    · rcases loc l' b h2 with ⟨i', rfl, a2⟩ | ⟨i', k', rfl, hk', p2, a2⟩ | ⟨k', rfl, hk', a2⟩
      · exact (pr a2 a1).elim
      · have e : k = k' := by injection R'.inj _ _ b a1 a2
        subst e
        rw [L.inj i i' k hk p1 p2]
      · have e : k = k' := by injection R'.inj _ _ b a1 a2
        omega
    · rcases loc l' b h2 with ⟨i', rfl, a2⟩ | ⟨i', k', rfl, hk', p2, a2⟩ | ⟨k', rfl, hk', a2⟩
      · exact (pr a2 a1).elim
      · have e : k = k' := by injection R'.inj _ _ b a1 a2
        omega
      · have e : k = k' := by injection R'.inj _ _ b a1 a2
        rw [e]
  · have hb' : orO O (ownS Γ σ) b := .inl hb
    obtain ⟨h1, h2, h3⟩ := R'.prot b hb'
    refine ⟨h1, h2, fun l hl => ?_⟩
    rcases loc l b hl with ⟨i, rfl, a1⟩ | ⟨i, k, rfl, hk, p1, a1⟩ | ⟨k, rfl, hk, a1⟩
    · exact (R.prot b hb).2.2 _ a1
    · exact h3 _ a1
    · exact h3 _ a1
  · rcases loc l b h with ⟨i, rfl, a1⟩ | ⟨i, k, rfl, hk, p1, a1⟩ | ⟨k, rfl, hk, a1⟩
    · exact .inr (.inr ⟨i, a1⟩)
    · exact .inr (.inl ⟨k, a1⟩)
    · exact .inl a1
end
section
variable {X : Cx} {e : Expr} {es : List Expr} {ml : ML} {pos : Pos}
theorem call_run {bs : List Bool} {n : Nat} {f : Sem'} (hf : ∀ cells st r, f cells st = some r → cells.length = n) {E : XK} {σ : L2.St} {H : Hp} {Q : VK} (h : tV X.K X.mg (mCall bs f ml) σ H Q) : tCall (spV X.K X.mg n f) [] E (tL X.K X.mg ml) σ H Q := by
  obtain ⟨ρ, O, Γ, F, res, Γ', R, e, k⟩ := h
  obtain ⟨⟨rs, Γ1⟩, e1, e⟩ := obind e
  obtain ⟨⟨cells, Γ2⟩, e2, e⟩ := obind e
  obtain ⟨⟨z, st'⟩, e3, e⟩ := obind e
  refine tL_run R e1 fun vs H1 F1 s1 c1 r1 => ?_
  obtain ⟨ρ1, F2, R2, s2, cl, L⟩ := passL_ok s1.rep r1 e2 s1.rep.lent0
  have hn := hf _ _ _ e3
  refine ⟨by rw [List.append_nil, ← cl.len]; exact hn, cells, ρ ++ ρ1, F2, orO O (ownS Γ2 σ), Γ2.st, z, st', ?_, e3, fun v H' F' s rv => ?_⟩
  · rw [List.append_nil]; exact rep_callee R2 cl
  · obtain ⟨Rb, lb⟩ := rep_back R2 L s
    have hρ : (ρ ++ ρ1).take Γ1.st.length = ρ := by rw [← s1.rep.plen]; simp
    rw [hρ] at Rb lb
    have st : Stp X.K X.mg ρ O ⟨Γ2.sl.map (unlend Γ1.st.length st'), st'.take Γ1.st.length⟩ σ H F H' F' := s1.trans ⟨Rb, s2.trans s.fs, fun a ha => s.op a (.inl ha)⟩
    cases z with
    | val d => cases e; exact k v H' F' st trivial rv
    | fresh d =>
      cases e
      obtain ⟨p, h1, h2, h3, h4⟩ := rv
      refine k v H' F' st trivial ⟨p, h1, h2, fun z => h3 (.inl z), fun l hl => ?_⟩
      rcases lb l p hl with z | ⟨j, z⟩ | z
      · exact h4 _ z
      · exact h4 _ z
      · exact h3 (.inr z)
    | slot i => cases e
    | par j =>
      simp only at e
      split at e
      · rename_i hj
        cases e
        obtain ⟨p, h1, h2⟩ := rv
        refine k v H' F' st trivial ⟨p, ?_, h2⟩
        rw [← hρ, List.getElem?_take, if_pos hj]
        exact h1
      · cases e
/-- f(e, ..) -/
theorem ve_call {f0 : Addr} {fd : FuncData} {ps : List Str} {x : Str} {p : Pos} {k n : Nat} {f : Sem'} (bs : List Bool) (F : FnOk X.prog X.w X.K X.mg X.base CX0 k f0 fd ps (spV X.K X.mg n f)) (hf : ∀ cells st r, f cells st = some r → cells.length = n) (hr : Room k X.A) (hm : X.mg x = some (.ref f0)) (hk : PySem.W.keepIn X.K (.ref f0) = true)
    (hb : Binds X.K fd ps []) (ha : VA X (e :: es) ml) (hg : Gl X x := by rfl) (hdb : (x == ("__debug__" : Str)) = false := by decide) (he : starEach (e :: es) X.env = (false, eval e X.env) :: starEach es X.env := by rfl) (hpl : (backTo pos (starEach es X.env)).any (·.1) = false := by rfl) :
    VE X (.Call (.Name x p) (e :: es) [] pos) (mCall bs f ml) := by
  exact pe_of (pe_call F hr hg hm hk hb .nil pass0 ha hdb he hpl) fun σ H Q h => call_run (E := E0) hf h
end
theorem defOf_len {p n : Nat} {m : MS} (cells : List Cell) (st : List SC) (r : EV × List SC) (h : defOf p n m cells st = some r) : cells.length = p := by
  unfold defOf at h
  split at h
  · assumption
  · cases h
end VS

set_option Elab.async false
set_option linter.all false
set_option maxRecDepth 100000
set_option maxHeartbeats 4000000
namespace VS
open PySem L2 PyProof.Rows

/-! ### a def of the module, ready to be called -/
def GF (P : Program) (w : World) (K : PySem.W.Frag) (mg : Str → Option Value) (base : Heap) (x : Str) (k p : Nat) (f : Sem') : Prop :=
  ∃ f0 fd ps, FnOk P w K mg base CX0 k f0 fd ps (spV K mg p f) ∧ mg x = some (.ref f0) ∧ PySem.W.keepIn K (.ref f0) = true ∧ Binds K fd ps [] ∧ ∀ cells st r, f cells st = some r → cells.length = p
theorem gf_mk {P : Program} {w : World} {K : PySem.W.Frag} {mg : Str → Option Value} {base : Heap} {x : Str} {k : Nat} {f0 : Addr} {fd : FuncData} {ps N : List Str} {m : MS} (F : FnOk P w K mg base CX0 k f0 fd ps (spV K mg ps.length (defOf ps.length N.length m))) (hm : mg x = some (.ref f0))
    (hk : PySem.W.keepIn K (.ref f0) = true) (hb : Binds K fd ps []) : GF P w K mg base x k ps.length (defOf ps.length N.length m) := ⟨f0, fd, ps, F, hm, hk, hb, defOf_len⟩
section
variable {X : Cx} {e : Expr} {es : List Expr} {ml : ML} {pos : Pos}
theorem ve_callG {x : Str} {p : Pos} {k j n : Nat} {f : Sem'} (bs : List Bool) (G : GF X.prog X.w X.K X.mg X.base x k n f) (hr : Room j X.A) (ha : VA X (e :: es) ml) (hj : k ≤ j := by decide) (hg : Gl X x := by rfl) (hdb : (x == ("__debug__" : Str)) = false := by decide)
    (he : starEach (e :: es) X.env = (false, eval e X.env) :: starEach es X.env := by rfl) (hpl : (backTo pos (starEach es X.env)).any (·.1) = false := by rfl) :
    VE X (.Call (.Name x p) (e :: es) [] pos) (mCall bs f ml) := by
  obtain ⟨f0, fd, ps, F, hm, hk, hb, hl⟩ := G
  exact ve_call bs F hl (hr.mono hj) hm hk hb ha hg hdb he hpl
end
theorem units64 {k : Nat} {A : Around} (r : Room k A) : A.units + 64 < cLine := r.units
theorem units65 {k : Nat} {A : Around} (r : Room k A) : A.units + 65 < cLine := by
  have := r.un
  omega
/-! ### [..] * n -/
def mRepL (a b : M) : M := fun Γ => (a Γ).bind fun p => (b p.2).bind fun q => match p.1, q.1 with
  | .fresh (.lst xs), .val (.int k) => if k.natAbs / 4611686018427387904 = 0 ∧ xs.length * k.toNat ≤ sizeLine then some (.fresh (.lst (List.replicate k.toNat xs).flatten), q.2) else none
  | _, _ => none
theorem ve_repL {X : Cx} {a b : Expr} {ma mb : M} {pos : Pos} (ha : VE X a ma) (hb : VE X b mb) : VE X (.BinOp a .Mult b pos) (mRepL ma mb) := by
  refine pe_of (pe_op op_rep ha hb) fun σ H Q h => ?_
  obtain ⟨ρ, O, Γ, F, res, Γ', R, e, k⟩ := h
  obtain ⟨⟨ra, Γ1⟩, e1, e⟩ := obind e
  obtain ⟨⟨rb, Γ2⟩, e2, e⟩ := obind e
  refine seq2 R e1 e2 fun x y H' F' s c rx ry => ?_
  split at e
  · rename_i xs i h1 h2
    simp only at h1 h2
    subst h1 h2
    split at e
    · rename_i hz
      cases e
      obtain ⟨p, rfl, ⟨hn, vs, g1, g2⟩, _⟩ := rx
      have hy : y = .int i := by simpa only [RepEV, RD] using ry
      refine ⟨p, i, vs, rfl, hy, g1, (sm62 hz.1).1, (sm62 hz.1).2, by rw [← g2.length]; exact hz.2, ?_⟩
      exact gq_list s.rep.le (fun v H2 F2 g hr => k v H2 F2 (s.trans (Stp.grow s.rep g)) c (res_ev s.rep g hr)) (g2.rep _)
    · cases e
  · cases e
/-! ### the law -/
def spLaw (K : PySem.W.Frag) : Sp := fun vs H Q _ => ∃ (a : Addr) (ns : List Int), vs = [.ref a] ∧ SqL K H a (ns.map V.int) ∧ ns.length ≤ 63 ∧ (∀ z ∈ ns, Builtin.Int.intBits z ≤ 1048576) ∧ ∀ H', Q (.bl true) H'
theorem rds_ints {K : PySem.W.Frag} {mg : Str → Option Value} {F : Hp} : ∀ ns : List Int, RDs K mg F (ns.map D.int) (ns.map V.int)
  | [] => by simp [RDs]
  | n :: ns => by simp only [List.map_cons, RDs, RD]; exact ⟨_, _, rfl, rfl, rds_ints ns⟩
/-- what is to be shown of the law's mirror -/
def LawOk (f : Sem') : Prop := ∀ ns : List Int, ns.length ≤ 63 → (∀ z ∈ ns, Builtin.Int.intBits z ≤ 1048576) → ∃ st, f [.val (.lst (ns.map D.int))] [] = some (.val (.bl true), st)
theorem law_imp {P : Program} {w : World} {K : PySem.W.Frag} {mg : Str → Option Value} {base : Heap} {k : Nat} {f0 : Addr} {fd : FuncData} {ps : List Str} {f : Sem'} (F : FnOk P w K mg base CX0 k f0 fd ps (spV K mg 1 f)) (h : LawOk f) : FnOk P w K mg base CX0 k f0 fd ps (spLaw K) := by
  refine F.imp fun vs H Q E hh => ?_
  obtain ⟨a, ns, rfl, hS, h1, h2, hq⟩ := hh
  obtain ⟨st, e⟩ := h ns h1 h2
  refine ⟨rfl, [.val (.lst (ns.map D.int))], [], H, fun _ => False, [], _, st, ⟨Same.refl _, rfl, fun i d e => ?_, fun i d e => ?_, fun i k e => ?_, rfl, fun k d e => ?_, fun k d e => ?_, fun l l' b hl _ => ?_, fun b hb => hb.elim⟩, e, fun v H' F' s rv => ?_⟩
  · cases i with
    | zero =>
      simp at e
      subst e
      refine ⟨_, rfl, ?_⟩
      simp only [RD]
      exact ⟨a, _, rfl, hS, rds_ints ns⟩
    | succ i => simp at e
  · cases i <;> simp at e
  · cases i <;> simp at e
  · simp at e
  · simp at e
  · cases l with
    | inl i => obtain ⟨⟨d, e⟩, _⟩ := hl; cases i <;> simp at e
    | inr i => obtain ⟨⟨d, e⟩, _⟩ := hl; simp at e
  · have : v = .bl true := by simpa only [RepEV, RD] using rv
    rw [this]
    exact hq H'
theorem walk {l : PySem.W.OpenLaw} {q : Program} {loose : List Str} {XP : (Str → Option Value) → Heap → Prop} {YP : World → Heap → Prop} {d : DefRec} {K : Params → PySem.W.Frag} (k : Nat) (hr : Room k callerA) (hn : l.most = some 63) (hdf : d.params.defaults = [])
    (hY : ∀ (w : World) (h : Heap), YP w h → (K w.params).In h)
    (F : ∀ (w : World) (mg : Str → Option Value) (fa : Addr) (h : Heap), (K w.params).In h → h.Ns mainGlobals mg → mg d.name = some (.ref fa) →
      ∃ fd : FuncData, (∀ (s : Shared) (u : Value), BindsTo s fd ⟨[u], []⟩ [("script", u)]) ∧ ∀ base : Heap, (K w.params).In base → base.Ns mainGlobals mg → FnOk l.prog w (K w.params) mg base CX0 k fa fd ["script"] (spLaw (K w.params))) :
    PySem.W.WalkO q loose XP YP l.row.toRowW d [] (fun f vs => PySem.call f vs) :=
  L2.walk_ofB (n := 63) (k := k) (x := "script") (CX := fun _ => CX0) (sp := fun w => spLaw (K w.params)) hn (by decide) hdf hr hY F (fun _ _ a ns hl hb _ hS => ⟨a, ns, rfl, hS, hl, hb, fun _ => rfl⟩) fun _ _ _ _ _ z => z
end VS

set_option Elab.async false
set_option linter.all false
set_option maxRecDepth 100000
set_option maxHeartbeats 4000000
namespace VS
open PySem L2 PyProof.Rows

/-! ### a value is frozen at once -/
def mFrz (m : M) : M := fun Γ => (m Γ).bind fun p => (freeze p.1 p.2).map fun q => (.val q.1, q.2)
section
variable {X : Cx} {e : Expr} {es : List Expr} {m : M} {ml : ML} {pos : Pos}
theorem ve_frz (h : VE X e m) : VE X e (mFrz m) := by
  refine pe_of h fun σ H Q h => ?_
  obtain ⟨ρ, O, Γ, F, r, Γ', R, e, k⟩ := h
  obtain ⟨⟨r1, Γ1⟩, e1, e⟩ := obind e
  obtain ⟨⟨d, Γ2⟩, e2, e3⟩ := omap e
  cases e3
  refine tV_run R e1 fun v H1 F1 s1 c1 r1 => ?_
  obtain ⟨F2, R2, s2, rd, c2⟩ := freeze_ok s1.rep r1 e2
  exact k v H1 F2 (s1.trans ⟨R2, s2, fun _ _ => rfl⟩) trivial rd
/-! ### a, b = x, y -/
def mPar (i j : Nat) (ml : ML) : MS := fun Γ => (ml Γ).bind fun p => (freezeL p.1 p.2).bind fun q => match q.1 with
  | [d, e] => some (.nx, setCell (setCell q.2 i (.val d)) j (.val e))
  | _ => none
def mPar3 (i j l : Nat) (ml : ML) : MS := fun Γ => (ml Γ).bind fun p => (freezeL p.1 p.2).bind fun q => match q.1 with
  | [d, e, f] => some (.nx, setCell (setCell (setCell q.2 i (.val d)) j (.val e)) l (.val f))
  | _ => none
theorem vs_par {i j : Nat} {x y : Str} {a b : Expr} {px py pt : Pos} {kt k2 pt2} (hc : X.calm = true) (hN : X.N.Nodup) (ha : VA X [a, b] ml) (hi : X.N[i]? = some x := by rfl) (hj : X.N[j]? = some y := by rfl) (hij : i ≠ j := by decide)
    (hx : X.env.scope.names.lookup x = some .local := by rfl) (hy : X.env.scope.names.lookup y = some .local := by rfl)
    (hw : swappedStores [.Tuple [.Name x px, .Name y py] kt pt] (.Tuple [a, b] k2 pt2) X.env = pure (some [x, y]) := by rfl)
    (hs : swapsWithSole [.Tuple [.Name x px, .Name y py] kt pt] (.Tuple [a, b] k2 pt2) pos.line X.env = pure false := by rfl) :
    VSt X (.Assign [.Tuple [.Name x px, .Name y py] kt pt] (.Tuple [a, b] k2 pt2) pos) (mPar i j ml) := by
  refine ps_of (ps_par hc hN hi hj hij hx hy ha hw hs) fun D σ H h => ?_
  obtain ⟨ρ, O, Γ, F, fl, Γ', R, e, k⟩ := h
  obtain ⟨⟨rs, Γ1⟩, e1, e⟩ := obind e
  obtain ⟨⟨ds, Γ2⟩, e2, e⟩ := obind e
  refine tL_run R e1 fun vs H1 F1 s1 c1 r1 => ?_
  obtain ⟨F2, R2, s2, rd, _⟩ := freezeL_ok s1.rep r1 e2
  simp only at e
  split at e
  · cases e
    simp only [RDs] at rd
    obtain ⟨v, _, rfl, h1, w, _, rfl, h2, rfl⟩ := rd
    refine ⟨v, w, rfl, ?_⟩
    have R3 := R2.setCell (i := i) (c := .val _) (x := some v) ⟨v, rfl, h1⟩
    have R4 := R3.setCell (i := j) (c := .val _) (x := some w) ⟨w, rfl, h2⟩
    exact k _ H1 F2 ⟨R4, s1.fs.trans s2, s1.op⟩
  · cases e
theorem vs_par3 {i j l : Nat} {x y z : Str} {a b c : Expr} {px py pz pt : Pos} {kt k2 pt2} (hc : X.calm = true) (hN : X.N.Nodup) (ha : VA X [a, b, c] ml) (hi : X.N[i]? = some x := by rfl) (hj : X.N[j]? = some y := by rfl) (hl : X.N[l]? = some z := by rfl)
    (hij : i ≠ j := by decide) (hil : i ≠ l := by decide) (hjl : j ≠ l := by decide)
    (hx : X.env.scope.names.lookup x = some .local := by rfl) (hy : X.env.scope.names.lookup y = some .local := by rfl) (hz : X.env.scope.names.lookup z = some .local := by rfl)
    (hw : swappedStores [.Tuple [.Name x px, .Name y py, .Name z pz] kt pt] (.Tuple [a, b, c] k2 pt2) X.env = pure (some [x, y, z]) := by rfl)
    (hs : swapsWithSole [.Tuple [.Name x px, .Name y py, .Name z pz] kt pt] (.Tuple [a, b, c] k2 pt2) pos.line X.env = pure false := by rfl) :
    VSt X (.Assign [.Tuple [.Name x px, .Name y py, .Name z pz] kt pt] (.Tuple [a, b, c] k2 pt2) pos) (mPar3 i j l ml) := by
  refine ps_of (ps_par3 hc hN hi hj hl hij hil hjl hx hy hz ha hw hs) fun D σ H h => ?_
  obtain ⟨ρ, O, Γ, F, fl, Γ', R, e, k⟩ := h
  obtain ⟨⟨rs, Γ1⟩, e1, e⟩ := obind e
  obtain ⟨⟨ds, Γ2⟩, e2, e⟩ := obind e
  refine tL_run R e1 fun vs H1 F1 s1 c1 r1 => ?_
  obtain ⟨F2, R2, s2, rd, _⟩ := freezeL_ok s1.rep r1 e2
  simp only at e
  split at e
  · cases e
    simp only [RDs] at rd
    obtain ⟨v, _, rfl, h1, w, _, rfl, h2, u, _, rfl, h3, rfl⟩ := rd
    refine ⟨v, w, u, rfl, ?_⟩
    have R3 := R2.setCell (i := i) (c := .val _) (x := some v) ⟨v, rfl, h1⟩
    have R4 := R3.setCell (i := j) (c := .val _) (x := some w) ⟨w, rfl, h2⟩
    have R5 := R4.setCell (i := l) (c := .val _) (x := some u) ⟨u, rfl, h3⟩
    exact k _ H1 F2 ⟨R5, s1.fs.trans s2, s1.op⟩
  · cases e
end
/-! ### two clauses -/
def lc2D (vs vs1 : List Nat) (g : MG) (tt : MB) (mi1 : MI) (g1 : MG) (tt1 : MB) (m : M) : List D → List D → VEnv → Option (List D × VEnv)
  | [], acc, Γ => some (acc, Γ)
  | d :: ds, acc, Γ => (g (.val d) Γ).bind fun Γ1 => (tt Γ1).bind fun p => if p.1 = true then
      (mi1 p.2).bind fun q => (lcD vs1 g1 tt1 m q.1 acc (wipeE q.2 vs1)).bind fun z => lc2D vs vs1 g tt mi1 g1 tt1 m ds z.1 (wipeE z.2 vs)
    else lc2D vs vs1 g tt mi1 g1 tt1 m ds acc (wipeE p.2 vs)
def mLc2 (vs vs1 : List Nat) (mi : MI) (g : MG) (tt : MB) (mi1 : MI) (g1 : MG) (tt1 : MB) (m : M) : M := fun Γ => (mi Γ).bind fun p => if okW p.2 vs = true then
  (lc2D vs vs1 g tt mi1 g1 tt1 m p.1 [] (wipeE p.2 vs)).map fun q => (.fresh (.lst q.1), backE p.2 q.2 vs) else none
theorem wipe_sub {σ : L2.St} {vs ws : List Nat} (h : ∀ i ∈ ws, i ∈ vs) : wipe (wipe σ ws) vs = wipe σ vs := by
  apply List.ext_getElem?
  intro j
  rw [wipe_at, wipe_length, wipe_at (us := vs)]
  by_cases hj : j ∈ vs ∧ j < σ.length
  · rw [if_pos hj, if_pos hj]
  · rw [if_neg hj, if_neg hj, wipe_at]
    by_cases hw : j ∈ ws ∧ j < σ.length
    · exact absurd ⟨h j hw.1, hw.2⟩ hj
    · rw [if_neg hw]
section
variable {X : Cx} {e tg iter tg1 iter1 elt : Expr} {es ifs ifs1 : List Expr} {m : M} {mi mi1 : MI} {g g1 : MG} {ws ws1 : List Nat} {tt tt1 : MB} {pos : Pos}
/-- one clause's turns -/
theorem lc_turns {K : PySem.W.Frag} {mg : Str → Option Value} {ρ : List Addr} {O : Addr → Prop} {Γ Γe : VEnv} {σ : L2.St} {H F : Hp} {J : It} {ds acc : List D} {accV : List V} {Da : Addr} {vs : List Nat} {res : List D} {Nx : Hp → Prop} (hw : ∀ i ∈ ws, i ∈ vs) (nO : ¬ O Da)
    (w : WalkD K mg J F ds) (R : Rep K mg ρ (orO O (· = Da)) Γ (wipe σ vs) H F) (hD : H Da = some (.lst accV)) (ha : RDs K mg F acc accV) (e : lcD vs g tt m ds acc Γ = some (res, Γe))
    (k : ∀ H' F' accV', Rep K mg ρ (orO O (· = Da)) Γe (wipe σ vs) H' F' → Same F F' → (∀ a, O a → H' a = H a) → H' Da = some (.lst accV') → RDs K mg F' res accV' → Nx H') :
    ∃ W : Nat → Nat → Hp → Prop, (∃ m, W 0 m H) ∧ ∀ i n H', W i n H' → (J.stop i H' ∧ Nx H') ∨ (J.go i H' ∧ ∃ N2 : Hp → Prop, (∀ H'', N2 H'' → ∃ n', n' < n ∧ W (i + 1) n' H'') ∧
      ∀ x H'', J.yld i H' x H'' → tG K mg ws g x (wipe σ vs) H'' fun σ3 H5 => wipe σ3 vs = wipe σ vs ∧ tB K mg tt σ3 H5 fun b H6 =>
        if b = true then tV K mg m σ3 H6 fun y H7 => ∃ acc, H7 Da = some (.lst acc) ∧ acc.length < sizeLine ∧ N2 (upd H7 Da (.lst (acc ++ [y]))) else N2 H6) := by
  refine ⟨fun i n H' => n = ds.length - i ∧ i ≤ ds.length ∧ ∃ Γi Fi acc accV, Rep K mg ρ (orO O (· = Da)) Γi (wipe σ vs) H' Fi ∧ Same F Fi ∧ (∀ a, O a → H' a = H a) ∧ H' Da = some (.lst accV) ∧ RDs K mg Fi acc accV ∧
      lcD vs g tt m (ds.drop i) acc Γi = some (res, Γe), ⟨_, rfl, Nat.zero_le _, Γ, F, acc, accV, R, Same.refl _, fun _ _ => rfl, hD, ha, by simpa using e⟩, fun i n H' hW => ?_⟩
  obtain ⟨rfl, hi, Γi, Fi, acc, accV, Ri, hfi, hoi, hDi, hai, ei⟩ := hW
  have hsame : Same F H' := hfi.trans Ri.le
  by_cases hlt : i < ds.length
  · refine .inr ⟨w.goes i H' hlt hsame, fun H2 => ∃ Γ2 F2 acc2 accV2, Rep K mg ρ (orO O (· = Da)) Γ2 (wipe σ vs) H2 F2 ∧ Same F F2 ∧ (∀ a, O a → H2 a = H a) ∧ H2 Da = some (.lst accV2) ∧ RDs K mg F2 acc2 accV2 ∧
        lcD vs g tt m (ds.drop (i + 1)) acc2 Γ2 = some (res, Γe), fun H2 hN => ?_, fun x H2 hy => ?_⟩
    · obtain ⟨Γ2, F2, acc2, accV2, h1, h2, h3, h4, h5, h6⟩ := hN
      exact ⟨ds.length - (i + 1), by omega, rfl, by omega, Γ2, F2, acc2, accV2, h1, h2, h3, h4, h5, h6⟩
    · obtain ⟨F2, d, hd, gr, rd⟩ := w.yields i H' x H2 Fi hlt hy hfi Ri.le
      have edrop : ds.drop i = d :: ds.drop (i + 1) := by
        rw [List.drop_eq_getElem_cons hlt]
        congr 1
        rw [List.getElem?_eq_getElem hlt] at hd
        exact Option.some.inj hd
      rw [edrop] at ei
      simp only [lcD] at ei
      obtain ⟨Γ2, e4, ei⟩ := obind ei
      obtain ⟨⟨b5, Γ3⟩, e5, ei⟩ := obind ei
      have R2 := Ri.grow gr
      refine tG_run (r := .val d) R2 rd e4 fun σ3 H3 F3 s3 hw3 => ?_
      have hw3' : wipe σ3 vs = wipe σ vs := (hw3 vs hw).trans wipe_wipe
      refine ⟨hw3', ?_⟩
      refine tB_run s3.rep e5 fun H4 F4 s4 c4 => ?_
      have s34 := s3.trans s4
      have hf4 : Same F F4 := (hfi.trans gr.fs).trans s34.fs
      have ho4 : ∀ a, O a → H4 a = H a := fun a ha => ((s34.op a (.inl ha)).trans (Ri.opres gr.hs a (.inl ha))).trans (hoi a ha)
      have hD4 : H4 Da = some (.lst accV) := ((s34.op Da (.inr rfl)).trans (Ri.opres gr.hs Da (.inr rfl))).trans hDi
      have ha4 : RDs K mg F4 acc accV := RDs.mono (gr.fs.trans s34.fs) _ _ hai
      cases b5 with
      | false =>
        refine iteF ⟨wipeE Γ3 vs, F4, acc, accV, ?_, hf4, ho4, hD4, ha4, ei⟩
        have := s4.rep.wiped vs
        rw [hw3'] at this
        exact this
      | true =>
        refine iteT ?_
        obtain ⟨⟨r6, Γ4⟩, e6, ei⟩ := obind ei
        obtain ⟨⟨d7, Γ5⟩, e7, ei⟩ := obind ei
        split at ei
        · rename_i hz
          refine tV_run s4.rep e6 fun y H5 F5 s5 c5 r5 => ?_
          obtain ⟨F6, R6, s6, rd6, c6⟩ := freeze_ok s5.rep r5 e7
          have hD5 : H5 Da = some (.lst accV) := (s5.op Da (.inr rfl)).trans hD4
          have ha6 : RDs K mg F6 acc accV := RDs.mono (s5.fs.trans s6) _ _ ha4
          refine ⟨accV, hD5, by rw [← ha6.length]; exact hz, wipeE Γ5 vs, F6, acc ++ [d7], accV ++ [y], ?_, (hf4.trans s5.fs).trans s6, fun a ha => ?_, upd_same, ha6.append (by simp only [RDs]; exact ⟨y, [], rfl, rd6, rfl⟩), ei⟩
          · have := (R6.updO (a := Da) (.inr rfl) (H' := upd H5 Da (.lst (accV ++ [y]))) (fun b hb => upd_ne hb) (by rw [upd_same]; exact fun z => nomatch z)).wiped vs
            rw [hw3'] at this
            exact this
          · rw [upd_ne (fun (z : a = Da) => nO (z ▸ ha)), s5.op a (.inl ha)]
            exact ho4 a ha
        · cases ei
  · have hi' : i = ds.length := by omega
    subst hi'
    refine .inl ⟨w.stops H' hsame, ?_⟩
    rw [List.drop_length] at ei
    cases ei
    exact k H' Fi accV Ri hfi hoi hDi hai
theorem ve_lc2 {scope : Scope} {own : List (Str × Nat)} {vs1 : List Nat} (hc : X.calm = true) (hN : X.N.Nodup) (hi : VI X tg iter mi) (ok : BlkOk X.N X.env.scope scope own) (hv : ∀ i ∈ vs1, i ∈ own.map (·.2)) (hw : ∀ i ∈ ws, i ∈ own.map (·.2)) (hw1 : ∀ i ∈ ws1, i ∈ vs1)
    (hg : ∀ (s : Shared) (H : Hp) (C : Addr) (cl : List (Str × Addr)) (fp : List Addr), VG (X.blk s H scope (compEnvC scope cl C X.env) fp) tg ws g)
    (ht : ∀ (s : Shared) (H : Hp) (C : Addr) (cl : List (Str × Addr)) (fp : List Addr), VTs (X.blk s H scope (compEnvC scope cl C X.env) fp) ifs tt)
    (hi1 : ∀ (s : Shared) (H : Hp) (C : Addr) (cl : List (Str × Addr)) (fp : List Addr), VI (X.blk s H scope (compEnvC scope cl C X.env) fp) tg1 iter1 mi1)
    (hg1 : ∀ (s : Shared) (H : Hp) (C : Addr) (cl : List (Str × Addr)) (fp : List Addr), VG (X.blk s H scope (compEnvC scope cl C X.env) fp) tg1 ws1 g1)
    (ht1 : ∀ (s : Shared) (H : Hp) (C : Addr) (cl : List (Str × Addr)) (fp : List Addr), VTs (X.blk s H scope (compEnvC scope cl C X.env) fp) ifs1 tt1)
    (he : ∀ (s : Shared) (H : Hp) (C : Addr) (cl : List (Str × Addr)) (fp : List Addr), VE (X.blk s H scope (compEnvC scope cl C X.env) fp) elt m) (hs : ∀ x, foldedSetIterable iter X.env x = pure x := by intro _; rfl) (hs1 : ∀ env x, foldedSetIterable iter1 env x = pure x := by intro _ _; rfl) :
    VE X (.ListComp elt [⟨tg, iter, ifs, 0⟩, ⟨tg1, iter1, ifs1, 0⟩] scope pos) (mLc2 (own.map (·.2)) vs1 mi g tt mi1 g1 tt1 m) ∧
    ∀ σ H Q, tV X.K X.mg (mLc2 (own.map (·.2)) vs1 mi g tt mi1 g1 tt1 m) σ H Q → tLc2 (tI X.K X.mg mi) (tG X.K X.mg ws g) (tB X.K X.mg tt) (tI X.K X.mg mi1) (tG X.K X.mg ws1 g1) (tB X.K X.mg tt1) (tV X.K X.mg m) (own.map (·.2)) vs1 σ H Q := by
  have main : ∀ σ H Q, tV X.K X.mg (mLc2 (own.map (·.2)) vs1 mi g tt mi1 g1 tt1 m) σ H Q → tLc2 (tI X.K X.mg mi) (tG X.K X.mg ws g) (tB X.K X.mg tt) (tI X.K X.mg mi1) (tG X.K X.mg ws1 g1) (tB X.K X.mg tt1) (tV X.K X.mg m) (own.map (·.2)) vs1 σ H Q := by
    intro σ H Q h
    generalize own.map (·.2) = vs at *
    obtain ⟨ρ, O, Γ, F, r, Γ', R, e, k⟩ := h
    obtain ⟨⟨ds, Γ1⟩, e1, e⟩ := obind e
    split at e
    · rename_i hok
      obtain ⟨⟨res, Γe⟩, e2, e3⟩ := omap e
      cases e3
      refine ⟨ρ, O, Γ, F, ds, Γ1, R, e1, fun J H1 F1 s1 c1 w => ?_⟩
      intro D hD
      have hFD : F1 D = none := same_none s1.rep.le hD
      have nO : ¬ O D := fun z => (s1.rep.prot D z).2.1 hD
      have R0 : Rep X.K X.mg ρ (orO O (· = D)) Γ1 σ (upd H1 D (.lst [])) F1 :=
        (s1.rep.grow (grow_own s1.rep.le hD)).addO hFD (by rw [upd_same]; exact fun z => nomatch z) fun l z => z.there s1.rep hD
      have ho0 : ∀ a, O a → upd H1 D (.lst []) a = H a := fun a ha => by rw [upd_ne (fun (z : a = D) => nO (z ▸ ha))]; exact s1.op a ha
      refine ⟨fun i n H' => n = ds.length - i ∧ i ≤ ds.length ∧ ∃ Γi Fi acc accV, Rep X.K X.mg ρ (orO O (· = D)) Γi (wipe σ vs) H' Fi ∧ Same F1 Fi ∧ (∀ a, O a → H' a = H a) ∧ H' D = some (.lst accV) ∧ RDs X.K X.mg Fi acc accV ∧
          lc2D vs vs1 g tt mi1 g1 tt1 m (ds.drop i) acc Γi = some (res, Γe), ⟨_, rfl, Nat.zero_le _, wipeE Γ1 vs, F1, [], [], R0.wiped vs, Same.refl _, ho0, upd_same, by simp only [RDs], by simpa using e2⟩, fun i n H' hW => ?_⟩
      obtain ⟨rfl, hi, Γi, Fi, acc, accV, Ri, hfi, hoi, hDi, hai, ei⟩ := hW
      have hsame : Same F1 H' := hfi.trans Ri.le
      by_cases hlt : i < ds.length
      · refine .inr ⟨w.goes i H' hlt hsame, fun H2 => ∃ Γ2 F2 acc2 accV2, Rep X.K X.mg ρ (orO O (· = D)) Γ2 (wipe σ vs) H2 F2 ∧ Same F1 F2 ∧ (∀ a, O a → H2 a = H a) ∧ H2 D = some (.lst accV2) ∧ RDs X.K X.mg F2 acc2 accV2 ∧
            lc2D vs vs1 g tt mi1 g1 tt1 m (ds.drop (i + 1)) acc2 Γ2 = some (res, Γe), fun H2 hN => ?_, fun x H2 hy => ?_⟩
        · obtain ⟨Γ2, F2, acc2, accV2, h1, h2, h3, h4, h5, h6⟩ := hN
          exact ⟨ds.length - (i + 1), by omega, rfl, by omega, Γ2, F2, acc2, accV2, h1, h2, h3, h4, h5, h6⟩
        · obtain ⟨F2, d, hd, gr, rd⟩ := w.yields i H' x H2 Fi hlt hy hfi Ri.le
          have edrop : ds.drop i = d :: ds.drop (i + 1) := by
            rw [List.drop_eq_getElem_cons hlt]
            congr 1
            rw [List.getElem?_eq_getElem hlt] at hd
            exact Option.some.inj hd
          rw [edrop] at ei
          simp only [lc2D] at ei
          obtain ⟨Γ2, e4, ei⟩ := obind ei
          obtain ⟨⟨b5, Γ3⟩, e5, ei⟩ := obind ei
          have R2 := Ri.grow gr
          refine tG_run (r := .val d) R2 rd e4 fun σ3 H3 F3 s3 hw3 => ?_
          have hw3' : wipe σ3 vs = wipe σ vs := (hw3 vs hw).trans wipe_wipe
          refine ⟨hw3', ?_⟩
          refine tB_run s3.rep e5 fun H4 F4 s4 c4 => ?_
          have s34 := s3.trans s4
          have hf4 : Same F1 F4 := (hfi.trans gr.fs).trans s34.fs
          have ho4 : ∀ a, O a → H4 a = H a := fun a ha => ((s34.op a (.inl ha)).trans (Ri.opres gr.hs a (.inl ha))).trans (hoi a ha)
          have hD4 : H4 D = some (.lst accV) := ((s34.op D (.inr rfl)).trans (Ri.opres gr.hs D (.inr rfl))).trans hDi
          have ha4 : RDs X.K X.mg F4 acc accV := RDs.mono (gr.fs.trans s34.fs) _ _ hai
          cases b5 with
          | false =>
            refine iteF ⟨wipeE Γ3 vs, F4, acc, accV, ?_, hf4, ho4, hD4, ha4, ei⟩
            have := s4.rep.wiped vs
            rw [hw3'] at this
            exact this
          | true =>
            refine iteT ?_
            obtain ⟨⟨es6, Γ4⟩, e6, ei⟩ := obind ei
            obtain ⟨⟨acc7, Γ5⟩, e7, ei⟩ := obind ei
            refine ⟨ρ, orO O (· = D), Γ3, F4, es6, Γ4, s4.rep, e6, fun J1 H5 F5 s5 c5 w5 => ?_⟩
            have hD5 : H5 D = some (.lst accV) := (s5.op D (.inr rfl)).trans hD4
            have ha5 : RDs X.K X.mg F5 acc accV := RDs.mono s5.fs _ _ ha4
            refine lc_turns hw1 nO w5 (s5.rep.wiped vs1) hD5 ha5 e7 fun H6 F6 accV' R6 s6 o6 hD6 ha6 => ?_
            refine ⟨wipeE Γ5 vs, F6, acc7, accV', ?_, (hf4.trans s5.fs).trans s6, fun a ha => ((o6 a ha).trans (s5.op a (.inl ha))).trans (ho4 a ha), hD6, ha6, ei⟩
            have := R6.wiped vs
            rw [wipe_sub hv, hw3'] at this
            exact this
      · have hi' : i = ds.length := by omega
        subst hi'
        refine .inl ⟨w.stops H' hsame, ?_⟩
        rw [List.drop_length] at ei
        cases ei
        have Rb : Rep X.K X.mg ρ (orO O (· = D)) (backE Γ1 Γe vs) σ H' Fi := by
          have R1' : Rep X.K X.mg ρ (orO O (· = D)) Γ1 σ (upd H1 D (.lst [])) F1 := R0
          exact R1'.back Ri hfi hok
        have hloc : ∀ l, ¬ LocAt ρ (backE Γ1 Γe vs) σ l D := (Rb.prot D (.inr rfl)).2.2
        have hFi : Fi D = none := (Rb.prot D (.inr rfl)).1
        refine k (.ref D) H' Fi ⟨Rb.weakO fun a z => .inl z, s1.fs.trans hfi, hoi⟩ trivial ⟨D, rfl, ⟨hFi, accV, hDi, hai⟩, nO, hloc⟩
    · cases e
  exact ⟨pe_of (pe_lc2 hc hN hi ok hv hg ht hi1 hg1 ht1 he hs hs1) main, main⟩
theorem vs_setLc2 {i : Nat} {y : Str} {py spos : Pos} {scope : Scope} {own : List (Str × Nat)} {vs1 : List Nat} (hc : X.calm = true) (hN : X.N.Nodup) (hi : VI X tg iter mi) (ok : BlkOk X.N X.env.scope scope own) (hv : ∀ i ∈ vs1, i ∈ own.map (·.2)) (hw : ∀ i ∈ ws, i ∈ own.map (·.2)) (hw1 : ∀ i ∈ ws1, i ∈ vs1)
    (hg : ∀ (s : Shared) (H : Hp) (C : Addr) (cl : List (Str × Addr)) (fp : List Addr), VG (X.blk s H scope (compEnvC scope cl C X.env) fp) tg ws g)
    (ht : ∀ (s : Shared) (H : Hp) (C : Addr) (cl : List (Str × Addr)) (fp : List Addr), VTs (X.blk s H scope (compEnvC scope cl C X.env) fp) ifs tt)
    (hi1 : ∀ (s : Shared) (H : Hp) (C : Addr) (cl : List (Str × Addr)) (fp : List Addr), VI (X.blk s H scope (compEnvC scope cl C X.env) fp) tg1 iter1 mi1)
    (hg1 : ∀ (s : Shared) (H : Hp) (C : Addr) (cl : List (Str × Addr)) (fp : List Addr), VG (X.blk s H scope (compEnvC scope cl C X.env) fp) tg1 ws1 g1)
    (ht1 : ∀ (s : Shared) (H : Hp) (C : Addr) (cl : List (Str × Addr)) (fp : List Addr), VTs (X.blk s H scope (compEnvC scope cl C X.env) fp) ifs1 tt1)
    (he : ∀ (s : Shared) (H : Hp) (C : Addr) (cl : List (Str × Addr)) (fp : List Addr), VE (X.blk s H scope (compEnvC scope cl C X.env) fp) elt m)
    (hy : X.N[i]? = some y := by rfl) (hyl : X.env.scope.names.lookup y = some .local := by rfl) (hsw : swapsWith (.ListComp elt [⟨tg, iter, ifs, 0⟩, ⟨tg1, iter1, ifs1, 0⟩] scope pos) (some (.Name y py)) spos.line X.env = pure true := by exact sw_true rfl rfl rfl (by decide +kernel))
    (hs : ∀ x, foldedSetIterable iter X.env x = pure x := by intro _; rfl) (hs1 : ∀ env x, foldedSetIterable iter1 env x = pure x := by intro _ _; rfl) (hgi : ∀ r Γ, g1 r Γ = g1 r Γ := by intros; rfl) :
    VSt X (.Assign [.Name y py] (.ListComp elt [⟨tg, iter, ifs, 0⟩, ⟨tg1, iter1, ifs1, 0⟩] scope pos) spos) (mAsg (mLc2 (own.map (·.2)) vs1 mi g tt mi1 g1 tt1 m) (asgn i)) := by
  refine ps_of (ps_setLc2 (g := tG X.K X.mg ws g) (tt := tB X.K X.mg tt) (wi1 := tI X.K X.mg mi1) (g1 := tG X.K X.mg ws1 g1) (tt1 := tB X.K X.mg tt1) (te := tV X.K X.mg m) (vs1 := vs1) hc hN hy hyl hsw hi ok hv hg ht hi1 hg1 ht1 he hs hs1) fun D σ H h => ?_
  obtain ⟨ρ, O, Γ, F, fl, Γ', R, e, k⟩ := h
  obtain ⟨⟨r, Γ1⟩, e1, e⟩ := obind e
  obtain ⟨Γ2, e2, e3⟩ := omap e
  cases e3
  refine (ve_lc2 (pos := pos) hc hN hi ok hv hw hw1 hg ht hi1 hg1 ht1 he hs hs1).2 σ H _ (tV_run R e1 fun v H1 F1 s1 c1 r1 => ?_)
  obtain ⟨F2, R2, s2⟩ := asgn_ok s1.rep r1 e2
  exact k _ H1 F2 (s1.trans ⟨R2, s2, fun _ _ => rfl⟩)
end
end VS

set_option Elab.async false
set_option linter.all false
set_option maxRecDepth 100000
set_option maxHeartbeats 4000000
/-! ### [::-1] of lists, tuples, texts -/
namespace VSH
open PySem PyProof.Rows HT
section
variable {prog : Program} {w : World} {A : Around} {E : Value → Shared → Prop} {s : Shared}
theorem pick_rev (xs : Array Value) : ((List.range xs.size).filterMap fun (m : Nat) => xs[(((xs.size : Int) - 1) + (m : Int) * (-1)).toNat]?).toArray = xs.toList.reverse.toArray := by
  congr 1
  have e : (List.range xs.size).filterMap (fun (m : Nat) => xs[(((xs.size : Int) - 1) + (m : Int) * (-1)).toNat]?) = ((List.range xs.size).map (fun k => xs.size - 1 - k)).filterMap (xs[·]?) := by
    rw [List.filterMap_map]
    have : ∀ l : List Nat, (∀ m ∈ l, m < xs.size) → l.filterMap (fun (m : Nat) => xs[(((xs.size : Int) - 1) + (m : Int) * (-1)).toNat]?) = l.filterMap ((xs[·]?) ∘ fun k => xs.size - 1 - k) := by
      intro l
      induction l with
      | nil => intro _; rfl
      | cons m l ih =>
        intro hm
        have h1 := hm m List.mem_cons_self
        have e1 : (((xs.size : Int) - 1) + (m : Int) * (-1)).toNat = xs.size - 1 - m := by omega
        simp only [List.filterMap_cons, Function.comp_apply, e1]
        rw [ih fun k hk => hm k (List.mem_cons_of_mem _ hk)]
    exact this _ fun m hm => List.mem_range.mp hm
  rw [e, PySem.W.krv_range, List.filterMap_reverse, PySem.W.krv_all]
theorem getItem_tuple_rev {t sl : Addr} {items : Array Value} {tk : Tok} {Q : Value → Shared → Prop} (ht : IsTup s.heap t items) (hs : s.heap.IsSliceOf sl .none .none (.int (-1) tk))
    (h : Q (.ref s.heap.objs.size) { s with heap := s.heap.push { cls := .type "tuple", data := .seq items.toList.reverse.toArray } })
    (hsz : items.size ≤ sizeLine) : wpAny (model prog w) A (getItem (.ref t) (.ref sl)) Q E s := by
  have htake : sizeOk (.seq items.toList.reverse.toArray) := by
    show (items.toList.reverse).toArray.size ≤ sizeLine
    simpa using hsz
  obtain ⟨os, hos, hcs, hds⟩ := id hs
  have hTs : s.TypeIs (.ref sl) "slice" := ⟨os, hos, hcs⟩
  unfold getItem
  try with_reducible refine wpAny_holding ?_
  first | refine wpAny_bind (wpAny_pure ?_) | skip
  refine wpAny_bind (wpAny_sequenceKey ht.typeIs (by decide) ?_)
  refine wpAny_bind (wpAny_callSpecial?_slot (name := Str.ofString "__getitem__") ht.typeIs PyProof.Rows.slot_tuple_getitem
    (wpAny_call_entry PyProof.Rows.slot_tuple_getitem ht.typeIs entry_tuple_getitem ?_ (args_tuple_getitem _ _)))
  show wpAny _ _ (Builtin.Tuple.tupleItemsOf (.ref t) >>= _) _ _ s
  refine wpAny_bind (tupleItemsOf_ ht ?_)
  refine wpAny_bind (wpAny_typeOf hTs ?_)
  rw [if_pos (by decide)]
  have ap : ∀ {A : Around} {E : Value → Shared → Prop} {Q : Int × Int × Nat → Shared → Prop}, Q (((items.size : Int) - 1), -1, items.size) s → wpAny (model prog w) A (Builtin.Slice.sliceApplied (.ref sl) (pure (items.size : Int))) Q E s := by
    intro A E Q h
    unfold Builtin.Slice.sliceApplied Builtin.Slice.sliceFields
    refine wpAny_bind (wpAny_bind (wpAny_field hos hds (x := .none) rfl (wpAny_bind (wpAny_field hos hds (x := .none) rfl (wpAny_bind (wpAny_field hos hds (x := .int (-1) tk) rfl (wpAny_pure ?_)))))))
    refine wpAny_bind (slicePart_int ?_)
    show wpAny _ _ (if ((-1 : Int) == 0) = true then _ else _) _ _ s
    rw [if_neg (by decide)]
    refine wpAny_bind (slicePart_none (wpAny_bind (slicePart_none (wpAny_bind (wpAny_pure ?_)))))
    show wpAny _ _ (pure ((items.size : Int) - 1, (-1 : Int), Builtin.Slice.slicePlaces ((items.size : Int) - 1) (-1) (-1))) _ _ s
    have e : Builtin.Slice.slicePlaces ((items.size : Int) - 1) (-1) (-1) = items.size := by
      unfold Builtin.Slice.slicePlaces
      have h1 : ¬ ((-1 : Int) > 0) := by omega
      have h2 : (- -1 : Int) = 1 := by decide
      simp only [h1, if_false, h2, Int.ediv_one]
      split <;> omega
    rw [e]
    exact wpAny_pure h
  refine wpAny_bind (ap ?_)
  show wpAny _ _ (if (((items.size : Int) - 1) == 0 && (-1 : Int) == 1 && items.size == items.size) = true then _ else _) _ _ s
  rw [if_neg (by simp), pick_rev]
  first
    | exact wpAny_bind (m := Builtin.Tuple.tupleExact _) (wpAny_newObj_type (wpAny_pure ⟨_, rfl, wpAny_pure h⟩) htake)
    | exact wpAny_bind (m := Builtin.Tuple.tupleExact _) (wpAny_newObj_type (wpAny_bind (wpAny_pure (wpAny_pure ⟨_, rfl, wpAny_pure h⟩))) htake)
    | exact wpAny_bind (wpAny_bind (m := Builtin.Tuple.tupleExact _) (wpAny_newObj_type (wpAny_pure (wpAny_pure ⟨_, rfl, wpAny_pure h⟩)) htake))
    | exact wpAny_bind (wpAny_bind (m := Builtin.Tuple.tupleExact _) (wpAny_newObj_type (wpAny_pure ⟨_, rfl, wpAny_pure h⟩) htake))
theorem str_rev_ix (n : Nat) : Builtin.Str.strSliceIndices none none (-1) n = (List.range n).reverse := by
  unfold Builtin.Str.strSliceIndices
  show sliceRange ((n : Int) - 1) (-1) (-1) = _
  rw [PySem.W.krv_sliceRange, PySem.W.krv_range]
end
end VSH
namespace VS
open PySem L2 PyProof.Rows
def tRevA (K : PySem.W.Frag) (te : TE) : TE := fun σ H Q => te σ H fun x H1 => (∃ a xs, x = .ref a ∧ SqL K H1 a xs ∧ ∀ p, H1 p = none → Q (.ref p) (upd H1 p (.lst xs.reverse))) ∨
  (∃ a xs, x = .ref a ∧ SqT K H1 a xs ∧ ∀ p, H1 p = none → Q (.ref p) (upd H1 p (.tup xs.reverse))) ∨ ∃ z : Str, x = .str z ∧ z.length ≤ sizeLine ∧ Q (.str ⟨z.cps.toList.reverse.toArray⟩) H1
theorem pe_revA {X : Cx} {e : Expr} {te : TE} {k : Nat} {p1 p2 p3 pos : Pos} (he : PE X e te) : PE X (.Subscript e (.Slice none none (some (.UnaryOp .USub (.Constant (.int 1) k p1) p2)) p3) pos) (tRevA X.K te) := by
  refine ⟨fun pins s σ H Q I h => ?_⟩
  refine Subscript_ (thn (he.run pins s σ H _ I h) fun v s1 ⟨x, H1, I1, r1, q1⟩ => ?_)
  have hst : PO X (some (.UnaryOp .USub (.Constant (.int 1) k p1) p2)) (tPart (tUn (rU fun i => .int (-i)) (tC (.int 1)))) := po_some (pe_un un_neg pe_int)
  refine wpAny_Slice (thn (po_none.run pins s1 σ H1 (fun o H2 => o = none ∧ H2 = H1) I1 ⟨rfl, rfl⟩) fun vl s2 ⟨l, H2, I2, pl, el, e2⟩ => ?_)
  subst el e2
  refine thn (po_none.run pins s2 σ H2 (fun o H3 => o = none ∧ H3 = H2) I2 ⟨rfl, rfl⟩) fun vu s3 ⟨u, H3, I3, pu, eu, e3⟩ => ?_
  subst eu e3
  refine thn (hst.run pins s3 σ H3 (fun o H4 => o = some (-1) ∧ H4 = H3) I3 ⟨1, rfl, -1, rfl, rfl, rfl⟩) fun vs s4 ⟨o, H4, I4, ps, eo, e4⟩ => ?_
  subst eo e4
  have I5 : Inv X pins σ H4 { s4 with heap := s4.heap.push { cls := .type "slice", data := .fields #[vl, vu, vs] } } := I4.kept (t' := s4.toks) fun b ob q => Heap.get?_push_of_some _ q
  show wpAny (model X.prog X.w) X.A (subscriptTail e (.Slice none none (some (.UnaryOp .USub (.Constant (.int 1) k p1) p2)) p3) v (.ref s4.heap.objs.size)) (EP X pins σ Q) X.xe { s4 with heap := s4.heap.push { cls := .type "slice", data := .fields #[vl, vu, vs] } }
  rcases q1 with ⟨a, xs, ex, hx, q⟩ | ⟨a, xs, ex, hx, q⟩ | ⟨z, ex, hz, q⟩
  · subst ex
    cases r1
    obtain ⟨its, r, ht, hz⟩ := I5.list hx
    have hlen := r.length
    refine tail_any (ops := [.ref a, .ref s4.heap.objs.size]) ht.isList.typeIs (PySem.slot_list_getitem.lookup) ?_ (by with_unfolding_all rfl)
    refine wpAny_getItem_list_slice ht.isList (Heap.IsSliceOf.new _ vl vu vs) pl pu ps (by decide) ?_ (by rw [List.size_toArray]; omega)
    rw [PySem.W.krv_pick]
    refine ⟨.ref _, _, I5.laid (t' := s4.toks) (o := .lst xs.reverse) (fun b ob q => Heap.get?_push_of_some _ q) (Nat.le_refl _) ?_, rfl, q _ (I5.hok.fresh (Nat.le_refl _))⟩
    exact ⟨by rw [List.length_reverse]; exact hz, _, 0, r.reverse, Heap.get?_push_size _ rfl⟩
  · subst ex
    cases r1
    obtain ⟨its, r, ht, hz⟩ := I5.tuple hx
    have hlen := r.length
    cases pl
    cases pu
    cases ps with
    | int i tk =>
      refine tail_any (ops := [.ref a, .ref s4.heap.objs.size]) ht.typeIs (PyProof.Rows.slot_tuple_getitem.lookup) ?_ (by with_unfolding_all rfl)
      refine VSH.getItem_tuple_rev ht (Heap.IsSliceOf.new _ _ _ _) ?_ (by rw [List.size_toArray]; omega)
      refine ⟨.ref _, _, I5.laid (t' := s4.toks) (o := .tup xs.reverse) (fun b ob q => Heap.get?_push_of_some _ q) (Nat.le_refl _) ?_, rfl, q _ (I5.hok.fresh (Nat.le_refl _))⟩
      exact ⟨by rw [List.length_reverse]; exact hz, _, r.reverse, IsTup.new _ _⟩
  · subst ex
    obtain ⟨t, rfl⟩ := r1
    obtain ⟨l, rfl, hl⟩ := IsPart.raw pl
    obtain ⟨u, rfl, hu⟩ := IsPart.raw pu
    obtain ⟨w, rfl, hw⟩ := IsPart.raw ps
    refine tail_any (ops := [.str z t, .ref s4.heap.objs.size]) (typeIs_str _ _ _) (PySem.F.slot_str_getitem.lookup) ?_ (by with_unfolding_all rfl)
    refine wpAny_getItem_str_slice (l := l) (u := u) (st := w) (Heap.IsSliceOf.new _ _ _ _) (by rw [hw]; rfl) ?_
    unfold sliceMade slicePicked
    rw [hl, hu, hw]
    show Made.post (if ((-1 : Int) == 1 && (Builtin.Str.strSliceIndices none none (-1) z.length).length == z.length) = true then Made.val (.str z t)
      else Made.str ⟨((Builtin.Str.strSliceIndices none none (-1) z.length).filterMap (z.cps[·]?)).toArray⟩) (EP X pins σ Q) _
    rw [if_neg (by simp), VSH.str_rev_ix, List.filterMap_reverse]
    have : (List.range z.length).filterMap (z.cps[·]?) = z.cps.toList := PySem.W.krv_all z.cps
    rw [this]
    exact ⟨by simpa [Str.length] using hz, .str _, H4, I5.tok _, ⟨_, rfl⟩, q⟩
def revD : D → Option EV
  | .lst xs => some (.fresh (.lst xs.reverse))
  | .tup xs => some (.val (.tup xs.reverse))
  | .str s => some (.val (.str s.reverse))
  | _ => none
theorem ve_rev {X : Cx} {e : Expr} {m : M} {k : Nat} {p1 p2 p3 pos : Pos} (he : VE X e m) : VE X (.Subscript e (.Slice none none (some (.UnaryOp .USub (.Constant (.int 1) k p1) p2)) p3) pos) (mUn revD m) := by
  refine pe_of (pe_revA he) fun σ H Q h => ?_
  obtain ⟨ρ, O, Γ, F, res, Γ', R, e, kk⟩ := h
  obtain ⟨⟨r, Γ1⟩, e1, e⟩ := obind e
  obtain ⟨d, e2, e⟩ := obind e
  obtain ⟨r', e3, e4⟩ := omap e
  cases e4
  refine tV_run R e1 fun v H1 F1 s1 c1 r1 => ?_
  have px := peek_ok s1.rep r1 e2
  have kq : GQ X.K X.mg F1 H1 res Q := fun v H2 F2 g hr => kk v H2 F2 (s1.trans (Stp.grow s1.rep g)) c1 (res_ev s1.rep g hr)
  cases d with
  | lst xs =>
    cases e3
    obtain ⟨a, vs, rfl, h1, h2⟩ := px.lst s1.rep.le
    exact .inl ⟨a, vs, rfl, h1, gq_list s1.rep.le kq h2.rev⟩
  | tup xs =>
    cases e3
    obtain ⟨a, vs, rfl, h1, h2⟩ := px.tup s1.rep.le
    exact .inr (.inl ⟨a, vs, rfl, h1, gq_tup s1.rep.le kq h2.rev⟩)
  | str s =>
    cases e3
    obtain ⟨rfl, ok⟩ := px.str
    refine .inr (.inr ⟨_, rfl, by simpa [Str.length] using ok.1, gq_val s1.rep.le kq ?_⟩)
    simp only [RD]
    exact ⟨trivial, by simpa using ok.1, fun c hc => ok.2 c (List.mem_reverse.mp hc)⟩
  | _ => cases e3
/-! ### methods of texts -/
section
variable {X : Cx}
def g1S (f : List Nat → List Nat → D) : D → List D → Option EV
  | .str s, [.str t] => some (.val (f s t))
  | _, _ => none
theorem mx_1S {id : String} {g : Str → Str → V} {f : List Nat → List Nat → D} (h : MtR X id (fun x xs H Q => ∃ a b, x = .str a ∧ xs = [.str b] ∧ Q (g a b) H))
    (hf : ∀ s t F, OkS s → OkS t → RD X.K X.mg F (f s t) (g ⟨s.toArray⟩ ⟨t.toArray⟩)) : MtX X id (g1S f) := by
  refine ⟨_, h, fun F H x xs d ds res Q hl px pxs e k => ?_⟩
  unfold g1S at e
  split at e
  · cases e
    obtain ⟨rfl, ok⟩ := px.str
    obtain ⟨v, rfl, pv⟩ := pxs.one
    obtain ⟨rfl, ok2⟩ := pv.str
    exact ⟨_, _, rfl, rfl, gq_val hl k (hf _ _ F ok ok2)⟩
  · cases e
def startsS (s t : List Nat) : Bool := t.isPrefixOf s
def endsS (s t : List Nat) : Bool := t.isSuffixOf s
def countS (s t : List Nat) : Int := Txt.count ⟨s.toArray⟩ ⟨t.toArray⟩
def findS (s t : List Nat) : Int := Txt.find ⟨s.toArray⟩ ⟨t.toArray⟩
theorem subAt_iff (s t : List Nat) (i : Nat) : Builtin.Str.subAt ⟨s.toArray⟩ ⟨t.toArray⟩ i = ((s.drop i).take t.length == t) := by
  unfold Builtin.Str.subAt
  show ((s.toArray.extract i (i + t.toArray.size)) == t.toArray) = _
  rw [Bool.eq_iff_iff, beq_iff_eq, beq_iff_eq]
  constructor
  · intro h
    have := congrArg Array.toList h
    simpa [Array.toList_extract, List.extract_eq_drop_take] using this
  · intro h
    apply Array.ext'
    simpa [Array.toList_extract, List.extract_eq_drop_take] using h
theorem startsS_eq (s t : List Nat) : Txt.startswith ⟨s.toArray⟩ ⟨t.toArray⟩ = startsS s t := by
  unfold Txt.startswith startsS
  rw [subAt_iff, Bool.eq_iff_iff]
  simp only [Str.length, List.size_toArray, Nat.zero_add, Bool.and_eq_true, decide_eq_true_eq, List.drop_zero, beq_iff_eq, List.isPrefixOf_iff_prefix]
  constructor
  · rintro ⟨_, h⟩; rw [← h]; exact List.take_prefix _ _
  · intro h; exact ⟨h.length_le, (List.prefix_iff_eq_take.mp h).symm⟩
theorem endsS_eq (s t : List Nat) : Txt.endswith ⟨s.toArray⟩ ⟨t.toArray⟩ = endsS s t := by
  unfold Txt.endswith endsS
  rw [subAt_iff, Bool.eq_iff_iff]
  simp only [Str.length, List.size_toArray, Nat.zero_add, Bool.and_eq_true, decide_eq_true_eq, beq_iff_eq, List.isSuffixOf_iff_suffix]
  constructor
  · rintro ⟨hl, h⟩
    have e : (s.drop (s.length - t.length)).length = t.length := by rw [List.length_drop]; omega
    rw [List.take_of_length_le (by omega)] at h
    rw [← h]; exact List.drop_suffix _ _
  · intro h
    refine ⟨h.length_le, ?_⟩
    have e := List.suffix_iff_eq_drop.mp h
    have e2 : (s.drop (s.length - t.length)).length = t.length := by rw [List.length_drop]; have := h.length_le; omega
    rw [List.take_of_length_le (by omega)]
    exact e.symm
theorem mx_startswith : MtX X "str.startswith" (g1S fun s t => .bl (startsS s t)) := mx_1S mt_startswith fun s t F _ _ => by simp only [RD]; rw [startsS_eq]
theorem mx_endswith : MtX X "str.endswith" (g1S fun s t => .bl (endsS s t)) := mx_1S mt_endswith fun s t F _ _ => by simp only [RD]; rw [endsS_eq]
theorem mx_count : MtX X "str.count" (g1S fun s t => .int (countS s t)) := mx_1S mt_count fun s t F _ _ => by simp only [RD, countS]
theorem mx_find : MtX X "str.find" (g1S fun s t => .int (findS s t)) := mx_1S mt_find fun s t F _ _ => by simp only [RD, findS]
/-! join -/
def strsOf : List D → Option (List (List Nat))
  | [] => some []
  | .str s :: ds => (strsOf ds).map fun r => s :: r
  | _ => none
theorem strsOf_map : ∀ {ds : List D} {ns : List (List Nat)}, strsOf ds = some ns → ds = ns.map D.str
  | [], ns, e => by simp only [strsOf] at e; cases e; rfl
  | d :: ds, ns, e => by
    cases d with
    | str s =>
      simp only [strsOf] at e
      obtain ⟨r, e1, e2⟩ := omap e
      subst e2
      rw [strsOf_map e1]; rfl
    | _ => simp only [strsOf] at e; cases e
theorem strsOf_of : ∀ ns : List (List Nat), strsOf (ns.map D.str) = some ns
  | [] => rfl
  | n :: ns => by simp [strsOf, strsOf_of ns]
def joinL (sep : List Nat) : List (List Nat) → List Nat
  | [] => []
  | [x] => x
  | x :: y :: r => x ++ sep ++ joinL sep (y :: r)
def joinD : D → List D → Option EV
  | .str s, [.lst ds] => (strsOf ds).bind fun ns => if (ns.map (·.length)).sum + ns.length * s.length ≤ 16777216 then some (.val (.str (joinL s ns))) else none
  | .str s, [.tup ds] => (strsOf ds).bind fun ns => if (ns.map (·.length)).sum + ns.length * s.length ≤ 16777216 then some (.val (.str (joinL s ns))) else none
  | _, _ => none
theorem joinL_len (sep : List Nat) : ∀ ns : List (List Nat), (joinL sep ns).length ≤ (ns.map (·.length)).sum + ns.length * sep.length
  | [] => by simp [joinL]
  | [x] => by simp [joinL]
  | x :: y :: r => by
    have := joinL_len sep (y :: r)
    simp only [joinL, List.length_append, List.map_cons, List.sum_cons, List.length_cons, Nat.add_mul, Nat.one_mul] at this ⊢
    omega
theorem joinL_mem (sep : List Nat) (P : Nat → Prop) (hs : ∀ c ∈ sep, P c) : ∀ ns : List (List Nat), (∀ s ∈ ns, ∀ c ∈ s, P c) → ∀ c ∈ joinL sep ns, P c
  | [], _, c, hc => by simp [joinL] at hc
  | [x], h, c, hc => h x (by simp) c (by simpa [joinL] using hc)
  | x :: y :: r, h, c, hc => by
    simp only [joinL, List.mem_append] at hc
    rcases hc with (hc | hc) | hc
    · exact h x (by simp) c hc
    · exact hs c hc
    · exact joinL_mem sep P hs (y :: r) (fun s hs => h s (List.mem_cons_of_mem _ hs)) c hc
theorem join_eq (sep : List Nat) : ∀ ns : List (List Nat), Str.join ⟨sep.toArray⟩ (ns.map fun s => ⟨s.toArray⟩) = ⟨(joinL sep ns).toArray⟩
  | [] => rfl
  | [x] => rfl
  | x :: y :: r => by
    have := join_eq sep (y :: r)
    simp only [List.map_cons] at this ⊢
    simp only [Str.join, joinL]
    rw [this, str_app, str_app]
theorem RDs.strs {K : PySem.W.Frag} {mg : Str → Option Value} {F : Hp} : ∀ {ns : List (List Nat)} {vs : List V}, RDs K mg F (ns.map D.str) vs → vs = (ns.map fun s => (⟨s.toArray⟩ : Str)).map V.str ∧ ∀ s ∈ ns, OkS s
  | [], vs, h => by simp only [List.map_nil, RDs] at h; subst h; simp
  | n :: ns, vs, h => by
    simp only [List.map_cons, RDs, RD] at h
    obtain ⟨v, r, rfl, ⟨rfl, ok⟩, h⟩ := h
    obtain ⟨rfl, h2⟩ := RDs.strs h
    refine ⟨rfl, fun s hs => ?_⟩
    rcases List.mem_cons.mp hs with rfl | hs
    · exact ok
    · exact h2 s hs
theorem mx_join : MtX X "str.join" joinD := by
  refine ⟨_, mt_join, fun F H x xs d ds res Q hl px pxs e k => ?_⟩
  have main : ∀ {s : List Nat} {ns : List (List Nat)} {a : Addr} {vs : List V}, OkS s → (SqL X.K H a vs ∨ SqT X.K H a vs) → RDs X.K X.mg F (ns.map D.str) vs → (ns.map (·.length)).sum + ns.length * s.length ≤ 16777216 → res = .val (.str (joinL s ns)) →
      ∃ (b : Str) (p : Addr), ∃ ys : List Str, V.str ⟨s.toArray⟩ = .str b ∧ [V.ref a] = [.ref p] ∧ (SqL X.K H p (ys.map V.str) ∨ SqT X.K H p (ys.map V.str)) ∧ (ys.map (·.length)).sum + ys.length * b.length ≤ 16777216 ∧ Q (.str (Txt.join b ys)) H := by
    intro s ns a vs ok hq rd hz er
    obtain ⟨rfl, oks⟩ := rd.strs
    refine ⟨_, a, ns.map fun s => ⟨s.toArray⟩, rfl, rfl, hq, ?_, ?_⟩
    · simpa [Str.length, Function.comp_def] using hz
    · subst er
      refine gq_val hl k ?_
      simp only [RD]
      refine ⟨?_, ?_, joinL_mem s _ ok.2 ns fun t ht => (oks t ht).2⟩
      · rw [← join_eq]; exact congrArg V.str (PySem.StrLaws.glued_eq_join _ _)
      · have := joinL_len s ns
        show _ ≤ sizeLine
        exact Nat.le_trans (Nat.le_trans this hz) (by decide)
  unfold joinD at e
  split at e
  · obtain ⟨ns, e1, e⟩ := obind e
    split at e
    · rename_i hz
      cases e
      have := strsOf_map e1
      subst this
      obtain ⟨rfl, ok⟩ := px.str
      obtain ⟨v, rfl, pv⟩ := pxs.one
      obtain ⟨a, vs, rfl, h1, h2⟩ := pv.lst hl
      exact main ok (.inl h1) h2 hz rfl
    · cases e
  · obtain ⟨ns, e1, e⟩ := obind e
    split at e
    · rename_i hz
      cases e
      have := strsOf_map e1
      subst this
      obtain ⟨rfl, ok⟩ := px.str
      obtain ⟨v, rfl, pv⟩ := pxs.one
      obtain ⟨a, vs, rfl, h1, h2⟩ := pv.tup hl
      exact main ok (.inr h1) h2 hz rfl
    · cases e
  · cases e
end
end VS

set_option Elab.async false
set_option linter.all false
set_option maxRecDepth 100000
set_option maxHeartbeats 4000000
namespace VS
open PySem L2 PyProof.Rows

instance (s : List Nat) : Decidable (OkS s) := inferInstanceAs (Decidable (s.length ≤ sizeLine ∧ ∀ c ∈ s, c < 1114112))
/-- y = e, the list frozen at once -/
theorem vs_asgF {X : Cx} {st : Stmt} {m : M} {i : Nat} (h : VSt X st (mAsg m (asgn i))) : VSt X st (mAsg (mFrz m) (asgn i)) := by
  refine ps_of h fun D σ H h => ?_
  obtain ⟨ρ, O, Γ, F, fl, Γ', R, e, k⟩ := h
  obtain ⟨⟨r0, Γ0⟩, e0, e⟩ := obind e
  obtain ⟨Γ9, e9, e8⟩ := omap e
  cases e8
  obtain ⟨⟨r1, Γ1⟩, e1, e2⟩ := obind e0
  obtain ⟨⟨d, Γ2⟩, e3, e4⟩ := omap e2
  cases e4
  simp only [asgn] at e9
  cases e9
  cases r1 with
  | val d1 =>
    simp only [freeze] at e3
    cases e3
    exact ⟨ρ, O, Γ, F, .nx, _, R, by simp only [mAsg, e1, Option.bind_some, asgn, Option.map_some], k⟩
  | fresh d1 =>
    simp only [freeze] at e3
    cases e3
    refine ⟨ρ, O, Γ, F, .nx, setCell Γ1 i (.own d), R, by simp only [mAsg, e1, Option.bind_some, asgn, Option.map_some], fun σ' H' F' s => ?_⟩
    by_cases hi : i < Γ1.sl.length
    · have hg : (setCell Γ1 i (.own d)).sl[i]? = some (Cell.own d) := by simp [setCell, hi]
      obtain ⟨a, h1, h2⟩ := s.rep.ow i d hg
      have rv : RepEV X.K X.mg ρ O (setCell Γ1 i (.own d)) σ' H' F' (.slot i) (.ref a) := ⟨h1, trivial⟩
      have ef : freeze (.slot i) (setCell Γ1 i (.own d)) = some (d, setCell Γ1 i (.val d)) := by
        have hg' : (Γ1.sl.set i (Cell.own d))[i]? = some (Cell.own d) := hg
        simp only [freeze, setCell, List.set_set]
        rw [hg']
      obtain ⟨F2, R2, s2, _, _⟩ := freeze_ok s.rep rv ef
      exact k σ' H' F2 ⟨R2, s.fs.trans s2, s.op⟩
    · have e5 : setCell Γ1 i (.own d) = setCell Γ1 i (.val d) := by
        simp only [setCell]
        rw [List.set_eq_of_length_le (by omega), List.set_eq_of_length_le (by omega)]
      rw [e5] at s
      exact k σ' H' F' s
  | slot j =>
    refine ⟨ρ, O, Γ, F, .nx, setCell Γ2 i (.val d), R, by simp only [mAsg, e1, Option.bind_some, asgn, e3, Option.map_some], k⟩
  | par j =>
    refine ⟨ρ, O, Γ, F, .nx, setCell Γ1 i (.par j), R, by simp only [mAsg, e1, Option.bind_some, asgn, Option.map_some], fun σ' H' F' s => ?_⟩
    have hst : ∃ c, Γ1.st[j]? = some c := by
      simp only [freeze] at e3
      cases q : Γ1.st[j]? with
      | none => rw [q] at e3; cases e3
      | some c => exact ⟨c, rfl⟩
    obtain ⟨c, hc⟩ := hst
    have hj := s.rep.plen
    have hjl : j < ρ.length := by rw [hj]; exact lt_of_get hc
    have rv : RepEV X.K X.mg ρ O (setCell Γ1 i (.par j)) σ' H' F' (.par j) (.ref ρ[j]) := ⟨ρ[j], List.getElem?_eq_getElem hjl, rfl⟩
    have ef : freeze (.par j) (setCell Γ1 i (.par j)) = some (d, setCell Γ2 i (.par j)) := by
      simp only [freeze, setCell] at e3 ⊢
      rw [hc] at e3 ⊢
      cases c with
      | own d' => cases e3; rfl
      | frz d' => cases e3; rfl
    obtain ⟨F2, R2, s2, rd, _⟩ := freeze_ok s.rep rv ef
    by_cases hi : i < Γ1.sl.length
    · have hi2 : i < (setCell Γ2 i (.par j)).sl.length := by
        have := R2.len
        have := s.rep.len
        simp [setCell] at *
        omega
      have hg : (setCell Γ2 i (.par j)).sl[i]? = some (Cell.par j) := by
        have : i < Γ2.sl.length := by simpa [setCell] using hi2
        simp [setCell, this]
      obtain ⟨a, h1, h2⟩ := R2.pr i j hg
      rw [List.getElem?_eq_getElem hjl] at h1
      cases h1
      have R3 := R2.setCell (i := i) (c := .val d) (x := some (.ref ρ[j])) ⟨_, rfl, rd⟩
      have es : σ'.set i (some (V.ref ρ[j])) = σ' := by
        apply List.ext_getElem?
        intro n
        by_cases hn : n = i
        · subst hn; rw [List.getElem?_set_self (lt_of_get h2), h2]
        · rw [List.getElem?_set_ne (Ne.symm hn)]
      rw [es] at R3
      have e6 : setCell (setCell Γ2 i (.par j)) i (.val d) = setCell Γ2 i (.val d) := by simp only [setCell, List.set_set]
      rw [e6] at R3
      exact k σ' H' F2 ⟨R3, s.fs.trans s2, s.op⟩
    · have e5 : setCell Γ2 i (.par j) = setCell Γ2 i (.val d) := by
        have h1 := s.rep.len
        have h2 := R2.len
        simp only [setCell, List.length_set] at h1 h2 ⊢
        rw [List.set_eq_of_length_le (by omega), List.set_eq_of_length_le (by omega)]
      rw [e5] at R2
      exact k σ' H' F2 ⟨R2, s.fs.trans s2, s.op⟩
section
variable {X : Cx} {e tg iter tg1 iter1 elt : Expr} {es ifs ifs1 : List Expr} {m : M} {mi mi1 : MI} {g g1 : MG} {ws ws1 : List Nat} {tt tt1 : MB} {pos : Pos}
theorem ve_lcE {scope : Scope} {own : List (Str × Nat)} (hc : X.calm = true) (hN : X.N.Nodup) (hi : VI X tg iter mi) (ok : BlkOk X.N X.env.scope scope own) (hw : ∀ i ∈ ws, i ∈ own.map (·.2))
    (hg : ∀ (s : Shared) (H : Hp) (C : Addr) (cl : List (Str × Addr)) (fp : List Addr), VG (X.blk s H scope (compEnvC scope cl C X.env) fp) tg ws g)
    (ht : ∀ (s : Shared) (H : Hp) (C : Addr) (cl : List (Str × Addr)) (fp : List Addr), VTs (X.blk s H scope (compEnvC scope cl C X.env) fp) ifs tt)
    (he : ∀ (s : Shared) (H : Hp) (C : Addr) (cl : List (Str × Addr)) (fp : List Addr), VE (X.blk s H scope (compEnvC scope cl C X.env) fp) elt m) (hs : ∀ x, foldedSetIterable iter X.env x = pure x := by intro _; rfl) :
    VE X (.ListComp elt [⟨tg, iter, ifs, 0⟩] scope pos) (mLc (own.map (·.2)) mi g tt m) := (ve_lc hc hN hi ok hw hg ht he hs).1
theorem ve_lc2E {scope : Scope} {own : List (Str × Nat)} {vs1 : List Nat} (hc : X.calm = true) (hN : X.N.Nodup) (hi : VI X tg iter mi) (ok : BlkOk X.N X.env.scope scope own) (hv : ∀ i ∈ vs1, i ∈ own.map (·.2)) (hw : ∀ i ∈ ws, i ∈ own.map (·.2)) (hw1 : ∀ i ∈ ws1, i ∈ vs1)
    (hg : ∀ (s : Shared) (H : Hp) (C : Addr) (cl : List (Str × Addr)) (fp : List Addr), VG (X.blk s H scope (compEnvC scope cl C X.env) fp) tg ws g)
    (ht : ∀ (s : Shared) (H : Hp) (C : Addr) (cl : List (Str × Addr)) (fp : List Addr), VTs (X.blk s H scope (compEnvC scope cl C X.env) fp) ifs tt)
    (hi1 : ∀ (s : Shared) (H : Hp) (C : Addr) (cl : List (Str × Addr)) (fp : List Addr), VI (X.blk s H scope (compEnvC scope cl C X.env) fp) tg1 iter1 mi1)
    (hg1 : ∀ (s : Shared) (H : Hp) (C : Addr) (cl : List (Str × Addr)) (fp : List Addr), VG (X.blk s H scope (compEnvC scope cl C X.env) fp) tg1 ws1 g1)
    (ht1 : ∀ (s : Shared) (H : Hp) (C : Addr) (cl : List (Str × Addr)) (fp : List Addr), VTs (X.blk s H scope (compEnvC scope cl C X.env) fp) ifs1 tt1)
    (he : ∀ (s : Shared) (H : Hp) (C : Addr) (cl : List (Str × Addr)) (fp : List Addr), VE (X.blk s H scope (compEnvC scope cl C X.env) fp) elt m) (hs : ∀ x, foldedSetIterable iter X.env x = pure x := by intro _; rfl) (hs1 : ∀ env x, foldedSetIterable iter1 env x = pure x := by intro _ _; rfl) :
    VE X (.ListComp elt [⟨tg, iter, ifs, 0⟩, ⟨tg1, iter1, ifs1, 0⟩] scope pos) (mLc2 (own.map (·.2)) vs1 mi g tt mi1 g1 tt1 m) := (ve_lc2 hc hN hi ok hv hw hw1 hg ht hi1 hg1 ht1 he hs hs1).1
end
end VS

set_option Elab.async false
set_option linter.all false
set_option maxRecDepth 100000
set_option maxHeartbeats 4000000
/-! ### one step of a mirror after the other, for simp: nothing is looked at under a binder -/
namespace VS
open PySem L2 PyProof.Rows

section
variable {α : Type} {sl : List Cell} {st st' : List SC} {Γ : VEnv} {i j k n : Nat} {d e f x y : D} {ds xs cs : List D} {r s : EV} {rs : List EV} {c : Bool} {a b m mo : M} {t t1 t2 : MB} {ml : ML} {ms ms2 : MS} {g : MG} {T : String}
/-! cells -/
def rdC (i : Nat) (o : Option Cell) (Γ : VEnv) : Option (EV × VEnv) := match o with
  | some (.val d) => some (.val d, Γ)
  | some (.own _) => some (.slot i, Γ)
  | some (.par k) => some (.par k, Γ)
  | _ => none
@[simp] theorem mVar_e : mVar i ⟨sl, st⟩ = rdC i sl[i]? ⟨sl, st⟩ := rfl
@[simp] theorem rdC_v : rdC i (some (.val d)) Γ = some (.val d, Γ) := rfl
@[simp] theorem rdC_o : rdC i (some (.own d)) Γ = some (.slot i, Γ) := rfl
@[simp] theorem rdC_p : rdC i (some (.par k)) Γ = some (.par k, Γ) := rfl
@[simp] theorem mC_e : mC d Γ = some (.val d, Γ) := rfl
def fzS (i : Nat) (o : Option Cell) (Γ : VEnv) : Option (D × VEnv) := match o with
  | some (.own d) => some (d, ⟨Γ.sl.set i (.val d), Γ.st⟩)
  | some (.val d) => some (d, Γ)
  | _ => none
def fzP (k : Nat) (o : Option SC) (Γ : VEnv) : Option (D × VEnv) := match o with
  | some (.own d) => some (d, ⟨Γ.sl, Γ.st.set k (.frz d)⟩)
  | some (.frz d) => some (d, Γ)
  | _ => none
@[simp] theorem freeze_v : freeze (.val d) Γ = some (d, Γ) := rfl
@[simp] theorem freeze_f : freeze (.fresh d) Γ = some (d, Γ) := rfl
@[simp] theorem freeze_s : freeze (.slot i) ⟨sl, st⟩ = fzS i sl[i]? ⟨sl, st⟩ := rfl
@[simp] theorem freeze_p : freeze (.par k) ⟨sl, st⟩ = fzP k st[k]? ⟨sl, st⟩ := rfl
@[simp] theorem fzS_o : fzS i (some (.own d)) ⟨sl, st⟩ = some (d, ⟨sl.set i (.val d), st⟩) := rfl
@[simp] theorem fzS_v : fzS i (some (.val d)) Γ = some (d, Γ) := rfl
@[simp] theorem fzP_o : fzP k (some (.own d)) ⟨sl, st⟩ = some (d, ⟨sl, st.set k (.frz d)⟩) := rfl
@[simp] theorem fzP_f : fzP k (some (.frz d)) Γ = some (d, Γ) := rfl
def pkS (o : Option Cell) : Option D := match o with
  | some (.own d) => some d
  | some (.val d) => some d
  | _ => none
def pkP (o : Option SC) : Option D := match o with
  | some (.own d) => some d
  | some (.frz d) => some d
  | _ => none
@[simp] theorem peek_v : peek Γ (.val d) = some d := rfl
@[simp] theorem peek_f : peek Γ (.fresh d) = some d := rfl
@[simp] theorem peek_s : peek ⟨sl, st⟩ (.slot i) = pkS sl[i]? := rfl
@[simp] theorem peek_p : peek ⟨sl, st⟩ (.par k) = pkP st[k]? := rfl
@[simp] theorem pkS_o : pkS (some (.own d)) = some d := rfl
@[simp] theorem pkS_v : pkS (some (.val d)) = some d := rfl
@[simp] theorem pkP_o : pkP (some (.own d)) = some d := rfl
@[simp] theorem pkP_f : pkP (some (.frz d)) = some d := rfl
def ctS (o : Option Cell) : Option D := match o with
  | some (.own d) => some d
  | _ => none
def ctP (o : Option SC) : Option D := match o with
  | some (.own d) => some d
  | _ => none
@[simp] theorem content_s : content ⟨sl, st⟩ (.slot i) = ctS sl[i]? := rfl
@[simp] theorem content_p : content ⟨sl, st⟩ (.par k) = ctP st[k]? := rfl
@[simp] theorem ctS_o : ctS (some (.own d)) = some d := rfl
@[simp] theorem ctP_o : ctP (some (.own d)) = some d := rfl
@[simp] theorem putC_s : putC ⟨sl, st⟩ d (.slot i) = ⟨sl.set i (.own d), st⟩ := rfl
@[simp] theorem putC_p : putC ⟨sl, st⟩ d (.par k) = ⟨sl, st.set k (.own d)⟩ := rfl
@[simp] theorem setCell_e {c : Cell} : setCell ⟨sl, st⟩ i c = ⟨sl.set i c, st⟩ := rfl
def as1 (i : Nat) (o : Option (D × VEnv)) : Option VEnv := o.map fun p => setCell p.2 i (.val p.1)
@[simp] theorem asgn_v : asgn i (.val d) ⟨sl, st⟩ = some ⟨sl.set i (.val d), st⟩ := rfl
@[simp] theorem asgn_f : asgn i (.fresh d) ⟨sl, st⟩ = some ⟨sl.set i (.own d), st⟩ := rfl
@[simp] theorem asgn_p : asgn i (.par k) ⟨sl, st⟩ = some ⟨sl.set i (.par k), st⟩ := rfl
@[simp] theorem asgn_s : asgn i (.slot j) Γ = as1 i (freeze (.slot j) Γ) := rfl
@[simp] theorem as1_s : as1 i (some (d, Γ)) = some (setCell Γ i (.val d)) := rfl
/-! results -/
def bn4 {α : Type} (o : Option α) (Γ : VEnv) : Option (α × VEnv) := o.map fun r => (r, Γ)
@[simp] theorem bn4_s {v : α} : bn4 (some v) Γ = some (v, Γ) := rfl
def frz2 (o : Option (D × VEnv)) : Option (EV × VEnv) := o.map fun q => (.val q.1, q.2)
def frz1 (o : Option (EV × VEnv)) : Option (EV × VEnv) := o.bind fun p => frz2 (freeze p.1 p.2)
@[simp] theorem mFrz_e : mFrz m Γ = frz1 (m Γ) := rfl
@[simp] theorem frz1_s : frz1 (some (r, Γ)) = frz2 (freeze r Γ) := rfl
@[simp] theorem frz2_s : frz2 (some (d, Γ)) = some (.val d, Γ) := rfl
/-! two-place -/
def bn3 {α : Type} (h : D → D → Option α) (ox oy : Option D) (Γ : VEnv) : Option (α × VEnv) := ox.bind fun x => oy.bind fun y => bn4 (h x y) Γ
def bn2 {α : Type} (h : D → D → Option α) (r : EV) (o : Option (EV × VEnv)) : Option (α × VEnv) := o.bind fun q => bn3 h (peek q.2 r) (peek q.2 q.1) q.2
def bn1 {α : Type} (h : D → D → Option α) (b : M) (o : Option (EV × VEnv)) : Option (α × VEnv) := o.bind fun p => bn2 h p.1 (b p.2)
@[simp] theorem mBin_e {h : D → D → Option EV} : mBin h a b Γ = bn1 h b (a Γ) := rfl
@[simp] theorem mCmp_e {h : D → D → Option Bool} : mCmp h a b Γ = bn1 h b (a Γ) := rfl
@[simp] theorem bn1_s {h : D → D → Option α} : bn1 h b (some (r, Γ)) = bn2 h r (b Γ) := rfl
@[simp] theorem bn2_s {h : D → D → Option α} : bn2 h r (some (s, Γ)) = bn3 h (peek Γ r) (peek Γ s) Γ := rfl
@[simp] theorem bn3_s {h : D → D → Option α} : bn3 h (some x) (some y) Γ = bn4 (h x y) Γ := rfl
def ch3 (h : D → D → Option Bool) (s : EV) (o : Option (EV × VEnv)) : Option (Bool × VEnv) := o.bind fun r => (peek r.2 s).bind fun y => (peek r.2 r.1).bind fun z => bn4 (h y z) r.2
def ch2 (h h' : D → D → Option Bool) (c : M) (s : EV) (Γ : VEnv) (o : Option Bool) : Option (Bool × VEnv) := o.bind fun k => if k = true then ch3 h' s (c Γ) else some (false, Γ)
def ch1 (h h' : D → D → Option Bool) (c : M) (r : EV) (o : Option (EV × VEnv)) : Option (Bool × VEnv) := o.bind fun q => (peek q.2 r).bind fun x => (peek q.2 q.1).bind fun y => ch2 h h' c q.1 q.2 (h x y)
def ch0 (h h' : D → D → Option Bool) (b c : M) (o : Option (EV × VEnv)) : Option (Bool × VEnv) := o.bind fun p => ch1 h h' c p.1 (b p.2)
@[simp] theorem mChain_e {h h' : D → D → Option Bool} {c : M} : mChain h h' a b c Γ = ch0 h h' b c (a Γ) := rfl
@[simp] theorem ch0_s {h h' : D → D → Option Bool} {c : M} : ch0 h h' b c (some (r, Γ)) = ch1 h h' c r (b Γ) := rfl
theorem ch1_of {h h' : D → D → Option Bool} {c : M} (hx : peek Γ r = some x) (hy : peek Γ s = some y) : ch1 h h' c r (some (s, Γ)) = ch2 h h' c s Γ (h x y) := by
  simp only [ch1, Option.bind_some, hx, hy]
@[simp] theorem ch1_s {h h' : D → D → Option Bool} {c : M} : ch1 h h' c (.val x) (some (.val y, Γ)) = ch2 h h' c (.val y) Γ (h x y) := rfl
@[simp] theorem ch2_s {h h' : D → D → Option Bool} {c : M} {k : Bool} : ch2 h h' c s Γ (some k) = if k = true then ch3 h' s (c Γ) else some (false, Γ) := rfl
@[simp] theorem ch3_s {h' : D → D → Option Bool} : ch3 h' (.val y) (some (.val x, Γ)) = bn4 (h' y x) Γ := rfl
/-! truths -/
def ofb (o : Option (Bool × VEnv)) : Option (EV × VEnv) := o.map fun p => (.val (.bl p.1), p.2)
@[simp] theorem mOfB_e : mOfB t Γ = ofb (t Γ) := rfl
@[simp] theorem ofb_s : ofb (some (c, Γ)) = some (.val (.bl c), Γ) := rfl
def tst (o : Option (EV × VEnv)) : Option (Bool × VEnv) := o.bind fun p => match p.1 with
  | .val (.bl b) => some (b, p.2)
  | _ => none
@[simp] theorem mTest_e : mTest m Γ = tst (m Γ) := rfl
@[simp] theorem tst_s : tst (some (.val (.bl c), Γ)) = some (c, Γ) := rfl
def and1 (b : MB) (o : Option (Bool × VEnv)) : Option (Bool × VEnv) := o.bind fun p => if p.1 = true then b p.2 else some (false, p.2)
def or1 (b : MB) (o : Option (Bool × VEnv)) : Option (Bool × VEnv) := o.bind fun p => if p.1 = true then some (true, p.2) else b p.2
def not1 (o : Option (Bool × VEnv)) : Option (Bool × VEnv) := o.map fun p => (!p.1, p.2)
def if1 {α : Type} (a b : VEnv → Option α) (o : Option (Bool × VEnv)) : Option α := o.bind fun p => if p.1 = true then a p.2 else b p.2
@[simp] theorem mAnd_e : mAnd t1 t2 Γ = and1 t2 (t1 Γ) := rfl
@[simp] theorem mOr_e : mOr t1 t2 Γ = or1 t2 (t1 Γ) := rfl
@[simp] theorem mNot_e : mNot t Γ = not1 (t Γ) := rfl
@[simp] theorem mIf_e : mIf t a b Γ = if1 a b (t Γ) := rfl
@[simp] theorem mIfS_e : mIfS t ms ms2 Γ = if1 ms ms2 (t Γ) := rfl
@[simp] theorem and1_s : and1 t (some (c, Γ)) = if c = true then t Γ else some (false, Γ) := rfl
@[simp] theorem or1_s : or1 t (some (c, Γ)) = if c = true then some (true, Γ) else t Γ := rfl
@[simp] theorem not1_s : not1 (some (c, Γ)) = some (!c, Γ) := rfl
@[simp] theorem if1_s {p q : VEnv → Option α} : if1 p q (some (c, Γ)) = if c = true then p Γ else q Γ := rfl
/-! lists of arguments -/
def cn2 (r : EV) (o : Option (List EV × VEnv)) : Option (List EV × VEnv) := o.map fun q => (r :: q.1, q.2)
def cn1 (ml : ML) (o : Option (EV × VEnv)) : Option (List EV × VEnv) := o.bind fun p => cn2 p.1 (ml p.2)
@[simp] theorem mNil_e : mNil Γ = some ([], Γ) := rfl
@[simp] theorem mCons_e : mCons m ml Γ = cn1 ml (m Γ) := rfl
@[simp] theorem cn1_s : cn1 ml (some (r, Γ)) = cn2 r (ml Γ) := rfl
@[simp] theorem cn2_s : cn2 r (some (rs, Γ)) = some (r :: rs, Γ) := rfl
def pl1 (o : Option D) (p : Option (List D)) : Option (List D) := o.bind fun d => p.map fun ds => d :: ds
@[simp] theorem peekL_n : peekL Γ [] = some [] := rfl
@[simp] theorem peekL_c : peekL Γ (r :: rs) = pl1 (peek Γ r) (peekL Γ rs) := rfl
@[simp] theorem pl1_s : pl1 (some d) (some ds) = some (d :: ds) := rfl
def fl2 (d : D) (o : Option (List D × VEnv)) : Option (List D × VEnv) := o.map fun q => (d :: q.1, q.2)
def fl1 (rs : List EV) (o : Option (D × VEnv)) : Option (List D × VEnv) := o.bind fun p => fl2 p.1 (freezeL rs p.2)
@[simp] theorem freezeL_n : freezeL [] Γ = some ([], Γ) := rfl
@[simp] theorem freezeL_c : freezeL (r :: rs) Γ = fl1 rs (freeze r Γ) := rfl
@[simp] theorem fl1_s : fl1 rs (some (d, Γ)) = fl2 d (freezeL rs Γ) := rfl
@[simp] theorem fl2_s : fl2 d (some (ds, Γ)) = some (d :: ds, Γ) := rfl
def ls2 (o : Option (List D × VEnv)) : Option (EV × VEnv) := o.bind fun q => if q.1.length ≤ sizeLine then some (.fresh (.lst q.1), q.2) else none
def ls1 (o : Option (List EV × VEnv)) : Option (EV × VEnv) := o.bind fun p => ls2 (freezeL p.1 p.2)
@[simp] theorem mList_e : mList ml Γ = ls1 (ml Γ) := rfl
@[simp] theorem ls1_s : ls1 (some (rs, Γ)) = ls2 (freezeL rs Γ) := rfl
@[simp] theorem ls2_s : ls2 (some (ds, Γ)) = if ds.length ≤ sizeLine then some (.fresh (.lst ds), Γ) else none := rfl
def tp2 (o : Option (List D × VEnv)) : Option (EV × VEnv) := o.bind fun q => if q.1.length ≤ sizeLine then some (.val (.tup q.1), q.2) else none
def tp1 (o : Option (List EV × VEnv)) : Option (EV × VEnv) := o.bind fun p => tp2 (freezeL p.1 p.2)
@[simp] theorem mTup_e : mTup ml Γ = tp1 (ml Γ) := rfl
@[simp] theorem tp1_s : tp1 (some (rs, Γ)) = tp2 (freezeL rs Γ) := rfl
@[simp] theorem tp2_s : tp2 (some (ds, Γ)) = if ds.length ≤ sizeLine then some (.val (.tup ds), Γ) else none := rfl
/-! calls -/
def cb2 (h : List D → Option EV) (o : Option (List D)) (Γ : VEnv) : Option (EV × VEnv) := o.bind fun ds => bn4 (h ds) Γ
def cb1 (h : List D → Option EV) (o : Option (List EV × VEnv)) : Option (EV × VEnv) := o.bind fun p => cb2 h (peekL p.2 p.1) p.2
@[simp] theorem mCallB_e {h : List D → Option EV} : mCallB h ml Γ = cb1 h (ml Γ) := rfl
@[simp] theorem cb1_s {h : List D → Option EV} : cb1 h (some (rs, Γ)) = cb2 h (peekL Γ rs) Γ := rfl
@[simp] theorem cb2_s {h : List D → Option EV} : cb2 h (some ds) Γ = bn4 (h ds) Γ := rfl
def cl3 (n : Nat) (Γ : VEnv) (o : Option (EV × List SC)) : Option (EV × VEnv) := o.bind fun z => match z.1 with
  | .val d => some (.val d, ⟨Γ.sl.map (unlend n z.2), z.2.take n⟩)
  | .fresh d => some (.fresh d, ⟨Γ.sl.map (unlend n z.2), z.2.take n⟩)
  | .par k => if k < n then some (.par k, ⟨Γ.sl.map (unlend n z.2), z.2.take n⟩) else none
  | _ => none
def cl2 (f : Sem') (n : Nat) (o : Option (List Cell × VEnv)) : Option (EV × VEnv) := o.bind fun q => cl3 n q.2 (f q.1 q.2.st)
def cl1 (bs : List Bool) (f : Sem') (o : Option (List EV × VEnv)) : Option (EV × VEnv) := o.bind fun p => cl2 f p.2.st.length (passL bs p.1 p.2)
@[simp] theorem mCall_e {bs : List Bool} {f : Sem'} : mCall bs f ml Γ = cl1 bs f (ml Γ) := rfl
@[simp] theorem cl1_s {bs : List Bool} {f : Sem'} : cl1 bs f (some (rs, ⟨sl, st⟩)) = cl2 f st.length (passL bs rs ⟨sl, st⟩) := rfl
@[simp] theorem cl2_s {f : Sem'} {cells : List Cell} : cl2 f n (some (cells, ⟨sl, st⟩)) = cl3 n ⟨sl, st⟩ (f cells st) := rfl
@[simp] theorem cl3_v : cl3 n ⟨sl, st⟩ (some (.val d, st')) = some (.val d, ⟨sl.map (unlend n st'), st'.take n⟩) := rfl
@[simp] theorem cl3_f : cl3 n ⟨sl, st⟩ (some (.fresh d, st')) = some (.fresh d, ⟨sl.map (unlend n st'), st'.take n⟩) := rfl
@[simp] theorem cl3_p : cl3 n ⟨sl, st⟩ (some (.par k, st')) = if k < n then some (.par k, ⟨sl.map (unlend n st'), st'.take n⟩) else none := rfl
def pa2 (o : Option (D × VEnv)) : Option (Cell × VEnv) := o.map fun p => (.val p.1, p.2)
def pa1 (i : Nat) (o : Option Cell) (Γ : VEnv) : Option (Cell × VEnv) := match o with
  | some (.own d) => some (.par Γ.st.length, ⟨Γ.sl.set i (.par Γ.st.length), Γ.st ++ [.own d]⟩)
  | some (.val d) => some (.val d, Γ)
  | some (.par k) => some (.par k, Γ)
  | _ => none
@[simp] theorem passA_v : passA c (.val d) Γ = some (.val d, Γ) := rfl
@[simp] theorem passA_f : passA c (.fresh d) Γ = some (.own d, Γ) := rfl
@[simp] theorem passA_st : passA true (.slot i) ⟨sl, st⟩ = pa1 i sl[i]? ⟨sl, st⟩ := rfl
@[simp] theorem passA_sf : passA false (.slot i) Γ = pa2 (freeze (.slot i) Γ) := rfl
@[simp] theorem passA_pt : passA true (.par k) Γ = some (.par k, Γ) := rfl
@[simp] theorem passA_pf : passA false (.par k) Γ = pa2 (freeze (.par k) Γ) := rfl
@[simp] theorem pa2_s : pa2 (some (d, Γ)) = some (.val d, Γ) := rfl
@[simp] theorem pa1_o : pa1 i (some (.own d)) ⟨sl, st⟩ = some (.par st.length, ⟨sl.set i (.par st.length), st ++ [.own d]⟩) := rfl
@[simp] theorem pa1_v : pa1 i (some (.val d)) Γ = some (.val d, Γ) := rfl
@[simp] theorem pa1_p : pa1 i (some (.par k)) Γ = some (.par k, Γ) := rfl
def ps2 (c : Cell) (o : Option (List Cell × VEnv)) : Option (List Cell × VEnv) := o.map fun q => (c :: q.1, q.2)
def ps1 (bs : List Bool) (rs : List EV) (o : Option (Cell × VEnv)) : Option (List Cell × VEnv) := o.bind fun p => ps2 p.1 (passL bs rs p.2)
@[simp] theorem passL_n {bs : List Bool} : passL bs [] Γ = some ([], Γ) := by cases bs <;> rfl
@[simp] theorem passL_c {u : Bool} {bs : List Bool} : passL (u :: bs) (r :: rs) Γ = ps1 bs rs (passA u r Γ) := rfl
@[simp] theorem ps1_s {bs : List Bool} {c : Cell} : ps1 bs rs (some (c, Γ)) = ps2 c (passL bs rs Γ) := rfl
@[simp] theorem ps2_s {c : Cell} {cells : List Cell} : ps2 c (some (cells, Γ)) = some (c :: cells, Γ) := rfl
def rt1 (o : Option Cell) (st : List SC) : Option (EV × List SC) := match o with
  | some (.own d) => some (.fresh d, st)
  | some (.val d) => some (.val d, st)
  | _ => none
@[simp] theorem retEV_v : retEV (.val d) ⟨sl, st⟩ = some (.val d, st) := rfl
@[simp] theorem retEV_f : retEV (.fresh d) ⟨sl, st⟩ = some (.fresh d, st) := rfl
@[simp] theorem retEV_p : retEV (.par k) ⟨sl, st⟩ = some (.par k, st) := rfl
@[simp] theorem retEV_s : retEV (.slot i) ⟨sl, st⟩ = rt1 sl[i]? st := rfl
@[simp] theorem rt1_o : rt1 (some (.own d)) st = some (.fresh d, st) := rfl
@[simp] theorem rt1_v : rt1 (some (.val d)) st = some (.val d, st) := rfl
def df1 (o : Option (Fl × VEnv)) : Option (EV × List SC) := o.bind fun q => match q.1 with
  | .ret r => retEV r q.2
  | .nx => some (.val .non, q.2.st)
  | _ => none
theorem defOf_e {p : Nat} {cells : List Cell} : defOf p n ms cells st = if cells.length = p then df1 (ms ⟨cells ++ List.replicate (n - p) .un, st⟩) else none := rfl
@[simp] theorem df1_r : df1 (some (.ret r, Γ)) = retEV r Γ := rfl
@[simp] theorem df1_n : df1 (some (.nx, ⟨sl, st⟩)) = some (.val .non, st) := rfl
/-! places, slices -/
def pp1 (o : Option (EV × VEnv)) : Option (Option Int × VEnv) := o.bind fun p => match p.1 with
  | .val (.int i) => some (some i, p.2)
  | _ => none
@[simp] theorem mPN_e : mPN Γ = some (none, Γ) := rfl
@[simp] theorem mPS_e : mPS m Γ = pp1 (m Γ) := rfl
@[simp] theorem pp1_s {z : Int} : pp1 (some (.val (.int z), Γ)) = some (some z, Γ) := rfl
abbrev MO := VEnv → Option (Option Int × VEnv)
def sl4 (o : Option D) (l u : Option Int) (Γ : VEnv) : Option (EV × VEnv) := o.bind fun d => bn4 (slD d l u) Γ
def sl3 (r : EV) (l : Option Int) (o : Option (Option Int × VEnv)) : Option (EV × VEnv) := o.bind fun u => sl4 (peek u.2 r) l u.1 u.2
def sl2 (hi : MO) (r : EV) (o : Option (Option Int × VEnv)) : Option (EV × VEnv) := o.bind fun l => sl3 r l.1 (hi l.2)
def sl1 (lo hi : MO) (o : Option (EV × VEnv)) : Option (EV × VEnv) := o.bind fun p => sl2 hi p.1 (lo p.2)
@[simp] theorem mSl_e {lo hi : MO} : mSl m lo hi Γ = sl1 lo hi (m Γ) := rfl
@[simp] theorem sl1_s {lo hi : MO} : sl1 lo hi (some (r, Γ)) = sl2 hi r (lo Γ) := rfl
@[simp] theorem sl2_s {hi : MO} {l : Option Int} : sl2 hi r (some (l, Γ)) = sl3 r l (hi Γ) := rfl
@[simp] theorem sl3_s {l u : Option Int} : sl3 r l (some (u, Γ)) = sl4 (peek Γ r) l u Γ := rfl
@[simp] theorem sl4_s {l u : Option Int} : sl4 (some d) l u Γ = bn4 (slD d l u) Γ := rfl
@[simp] theorem slD_l {l u : Option Int} : slD (.lst xs) l u = some (.fresh (.lst (cutL xs l u))) := rfl
@[simp] theorem slD_t {l u : Option Int} : slD (.tup xs) l u = some (.val (.tup (cutL xs l u))) := rfl
@[simp] theorem slD_s {l u : Option Int} {w : List Nat} : slD (.str w) l u = some (.val (.str (cutL w l u))) := rfl
def un2 (h : D → Option EV) (o : Option D) (Γ : VEnv) : Option (EV × VEnv) := o.bind fun d => bn4 (h d) Γ
def un1 (h : D → Option EV) (o : Option (EV × VEnv)) : Option (EV × VEnv) := o.bind fun p => un2 h (peek p.2 p.1) p.2
@[simp] theorem mUn_e {h : D → Option EV} : mUn h m Γ = un1 h (m Γ) := rfl
@[simp] theorem un1_s {h : D → Option EV} : un1 h (some (r, Γ)) = un2 h (peek Γ r) Γ := rfl
@[simp] theorem un2_s {h : D → Option EV} : un2 h (some d) Γ = bn4 (h d) Γ := rfl
/-! methods -/
def mt4 (h : D → List D → Option EV) (o : Option D) (p : Option (List D)) (Γ : VEnv) : Option (EV × VEnv) := o.bind fun d => p.bind fun ds => bn4 (h d ds) Γ
def mt3 (h : D → List D → Option EV) (r : EV) (o : Option (List EV × VEnv)) : Option (EV × VEnv) := o.bind fun q => mt4 h (peek q.2 r) (peekL q.2 q.1) q.2
def mt2 (T : String) (h : D → List D → Option EV) (ml : ML) (r : EV) (Γ : VEnv) (o : Option D) : Option (EV × VEnv) := o.bind fun d0 => if tyM T d0 = true then mt3 h r (ml Γ) else none
def mt1 (T : String) (h : D → List D → Option EV) (ml : ML) (o : Option (EV × VEnv)) : Option (EV × VEnv) := o.bind fun p => mt2 T h ml p.1 p.2 (peek p.2 p.1)
@[simp] theorem mMeth_e {h : D → List D → Option EV} : mMeth T h mo ml Γ = mt1 T h ml (mo Γ) := rfl
@[simp] theorem mt1_s {h : D → List D → Option EV} : mt1 T h ml (some (r, Γ)) = mt2 T h ml r Γ (peek Γ r) := rfl
@[simp] theorem mt2_s {h : D → List D → Option EV} {w : List Nat} : mt2 "str" h ml r Γ (some (.str w)) = mt3 h r (ml Γ) := rfl
@[simp] theorem mt2_l {h : D → List D → Option EV} : mt2 "list" h ml r Γ (some (.lst xs)) = mt3 h r (ml Γ) := rfl
@[simp] theorem mt3_s {h : D → List D → Option EV} : mt3 h r (some (rs, Γ)) = mt4 h (peek Γ r) (peekL Γ rs) Γ := rfl
@[simp] theorem mt4_s {h : D → List D → Option EV} : mt4 h (some d) (some ds) Γ = bn4 (h d ds) Γ := rfl
abbrev MUT := List D → List D → Option (D × List D)
def mu6 (r : EV) (o : Option (D × List D)) (Γ : VEnv) : Option (EV × VEnv) := o.map fun w => (.val w.1, putC Γ (.lst w.2) r)
def mu5 (h : MUT) (r : EV) (ds : List D) (o : Option D) (Γ : VEnv) : Option (EV × VEnv) := o.bind fun c => match c with
  | .lst cs => mu6 r (h cs ds) Γ
  | _ => none
def mu4 (h : MUT) (r : EV) (o : Option (List D × VEnv)) : Option (EV × VEnv) := o.bind fun z => mu5 h r z.1 (content z.2 r) z.2
def mu3 (h : MUT) (r : EV) (o : Option (List EV × VEnv)) : Option (EV × VEnv) := o.bind fun q => mu4 h r (freezeL q.1 q.2)
def mu2 (h : MUT) (ml : ML) (r : EV) (Γ : VEnv) (o : Option D) : Option (EV × VEnv) := o.bind fun c0 => match c0 with
  | .lst _ => mu3 h r (ml Γ)
  | _ => none
def mu1 (h : MUT) (ml : ML) (o : Option (EV × VEnv)) : Option (EV × VEnv) := o.bind fun p => mu2 h ml p.1 p.2 (content p.2 p.1)
@[simp] theorem mMut_e {h : MUT} : mMut h mo ml Γ = mu1 h ml (mo Γ) := rfl
@[simp] theorem mu1_s {h : MUT} : mu1 h ml (some (r, Γ)) = mu2 h ml r Γ (content Γ r) := rfl
@[simp] theorem mu2_s {h : MUT} : mu2 h ml r Γ (some (.lst xs)) = mu3 h r (ml Γ) := rfl
@[simp] theorem mu3_s {h : MUT} : mu3 h r (some (rs, Γ)) = mu4 h r (freezeL rs Γ) := rfl
@[simp] theorem mu4_s {h : MUT} : mu4 h r (some (ds, Γ)) = mu5 h r ds (content Γ r) Γ := rfl
@[simp] theorem mu5_s {h : MUT} : mu5 h r ds (some (.lst cs)) Γ = mu6 r (h cs ds) Γ := rfl
@[simp] theorem mu6_s : mu6 r (some (d, cs)) Γ = some (.val d, putC Γ (.lst cs) r) := rfl
@[simp] theorem ownOf_f : ownOf Γ (.fresh d) = some d := rfl
@[simp] theorem ownOf_s : ownOf Γ (.slot i) = content Γ (.slot i) := rfl
@[simp] theorem ownOf_p : ownOf Γ (.par k) = content Γ (.par k) := rfl
def ex4 (r : EV) (o p : Option D) (Γ : VEnv) : Option (EV × VEnv) := o.bind fun z => p.bind fun c => match c, z with
  | .lst cs, .lst ds => if cs.length + ds.length ≤ sizeLine then some (.val .non, putC Γ (.lst (cs ++ ds)) r) else none
  | _, _ => none
def ex3 (r : EV) (o : Option (EV × VEnv)) : Option (EV × VEnv) := o.bind fun q => ex4 r (ownOf q.2 q.1) (content q.2 r) q.2
def ex2 (m : M) (r : EV) (Γ : VEnv) (o : Option D) : Option (EV × VEnv) := o.bind fun c0 => match c0 with
  | .lst _ => ex3 r (m Γ)
  | _ => none
def ex1 (m : M) (o : Option (EV × VEnv)) : Option (EV × VEnv) := o.bind fun p => ex2 m p.1 p.2 (content p.2 p.1)
@[simp] theorem mExt_e : mExt mo m Γ = ex1 m (mo Γ) := rfl
@[simp] theorem ex1_s : ex1 m (some (r, Γ)) = ex2 m r Γ (content Γ r) := rfl
@[simp] theorem ex2_s : ex2 m r Γ (some (.lst xs)) = ex3 r (m Γ) := rfl
@[simp] theorem ex3_s : ex3 r (some (s, Γ)) = ex4 r (ownOf Γ s) (content Γ r) Γ := rfl
@[simp] theorem ex4_s : ex4 r (some (.lst ds)) (some (.lst cs)) Γ = if cs.length + ds.length ≤ sizeLine then some (.val .non, putC Γ (.lst (cs ++ ds)) r) else none := rfl
/-! statements -/
def sq (b : MS) (o : Option (Fl × VEnv)) : Option (Fl × VEnv) := o.bind fun p => match p.1 with
  | .nx => b p.2
  | fl => some (fl, p.2)
@[simp] theorem mSeq_e : mSeq ms ms2 Γ = sq ms2 (ms Γ) := rfl
@[simp] theorem sq_n : sq ms (some (.nx, Γ)) = ms Γ := rfl
@[simp] theorem sq_r : sq ms (some (.ret r, Γ)) = some (.ret r, Γ) := rfl
@[simp] theorem sq_b : sq ms (some (.brk, Γ)) = some (.brk, Γ) := rfl
@[simp] theorem sq_c : sq ms (some (.cont, Γ)) = some (.cont, Γ) := rfl
@[simp] theorem mNext_e : mNext Γ = some (.nx, Γ) := rfl
@[simp] theorem mBrk_e : mBrk Γ = some (.brk, Γ) := rfl
@[simp] theorem mCont_e : mCont Γ = some (.cont, Γ) := rfl
@[simp] theorem mRetN_e : mRetN Γ = some (.ret (.val .non), Γ) := rfl
def dr1 (o : Option (EV × VEnv)) : Option (Fl × VEnv) := o.map fun p => (.nx, p.2)
def re1 (o : Option (EV × VEnv)) : Option (Fl × VEnv) := o.map fun p => (.ret p.1, p.2)
@[simp] theorem mDrop_e : mDrop m Γ = dr1 (m Γ) := rfl
@[simp] theorem mRet_e : mRet m Γ = re1 (m Γ) := rfl
@[simp] theorem dr1_s : dr1 (some (r, Γ)) = some (.nx, Γ) := rfl
@[simp] theorem re1_s : re1 (some (r, Γ)) = some (.ret r, Γ) := rfl
def ag2 (o : Option VEnv) : Option (Fl × VEnv) := o.map fun Γ => (.nx, Γ)
def ag1 (g : MG) (o : Option (EV × VEnv)) : Option (Fl × VEnv) := o.bind fun p => ag2 (g p.1 p.2)
@[simp] theorem mAsg_e : mAsg m g Γ = ag1 g (m Γ) := rfl
@[simp] theorem ag1_s : ag1 g (some (r, Γ)) = ag2 (g r Γ) := rfl
@[simp] theorem ag2_s : ag2 (some Γ) = some (.nx, Γ) := rfl
def gq1 (gs : List MG) (ds : List D) (o : Option VEnv) : Option VEnv := o.bind fun Γ => mgSeq gs ds Γ
@[simp] theorem mgSeq_n : mgSeq [] [] Γ = some Γ := rfl
@[simp] theorem mgSeq_c {gs : List MG} : mgSeq (g :: gs) (d :: ds) Γ = gq1 gs ds (g (.val d) Γ) := rfl
@[simp] theorem gq1_s {gs : List MG} : gq1 gs ds (some Γ) = mgSeq gs ds Γ := rfl
def gt1 (gs : List MG) (o : Option (D × VEnv)) : Option VEnv := o.bind fun p => match p.1 with
  | .tup ds => mgSeq gs ds p.2
  | .lst ds => mgSeq gs ds p.2
  | _ => none
@[simp] theorem mgTup_e {gs : List MG} : mgTup gs r Γ = gt1 gs (freeze r Γ) := rfl
@[simp] theorem gt1_t {gs : List MG} : gt1 gs (some (.tup ds, Γ)) = mgSeq gs ds Γ := rfl
@[simp] theorem gt1_l {gs : List MG} : gt1 gs (some (.lst ds, Γ)) = mgSeq gs ds Γ := rfl
def gs5 (d : D) (r : EV) (xs : List D) (o : Option Nat) (Γ : VEnv) : Option VEnv := o.map fun j => putC Γ (.lst (xs.set j d)) r
def gs4 (d : D) (r : EV) (o p : Option D) (Γ : VEnv) : Option VEnv := o.bind fun c => p.bind fun i => match c, i with
  | .lst xs, .int k => gs5 d r xs (ixN xs.length k) Γ
  | _, _ => none
def gs3 (r i : EV) (o : Option (D × VEnv)) : Option VEnv := o.bind fun z => gs4 z.1 r (content z.2 r) (peek z.2 i) z.2
def gs2 (v r : EV) (o : Option (EV × VEnv)) : Option VEnv := o.bind fun q => gs3 r q.1 (freeze v q.2)
def gs1 (mi : M) (v : EV) (o : Option (EV × VEnv)) : Option VEnv := o.bind fun p => gs2 v p.1 (mi p.2)
@[simp] theorem mgSub_e : mgSub mo m r Γ = gs1 m r (mo Γ) := rfl
@[simp] theorem gs1_s : gs1 m r (some (s, Γ)) = gs2 r s (m Γ) := rfl
@[simp] theorem gs2_s {v : EV} : gs2 v r (some (s, Γ)) = gs3 r s (freeze v Γ) := rfl
@[simp] theorem gs3_s : gs3 r s (some (d, Γ)) = gs4 d r (content Γ r) (peek Γ s) Γ := rfl
@[simp] theorem gs4_s {z : Int} : gs4 d r (some (.lst xs)) (some (.int z)) Γ = gs5 d r xs (ixN xs.length z) Γ := rfl
@[simp] theorem gs5_s : gs5 d r xs (some j) Γ = some (putC Γ (.lst (xs.set j d)) r) := rfl
def au5 (o : Option VEnv) : Option (Fl × VEnv) := o.map fun Γ => (.nx, Γ)
def au4 (i : Nat) (o : Option EV) (Γ : VEnv) : Option (Fl × VEnv) := o.bind fun r => au5 (asgn i r Γ)
def au3 (h : D → D → Option EV) (i : Nat) (o p : Option D) (Γ : VEnv) : Option (Fl × VEnv) := o.bind fun x => p.bind fun y => au4 i (h x y) Γ
def au2 (h : D → D → Option EV) (i : Nat) (r : EV) (o : Option (EV × VEnv)) : Option (Fl × VEnv) := o.bind fun q => au3 h i (peek q.2 r) (peek q.2 q.1) q.2
def au1 (h : D → D → Option EV) (i : Nat) (m : M) (o : Option (EV × VEnv)) : Option (Fl × VEnv) := o.bind fun p => au2 h i p.1 (m p.2)
@[simp] theorem mAug_e {h : D → D → Option EV} : mAug h i m Γ = au1 h i m (mVar i Γ) := rfl
@[simp] theorem au1_s {h : D → D → Option EV} : au1 h i m (some (r, Γ)) = au2 h i r (m Γ) := rfl
@[simp] theorem au2_s {h : D → D → Option EV} : au2 h i r (some (s, Γ)) = au3 h i (peek Γ r) (peek Γ s) Γ := rfl
@[simp] theorem au3_s {h : D → D → Option EV} : au3 h i (some x) (some y) Γ = au4 i (h x y) Γ := rfl
@[simp] theorem au4_s : au4 i (some r) Γ = au5 (asgn i r Γ) := rfl
@[simp] theorem au5_s : au5 (some Γ) = some (.nx, Γ) := rfl
def pr2 (i j : Nat) (o : Option (List D × VEnv)) : Option (Fl × VEnv) := o.bind fun q => match q.1 with
  | [d, e] => some (.nx, setCell (setCell q.2 i (.val d)) j (.val e))
  | _ => none
def pr1 (i j : Nat) (o : Option (List EV × VEnv)) : Option (Fl × VEnv) := o.bind fun p => pr2 i j (freezeL p.1 p.2)
@[simp] theorem mPar_e : mPar i j ml Γ = pr1 i j (ml Γ) := rfl
@[simp] theorem pr1_s : pr1 i j (some (rs, Γ)) = pr2 i j (freezeL rs Γ) := rfl
@[simp] theorem pr2_s : pr2 i j (some ([d, e], Γ)) = some (.nx, setCell (setCell Γ i (.val d)) j (.val e)) := rfl
def pt2 (i j l : Nat) (o : Option (List D × VEnv)) : Option (Fl × VEnv) := o.bind fun q => match q.1 with
  | [d, e, f] => some (.nx, setCell (setCell (setCell q.2 i (.val d)) j (.val e)) l (.val f))
  | _ => none
def pt1 (i j l : Nat) (o : Option (List EV × VEnv)) : Option (Fl × VEnv) := o.bind fun p => pt2 i j l (freezeL p.1 p.2)
@[simp] theorem mPar3_e : mPar3 i j k ml Γ = pt1 i j k (ml Γ) := rfl
@[simp] theorem pt1_s : pt1 i j k (some (rs, Γ)) = pt2 i j k (freezeL rs Γ) := rfl
@[simp] theorem pt2_s : pt2 i j k (some ([d, e, f], Γ)) = some (.nx, setCell (setCell (setCell Γ i (.val d)) j (.val e)) k (.val f)) := rfl
/-! walks -/
def ms2' (o : Option (D × VEnv)) : Option (List D × VEnv) := o.bind fun q => match q.1 with
  | .lst xs => some (xs, q.2)
  | .tup xs => some (xs, q.2)
  | .str s => some (signsD s, q.2)
  | _ => none
def ms1' (o : Option (EV × VEnv)) : Option (List D × VEnv) := o.bind fun p => ms2' (freeze p.1 p.2)
@[simp] theorem miSeq_e : miSeq m Γ = ms1' (m Γ) := rfl
@[simp] theorem ms1_s : ms1' (some (r, Γ)) = ms2' (freeze r Γ) := rfl
@[simp] theorem ms2_l : ms2' (some (.lst xs, Γ)) = some (xs, Γ) := rfl
@[simp] theorem ms2_t : ms2' (some (.tup xs, Γ)) = some (xs, Γ) := rfl
@[simp] theorem ms2_s {w : List Nat} : ms2' (some (.str w, Γ)) = some (signsD w, Γ) := rfl
def me2 (o : Option (List D × VEnv)) : Option (List D × VEnv) := o.bind fun q => match q.1 with
  | [.lst xs] => some (enumD xs, q.2)
  | _ => none
def me1 (o : Option (List EV × VEnv)) : Option (List D × VEnv) := o.bind fun p => me2 (freezeL p.1 p.2)
@[simp] theorem miEnum_e : miEnum ml Γ = me1 (ml Γ) := rfl
@[simp] theorem me1_s : me1 (some (rs, Γ)) = me2 (freezeL rs Γ) := rfl
@[simp] theorem me2_s : me2 (some ([.lst xs], Γ)) = some (enumD xs, Γ) := rfl
def mz2 (o : Option (List D × VEnv)) : Option (List D × VEnv) := o.bind fun q => match q.1 with
  | [.lst xs, .lst ys] => some (zipD xs ys, q.2)
  | [.tup xs, .tup ys] => some (zipD xs ys, q.2)
  | _ => none
def mz1 (o : Option (List EV × VEnv)) : Option (List D × VEnv) := o.bind fun p => mz2 (freezeL p.1 p.2)
@[simp] theorem miZip_e : miZip ml Γ = mz1 (ml Γ) := rfl
@[simp] theorem mz1_s : mz1 (some (rs, Γ)) = mz2 (freezeL rs Γ) := rfl
@[simp] theorem mz2_l : mz2 (some ([.lst xs, .lst cs], Γ)) = some (zipD xs cs, Γ) := rfl
@[simp] theorem mz2_t : mz2 (some ([.tup xs, .tup cs], Γ)) = some (zipD xs cs, Γ) := rfl
def rp2 (r : EV) (o : Option (EV × VEnv)) : Option (EV × VEnv) := o.bind fun q => match r, q.1 with
  | .fresh (.lst xs), .val (.int k) => if k.natAbs / 4611686018427387904 = 0 ∧ xs.length * k.toNat ≤ sizeLine then some (.fresh (.lst (List.replicate k.toNat xs).flatten), q.2) else none
  | _, _ => none
def rp1 (b : M) (o : Option (EV × VEnv)) : Option (EV × VEnv) := o.bind fun p => rp2 p.1 (b p.2)
@[simp] theorem mRepL_e : mRepL a b Γ = rp1 b (a Γ) := rfl
@[simp] theorem rp1_s : rp1 b (some (r, Γ)) = rp2 r (b Γ) := rfl
@[simp] theorem rp2_s {z : Int} : rp2 (.fresh (.lst xs)) (some (.val (.int z), Γ)) = if z.natAbs / 4611686018427387904 = 0 ∧ xs.length * z.toNat ≤ sizeLine then some (.fresh (.lst (List.replicate z.toNat xs).flatten), Γ) else none := rfl
/-! comprehensions -/
@[simp] theorem mYes_e : mYes Γ = some (true, Γ) := rfl
@[simp] theorem wipeE_n : wipeE Γ [] = Γ := rfl
@[simp] theorem wipeE_c {v : Nat} {vs : List Nat} : wipeE Γ (v :: vs) = setCell (wipeE Γ vs) v .un := rfl
def ok1 (o : Option Cell) : Bool := match o with
  | some (.own _) => false
  | _ => true
@[simp] theorem okW_n : okW Γ [] = true := rfl
@[simp] theorem okW_c {v : Nat} {vs : List Nat} : okW ⟨sl, st⟩ (v :: vs) = (ok1 sl[v]? && okW ⟨sl, st⟩ vs) := rfl
@[simp] theorem ok1_u : ok1 (some .un) = true := rfl
@[simp] theorem ok1_v : ok1 (some (.val d)) = true := rfl
@[simp] theorem ok1_p : ok1 (some (.par k)) = true := rfl
@[simp] theorem ok1_n : ok1 none = true := rfl
/-- one turn: what is put to the list, if any -/
def tu4 (vs : List Nat) (o : Option (D × VEnv)) : Option (Option D × VEnv) := o.map fun z => (some z.1, wipeE z.2 vs)
def tu3 (vs : List Nat) (o : Option (EV × VEnv)) : Option (Option D × VEnv) := o.bind fun q => tu4 vs (freeze q.1 q.2)
def tu2 (vs : List Nat) (m : M) (o : Option (Bool × VEnv)) : Option (Option D × VEnv) := o.bind fun p => if p.1 = true then tu3 vs (m p.2) else some (none, wipeE p.2 vs)
def tu1 (vs : List Nat) (tt : MB) (m : M) (o : Option VEnv) : Option (Option D × VEnv) := o.bind fun Γ => tu2 vs m (tt Γ)
def turn (vs : List Nat) (g : MG) (tt : MB) (m : M) (d : D) (Γ : VEnv) : Option (Option D × VEnv) := tu1 vs tt m (g (.val d) Γ)
@[simp] theorem turn_e {vs : List Nat} : turn vs g t m d Γ = tu1 vs t m (g (.val d) Γ) := rfl
@[simp] theorem tu1_s {vs : List Nat} : tu1 vs t m (some Γ) = tu2 vs m (t Γ) := rfl
@[simp] theorem tu2_s {vs : List Nat} : tu2 vs m (some (c, Γ)) = if c = true then tu3 vs (m Γ) else some (none, wipeE Γ vs) := rfl
@[simp] theorem tu3_s {vs : List Nat} : tu3 vs (some (r, Γ)) = tu4 vs (freeze r Γ) := rfl
@[simp] theorem tu4_s {vs : List Nat} : tu4 vs (some (d, Γ)) = some (some d, wipeE Γ vs) := rfl
end
/-! operations on data -/
section
variable {i j : Int} {s t : List Nat} {xs ys : List D} {c k : Bool} {d e : D}
@[simp] theorem addD_i : addD (.int i) (.int j) = some (.val (.int (i + j))) := rfl
@[simp] theorem addD_b : addD (.int i) (.bl c) = some (.val (.int (i + if c then 1 else 0))) := rfl
@[simp] theorem addD_s : addD (.str s) (.str t) = if s.length + t.length ≤ sizeLine then some (.val (.str (s ++ t))) else none := rfl
@[simp] theorem addD_l : addD (.lst xs) (.lst ys) = if xs.length + ys.length ≤ sizeLine then some (.fresh (.lst (xs ++ ys))) else none := rfl
@[simp] theorem addD_t : addD (.tup xs) (.tup ys) = if xs.length + ys.length ≤ sizeLine then some (.val (.tup (xs ++ ys))) else none := rfl
@[simp] theorem subD_i : subD (.int i) (.int j) = some (.val (.int (i - j))) := rfl
@[simp] theorem mulD_i : mulD (.int i) (.int j) = if mulOk i j = true then some (.val (.int (i * j))) else none := rfl
@[simp] theorem mulD_s : mulD (.str s) (.int j) = if j ≤ 1000 ∧ -1000 ≤ j ∧ s.length ≤ 1000 then some (.val (.str (List.replicate j.toNat s).flatten)) else none := rfl
@[simp] theorem mulD_t : mulD (.tup xs) (.int j) = if xs ≠ [] ∧ 2 ≤ j ∧ j ≤ 1000 ∧ xs.length ≤ 1000 then some (.val (.tup (List.replicate j.toNat xs).flatten)) else none := rfl
@[simp] theorem fdivD_i : fdivD (.int i) (.int j) = if 0 < j ∧ j.natAbs.log2 < 9000 then some (.val (.int (i / j))) else none := rfl
@[simp] theorem modD_i : modD (.int i) (.int j) = if 0 < j then some (.val (.int (i % j))) else none := rfl
@[simp] theorem powD_i : powD (.int i) (.int j) = if powOk i j = true then some (.val (.int (i ^ j.toNat))) else none := rfl
@[simp] theorem negD_i : negD (.int i) = some (.val (.int (-i))) := rfl
@[simp] theorem revD_l : revD (.lst xs) = some (.fresh (.lst xs.reverse)) := rfl
@[simp] theorem revD_t : revD (.tup xs) = some (.val (.tup xs.reverse)) := rfl
@[simp] theorem revD_s : revD (.str s) = some (.val (.str s.reverse)) := rfl
@[simp] theorem ltD_i : ltD (.int i) (.int j) = some (decide (i < j)) := rfl
@[simp] theorem leD_i : leD (.int i) (.int j) = some (decide (i ≤ j)) := rfl
@[simp] theorem gtD_i : gtD (.int i) (.int j) = some (decide (j < i)) := rfl
@[simp] theorem geD_i : geD (.int i) (.int j) = some (decide (j ≤ i)) := rfl
@[simp] theorem ltD_s : ltD (.str s) (.str t) = some (decide (s < t)) := rfl
@[simp] theorem leD_s : leD (.str s) (.str t) = some (!decide (t < s)) := rfl
@[simp] theorem gtD_s : gtD (.str s) (.str t) = some (decide (t < s)) := rfl
@[simp] theorem geD_s : geD (.str s) (.str t) = some (!decide (s < t)) := rfl
@[simp] theorem isD_b : isD (.bl c) (.bl k) = some (decide (c = k)) := rfl
@[simp] theorem isD_n : isD .non .non = some true := rfl
@[simp] theorem isD_bn : isD (.bl c) .non = some false := rfl
@[simp] theorem isD_in : isD (.int i) .non = some false := rfl
@[simp] theorem isD_sn : isD (.str s) .non = some false := rfl
@[simp] theorem isD_tn : isD (.tup xs) .non = some false := rfl
@[simp] theorem isD_ln : isD (.lst xs) .non = some false := rfl
def nt1 (o : Option Bool) : Option Bool := o.map (!·)
@[simp] theorem notD_e {g : D → D → Option Bool} : notD g d e = nt1 (g d e) := rfl
@[simp] theorem nt1_s : nt1 (some c) = some (!c) := rfl
@[simp] theorem lenD_s : lenD [.str s] = some (.val (.int s.length)) := rfl
@[simp] theorem lenD_l : lenD [.lst xs] = some (.val (.int xs.length)) := rfl
@[simp] theorem lenD_t : lenD [.tup xs] = some (.val (.int xs.length)) := rfl
@[simp] theorem absD_i : absD [.int i] = some (.val (.int (if i < 0 then -i else i))) := rfl
@[simp] theorem intD_i : intD [.int i] = some (.val (.int i)) := rfl
@[simp] theorem intD_b : intD [.bl c] = some (.val (.int (if c then 1 else 0))) := rfl
@[simp] theorem maxD_2 : maxD [.int i, .int j] = some (.val (.int (if j > i then j else i))) := rfl
@[simp] theorem minD_2 : minD [.int i, .int j] = some (.val (.int (if j < i then j else i))) := rfl
theorem maxD_l {ns : List Int} (h : intsOf xs = some ns) (hn : ns ≠ []) : maxD [.lst xs] = some (.val (.int (maxI ns))) := by
  simp only [maxD, h, Option.bind_some, if_pos hn]
theorem minD_l {ns : List Int} (h : intsOf xs = some ns) (hn : ns ≠ []) : minD [.lst xs] = some (.val (.int (minI ns))) := by
  simp only [minD, h, Option.bind_some, if_pos hn]
@[simp] theorem maxD_m {ns : List Int} (hn : ns ≠ []) : maxD [.lst (ns.map D.int)] = some (.val (.int (maxI ns))) := maxD_l (intsOf_of ns) hn
@[simp] theorem minD_m {ns : List Int} (hn : ns ≠ []) : minD [.lst (ns.map D.int)] = some (.val (.int (minI ns))) := minD_l (intsOf_of ns) hn
theorem sumD_l {ns : List Int} (h : intsOf xs = some ns) : sumD [.lst xs] = some (.val (.int ns.sum)) := by
  simp only [sumD, h, Option.map_some]
@[simp] theorem sumD_m {ns : List Int} : sumD [.lst (ns.map D.int)] = some (.val (.int ns.sum)) := sumD_l (intsOf_of ns)
theorem allD_l {bs : List Bool} (h : blsOf xs = some bs) : allD [.lst xs] = some (.val (.bl (bs.all id))) := by
  simp only [allD, h, Option.map_some]
theorem anyD_l {bs : List Bool} (h : blsOf xs = some bs) : anyD [.lst xs] = some (.val (.bl (bs.any id))) := by
  simp only [anyD, h, Option.map_some]
@[simp] theorem tupleD_l : tupleD [.lst xs] = some (.val (.tup xs)) := rfl
@[simp] theorem listD_l : listD [.lst xs] = some (.fresh (.lst xs)) := rfl
@[simp] theorem listD_t : listD [.tup xs] = some (.fresh (.lst xs)) := rfl
@[simp] theorem tupleD_t : tupleD [.tup xs] = some (.val (.tup xs)) := rfl
theorem isi_e {n : String} {u : String} (h : tyOf d = some u) : isiD [d, .ty n] = if n ∈ ["int", "bool", "str", "list", "tuple", "dict"] then some (.val (.bl (u == n || (u == "bool" && n == "int")))) else none := by
  simp only [isiD, h, Option.bind_some]
@[simp] theorem isi_i {n : String} : isiD [.int i, .ty n] = if n ∈ ["int", "bool", "str", "list", "tuple", "dict"] then some (.val (.bl ("int" == n || ("int" == "bool" && n == "int")))) else none := rfl
@[simp] theorem isi_b {n : String} : isiD [.bl c, .ty n] = if n ∈ ["int", "bool", "str", "list", "tuple", "dict"] then some (.val (.bl ("bool" == n || ("bool" == "bool" && n == "int")))) else none := rfl
@[simp] theorem isi_s {n : String} : isiD [.str s, .ty n] = if n ∈ ["int", "bool", "str", "list", "tuple", "dict"] then some (.val (.bl ("str" == n || ("str" == "bool" && n == "int")))) else none := rfl
@[simp] theorem isi_l {n : String} : isiD [.lst xs, .ty n] = if n ∈ ["int", "bool", "str", "list", "tuple", "dict"] then some (.val (.bl ("list" == n || ("list" == "bool" && n == "int")))) else none := rfl
@[simp] theorem isi_t {n : String} : isiD [.tup xs, .ty n] = if n ∈ ["int", "bool", "str", "list", "tuple", "dict"] then some (.val (.bl ("tuple" == n || ("tuple" == "bool" && n == "int")))) else none := rfl
@[simp] theorem isi_n {n : String} : isiD [.non, .ty n] = if n ∈ ["int", "bool", "str", "list", "tuple", "dict"] then some (.val (.bl ("NoneType" == n || ("NoneType" == "bool" && n == "int")))) else none := rfl
def ix1 (o : Option D) : Option EV := o.map .val
def ix2 (o : Option Nat) : Option EV := o.map fun c => .val (.str [c])
@[simp] theorem ixD_l : ixD (.lst xs) (.int i) = ix1 (atI xs i) := rfl
@[simp] theorem ixD_t : ixD (.tup xs) (.int i) = ix1 (atI xs i) := rfl
@[simp] theorem ixD_s : ixD (.str s) (.int i) = ix2 (atI s i) := rfl
@[simp] theorem ix1_s : ix1 (some d) = some (.val d) := rfl
@[simp] theorem ix2_s {c : Nat} : ix2 (some c) = some (.val (.str [c])) := rfl
@[simp] theorem g1S_s {f : List Nat → List Nat → D} : g1S f (.str s) [.str t] = some (.val (f s t)) := rfl
@[simp] theorem inD_s {c : Nat} : inD (.str [c]) (.str t) = some (decide (c ∈ t)) := rfl
@[simp] theorem gAppend_s : gAppend xs [d] = if xs.length < sizeLine then some (.non, xs ++ [d]) else none := rfl
def gp1 (cs : List D) (o : Option D) : Option (D × List D) := o.map fun d => (d, cs)
@[simp] theorem gPop_s : gPop xs [] = gp1 xs.dropLast xs[xs.length - 1]? := rfl
@[simp] theorem gp1_s : gp1 xs (some d) = some (d, xs) := rfl
@[simp] theorem gReverse_s : gReverse xs [] = some (.non, xs.reverse) := rfl
@[simp] theorem gClear_s : gClear xs [] = some (.non, []) := rfl
end
end VS

set_option Elab.async false
set_option linter.all false
set_option maxRecDepth 100000
set_option maxHeartbeats 4000000
/-! ### plain reasoning over mirrors -/
namespace VS
open PySem L2 PyProof.Rows

/-- a cell that holds a value, or nothing -/
def cel : Option D → Cell
  | none => .un
  | some d => .val d
@[simp] theorem unlend_val (n : Nat) (st : List SC) (d : D) : unlend n st (.val d) = .val d := rfl
@[simp] theorem unlend_un (n : Nat) (st : List SC) : unlend n st .un = .un := rfl
@[simp] theorem unlend_own (n : Nat) (st : List SC) (d : D) : unlend n st (.own d) = .own d := rfl
@[simp] theorem unlend_cel (n : Nat) (st : List SC) (o : Option D) : unlend n st (cel o) = cel o := by cases o <;> rfl
@[simp] theorem unlend_par (n : Nat) (st : List SC) (k : Nat) : unlend n st (.par k) = if k < n then .par k else match st[k]? with
    | some (.own d) => .own d
    | some (.frz d) => .val d
    | none => .un := rfl
/-- a cell that holds an own object, or nothing -/
def oce : Option D → Cell
  | none => .un
  | some d => .own d
@[simp] theorem unlend_oce (n : Nat) (st : List SC) (o : Option D) : unlend n st (oce o) = oce o := by cases o <;> rfl
@[simp] theorem oce_some (d : D) : oce (some d) = .own d := rfl
@[simp] theorem oce_none : oce none = .un := rfl
@[simp] theorem cel_some (d : D) : cel (some d) = .val d := rfl
@[simp] theorem cel_none : cel none = .un := rfl
/-! small facts for the store -/
theorem st_at (st : List SC) (x : SC) : (st ++ [x])[st.length]? = some x := by simp
@[simp] theorem st_take (st : List SC) (x : SC) : (st ++ [x]).take st.length = st := by simp
@[simp] theorem st_set (st : List SC) (x y : SC) : (st ++ [x]).set st.length y = st ++ [y] := by simp
@[simp] theorem intsOf_map' (ns : List Int) : intsOf (ns.map D.int) = some ns := intsOf_of ns
@[simp] theorem strsOf_map' (ns : List (List Nat)) : strsOf (ns.map D.str) = some ns := strsOf_of ns
theorem intsOf_mapf {α : Type} (f : α → Int) (xs : List α) : intsOf (xs.map fun x => D.int (f x)) = some (xs.map f) := by
  have := intsOf_of (xs.map f)
  rwa [List.map_map] at this
theorem strsOf_mapf {α : Type} (f : α → List Nat) (xs : List α) : strsOf (xs.map fun x => D.str (f x)) = some (xs.map f) := by
  have := strsOf_of (xs.map f)
  rwa [List.map_map] at this
theorem blsOf_mapf {α : Type} (f : α → Bool) : ∀ xs : List α, blsOf (xs.map fun x => D.bl (f x)) = some (xs.map f)
  | [] => rfl
  | x :: xs => by simp only [List.map_cons, blsOf, blsOf_mapf f xs, Option.map_some]
@[simp] theorem sumD_f {α : Type} (f : α → Int) (l : List α) : sumD [.lst (l.map fun x => D.int (f x))] = some (.val (.int (l.map f).sum)) := sumD_l (intsOf_mapf f l)
@[simp] theorem maxD_f {α : Type} (f : α → Int) (l : List α) (h : l ≠ []) : maxD [.lst (l.map fun x => D.int (f x))] = some (.val (.int (maxI (l.map f)))) := maxD_l (intsOf_mapf f l) (by simpa using h)
@[simp] theorem minD_f {α : Type} (f : α → Int) (l : List α) (h : l ≠ []) : minD [.lst (l.map fun x => D.int (f x))] = some (.val (.int (minI (l.map f)))) := minD_l (intsOf_mapf f l) (by simpa using h)
@[simp] theorem allD_f {α : Type} (f : α → Bool) (l : List α) : allD [.lst (l.map fun x => D.bl (f x))] = some (.val (.bl (l.all f))) := by
  rw [allD_l (blsOf_mapf f l)]
  simp [List.all_map, Function.comp_def]
@[simp] theorem anyD_f {α : Type} (f : α → Bool) (l : List α) : anyD [.lst (l.map fun x => D.bl (f x))] = some (.val (.bl (l.any f))) := by
  rw [anyD_l (blsOf_mapf f l)]
  simp [List.any_map, Function.comp_def]
theorem sizeLine_big : 1000000 ≤ sizeLine := by decide
/-! ### sequences -/
theorem seq_nx {a b : MS} {Γ Γ' : VEnv} {r : Option (Fl × VEnv)} (h : a Γ = some (.nx, Γ')) (h2 : b Γ' = r) : mSeq a b Γ = r := by
  simp only [mSeq, h, Option.bind_some]
  exact h2
theorem seq_ret {a b : MS} {Γ Γ' : VEnv} {v : EV} (h : a Γ = some (.ret v, Γ')) : mSeq a b Γ = some (.ret v, Γ') := by
  simp only [mSeq, h, Option.bind_some]
theorem for_in {mi : MI} {g : MG} {b : MS} {Γ Γ1 : VEnv} {ds : List D} {r : Option (Fl × VEnv)} (h : mi Γ = some (ds, Γ1)) (h2 : forD g b ds Γ1 = r) : mFor mi g b Γ = r := by
  simp only [mFor, h, Option.bind_some]
  exact h2
theorem okR_in {i : Int} (h1 : -1000000 ≤ i) (h2 : i ≤ 1000000) : okR i = true := by
  have a : i.natAbs < 4611686018427387904 := by omega
  exact decide_eq_true (Nat.div_eq_of_lt a)
theorem smallI_of {i : Int} (h1 : -1000000 ≤ i) (h2 : i ≤ 1000000) : smallI i = true := by
  have a : i.natAbs < 18446744073709551616 := by omega
  exact decide_eq_true (Nat.div_eq_of_lt a)
theorem mulOk_small {i j : Int} (h1 : -1000000 ≤ i) (h2 : i ≤ 1000000) : mulOk i j = true := by
  unfold mulOk
  rw [smallI_of h1 h2]
  rfl
theorem mulOk_l {i j : Int} (h : smallI i = true) : mulOk i j = true := by
  unfold mulOk
  rw [h]
  rfl
theorem mulOk_r {i j : Int} (h : smallI j = true) : mulOk i j = true := by
  unfold mulOk
  rw [h, Bool.or_true]
  rfl
theorem miR1_eq {ml : ML} {Γ Γ1 : VEnv} {j : Int} (h : ml Γ = some ([.val (.int j)], Γ1)) (hj : okR j = true) : miR1 ml Γ = some (rangeD 0 j.toNat, Γ1) := by
  unfold miR1
  rw [h]
  exact if_pos hj
theorem miR2_eq {ml : ML} {Γ Γ1 : VEnv} {i j : Int} (h : ml Γ = some ([.val (.int i), .val (.int j)], Γ1)) (hi : okR i = true) (hj : okR j = true) : miR2 ml Γ = some (rangeD i (j - i).toNat, Γ1) := by
  unfold miR2
  rw [h]
  exact if_pos ⟨hi, hj⟩
theorem miR3_eq {ml : ML} {Γ Γ1 : VEnv} {i j : Int} (h : ml Γ = some ([.val (.int i), .val (.int j), .val (.int (-1))], Γ1)) (hi : okR i = true) (hj : okR j = true) : miR3 ml Γ = some (rangeDC i (-1) (i - j).toNat, Γ1) := by
  unfold miR3
  rw [h]
  exact if_pos ⟨rfl, hi, hj⟩
/-- range(n), range(a, b) of small numbers -/
theorem miR1_n {ml : ML} {Γ Γ1 : VEnv} {j : Int} (n : Nat) (h : ml Γ = some ([.val (.int j)], Γ1)) (hj : j = n) (hn : n ≤ 1000000) : miR1 ml Γ = some (rangeD 0 n, Γ1) := by
  have := miR1_eq h (okR_in (by omega) (by omega))
  rw [this]
  congr 2
  subst hj
  rfl
theorem miR2_n {ml : ML} {Γ Γ1 : VEnv} {i j : Int} (n : Nat) (h : ml Γ = some ([.val (.int i), .val (.int j)], Γ1)) (hj : (j - i).toNat = n) (h1 : -1000000 ≤ i) (h2 : i ≤ 1000000) (h3 : -1000000 ≤ j) (h4 : j ≤ 1000000) : miR2 ml Γ = some (rangeD i n, Γ1) := by
  rw [miR2_eq h (okR_in h1 h2) (okR_in h3 h4), hj]
theorem asg_in {m : M} {g : MG} {Γ Γ1 Γ2 : VEnv} {r : EV} (h : m Γ = some (r, Γ1)) (h2 : g r Γ1 = some Γ2) : mAsg m g Γ = some (.nx, Γ2) := by
  simp only [mAsg, h, Option.bind_some, h2, Option.map_some]
theorem if_in {t : MB} {a b : MS} {Γ Γ1 : VEnv} {c : Bool} {r : Option (Fl × VEnv)} (h : t Γ = some (c, Γ1)) (h2 : (if c = true then a Γ1 else b Γ1) = r) : mIfS t a b Γ = r := by
  simp only [mIfS, h, Option.bind_some]
  exact h2
theorem ret_in {m : M} {Γ Γ1 : VEnv} {r : EV} (h : m Γ = some (r, Γ1)) : mRet m Γ = some (.ret r, Γ1) := by
  simp only [mRet, h, Option.map_some]
theorem def_ret {p n : Nat} {m : MS} {cells : List Cell} {st st' : List SC} {Γ' : VEnv} {v r : EV} (hl : cells.length = p := by rfl) (h : m ⟨cells ++ List.replicate (n - p) .un, st⟩ = some (.ret v, Γ')) (h2 : retEV v Γ' = some (r, st')) : defOf p n m cells st = some (r, st') := by
  simp only [defOf, hl, if_true, h, Option.bind_some, h2]
theorem def_val {p n : Nat} {m : MS} {cells : List Cell} {st st' : List SC} {d : D} (hl : cells.length = p) (h : ∃ sl, m ⟨cells ++ List.replicate (n - p) .un, st⟩ = some (.ret (.val d), ⟨sl, st'⟩)) : defOf p n m cells st = some (.val d, st') := by
  obtain ⟨sl, h⟩ := h
  exact def_ret hl h rfl
theorem def_nx {p n : Nat} {m : MS} {cells : List Cell} {st : List SC} {Γ' : VEnv} (hl : cells.length = p := by rfl) (h : m ⟨cells ++ List.replicate (n - p) .un, st⟩ = some (.nx, Γ')) : defOf p n m cells st = some (.val .non, Γ'.st) := by
  simp only [defOf, hl, if_true, h, Option.bind_some]
/-! ### for -/
theorem forD_inv {g : MG} {b : MS} (S : Nat → VEnv → Prop) (ds : List D) (h : ∀ i (hi : i < ds.length) Γ, S i Γ → ∃ Γ1 Γ2, g (.val ds[i]) Γ = some Γ1 ∧ (b Γ1 = some (.nx, Γ2) ∨ b Γ1 = some (.cont, Γ2)) ∧ S (i + 1) Γ2) {Γ : VEnv} (h0 : S 0 Γ) :
    ∃ Γ', forD g b ds Γ = some (.nx, Γ') ∧ S ds.length Γ' := by
  have : ∀ k (i : Nat) Γ, ds.length - i = k → i ≤ ds.length → S i Γ → ∃ Γ', forD g b (ds.drop i) Γ = some (.nx, Γ') ∧ S ds.length Γ' := by
    intro k
    induction k with
    | zero =>
      intro i Γ hk hi hs
      have e : i = ds.length := by omega
      subst e
      rw [List.drop_length]
      exact ⟨Γ, rfl, hs⟩
    | succ k ih =>
      intro i Γ hk hi hs
      have hlt : i < ds.length := by omega
      obtain ⟨Γ1, Γ2, h1, h2, h3⟩ := h i hlt Γ hs
      obtain ⟨Γ', h4, h5⟩ := ih (i + 1) Γ2 (by omega) hlt h3
      refine ⟨Γ', ?_, h5⟩
      rw [List.drop_eq_getElem_cons hlt]
      simp only [forD, h1, Option.bind_some]
      rcases h2 with h2 | h2 <;> (rw [h2]; exact h4)
  have := this _ 0 Γ rfl (Nat.zero_le _) h0
  simpa using this
/-- each turn goes on, or one gives an answer -/
theorem forD_all {g : MG} {b : MS} (S : VEnv → Prop) (R : VEnv → Prop) (r : EV) (ds : List D) (good : Nat → Bool)
    (h1 : ∀ i (hi : i < ds.length) Γ, S Γ → good i = true → ∃ Γ1 Γ2, g (.val ds[i]) Γ = some Γ1 ∧ b Γ1 = some (.nx, Γ2) ∧ S Γ2)
    (h2 : ∀ i (hi : i < ds.length) Γ, S Γ → good i = false → ∃ Γ1 Γ2, g (.val ds[i]) Γ = some Γ1 ∧ b Γ1 = some (.ret r, Γ2) ∧ R Γ2) {Γ : VEnv} (h0 : S Γ) :
    ((List.range ds.length).all good = true ∧ ∃ Γ', forD g b ds Γ = some (.nx, Γ') ∧ S Γ') ∨ ((List.range ds.length).all good = false ∧ ∃ Γ', forD g b ds Γ = some (.ret r, Γ') ∧ R Γ') := by
  have : ∀ k (i : Nat) Γ, ds.length - i = k → i ≤ ds.length → S Γ → ((∀ j, i ≤ j → j < ds.length → good j = true) ∧ ∃ Γ', forD g b (ds.drop i) Γ = some (.nx, Γ') ∧ S Γ') ∨ ((∃ j, i ≤ j ∧ j < ds.length ∧ good j = false) ∧ ∃ Γ', forD g b (ds.drop i) Γ = some (.ret r, Γ') ∧ R Γ') := by
    intro k
    induction k with
    | zero =>
      intro i Γ hk hi hs
      have e : i = ds.length := by omega
      subst e
      rw [List.drop_length]
      exact .inl ⟨fun j h1 h2 => by omega, Γ, rfl, hs⟩
    | succ k ih =>
      intro i Γ hk hi hs
      have hlt : i < ds.length := by omega
      rw [List.drop_eq_getElem_cons hlt]
      cases hg : good i with
      | true =>
        obtain ⟨Γ1, Γ2, e1, e2, e3⟩ := h1 i hlt Γ hs hg
        simp only [forD, e1, Option.bind_some, e2]
        rcases ih (i + 1) Γ2 (by omega) hlt e3 with ⟨a, q⟩ | ⟨⟨j, a1, a2, a3⟩, q⟩
        · refine .inl ⟨fun j h3 h4 => ?_, q⟩
          by_cases e : j = i
          · rw [e]; exact hg
          · exact a j (by omega) h4
        · exact .inr ⟨⟨j, by omega, a2, a3⟩, q⟩
      | false =>
        obtain ⟨Γ1, Γ2, e1, e2, e3⟩ := h2 i hlt Γ hs hg
        simp only [forD, e1, Option.bind_some, e2]
        exact .inr ⟨⟨i, Nat.le_refl _, hlt, hg⟩, Γ2, rfl, e3⟩
  rcases this _ 0 Γ rfl (Nat.zero_le _) h0 with ⟨a, q⟩ | ⟨⟨j, a1, a2, a3⟩, q⟩
  · rw [List.drop_zero] at q
    exact .inl ⟨by rw [List.all_eq_true]; intro j hj; exact a j (Nat.zero_le _) (List.mem_range.mp hj), q⟩
  · rw [List.drop_zero] at q
    refine .inr ⟨?_, q⟩
    rw [List.all_eq_false]
    exact ⟨j, List.mem_range.mpr a2, by rw [a3]; decide⟩
theorem forD_good {g : MG} {b : MS} (S : VEnv → Prop) (r : EV) (ds : List D) (good : Nat → Bool)
    (h : ∀ i (hi : i < ds.length) Γ, S Γ → ∃ Γ1 Γ2, g (.val ds[i]) Γ = some Γ1 ∧ b Γ1 = some (if good i = true then .nx else .ret r, Γ2) ∧ S Γ2) {Γ : VEnv} (h0 : S Γ) :
    ∃ Γ', forD g b ds Γ = some (if (List.range ds.length).all good = true then .nx else .ret r, Γ') ∧ S Γ' := by
  rcases forD_all (g := g) (b := b) S S r ds good (fun i hi Γ hs hg => by
      obtain ⟨Γ1, Γ2, e1, e2, e3⟩ := h i hi Γ hs
      rw [if_pos hg] at e2
      exact ⟨Γ1, Γ2, e1, e2, e3⟩) (fun i hi Γ hs hg => by
      obtain ⟨Γ1, Γ2, e1, e2, e3⟩ := h i hi Γ hs
      rw [if_neg (by rw [hg]; decide)] at e2
      exact ⟨Γ1, Γ2, e1, e2, e3⟩) h0 with ⟨a, Γ', e, q⟩ | ⟨a, Γ', e, q⟩
  · exact ⟨Γ', by rw [if_pos a]; exact e, q⟩
  · exact ⟨Γ', by rw [if_neg (by rw [a]; decide)]; exact e, q⟩
@[simp] theorem rangeD_length (lo : Int) (n : Nat) : (rangeD lo n).length = n := by simp [rangeD]
@[simp] theorem rangeD_get (lo : Int) (n i : Nat) (h : i < (rangeD lo n).length) : (rangeD lo n)[i] = .int (lo + (i : Nat)) := by simp [rangeD]
@[simp] theorem signsD_length (s : List Nat) : (signsD s).length = s.length := by simp [signsD]
@[simp] theorem signsD_get (s : List Nat) (i : Nat) (h : i < (signsD s).length) : (signsD s)[i] = .str [s[i]'(by simpa using h)] := by simp [signsD]
@[simp] theorem enumD_length (ds : List D) : (enumD ds).length = ds.length := by simp [enumD]
@[simp] theorem enumD_getE (ds : List D) (i : Nat) (h : i < (enumD ds).length) : (enumD ds)[i] = .tup [.int (i : Nat), ds[i]'(by simpa using h)] := by simp [enumD]
/-! ### while -/
theorem whileD_inv {t : MB} {b : MS} (S : Nat → VEnv → Prop) (h : ∀ k Γ, S k Γ → (∃ Γ1, t Γ = some (false, Γ1) ∧ S 0 Γ1) ∨ ∃ Γ1 Γ2 k', t Γ = some (true, Γ1) ∧ (b Γ1 = some (.nx, Γ2) ∨ b Γ1 = some (.cont, Γ2)) ∧ k' < k ∧ S k' Γ2) : ∀ (n k : Nat) (Γ : VEnv), k < n → S k Γ → ∃ k' Γ1 Γ', S k' Γ1 ∧ t Γ1 = some (false, Γ') ∧ S 0 Γ' ∧ whileD t b n Γ = some (.nx, Γ')
  | 0, k, Γ, hk, _ => by omega
  | n + 1, k, Γ, hk, hs => by
    rcases h k Γ hs with ⟨Γ1, e1, e2⟩ | ⟨Γ1, Γ2, k', e1, e2, e3, e4⟩
    · exact ⟨k, Γ, Γ1, hs, e1, e2, by simp [whileD, e1]⟩
    · obtain ⟨k2, G1, G', a1, a2, a3, a4⟩ := whileD_inv S h n k' Γ2 (by omega) e4
      refine ⟨k2, G1, G', a1, a2, a3, ?_⟩
      rcases e2 with e2 | e2 <;> simp [whileD, e1, e2, a4]
/-! ### comprehensions -/
theorem lcD_turn {vs : List Nat} {g : MG} {tt : MB} {m : M} {d : D} {ds acc : List D} {Γ : VEnv} (hl : acc.length < sizeLine) : lcD vs g tt m (d :: ds) acc Γ = (turn vs g tt m d Γ).bind fun p => match p.1 with
    | some x => lcD vs g tt m ds (acc ++ [x]) p.2
    | none => lcD vs g tt m ds acc p.2 := by
  simp only [lcD, turn, tu1, tu2, tu3, tu4]
  cases g (.val d) Γ with
  | none => rfl
  | some Γ1 =>
    simp only [Option.bind_some]
    cases tt Γ1 with
    | none => rfl
    | some p =>
      simp only [Option.bind_some]
      split
      · cases m p.2 with
        | none => rfl
        | some q =>
          simp only [Option.bind_some]
          cases freeze q.1 q.2 with
          | none => rfl
          | some z => simp only [Option.bind_some, Option.map_some, if_pos hl]
      · rfl
theorem lcD_map {α : Type} {vs : List Nat} {g : MG} {tt : MB} {m : M} {Γ : VEnv} (f : α → D) (b : α → Bool) (h : α → D) : ∀ (xs : List α) (acc : List D), (∀ x ∈ xs, turn vs g tt m (f x) Γ = some (if b x = true then some (h x) else none, Γ)) → acc.length + xs.length ≤ sizeLine →
    lcD vs g tt m (xs.map f) acc Γ = some (acc ++ (xs.filter b).map h, Γ)
  | [], acc, _, _ => by simp [lcD]
  | x :: xs, acc, hh, hl => by
    simp only [List.length_cons] at hl
    rw [List.map_cons, lcD_turn (by omega), hh x List.mem_cons_self]
    simp only [Option.bind_some]
    by_cases hb : b x = true
    · simp only [if_pos hb]
      rw [lcD_map f b h xs _ (fun y hy => hh y (List.mem_cons_of_mem _ hy)) (by simp; omega)]
      simp [List.filter_cons, hb]
    · simp only [if_neg hb]
      rw [lcD_map f b h xs _ (fun y hy => hh y (List.mem_cons_of_mem _ hy)) (by omega)]
      simp [List.filter_cons, hb]
theorem wipeE_at {Γ : VEnv} {i : Nat} : ∀ vs : List Nat, (wipeE Γ vs).sl[i]? = if i ∈ vs ∧ i < Γ.sl.length then some .un else Γ.sl[i]?
  | [] => by simp [wipeE]
  | v :: vs => by
    simp only [wipeE, setCell]
    by_cases e : i = v
    · subst e
      by_cases hl : i < Γ.sl.length
      · rw [List.getElem?_set_self (by rw [wipeE_len]; exact hl), if_pos ⟨List.mem_cons_self, hl⟩]
      · rw [List.getElem?_eq_none_iff.mpr (by simp [wipeE_len]; omega), if_neg fun z => hl z.2, List.getElem?_eq_none_iff.mpr (by omega)]
    · rw [List.getElem?_set_ne (Ne.symm e), wipeE_at vs]
      simp [e]
theorem wipeE_st {Γ : VEnv} : ∀ vs : List Nat, (wipeE Γ vs).st = Γ.st
  | [] => rfl
  | v :: vs => by simp only [wipeE, setCell]; exact wipeE_st vs
theorem back_wipe (Γ : VEnv) (vs : List Nat) : backE Γ (wipeE Γ vs) vs = Γ := by
  have h1 : (backE Γ (wipeE Γ vs) vs).st = Γ.st := by rw [backE_st, wipeE_st]
  have h2 : (backE Γ (wipeE Γ vs) vs).sl = Γ.sl := by
    apply List.ext_getElem?
    intro i
    rw [backE_at (by rw [wipeE_len]), wipeE_at]
    by_cases hi : i ∈ vs
    · rw [if_pos hi]
    · rw [if_neg hi, if_neg fun z => hi z.1]
  cases Γ
  generalize backE _ _ _ = G at h1 h2
  cases G
  simp only at h1 h2
  subst h1 h2
  rfl
theorem mLc_map {α : Type} {vs : List Nat} {mi : MI} {g : MG} {tt : MB} {m : M} {Γ Γ1 : VEnv} (f : α → D) (xs : List α) (b : α → Bool) (h : α → D) (hi : mi Γ = some (xs.map f, Γ1)) (ok : okW Γ1 vs = true) (hl : xs.length ≤ sizeLine)
    (hh : ∀ x ∈ xs, turn vs g tt m (f x) (wipeE Γ1 vs) = some (if b x = true then some (h x) else none, wipeE Γ1 vs)) : mLc vs mi g tt m Γ = some (.fresh (.lst ((xs.filter b).map h)), Γ1) := by
  simp only [mLc, hi, Option.bind_some, if_pos ok]
  rw [lcD_map f b h xs [] hh (by simpa using hl)]
  simp only [Option.map_some, List.nil_append, back_wipe]
/-- no test -/
theorem mLc_all {α : Type} {vs : List Nat} {mi : MI} {g : MG} {tt : MB} {m : M} {Γ Γ1 : VEnv} (f : α → D) (xs : List α) (h : α → D) (hi : mi Γ = some (xs.map f, Γ1)) (ok : okW Γ1 vs = true) (hl : xs.length ≤ sizeLine)
    (hh : ∀ x ∈ xs, turn vs g tt m (f x) (wipeE Γ1 vs) = some (some (h x), wipeE Γ1 vs)) : mLc vs mi g tt m Γ = some (.fresh (.lst (xs.map h)), Γ1) := by
  have := mLc_map f xs (fun _ => true) h hi ok hl (by simpa using hh)
  rwa [List.filter_eq_self.mpr (fun _ _ => rfl)] at this
theorem mLc_map0 {α : Type} {vs : List Nat} {mi : MI} {g : MG} {tt : MB} {m : M} {Γ : VEnv} (f : α → D) (xs : List α) (b : α → Bool) (h : α → D) (hi : mi Γ = some (xs.map f, Γ)) (ok : okW Γ vs = true) (hl : xs.length ≤ sizeLine)
    (hh : ∀ x ∈ xs, turn vs g tt m (f x) (wipeE Γ vs) = some (if b x = true then some (h x) else none, wipeE Γ vs)) : mLc vs mi g tt m Γ = some (.fresh (.lst ((xs.filter b).map h)), Γ) := mLc_map f xs b h hi ok hl hh
theorem mLc_all0 {α : Type} {vs : List Nat} {mi : MI} {g : MG} {tt : MB} {m : M} {Γ : VEnv} (f : α → D) (xs : List α) (h : α → D) (hi : mi Γ = some (xs.map f, Γ)) (ok : okW Γ vs = true) (hl : xs.length ≤ sizeLine)
    (hh : ∀ x ∈ xs, turn vs g tt m (f x) (wipeE Γ vs) = some (some (h x), wipeE Γ vs)) : mLc vs mi g tt m Γ = some (.fresh (.lst (xs.map h)), Γ) := mLc_all f xs h hi ok hl hh
theorem lc2D_map {α β : Type} {vs vs1 : List Nat} {g : MG} {tt : MB} {mi1 : MI} {g1 : MG} {tt1 : MB} {m : M} {Γ : VEnv} (f : α → D) (f1 : β → D) (ys : α → List β) (b1 : α → β → Bool) (h1 : α → β → D) : ∀ (xs : List α) (acc : List D),
    (∀ x ∈ xs, ∃ Γ1 Γ2 Γ3, g (.val (f x)) Γ = some Γ1 ∧ tt Γ1 = some (true, Γ2) ∧ mi1 Γ2 = some ((ys x).map f1, Γ3) ∧ (∀ y ∈ ys x, turn vs1 g1 tt1 m (f1 y) (wipeE Γ3 vs1) = some (if b1 x y = true then some (h1 x y) else none, wipeE Γ3 vs1)) ∧ wipeE (wipeE Γ3 vs1) vs = Γ) →
    acc.length + (xs.flatMap ys).length ≤ sizeLine → lc2D vs vs1 g tt mi1 g1 tt1 m (xs.map f) acc Γ = some (acc ++ xs.flatMap (fun x => ((ys x).filter (b1 x)).map (h1 x)), Γ)
  | [], acc, _, _ => by simp [lc2D]
  | x :: xs, acc, hh, hl => by
    obtain ⟨Γ1, Γ2, Γ3, e1, e2, e3, e4, e5⟩ := hh x List.mem_cons_self
    rw [List.flatMap_cons, List.length_append] at hl
    simp only [List.map_cons, lc2D, e1, Option.bind_some, e2, if_true, e3]
    rw [lcD_map f1 (b1 x) (h1 x) (ys x) acc e4 (by omega)]
    simp only [Option.bind_some, e5]
    rw [lc2D_map f f1 ys b1 h1 xs _ (fun y hy => hh y (List.mem_cons_of_mem _ hy))]
    · simp [List.flatMap_cons]
    · have := List.length_filter_le (b1 x) (ys x)
      simp only [List.length_append, List.length_map]
      omega
theorem mLc2_map {α β : Type} {vs vs1 : List Nat} {mi : MI} {g : MG} {tt : MB} {mi1 : MI} {g1 : MG} {tt1 : MB} {m : M} {Γ Γ1 : VEnv} (f : α → D) (xs : List α) (f1 : β → D) (ys : α → List β) (b1 : α → β → Bool) (h1 : α → β → D) (hi : mi Γ = some (xs.map f, Γ1)) (ok : okW Γ1 vs = true) (hl : (xs.flatMap ys).length ≤ sizeLine)
    (hh : ∀ x ∈ xs, ∃ Γ2 Γ3 Γ4, g (.val (f x)) (wipeE Γ1 vs) = some Γ2 ∧ tt Γ2 = some (true, Γ3) ∧ mi1 Γ3 = some ((ys x).map f1, Γ4) ∧ (∀ y ∈ ys x, turn vs1 g1 tt1 m (f1 y) (wipeE Γ4 vs1) = some (if b1 x y = true then some (h1 x y) else none, wipeE Γ4 vs1)) ∧ wipeE (wipeE Γ4 vs1) vs = wipeE Γ1 vs) :
    mLc2 vs vs1 mi g tt mi1 g1 tt1 m Γ = some (.fresh (.lst (xs.flatMap (fun x => ((ys x).filter (b1 x)).map (h1 x)))), Γ1) := by
  simp only [mLc2, hi, Option.bind_some, if_pos ok]
  rw [lc2D_map f f1 ys b1 h1 xs [] hh (by simpa using hl)]
  simp only [Option.map_some, List.nil_append, back_wipe]
/-! places, slices, == -/
theorem atI_nn {α : Type} (xs : List α) (i : Int) (h : 0 ≤ i) : atI xs i = xs[i.toNat]? := by
  unfold atI ixN
  rw [if_pos h]
  split
  · rfl
  · rename_i hn
    rw [List.getElem?_eq_none_iff.mpr (by omega)]
    rfl
@[simp] theorem atN {α : Type} (xs : List α) (i : Nat) : atI xs (i : Int) = xs[i]? := by rw [atI_nn _ _ (by omega)]; simp
@[simp] theorem atI_0 {α : Type} (xs : List α) : atI xs 0 = xs[0]? := atN xs 0
@[simp] theorem atI_1 {α : Type} (xs : List α) : atI xs 1 = xs[1]? := atN xs 1
@[simp] theorem atI_2 {α : Type} (xs : List α) : atI xs 2 = xs[2]? := atN xs 2
theorem atLast {α : Type} (xs : List α) : atI xs (-1) = xs.getLast? := by
  unfold atI ixN
  rw [if_neg (by decide), List.getLast?_eq_getElem?]
  split
  · simp only [Option.bind_some]
    congr 1
    omega
  · rw [List.getElem?_eq_none_iff.mpr (by omega)]
    rfl
@[simp] theorem cutL_ab {α : Type} (xs : List α) (a b : Nat) : cutL xs (some (a : Int)) (some (b : Int)) = (xs.drop a).take (b - a) := by
  unfold cutL
  rw [HT.sIx_nat, HT.sIx_nat]
  apply List.ext_getElem?
  intro i
  simp only [List.getElem?_take, List.getElem?_drop]
  split <;> split
  · congr 1; omega
  · rw [List.getElem?_eq_none_iff.mpr (by omega)]
  · rw [List.getElem?_eq_none_iff.mpr (by omega)]
  · rfl
@[simp] theorem cutL_b {α : Type} (xs : List α) (b : Nat) : cutL xs none (some (b : Int)) = xs.take b := by
  unfold cutL
  rw [HT.sIx_nat, HT.sIx_none, List.drop_zero, Nat.sub_zero]
  apply List.ext_getElem?
  intro i
  simp only [List.getElem?_take]
  split <;> split
  · rfl
  · omega
  · rw [List.getElem?_eq_none_iff.mpr (by omega)]
  · rfl
@[simp] theorem cutL_a {α : Type} (xs : List α) (a : Nat) : cutL xs (some (a : Int)) none = xs.drop a := by
  unfold cutL
  rw [HT.sIx_nat, HT.sIx_none]
  apply List.ext_getElem?
  intro i
  simp only [List.getElem?_take, List.getElem?_drop]
  split
  · congr 1; omega
  · rw [List.getElem?_eq_none_iff.mpr (by omega)]
@[simp] theorem cutL_0 {α : Type} (xs : List α) : cutL xs none none = xs := by
  unfold cutL
  simp [HT.sIx_none]
@[simp] theorem dpt_int (n : Nat) (i : Int) : dpt n (.int i) = true := by cases n <;> rfl
@[simp] theorem dpt_str (n : Nat) (i : List Nat) : dpt n (.str i) = true := by cases n <;> rfl
@[simp] theorem dpt_bl (n : Nat) (i : Bool) : dpt n (.bl i) = true := by cases n <;> rfl
@[simp] theorem dpt_non (n : Nat) : dpt n .non = true := by cases n <;> rfl
theorem dpt_lst (n : Nat) (xs : List D) : dpt (n + 1) (.lst xs) = xs.all (dpt n) := rfl
theorem dpt_tup (n : Nat) (xs : List D) : dpt (n + 1) (.tup xs) = xs.all (dpt n) := rfl
@[simp] theorem eqD_int (i j : Int) : eqD (.int i) (.int j) = some (i == j) := by simp [eqD, beq]
@[simp] theorem neD_int (i j : Int) : neD (.int i) (.int j) = some (i != j) := by simp [neD, beq, bne]
@[simp] theorem eqD_str (i j : List Nat) : eqD (.str i) (.str j) = some (i == j) := by simp [eqD, beq]
@[simp] theorem neD_str (i j : List Nat) : neD (.str i) (.str j) = some (i != j) := by simp [neD, beq, bne]
@[simp] theorem eqD_bl (i j : Bool) : eqD (.bl i) (.bl j) = some (i == j) := by simp [eqD, beq]
@[simp] theorem neD_bl (i j : Bool) : neD (.bl i) (.bl j) = some (i != j) := by simp [neD, beq, bne]
theorem all_dpt {α : Type} (n : Nat) (f : α → D) (h : ∀ x, dpt n (f x) = true) (xs : List α) : (xs.map f).all (dpt n) = true := by
  rw [List.all_eq_true]
  intro d hd
  obtain ⟨x, _, rfl⟩ := List.mem_map.mp hd
  exact h x
theorem beqs_map {α : Type} [BEq α] (f : α → D) (h : ∀ x y, beq (f x) (f y) = (x == y)) : ∀ xs ys : List α, beqs (xs.map f) (ys.map f) = (xs == ys)
  | [], [] => rfl
  | [], _ :: _ => rfl
  | _ :: _, [] => rfl
  | x :: xs, y :: ys => by
    simp only [List.map_cons, beqs, h, beqs_map f h xs ys]
    rfl
theorem eqL {α : Type} [BEq α] (f : α → D) (hd : ∀ x, dpt 59 (f x) = true) (h : ∀ x y, beq (f x) (f y) = (x == y)) (xs ys : List α) : eqD (.lst (xs.map f)) (.lst (ys.map f)) = some (xs == ys) := by
  unfold eqD
  rw [if_pos ⟨all_dpt 59 f hd xs, all_dpt 59 f hd ys⟩]
  simp only [beq, beqs_map f h]
theorem eqT {α : Type} [BEq α] (f : α → D) (hd : ∀ x, dpt 59 (f x) = true) (h : ∀ x y, beq (f x) (f y) = (x == y)) (xs ys : List α) : eqD (.tup (xs.map f)) (.tup (ys.map f)) = some (xs == ys) := by
  unfold eqD
  rw [if_pos ⟨all_dpt 59 f hd xs, all_dpt 59 f hd ys⟩]
  simp only [beq, beqs_map f h]
theorem neL {α : Type} [BEq α] (f : α → D) (hd : ∀ x, dpt 59 (f x) = true) (h : ∀ x y, beq (f x) (f y) = (x == y)) (xs ys : List α) : neD (.lst (xs.map f)) (.lst (ys.map f)) = some (!(xs == ys)) := by
  unfold neD
  rw [if_pos ⟨all_dpt 59 f hd xs, all_dpt 59 f hd ys⟩]
  simp only [beq, beqs_map f h]
theorem neT {α : Type} [BEq α] (f : α → D) (hd : ∀ x, dpt 59 (f x) = true) (h : ∀ x y, beq (f x) (f y) = (x == y)) (xs ys : List α) : neD (.tup (xs.map f)) (.tup (ys.map f)) = some (!(xs == ys)) := by
  unfold neD
  rw [if_pos ⟨all_dpt 59 f hd xs, all_dpt 59 f hd ys⟩]
  simp only [beq, beqs_map f h]
@[simp] theorem eqL_str (xs ys : List (List Nat)) : eqD (.lst (xs.map .str)) (.lst (ys.map .str)) = some (xs == ys) := eqL D.str (fun _ => by simp) (fun _ _ => by simp [beq]) xs ys
@[simp] theorem eqT_str (xs ys : List (List Nat)) : eqD (.tup (xs.map .str)) (.tup (ys.map .str)) = some (xs == ys) := eqT D.str (fun _ => by simp) (fun _ _ => by simp [beq]) xs ys
@[simp] theorem neL_str (xs ys : List (List Nat)) : neD (.lst (xs.map .str)) (.lst (ys.map .str)) = some (!(xs == ys)) := neL D.str (fun _ => by simp) (fun _ _ => by simp [beq]) xs ys
@[simp] theorem neT_str (xs ys : List (List Nat)) : neD (.tup (xs.map .str)) (.tup (ys.map .str)) = some (!(xs == ys)) := neT D.str (fun _ => by simp) (fun _ _ => by simp [beq]) xs ys
@[simp] theorem eqL_int (xs ys : List Int) : eqD (.lst (xs.map .int)) (.lst (ys.map .int)) = some (xs == ys) := eqL D.int (fun _ => by simp) (fun _ _ => by simp [beq]) xs ys
@[simp] theorem eqT_int (xs ys : List Int) : eqD (.tup (xs.map .int)) (.tup (ys.map .int)) = some (xs == ys) := eqT D.int (fun _ => by simp) (fun _ _ => by simp [beq]) xs ys
@[simp] theorem neL_int (xs ys : List Int) : neD (.lst (xs.map .int)) (.lst (ys.map .int)) = some (!(xs == ys)) := neL D.int (fun _ => by simp) (fun _ _ => by simp [beq]) xs ys
@[simp] theorem neT_int (xs ys : List Int) : neD (.tup (xs.map .int)) (.tup (ys.map .int)) = some (!(xs == ys)) := neT D.int (fun _ => by simp) (fun _ _ => by simp [beq]) xs ys
/-! join -/
theorem joinD_lst (s : List Nat) (ns : List (List Nat)) (h : (ns.map (·.length)).sum + ns.length * s.length ≤ 16777216) : joinD (.str s) [.lst (ns.map D.str)] = some (.val (.str (joinL s ns))) := by
  have e : joinD (.str s) [.lst (ns.map D.str)] = (strsOf (ns.map D.str)).bind fun ns => if (ns.map (·.length)).sum + ns.length * s.length ≤ 16777216 then some (.val (.str (joinL s ns))) else none := rfl
  rw [e, strsOf_of, Option.bind_some, if_pos h]
theorem joinL_chars : ∀ w : List Nat, joinL [] (w.map fun c => [c]) = w
  | [] => rfl
  | [x] => rfl
  | x :: y :: r => by
    have := joinL_chars (y :: r)
    simp only [List.map_cons] at this ⊢
    simp [joinL, this]
theorem sum_ones {α : Type} : ∀ xs : List α, (xs.map fun _ => 1).sum = xs.length
  | [] => rfl
  | x :: xs => by simp only [List.map_cons, List.sum_cons, List.length_cons, sum_ones xs]; omega
theorem joinD_chars {α : Type} (f : α → Nat) (xs : List α) (h : xs.length ≤ 16777216) : joinD (.str []) [.lst (xs.map fun x => D.str [f x])] = some (.val (.str (xs.map f))) := by
  have e : (xs.map fun x => D.str [f x]) = ((xs.map f).map fun c => [c]).map D.str := by simp [Function.comp_def]
  rw [e, joinD_lst, joinL_chars]
  have : (((xs.map f).map fun c => [c]).map (·.length)) = xs.map fun _ => 1 := by simp [Function.comp_def]
  rw [this, sum_ones]
  simpa using h
/-! texts of one letter -/
theorem occ1 (s : List Nat) (c : Nat) : ∀ (l : List Nat) (acc : Array Nat) (free limit : Nat), (∀ i ∈ l, free ≤ i) → l.Pairwise (· < ·) → acc.size + l.length ≤ limit →
    (forIn (m := Id) l (acc, free) (PySem.StrLaws.occBody ⟨s.toArray⟩ ⟨#[c]⟩ s.length limit)).run.fst.size = acc.size + (l.filter fun i => s[i]? == some c).length := by
  intro l
  induction l with
  | nil => intro acc free limit _ _ _; rfl
  | cons i l ih =>
    intro acc free limit hf hp hs
    rw [List.pairwise_cons] at hp
    have hfi := hf i List.mem_cons_self
    simp only [List.length_cons] at hs
    have key : (((acc, free).fst.size < limit ∧ (acc, free).snd ≤ i) ∧ i + (⟨#[c]⟩ : Str).length ≤ s.length) ∧ Builtin.Str.subAt ⟨s.toArray⟩ ⟨#[c]⟩ i = true ↔ (s[i]? == some c) = true := by
      have h1 := PySem.StrLaws.subAt_one ⟨s.toArray⟩ c i
      have h1' : (i + (⟨#[c]⟩ : Str).length ≤ s.length ∧ Builtin.Str.subAt ⟨s.toArray⟩ ⟨#[c]⟩ i = true) ↔ s[i]? = some c := by
        simpa [Str.length] using h1
      rw [beq_iff_eq, ← h1']
      constructor
      · rintro ⟨⟨⟨_, _⟩, a⟩, b⟩; exact ⟨a, b⟩
      · rintro ⟨a, b⟩; exact ⟨⟨⟨by show acc.size < limit; omega, hfi⟩, a⟩, b⟩
    rw [List.forIn_cons]
    by_cases hc : (s[i]? == some c) = true
    · have e1 : PySem.StrLaws.occBody ⟨s.toArray⟩ ⟨#[c]⟩ s.length limit i (acc, free) = (pure (ForInStep.yield (acc.push i, i + 1)) : Id _) := by
        unfold PySem.StrLaws.occBody
        simp only [Bool.and_eq_true, decide_eq_true_eq]
        rw [if_pos (key.mpr hc)]
        rfl
      rw [e1]
      simp only [pure_bind]
      rw [ih _ _ limit (fun j hj => hp.1 j hj) hp.2 (by simp; omega)]
      simp [List.filter_cons, hc]
      omega
    · have e1 : PySem.StrLaws.occBody ⟨s.toArray⟩ ⟨#[c]⟩ s.length limit i (acc, free) = (pure (ForInStep.yield (acc, free)) : Id _) := by
        unfold PySem.StrLaws.occBody
        simp only [Bool.and_eq_true, decide_eq_true_eq]
        rw [if_neg fun z => hc (key.mp z)]
      rw [e1]
      simp only [pure_bind]
      rw [ih _ _ limit (fun j hj => hf j (List.mem_cons_of_mem _ hj)) hp.2 (by omega)]
      simp [List.filter_cons, hc]
theorem filter_range (s : List Nat) (c : Nat) : ((List.range' 0 (s.length + 1)).filter fun i => s[i]? == some c).length = s.count c := by
  have : ∀ (s : List Nat) (k : Nat) , ((List.range' k (s.length + 1)).filter fun i => s[i - k]? == some c).length = s.count c := by
    intro s
    induction s with
    | nil => intro k; simp [List.range']
    | cons x s ih =>
      intro k
      rw [List.length_cons, List.range'_succ, List.filter_cons]
      have e : (List.range' (k + 1) (s.length + 1)).filter (fun i => (x :: s)[i - k]? == some c) = (List.range' (k + 1) (s.length + 1)).filter fun i => s[i - (k + 1)]? == some c := by
        apply List.filter_congr
        intro i hi
        have := List.mem_range'_1.mp hi
        obtain ⟨j, rfl⟩ : ∃ j, i = k + 1 + j := ⟨i - (k + 1), by omega⟩
        rw [show k + 1 + j - k = j + 1 by omega, show k + 1 + j - (k + 1) = j by omega, List.getElem?_cons_succ]
      rw [e]
      simp only [Nat.sub_self, List.getElem?_cons_zero]
      rw [List.count_cons]
      by_cases h : x = c
      · subst h; simp [ih (k + 1)]
      · simp [h, ih (k + 1)]
  simpa using this s 0
theorem countS_one (s : List Nat) (c : Nat) : countS s [c] = (s.count c : Nat) := by
  unfold countS Txt.count
  rw [PySem.StrLaws.occ_eq]
  rw [Array.length_toList]
  have := occ1 s c (List.range' 0 (s.length + 1 - 0)) #[] 0 (s.length + 1) (by simp) List.pairwise_lt_range' (by simp)
  rw [Nat.sub_zero, filter_range] at this
  simp only [Str.length, List.size_toArray, Nat.sub_zero]
  rw [show ((⟨[c].toArray⟩ : Str)) = ⟨#[c]⟩ from rfl]
  rw [this]
  simp
end VS

set_option Elab.async false
set_option linter.all false
set_option maxRecDepth 100000
set_option maxHeartbeats 4000000
/-! ### the typed layer: what a mirror computes, as a plain function -/
namespace VS
open PySem L2 PyProof.Rows

/-! encoders -/
abbrev eN : Unit → D := fun _ => .non
abbrev eA : D → D := fun d => d
abbrev eL {α : Type} (e : α → D) : List α → D := fun l => .lst (l.map e)
abbrev eT {α : Type} (e : α → D) : List α → D := fun l => .tup (l.map e)
abbrev eP0 : Unit → D := fun _ => .tup []
abbrev eP1 {α : Type} (e : α → D) : α → D := fun a => .tup [e a]
abbrev eP2 {α β : Type} (e : α → D) (f : β → D) : α × β → D := fun p => .tup [e p.1, f p.2]
abbrev eP3 {α β γ : Type} (e : α → D) (f : β → D) (g : γ → D) : α × β × γ → D := fun p => .tup [e p.1, f p.2.1, g p.2.2]
abbrev eP4 {α β γ δ : Type} (e : α → D) (f : β → D) (g : γ → D) (h : δ → D) : α × β × γ × δ → D := fun p => .tup [e p.1, f p.2.1, g p.2.2.1, h p.2.2.2]
abbrev eP5 {α β γ δ ε : Type} (e : α → D) (f : β → D) (g : γ → D) (h : δ → D) (i : ε → D) : α × β × γ × δ × ε → D := fun p => .tup [e p.1, f p.2.1, g p.2.2.1, h p.2.2.2.1, i p.2.2.2.2]
def eO {α : Type} (e : α → D) : Option α → D
  | none => .non
  | some a => e a

/-- a cell of which nothing is known but that it is no loan -/
inductive Qc where
  | un | val (d : D) | own (d : D)
def q2c : Qc → Cell
  | .un => .un
  | .val d => .val d
  | .own d => .own d
theorem unlend_q2c (n : Nat) (st : List SC) (q : Qc) : unlend n st (q2c q) = q2c q := by cases q <;> rfl
/-- no cell is a loan above n -/
def NL (n : Nat) (cs : List Cell) : Prop := ∀ st, cs.map (unlend n st) = cs
theorem nl_0 {n : Nat} : NL n [] := fun _ => rfl
theorem nl_v {n : Nat} {d : D} {cs : List Cell} (h : NL n cs) : NL n (.val d :: cs) := fun st => by rw [List.map_cons, h st]; rfl
theorem nl_o {n : Nat} {d : D} {cs : List Cell} (h : NL n cs) : NL n (.own d :: cs) := fun st => by rw [List.map_cons, h st]; rfl
theorem nl_u {n : Nat} {cs : List Cell} (h : NL n cs) : NL n (.un :: cs) := fun st => by rw [List.map_cons, h st]; rfl
theorem nl_q {n : Nat} {q : Qc} {cs : List Cell} (h : NL n cs) : NL n (q2c q :: cs) := fun st => by rw [List.map_cons, h st, unlend_q2c]
theorem nl_p {n k : Nat} {cs : List Cell} (hk : k < n) (h : NL n cs) : NL n (.par k :: cs) := fun st => by
  rw [List.map_cons, h st]
  simp only [unlend, if_pos hk]
theorem nl_eq {n : Nat} {cs : List Cell} (h : NL n cs) (st : List SC) : cs.map (unlend n st) = cs := h st

/-- an object of the store -/
def put (st : List SC) (k : Nat) (d : D) : List SC := st.set k (.own d)
@[simp] theorem put_put (st : List SC) (k : Nat) (d e : D) : put (put st k d) k e = put st k e := by simp [put]
@[simp] theorem put_len (st : List SC) (k : Nat) (d : D) : (put st k d).length = st.length := by simp [put]
theorem put_at {st : List SC} {k : Nat} {d : D} (hk : k < st.length) : (put st k d)[k]? = some (.own d) := by simp [put, hk]
theorem put_same {st : List SC} {k : Nat} {d : D} (h : st[k]? = some (.own d)) : put st k d = st := by
  obtain ⟨hk, h⟩ := List.getElem?_eq_some_iff.mp h
  unfold put
  rw [← h]
  exact List.set_getElem_self _
theorem st_put (st : List SC) (d e : D) : put (st ++ [.own d]) st.length e = st ++ [.own e] := by simp [put]
theorem st_put0 (st : List SC) (d : D) : put (st ++ [.own d]) st.length d = st ++ [.own d] := by simp [put]

/-! ### expressions -/
section
variable {Γ Γ1 Γ2 Γ3 Γ4 : VEnv} {i j k n : Nat} {d e x y z : D} {r ra rb rc : EV} {a b m mo : M} {c c1 c2 : Bool} {t t1 t2 : MB} {ml : ML} {rs : List EV} {ds : List D}
theorem q_var (h : Γ.sl[i]? = some (.val d)) : mVar i Γ = some (.val d, Γ) := by unfold mVar; rw [h]
theorem q_varO (h : Γ.sl[i]? = some (.own d)) : mVar i Γ = some (.slot i, Γ) := by unfold mVar; rw [h]
theorem q_varP (h : Γ.sl[i]? = some (.par k)) : mVar i Γ = some (.par k, Γ) := by unfold mVar; rw [h]
theorem q_c : mC d Γ = some (.val d, Γ) := rfl
theorem q_bin {g : D → D → Option EV} (h1 : a Γ = some (ra, Γ1)) (h2 : b Γ1 = some (rb, Γ2)) (h3 : peek Γ2 ra = some x) (h4 : peek Γ2 rb = some y) (h5 : g x y = some r) : mBin g a b Γ = some (r, Γ2) := by
  simp only [mBin, h1, h2, h3, h4, h5, Option.bind_some, Option.map_some]
theorem q_cmp {g : D → D → Option Bool} (h1 : a Γ = some (ra, Γ1)) (h2 : b Γ1 = some (rb, Γ2)) (h3 : peek Γ2 ra = some x) (h4 : peek Γ2 rb = some y) (h5 : g x y = some c) : mCmp g a b Γ = some (c, Γ2) := by
  simp only [mCmp, h1, h2, h3, h4, h5, Option.bind_some, Option.map_some]
theorem q_chain {g g' : D → D → Option Bool} {cc : M} (h1 : a Γ = some (ra, Γ1)) (h2 : b Γ1 = some (rb, Γ2)) (h3 : peek Γ2 ra = some x) (h4 : peek Γ2 rb = some y) (h5 : g x y = some c1)
    (h6 : cc Γ2 = some (rc, Γ2)) (h7 : peek Γ2 rc = some z) (h8 : g' y z = some c2) : mChain g g' a b cc Γ = some (c1 && c2, Γ2) := by
  simp only [mChain, h1, h2, h3, h4, h5, Option.bind_some]
  cases c1
  · rfl
  · simp only [if_true, h6, h4, h7, h8, Option.bind_some, Option.map_some, Bool.true_and]
theorem q_ofB (h : t Γ = some (c, Γ1)) : mOfB t Γ = some (.val (.bl c), Γ1) := by simp only [mOfB, h, Option.map_some]
theorem q_test (h : m Γ = some (.val (.bl c), Γ1)) : mTest m Γ = some (c, Γ1) := by simp only [mTest, h, Option.bind_some]
theorem q_not (h : t Γ = some (c, Γ1)) : mNot t Γ = some (!c, Γ1) := by simp only [mNot, h, Option.map_some]
theorem q_and (h1 : t1 Γ = some (c1, Γ1)) (h2 : c1 = true → t2 Γ1 = some (c2, Γ1)) : mAnd t1 t2 Γ = some (c1 && c2, Γ1) := by
  simp only [mAnd, h1, Option.bind_some]
  cases c1
  · rfl
  · simp only [if_true, h2 rfl, Bool.true_and]
theorem q_or (h1 : t1 Γ = some (c1, Γ1)) (h2 : c1 = false → t2 Γ1 = some (c2, Γ1)) : mOr t1 t2 Γ = some (c1 || c2, Γ1) := by
  simp only [mOr, h1, Option.bind_some]
  cases c1
  · simp only [Bool.false_eq_true, if_false, h2 rfl, Bool.false_or]
  · rfl
/-- the second one may fail, or change things -/
theorem q_andP {α : Type} {o : Option α} {f v : α} {B : α → Bool} {G : α → VEnv} (h1 : t1 Γ = some (c1, Γ1)) (hv : (if c1 = true then o else some f) = some v) (h2 : ∀ v, c1 = true → o = some v → t2 Γ1 = some (B v, G v)) (h3 : B f = false ∧ G f = Γ1) : mAnd t1 t2 Γ = some (B v, G v) := by
  simp only [mAnd, h1, Option.bind_some]
  cases c1
  · cases hv
    rw [h3.1, h3.2]
    rfl
  · rw [if_pos rfl] at hv
    simp only [if_true, h2 v rfl hv]
theorem q_orP {α : Type} {o : Option α} {f v : α} {B : α → Bool} {G : α → VEnv} (h1 : t1 Γ = some (c1, Γ1)) (hv : (if c1 = true then some f else o) = some v) (h2 : ∀ v, c1 = false → o = some v → t2 Γ1 = some (B v, G v)) (h3 : B f = true ∧ G f = Γ1) : mOr t1 t2 Γ = some (B v, G v) := by
  simp only [mOr, h1, Option.bind_some]
  cases c1
  · rw [if_neg (by decide)] at hv
    simp only [Bool.false_eq_true, if_false, h2 v rfl hv]
  · cases hv
    rw [h3.1, h3.2]
    rfl
theorem q_if (h1 : t Γ = some (c, Γ1)) (h2 : c = true → a Γ1 = some (ra, Γ2)) (h3 : c = false → b Γ1 = some (ra, Γ2)) : mIf t a b Γ = some (ra, Γ2) := by
  simp only [mIf, h1, Option.bind_some]
  cases c
  · exact h3 rfl
  · exact h2 rfl
theorem q_ifv {α : Type} {e : α → D} {u v : α} (h1 : t Γ = some (c, Γ1)) (h2 : c = true → a Γ1 = some (.val (e u), Γ1)) (h3 : c = false → b Γ1 = some (.val (e v), Γ1)) : mIf t a b Γ = some (.val (e (if c = true then u else v)), Γ1) := by
  simp only [mIf, h1, Option.bind_some]
  cases c
  · exact h3 rfl
  · exact h2 rfl
theorem q_ifP {α : Type} {oa ob : Option α} {v : α} {R : α → EV} {G : α → VEnv} (h1 : t Γ = some (c, Γ1)) (hv : (if c = true then oa else ob) = some v) (h2 : ∀ v, c = true → oa = some v → a Γ1 = some (R v, G v)) (h3 : ∀ v, c = false → ob = some v → b Γ1 = some (R v, G v)) : mIf t a b Γ = some (R v, G v) := by
  simp only [mIf, h1, Option.bind_some]
  cases c
  · exact h3 v rfl (by simpa using hv)
  · exact h2 v rfl (by simpa using hv)
theorem q_frz (h1 : m Γ = some (r, Γ1)) (h2 : freeze r Γ1 = some (d, Γ2)) : mFrz m Γ = some (.val d, Γ2) := by simp only [mFrz, h1, Option.bind_some, h2, Option.map_some]
theorem q_nil : mNil Γ = some ([], Γ) := rfl
theorem q_cons (h1 : m Γ = some (r, Γ1)) (h2 : ml Γ1 = some (rs, Γ2)) : mCons m ml Γ = some (r :: rs, Γ2) := by simp only [mCons, h1, h2, Option.bind_some, Option.map_some]
theorem q_callB {g : List D → Option EV} (h1 : ml Γ = some (rs, Γ1)) (h2 : peekL Γ1 rs = some ds) (h3 : g ds = some r) : mCallB g ml Γ = some (r, Γ1) := by simp only [mCallB, h1, h2, h3, Option.bind_some, Option.map_some]
theorem q_list (h1 : ml Γ = some (rs, Γ1)) (h2 : freezeL rs Γ1 = some (ds, Γ2)) (h3 : ds.length ≤ sizeLine) : mList ml Γ = some (.fresh (.lst ds), Γ2) := by simp only [mList, h1, h2, Option.bind_some, if_pos h3]
theorem q_tup (h1 : ml Γ = some (rs, Γ1)) (h2 : freezeL rs Γ1 = some (ds, Γ2)) (h3 : ds.length ≤ sizeLine) : mTup ml Γ = some (.val (.tup ds), Γ2) := by simp only [mTup, h1, h2, Option.bind_some, if_pos h3]
theorem q_un {g : D → Option EV} (h1 : m Γ = some (ra, Γ1)) (h2 : peek Γ1 ra = some x) (h3 : g x = some r) : mUn g m Γ = some (r, Γ1) := by simp only [mUn, h1, h2, h3, Option.bind_some, Option.map_some]
theorem q_pN : mPN Γ = some (none, Γ) := rfl
theorem q_pS {i : Int} (h : m Γ = some (.val (.int i), Γ1)) : mPS m Γ = some (some i, Γ1) := by simp only [mPS, h, Option.bind_some]
theorem q_sl {lo hi : VEnv → Option (Option Int × VEnv)} {l u : Option Int} (h1 : m Γ = some (ra, Γ1)) (h2 : lo Γ1 = some (l, Γ2)) (h3 : hi Γ2 = some (u, Γ3)) (h4 : peek Γ3 ra = some x) (h5 : slD x l u = some r) : mSl m lo hi Γ = some (r, Γ3) := by
  simp only [mSl, h1, h2, h3, h4, h5, Option.bind_some, Option.map_some]
theorem q_meth {T : String} {g : D → List D → Option EV} (h1 : mo Γ = some (ra, Γ1)) (h2 : peek Γ1 ra = some x) (h3 : tyM T x = true) (h4 : ml Γ1 = some (rs, Γ2)) (h5 : peek Γ2 ra = some y) (h6 : peekL Γ2 rs = some ds) (h7 : g y ds = some r) : mMeth T g mo ml Γ = some (r, Γ2) := by
  simp only [mMeth, h1, h2, h3, h4, h5, h6, h7, Option.bind_some, if_true, Option.map_some]
theorem q_repL {xs : List D} {k : Int} (h1 : a Γ = some (.fresh (.lst xs), Γ1)) (h2 : b Γ1 = some (.val (.int k), Γ2)) (h3 : k.natAbs / 4611686018427387904 = 0 ∧ xs.length * k.toNat ≤ sizeLine) : mRepL a b Γ = some (.fresh (.lst (List.replicate k.toNat xs).flatten), Γ2) := by
  simp only [mRepL, h1, h2, Option.bind_some, if_pos h3]
/-! calls -/
theorem q_call {bs : List Bool} {f : Sem'} {cs : List Cell} (h1 : ml Γ = some (rs, Γ1)) (h2 : passL bs rs Γ1 = some (cs, Γ1)) (h3 : f cs Γ1.st = some (.val d, Γ1.st)) (hn : NL Γ1.st.length Γ1.sl) : mCall bs f ml Γ = some (.val d, Γ1) := by
  simp only [mCall, h1, h2, h3, Option.bind_some, nl_eq hn, List.take_length]
theorem q_callF {bs : List Bool} {f : Sem'} {cs : List Cell} (h1 : ml Γ = some (rs, Γ1)) (h2 : passL bs rs Γ1 = some (cs, Γ1)) (h3 : f cs Γ1.st = some (.fresh d, Γ1.st)) (hn : NL Γ1.st.length Γ1.sl) : mCall bs f ml Γ = some (.fresh d, Γ1) := by
  simp only [mCall, h1, h2, h3, Option.bind_some, nl_eq hn, List.take_length]
/-- one own object is lent -/
theorem q_callO {bs : List Bool} {f : Sem'} {cs : List Cell} {sl : List Cell} {st : List SC} {rr : EV} (hr : (∃ d, rr = .val d) ∨ ∃ d, rr = .fresh d) (h1 : ml Γ = some (rs, ⟨sl, st⟩)) (h2 : passL bs rs ⟨sl, st⟩ = some (cs, ⟨sl.set i (.par st.length), st ++ [.own x]⟩))
    (h3 : f cs (put (st ++ [.own x]) st.length x) = some (rr, put (st ++ [.own x]) st.length y)) (hn : NL st.length sl) (hi : i < sl.length) : mCall bs f ml Γ = some (rr, ⟨sl.set i (.own y), st⟩) := by
  rw [st_put0, st_put] at h3
  simp only [mCall, h1, h2, h3, Option.bind_some]
  have e : (sl.set i (.par st.length)).map (unlend st.length (st ++ [.own y])) = sl.set i (.own y) := by
    rw [List.map_set, nl_eq hn]
    congr 1
    simp [unlend]
  have e2 : (st ++ [SC.own y]).take st.length = st := by simp
  rcases hr with ⟨d, rfl⟩ | ⟨d, rfl⟩ <;> simp only [e, e2]
/-- an object of the caller's caller is handed on -/
theorem q_callP {bs : List Bool} {f : Sem'} {cs : List Cell} {sl : List Cell} {st : List SC} {rr : EV} (hr : (∃ d, rr = .val d) ∨ ∃ d, rr = .fresh d) (h1 : ml Γ = some (rs, ⟨sl, put st k x⟩)) (h2 : passL bs rs ⟨sl, put st k x⟩ = some (cs, ⟨sl, put st k x⟩))
    (h3 : f cs (put st k x) = some (rr, put st k y)) (hn : NL st.length sl) : mCall bs f ml Γ = some (rr, ⟨sl, put st k y⟩) := by
  have e2 : (put st k y).take st.length = put st k y := List.take_of_length_le (by simp)
  rcases hr with ⟨d, rfl⟩ | ⟨d, rfl⟩ <;> simp only [mCall, h1, h2, h3, Option.bind_some, put_len, nl_eq hn, e2]
/-! own lists are written -/
theorem q_mut {g : List D → List D → Option (D × List D)} {xs cs : List D} {o : D × List D} (h1 : mo Γ = some (ra, Γ1)) (h2 : content Γ1 ra = some (.lst xs)) (h3 : ml Γ1 = some (rs, Γ2)) (h4 : freezeL rs Γ2 = some (ds, Γ3)) (h5 : content Γ3 ra = some (.lst cs)) (h6 : g cs ds = some o) (h7 : putC Γ3 (.lst o.2) ra = Γ4) : mMut g mo ml Γ = some (.val o.1, Γ4) := by
  simp only [mMut, h1, h2, h3, h4, h5, h6, h7, Option.bind_some, Option.map_some]
theorem q_ext {xs cs zs : List D} (h1 : mo Γ = some (ra, Γ1)) (h2 : content Γ1 ra = some (.lst xs)) (h3 : m Γ1 = some (rb, Γ2)) (h4 : ownOf Γ2 rb = some (.lst zs)) (h5 : content Γ2 ra = some (.lst cs)) (h6 : cs.length + zs.length ≤ sizeLine) : mExt mo m Γ = some (.val .non, putC Γ2 (.lst (cs ++ zs)) ra) := by
  simp only [mExt, h1, h2, h3, h4, h5, Option.bind_some, if_pos h6]
/-! what is walked -/
theorem q_iseq {ds : List D} (h1 : m Γ = some (r, Γ1)) (h2 : freeze r Γ1 = some (.lst ds, Γ2)) : miSeq m Γ = some (ds, Γ2) := by simp only [miSeq, h1, h2, Option.bind_some]
theorem q_iseqT {ds : List D} (h1 : m Γ = some (r, Γ1)) (h2 : freeze r Γ1 = some (.tup ds, Γ2)) : miSeq m Γ = some (ds, Γ2) := by simp only [miSeq, h1, h2, Option.bind_some]
theorem q_iseqS {s : List Nat} (h1 : m Γ = some (r, Γ1)) (h2 : freeze r Γ1 = some (.str s, Γ2)) : miSeq m Γ = some (signsD s, Γ2) := by simp only [miSeq, h1, h2, Option.bind_some]
theorem q_ienum {ds xs : List D} (h1 : ml Γ = some (rs, Γ1)) (h2 : freezeL rs Γ1 = some ([.lst xs], Γ2)) : miEnum ml Γ = some (enumD xs, Γ2) := by simp only [miEnum, h1, h2, Option.bind_some]
theorem q_izip {xs ys : List D} (h1 : ml Γ = some (rs, Γ1)) (h2 : freezeL rs Γ1 = some ([.lst xs, .lst ys], Γ2)) : miZip ml Γ = some (zipD xs ys, Γ2) := by simp only [miZip, h1, h2, Option.bind_some]
theorem q_izipT {xs ys : List D} (h1 : ml Γ = some (rs, Γ1)) (h2 : freezeL rs Γ1 = some ([.tup xs, .tup ys], Γ2)) : miZip ml Γ = some (zipD xs ys, Γ2) := by simp only [miZip, h1, h2, Option.bind_some]
end

/-! ### operations that may fail -/
section
variable {α : Type}
def catT (s t : List α) : Option (List α) := if s.length + t.length ≤ sizeLine then some (s ++ t) else none
def mulT (i j : Int) : Option Int := if mulOk i j = true then some (i * j) else none
def fdivT (i j : Int) : Option Int := if 0 < j ∧ j.natAbs.log2 < 9000 then some (i / j) else none
def modT (i j : Int) : Option Int := if 0 < j then some (i % j) else none
def powT (i j : Int) : Option Int := if powOk i j = true then some (i ^ j.toNat) else none
def repST (s : List Nat) (j : Int) : Option (List Nat) := if j ≤ 1000 ∧ -1000 ≤ j ∧ s.length ≤ 1000 then some (List.replicate j.toNat s).flatten else none
def repLT (xs : List α) (k : Int) : Option (List α) := if k.natAbs / 4611686018427387904 = 0 ∧ xs.length * k.toNat ≤ sizeLine then some (List.replicate k.toNat xs).flatten else none
def pushT (xs : List α) (x : α) : Option (List α) := if xs.length < sizeLine then some (xs ++ [x]) else none
def extT (xs ys : List α) : Option (List α) := if xs.length + ys.length ≤ sizeLine then some (xs ++ ys) else none
def setT (xs : List α) (i : Int) (x : α) : Option (List α) := (ixN xs.length i).map fun j => xs.set j x
def popT (xs : List α) : Option (α × List α) := (xs[xs.length - 1]?).map fun x => (x, xs.dropLast)
def popAtT (xs : List α) (i : Int) : Option (α × List α) := if i.natAbs / 4611686018427387904 = 0 then (seqIndex? i xs.length).bind fun k => (xs[k]?).map fun x => (x, xs.eraseIdx k) else none
def maxT (xs : List Int) : Option Int := if xs ≠ [] then some (maxI xs) else none
def minT (xs : List Int) : Option Int := if xs ≠ [] then some (minI xs) else none
def joinT (s : List Nat) (ns : List (List Nat)) : Option (List Nat) := if (ns.map (·.length)).sum + ns.length * s.length ≤ 16777216 then some (joinL s ns) else none
def range1T (j : Int) : Option (List Int) := if okR j = true then some ((List.range j.toNat).map fun i => 0 + ((i : Nat) : Int)) else none
def range2T (i j : Int) : Option (List Int) := if okR i = true ∧ okR j = true then some ((List.range (j - i).toNat).map fun k => i + ((k : Nat) : Int)) else none
def range3T (i j : Int) : Option (List Int) := if okR i = true ∧ okR j = true then some ((List.range (i - j).toNat).map fun k => i + ((k : Nat) : Int) * (-1)) else none
def signsT (s : List Nat) : List (List Nat) := s.map fun c => [c]
def enumT (xs : List α) : List (Int × α) := xs.mapIdx fun i x => ((i : Int), x)
def chT (s : List Nat) (i : Int) : Option (List Nat) := (atI s i).map fun c => [c]
@[reducible] def lett {α β : Type} (a : α) (f : α → β) : β := f a

variable {s t u : List Nat} {i j k : Int}
theorem bnd {β : Type} {o : Option α} {f : α → Option β} {r : β} (h : o.bind f = some r) : ∃ a, o = some a ∧ f a = some r := Option.bind_eq_some_iff.mp h
theorem som {a b : α} (h : some a = some b) : a = b := Option.some.inj h
theorem if_some {c : Prop} [Decidable c] {a b : α} (h : (if c then some a else none) = some b) : c ∧ a = b := by
  by_cases hc : c
  · rw [if_pos hc] at h; exact ⟨hc, Option.some.inj h⟩
  · rw [if_neg hc] at h; cases h
theorem ifo {c : Bool} {a b : Option α} {r : α} (h : (if c = true then a else b) = some r) : (c = true ∧ a = some r) ∨ (c = false ∧ b = some r) := by
  cases c
  · exact .inr ⟨rfl, by simpa using h⟩
  · exact .inl ⟨rfl, by simpa using h⟩

theorem o_catS (h : catT s t = some u) : addD (.str s) (.str t) = some (.val (.str u)) := by
  obtain ⟨h1, rfl⟩ := if_some h
  simp only [addD, if_pos h1]
theorem o_catL {e : α → D} {xs ys zs : List α} (h : catT xs ys = some zs) : addD (eL e xs) (eL e ys) = some (.fresh (eL e zs)) := by
  obtain ⟨h1, rfl⟩ := if_some h
  simp only [addD, eL, List.length_map, if_pos h1, List.map_append]
theorem o_catT {e : α → D} {xs ys zs : List α} (h : catT xs ys = some zs) : addD (eT e xs) (eT e ys) = some (.val (eT e zs)) := by
  obtain ⟨h1, rfl⟩ := if_some h
  simp only [addD, eT, List.length_map, if_pos h1, List.map_append]
theorem o_mul (h : mulT i j = some k) : mulD (.int i) (.int j) = some (.val (.int k)) := by
  obtain ⟨h1, rfl⟩ := if_some h
  simp only [mulD, if_pos h1]
theorem o_fdiv (h : fdivT i j = some k) : fdivD (.int i) (.int j) = some (.val (.int k)) := by
  obtain ⟨h1, rfl⟩ := if_some h
  simp only [fdivD, if_pos h1]
theorem o_mod (h : modT i j = some k) : modD (.int i) (.int j) = some (.val (.int k)) := by
  obtain ⟨h1, rfl⟩ := if_some h
  simp only [modD, if_pos h1]
theorem o_pow (h : powT i j = some k) : powD (.int i) (.int j) = some (.val (.int k)) := by
  obtain ⟨h1, rfl⟩ := if_some h
  simp only [powD, if_pos h1]
theorem o_repS (h : repST s j = some u) : mulD (.str s) (.int j) = some (.val (.str u)) := by
  obtain ⟨h1, rfl⟩ := if_some h
  simp only [mulD, if_pos h1]
theorem flat_repl (e : α → D) (xs : List α) : ∀ n : Nat, (List.replicate n (xs.map e)).flatten = ((List.replicate n xs).flatten).map e
  | 0 => rfl
  | n + 1 => by simp only [List.replicate_succ, List.flatten_cons, List.map_append, flat_repl e xs n]
theorem q_repLT {e : α → D} {xs zs : List α} {a b : M} {Γ Γ1 Γ2 : VEnv} (h1 : a Γ = some (.fresh (eL e xs), Γ1)) (h2 : b Γ1 = some (.val (.int k), Γ2)) (h : repLT xs k = some zs) : mRepL a b Γ = some (.fresh (eL e zs), Γ2) := by
  obtain ⟨h3, rfl⟩ := if_some h
  rw [q_repL h1 h2 (by rw [List.length_map]; exact h3), flat_repl]
theorem o_ixL {e : α → D} {xs : List α} {x : α} (h : atI xs i = some x) : ixD (eL e xs) (.int i) = some (.val (e x)) := by
  have : atI (xs.map e) i = some (e x) := by
    unfold atI at h ⊢
    rw [List.length_map]
    obtain ⟨n, h1, h2⟩ := bnd h
    rw [h1, Option.bind_some, List.getElem?_map, h2]
    rfl
  simp only [ixD, this, Option.map_some]
theorem o_ixT {e : α → D} {xs : List α} {x : α} (h : atI xs i = some x) : ixD (eT e xs) (.int i) = some (.val (e x)) := by
  have : atI (xs.map e) i = some (e x) := by
    unfold atI at h ⊢
    rw [List.length_map]
    obtain ⟨n, h1, h2⟩ := bnd h
    rw [h1, Option.bind_some, List.getElem?_map, h2]
    rfl
  simp only [ixD, this, Option.map_some]
theorem o_ixS (h : chT s i = some u) : ixD (.str s) (.int i) = some (.val (.str u)) := by
  unfold chT at h
  simp only [ixD]
  cases q : atI s i with
  | none => rw [q] at h; cases h
  | some c => rw [q] at h; cases h; rfl
theorem o_push {e : α → D} {xs zs : List α} {x : α} (h : pushT xs x = some zs) : gAppend (xs.map e) [e x] = some (.non, zs.map e) := by
  obtain ⟨h1, rfl⟩ := if_some h
  simp only [gAppend, List.length_map, if_pos h1, List.map_append, List.map_cons, List.map_nil]
theorem map_dropLast' (e : α → D) : ∀ xs : List α, (xs.map e).dropLast = (xs.dropLast).map e := fun xs => by rw [List.map_dropLast]
theorem o_pop {e : α → D} {xs : List α} {o : α × List α} (h : popT xs = some o) : gPop (xs.map e) [] = some (e o.1, o.2.map e) := by
  unfold popT at h
  cases q : xs[xs.length - 1]? with
  | none => rw [q] at h; cases h
  | some c => rw [q] at h; cases h; simp only [gPop, List.length_map, List.getElem?_map, q, Option.map_some, map_dropLast']
theorem eraseIdx_map' {β : Type} (e : α → β) : ∀ (xs : List α) (n : Nat), (xs.map e).eraseIdx n = (xs.eraseIdx n).map e
  | [], n => by simp
  | x :: xs, 0 => rfl
  | x :: xs, n + 1 => by simp only [List.map_cons, List.eraseIdx_cons_succ, eraseIdx_map' e xs n]
theorem o_popAt {e : α → D} {xs : List α} {o : α × List α} (h : popAtT xs i = some o) : gPopAt (xs.map e) [.int i] = some (e o.1, o.2.map e) := by
  unfold popAtT at h
  by_cases h1 : i.natAbs / 4611686018427387904 = 0
  · rw [if_pos h1] at h
    obtain ⟨n, h2, h3⟩ := bnd h
    simp only [gPopAt, if_pos h1, List.length_map, h2, Option.bind_some, List.getElem?_map]
    cases q : xs[n]? with
    | none => rw [q] at h3; cases h3
    | some c => rw [q] at h3; cases h3; simp only [Option.map_some, eraseIdx_map']
  · rw [if_neg h1] at h; cases h
theorem o_rev {e : α → D} {xs : List α} : gReverse (xs.map e) [] = some (.non, xs.reverse.map e) := by simp only [gReverse, List.map_reverse]
theorem o_clear {e : α → D} {xs : List α} : gClear (xs.map e) [] = some (.non, ([] : List α).map e) := rfl
theorem q_extT {e : α → D} {xs ys zs : List α} {mo m : M} {Γ Γ1 Γ2 Γ3 : VEnv} {ra rb : EV} (h1 : mo Γ = some (ra, Γ1)) (h2 : content Γ1 ra = some (eL e xs)) (h3 : m Γ1 = some (rb, Γ2)) (h4 : ownOf Γ2 rb = some (eL e ys)) (h5 : content Γ2 ra = some (eL e xs)) (h6 : extT xs ys = some zs) (h8 : putC Γ2 (eL e zs) ra = Γ3) : mExt mo m Γ = some (.val .non, Γ3) := by
  obtain ⟨h7, rfl⟩ := if_some h6
  rw [q_ext h1 h2 h3 h4 h5 (by simpa using h7), ← List.map_append, h8]
theorem o_max {xs : List Int} (h : maxT xs = some k) : maxD [eL D.int xs] = some (.val (.int k)) := by
  obtain ⟨h1, rfl⟩ := if_some h
  exact maxD_l (intsOf_of xs) h1
theorem o_min {xs : List Int} (h : minT xs = some k) : minD [eL D.int xs] = some (.val (.int k)) := by
  obtain ⟨h1, rfl⟩ := if_some h
  exact minD_l (intsOf_of xs) h1
theorem o_sum {xs : List Int} : sumD [eL D.int xs] = some (.val (.int xs.sum)) := sumD_l (intsOf_of xs)
theorem o_all {xs : List Bool} : allD [eL D.bl xs] = some (.val (.bl (xs.all id))) := allD_l (by have := blsOf_mapf id xs; simpa using this)
theorem o_any {xs : List Bool} : anyD [eL D.bl xs] = some (.val (.bl (xs.any id))) := anyD_l (by have := blsOf_mapf id xs; simpa using this)
theorem o_join {ns : List (List Nat)} (h : joinT s ns = some u) : joinD (.str s) [eL D.str ns] = some (.val (.str u)) := by
  obtain ⟨h1, rfl⟩ := if_some h
  exact joinD_lst s ns h1
theorem o_lenL {e : α → D} {xs : List α} : lenD [eL e xs] = some (.val (.int (xs.length : Nat))) := by simp only [lenD, List.length_map]
theorem o_lenT {e : α → D} {xs : List α} : lenD [eT e xs] = some (.val (.int (xs.length : Nat))) := by simp only [lenD, List.length_map]
theorem cutL_map {β : Type} (e : α → β) (xs : List α) (lo hi : Option Int) : cutL (xs.map e) lo hi = (cutL xs lo hi).map e := by
  unfold cutL
  rw [List.length_map, List.map_take, List.map_drop]
theorem o_slL {e : α → D} {xs : List α} {lo hi : Option Int} : slD (eL e xs) lo hi = some (.fresh (eL e (cutL xs lo hi))) := by simp only [slD, cutL_map]
theorem o_slT {e : α → D} {xs : List α} {lo hi : Option Int} : slD (eT e xs) lo hi = some (.val (eT e (cutL xs lo hi))) := by simp only [slD, cutL_map]
theorem o_slS {lo hi : Option Int} : slD (.str s) lo hi = some (.val (.str (cutL s lo hi))) := rfl
theorem o_revL {e : α → D} {xs : List α} : revD (eL e xs) = some (.fresh (eL e xs.reverse)) := by simp [revD]
theorem o_revT {e : α → D} {xs : List α} : revD (eT e xs) = some (.val (eT e xs.reverse)) := by simp [revD]
theorem o_revS : revD (.str s) = some (.val (.str s.reverse)) := rfl
theorem i_range1 {ml : ML} {Γ Γ1 : VEnv} {l : List Int} (h1 : ml Γ = some ([.val (.int j)], Γ1)) (h : range1T j = some l) : miR1 ml Γ = some (l.map D.int, Γ1) := by
  obtain ⟨h2, rfl⟩ := if_some h
  simp only [miR1, h1, Option.bind_some, if_pos h2, rangeD, List.map_map, Function.comp_def]
theorem i_range2 {ml : ML} {Γ Γ1 : VEnv} {l : List Int} (h1 : ml Γ = some ([.val (.int i), .val (.int j)], Γ1)) (h : range2T i j = some l) : miR2 ml Γ = some (l.map D.int, Γ1) := by
  obtain ⟨h2, rfl⟩ := if_some h
  simp only [miR2, h1, Option.bind_some, if_pos h2, rangeD, List.map_map, Function.comp_def]
theorem i_range3 {ml : ML} {Γ Γ1 : VEnv} {l : List Int} (h1 : ml Γ = some ([.val (.int i), .val (.int j), .val (.int (-1))], Γ1)) (h : range3T i j = some l) : miR3 ml Γ = some (l.map D.int, Γ1) := by
  obtain ⟨h2, rfl⟩ := if_some h
  unfold miR3
  rw [h1, Option.bind_some]
  show (if (-1 : Int) = -1 ∧ okR i = true ∧ okR j = true then _ else _) = _
  rw [if_pos ⟨rfl, h2⟩]
  simp only [rangeDC, List.map_map, Function.comp_def]
theorem signs_e (s : List Nat) : signsD s = (signsT s).map D.str := by simp [signsD, signsT]
theorem enum_e (e : α → D) (xs : List α) : enumD (xs.map e) = (enumT xs).map (eP2 D.int e) := by
  unfold enumD enumT
  apply List.ext_getElem?
  intro i
  simp only [List.getElem?_mapIdx, List.getElem?_map, Option.map_map]
  rfl
theorem zip_e {β : Type} (e : α → D) (f : β → D) (xs : List α) (ys : List β) : zipD (xs.map e) (ys.map f) = (xs.zip ys).map (eP2 e f) := by
  unfold zipD
  rw [List.zip_map, List.map_map]
  rfl
theorem i_seqS {m : M} {Γ Γ1 Γ2 : VEnv} {r : EV} (h1 : m Γ = some (r, Γ1)) (h2 : freeze r Γ1 = some (.str s, Γ2)) : miSeq m Γ = some ((signsT s).map D.str, Γ2) := by rw [q_iseqS h1 h2, signs_e]
theorem i_enum {e : α → D} {xs : List α} {ml : ML} {rs : List EV} {Γ Γ1 Γ2 : VEnv} (h1 : ml Γ = some (rs, Γ1)) (h2 : freezeL rs Γ1 = some ([eL e xs], Γ2)) : miEnum ml Γ = some ((enumT xs).map (eP2 D.int e), Γ2) := by rw [q_ienum (ds := []) h1 h2, enum_e]
theorem i_zip {β : Type} {e : α → D} {f : β → D} {xs : List α} {ys : List β} {ml : ML} {rs : List EV} {Γ Γ1 Γ2 : VEnv} (h1 : ml Γ = some (rs, Γ1)) (h2 : freezeL rs Γ1 = some ([eL e xs, eL f ys], Γ2)) : miZip ml Γ = some ((xs.zip ys).map (eP2 e f), Γ2) := by rw [q_izip h1 h2, zip_e]
theorem i_zipT {β : Type} {e : α → D} {f : β → D} {xs : List α} {ys : List β} {ml : ML} {rs : List EV} {Γ Γ1 Γ2 : VEnv} (h1 : ml Γ = some (rs, Γ1)) (h2 : freezeL rs Γ1 = some ([eT e xs, eT f ys], Γ2)) : miZip ml Γ = some ((xs.zip ys).map (eP2 e f), Γ2) := by rw [q_izipT h1 h2, zip_e]
end
end VS

set_option Elab.async false
set_option linter.all false
set_option maxRecDepth 100000
set_option maxHeartbeats 4000000
/-! ### statements, loops, comprehensions, defs of the typed layer -/
namespace VS
open PySem L2 PyProof.Rows

def Post (o : Option (Fl × VEnv)) (φ : Fl × VEnv → Prop) : Prop := ∃ p, o = some p ∧ φ p
section
variable {Γ Γ1 Γ2 Γ3 : VEnv} {i j l k n : Nat} {d e f x y z : D} {r ra rb rc : EV} {m mo : M} {c : Bool} {t : MB} {ml : ML} {rs : List EV} {a b s : MS} {φ ψ : Fl × VEnv → Prop} {g : MG} {fl : Fl}
theorem po_assoc {s1 s2 s3 : MS} (h : Post (mSeq s1 (mSeq s2 s3) Γ) φ) : Post (mSeq (mSeq s1 s2) s3 Γ) φ := by
  have e : mSeq (mSeq s1 s2) s3 Γ = mSeq s1 (mSeq s2 s3) Γ := by
    unfold mSeq
    cases s1 Γ with
    | none => rfl
    | some p =>
      obtain ⟨fl, Γ'⟩ := p
      cases fl <;> rfl
  rw [e]
  exact h
theorem po_bare (h : Post (mSeq s mNext Γ) φ) : Post (s Γ) φ := by
  have e : mSeq s mNext Γ = s Γ := by
    unfold mSeq
    cases s Γ with
    | none => rfl
    | some p =>
      obtain ⟨fl, Γ'⟩ := p
      cases fl <;> rfl
  rw [← e]
  exact h
theorem po_next (h : Post (b Γ) φ) : Post (mSeq mNext b Γ) φ := h
theorem po_end (h : φ (.nx, Γ)) : Post (mNext Γ) φ := ⟨_, rfl, h⟩
theorem po_nx (h1 : s Γ = some (.nx, Γ1)) (h : Post (b Γ1) φ) : Post (mSeq s b Γ) φ := by
  unfold Post mSeq
  rw [h1]
  exact h
theorem po_out {v : EV} (h1 : s Γ = some (.ret v, Γ1)) (h : φ (.ret v, Γ1)) : Post (mSeq s b Γ) φ := by
  unfold Post mSeq
  rw [h1]
  exact ⟨_, rfl, h⟩
theorem po_asg (h1 : m Γ = some (r, Γ1)) (h2 : g r Γ1 = some Γ2) (h : Post (b Γ2) φ) : Post (mSeq (mAsg m g) b Γ) φ := po_nx (asg_in h1 h2) h
theorem po_drop (h1 : m Γ = some (r, Γ1)) (h : Post (b Γ1) φ) : Post (mSeq (mDrop m) b Γ) φ := po_nx (by simp only [mDrop, h1, Option.map_some]) h
theorem po_ret (h1 : m Γ = some (r, Γ1)) (h : φ (.ret r, Γ1)) : Post (mSeq (mRet m) b Γ) φ := po_out (ret_in h1) h
theorem po_retN (h : φ (.ret (.val .non), Γ)) : Post (mSeq mRetN b Γ) φ := po_out rfl h
theorem po_brk (h : φ (.brk, Γ)) : Post (mSeq mBrk b Γ) φ := ⟨_, rfl, h⟩
theorem po_cont (h : φ (.cont, Γ)) : Post (mSeq mCont b Γ) φ := ⟨_, rfl, h⟩
theorem po_ifT (h1 : t Γ = some (true, Γ1)) (h : Post (mSeq a s Γ1) φ) : Post (mSeq (mIfS t a b) s Γ) φ := by
  have e : mSeq (mIfS t a b) s Γ = mSeq a s Γ1 := by simp only [mSeq, mIfS, h1, Option.bind_some, if_true]
  rw [e]; exact h
theorem po_ifF (h1 : t Γ = some (false, Γ1)) (h : Post (mSeq b s Γ1) φ) : Post (mSeq (mIfS t a b) s Γ) φ := by
  have e : mSeq (mIfS t a b) s Γ = mSeq b s Γ1 := by simp only [mSeq, mIfS, h1, Option.bind_some, Bool.false_eq_true, if_false]
  rw [e]; exact h
theorem pj_ifT (h1 : t Γ = some (true, Γ1)) (h : Post (a Γ1) φ) : Post (mIfS t a b Γ) φ := by
  have e : mIfS t a b Γ = a Γ1 := by simp only [mIfS, h1, Option.bind_some, if_true]
  rw [e]; exact h
theorem pj_ifF (h1 : t Γ = some (false, Γ1)) (h : Post (b Γ1) φ) : Post (mIfS t a b Γ) φ := by
  have e : mIfS t a b Γ = b Γ1 := by simp only [mIfS, h1, Option.bind_some, Bool.false_eq_true, if_false]
  rw [e]; exact h
theorem po_par (h1 : ml Γ = some (rs, Γ1)) (h2 : freezeL rs Γ1 = some ([d, e], Γ2)) (h3 : setCell (setCell Γ2 i (.val d)) j (.val e) = Γ3) (h : Post (b Γ3) φ) : Post (mSeq (mPar i j ml) b Γ) φ :=
  po_nx (by simp only [mPar, h1, h2, h3, Option.bind_some]) h
theorem po_par3 (h1 : ml Γ = some (rs, Γ1)) (h2 : freezeL rs Γ1 = some ([d, e, f], Γ2)) (h3 : setCell (setCell (setCell Γ2 i (.val d)) j (.val e)) l (.val f) = Γ3) (h : Post (b Γ3) φ) : Post (mSeq (mPar3 i j l ml) b Γ) φ :=
  po_nx (by simp only [mPar3, h1, h2, h3, Option.bind_some]) h
theorem po_aug {gg : D → D → Option EV} (h0 : mVar i Γ = some (ra, Γ)) (h1 : m Γ = some (rb, Γ1)) (h2 : peek Γ1 ra = some x) (h3 : peek Γ1 rb = some y) (h4 : gg x y = some r) (h5 : asgn i r Γ1 = some Γ2) (h : Post (b Γ2) φ) : Post (mSeq (mAug gg i m) b Γ) φ :=
  po_nx (by simp only [mAug, h0, h1, h2, h3, h4, h5, Option.bind_some, Option.map_some]) h
theorem post_mono {o : Option (Fl × VEnv)} (h : Post o φ) (hh : ∀ p, φ p → ψ p) : Post o ψ := let ⟨p, h1, h2⟩ := h; ⟨p, h1, hh p h2⟩
end

/-- what a def gives back -/
def RetQ (fr : Bool) (d : D) (st : List SC) (p : Fl × VEnv) : Prop := ∃ v Γ', p = (.ret v, Γ') ∧ retEV v Γ' = some (if fr = true then .fresh d else .val d, st)
def RetN (d : D) (st : List SC) (p : Fl × VEnv) : Prop := (∃ v Γ', p = (.ret v, Γ') ∧ retEV v Γ' = some (.val d, st)) ∨ (d = .non ∧ ∃ Γ', p = (.nx, Γ') ∧ Γ'.st = st)
theorem retQ_out {fr : Bool} {d : D} {st : List SC} {p : Fl × VEnv} (h : RetQ fr d st p) : ∃ v Γ', p = (.ret v, Γ') := let ⟨v, Γ', h1, _⟩ := h; ⟨v, Γ', h1⟩
theorem def_post {p n : Nat} {m : MS} {cells : List Cell} {st st' : List SC} {d : D} (hl : cells.length = p) (h : Post (m ⟨cells ++ List.replicate (n - p) .un, st⟩) (RetQ false d st')) : defOf p n m cells st = some (.val d, st') := by
  obtain ⟨q, h1, v, Γ', rfl, h2⟩ := h
  exact def_ret hl h1 h2
theorem def_postF {p n : Nat} {m : MS} {cells : List Cell} {st st' : List SC} {d : D} (hl : cells.length = p) (h : Post (m ⟨cells ++ List.replicate (n - p) .un, st⟩) (RetQ true d st')) : defOf p n m cells st = some (.fresh d, st') := by
  obtain ⟨q, h1, v, Γ', rfl, h2⟩ := h
  exact def_ret hl h1 h2
theorem def_postN {p n : Nat} {m : MS} {cells : List Cell} {st st' : List SC} {d : D} (hl : cells.length = p) (h : Post (m ⟨cells ++ List.replicate (n - p) .un, st⟩) (RetN d st')) : defOf p n m cells st = some (.val d, st') := by
  obtain ⟨q, h1, h2⟩ := h
  rcases h2 with ⟨v, Γ', rfl, h2⟩ | ⟨rfl, Γ', rfl, rfl⟩
  · exact def_ret hl h1 h2
  · exact def_nx hl h1

/-! ### loops -/
inductive FlT (S R : Type) where
  | nx (s : S) | brk (s : S) | ret (r : R)
section
variable {S R α : Type}
def forS (f : S → α → Option S) : List α → S → Option S
  | [], s => some s
  | x :: xs, s => (f s x).bind fun s => forS f xs s
def forR (f : S → α → Option (FlT S R)) : List α → S → Option (FlT S R)
  | [], s => some (.nx s)
  | x :: xs, s => (f s x).bind fun o => match o with
    | .nx s => forR f xs s
    | .brk s => some (.nx s)
    | .ret r => some (.ret r)
def whileS (t : S → Option Bool) (f : S → Option S) : Nat → S → Option S
  | 0, _ => none
  | n + 1, s => (t s).bind fun c => if c = true then (f s).bind fun s => whileS t f n s else some s
def whileR (t : S → Option Bool) (f : S → Option (FlT S R)) : Nat → S → Option (FlT S R)
  | 0, _ => none
  | n + 1, s => (t s).bind fun c => if c = true then (f s).bind fun o => match o with
    | .nx s => whileR t f n s
    | .brk s => some (.nx s)
    | .ret r => some (.ret r) else some (.nx s)
def NxQ (P : VEnv → Prop) (p : Fl × VEnv) : Prop := (p.1 = .nx ∨ p.1 = .cont) ∧ P p.2
def BodyQ (P : S → VEnv → Prop) (Q : R → Fl × VEnv → Prop) (o : FlT S R) (p : Fl × VEnv) : Prop := match o with
  | .nx s => (p.1 = .nx ∨ p.1 = .cont) ∧ P s p.2
  | .brk s => p.1 = .brk ∧ P s p.2
  | .ret r => Q r p
def LoopQ (P : S → VEnv → Prop) (Q : R → Fl × VEnv → Prop) (o : FlT S R) (p : Fl × VEnv) : Prop := match o with
  | .nx s => p.1 = .nx ∧ P s p.2
  | .brk _ => False
  | .ret r => Q r p
theorem forS_ok {g : MG} {b : MS} {e : α → D} {f : S → α → Option S} (P : S → VEnv → Prop)
    (H : ∀ s x s' Γ, f s x = some s' → P s Γ → ∃ Γ1, g (.val (e x)) Γ = some Γ1 ∧ Post (b Γ1) (NxQ (P s'))) :
    ∀ {xs : List α} {s s' : S} {Γ : VEnv}, forS f xs s = some s' → P s Γ → ∃ Γ', forD g b (xs.map e) Γ = some (.nx, Γ') ∧ P s' Γ'
  | [], s, s', Γ, h, hp => by cases h; exact ⟨Γ, rfl, hp⟩
  | x :: xs, s, s', Γ, h, hp => by
    obtain ⟨s1, h1, h2⟩ := bnd h
    obtain ⟨Γ1, h3, p, h4, h5, h6⟩ := H s x s1 Γ h1 hp
    obtain ⟨Γ', h7, h8⟩ := forS_ok P H h2 h6
    refine ⟨Γ', ?_, h8⟩
    simp only [List.map_cons, forD, h3, h4, Option.bind_some]
    rcases h5 with h5 | h5 <;> (rw [h5]; exact h7)
theorem forR_ok {g : MG} {b : MS} {e : α → D} {f : S → α → Option (FlT S R)} (P : S → VEnv → Prop) {Q : R → Fl × VEnv → Prop} (hQ : ∀ r p, Q r p → ∃ v Γ', p = (.ret v, Γ'))
    (H : ∀ s x o Γ, f s x = some o → P s Γ → ∃ Γ1, g (.val (e x)) Γ = some Γ1 ∧ Post (b Γ1) (BodyQ P Q o)) :
    ∀ {xs : List α} {s : S} {o : FlT S R} {Γ : VEnv}, forR f xs s = some o → P s Γ → ∃ p, forD g b (xs.map e) Γ = some p ∧ LoopQ P Q o p
  | [], s, o, Γ, h, hp => by cases h; exact ⟨_, rfl, rfl, hp⟩
  | x :: xs, s, o, Γ, h, hp => by
    obtain ⟨o1, h1, h2⟩ := bnd h
    obtain ⟨Γ1, h3, p, h4, h5⟩ := H s x o1 Γ h1 hp
    simp only [List.map_cons, forD, h3, h4, Option.bind_some]
    cases o1 with
    | nx s1 =>
      obtain ⟨h5, h6⟩ := h5
      obtain ⟨Γ', h7, h8⟩ := forR_ok P hQ H h2 h6
      refine ⟨Γ', ?_, h8⟩
      rcases h5 with h5 | h5 <;> (rw [h5]; exact h7)
    | brk s1 =>
      cases h2
      obtain ⟨h5, h6⟩ := h5
      rw [h5]
      exact ⟨_, rfl, rfl, h6⟩
    | ret r =>
      cases h2
      obtain ⟨v, Γ', rfl⟩ := hQ r p h5
      exact ⟨_, rfl, h5⟩
theorem whileS_ok {t : MB} {b : MS} {tt : S → Option Bool} {f : S → Option S} (P : S → VEnv → Prop)
    (T : ∀ s c Γ, tt s = some c → P s Γ → t Γ = some (c, Γ))
    (H : ∀ s s' Γ, f s = some s' → P s Γ → Post (b Γ) (NxQ (P s'))) :
    ∀ {n : Nat} {s s' : S} {Γ : VEnv}, whileS tt f n s = some s' → P s Γ → ∃ Γ', whileD t b n Γ = some (.nx, Γ') ∧ P s' Γ'
  | 0, s, s', Γ, h, hp => nomatch h
  | n + 1, s, s', Γ, h, hp => by
    obtain ⟨c, h1, h2⟩ := bnd h
    have h3 := T s c Γ h1 hp
    simp only [whileD, h3, Option.bind_some]
    cases c with
    | false => cases h2; exact ⟨Γ, rfl, hp⟩
    | true =>
      rw [if_pos rfl] at h2
      obtain ⟨s1, h4, h5⟩ := bnd h2
      obtain ⟨p, h6, h7, h8⟩ := H s s1 Γ h4 hp
      obtain ⟨Γ', h9, h10⟩ := whileS_ok P T H h5 h8
      refine ⟨Γ', ?_, h10⟩
      simp only [if_true, h6, Option.bind_some]
      rcases h7 with h7 | h7 <;> (rw [h7]; exact h9)
theorem whileR_ok {t : MB} {b : MS} {tt : S → Option Bool} {f : S → Option (FlT S R)} (P : S → VEnv → Prop) {Q : R → Fl × VEnv → Prop} (hQ : ∀ r p, Q r p → ∃ v Γ', p = (.ret v, Γ'))
    (T : ∀ s c Γ, tt s = some c → P s Γ → t Γ = some (c, Γ))
    (H : ∀ s o Γ, f s = some o → P s Γ → Post (b Γ) (BodyQ P Q o)) :
    ∀ {n : Nat} {s : S} {o : FlT S R} {Γ : VEnv}, whileR tt f n s = some o → P s Γ → ∃ p, whileD t b n Γ = some p ∧ LoopQ P Q o p
  | 0, s, o, Γ, h, hp => nomatch h
  | n + 1, s, o, Γ, h, hp => by
    obtain ⟨c, h1, h2⟩ := bnd h
    have h3 := T s c Γ h1 hp
    simp only [whileD, h3, Option.bind_some]
    cases c with
    | false => cases h2; exact ⟨_, rfl, rfl, hp⟩
    | true =>
      rw [if_pos rfl] at h2
      obtain ⟨o1, h4, h5⟩ := bnd h2
      obtain ⟨p, h6, h7⟩ := H s o1 Γ h4 hp
      simp only [if_true, h6, Option.bind_some]
      cases o1 with
      | nx s1 =>
        obtain ⟨h7, h8⟩ := h7
        obtain ⟨p', h9, h10⟩ := whileR_ok P hQ T H h5 h8
        refine ⟨p', ?_, h10⟩
        rcases h7 with h7 | h7 <;> (rw [h7]; exact h9)
      | brk s1 =>
        cases h5
        obtain ⟨h7, h8⟩ := h7
        rw [h7]
        exact ⟨_, rfl, rfl, h8⟩
      | ret r =>
        cases h5
        obtain ⟨v, Γ', rfl⟩ := hQ r p h7
        exact ⟨_, rfl, h7⟩
theorem po_for {mi : MI} {g : MG} {b s : MS} {Γ Γ1 Γ2 : VEnv} {ds : List D} {φ : Fl × VEnv → Prop} (h1 : mi Γ = some (ds, Γ1)) (h2 : forD g b ds Γ1 = some (.nx, Γ2)) (h : Post (s Γ2) φ) : Post (mSeq (mFor mi g b) s Γ) φ := po_nx (for_in h1 h2) h
theorem po_forX {mi : MI} {g : MG} {b s : MS} {Γ Γ1 Γ2 : VEnv} {ds : List D} {v : EV} {φ : Fl × VEnv → Prop} (h1 : mi Γ = some (ds, Γ1)) (h2 : forD g b ds Γ1 = some (.ret v, Γ2)) (h : φ (.ret v, Γ2)) : Post (mSeq (mFor mi g b) s Γ) φ := po_out (for_in h1 h2) h
theorem po_while {n : Nat} {t : MB} {b s : MS} {Γ Γ2 : VEnv} {φ : Fl × VEnv → Prop} (h2 : whileD t b n Γ = some (.nx, Γ2)) (h : Post (s Γ2) φ) : Post (mSeq (mWhile n t b) s Γ) φ := po_nx h2 h
theorem po_whileX {n : Nat} {t : MB} {b s : MS} {Γ Γ2 : VEnv} {v : EV} {φ : Fl × VEnv → Prop} (h2 : whileD t b n Γ = some (.ret v, Γ2)) (h : φ (.ret v, Γ2)) : Post (mSeq (mWhile n t b) s Γ) φ := po_out h2 h
end

/-! ### comprehensions -/
section
variable {α β γ σ : Type}
def mapO (f : α → Option β) : List α → Option (List β)
  | [] => some []
  | x :: xs => (f x).bind fun y => (mapO f xs).map fun ys => y :: ys
def lenOk (ys : List β) : Option (List β) := if ys.length ≤ sizeLine then some ys else none
/-- [f x for x in xs] -/
def lcM (f : α → Option β) (xs : List α) : Option (List β) := (mapO f xs).bind lenOk
/-- with a test -/
def lcT (f : α → Option (Option β)) (xs : List α) : Option (List β) := (mapO f xs).bind fun os => lenOk (os.filterMap id)
/-- two generators -/
def lc2T (t : α → Option Bool) (ys : α → Option (List β)) (f : α → β → Option (Option γ)) (xs : List α) : Option (List γ) :=
  (mapO (fun x => (t x).bind fun c => if c = true then (ys x).bind fun l => (mapO (f x) l).map fun os => os.filterMap id else some []) xs).bind fun ls => lenOk ls.flatten
/-- it changes something -/
def mapS (f : σ → α → Option (β × σ)) : List α → σ → Option (List β × σ)
  | [], s => some ([], s)
  | x :: xs, s => (f s x).bind fun p => (mapS f xs p.2).map fun q => (p.1 :: q.1, q.2)
def lcS (f : σ → α → Option (β × σ)) (xs : List α) (s : σ) : Option (List β × σ) := (mapS f xs s).bind fun q => if q.1.length ≤ sizeLine then some q else none
theorem turn_yes {vs : List Nat} {g : MG} {tt : MB} {m : M} {d z : D} {r : EV} {Γ Γ1 Γ2 Γ3 Γ4 Γ5 : VEnv} (h1 : g (.val d) Γ = some Γ1) (h2 : tt Γ1 = some (true, Γ2)) (h3 : m Γ2 = some (r, Γ3)) (h4 : freeze r Γ3 = some (z, Γ4)) (h5 : wipeE Γ4 vs = Γ5) : turn vs g tt m d Γ = some (some z, Γ5) := by
  simp only [turn, tu1, tu2, tu3, tu4, h1, h2, h3, h4, h5, Option.bind_some, if_true, Option.map_some]
theorem turn_no {vs : List Nat} {g : MG} {tt : MB} {m : M} {d : D} {Γ Γ1 Γ2 Γ5 : VEnv} (h1 : g (.val d) Γ = some Γ1) (h2 : tt Γ1 = some (false, Γ2)) (h5 : wipeE Γ2 vs = Γ5) : turn vs g tt m d Γ = some (none, Γ5) := by
  simp only [turn, tu1, tu2, h1, h2, h5, Option.bind_some, Bool.false_eq_true, if_false]
theorem lcD_mapO {vs : List Nat} {g : MG} {tt : MB} {m : M} {Γ : VEnv} {e : α → D} {e' : β → D} {f : α → Option (Option β)} (H : ∀ x o, f x = some o → turn vs g tt m (e x) Γ = some (o.map e', Γ)) :
    ∀ {xs : List α} {os : List (Option β)} {acc : List D}, mapO f xs = some os → acc.length + (os.filterMap id).length ≤ sizeLine → lcD vs g tt m (xs.map e) acc Γ = some (acc ++ (os.filterMap id).map e', Γ)
  | [], os, acc, h, _ => by cases h; simp [lcD]
  | x :: xs, os, acc, h, hl => by
    obtain ⟨o, h1, h2⟩ := bnd h
    cases q : mapO f xs with
    | none => rw [q] at h2; cases h2
    | some os' =>
      rw [q] at h2
      cases h2
      cases o with
      | none =>
        simp only [List.filterMap_cons, id] at hl ⊢
        have h3 := H x none h1
        rw [List.map_cons]
        have : lcD vs g tt m (e x :: xs.map e) acc Γ = lcD vs g tt m (xs.map e) acc Γ := by
          simp only [turn, tu1, tu2, tu3, tu4] at h3
          simp only [lcD]
          cases q1 : g (.val (e x)) Γ with
          | none => rw [q1] at h3; cases h3
          | some Γ1 =>
            rw [q1] at h3
            simp only [Option.bind_some] at h3 ⊢
            cases q2 : tt Γ1 with
            | none => rw [q2] at h3; cases h3
            | some p =>
              rw [q2] at h3
              simp only [Option.bind_some] at h3 ⊢
              by_cases hc : p.1 = true
              · rw [if_pos hc] at h3
                exfalso
                cases q3 : m p.2 with
                | none => rw [q3] at h3; cases h3
                | some r =>
                  rw [q3] at h3
                  simp only [Option.bind_some] at h3
                  cases q4 : freeze r.1 r.2 with
                  | none => rw [q4] at h3; cases h3
                  | some w => rw [q4] at h3; cases h3
              · rw [if_neg hc] at h3 ⊢
                injection h3 with h3
                injection h3 with _ h3
                rw [h3]
        rw [this]
        exact lcD_mapO H q hl
      | some y =>
        simp only [List.filterMap_cons, id, List.length_cons] at hl ⊢
        have h3 := H x (some y) h1
        rw [List.map_cons, lcD_turn (by omega), h3]
        simp only [Option.bind_some, Option.map_some]
        rw [lcD_mapO H q (by simp; omega)]
        simp
theorem lenOk_some {ys zs : List β} (h : lenOk ys = some zs) : ys.length ≤ sizeLine ∧ ys = zs := if_some h
theorem mapO_some (f : α → Option β) : ∀ {xs : List α} {ys : List β}, mapO f xs = some ys → mapO (fun x => (f x).map some) xs = some (ys.map some)
  | [], ys, h => by cases h; rfl
  | x :: xs, ys, h => by
    obtain ⟨y, h1, h2⟩ := bnd h
    cases q : mapO f xs with
    | none => rw [q] at h2; cases h2
    | some l =>
      rw [q] at h2
      cases h2
      simp only [mapO, h1, Option.map_some, Option.bind_some, mapO_some f q, List.map_cons]
theorem filterMap_some' : ∀ ys : List β, (ys.map some).filterMap id = ys
  | [] => rfl
  | y :: ys => by simp only [List.map_cons, List.filterMap_cons, id, filterMap_some' ys]
theorem q_lcT {vs : List Nat} {mi : MI} {g : MG} {tt : MB} {m : M} {Γ Γ1 : VEnv} {xs : List α} {ys : List β} (e : α → D) (e' : β → D) {f : α → Option (Option β)} (hi : mi Γ = some (xs.map e, Γ1)) (ok : okW Γ1 vs = true)
    (H : ∀ x o, f x = some o → turn vs g tt m (e x) (wipeE Γ1 vs) = some (o.map e', wipeE Γ1 vs)) (h : lcT f xs = some ys) : mLc vs mi g tt m Γ = some (.fresh (eL e' ys), Γ1) := by
  obtain ⟨os, h1, h2⟩ := bnd h
  obtain ⟨h3, rfl⟩ := lenOk_some h2
  simp only [mLc, hi, Option.bind_some, if_pos ok]
  rw [lcD_mapO H h1 (by simpa using h3)]
  simp only [Option.map_some, List.nil_append, back_wipe]
theorem q_lcM {vs : List Nat} {mi : MI} {g : MG} {tt : MB} {m : M} {Γ Γ1 : VEnv} {xs : List α} {ys : List β} (e : α → D) (e' : β → D) {f : α → Option β} (hi : mi Γ = some (xs.map e, Γ1)) (ok : okW Γ1 vs = true)
    (H : ∀ x y, f x = some y → turn vs g tt m (e x) (wipeE Γ1 vs) = some (some (e' y), wipeE Γ1 vs)) (h : lcM f xs = some ys) : mLc vs mi g tt m Γ = some (.fresh (eL e' ys), Γ1) := by
  obtain ⟨os, h1, h2⟩ := bnd h
  obtain ⟨h3, rfl⟩ := lenOk_some h2
  refine q_lcT e e' (f := fun x => (f x).map some) hi ok (fun x o h => ?_) ?_
  · cases q : f x with
    | none => rw [q] at h; cases h
    | some y => rw [q] at h; cases h; exact H x y q
  · simp only [lcT, mapO_some f h1, Option.bind_some, filterMap_some', lenOk, if_pos h3]
theorem q_lc2T {vs vs1 : List Nat} {mi : MI} {g : MG} {tt : MB} {mi1 : MI} {g1 : MG} {tt1 : MB} {m : M} {Γ Γ1 : VEnv} {xs : List α} {zs : List γ} (e : α → D) (e1 : β → D) (e' : γ → D) {t : α → Option Bool} {ys : α → Option (List β)} {f : α → β → Option (Option γ)}
    (hi : mi Γ = some (xs.map e, Γ1)) (ok : okW Γ1 vs = true)
    (H : ∀ x c, t x = some c → ∃ Γ2, g (.val (e x)) (wipeE Γ1 vs) = some Γ2 ∧ tt Γ2 = some (c, Γ2) ∧ wipeE Γ2 vs = wipeE Γ1 vs ∧ (c = true → ∀ l, ys x = some l → mi1 Γ2 = some (l.map e1, Γ2) ∧ wipeE (wipeE Γ2 vs1) vs = wipeE Γ1 vs ∧
      ∀ y o, f x y = some o → turn vs1 g1 tt1 m (e1 y) (wipeE Γ2 vs1) = some (o.map e', wipeE Γ2 vs1)))
    (h : lc2T t ys f xs = some zs) : mLc2 vs vs1 mi g tt mi1 g1 tt1 m Γ = some (.fresh (eL e' zs), Γ1) := by
  obtain ⟨ls, h1, h2⟩ := bnd h
  obtain ⟨h3, rfl⟩ := lenOk_some h2
  simp only [mLc2, hi, Option.bind_some, if_pos ok]
  have key : ∀ (xs : List α) (ls : List (List γ)) (acc : List D), mapO (fun x => (t x).bind fun c => if c = true then (ys x).bind fun l => (mapO (f x) l).map fun os => os.filterMap id else some []) xs = some ls → acc.length + ls.flatten.length ≤ sizeLine →
      lc2D vs vs1 g tt mi1 g1 tt1 m (xs.map e) acc (wipeE Γ1 vs) = some (acc ++ ls.flatten.map e', wipeE Γ1 vs) := by
    intro xs
    induction xs with
    | nil => intro ls acc h _; cases h; simp [lc2D]
    | cons x xs ih =>
      intro ls acc h hl
      obtain ⟨l0, h1, h2⟩ := bnd h
      obtain ⟨c, h3, h4⟩ := bnd h1
      cases q : mapO (fun x => (t x).bind fun c => if c = true then (ys x).bind fun l => (mapO (f x) l).map fun os => os.filterMap id else some []) xs with
      | none => rw [q] at h2; cases h2
      | some ls' =>
        rw [q] at h2
        cases h2
        obtain ⟨Γ2, a1, a2, a3, a4⟩ := H x c h3
        rw [List.flatten_cons, List.length_append] at hl
        simp only [List.map_cons, lc2D, a1, a2, Option.bind_some]
        cases c with
        | false =>
          cases h4
          simp only [Bool.false_eq_true, if_false, a3, List.flatten_cons, List.nil_append]
          exact ih ls' acc q (by simpa using hl)
        | true =>
          rw [if_pos rfl] at h4
          obtain ⟨l, h5, h6⟩ := bnd h4
          cases q2 : mapO (f x) l with
          | none => rw [q2] at h6; cases h6
          | some os =>
            rw [q2] at h6
            cases h6
            obtain ⟨b1, b2, b3⟩ := a4 rfl l h5
            simp only [if_true, b1, Option.bind_some]
            replace hl : acc.length + ((os.filterMap id).length + ls'.flatten.length) ≤ sizeLine := hl
            rw [lcD_mapO b3 q2 (by omega)]
            simp only [Option.bind_some, b2]
            rw [ih ls' _ q (by simp only [List.length_append, List.length_map]; omega)]
            simp [List.flatten_cons]
  rw [key xs ls [] h1 (by simpa using h3)]
  simp only [Option.map_some, List.nil_append, back_wipe]
theorem lcD_mapS {vs : List Nat} {g : MG} {tt : MB} {m : M} {G : σ → VEnv} {e : α → D} {e' : β → D} {f : σ → α → Option (β × σ)} (H : ∀ s x p, f s x = some p → turn vs g tt m (e x) (G s) = some (some (e' p.1), G p.2)) :
    ∀ {xs : List α} {s : σ} {q : List β × σ} {acc : List D}, mapS f xs s = some q → acc.length + q.1.length ≤ sizeLine → lcD vs g tt m (xs.map e) acc (G s) = some (acc ++ q.1.map e', G q.2)
  | [], s, q, acc, h, _ => by cases h; simp [lcD]
  | x :: xs, s, q, acc, h, hl => by
    obtain ⟨p, h1, h2⟩ := bnd h
    cases k : mapS f xs p.2 with
    | none => rw [k] at h2; cases h2
    | some w =>
      rw [k] at h2
      cases h2
      simp only [List.length_cons] at hl
      have h3 := H s x p h1
      rw [List.map_cons, lcD_turn (by omega), h3]
      simp only [Option.bind_some]
      rw [lcD_mapS H k (by simp; omega)]
      simp
theorem q_lcS {vs : List Nat} {mi : MI} {g : MG} {tt : MB} {m : M} {Γ Γ1 : VEnv} {xs : List α} {s : σ} {q : List β × σ} (e : α → D) (e' : β → D) {f : σ → α → Option (β × σ)} (G : σ → VEnv) (hi : mi Γ = some (xs.map e, Γ1)) (ok : okW Γ1 vs = true) (hg : wipeE Γ1 vs = G s)
    (H : ∀ s x p, f s x = some p → turn vs g tt m (e x) (G s) = some (some (e' p.1), G p.2)) {Γ2 : VEnv} (hb : backE Γ1 (G q.2) vs = Γ2) (h : lcS f xs s = some q) : mLc vs mi g tt m Γ = some (.fresh (eL e' q.1), Γ2) := by
  obtain ⟨w, h1, h2⟩ := bnd h
  obtain ⟨h3, rfl⟩ := if_some h2
  simp only [mLc, hi, Option.bind_some, if_pos ok, hg]
  rw [lcD_mapS H h1 (by simpa using h3)]
  simp only [Option.map_some, List.nil_append, hb]
end

/-! ### == of data -/
/-- == over an encoder is the equality of the plain values -/
def EqE {α : Type} [BEq α] (n : Nat) (e : α → D) : Prop := (∀ a, dpt n (e a) = true) ∧ ∀ a b, beq (e a) (e b) = (a == b)
section
variable {α β γ δ : Type} [BEq α] [BEq β] [BEq γ] [BEq δ] {n : Nat}
theorem ee_I : EqE n D.int := ⟨fun a => dpt_int n a, fun a b => by simp [beq]⟩
theorem ee_S : EqE n D.str := ⟨fun a => dpt_str n a, fun a b => by simp [beq]⟩
theorem ee_B : EqE n D.bl := ⟨fun a => dpt_bl n a, fun a b => by simp [beq]⟩
theorem ee_N : EqE n eN := ⟨fun a => dpt_non n, fun a b => by simp [beq]⟩
theorem ee_L {e : α → D} (h : EqE n e) : EqE (n + 1) (eL e) := ⟨fun a => all_dpt n e h.1 a, fun a b => by simp only [beq]; exact beqs_map e h.2 a b⟩
theorem ee_T {e : α → D} (h : EqE n e) : EqE (n + 1) (eT e) := ⟨fun a => all_dpt n e h.1 a, fun a b => by simp only [beq]; exact beqs_map e h.2 a b⟩
theorem ee_P0 : EqE (n + 1) eP0 := ⟨fun a => rfl, fun a b => rfl⟩
theorem ee_P1 {e : α → D} (h : EqE n e) : EqE (n + 1) (eP1 e) := ⟨fun a => by simp [eP1, dpt, h.1], fun a b => by simp [eP1, beq, beqs, h.2]⟩
theorem ee_P2 {e : α → D} {f : β → D} (h : EqE n e) (h2 : EqE n f) : EqE (n + 1) (eP2 e f) := ⟨fun a => by simp [eP2, dpt, h.1, h2.1], fun a b => by
  obtain ⟨a1, a2⟩ := a; obtain ⟨b1, b2⟩ := b
  simp only [eP2, beq, beqs, h.2, h2.2, Bool.and_true]; rfl⟩
theorem ee_P3 {e : α → D} {f : β → D} {g : γ → D} (h : EqE n e) (h2 : EqE n f) (h3 : EqE n g) : EqE (n + 1) (eP3 e f g) := ⟨fun a => by simp [eP3, dpt, h.1, h2.1, h3.1], fun a b => by
  obtain ⟨a1, a2, a3⟩ := a; obtain ⟨b1, b2, b3⟩ := b
  simp only [eP3, beq, beqs, h.2, h2.2, h3.2, Bool.and_true]; rfl⟩
theorem ee_P4 {e : α → D} {f : β → D} {g : γ → D} {i : δ → D} (h : EqE n e) (h2 : EqE n f) (h3 : EqE n g) (h4 : EqE n i) : EqE (n + 1) (eP4 e f g i) := ⟨fun a => by simp [eP4, dpt, h.1, h2.1, h3.1, h4.1], fun a b => by
  obtain ⟨a1, a2, a3, a4⟩ := a; obtain ⟨b1, b2, b3, b4⟩ := b
  simp only [eP4, beq, beqs, h.2, h2.2, h3.2, h4.2, Bool.and_true]; rfl⟩
theorem o_eq {e : α → D} (h : EqE 60 e) (a b : α) : eqD (e a) (e b) = some (a == b) := by
  unfold eqD
  rw [if_pos ⟨h.1 a, h.1 b⟩, h.2]
theorem o_ne {e : α → D} (h : EqE 60 e) (a b : α) : neD (e a) (e b) = some (!(a == b)) := by
  unfold neD
  rw [if_pos ⟨h.1 a, h.1 b⟩, h.2]
theorem any_beqE {e : α → D} (h : EqE n e) (a : α) (xs : List α) : (xs.map e).any (fun z => beq z (e a)) = xs.any fun z => z == a := by
  rw [List.any_map]
  congr 1
  funext z
  exact h.2 z a
end
end VS

set_option Elab.async false
set_option linter.all false
set_option maxRecDepth 100000
set_option maxHeartbeats 4000000
/-! ### what the printed proofs name besides -/
namespace VS
open PySem L2 PyProof.Rows
section
variable {Γ Γ1 Γ2 Γ3 Γ4 : VEnv} {i j k l n : Nat} {d e f x y z : D} {r ra rb : EV} {m mo : M} {c c' : Bool} {t : MB} {ml : ML} {rs : List EV} {st : List SC} {sl : List Cell} {α β : Type}
theorem pk_par (hk : k < st.length) : peek ⟨sl, put st k d⟩ (.par k) = some d := by simp only [peek, put_at hk]
theorem pkl_par (hk : k < st.length) : peekL ⟨sl, put st k d⟩ [.par k] = some [d] := by simp only [peekL, pk_par hk, Option.bind_some, Option.map_some]
theorem pkl2_par (hk : k < st.length) : peekL ⟨sl, put st k d⟩ [.par k, .val e] = some [d, e] := by
  show (peek ⟨sl, put st k d⟩ (.par k)).bind _ = _
  rw [pk_par hk]
  rfl
theorem lt_put (hk : k < st.length) : k < (put st k d).length := by rw [put_len]; exact hk
theorem lt_app (st : List SC) (x : SC) : st.length < (st ++ [x]).length := by simp
theorem lz {γ : Type} {l : List γ} {n : Nat} (h : l.length = n) (hn : Nat.ble n 1000 = true) : l.length ≤ sizeLine := by
  have h1 : n ≤ 1000 := Nat.le_of_ble_eq_true hn
  have h2 := sizeLine_big
  omega
theorem lz1 {γ : Type} {l : List γ} {i n : Nat} (h : l.length = n) (hn : Nat.ble (i + 1) n = true) : i < l.length := by
  have h1 : i + 1 ≤ n := Nat.le_of_ble_eq_true hn
  omega
theorem o_mulL {i j : Int} (h : smallI i = true) : mulD (.int i) (.int j) = some (.val (.int (i * j))) := by simp only [mulD, mulOk_l h, if_true]
theorem o_mulR {i j : Int} (h : smallI j = true) : mulD (.int i) (.int j) = some (.val (.int (i * j))) := by simp only [mulD, mulOk_r h, if_true]
theorem o_fdivL {i j : Int} (h : 0 < j ∧ j.natAbs.log2 < 9000) : fdivD (.int i) (.int j) = some (.val (.int (i / j))) := by simp only [fdivD, if_pos h]
theorem o_modL {i j : Int} (h : 0 < j) : modD (.int i) (.int j) = some (.val (.int (i % j))) := by simp only [modD, if_pos h]
theorem o_not {g : D → D → Option Bool} (h : g x y = some c) : notD g x y = some (!c) := by simp only [notD, h, Option.map_some]
theorem o_isN {e : α → D} (h : ∀ a, isD (e a) .non = some false) : ∀ o : Option α, isD (eO e o) .non = some o.isNone
  | none => rfl
  | some a => h a
def inST (s t : List Nat) : Option Bool := match s with
  | [c] => some (decide (c ∈ t))
  | _ => none
theorem o_inS {s t : List Nat} (h : inST s t = some c) : inD (.str s) (.str t) = some c := by
  unfold inST at h
  split at h
  · exact h
  · cases h
theorem o_inL [BEq α] {e : α → D} (h : EqE 59 e) (a : α) (xs : List α) : inD (e a) (eL e xs) = some (xs.any fun z => z == a) := by
  have h1 : dpt 60 (.lst (xs.map e)) = true := all_dpt 59 e h.1 xs
  have h2 : dpt 60 (e a) = true := by
    have : ∀ (n : Nat) (d : D), dpt n d = true → dpt (n + 1) d = true := by
      intro n
      induction n with
      | zero => intro d hd; cases d <;> simp_all [dpt]
      | succ n ih =>
        intro d hd
        cases d <;> simp only [dpt] at hd ⊢
        · rw [List.all_eq_true] at hd ⊢; exact fun x hx => ih x (hd x hx)
        · rw [List.all_eq_true] at hd ⊢; exact fun x hx => ih x (hd x hx)
        all_goals simp_all [dpt]
    exact this 59 _ (h.1 a)
  have e1 : inD (e a) (.lst (xs.map e)) = if dpt 60 (e a) = true ∧ dpt 60 (.lst (xs.map e)) = true then some ((xs.map e).any fun z => beq z (e a)) else none := by
    unfold inD
    cases e a <;> first | rfl | (split <;> simp_all)
  show inD (e a) (.lst (xs.map e)) = _
  rw [e1, if_pos ⟨h2, h1⟩, any_beqE h]
theorem o_inT [BEq α] {e : α → D} (h : EqE 59 e) (hf : ∀ a, flatD (e a) = true) (a : α) (xs : List α) : inD (e a) (eT e xs) = some (xs.any fun z => z == a) := by
  have e1 : inD (e a) (.tup (xs.map e)) = if flatD (e a) = true ∧ (xs.map e).all flatD = true then some ((xs.map e).any fun z => beq z (e a)) else none := by
    unfold inD
    cases e a <;> first | rfl | (split <;> simp_all)
  show inD (e a) (.tup (xs.map e)) = _
  rw [e1, if_pos ⟨hf a, by rw [List.all_map, List.all_eq_true]; exact fun x _ => hf x⟩, any_beqE h]
theorem tr_t (h : t Γ = some (c, Γ1)) (hc : c = true) : t Γ = some (true, Γ1) := hc ▸ h
theorem tr_f (h : t Γ = some (c, Γ1)) (hc : c = false) : t Γ = some (false, Γ1) := hc ▸ h
theorem q_eqV {f : α → D} {a b : α} (h : m Γ = some (.val (f a), Γ1)) (e : a = b) : m Γ = some (.val (f b), Γ1) := e ▸ h
theorem q_eqF {f : α → D} {a b : α} (h : m Γ = some (.fresh (f a), Γ1)) (e : a = b) : m Γ = some (.fresh (f b), Γ1) := e ▸ h
theorem og_eqV {g : D → D → Option EV} {f : α → D} {a b : α} (h : g x y = some (.val (f a))) (e : a = b) : g x y = some (.val (f b)) := e ▸ h
theorem gs_set {e : α → D} {xs zs : List α} {k : Int} {v : α} {mi : M} (h1 : mo Γ = some (ra, Γ)) (h2 : mi Γ = some (.val (.int k), Γ)) (h5 : content Γ ra = some (eL e xs)) (h6 : setT xs k v = some zs) (h7 : putC Γ (eL e zs) ra = Γ1) : mgSub mo mi (.val (e v)) Γ = some Γ1 := by
  subst h7
  unfold setT at h6
  cases q : ixN xs.length k with
  | none => rw [q] at h6; cases h6
  | some n =>
    rw [q] at h6
    cases h6
    simp only [mgSub, h1, h2, freeze, h5, peek, Option.bind_some, List.length_map, q, Option.map_some, eL, List.map_set]
theorem ct_par (hk : k < st.length) : content ⟨sl, put st k d⟩ (.par k) = some d := by simp only [content, put_at hk]
theorem putC_par : putC ⟨sl, put st k d⟩ e (.par k) = ⟨sl, put st k e⟩ := by
  show VEnv.mk sl (put (put st k d) k e) = _
  rw [put_put]
theorem gs_setP {e : α → D} {xs zs : List α} {i : Int} {v : α} {mi : M} (hk : k < st.length) (h1 : mo ⟨sl, put st k (eL e xs)⟩ = some (.par k, ⟨sl, put st k (eL e xs)⟩)) (h2 : mi ⟨sl, put st k (eL e xs)⟩ = some (.val (.int i), ⟨sl, put st k (eL e xs)⟩)) (h6 : setT xs i v = some zs) : mgSub mo mi (.val (e v)) ⟨sl, put st k (eL e xs)⟩ = some ⟨sl, put st k (eL e zs)⟩ := by
  rw [gs_set h1 h2 (ct_par hk) h6 putC_par]
theorem q_mutP {g : List D → List D → Option (D × List D)} {cs ds : List D} {o : D × List D} (hk : k < st.length) (h1 : mo ⟨sl, put st k (.lst cs)⟩ = some (.par k, ⟨sl, put st k (.lst cs)⟩)) (h3 : ml ⟨sl, put st k (.lst cs)⟩ = some (rs, ⟨sl, put st k (.lst cs)⟩)) (h4 : freezeL rs ⟨sl, put st k (.lst cs)⟩ = some (ds, ⟨sl, put st k (.lst cs)⟩)) (h6 : g cs ds = some o) (h7 : (⟨sl, put st k (.lst o.2)⟩ : VEnv) = Γ4) :
    mMut g mo ml ⟨sl, put st k (.lst cs)⟩ = some (.val o.1, Γ4) := by
  rw [q_mut h1 (ct_par hk) h3 h4 (ct_par hk) h6 (putC_par.trans h7)]
def isiB (t n : String) : Option Bool := if n ∈ ["int", "bool", "str", "list", "tuple", "dict"] then some (t == n || (t == "bool" && n == "int")) else none
theorem isi_of {t n : String} {b : Bool} (h : tyOf d = some t) (hb : isiB t n = some b) : isiD [d, .ty n] = some (.val (.bl b)) := by
  unfold isiB at hb
  obtain ⟨h1, h2⟩ := if_some hb
  simp only [isiD, h, Option.bind_some, if_pos h1, h2]
def absI (i : Int) : Int := if i < 0 then -i else i
def maxI2 (i j : Int) : Int := if j > i then j else i
def minI2 (i j : Int) : Int := if j < i then j else i
theorem maxI2_eq (i j : Int) : maxI2 i j = max i j := by unfold maxI2; split <;> omega
theorem minI2_eq (i j : Int) : minI2 i j = min i j := by unfold minI2; split <;> omega
theorem absI_eq (i : Int) : absI i = (i.natAbs : Int) := by unfold absI; split <;> omega
def aftR {S R C : Type} (o : FlT S R) (out : R → Option C) (go : S → Option C) : Option C := match o with
  | .nx s => go s
  | .brk _ => none
  | .ret r => out r
theorem aftR_some {S R C : Type} {o : FlT S R} {out : R → Option C} {go : S → Option C} {c : C} (h : aftR o out go = some c) : (∃ r, o = .ret r ∧ out r = some c) ∨ ∃ s, o = .nx s ∧ go s = some c := by
  cases o with
  | nx s => exact .inr ⟨s, rfl, h⟩
  | brk s => cases h
  | ret r => exact .inl ⟨r, rfl, h⟩
theorem i_enumT {e : α → D} {xs : List α} (h1 : ml Γ = some (rs, Γ1)) (h2 : freezeL rs Γ1 = some ([eT e xs], Γ2)) : False → miEnum ml Γ = some ((enumT xs).map (eP2 D.int e), Γ2) := False.elim
theorem ee_O [BEq α] {e : α → D} {n : Nat} (h : EqE n e) (hn : ∀ a, isD (e a) .non = some false) : EqE n (eO e) := by
  have hb : ∀ d : D, isD d .non = some false → beq .non d = false ∧ beq d .non = false := by
    intro d hd
    cases d <;> simp_all [isD, beq]
  refine ⟨fun o => by cases o with
    | none => exact dpt_non n
    | some a => exact h.1 a, fun a b => ?_⟩
  cases a with
  | none => cases b with
    | none => rfl
    | some b => exact (hb _ (hn b)).1
  | some a => cases b with
    | none => exact (hb _ (hn a)).2
    | some b => exact h.2 a b
end
end VS

set_option Elab.async false
set_option linter.all false
set_option maxRecDepth 100000
set_option maxHeartbeats 4000000
/-! ### list(text), sorted of data that are alike -/
namespace VSH
open PySem PySem.Spec PyProof.Rows L2
section
variable {X : Cx}
theorem cr_listS (hc : X.calm = true) : CallR X (.type "list") (fun xs H Q => ∃ z : Str, xs = [.str z] ∧ z.cps.size ≤ sizeLine ∧ ∀ l, H l = none → Q (.ref l) (upd H l (.lst (z.cps.toList.map fun c => V.str ⟨#[c]⟩)))) := by
  intro pins s σ H xs us Q I r h
  obtain ⟨z, rfl, hz, q⟩ := h
  obtain ⟨u, rfl, rx⟩ := vals1 r
  obtain ⟨t, rfl⟩ := rx
  refine call_list_str (I.ok.hd hc) z t (fun h' tk acc' c' hk hS hacc => ?_) hz
  refine ⟨.ref s.heap.objs.size, upd H s.heap.objs.size (.lst (z.cps.toList.map fun c => V.str ⟨#[c]⟩)), I.laid hk (Nat.le_refl _) (show ObjOk X.prog X.w _ _ _ (.lst (z.cps.toList.map fun c => V.str ⟨#[c]⟩)) from ⟨?_, acc'.toList, c', ?_, ?_⟩), rfl, q _ (I.hok.fresh (Nat.le_refl _))⟩
  · simpa using hz
  · refine vals_of_at (by simp [hacc.1]) fun j x w h1 h2 => ?_
    obtain ⟨c, u, h3, rfl⟩ := hacc.2 j w (by rw [← Array.getElem?_toList]; exact h2)
    rw [List.getElem?_map] at h1
    rw [Array.getElem?_toList, h3] at h1
    cases h1
    exact ⟨u, rfl⟩
  · rw [Array.toArray_toList]; exact hS
/-- sorted(xs): any data that are alike -/
def rSortedG (K : PySem.W.Frag) : List V → Hp → VK → Prop := fun vs H Q => ∃ (a : Addr) (ps : List (PyData × V)), vs = [.ref a] ∧ SqL K H a (ps.map (·.2)) ∧ DpAll K H (ps.map (·.2)) (ps.map (·.1)) ∧ PySem.W.AllAlike (ps.map (·.1)) ∧ PySem.W.Sortable (ps.map (·.1)) ∧ (∀ p ∈ ps, p.1.depth ≤ 60) ∧
  ∀ p, H p = none → Q (.ref p) (upd H p (.lst ((ps.mergeSort (PySem.W.dataLe false (·.1))).map (·.2))))
theorem each_vals {X : Cx} {pins : List (Addr × Obj)} {σ : L2.St} {H : Hp} {s : Shared} (I : Inv X pins σ H s) : ∀ {ps : List (PyData × V)} {its : List Value}, Vals (ps.map (·.2)) its → DpAll X.K H (ps.map (·.2)) (ps.map (·.1)) →
    PySem.W.EachIs (fun u (p : PyData × V) => RelV p.2 u) its ps ∧ PySem.W.EachIs (fun u (p : PyData × V) => ∃ as, Reads s.heap u p.1 as) its ps
  | [], _, h, _ => by cases h; exact ⟨.nil, .nil⟩
  | p :: ps, _, h, hd => by
    cases h with
    | cons h1 h2 =>
      cases hd with
      | cons d1 d2 =>
        obtain ⟨a, b⟩ := each_vals I h2 d2
        exact ⟨.cons h1 a, .cons (Dp.reads I p.1 p.2 _ d1 h1) b⟩
theorem vals_each : ∀ {ps : List (PyData × V)} {out : List Value}, PySem.W.EachIs (fun u (p : PyData × V) => RelV p.2 u) out ps → Vals (ps.map (·.2)) out
  | _, _, .nil => .nil
  | _, _, .cons h r => .cons h (vals_each r)
theorem cr_sortedG (hu : X.A.units + 65 < cLine) : CallR X (.builtin "sorted") (rSortedG X.K) := by
  intro pins s σ H vs us Q I r h
  obtain ⟨a, ps, rfl, hs, hd, hal, hk, hdp, q⟩ := h
  obtain ⟨its, rv, hl, hz⟩ := I.list hs
  rw [Vals.ref1 r]
  obtain ⟨e, er⟩ := each_vals I rv hd
  have hL : ps.length ≤ sizeLine := by rw [List.length_map] at hz; exact hz
  refine PySem.W.sorted_data (R := fun u (p : PyData × V) => RelV p.2 u) (bs := ps) (enc := (·.1)) hl.isList e er hal hk hL (fun b hb => by have := hdp b hb; omega) fun out hlen hout => ?_
  obtain ⟨ep, he'⟩ := PyProof.Rows.sortedAll_at s.heap its out.toArray
  refine ⟨.ref _, upd H (s.heap.objs.size + 1) (.lst ((ps.mergeSort (PySem.W.dataLe false (·.1))).map (·.2))), I.laid (t' := s.toks) (fun _ _ => PyProof.Rows.sortedAll_old) (Nat.le_succ _) ⟨?_, out, ep, vals_each hout, he'⟩, rfl, q _ (I.hok.fresh (Nat.le_succ _))⟩
  rw [List.length_map, List.length_mergeSort]
  exact hL
end
end VSH
namespace VS
open PySem L2 PyProof.Rows
def sleD (d e : D) : Bool := !PySem.W.dataLt (toPy e) (toPy d)
def tupD : D → Bool
  | .tup (_ :: _) => true
  | _ => false
def plainD : D → Bool
  | .non => false
  | .tup _ => false
  | _ => true
def sortOk (xs : List D) : Bool := xs.all (dpt 60) && (xs.all fun d => xs.all fun e => PySem.W.alike (toPy d) (toPy e)) && (xs.all tupD || xs.all plainD)
def sortedD : List D → Option EV
  | [.lst xs] => if sortOk xs = true then some (.fresh (.lst (xs.mergeSort sleD))) else none
  | _ => none
section
variable {K : PySem.W.Frag} {mg : Str → Option Value} {F H : Hp}
theorem RDs.pairs : ∀ {ds : List D} {vs : List V}, RDs K mg F ds vs → (∀ p ∈ ds.zip vs, RD K mg F p.1 p.2) ∧ ds.length = vs.length
  | [], vs, h => by simp only [RDs] at h; subst h; exact ⟨by simp, rfl⟩
  | d :: ds, vs, h => by
    simp only [RDs] at h
    obtain ⟨v, r, rfl, h1, h2⟩ := h
    obtain ⟨a, b⟩ := RDs.pairs h2
    refine ⟨fun p hp => ?_, by simp [b]⟩
    rw [List.zip_cons_cons, List.mem_cons] at hp
    rcases hp with rfl | hp
    · exact h1
    · exact a p hp
theorem RDs.of_pairs : ∀ {zs : List (D × V)}, (∀ p ∈ zs, RD K mg F p.1 p.2) → RDs K mg F (zs.map (·.1)) (zs.map (·.2))
  | [], _ => by simp only [List.map_nil, RDs]
  | p :: zs, h => by
    simp only [List.map_cons, RDs]
    exact ⟨_, _, rfl, h p List.mem_cons_self, RDs.of_pairs fun q hq => h q (List.mem_cons_of_mem _ hq)⟩
theorem zip_fst {α β : Type} : ∀ {xs : List α} {ys : List β}, xs.length = ys.length → (xs.zip ys).map (·.1) = xs
  | [], [], _ => rfl
  | x :: xs, y :: ys, h => by simp only [List.zip_cons_cons, List.map_cons, zip_fst (xs := xs) (ys := ys) (by simpa using h)]
theorem zip_snd {α β : Type} : ∀ {xs : List α} {ys : List β}, xs.length = ys.length → (xs.zip ys).map (·.2) = ys
  | [], [], _ => rfl
  | x :: xs, y :: ys, h => by simp only [List.zip_cons_cons, List.map_cons, zip_snd (xs := xs) (ys := ys) (by simpa using h)]
theorem toPys_map : ∀ xs : List D, toPys xs = xs.map toPy
  | [] => by simp only [toPys, List.map_nil]
  | x :: xs => by simp only [toPys, List.map_cons, toPys_map xs]
theorem mergeSort_map {α β : Type} (f : α → β) (le : β → β → Bool) (l : List α) : (l.mergeSort fun a b => le (f a) (f b)).map f = (l.map f).mergeSort le :=
  List.map_mergeSort fun a _ b _ => rfl
end
section
variable {X : Cx}
theorem cx_sorted (hu : X.A.units + 65 < cLine) : CallX X (.builtin "sorted") sortedD := by
  refine ⟨_, VSH.cr_sortedG hu, fun F H xs ds res Q hl rx hg k => ?_⟩
  unfold sortedD at hg
  split at hg
  · rename_i zs
    by_cases hc : sortOk zs = true
    · rw [if_pos hc] at hg
      cases hg
      obtain ⟨v, rfl, h⟩ := rx.one
      obtain ⟨a, vs, rfl, h1, h2⟩ := h.lst hl
      unfold sortOk at hc
      simp only [Bool.and_eq_true] at hc
      obtain ⟨⟨c1, c2⟩, c3⟩ := hc
      obtain ⟨hp, hlen⟩ := h2.pairs
      have f1 : (zs.zip vs).map (·.1) = zs := zip_fst hlen
      have f2 : (zs.zip vs).map (·.2) = vs := zip_snd hlen
      have g1 : ((zs.zip vs).map fun p => (toPy p.1, p.2)).map (·.1) = zs.map toPy := by
        rw [List.map_map]
        have : zs.map toPy = ((zs.zip vs).map (·.1)).map toPy := by rw [f1]
        rw [this, List.map_map]
        rfl
      have g2 : ((zs.zip vs).map fun p => (toPy p.1, p.2)).map (·.2) = vs := by
        rw [List.map_map]
        exact f2
      refine ⟨a, (zs.zip vs).map fun p => (toPy p.1, p.2), rfl, by rw [g2]; exact h1, ?_, ?_, ?_, ?_, ?_⟩
      · rw [g1, g2, ← toPys_map]
        exact RDs.dp hl 60 zs vs h2 c1
      · rw [g1]
        intro d hd d' hd'
        obtain ⟨x, hx, rfl⟩ := List.mem_map.mp hd
        obtain ⟨y, hy, rfl⟩ := List.mem_map.mp hd'
        rw [List.all_eq_true] at c2
        have := c2 x hx
        rw [List.all_eq_true] at this
        exact this y hy
      · rw [g1]
        rw [Bool.or_eq_true, List.all_eq_true, List.all_eq_true] at c3
        rcases c3 with c3 | c3
        · left
          intro d hd
          obtain ⟨x, hx, rfl⟩ := List.mem_map.mp hd
          have := c3 x hx
          unfold tupD at this
          split at this
          · rename_i y ys
            exact ⟨toPy y, toPys ys, by simp only [toPy, toPys]⟩
          · cases this
        · right
          intro d hd
          obtain ⟨x, hx, rfl⟩ := List.mem_map.mp hd
          have c4 := c3 x hx
          have c5 : dpt 60 x = true := by rw [List.all_eq_true] at c1; exact c1 x hx
          have h0 : ∀ y : D, dpt 60 y = true → plainD y = true → toPy y ≠ PyData.none ∧ ∀ xs, toPy y ≠ PyData.tuple xs := by
            intro y c5 c4
            cases y <;> first
              | (cases c4; done)
              | (simp [toPy]; done)
              | (exact absurd c5 (by simp [dpt]; done))
          exact h0 x c5 c4
      · intro p hpm
        obtain ⟨x, hx, rfl⟩ := List.mem_map.mp hpm
        have hz : x.1 ∈ zs := by rw [← f1]; exact List.mem_map.mpr ⟨x, hx, rfl⟩
        rw [List.all_eq_true] at c1
        exact (RD.lay 60 x.1 x.2 (hp x hx) (c1 _ hz)).2
      · have key : (((zs.zip vs).map fun p => (toPy p.1, p.2)).mergeSort (PySem.W.dataLe false (·.1))).map (·.2) = ((zs.zip vs).mergeSort fun p q => sleD p.1 q.1).map (·.2) := by
          have e1 : (PySem.W.dataLe false (·.1) : PyData × V → PyData × V → Bool) = fun a b => !PySem.W.dataLt b.1 a.1 := PySem.W.dataLe_eq false _
          rw [e1]
          have e2 := mergeSort_map (fun p : D × V => (toPy p.1, p.2)) (fun a b : PyData × V => !PySem.W.dataLt b.1 a.1) (zs.zip vs)
          rw [← e2, List.map_map]
          rfl
        rw [key]
        have e3 : zs.mergeSort sleD = ((zs.zip vs).mergeSort fun p q => sleD p.1 q.1).map (·.1) := by
          have := mergeSort_map (fun p : D × V => p.1) sleD (zs.zip vs)
          rw [this]
          congr 1
          exact f1.symm
        rw [e3] at k
        exact gq_list hl k (RDs.of_pairs fun p hpm => hp p ((List.mergeSort_perm _ _).mem_iff.mp hpm))
    · rw [if_neg hc] at hg
      cases hg
  · cases hg
def listDS : List D → Option EV
  | [.str s] => if s.length ≤ sizeLine then some (.fresh (.lst (signsD s))) else none
  | _ => none
def listD2 : List D → Option EV
  | [.str s] => if s.length ≤ sizeLine then some (.fresh (.lst (signsD s))) else none
  | xs => listD xs
theorem cx_list2 (hc : X.calm = true) : CallX X (.type "list") listD2 := by
  have h1 : CallX X (.type "list") listDS := by
    refine ⟨_, VSH.cr_listS hc, fun F H xs ds res Q hl rx hg k => ?_⟩
    unfold listDS at hg
    split at hg
    · rename_i s
      obtain ⟨hs, rfl⟩ := if_some hg
      obtain ⟨v, rfl, h⟩ := rx.one
      obtain ⟨rfl, ok⟩ := h.str
      refine ⟨⟨s.toArray⟩, rfl, by simpa using hs, ?_⟩
      refine gq_list hl k ?_
      have : ∀ (l : List Nat), (∀ c ∈ l, c < 1114112) → RDs X.K X.mg F (l.map fun c => D.str [c]) (l.map fun c => V.str ⟨#[c]⟩) := by
        intro l
        induction l with
        | nil => intro _; simp only [List.map_nil, RDs]
        | cons c l ih =>
          intro hl
          simp only [List.map_cons, RDs, RD]
          refine ⟨_, _, rfl, ⟨rfl, ⟨lz (n := 1) rfl rfl, fun x hx => ?_⟩⟩, ih fun x hx => hl x (List.mem_cons_of_mem _ hx)⟩
          rw [List.mem_singleton] at hx
          subst hx
          exact hl x List.mem_cons_self
      exact this s ok.2
    · cases hg
  refine callx_or h1 cx_list fun d r h => ?_
  unfold listD2 at h
  split at h
  · exact .inl h
  · exact .inr h
def iaddD : D → D → Option EV
  | .int i, .int j => some (.val (.int (i + j)))
  | .str s, .str t => if s.length + t.length ≤ sizeLine then some (.val (.str (s ++ t))) else none
  | _, _ => none
theorem ox_iaddD : OpX X (inplaceOp .Add) iaddD := by
  obtain ⟨r, h1, h2⟩ := ox_iadd (X := X)
  refine ⟨r, h1, fun F H x y d e res Q hl rx ry hg k => h2 F H x y d e res Q hl rx ry ?_ k⟩
  cases d <;> cases e <;> exact hg
def isubD : D → D → Option EV
  | .int i, .int j => some (.val (.int (i - j)))
  | _, _ => none
theorem ox_isubD : OpX X (inplaceOp .Sub) isubD := by
  obtain ⟨r, h1, h2⟩ := ox_isub (X := X)
  refine ⟨r, h1, fun F H x y d e res Q hl rx ry hg k => h2 F H x y d e res Q hl rx ry ?_ k⟩
  cases d <;> cases e <;> first | exact hg | (cases hg; done)
end
end VS

set_option Elab.async false
set_option linter.all false
set_option maxRecDepth 100000
set_option maxHeartbeats 4000000
/-! ### sorted, typed; joins -/
namespace VS
open PySem L2 PyProof.Rows
open PySem.W (dataLt alike keyToks keyToksAll)
/-- < over an encoder is lt of the plain values -/
structure SrtE {α : Type} (n : Nat) (e : α → D) (lt : α → α → Bool) : Prop where
  dp : ∀ a, dpt n (e a) = true
  al : ∀ a b, alike (toPy (e a)) (toPy (e b)) = true
  lt : ∀ a b, dataLt (toPy (e a)) (toPy (e b)) = lt a b
section
variable {α β γ δ : Type} {n : Nat}
def ltB (a b : Bool) : Bool := !a && b
def ltP2 [BEq α] (l1 : α → α → Bool) (l2 : β → β → Bool) (p q : α × β) : Bool := if (p.1 == q.1) = true then l2 p.2 q.2 else l1 p.1 q.1
def ltP3 [BEq α] [BEq β] (l1 : α → α → Bool) (l2 : β → β → Bool) (l3 : γ → γ → Bool) (p q : α × β × γ) : Bool := if (p.1 == q.1) = true then (if (p.2.1 == q.2.1) = true then l3 p.2.2 q.2.2 else l2 p.2.1 q.2.1) else l1 p.1 q.1
def ltL [BEq α] (l : α → α → Bool) : List α → List α → Bool
  | [], [] => false
  | [], _ :: _ => true
  | _ :: _, [] => false
  | a :: as, b :: bs => if (a == b) = true then ltL l as bs else l a b
def sortT (lt : α → α → Bool) (xs : List α) : List α := xs.mergeSort fun a b => !lt b a
theorem srt_I : SrtE n D.int (fun a b => decide (a < b)) := ⟨fun a => dpt_int n a, fun a b => by simp only [toPy, alike], fun a b => by simp only [toPy]; exact PySem.W.dataLt_int a b⟩
theorem srt_S : SrtE n D.str (fun a b => decide (a < b)) := ⟨fun a => dpt_str n a, fun a b => by simp only [toPy, alike], fun a b => by simp only [toPy]; exact (PySem.W.dataLt_str _ _).trans (by simp)⟩
theorem srt_B : SrtE n D.bl ltB := ⟨fun a => dpt_bl n a, fun a b => by simp only [toPy, alike], fun a b => by simp only [toPy]; rw [PySem.W.dataLt_bool]; cases a <;> cases b <;> rfl⟩
theorem eqv_of {e : α → D} [BEq α] (h : EqE n e) (a b : α) : PyData.eqv (toPy (e a)) (toPy (e b)) = (a == b) := (eqv_beq n n _ _ (h.1 a) (h.1 b)).trans (h.2 a b)
theorem lt_irr (d : PyData) : dataLt d d = false := by unfold dataLt; exact lex_irrefl _
theorem lt_nil : lexLt itemOrd (keyToksAll []) (keyToksAll []) = false := lex_irrefl _
theorem srt_P2 [BEq α] [BEq β] {e : α → D} {f : β → D} {l1 : α → α → Bool} {l2 : β → β → Bool} (h1 : SrtE n e l1) (q1 : EqE n e) (h2 : SrtE n f l2) (q2 : EqE n f) : SrtE (n + 1) (eP2 e f) (ltP2 l1 l2) where
  dp := fun a => by simp [eP2, dpt, h1.dp, h2.dp]
  al := fun a b => by simp [eP2, toPy, toPys, alike, PySem.W.alikeAll, h1.al, h2.al]
  lt := fun a b => by
    simp only [eP2, toPy, toPys]
    rw [PySem.W.dataLt_pair (h1.al _ _) (h2.al _ _), eqv_of q1, eqv_of q2, h1.lt, h2.lt]
    unfold ltP2
    by_cases c : (a.1 == b.1) = true
    · rw [if_pos c, if_pos c]
      by_cases c2 : (a.2 == b.2) = true
      · rw [if_pos c2]
        have e1 := eqv_of q2 a.2 b.2
        rw [c2] at e1
        have e2 := (PySem.W.toks_eqv _ _ (h2.al a.2 b.2)).1 e1
        rw [← h2.lt]
        unfold dataLt
        rw [e2]
        exact (lex_irrefl _).symm
      · rw [if_neg c2]
    · rw [if_neg c, if_neg c]
theorem lt_step [BEq α] {e : α → D} {l : α → α → Bool} (h : SrtE n e l) (q : EqE n e) (a b : α) (xs ys : List PyData) : lexLt itemOrd (keyToksAll (toPy (e a) :: xs)) (keyToksAll (toPy (e b) :: ys)) = if (a == b) = true then lexLt itemOrd (keyToksAll xs) (keyToksAll ys) else l a b := by
  rw [PySem.W.dataLt_cons (h.al a b), eqv_of q, h.lt]
theorem lt_last [BEq α] {e : α → D} {l : α → α → Bool} (h : SrtE n e l) (q : EqE n e) (a b : α) : lexLt itemOrd (keyToksAll [toPy (e a)]) (keyToksAll [toPy (e b)]) = l a b := by
  rw [lt_step h q, lt_nil]
  by_cases c : (a == b) = true
  · rw [if_pos c]
    have e1 := eqv_of q a b
    rw [c] at e1
    have e2 := (PySem.W.toks_eqv _ _ (h.al a b)).1 e1
    rw [← h.lt]
    unfold dataLt
    rw [e2]
    exact (lex_irrefl _).symm
  · rw [if_neg c]
theorem srt_P3 [BEq α] [BEq β] [BEq γ] {e : α → D} {f : β → D} {g : γ → D} {l1 : α → α → Bool} {l2 : β → β → Bool} {l3 : γ → γ → Bool} (h1 : SrtE n e l1) (q1 : EqE n e) (h2 : SrtE n f l2) (q2 : EqE n f) (h3 : SrtE n g l3) (q3 : EqE n g) : SrtE (n + 1) (eP3 e f g) (ltP3 l1 l2 l3) where
  dp := fun a => by simp [eP3, dpt, h1.dp, h2.dp, h3.dp]
  al := fun a b => by simp [eP3, toPy, toPys, alike, PySem.W.alikeAll, h1.al, h2.al, h3.al]
  lt := fun a b => by
    simp only [eP3, toPy, toPys]
    rw [PySem.W.dataLt_tuple, lt_step h1 q1, lt_step h2 q2, lt_last h3 q3]
    rfl
theorem al_list {e : α → D} {l : α → α → Bool} (h : SrtE n e l) : ∀ xs ys : List α, PySem.W.alikeAll (toPys (xs.map e)) (toPys (ys.map e)) = true
  | [], ys => by simp only [List.map_nil, toPys, PySem.W.alikeAll]
  | x :: xs, [] => by simp only [List.map_nil, List.map_cons, toPys, PySem.W.alikeAll]
  | x :: xs, y :: ys => by simp only [List.map_cons, toPys, PySem.W.alikeAll, h.al, al_list h xs ys, Bool.and_self]
theorem lt_list [BEq α] {e : α → D} {l : α → α → Bool} (h : SrtE n e l) (q : EqE n e) : ∀ xs ys : List α, lexLt itemOrd (keyToksAll (toPys (xs.map e))) (keyToksAll (toPys (ys.map e))) = ltL l xs ys
  | [], [] => lt_nil
  | [], y :: ys => by
    simp only [List.map_nil, List.map_cons, toPys]
    rfl
  | x :: xs, [] => by
    simp only [List.map_nil, List.map_cons, toPys]
    rfl
  | x :: xs, y :: ys => by
    simp only [List.map_cons, toPys]
    rw [lt_step h q, lt_list h q xs ys]
    rfl
theorem srt_L [BEq α] {e : α → D} {l : α → α → Bool} (h : SrtE n e l) (q : EqE n e) : SrtE (n + 1) (eL e) (ltL l) where
  dp := fun a => all_dpt n e h.dp a
  al := fun a b => by simp only [eL, toPy, alike]; exact al_list h a b
  lt := fun a b => by simp only [eL, toPy]; rw [PySem.W.dataLt_list]; exact lt_list h q a b
theorem srt_T [BEq α] {e : α → D} {l : α → α → Bool} (h : SrtE n e l) (q : EqE n e) : SrtE (n + 1) (eT e) (ltL l) where
  dp := fun a => all_dpt n e h.dp a
  al := fun a b => by simp only [eT, toPy, alike]; exact al_list h a b
  lt := fun a b => by simp only [eT, toPy]; rw [PySem.W.dataLt_tuple]; exact lt_list h q a b
theorem o_sorted {e : α → D} {lt : α → α → Bool} {xs : List α} (h : SrtE 60 e lt) (k : (∀ a, tupD (e a) = true) ∨ ∀ a, plainD (e a) = true) : sortedD [eL e xs] = some (.fresh (eL e (sortT lt xs))) := by
  have c : sortOk (xs.map e) = true := by
    unfold sortOk
    simp only [Bool.and_eq_true, List.all_map, List.all_eq_true, Bool.or_eq_true, Function.comp]
    refine ⟨⟨fun a _ => h.dp a, fun a _ b _ => h.al a b⟩, ?_⟩
    rcases k with k | k
    · exact .inl fun a _ => k a
    · exact .inr fun a _ => k a
  have e2 : (fun a b => sleD (e a) (e b)) = fun a b => !lt b a := by
    funext a b
    unfold sleD
    rw [h.lt]
  simp only [sortedD, eL, if_pos c, sortT]
  rw [← e2, mergeSort_map e sleD xs]
end
section
variable {Γ : VEnv} {s b : MS} {φ ψ : Fl × VEnv → Prop}
theorem po_join (h1 : Post (s Γ) ψ) (h2 : ∀ p, ψ p → ∃ Γ1, p = (.nx, Γ1) ∧ Post (b Γ1) φ) : Post (mSeq s b Γ) φ := by
  obtain ⟨p, h3, h4⟩ := h1
  obtain ⟨Γ1, rfl, h5⟩ := h2 p h4
  exact po_nx h3 h5
def listST (t : List Nat) : Option (List (List Nat)) := if t.length ≤ sizeLine then some (signsT t) else none
theorem o_listS {t : List Nat} {u : List (List Nat)} (h : listST t = some u) : listD2 [.str t] = some (.fresh (eL D.str u)) := by
  obtain ⟨h1, rfl⟩ := if_some h
  simp only [listD2, if_pos h1, signs_e]
end
end VS

set_option Elab.async false
set_option linter.all false
set_option maxRecDepth 100000
set_option maxHeartbeats 4000000
/-! ### plain reasoning over the typed functions -/
namespace VS
open PySem L2 PyProof.Rows
section
variable {α β γ δ σ S R C : Type}
theorem sz_ok {n : Nat} (h : n ≤ 1000000) : n ≤ sizeLine := by have := sizeLine_big; omega
theorem mapO_eq {f : α → Option β} {g : α → β} : ∀ {xs : List α}, (∀ x ∈ xs, f x = some (g x)) → mapO f xs = some (xs.map g)
  | [], _ => rfl
  | x :: xs, h => by
    have h1 := h x List.mem_cons_self
    have h2 := mapO_eq (xs := xs) fun y hy => h y (List.mem_cons_of_mem _ hy)
    simp only [mapO, h1, h2, Option.bind_some, Option.map_some, List.map_cons]
theorem lenOk_eq {ys : List β} (h : ys.length ≤ 1000000) : lenOk ys = some ys := if_pos (sz_ok h)
theorem lcM_eq {f : α → Option β} {xs : List α} (g : α → β) (h : ∀ x ∈ xs, f x = some (g x)) (hl : xs.length ≤ 1000000) : lcM f xs = some (xs.map g) := by
  unfold lcM
  rw [mapO_eq h, Option.bind_some, lenOk_eq (by simpa using hl)]
theorem lcM_map {f : β → Option γ} {ys : List α} {k : α → β} (g : α → γ) (h : ∀ y ∈ ys, f (k y) = some (g y)) (hl : ys.length ≤ 1000000) : lcM f (ys.map k) = some (ys.map g) := by
  have e : mapO f (ys.map k) = some (ys.map g) := by
    induction ys with
    | nil => rfl
    | cons y ys ih =>
      have h1 := h y List.mem_cons_self
      have h2 := ih (fun z hz => h z (List.mem_cons_of_mem _ hz)) (by simp at hl; omega)
      simp only [List.map_cons, mapO, h1, h2, Option.bind_some, Option.map_some]
  unfold lcM
  rw [e, Option.bind_some, lenOk_eq (by simpa using hl)]
theorem filterMap_opt (p : α → Bool) (g : α → β) : ∀ xs : List α, (xs.map fun x => if p x = true then some (g x) else none).filterMap id = (xs.filter p).map g
  | [] => rfl
  | x :: xs => by
    rw [List.map_cons, List.filterMap_cons, List.filter_cons]
    by_cases h : p x = true
    · simp only [if_pos h, id, filterMap_opt p g xs, List.map_cons]
    · simp only [if_neg h, id, filterMap_opt p g xs]
theorem lcT_eq {f : α → Option (Option β)} {xs : List α} (p : α → Bool) (g : α → β) (h : ∀ x ∈ xs, f x = some (if p x = true then some (g x) else none)) (hl : xs.length ≤ 1000000) : lcT f xs = some ((xs.filter p).map g) := by
  unfold lcT
  rw [mapO_eq h, Option.bind_some, filterMap_opt, lenOk_eq]
  rw [List.length_map]
  exact Nat.le_trans (List.length_filter_le _ _) hl
theorem lcT_map {f : β → Option (Option γ)} {ys : List α} {k : α → β} (p : α → Bool) (g : α → γ) (h : ∀ y ∈ ys, f (k y) = some (if p y = true then some (g y) else none)) (hl : ys.length ≤ 1000000) : lcT f (ys.map k) = some ((ys.filter p).map g) := by
  have e : mapO f (ys.map k) = some (ys.map fun y => if p y = true then some (g y) else none) := by
    clear hl
    induction ys with
    | nil => rfl
    | cons y ys ih =>
      have h1 := h y List.mem_cons_self
      have h2 := ih (fun z hz => h z (List.mem_cons_of_mem _ hz))
      simp only [List.map_cons, mapO, h1, h2, Option.bind_some, Option.map_some]
  unfold lcT
  rw [e, Option.bind_some, filterMap_opt, lenOk_eq]
  rw [List.length_map]
  exact Nat.le_trans (List.length_filter_le _ _) hl
theorem lc2T_eq {t : α → Option Bool} {ys : α → Option (List β)} {f : α → β → Option (Option γ)} {xs : List α} (b : α → Bool) (l : α → List β) (p : α → β → Bool) (g : α → β → γ)
    (ht : ∀ x ∈ xs, t x = some (b x)) (hy : ∀ x ∈ xs, b x = true → ys x = some (l x)) (h : ∀ x ∈ xs, b x = true → ∀ y ∈ l x, f x y = some (if p x y = true then some (g x y) else none))
    (hl : ((xs.filter b).flatMap l).length ≤ 1000000) : lc2T t ys f xs = some ((xs.filter b).flatMap fun x => ((l x).filter (p x)).map (g x)) := by
  have e : mapO (fun x => (t x).bind fun c => if c = true then (ys x).bind fun l => (mapO (f x) l).map fun os => os.filterMap id else some []) xs = some (xs.map fun x => if b x = true then ((l x).filter (p x)).map (g x) else []) := by
    refine mapO_eq fun x hx => ?_
    rw [ht x hx, Option.bind_some]
    by_cases hb : b x = true
    · rw [if_pos hb, if_pos hb, hy x hx hb, Option.bind_some, mapO_eq (h x hx hb), Option.map_some, filterMap_opt]
    · rw [if_neg hb, if_neg hb]
  have e2 : ∀ xs : List α, (xs.map fun x => if b x = true then ((l x).filter (p x)).map (g x) else []).flatten = (xs.filter b).flatMap fun x => ((l x).filter (p x)).map (g x) := by
    intro xs
    induction xs with
    | nil => rfl
    | cons x xs ih =>
      rw [List.map_cons, List.flatten_cons, ih, List.filter_cons]
      by_cases hb : b x = true
      · simp only [if_pos hb, List.flatMap_cons]
      · simp only [if_neg hb, List.nil_append]
  have e3 : ∀ xs : List α, ((xs.flatMap fun x => ((l x).filter (p x)).map (g x))).length ≤ (xs.flatMap l).length := by
    intro xs
    induction xs with
    | nil => simp
    | cons x xs ih =>
      simp only [List.flatMap_cons, List.length_append, List.length_map]
      have := List.length_filter_le (p x) (l x)
      omega
  unfold lc2T
  rw [e, Option.bind_some, e2, lenOk_eq (Nat.le_trans (e3 _) hl)]
theorem mapS_inv {f : σ → α → Option (β × σ)} (I : σ → Prop) (Q : β → Prop) : ∀ {xs : List α} {s : σ}, (∀ s x, x ∈ xs → I s → ∃ y s', f s x = some (y, s') ∧ Q y ∧ I s') → I s → ∃ ys s', mapS f xs s = some (ys, s') ∧ (∀ y ∈ ys, Q y) ∧ ys.length = xs.length ∧ I s'
  | [], s, _, h0 => ⟨[], s, rfl, by simp, rfl, h0⟩
  | x :: xs, s, h, h0 => by
    obtain ⟨y, s1, h1, h2, h3⟩ := h s x List.mem_cons_self h0
    obtain ⟨ys, s2, h4, h5, h6, h7⟩ := mapS_inv I Q (xs := xs) (fun s x hx => h s x (List.mem_cons_of_mem _ hx)) h3
    refine ⟨y :: ys, s2, ?_, ?_, by simp [h6], h7⟩
    · simp only [mapS, h1, h4, Option.bind_some, Option.map_some]
    · intro z hz
      rcases List.mem_cons.mp hz with rfl | hz
      · exact h2
      · exact h5 z hz
theorem lcS_inv {f : σ → α → Option (β × σ)} (I : σ → Prop) (Q : β → Prop) {xs : List α} {s : σ} (h : ∀ s x, x ∈ xs → I s → ∃ y s', f s x = some (y, s') ∧ Q y ∧ I s') (h0 : I s) (hl : xs.length ≤ 1000000) : ∃ ys s', lcS f xs s = some (ys, s') ∧ (∀ y ∈ ys, Q y) ∧ ys.length = xs.length ∧ I s' := by
  obtain ⟨ys, s', h1, h2, h3, h4⟩ := mapS_inv I Q h h0
  refine ⟨ys, s', ?_, h2, h3, h4⟩
  unfold lcS
  rw [h1, Option.bind_some]
  exact if_pos (sz_ok (by rw [h3]; exact hl))
/-! loops -/
theorem forS_inv {f : S → α → Option S} (I : Nat → S → Prop) {xs : List α} (h : ∀ i (hi : i < xs.length) s, I i s → ∃ s', f s xs[i] = some s' ∧ I (i + 1) s') {s : S} (h0 : I 0 s) : ∃ s', forS f xs s = some s' ∧ I xs.length s' := by
  have key : ∀ k i s, xs.length - i = k → i ≤ xs.length → I i s → ∃ s', forS f (xs.drop i) s = some s' ∧ I xs.length s' := by
    intro k
    induction k with
    | zero =>
      intro i s hk hi hs
      have : i = xs.length := by omega
      subst this
      rw [List.drop_length]
      exact ⟨s, rfl, hs⟩
    | succ k ih =>
      intro i s hk hi hs
      have hlt : i < xs.length := by omega
      obtain ⟨s1, h1, h2⟩ := h i hlt s hs
      obtain ⟨s2, h3, h4⟩ := ih (i + 1) s1 (by omega) hlt h2
      refine ⟨s2, ?_, h4⟩
      rw [List.drop_eq_getElem_cons hlt]
      simp only [forS, h1, Option.bind_some, h3]
  simpa using key _ 0 s rfl (Nat.zero_le _) h0
theorem forS_foldl {f : S → α → Option S} (g : S → α → S) : ∀ {xs : List α} {s : S}, (∀ s, ∀ x ∈ xs, f s x = some (g s x)) → forS f xs s = some (xs.foldl g s)
  | [], s, _ => rfl
  | x :: xs, s, h => by
    simp only [forS, h s x List.mem_cons_self, Option.bind_some, List.foldl_cons]
    exact forS_foldl g fun s y hy => h s y (List.mem_cons_of_mem _ hy)
theorem forR_inv {f : S → α → Option (FlT S R)} (I : Nat → S → Prop) {xs : List α} (h : ∀ i (hi : i < xs.length) s, I i s → ∃ s', f s xs[i] = some (.nx s') ∧ I (i + 1) s') {s : S} (h0 : I 0 s) : ∃ s', forR f xs s = some (.nx s') ∧ I xs.length s' := by
  have key : ∀ k i s, xs.length - i = k → i ≤ xs.length → I i s → ∃ s', forR f (xs.drop i) s = some (.nx s') ∧ I xs.length s' := by
    intro k
    induction k with
    | zero =>
      intro i s hk hi hs
      have : i = xs.length := by omega
      subst this
      rw [List.drop_length]
      exact ⟨s, rfl, hs⟩
    | succ k ih =>
      intro i s hk hi hs
      have hlt : i < xs.length := by omega
      obtain ⟨s1, h1, h2⟩ := h i hlt s hs
      obtain ⟨s2, h3, h4⟩ := ih (i + 1) s1 (by omega) hlt h2
      refine ⟨s2, ?_, h4⟩
      rw [List.drop_eq_getElem_cons hlt]
      simp only [forR, h1, Option.bind_some, h3]
  simpa using key _ 0 s rfl (Nat.zero_le _) h0
/-- the first turn that answers; all others leave the state -/
theorem forR_find {f : S → α → Option (FlT S R)} {s : S} (p : α → Bool) (r : α → R) : ∀ {xs : List α}, (∀ x ∈ xs, f s x = some (if p x = true then .ret (r x) else .nx s)) → forR f xs s = some (match xs.find? p with | some x => .ret (r x) | none => .nx s)
  | [], _ => rfl
  | x :: xs, h => by
    have h1 := h x List.mem_cons_self
    by_cases hp : p x = true
    · rw [if_pos hp] at h1
      simp only [forR, h1, Option.bind_some, List.find?_cons, hp]
    · rw [if_neg hp] at h1
      simp only [forR, h1, Option.bind_some, List.find?_cons, hp]
      exact forR_find p r fun y hy => h y (List.mem_cons_of_mem _ hy)
/-- all of them, or an answer that is always the same -/
theorem forR_all {f : S → α → Option (FlT S R)} {s : S} (p : α → Bool) (r : R) {xs : List α} (h : ∀ x ∈ xs, f s x = some (if p x = true then .nx s else .ret r)) : forR f xs s = some (if xs.all p = true then .nx s else .ret r) := by
  rw [forR_find (fun x => !p x) (fun _ => r) (fun x hx => by rw [h x hx]; cases p x <;> rfl)]
  by_cases ha : xs.all p = true
  · rw [if_pos ha]
    have : xs.find? (fun x => !p x) = none := by
      rw [List.find?_eq_none]
      intro x hx
      rw [List.all_eq_true] at ha
      simp [ha x hx]
    rw [this]
  · rw [if_neg ha]
    cases q : xs.find? (fun x => !p x) with
    | none =>
      exfalso
      apply ha
      rw [List.find?_eq_none] at q
      rw [List.all_eq_true]
      intro x hx
      have := q x hx
      simpa using this
    | some x => rfl
theorem whileS_inv {t : S → Option Bool} {f : S → Option S} (I : S → Prop) (m : S → Nat) (h : ∀ s, I s → (t s = some false) ∨ (t s = some true ∧ ∃ s', f s = some s' ∧ I s' ∧ m s' < m s)) : ∀ {n : Nat} {s : S}, m s < n → I s → ∃ s', whileS t f n s = some s' ∧ I s' ∧ t s' = some false
  | 0, s, hn, _ => absurd hn (Nat.not_lt_zero _)
  | n + 1, s, hn, hs => by
    rcases h s hs with h1 | ⟨h1, s1, h2, h3, h4⟩
    · exact ⟨s, by simp [whileS, h1], hs, h1⟩
    · obtain ⟨s', a, b, c⟩ := whileS_inv I m h (n := n) (s := s1) (by omega) h3
      exact ⟨s', by simp [whileS, h1, h2, a], b, c⟩
@[simp] theorem aftR_nx (s : S) (out : R → Option C) (go : S → Option C) : aftR (.nx s) out go = go s := rfl
@[simp] theorem aftR_ret (r : R) (out : R → Option C) (go : S → Option C) : aftR (.ret r : FlT S R) out go = out r := rfl
/-! small operations -/
theorem catT_eq {s t : List α} (h : s.length + t.length ≤ 1000000) : catT s t = some (s ++ t) := if_pos (sz_ok h)
theorem pushT_eq {xs : List α} {x : α} (h : xs.length < 1000000) : pushT xs x = some (xs ++ [x]) := if_pos (by have := sizeLine_big; omega)
theorem extT_eq {s t : List α} (h : s.length + t.length ≤ 1000000) : extT s t = some (s ++ t) := if_pos (sz_ok h)
theorem range1T_eq (n : Nat) (h : n ≤ 1000000) : range1T (n : Int) = some ((List.range n).map fun i => ((i : Nat) : Int)) := by
  unfold range1T
  rw [if_pos (okR_in (by omega) (by omega))]
  simp
theorem range2T_eq {i j : Int} (n : Nat) (hj : (j - i).toNat = n) (h1 : -1000000 ≤ i) (h2 : i ≤ 1000000) (h3 : -1000000 ≤ j) (h4 : j ≤ 1000000) : range2T i j = some ((List.range n).map fun k => i + ((k : Nat) : Int)) := by
  unfold range2T
  rw [if_pos ⟨okR_in h1 h2, okR_in h3 h4⟩, hj]
theorem range3T_eq {i j : Int} (n : Nat) (hj : (i - j).toNat = n) (h1 : -1000000 ≤ i) (h2 : i ≤ 1000000) (h3 : -1000000 ≤ j) (h4 : j ≤ 1000000) : range3T i j = some ((List.range n).map fun k => i + ((k : Nat) : Int) * (-1)) := by
  unfold range3T
  rw [if_pos ⟨okR_in h1 h2, okR_in h3 h4⟩, hj]
theorem mulT_eq {i j : Int} (h : mulOk i j = true) : mulT i j = some (i * j) := if_pos h
theorem mulT_small {i j : Int} (h1 : -1000000 ≤ i) (h2 : i ≤ 1000000) : mulT i j = some (i * j) := if_pos (mulOk_small h1 h2)
theorem modT_eq {i j : Int} (h : 0 < j) : modT i j = some (i % j) := if_pos h
theorem log2_small {j : Int} (h1 : 0 < j) (h2 : j ≤ 1000000) : j.natAbs.log2 < 9000 := by
  have : j.natAbs.log2 < 20 := by
    rw [Nat.log2_lt (by omega)]
    omega
  omega
theorem fdivT_eq {i j : Int} (h1 : 0 < j) (h2 : j ≤ 1000000) : fdivT i j = some (i / j) := if_pos ⟨h1, log2_small h1 h2⟩
theorem maxT_eq {xs : List Int} (h : xs ≠ []) : maxT xs = some (maxI xs) := if_pos h
theorem minT_eq {xs : List Int} (h : xs ≠ []) : minT xs = some (minI xs) := if_pos h
theorem repST_eq {s : List Nat} {j : Int} (h1 : -1000 ≤ j) (h2 : j ≤ 1000) (h3 : s.length ≤ 1000) : repST s j = some (List.replicate j.toNat s).flatten := if_pos ⟨h2, h1, h3⟩
theorem inST_one {c : Nat} {t : List Nat} : inST [c] t = some (decide (c ∈ t)) := rfl
theorem listST_eq {t : List Nat} (h : t.length ≤ 1000000) : listST t = some (signsT t) := if_pos (sz_ok h)
theorem joinT_chars {f : α → Nat} {xs : List α} (h : xs.length ≤ 1000000) : joinT [] (xs.map fun x => [f x]) = some (xs.map f) := by
  have e : (xs.map fun x => [f x]) = (xs.map f).map fun c => [c] := by simp [Function.comp_def]
  unfold joinT
  rw [e, joinL_chars, if_pos]
  have : (((xs.map f).map fun c => [c]).map (·.length)) = xs.map fun _ => 1 := by simp [Function.comp_def]
  rw [this, sum_ones]
  simp
  omega
theorem joinT_signs {s : List Nat} (h : s.length ≤ 1000000) : joinT [] (signsT s) = some s := by
  have := joinT_chars (f := fun c => c) (xs := s) h
  simpa [signsT] using this
@[simp] theorem signsT_len (s : List Nat) : (signsT s).length = s.length := by simp [signsT]
theorem mem_signs {s t : List Nat} : t ∈ signsT s ↔ ∃ c ∈ s, t = [c] := by
  unfold signsT
  rw [List.mem_map]
  constructor
  · rintro ⟨c, h, rfl⟩; exact ⟨c, h, rfl⟩
  · rintro ⟨c, h, rfl⟩; exact ⟨c, h, rfl⟩
theorem chT_nat {s : List Nat} {i : Nat} (h : i < s.length) : chT s (i : Int) = some [s[i]] := by
  unfold chT
  rw [atN, List.getElem?_eq_getElem h]
  rfl
theorem atI_lt {xs : List α} {i : Nat} (h : i < xs.length) : atI xs (i : Int) = some xs[i] := by rw [atN, List.getElem?_eq_getElem h]
theorem atI_in {xs : List α} {i : Int} (h0 : 0 ≤ i) (h : i < xs.length) : ∃ h', atI xs i = some (xs[i.toNat]'h') := by
  have h' : i.toNat < xs.length := by omega
  refine ⟨h', ?_⟩
  rw [atI_nn _ _ h0, List.getElem?_eq_getElem h']
theorem setT_nat {xs : List α} {i : Nat} {x : α} (h : i < xs.length) : setT xs (i : Int) x = some (xs.set i x) := by
  unfold setT ixN
  rw [if_pos (by omega)]
  simp [h]
end
end VS

set_option Elab.async false
set_option linter.all false
set_option maxRecDepth 100000
set_option maxHeartbeats 4000000
namespace K61
open PySem L2 PyProof.Rows VS
def top (i : Nat) : Stmt := PySem.Challenge.pw_upwide_k61_whole_christoffel_and_central.main.body.getD i (.Pass ⟨0, 0, 0, 0⟩)
def fuel : Nat := 1000000
structure Txt (K : PySem.W.Frag) (mg : Str → Option Value) : Prop where
  b_len : mg "len" = none
  b_int : mg "int" = none
  b_abs : mg "abs" = none
  b_max : mg "max" = none
  b_range : mg "range" = none
  b_list : mg "list" = none
  b_min : mg "min" = none
  b_isinstance : mg "isinstance" = none
  b_bool : mg "bool" = none
  b_all : mg "all" = none
  b_any : mg "any" = none
  b_str : mg "str" = none
  c_MOST_EVEN : ∃ t, mg "MOST_EVEN" = some (.int 40 t)
section
variable {P : Program} {w : World} {K : PySem.W.Frag} {mg : Str → Option Value} {base : Heap}
abbrev s_law_jar : Stmt := top 24
/- _law_jar: 0 script, 1 spot, 2 cell, 3 great, 4 mixed | inout [0, 0] fresh 1 level 1 -/
def m_law_jar : MS :=
  (mSeq (mAsg (mFrz (mIf (mCmp ltD (mVar 1) (mCallB lenD (mCons (mVar 0) mNil))) (mCallB intD (mCons (mBin ixD (mVar 0) (mVar 1)) mNil)) (mBin addD (mBin mulD (mC (.int 991)) (mVar 1)) (mC (.int 97))))) (asgn 2))
  (mSeq (mAsg (mFrz (mBin modD (mCallB intD (mCons (mCallB absD (mCons (mVar 2) mNil)) mNil)) (mBin powD (mBin powD (mC (.int 10)) (mC (.int 55))) (mC (.int 5))))) (asgn 3))
  (mSeq (mAsg (mFrz (mBin addD (mBin addD (mBin addD (mBin mulD (mBin modD (mCallB intD (mCons (mVar 3) mNil)) (mC (.int 2305843009213693907))) (mC (.int 127))) (mBin mulD (mC (.int 1109)) (mVar 1))) (mBin mulD (mC (.int 71)) (mCallB intD (mCons (mOfB (mCmp ltD (mVar 2) (mC (.int 0)))) mNil)))) (mC (.int 43)))) (asgn 4))
  (mRet (mList (mCons (mCallB maxD (mCons (mC (.int 0)) (mCons (mBin subD (mVar 3) (mBin powD (mC (.int 10)) (mC (.int 17)))) mNil))) (mCons (mVar 4) (mCons (mC (.int 0)) mNil))))))))
def f_law_jar : Sem' := defOf 2 5 m_law_jar
theorem sc_law_jar : FnScope ["script", "spot", "cell", "great", "mixed"] ["script", "spot"] (defScope s_law_jar) := ⟨rfl, rfl, rfl, by decide +kernel, rfl, by decide +kernel, by decide +kernel⟩
theorem ok_law_jar {f : Addr} {fd : FuncData} (F : Fun K "_law_jar" "_law_jar" s_law_jar f fd) (T : Txt K mg) : FnOk P w K mg base CX0 1 f fd ["script", "spot"] (spV K mg 2 f_law_jar) :=
  fn_ok (N := ["script", "spot", "cell", "great", "mixed"]) (k := 0) (m := m_law_jar) F sc_law_jar fun cdv A outer s H E hr =>
  (vs_cons (vs_asg (ve_frz (ve_if (vt_op (oc_lt hr.units0) (ve_var 1) (ve_callB cx_len T.b_len (va_cons (ve_var 0) va_nil))) (ve_callTy cx_int T.b_int (va_cons (ve_ix (ve_var 0) (ve_var 1)) va_nil)) (ve_op ox_add (ve_op ox_mul ve_int (ve_var 1)) ve_int))) (vg_name 2 sc_law_jar.nd))
  (vs_cons (vs_asg (ve_frz (ve_op ox_mod (ve_callTy cx_int T.b_int (va_cons (ve_callB cx_abs T.b_abs (va_cons (ve_var 2) va_nil)) va_nil)) (ve_op ox_pow (ve_op ox_pow ve_int ve_int) ve_int))) (vg_name 3 sc_law_jar.nd))
  (vs_cons (vs_asg (ve_frz (ve_op ox_add (ve_op ox_add (ve_op ox_add (ve_op ox_mul (ve_op ox_mod (ve_callTy cx_int T.b_int (va_cons (ve_var 3) va_nil)) ve_int) ve_int) (ve_op ox_mul ve_int (ve_var 1))) (ve_op ox_mul ve_int (ve_callTy cx_int T.b_int (va_cons (ve_opc (oc_lt hr.units0) (ve_var 2) ve_int) va_nil)))) ve_int)) (vg_name 4 sc_law_jar.nd))
  (vs_one (vs_ret (ve_list (va_cons (ve_callB (cx_max rfl) T.b_max (va_cons ve_int (va_cons (ve_op ox_sub (ve_var 3) (ve_op ox_pow ve_int ve_int)) va_nil))) (va_cons (ve_var 4) (va_cons ve_int va_nil)))))))))
abbrev s_law_all_words : Stmt := top 28
/- _law_all_words: 0 letters, 1 size, 2 found, 3 turn, 4 longer, 5 word, 6 letter | inout [0, 0] fresh 0 level 1 -/
def c_law_all_words_1 : M :=
  (mLc [6] (miSeq (mVar 0)) (asgn 6) mYes (mBin addD (mVar 5) (mVar 6)))
def b_law_all_words_1 : MS :=
  (mDrop (mExt (mVar 4) c_law_all_words_1))
def b_law_all_words_2 : MS :=
  (mSeq (mAsg (mList mNil) (asgn 4))
  (mSeq (mFor (miSeq (mVar 2)) (asgn 5) b_law_all_words_1)
  (mAsg (mFrz (mCallB listD2 (mCons (mVar 4) mNil))) (asgn 2))))
def m_law_all_words : MS :=
  (mSeq (mAsg (mFrz (mList (mCons (mC (.str [])) mNil))) (asgn 2))
  (mSeq (mFor (miR1 (mCons (mVar 1) mNil)) (asgn 3) b_law_all_words_2)
  (mRet (mFrz (mVar 2)))))
def f_law_all_words : Sem' := defOf 2 7 m_law_all_words
theorem sc_law_all_words : FnScope ["letters", "size", "found", "turn", "longer", "word", "letter"] ["letters", "size"] (defScope s_law_all_words) := ⟨rfl, rfl, rfl, by decide +kernel, rfl, by decide +kernel, by decide +kernel⟩
theorem ok_law_all_words {f : Addr} {fd : FuncData} (F : Fun K "_law_all_words" "_law_all_words" s_law_all_words f fd) (T : Txt K mg) : FnOk P w K mg base CX0 1 f fd ["letters", "size"] (spV K mg 2 f_law_all_words) :=
  fn_ok (N := ["letters", "size", "found", "turn", "longer", "word", "letter"]) (k := 0) (m := m_law_all_words) F sc_law_all_words fun cdv A outer s H E hr =>
  (vs_cons (vs_asg (ve_frz (ve_list (va_cons (ve_str []) va_nil))) (vg_name 2 sc_law_all_words.nd))
  (vs_cons (vs_for PassesOwn.never rfl (vi_range1 T.b_range (va_cons (ve_var 1) va_nil)) (vg_name 3 sc_law_all_words.nd) (vs_cons (vs_asg (ve_list va_nil) (vg_name 4 sc_law_all_words.nd))
  (vs_cons (vs_for PassesOwn.never rfl (vi_seq (ve_var 2)) (vg_name 5 sc_law_all_words.nd) (vs_one (vs_expr (ve_extend (ve_var 4) (ve_lcE (own := [("letter", 6)]) rfl sc_law_all_words.nd (vi_seq (ve_var 0)) (blkOk_by (own := [("letter", 6)]) (N := ["letters", "size", "found", "turn", "longer", "word", "letter"]) (sc := (defScope s_law_all_words)) (by decide +kernel)) (by decide) (fun _ _ _ _ _ => (vg_name 6 sc_law_all_words.nd)) (fun _ _ _ _ _ => vts_nil) (fun _ _ _ _ _ => (ve_op ox_add (ve_var 5) (ve_var 6))))))))
  (vs_one (vs_asg (ve_frz (ve_callTy (cx_list2 rfl) T.b_list (va_cons (ve_var 4) va_nil))) (vg_name 2 sc_law_all_words.nd))))))
  (vs_one (vs_ret (ve_frz (ve_var 2))))))
abbrev s_law_divisor : Stmt := top 29
/- _law_divisor: 0 one, 1 other | inout [0, 0] fresh 0 level 1 -/
def b_law_divisor_1 : MS :=
  (mPar 0 1 (mCons (mVar 1) (mCons (mBin modD (mCallB intD (mCons (mVar 0) mNil)) (mVar 1)) mNil)))
def t_law_divisor_1 : MB :=
  (mCmp gtD (mVar 1) (mC (.int 0)))
def m_law_divisor : MS :=
  (mSeq (mWhile fuel t_law_divisor_1 b_law_divisor_1)
  (mRet (mFrz (mVar 0))))
def f_law_divisor : Sem' := defOf 2 2 m_law_divisor
theorem sc_law_divisor : FnScope ["one", "other"] ["one", "other"] (defScope s_law_divisor) := ⟨rfl, rfl, rfl, by decide +kernel, rfl, by decide +kernel, by decide +kernel⟩
theorem ok_law_divisor {f : Addr} {fd : FuncData} (F : Fun K "_law_divisor" "_law_divisor" s_law_divisor f fd) (T : Txt K mg) : FnOk P w K mg base CX0 1 f fd ["one", "other"] (spV K mg 2 f_law_divisor) :=
  fn_ok (N := ["one", "other"]) (k := 0) (m := m_law_divisor) F sc_law_divisor fun cdv A outer s H E hr =>
  (vs_cons (vs_while fuel PassesOwn.never (vt_op oc_gt (ve_var 1) ve_int) (vs_one (vs_par (i := 0) (j := 1) rfl sc_law_divisor.nd (va_cons (ve_var 1) (va_cons (ve_op ox_mod (ve_callTy cx_int T.b_int (va_cons (ve_var 0) va_nil)) (ve_var 1)) va_nil)))))
  (vs_one (vs_ret (ve_frz (ve_var 0)))))
abbrev s_law_has_period : Stmt := top 32
/- _law_has_period: 0 word, 1 p, 2 at | inout [0, 0] fresh 0 level 1 -/
def c_law_has_period_1 : M :=
  (mLc [2] (miR1 (mCons (mBin subD (mCallB lenD (mCons (mVar 0) mNil)) (mVar 1)) mNil)) (asgn 2) (mCmp neD (mBin ixD (mVar 0) (mVar 2)) (mBin ixD (mVar 0) (mBin addD (mVar 2) (mVar 1)))) (mVar 2))
def m_law_has_period : MS :=
  (mRet (mFrz (mOfB (mCmp eqD c_law_has_period_1 (mList mNil)))))
def f_law_has_period : Sem' := defOf 2 3 m_law_has_period
theorem sc_law_has_period : FnScope ["word", "p", "at"] ["word", "p"] (defScope s_law_has_period) := ⟨rfl, rfl, rfl, by decide +kernel, rfl, by decide +kernel, by decide +kernel⟩
theorem ok_law_has_period {f : Addr} {fd : FuncData} (F : Fun K "_law_has_period" "_law_has_period" s_law_has_period f fd) (T : Txt K mg) : FnOk P w K mg base CX0 1 f fd ["word", "p"] (spV K mg 2 f_law_has_period) :=
  fn_ok (N := ["word", "p", "at"]) (k := 0) (m := m_law_has_period) F sc_law_has_period fun cdv A outer s H E hr =>
  (vs_one (vs_ret (ve_frz (ve_opc (oc_eq (units64 hr)) (ve_lcE (own := [("at", 2)]) rfl sc_law_has_period.nd (vi_range1 T.b_range (va_cons (ve_op ox_sub (ve_callB cx_len T.b_len (va_cons (ve_var 0) va_nil)) (ve_var 1)) va_nil)) (blkOk_by (own := [("at", 2)]) (N := ["word", "p", "at"]) (sc := (defScope s_law_has_period)) (by decide +kernel)) (by decide) (fun _ _ _ _ _ => (vg_name 2 sc_law_has_period.nd)) (fun _ _ _ _ _ => (vts_one (vt_op (oc_ne (units64 hr)) (ve_ix (ve_var 0) (ve_var 2)) (ve_ix (ve_var 0) (ve_op ox_add (ve_var 2) (ve_var 1)))))) (fun _ _ _ _ _ => (ve_var 2))) (ve_list va_nil)))))
abbrev s_law_even : Stmt := top 30
/- _law_even: 0 word, 1 size, 2 counts, 3 at | inout [0] fresh 0 level 1 -/
def c_law_even_1 : M :=
  (mLc [3] (miR1 (mCons (mBin addD (mBin subD (mCallB lenD (mCons (mVar 0) mNil)) (mVar 1)) (mC (.int 1))) mNil)) (asgn 3) mYes (mMeth "str" (g1S fun s t => .int (countS s t)) (mSl (mVar 0) (mPS (mVar 3)) (mPS (mBin addD (mVar 3) (mVar 1)))) (mCons (mC (.str [98])) mNil)))
def b_law_even_1 : MS :=
  (mSeq (mAsg (mFrz c_law_even_1) (asgn 2))
  (mIfS (mCmp gtD (mBin subD (mCallB maxD (mCons (mVar 2) mNil)) (mCallB minD (mCons (mVar 2) mNil))) (mC (.int 1))) (mRet (mFrz (mC (.bl false)))) mNext))
def m_law_even : MS :=
  (mSeq (mFor (miR2 (mCons (mC (.int 1)) (mCons (mCallB lenD (mCons (mVar 0) mNil)) mNil))) (asgn 1) b_law_even_1)
  (mRet (mFrz (mC (.bl true)))))
def f_law_even : Sem' := defOf 1 4 m_law_even
theorem sc_law_even : FnScope ["word", "size", "counts", "at"] ["word"] (defScope s_law_even) := ⟨rfl, rfl, rfl, by decide +kernel, rfl, by decide +kernel, by decide +kernel⟩
theorem ok_law_even {f : Addr} {fd : FuncData} (F : Fun K "_law_even" "_law_even" s_law_even f fd) (T : Txt K mg) : FnOk P w K mg base CX0 1 f fd ["word"] (spV K mg 1 f_law_even) :=
  fn_ok (N := ["word", "size", "counts", "at"]) (k := 0) (m := m_law_even) F sc_law_even fun cdv A outer s H E hr =>
  (vs_cons (vs_for PassesOwn.never rfl (vi_range2 T.b_range (va_cons ve_int (va_cons (ve_callB cx_len T.b_len (va_cons (ve_var 0) va_nil)) va_nil))) (vg_name 1 sc_law_even.nd) (vs_cons (vs_asgF (vs_setLc (i := 2) (own := [("at", 3)]) rfl sc_law_even.nd (vi_range1 T.b_range (va_cons (ve_op ox_add (ve_op ox_sub (ve_callB cx_len T.b_len (va_cons (ve_var 0) va_nil)) (ve_var 1)) ve_int) va_nil)) (blkOk_by (own := [("at", 3)]) (N := ["word", "size", "counts", "at"]) (sc := (defScope s_law_even)) (by decide +kernel)) (by decide) (fun _ _ _ _ _ => (vg_name 3 sc_law_even.nd)) (fun _ _ _ _ _ => vts_nil) (fun _ _ _ _ _ => (ve_meth mx_count PySem.F.plainAttrs_str PySem.F.slot_str_count PySem.F.type_str_count (ve_slice (ve_var 0) (vo_some (ve_var 3)) (vo_some (ve_op ox_add (ve_var 3) (ve_var 1)))) (va_cons (ve_str [98]) va_nil)))))
  (vs_one (vs_if (vt_op oc_gt (ve_op ox_sub (ve_callB (cx_max rfl) T.b_max (va_cons (ve_var 2) va_nil)) (ve_callB (cx_min rfl) T.b_min (va_cons (ve_var 2) va_nil))) ve_int) (vs_one (vs_ret (ve_frz ve_bl))) vs_nil))))
  (vs_one (vs_ret (ve_frz ve_bl))))
abbrev s_law_is_low : Stmt := top 31
/- _law_is_low: 0 word, 1 at | inout [0] fresh 0 level 2 -/
def c_law_is_low_1 : M :=
  (mLc [1] (miR2 (mCons (mC (.int 1)) (mCons (mCallB lenD (mCons (mVar 0) mNil)) mNil))) (asgn 1) (mCmp leD (mSl (mVar 0) (mPS (mVar 1)) mPN) (mVar 0)) (mVar 1))
def m_law_is_low : MS :=
  (mRet (mFrz (mOfB (mAnd (mTest (mCall [false] f_law_even (mCons (mFrz (mVar 0)) mNil))) (mCmp eqD c_law_is_low_1 (mList mNil))))))
def f_law_is_low : Sem' := defOf 1 2 m_law_is_low
theorem sc_law_is_low : FnScope ["word", "at"] ["word"] (defScope s_law_is_low) := ⟨rfl, rfl, rfl, by decide +kernel, rfl, by decide +kernel, by decide +kernel⟩
theorem ok_law_is_low {f : Addr} {fd : FuncData} (F : Fun K "_law_is_low" "_law_is_low" s_law_is_low f fd) (T : Txt K mg) (G_law_even : GF P w K mg base "_law_even" 1 1 f_law_even) : FnOk P w K mg base CX0 2 f fd ["word"] (spV K mg 1 f_law_is_low) :=
  fn_ok (N := ["word", "at"]) (k := 1) (m := m_law_is_low) F sc_law_is_low fun cdv A outer s H E hr =>
  (vs_one (vs_ret (ve_frz (ve_and (ve_ofTest (ve_callG [false] G_law_even hr (va_cons (ve_frz (ve_var 0)) va_nil))) (ve_one (ve_opc (oc_eq (units64 hr)) (ve_lcE (own := [("at", 1)]) rfl sc_law_is_low.nd (vi_range2 T.b_range (va_cons ve_int (va_cons (ve_callB cx_len T.b_len (va_cons (ve_var 0) va_nil)) va_nil))) (blkOk_by (own := [("at", 1)]) (N := ["word", "at"]) (sc := (defScope s_law_is_low)) (by decide +kernel)) (by decide) (fun _ _ _ _ _ => (vg_name 1 sc_law_is_low.nd)) (fun _ _ _ _ _ => (vts_one (vt_op oc_le (ve_slice (ve_var 0) (vo_some (ve_var 1)) vo_none) (ve_var 0)))) (fun _ _ _ _ _ => (ve_var 1))) (ve_list va_nil)))))))
abbrev s_law_is_middle : Stmt := top 33
/- _law_is_middle: 0 word, 1 size, 2 some, 3 p | inout [0] fresh 0 level 2 -/
def c_law_is_middle_1 : M :=
  (mLc [3] (miR2 (mCons (mC (.int 1)) (mCons (mVar 1) mNil))) (asgn 3) (mAnd (mCmp eqD (mCall [false, false] f_law_divisor (mCons (mFrz (mVar 3)) (mCons (mFrz (mBin subD (mVar 1) (mVar 3))) mNil))) (mC (.int 1))) (mAnd (mTest (mCall [false, false] f_law_has_period (mCons (mFrz (mVar 0)) (mCons (mFrz (mVar 3)) mNil)))) (mTest (mCall [false, false] f_law_has_period (mCons (mFrz (mVar 0)) (mCons (mFrz (mBin subD (mVar 1) (mVar 3))) mNil)))))) (mVar 3))
def m_law_is_middle : MS :=
  (mSeq (mAsg (mFrz (mBin addD (mCallB lenD (mCons (mVar 0) mNil)) (mC (.int 2)))) (asgn 1))
  (mSeq (mAsg (mFrz c_law_is_middle_1) (asgn 2))
  (mRet (mFrz (mOfB (mCmp neD (mVar 2) (mList mNil)))))))
def f_law_is_middle : Sem' := defOf 1 4 m_law_is_middle
theorem sc_law_is_middle : FnScope ["word", "size", "some", "p"] ["word"] (defScope s_law_is_middle) := ⟨rfl, rfl, rfl, by decide +kernel, rfl, by decide +kernel, by decide +kernel⟩
theorem ok_law_is_middle {f : Addr} {fd : FuncData} (F : Fun K "_law_is_middle" "_law_is_middle" s_law_is_middle f fd) (T : Txt K mg) (G_law_divisor : GF P w K mg base "_law_divisor" 1 2 f_law_divisor) (G_law_has_period : GF P w K mg base "_law_has_period" 1 2 f_law_has_period) : FnOk P w K mg base CX0 2 f fd ["word"] (spV K mg 1 f_law_is_middle) :=
  fn_ok (N := ["word", "size", "some", "p"]) (k := 1) (m := m_law_is_middle) F sc_law_is_middle fun cdv A outer s H E hr =>
  (vs_cons (vs_asg (ve_frz (ve_op ox_add (ve_callB cx_len T.b_len (va_cons (ve_var 0) va_nil)) ve_int)) (vg_name 1 sc_law_is_middle.nd))
  (vs_cons (vs_asgF (vs_setLc (i := 2) (own := [("p", 3)]) rfl sc_law_is_middle.nd (vi_range2 T.b_range (va_cons ve_int (va_cons (ve_var 1) va_nil))) (blkOk_by (own := [("p", 3)]) (N := ["word", "size", "some", "p"]) (sc := (defScope s_law_is_middle)) (by decide +kernel)) (by decide) (fun _ _ _ _ _ => (vg_name 3 sc_law_is_middle.nd)) (fun _ _ _ _ _ => (vts_one (vt_w (vw_and (vt_op (oc_eq (units64 hr)) (ve_callG [false, false] G_law_divisor hr (va_cons (ve_frz (ve_var 3)) (va_cons (ve_frz (ve_op ox_sub (ve_var 1) (ve_var 3))) va_nil))) ve_int) (vw_and (vt_val (ve_callG [false, false] G_law_has_period hr (va_cons (ve_frz (ve_var 0)) (va_cons (ve_frz (ve_var 3)) va_nil)))) (vw_and1 (vt_val (ve_callG [false, false] G_law_has_period hr (va_cons (ve_frz (ve_var 0)) (va_cons (ve_frz (ve_op ox_sub (ve_var 1) (ve_var 3))) va_nil)))))))))) (fun _ _ _ _ _ => (ve_var 3))))
  (vs_one (vs_ret (ve_frz (ve_opc (oc_ne (units64 hr)) (ve_var 2) (ve_list va_nil)))))))
abbrev s_law_take : Stmt := top 25
/- _law_take: 0 jar, 1 total, 2 found, 3 one, 4 two | inout [1, 0] fresh 0 level 1 -/
def m_law_take : MS :=
  (mSeq (mIfS (mCmp gtD (mBin ixD (mVar 0) (mC (.int 0))) (mC (.int 0))) (mSeq (mAsg (mFrz (mBin modD (mCallB intD (mCons (mBin ixD (mVar 0) (mC (.int 0))) mNil)) (mVar 1))) (asgn 2))
  (mSeq (mAsg (mFrz (mBin fdivD (mBin ixD (mVar 0) (mC (.int 0))) (mVar 1))) (mgSub (mVar 0) (mC (.int 0))))
  (mRet (mFrz (mVar 2))))) mNext)
  (mSeq (mAsg (mFrz (mBin addD (mBin ixD (mVar 0) (mC (.int 2))) (mC (.int 1)))) (mgSub (mVar 0) (mC (.int 2))))
  (mSeq (mAsg (mFrz (mBin modD (mCallB intD (mCons (mBin addD (mBin ixD (mVar 0) (mC (.int 1))) (mBin mulD (mC (.int 49979687)) (mBin ixD (mVar 0) (mC (.int 2))))) mNil)) (mC (.int 2305843009213693951)))) (asgn 3))
  (mSeq (mAsg (mFrz (mBin addD (mBin mulD (mBin modD (mCallB intD (mCons (mBin addD (mBin mulD (mVar 3) (mVar 3)) (mBin mulD (mC (.int 331)) (mBin ixD (mVar 0) (mC (.int 2))))) mNil)) (mC (.int 2305843009213693921))) (mC (.int 67867967))) (mVar 3))) (asgn 4))
  (mRet (mFrz (mBin modD (mCallB intD (mCons (mBin fdivD (mVar 4) (mC (.int 65651))) mNil)) (mVar 1))))))))
def f_law_take : Sem' := defOf 2 5 m_law_take
theorem sc_law_take : FnScope ["jar", "total", "found", "one", "two"] ["jar", "total"] (defScope s_law_take) := ⟨rfl, rfl, rfl, by decide +kernel, rfl, by decide +kernel, by decide +kernel⟩
theorem ok_law_take {f : Addr} {fd : FuncData} (F : Fun K "_law_take" "_law_take" s_law_take f fd) (T : Txt K mg) : FnOk P w K mg base CX0 1 f fd ["jar", "total"] (spV K mg 2 f_law_take) :=
  fn_ok (N := ["jar", "total", "found", "one", "two"]) (k := 0) (m := m_law_take) F sc_law_take fun cdv A outer s H E hr =>
  (vs_cons (vs_if (vt_op oc_gt (ve_ix (ve_var 0) ve_int) ve_int) (vs_cons (vs_asg (ve_frz (ve_op ox_mod (ve_callTy cx_int T.b_int (va_cons (ve_ix (ve_var 0) ve_int) va_nil)) (ve_var 1))) (vg_name 2 sc_law_take.nd))
  (vs_cons (vs_asg (ve_frz (ve_op ox_fdiv (ve_ix (ve_var 0) ve_int) (ve_var 1))) (vg_sub (ve_var 0) ve_int))
  (vs_one (vs_ret (ve_frz (ve_var 2)))))) vs_nil)
  (vs_cons (vs_asg (ve_frz (ve_op ox_add (ve_ix (ve_var 0) ve_int) ve_int)) (vg_sub (ve_var 0) ve_int))
  (vs_cons (vs_asg (ve_frz (ve_op ox_mod (ve_callTy cx_int T.b_int (va_cons (ve_op ox_add (ve_ix (ve_var 0) ve_int) (ve_op ox_mul ve_int (ve_ix (ve_var 0) ve_int))) va_nil)) ve_int)) (vg_name 3 sc_law_take.nd))
  (vs_cons (vs_asg (ve_frz (ve_op ox_add (ve_op ox_mul (ve_op ox_mod (ve_callTy cx_int T.b_int (va_cons (ve_op ox_add (ve_op ox_mul (ve_var 3) (ve_var 3)) (ve_op ox_mul ve_int (ve_ix (ve_var 0) ve_int))) va_nil)) ve_int) ve_int) (ve_var 3))) (vg_name 4 sc_law_take.nd))
  (vs_one (vs_ret (ve_frz (ve_op ox_mod (ve_callTy cx_int T.b_int (va_cons (ve_op ox_fdiv (ve_var 4) ve_int) va_nil)) (ve_var 1)))))))))
abbrev s_law_choice : Stmt := top 26
/- _law_choice: 0 jar, 1 items | inout [1, 0] fresh 0 level 2 -/
def m_law_choice : MS :=
  (mRet (mFrz (mBin ixD (mVar 1) (mCall [true, false] f_law_take (mCons (mVar 0) (mCons (mFrz (mCallB lenD (mCons (mVar 1) mNil))) mNil))))))
def f_law_choice : Sem' := defOf 2 2 m_law_choice
theorem sc_law_choice : FnScope ["jar", "items"] ["jar", "items"] (defScope s_law_choice) := ⟨rfl, rfl, rfl, by decide +kernel, rfl, by decide +kernel, by decide +kernel⟩
theorem ok_law_choice {f : Addr} {fd : FuncData} (F : Fun K "_law_choice" "_law_choice" s_law_choice f fd) (T : Txt K mg) (G_law_take : GF P w K mg base "_law_take" 1 2 f_law_take) : FnOk P w K mg base CX0 2 f fd ["jar", "items"] (spV K mg 2 f_law_choice) :=
  fn_ok (N := ["jar", "items"]) (k := 1) (m := m_law_choice) F sc_law_choice fun cdv A outer s H E hr =>
  (vs_one (vs_ret (ve_frz (ve_ix (ve_var 1) (ve_callG [true, false] G_law_take hr (va_cons (ve_var 0) (va_cons (ve_frz (ve_callB cx_len T.b_len (va_cons (ve_var 1) va_nil))) va_nil)))))))
abbrev s_law_word : Stmt := top 27
/- _law_word: 0 jar, 1 least, 2 most, 3 letters, 4 size, 5 some, 6 found, 7 kind, 8 part, 9 at | inout [1, 0, 0, 0] fresh 0 level 3 -/
def c_law_word_1 : M :=
  (mLc [9] (miR1 (mCons (mVar 4) mNil)) (asgn 9) mYes (mCall [true, false] f_law_choice (mCons (mVar 0) (mCons (mFrz (mCallB listD2 (mCons (mVar 5) mNil))) mNil))))
def m_law_word : MS :=
  (mSeq (mAsg (mFrz (mBin addD (mVar 1) (mCall [true, false] f_law_take (mCons (mVar 0) (mCons (mFrz (mBin addD (mBin subD (mVar 2) (mVar 1)) (mC (.int 1)))) mNil))))) (asgn 4))
  (mSeq (mAsg (mFrz (mCall [true, false] f_law_choice (mCons (mVar 0) (mCons (mFrz (mList (mCons (mVar 3) (mCons (mSl (mVar 3) mPN (mPS (mC (.int 2)))) (mCons (mBin addD (mBin mulD (mSl (mVar 3) mPN (mPS (mC (.int 1)))) (mC (.int 3))) (mSl (mVar 3) (mPS (mC (.int 1))) (mPS (mC (.int 2))))) mNil))))) mNil)))) (asgn 5))
  (mSeq (mAsg (mFrz (mMeth "str" joinD (mC (.str [])) (mCons c_law_word_1 mNil))) (asgn 6))
  (mSeq (mAsg (mFrz (mCall [true, false] f_law_take (mCons (mVar 0) (mCons (mFrz (mC (.int 4))) mNil)))) (asgn 7))
  (mSeq (mIfS (mAnd (mCmp eqD (mVar 7) (mC (.int 0))) (mCmp gtD (mVar 4) (mC (.int 1)))) (mSeq (mAsg (mFrz (mSl (mVar 6) mPN (mPS (mBin addD (mC (.int 1)) (mCall [true, false] f_law_take (mCons (mVar 0) (mCons (mFrz (mBin fdivD (mVar 4) (mC (.int 2)))) mNil))))))) (asgn 8))
  (mAsg (mFrz (mSl (mBin mulD (mVar 8) (mVar 4)) mPN (mPS (mVar 4)))) (asgn 6))) mNext)
  (mSeq (mIfS (mCmp eqD (mVar 7) (mC (.int 1))) (mAsg (mFrz (mSl (mBin addD (mSl (mVar 6) mPN (mPS (mBin fdivD (mBin addD (mVar 4) (mC (.int 1))) (mC (.int 2))))) (mUn revD (mSl (mVar 6) mPN (mPS (mBin fdivD (mVar 4) (mC (.int 2))))))) mPN (mPS (mVar 4)))) (asgn 6)) mNext)
  (mRet (mFrz (mVar 6)))))))))
def f_law_word : Sem' := defOf 4 10 m_law_word
theorem sc_law_word : FnScope ["jar", "least", "most", "letters", "size", "some", "found", "kind", "part", "at"] ["jar", "least", "most", "letters"] (defScope s_law_word) := ⟨rfl, rfl, rfl, by decide +kernel, rfl, by decide +kernel, by decide +kernel⟩
theorem ok_law_word {f : Addr} {fd : FuncData} (F : Fun K "_law_word" "_law_word" s_law_word f fd) (T : Txt K mg) (G_law_take : GF P w K mg base "_law_take" 1 2 f_law_take) (G_law_choice : GF P w K mg base "_law_choice" 2 2 f_law_choice) : FnOk P w K mg base CX0 3 f fd ["jar", "least", "most", "letters"] (spV K mg 4 f_law_word) :=
  fn_ok (N := ["jar", "least", "most", "letters", "size", "some", "found", "kind", "part", "at"]) (k := 2) (m := m_law_word) F sc_law_word fun cdv A outer s H E hr =>
  (vs_cons (vs_asg (ve_frz (ve_op ox_add (ve_var 1) (ve_callG [true, false] G_law_take hr (va_cons (ve_var 0) (va_cons (ve_frz (ve_op ox_add (ve_op ox_sub (ve_var 2) (ve_var 1)) ve_int)) va_nil))))) (vg_name 4 sc_law_word.nd))
  (vs_cons (vs_asg (ve_frz (ve_callG [true, false] G_law_choice hr (va_cons (ve_var 0) (va_cons (ve_frz (ve_list (va_cons (ve_var 3) (va_cons (ve_slice (ve_var 3) vo_none (vo_some ve_int)) (va_cons (ve_op ox_add (ve_op ox_mul (ve_slice (ve_var 3) vo_none (vo_some ve_int)) ve_int) (ve_slice (ve_var 3) (vo_some ve_int) (vo_some ve_int))) va_nil))))) va_nil)))) (vg_name 5 sc_law_word.nd))
  (vs_cons (vs_asg (ve_frz (ve_meth mx_join PySem.F.plainAttrs_str PySem.F.slot_str_join PySem.F.type_str_join (ve_str []) (va_cons (ve_lcE (own := [("at", 9)]) rfl sc_law_word.nd (vi_range1 T.b_range (va_cons (ve_var 4) va_nil)) (blkOk_by (own := [("at", 9)]) (N := ["jar", "least", "most", "letters", "size", "some", "found", "kind", "part", "at"]) (sc := (defScope s_law_word)) (by decide +kernel)) (by decide) (fun _ _ _ _ _ => (vg_name 9 sc_law_word.nd)) (fun _ _ _ _ _ => vts_nil) (fun _ _ _ _ _ => (ve_callG [true, false] G_law_choice hr (va_cons (ve_var 0) (va_cons (ve_frz (ve_callTy (cx_list2 rfl) T.b_list (va_cons (ve_var 5) va_nil))) va_nil))))) va_nil))) (vg_name 6 sc_law_word.nd))
  (vs_cons (vs_asg (ve_frz (ve_callG [true, false] G_law_take hr (va_cons (ve_var 0) (va_cons (ve_frz ve_int) va_nil)))) (vg_name 7 sc_law_word.nd))
  (vs_cons (vs_if (vt_w (vw_and (vt_op (oc_eq (units64 hr)) (ve_var 7) ve_int) (vw_and1 (vt_op oc_gt (ve_var 4) ve_int)))) (vs_cons (vs_asg (ve_frz (ve_slice (ve_var 6) vo_none (vo_some (ve_op ox_add ve_int (ve_callG [true, false] G_law_take hr (va_cons (ve_var 0) (va_cons (ve_frz (ve_op ox_fdiv (ve_var 4) ve_int)) va_nil))))))) (vg_name 8 sc_law_word.nd))
  (vs_one (vs_asg (ve_frz (ve_slice (ve_op ox_mul (ve_var 8) (ve_var 4)) vo_none (vo_some (ve_var 4)))) (vg_name 6 sc_law_word.nd)))) vs_nil)
  (vs_cons (vs_if (vt_op (oc_eq (units64 hr)) (ve_var 7) ve_int) (vs_one (vs_asg (ve_frz (ve_slice (ve_op ox_add (ve_slice (ve_var 6) vo_none (vo_some (ve_op ox_fdiv (ve_op ox_add (ve_var 4) ve_int) ve_int))) (ve_rev (ve_slice (ve_var 6) vo_none (vo_some (ve_op ox_fdiv (ve_var 4) ve_int))))) vo_none (vo_some (ve_var 4)))) (vg_name 6 sc_law_word.nd))) vs_nil)
  (vs_one (vs_ret (ve_frz (ve_var 6))))))))))
abbrev s_christoffel_of : Stmt := top 10
/- christoffel_of: 0 x, 1 y, 2 size, 3 at | inout [0, 0] fresh 0 level 1 -/
def c_christoffel_of_1 : M :=
  (mLc [3] (miR1 (mCons (mVar 2) mNil)) (asgn 3) mYes (mIf (mCmp eqD (mBin subD (mBin fdivD (mBin mulD (mBin addD (mVar 3) (mC (.int 1))) (mVar 1)) (mVar 2)) (mBin fdivD (mBin mulD (mVar 3) (mVar 1)) (mVar 2))) (mC (.int 1))) (mC (.str [98])) (mC (.str [97]))))
def m_christoffel_of : MS :=
  (mSeq (mAsg (mFrz (mBin addD (mVar 0) (mVar 1))) (asgn 2))
  (mRet (mFrz (mMeth "str" joinD (mC (.str [])) (mCons c_christoffel_of_1 mNil)))))
def f_christoffel_of : Sem' := defOf 2 4 m_christoffel_of
theorem sc_christoffel_of : FnScope ["x", "y", "size", "at"] ["x", "y"] (defScope s_christoffel_of) := ⟨rfl, rfl, rfl, by decide +kernel, rfl, by decide +kernel, by decide +kernel⟩
theorem ok_christoffel_of {f : Addr} {fd : FuncData} (F : Fun K "christoffel_of" "christoffel_of" s_christoffel_of f fd) (T : Txt K mg) : FnOk P w K mg base CX0 1 f fd ["x", "y"] (spV K mg 2 f_christoffel_of) :=
  fn_ok (N := ["x", "y", "size", "at"]) (k := 0) (m := m_christoffel_of) F sc_christoffel_of fun cdv A outer s H E hr =>
  (vs_cons (vs_asg (ve_frz (ve_op ox_add (ve_var 0) (ve_var 1))) (vg_name 2 sc_christoffel_of.nd))
  (vs_one (vs_ret (ve_frz (ve_meth mx_join PySem.F.plainAttrs_str PySem.F.slot_str_join PySem.F.type_str_join (ve_str []) (va_cons (ve_lcE (own := [("at", 3)]) rfl sc_christoffel_of.nd (vi_range1 T.b_range (va_cons (ve_var 2) va_nil)) (blkOk_by (own := [("at", 3)]) (N := ["x", "y", "size", "at"]) (sc := (defScope s_christoffel_of)) (by decide +kernel)) (by decide) (fun _ _ _ _ _ => (vg_name 3 sc_christoffel_of.nd)) (fun _ _ _ _ _ => vts_nil) (fun _ _ _ _ _ => (ve_if (vt_op (oc_eq (units64 hr)) (ve_op ox_sub (ve_op ox_fdiv (ve_op ox_mul (ve_op ox_add (ve_var 3) ve_int) (ve_var 1)) (ve_var 2)) (ve_op ox_fdiv (ve_op ox_mul (ve_var 3) (ve_var 1)) (ve_var 2))) ve_int) (ve_str [98]) (ve_str [97])))) va_nil))))))
abbrev s_greatest_shared : Stmt := top 8
/- greatest_shared: 0 one, 1 other | inout [0, 0] fresh 0 level 1 -/
def b_greatest_shared_1 : MS :=
  (mPar 0 1 (mCons (mVar 1) (mCons (mBin modD (mVar 0) (mVar 1)) mNil)))
def t_greatest_shared_1 : MB :=
  (mCmp gtD (mVar 1) (mC (.int 0)))
def m_greatest_shared : MS :=
  (mSeq (mWhile fuel t_greatest_shared_1 b_greatest_shared_1)
  (mRet (mFrz (mVar 0))))
def f_greatest_shared : Sem' := defOf 2 2 m_greatest_shared
theorem sc_greatest_shared : FnScope ["one", "other"] ["one", "other"] (defScope s_greatest_shared) := ⟨rfl, rfl, rfl, by decide +kernel, rfl, by decide +kernel, by decide +kernel⟩
theorem ok_greatest_shared {f : Addr} {fd : FuncData} (F : Fun K "greatest_shared" "greatest_shared" s_greatest_shared f fd) (T : Txt K mg) : FnOk P w K mg base CX0 1 f fd ["one", "other"] (spV K mg 2 f_greatest_shared) :=
  fn_ok (N := ["one", "other"]) (k := 0) (m := m_greatest_shared) F sc_greatest_shared fun cdv A outer s H E hr =>
  (vs_cons (vs_while fuel PassesOwn.never (vt_op oc_gt (ve_var 1) ve_int) (vs_one (vs_par (i := 0) (j := 1) rfl sc_greatest_shared.nd (va_cons (ve_var 1) (va_cons (ve_op ox_mod (ve_var 0) (ve_var 1)) va_nil)))))
  (vs_one (vs_ret (ve_frz (ve_var 0)))))
abbrev s_are_apart : Stmt := top 9
/- are_apart: 0 x, 1 y | inout [0, 0] fresh 0 level 2 -/
def m_are_apart : MS :=
  (mRet (mFrz (mOfB (mCmp eqD (mCall [false, false] f_greatest_shared (mCons (mFrz (mVar 0)) (mCons (mFrz (mVar 1)) mNil))) (mC (.int 1))))))
def f_are_apart : Sem' := defOf 2 2 m_are_apart
theorem sc_are_apart : FnScope ["x", "y"] ["x", "y"] (defScope s_are_apart) := ⟨rfl, rfl, rfl, by decide +kernel, rfl, by decide +kernel, by decide +kernel⟩
theorem ok_are_apart {f : Addr} {fd : FuncData} (F : Fun K "are_apart" "are_apart" s_are_apart f fd) (T : Txt K mg) (G_greatest_shared : GF P w K mg base "greatest_shared" 1 2 f_greatest_shared) : FnOk P w K mg base CX0 2 f fd ["x", "y"] (spV K mg 2 f_are_apart) :=
  fn_ok (N := ["x", "y"]) (k := 1) (m := m_are_apart) F sc_are_apart fun cdv A outer s H E hr =>
  (vs_one (vs_ret (ve_frz (ve_opc (oc_eq (units64 hr)) (ve_callG [false, false] G_greatest_shared hr (va_cons (ve_frz (ve_var 0)) (va_cons (ve_frz (ve_var 1)) va_nil))) ve_int))))
abbrev s_is_even_number : Stmt := top 6
/- is_even_number: 0 value | inout [0] fresh 0 level 1 -/
def m_is_even_number : MS :=
  (mRet (mFrz (mOfB (mAnd (mTest (mCallB isiD (mCons (mVar 0) (mCons (mC (.ty "int")) mNil)))) (mNot (mTest (mCallB isiD (mCons (mVar 0) (mCons (mC (.ty "bool")) mNil)))))))))
def f_is_even_number : Sem' := defOf 1 1 m_is_even_number
theorem sc_is_even_number : FnScope ["value"] ["value"] (defScope s_is_even_number) := ⟨rfl, rfl, rfl, by decide +kernel, rfl, by decide +kernel, by decide +kernel⟩
theorem ok_is_even_number {f : Addr} {fd : FuncData} (F : Fun K "is_even_number" "is_even_number" s_is_even_number f fd) (T : Txt K mg) : FnOk P w K mg base CX0 1 f fd ["value"] (spV K mg 1 f_is_even_number) :=
  fn_ok (N := ["value"]) (k := 0) (m := m_is_even_number) F sc_is_even_number fun cdv A outer s H E hr =>
  (vs_one (vs_ret (ve_frz (ve_and (ve_ofTest (ve_callB cx_isi T.b_isinstance (va_cons (ve_var 0) (va_cons (ve_ty "int" T.b_int) va_nil)))) (ve_one (ve_not (ve_ofTest (ve_callB cx_isi T.b_isinstance (va_cons (ve_var 0) (va_cons (ve_ty "bool" T.b_bool) va_nil))))))))))
abbrev s_need_even_number : Stmt := top 16
/- need_even_number: 0 number, 1 most | inout [0, 0] fresh 0 level 2 -/
def m_need_even_number : MS :=
  (mIfS (mOr (mNot (mTest (mCall [false] f_is_even_number (mCons (mFrz (mVar 0)) mNil)))) (mNot (mChain leD leD (mC (.int 0)) (mVar 0) (mVar 1)))) mNever mNext)
def f_need_even_number : Sem' := defOf 2 2 m_need_even_number
theorem sc_need_even_number : FnScope ["number", "most"] ["number", "most"] (defScope s_need_even_number) := ⟨rfl, rfl, rfl, by decide +kernel, rfl, by decide +kernel, by decide +kernel⟩
theorem ok_need_even_number {f : Addr} {fd : FuncData} (F : Fun K "need_even_number" "need_even_number" s_need_even_number f fd) (T : Txt K mg) (G_is_even_number : GF P w K mg base "is_even_number" 1 1 f_is_even_number) : FnOk P w K mg base CX0 2 f fd ["number", "most"] (spV K mg 2 f_need_even_number) :=
  fn_ok (N := ["number", "most"]) (k := 1) (m := m_need_even_number) F sc_need_even_number fun cdv A outer s H E hr =>
  (vs_one (vs_if (vt_w (vw_or (vt_not (vt_val (ve_callG [false] G_is_even_number hr (va_cons (ve_frz (ve_var 0)) va_nil)))) (vw_or1 (vt_not (vt_chain oc_le oc_le ve_int (ve_var 0) (ve_var 1)))))) (vs_one vs_never) vs_nil))
abbrev s_need_pair : Stmt := top 17
/- need_pair: 0 x, 1 y | inout [0, 0] fresh 0 level 3 -/
def m_need_pair : MS :=
  (mSeq (mDrop (mCall [false, false] f_need_even_number (mCons (mFrz (mVar 0)) (mCons (mFrz (mC (.int 40))) mNil))))
  (mSeq (mDrop (mCall [false, false] f_need_even_number (mCons (mFrz (mVar 1)) (mCons (mFrz (mC (.int 40))) mNil))))
  (mIfS (mOr (mCmp gtD (mBin addD (mVar 0) (mVar 1)) (mC (.int 40))) (mNot (mTest (mCall [false, false] f_are_apart (mCons (mFrz (mVar 0)) (mCons (mFrz (mVar 1)) mNil)))))) mNever mNext)))
def f_need_pair : Sem' := defOf 2 2 m_need_pair
theorem sc_need_pair : FnScope ["x", "y"] ["x", "y"] (defScope s_need_pair) := ⟨rfl, rfl, rfl, by decide +kernel, rfl, by decide +kernel, by decide +kernel⟩
theorem ok_need_pair {f : Addr} {fd : FuncData} (F : Fun K "need_pair" "need_pair" s_need_pair f fd) (T : Txt K mg) (G_need_even_number : GF P w K mg base "need_even_number" 2 2 f_need_even_number) (G_are_apart : GF P w K mg base "are_apart" 2 2 f_are_apart) : FnOk P w K mg base CX0 3 f fd ["x", "y"] (spV K mg 2 f_need_pair) :=
  fn_ok (N := ["x", "y"]) (k := 2) (m := m_need_pair) F sc_need_pair fun cdv A outer s H E hr =>
  (vs_cons (vs_expr (ve_callG [false, false] G_need_even_number hr (va_cons (ve_frz (ve_var 0)) (va_cons (ve_frz (ve_gint T.c_MOST_EVEN.choose_spec)) va_nil))))
  (vs_cons (vs_expr (ve_callG [false, false] G_need_even_number hr (va_cons (ve_frz (ve_var 1)) (va_cons (ve_frz (ve_gint T.c_MOST_EVEN.choose_spec)) va_nil))))
  (vs_one (vs_if (vt_w (vw_or (vt_op oc_gt (ve_op ox_add (ve_var 0) (ve_var 1)) (ve_gint T.c_MOST_EVEN.choose_spec)) (vw_or1 (vt_not (vt_val (ve_callG [false, false] G_are_apart hr (va_cons (ve_frz (ve_var 0)) (va_cons (ve_frz (ve_var 1)) va_nil)))))))) (vs_one vs_never) vs_nil))))
abbrev s_central_of : Stmt := top 22
/- central_of: 0 x, 1 y | inout [0, 0] fresh 0 level 4 -/
def m_central_of : MS :=
  (mSeq (mDrop (mCall [false, false] f_need_pair (mCons (mFrz (mVar 0)) (mCons (mFrz (mVar 1)) mNil))))
  (mSeq (mIfS (mOr (mCmp eqD (mVar 0) (mC (.int 0))) (mCmp eqD (mVar 1) (mC (.int 0)))) mNever mNext)
  (mRet (mFrz (mSl (mCall [false, false] f_christoffel_of (mCons (mFrz (mVar 0)) (mCons (mFrz (mVar 1)) mNil))) (mPS (mC (.int 1))) (mPS (mUn negD (mC (.int 1)))))))))
def f_central_of : Sem' := defOf 2 2 m_central_of
theorem sc_central_of : FnScope ["x", "y"] ["x", "y"] (defScope s_central_of) := ⟨rfl, rfl, rfl, by decide +kernel, rfl, by decide +kernel, by decide +kernel⟩
theorem ok_central_of {f : Addr} {fd : FuncData} (F : Fun K "central_of" "central_of" s_central_of f fd) (T : Txt K mg) (G_need_pair : GF P w K mg base "need_pair" 3 2 f_need_pair) (G_christoffel_of : GF P w K mg base "christoffel_of" 1 2 f_christoffel_of) : FnOk P w K mg base CX0 4 f fd ["x", "y"] (spV K mg 2 f_central_of) :=
  fn_ok (N := ["x", "y"]) (k := 3) (m := m_central_of) F sc_central_of fun cdv A outer s H E hr =>
  (vs_cons (vs_expr (ve_callG [false, false] G_need_pair hr (va_cons (ve_frz (ve_var 0)) (va_cons (ve_frz (ve_var 1)) va_nil))))
  (vs_cons (vs_if (vt_w (vw_or (vt_op (oc_eq (units64 hr)) (ve_var 0) ve_int) (vw_or1 (vt_op (oc_eq (units64 hr)) (ve_var 1) ve_int)))) (vs_one vs_never) vs_nil)
  (vs_one (vs_ret (ve_frz (ve_slice (ve_callG [false, false] G_christoffel_of hr (va_cons (ve_frz (ve_var 0)) (va_cons (ve_frz (ve_var 1)) va_nil))) (vo_some ve_int) (vo_some (ve_neg ve_int))))))))
abbrev s_christoffel : Stmt := top 18
/- christoffel: 0 x, 1 y | inout [0, 0] fresh 0 level 4 -/
def m_christoffel : MS :=
  (mSeq (mDrop (mCall [false, false] f_need_pair (mCons (mFrz (mVar 0)) (mCons (mFrz (mVar 1)) mNil))))
  (mRet (mFrz (mCall [false, false] f_christoffel_of (mCons (mFrz (mVar 0)) (mCons (mFrz (mVar 1)) mNil))))))
def f_christoffel : Sem' := defOf 2 2 m_christoffel
theorem sc_christoffel : FnScope ["x", "y"] ["x", "y"] (defScope s_christoffel) := ⟨rfl, rfl, rfl, by decide +kernel, rfl, by decide +kernel, by decide +kernel⟩
theorem ok_christoffel {f : Addr} {fd : FuncData} (F : Fun K "christoffel" "christoffel" s_christoffel f fd) (T : Txt K mg) (G_need_pair : GF P w K mg base "need_pair" 3 2 f_need_pair) (G_christoffel_of : GF P w K mg base "christoffel_of" 1 2 f_christoffel_of) : FnOk P w K mg base CX0 4 f fd ["x", "y"] (spV K mg 2 f_christoffel) :=
  fn_ok (N := ["x", "y"]) (k := 3) (m := m_christoffel) F sc_christoffel fun cdv A outer s H E hr =>
  (vs_cons (vs_expr (ve_callG [false, false] G_need_pair hr (va_cons (ve_frz (ve_var 0)) (va_cons (ve_frz (ve_var 1)) va_nil))))
  (vs_one (vs_ret (ve_frz (ve_callG [false, false] G_christoffel_of hr (va_cons (ve_frz (ve_var 0)) (va_cons (ve_frz (ve_var 1)) va_nil)))))))
abbrev s_has_step : Stmt := top 13
/- has_step: 0 word, 1 step, 2 at | inout [0, 0] fresh 0 level 1 -/
def c_has_step_1 : M :=
  (mLc [2] (miR1 (mCons (mBin subD (mCallB lenD (mCons (mVar 0) mNil)) (mVar 1)) mNil)) (asgn 2) mYes (mOfB (mCmp eqD (mBin ixD (mVar 0) (mVar 2)) (mBin ixD (mVar 0) (mBin addD (mVar 2) (mVar 1))))))
def m_has_step : MS :=
  (mRet (mFrz (mCallB allD (mCons c_has_step_1 mNil))))
def f_has_step : Sem' := defOf 2 3 m_has_step
theorem sc_has_step : FnScope ["word", "step", "at"] ["word", "step"] (defScope s_has_step) := ⟨rfl, rfl, rfl, by decide +kernel, rfl, by decide +kernel, by decide +kernel⟩
theorem ok_has_step {f : Addr} {fd : FuncData} (F : Fun K "has_step" "has_step" s_has_step f fd) (T : Txt K mg) : FnOk P w K mg base CX0 1 f fd ["word", "step"] (spV K mg 2 f_has_step) :=
  fn_ok (N := ["word", "step", "at"]) (k := 0) (m := m_has_step) F sc_has_step fun cdv A outer s H E hr =>
  (vs_one (vs_ret (ve_frz (ve_callB (cx_all rfl) T.b_all (va_cons (ve_lcE (own := [("at", 2)]) rfl sc_has_step.nd (vi_range1 T.b_range (va_cons (ve_op ox_sub (ve_callB cx_len T.b_len (va_cons (ve_var 0) va_nil)) (ve_var 1)) va_nil)) (blkOk_by (own := [("at", 2)]) (N := ["word", "step", "at"]) (sc := (defScope s_has_step)) (by decide +kernel)) (by decide) (fun _ _ _ _ _ => (vg_name 2 sc_has_step.nd)) (fun _ _ _ _ _ => vts_nil) (fun _ _ _ _ _ => (ve_opc (oc_eq (units64 hr)) (ve_ix (ve_var 0) (ve_var 2)) (ve_ix (ve_var 0) (ve_op ox_add (ve_var 2) (ve_var 1)))))) va_nil)))))
abbrev s_is_central_word : Stmt := top 14
/- is_central_word: 0 word, 1 size, 2 some, 3 p | inout [0] fresh 0 level 2 -/
def c_is_central_word_1 : M :=
  (mLc [3] (miR2 (mCons (mC (.int 1)) (mCons (mVar 1) mNil))) (asgn 3) (mCmp eqD (mCall [false, false] f_greatest_shared (mCons (mFrz (mVar 3)) (mCons (mFrz (mBin subD (mVar 1) (mVar 3))) mNil))) (mC (.int 1))) (mVar 3))
def c_is_central_word_2 : M :=
  (mLc [3] (miSeq (mVar 2)) (asgn 3) mYes (mOfB (mAnd (mTest (mCall [false, false] f_has_step (mCons (mFrz (mVar 0)) (mCons (mFrz (mVar 3)) mNil)))) (mTest (mCall [false, false] f_has_step (mCons (mFrz (mVar 0)) (mCons (mFrz (mBin subD (mVar 1) (mVar 3))) mNil)))))))
def m_is_central_word : MS :=
  (mSeq (mAsg (mFrz (mBin addD (mCallB lenD (mCons (mVar 0) mNil)) (mC (.int 2)))) (asgn 1))
  (mSeq (mAsg (mFrz c_is_central_word_1) (asgn 2))
  (mRet (mFrz (mCallB anyD (mCons c_is_central_word_2 mNil))))))
def f_is_central_word : Sem' := defOf 1 4 m_is_central_word
theorem sc_is_central_word : FnScope ["word", "size", "some", "p"] ["word"] (defScope s_is_central_word) := ⟨rfl, rfl, rfl, by decide +kernel, rfl, by decide +kernel, by decide +kernel⟩
theorem ok_is_central_word {f : Addr} {fd : FuncData} (F : Fun K "is_central_word" "is_central_word" s_is_central_word f fd) (T : Txt K mg) (G_greatest_shared : GF P w K mg base "greatest_shared" 1 2 f_greatest_shared) (G_has_step : GF P w K mg base "has_step" 1 2 f_has_step) : FnOk P w K mg base CX0 2 f fd ["word"] (spV K mg 1 f_is_central_word) :=
  fn_ok (N := ["word", "size", "some", "p"]) (k := 1) (m := m_is_central_word) F sc_is_central_word fun cdv A outer s H E hr =>
  (vs_cons (vs_asg (ve_frz (ve_op ox_add (ve_callB cx_len T.b_len (va_cons (ve_var 0) va_nil)) ve_int)) (vg_name 1 sc_is_central_word.nd))
  (vs_cons (vs_asgF (vs_setLc (i := 2) (own := [("p", 3)]) rfl sc_is_central_word.nd (vi_range2 T.b_range (va_cons ve_int (va_cons (ve_var 1) va_nil))) (blkOk_by (own := [("p", 3)]) (N := ["word", "size", "some", "p"]) (sc := (defScope s_is_central_word)) (by decide +kernel)) (by decide) (fun _ _ _ _ _ => (vg_name 3 sc_is_central_word.nd)) (fun _ _ _ _ _ => (vts_one (vt_op (oc_eq (units64 hr)) (ve_callG [false, false] G_greatest_shared hr (va_cons (ve_frz (ve_var 3)) (va_cons (ve_frz (ve_op ox_sub (ve_var 1) (ve_var 3))) va_nil))) ve_int))) (fun _ _ _ _ _ => (ve_var 3))))
  (vs_one (vs_ret (ve_frz (ve_callB (cx_any rfl) T.b_any (va_cons (ve_lcE (own := [("p", 3)]) rfl sc_is_central_word.nd (vi_seq (ve_var 2)) (blkOk_by (own := [("p", 3)]) (N := ["word", "size", "some", "p"]) (sc := (defScope s_is_central_word)) (by decide +kernel)) (by decide) (fun _ _ _ _ _ => (vg_name 3 sc_is_central_word.nd)) (fun _ _ _ _ _ => vts_nil) (fun _ _ _ _ _ => (ve_and (ve_ofTest (ve_callG [false, false] G_has_step hr (va_cons (ve_frz (ve_var 0)) (va_cons (ve_frz (ve_var 3)) va_nil)))) (ve_one (ve_ofTest (ve_callG [false, false] G_has_step hr (va_cons (ve_frz (ve_var 0)) (va_cons (ve_frz (ve_op ox_sub (ve_var 1) (ve_var 3))) va_nil)))))))) va_nil)))))))
abbrev s_is_two_word : Stmt := top 7
/- is_two_word: 0 value, 1 sign | inout [0] fresh 0 level 1 -/
def c_is_two_word_1 : M :=
  (mLc [1] (miSeq (mVar 0)) (asgn 1) mYes (mOfB (mCmp inD (mVar 1) (mC (.str [97, 98])))))
def m_is_two_word : MS :=
  (mRet (mFrz (mOfB (mAnd (mTest (mCallB isiD (mCons (mVar 0) (mCons (mC (.ty "str")) mNil)))) (mAnd (mCmp leD (mCallB lenD (mCons (mVar 0) mNil)) (mC (.int 40))) (mTest (mCallB allD (mCons c_is_two_word_1 mNil))))))))
def f_is_two_word : Sem' := defOf 1 2 m_is_two_word
theorem sc_is_two_word : FnScope ["value", "sign"] ["value"] (defScope s_is_two_word) := ⟨rfl, rfl, rfl, by decide +kernel, rfl, by decide +kernel, by decide +kernel⟩
theorem ok_is_two_word {f : Addr} {fd : FuncData} (F : Fun K "is_two_word" "is_two_word" s_is_two_word f fd) (T : Txt K mg) : FnOk P w K mg base CX0 1 f fd ["value"] (spV K mg 1 f_is_two_word) :=
  fn_ok (N := ["value", "sign"]) (k := 0) (m := m_is_two_word) F sc_is_two_word fun cdv A outer s H E hr =>
  (vs_one (vs_ret (ve_frz (ve_and (ve_ofTest (ve_callB cx_isi T.b_isinstance (va_cons (ve_var 0) (va_cons (ve_ty "str" T.b_str) va_nil)))) (ve_and (ve_opc oc_le (ve_callB cx_len T.b_len (va_cons (ve_var 0) va_nil)) (ve_gint T.c_MOST_EVEN.choose_spec)) (ve_one (ve_ofTest (ve_callB (cx_all rfl) T.b_all (va_cons (ve_lcE (own := [("sign", 1)]) rfl sc_is_two_word.nd (vi_seq (ve_var 0)) (blkOk_by (own := [("sign", 1)]) (N := ["value", "sign"]) (sc := (defScope s_is_two_word)) (by decide +kernel)) (by decide) (fun _ _ _ _ _ => (vg_name 1 sc_is_two_word.nd)) (fun _ _ _ _ _ => vts_nil) (fun _ _ _ _ _ => (ve_opc (oc_in (units65 hr)) (ve_var 1) (ve_str [97, 98])))) va_nil)))))))))
abbrev s_need_two_word : Stmt := top 15
/- need_two_word: 0 word | inout [0] fresh 0 level 2 -/
def m_need_two_word : MS :=
  (mIfS (mNot (mTest (mCall [false] f_is_two_word (mCons (mFrz (mVar 0)) mNil)))) mNever mNext)
def f_need_two_word : Sem' := defOf 1 1 m_need_two_word
theorem sc_need_two_word : FnScope ["word"] ["word"] (defScope s_need_two_word) := ⟨rfl, rfl, rfl, by decide +kernel, rfl, by decide +kernel, by decide +kernel⟩
theorem ok_need_two_word {f : Addr} {fd : FuncData} (F : Fun K "need_two_word" "need_two_word" s_need_two_word f fd) (T : Txt K mg) (G_is_two_word : GF P w K mg base "is_two_word" 1 1 f_is_two_word) : FnOk P w K mg base CX0 2 f fd ["word"] (spV K mg 1 f_need_two_word) :=
  fn_ok (N := ["word"]) (k := 1) (m := m_need_two_word) F sc_need_two_word fun cdv A outer s H E hr =>
  (vs_one (vs_if (vt_not (vt_val (ve_callG [false] G_is_two_word hr (va_cons (ve_frz (ve_var 0)) va_nil)))) (vs_one vs_never) vs_nil))
abbrev s_is_central : Stmt := top 21
/- is_central: 0 word | inout [0] fresh 0 level 3 -/
def m_is_central : MS :=
  (mSeq (mDrop (mCall [false] f_need_two_word (mCons (mFrz (mVar 0)) mNil)))
  (mRet (mFrz (mCall [false] f_is_central_word (mCons (mFrz (mVar 0)) mNil)))))
def f_is_central : Sem' := defOf 1 1 m_is_central
theorem sc_is_central : FnScope ["word"] ["word"] (defScope s_is_central) := ⟨rfl, rfl, rfl, by decide +kernel, rfl, by decide +kernel, by decide +kernel⟩
theorem ok_is_central {f : Addr} {fd : FuncData} (F : Fun K "is_central" "is_central" s_is_central f fd) (T : Txt K mg) (G_need_two_word : GF P w K mg base "need_two_word" 2 1 f_need_two_word) (G_is_central_word : GF P w K mg base "is_central_word" 2 1 f_is_central_word) : FnOk P w K mg base CX0 3 f fd ["word"] (spV K mg 1 f_is_central) :=
  fn_ok (N := ["word"]) (k := 2) (m := m_is_central) F sc_is_central fun cdv A outer s H E hr =>
  (vs_cons (vs_expr (ve_callG [false] G_need_two_word hr (va_cons (ve_frz (ve_var 0)) va_nil)))
  (vs_one (vs_ret (ve_frz (ve_callG [false] G_is_central_word hr (va_cons (ve_frz (ve_var 0)) va_nil))))))
abbrev s_is_christoffel_word : Stmt := top 11
/- is_christoffel_word: 0 word, 1 x, 2 y | inout [0] fresh 0 level 3 -/
def m_is_christoffel_word : MS :=
  (mSeq (mPar 1 2 (mCons (mMeth "str" (g1S fun s t => .int (countS s t)) (mVar 0) (mCons (mC (.str [97])) mNil)) (mCons (mMeth "str" (g1S fun s t => .int (countS s t)) (mVar 0) (mCons (mC (.str [98])) mNil)) mNil)))
  (mRet (mFrz (mOfB (mAnd (mTest (mCall [false, false] f_are_apart (mCons (mFrz (mVar 1)) (mCons (mFrz (mVar 2)) mNil)))) (mCmp eqD (mCall [false, false] f_christoffel_of (mCons (mFrz (mVar 1)) (mCons (mFrz (mVar 2)) mNil))) (mVar 0)))))))
def f_is_christoffel_word : Sem' := defOf 1 3 m_is_christoffel_word
theorem sc_is_christoffel_word : FnScope ["word", "x", "y"] ["word"] (defScope s_is_christoffel_word) := ⟨rfl, rfl, rfl, by decide +kernel, rfl, by decide +kernel, by decide +kernel⟩
theorem ok_is_christoffel_word {f : Addr} {fd : FuncData} (F : Fun K "is_christoffel_word" "is_christoffel_word" s_is_christoffel_word f fd) (T : Txt K mg) (G_are_apart : GF P w K mg base "are_apart" 2 2 f_are_apart) (G_christoffel_of : GF P w K mg base "christoffel_of" 1 2 f_christoffel_of) : FnOk P w K mg base CX0 3 f fd ["word"] (spV K mg 1 f_is_christoffel_word) :=
  fn_ok (N := ["word", "x", "y"]) (k := 2) (m := m_is_christoffel_word) F sc_is_christoffel_word fun cdv A outer s H E hr =>
  (vs_cons (vs_par (i := 1) (j := 2) rfl sc_is_christoffel_word.nd (va_cons (ve_meth mx_count PySem.F.plainAttrs_str PySem.F.slot_str_count PySem.F.type_str_count (ve_var 0) (va_cons (ve_str [97]) va_nil)) (va_cons (ve_meth mx_count PySem.F.plainAttrs_str PySem.F.slot_str_count PySem.F.type_str_count (ve_var 0) (va_cons (ve_str [98]) va_nil)) va_nil)))
  (vs_one (vs_ret (ve_frz (ve_and (ve_ofTest (ve_callG [false, false] G_are_apart hr (va_cons (ve_frz (ve_var 1)) (va_cons (ve_frz (ve_var 2)) va_nil)))) (ve_one (ve_opc (oc_eq (units64 hr)) (ve_callG [false, false] G_christoffel_of hr (va_cons (ve_frz (ve_var 1)) (va_cons (ve_frz (ve_var 2)) va_nil))) (ve_var 0))))))))
abbrev s_is_christoffel : Stmt := top 19
/- is_christoffel: 0 word | inout [0] fresh 0 level 4 -/
def m_is_christoffel : MS :=
  (mSeq (mDrop (mCall [false] f_need_two_word (mCons (mFrz (mVar 0)) mNil)))
  (mRet (mFrz (mCall [false] f_is_christoffel_word (mCons (mFrz (mVar 0)) mNil)))))
def f_is_christoffel : Sem' := defOf 1 1 m_is_christoffel
theorem sc_is_christoffel : FnScope ["word"] ["word"] (defScope s_is_christoffel) := ⟨rfl, rfl, rfl, by decide +kernel, rfl, by decide +kernel, by decide +kernel⟩
theorem ok_is_christoffel {f : Addr} {fd : FuncData} (F : Fun K "is_christoffel" "is_christoffel" s_is_christoffel f fd) (T : Txt K mg) (G_need_two_word : GF P w K mg base "need_two_word" 2 1 f_need_two_word) (G_is_christoffel_word : GF P w K mg base "is_christoffel_word" 3 1 f_is_christoffel_word) : FnOk P w K mg base CX0 4 f fd ["word"] (spV K mg 1 f_is_christoffel) :=
  fn_ok (N := ["word"]) (k := 3) (m := m_is_christoffel) F sc_is_christoffel fun cdv A outer s H E hr =>
  (vs_cons (vs_expr (ve_callG [false] G_need_two_word hr (va_cons (ve_frz (ve_var 0)) va_nil)))
  (vs_one (vs_ret (ve_frz (ve_callG [false] G_is_christoffel_word hr (va_cons (ve_frz (ve_var 0)) va_nil))))))
abbrev s_parting_of : Stmt := top 12
/- parting_of: 0 word, 1 at | inout [0] fresh 0 level 4 -/
def b_parting_of_1 : MS :=
  (mIfS (mAnd (mTest (mCall [false] f_is_christoffel_word (mCons (mFrz (mSl (mVar 0) mPN (mPS (mVar 1)))) mNil))) (mTest (mCall [false] f_is_christoffel_word (mCons (mFrz (mSl (mVar 0) (mPS (mVar 1)) mPN)) mNil)))) (mRet (mFrz (mTup (mCons (mSl (mVar 0) mPN (mPS (mVar 1))) (mCons (mSl (mVar 0) (mPS (mVar 1)) mPN) mNil))))) mNext)
def m_parting_of : MS :=
  (mSeq (mFor (miR2 (mCons (mC (.int 1)) (mCons (mCallB lenD (mCons (mVar 0) mNil)) mNil))) (asgn 1) b_parting_of_1)
  (mRet (mFrz (mC .non))))
def f_parting_of : Sem' := defOf 1 2 m_parting_of
theorem sc_parting_of : FnScope ["word", "at"] ["word"] (defScope s_parting_of) := ⟨rfl, rfl, rfl, by decide +kernel, rfl, by decide +kernel, by decide +kernel⟩
theorem ok_parting_of {f : Addr} {fd : FuncData} (F : Fun K "parting_of" "parting_of" s_parting_of f fd) (T : Txt K mg) (G_is_christoffel_word : GF P w K mg base "is_christoffel_word" 3 1 f_is_christoffel_word) : FnOk P w K mg base CX0 4 f fd ["word"] (spV K mg 1 f_parting_of) :=
  fn_ok (N := ["word", "at"]) (k := 3) (m := m_parting_of) F sc_parting_of fun cdv A outer s H E hr =>
  (vs_cons (vs_for PassesOwn.never rfl (vi_range2 T.b_range (va_cons ve_int (va_cons (ve_callB cx_len T.b_len (va_cons (ve_var 0) va_nil)) va_nil))) (vg_name 1 sc_parting_of.nd) (vs_one (vs_if (vt_w (vw_and (vt_val (ve_callG [false] G_is_christoffel_word hr (va_cons (ve_frz (ve_slice (ve_var 0) vo_none (vo_some (ve_var 1)))) va_nil))) (vw_and1 (vt_val (ve_callG [false] G_is_christoffel_word hr (va_cons (ve_frz (ve_slice (ve_var 0) (vo_some (ve_var 1)) vo_none)) va_nil)))))) (vs_one (vs_ret (ve_frz (ve_tup (va_cons (ve_slice (ve_var 0) vo_none (vo_some (ve_var 1))) (va_cons (ve_slice (ve_var 0) (vo_some (ve_var 1)) vo_none) va_nil)))))) vs_nil)))
  (vs_one (vs_ret (ve_frz ve_non))))
abbrev s_parted_in_two : Stmt := top 20
/- parted_in_two: 0 word | inout [0] fresh 0 level 5 -/
def m_parted_in_two : MS :=
  (mSeq (mDrop (mCall [false] f_need_two_word (mCons (mFrz (mVar 0)) mNil)))
  (mSeq (mIfS (mOr (mCmp ltD (mCallB lenD (mCons (mVar 0) mNil)) (mC (.int 2))) (mNot (mTest (mCall [false] f_is_christoffel_word (mCons (mFrz (mVar 0)) mNil))))) mNever mNext)
  (mRet (mFrz (mCall [false] f_parting_of (mCons (mFrz (mVar 0)) mNil))))))
def f_parted_in_two : Sem' := defOf 1 1 m_parted_in_two
theorem sc_parted_in_two : FnScope ["word"] ["word"] (defScope s_parted_in_two) := ⟨rfl, rfl, rfl, by decide +kernel, rfl, by decide +kernel, by decide +kernel⟩
theorem ok_parted_in_two {f : Addr} {fd : FuncData} (F : Fun K "parted_in_two" "parted_in_two" s_parted_in_two f fd) (T : Txt K mg) (G_need_two_word : GF P w K mg base "need_two_word" 2 1 f_need_two_word) (G_is_christoffel_word : GF P w K mg base "is_christoffel_word" 3 1 f_is_christoffel_word) (G_parting_of : GF P w K mg base "parting_of" 4 1 f_parting_of) : FnOk P w K mg base CX0 5 f fd ["word"] (spV K mg 1 f_parted_in_two) :=
  fn_ok (N := ["word"]) (k := 4) (m := m_parted_in_two) F sc_parted_in_two fun cdv A outer s H E hr =>
  (vs_cons (vs_expr (ve_callG [false] G_need_two_word hr (va_cons (ve_frz (ve_var 0)) va_nil)))
  (vs_cons (vs_if (vt_w (vw_or (vt_op (oc_lt hr.units0) (ve_callB cx_len T.b_len (va_cons (ve_var 0) va_nil)) ve_int) (vw_or1 (vt_not (vt_val (ve_callG [false] G_is_christoffel_word hr (va_cons (ve_frz (ve_var 0)) va_nil))))))) (vs_one vs_never) vs_nil)
  (vs_one (vs_ret (ve_frz (ve_callG [false] G_parting_of hr (va_cons (ve_frz (ve_var 0)) va_nil)))))))
abbrev s_law_right : Stmt := top 34
/- _law_right: 0 jar, 1 x, 2 y, 3 part, 4 size, 5 word, 6 pairs, 7 middle, 8 turn, 9 some, 10 many, 11 at | inout [1] fresh 0 level 6 -/
def c_law_right_1 : M :=
  (mLc [11] (miR1 (mCons (mVar 4) mNil)) (asgn 11) mYes (mIf (mCmp eqD (mBin subD (mBin fdivD (mBin mulD (mBin addD (mVar 11) (mC (.int 1))) (mVar 2)) (mVar 4)) (mBin fdivD (mBin mulD (mVar 11) (mVar 2)) (mVar 4))) (mC (.int 1))) (mC (.str [98])) (mC (.str [97]))))
def c_law_right_2 : M :=
  (mLc [11] (miR2 (mCons (mC (.int 1)) (mCons (mVar 4) mNil))) (asgn 11) (mAnd (mTest (mCall [false] f_law_is_low (mCons (mFrz (mSl (mVar 5) mPN (mPS (mVar 11)))) mNil))) (mTest (mCall [false] f_law_is_low (mCons (mFrz (mSl (mVar 5) (mPS (mVar 11)) mPN)) mNil)))) (mTup (mCons (mSl (mVar 5) mPN (mPS (mVar 11))) (mCons (mSl (mVar 5) (mPS (mVar 11)) mPN) mNil))))
def c_law_right_3 : M :=
  (mLc [3] (miSeq (mBin ixD (mVar 6) (mC (.int 0)))) (asgn 3) (mNot (mTest (mCall [false, false] f_law_has_period (mCons (mFrz (mVar 7)) (mCons (mFrz (mCallB lenD (mCons (mVar 3) mNil))) mNil))))) (mCallB lenD (mCons (mVar 3) mNil)))
def b_law_right_1 : MS :=
  (mSeq (mAsg (mFrz (mCall [true, false, false, false] f_law_word (mCons (mVar 0) (mCons (mFrz (mC (.int 0))) (mCons (mFrz (mC (.int 9))) (mCons (mFrz (mC (.str [97, 98]))) mNil)))))) (asgn 9))
  (mIfS (mOr (mCmp neD (mCall [false] f_is_christoffel (mCons (mFrz (mVar 9)) mNil)) (mOfB (mAnd (mCmp neD (mVar 9) (mC (.str []))) (mTest (mCall [false] f_law_is_low (mCons (mFrz (mVar 9)) mNil)))))) (mCmp neD (mCall [false] f_is_central (mCons (mFrz (mVar 9)) mNil)) (mCall [false] f_law_is_middle (mCons (mFrz (mVar 9)) mNil)))) (mRet (mFrz (mC (.bl false)))) mNext))
def b_law_right_2 : MS :=
  (mSeq (mIfS (mOr (mCmp neD (mCall [false] f_is_central (mCons (mFrz (mVar 9)) mNil)) (mCall [false] f_law_is_middle (mCons (mFrz (mVar 9)) mNil))) (mCmp neD (mCall [false] f_is_christoffel (mCons (mFrz (mVar 9)) mNil)) (mOfB (mAnd (mCmp neD (mVar 9) (mC (.str []))) (mTest (mCall [false] f_law_is_low (mCons (mFrz (mVar 9)) mNil))))))) (mRet (mFrz (mC (.bl false)))) mNext)
  (mIfS (mCmp neD (mCall [false] f_is_central (mCons (mFrz (mVar 9)) mNil)) (mCall [false] f_is_christoffel (mCons (mFrz (mBin addD (mBin addD (mC (.str [97])) (mVar 9)) (mC (.str [98])))) mNil))) (mRet (mFrz (mC (.bl false)))) mNext))
def m_law_right : MS :=
  (mSeq (mAsg (mFrz (mTup (mCons (mCall [true, false] f_law_take (mCons (mVar 0) (mCons (mFrz (mC (.int 14))) mNil))) (mCons (mCall [true, false] f_law_take (mCons (mVar 0) (mCons (mFrz (mC (.int 14))) mNil))) mNil)))) (mgTup [(asgn 1), (asgn 2)]))
  (mSeq (mAsg (mFrz (mCallB maxD (mCons (mC (.int 1)) (mCons (mCall [false, false] f_law_divisor (mCons (mFrz (mVar 1)) (mCons (mFrz (mVar 2)) mNil))) mNil)))) (asgn 3))
  (mSeq (mAsg (mFrz (mTup (mCons (mBin fdivD (mVar 1) (mVar 3)) (mCons (mBin fdivD (mVar 2) (mVar 3)) mNil)))) (mgTup [(asgn 1), (asgn 2)]))
  (mSeq (mIfS (mCmp eqD (mBin addD (mVar 1) (mVar 2)) (mC (.int 0))) (mAsg (mFrz (mC (.int 1))) (asgn 1)) mNext)
  (mSeq (mAsg (mFrz (mBin addD (mVar 1) (mVar 2))) (asgn 4))
  (mSeq (mAsg (mFrz (mMeth "str" joinD (mC (.str [])) (mCons c_law_right_1 mNil))) (asgn 5))
  (mSeq (mIfS (mOr (mCmp neD (mCall [false, false] f_christoffel (mCons (mFrz (mVar 1)) (mCons (mFrz (mVar 2)) mNil))) (mVar 5)) (mOr (mCmp neD (mMeth "str" (g1S fun s t => .int (countS s t)) (mVar 5) (mCons (mC (.str [97])) mNil)) (mVar 1)) (mOr (mCmp (notD isD) (mCall [false] f_is_christoffel (mCons (mFrz (mVar 5)) mNil)) (mC (.bl true))) (mNot (mTest (mCall [false] f_law_is_low (mCons (mFrz (mVar 5)) mNil))))))) (mRet (mFrz (mC (.bl false)))) mNext)
  (mSeq (mIfS (mCmp gtD (mVar 4) (mC (.int 1))) (mSeq (mAsg (mFrz c_law_right_2) (asgn 6))
  (mSeq (mIfS (mOr (mCmp neD (mCallB lenD (mCons (mVar 6) mNil)) (mC (.int 1))) (mCmp neD (mCall [false] f_parted_in_two (mCons (mFrz (mVar 5)) mNil)) (mBin ixD (mVar 6) (mC (.int 0))))) (mRet (mFrz (mC (.bl false)))) mNext)
  (mSeq (mAsg (mFrz (mSl (mVar 5) (mPS (mC (.int 1))) (mPS (mUn negD (mC (.int 1)))))) (asgn 7))
  (mSeq (mIfS (mOr (mAnd (mCmp gtD (mVar 1) (mC (.int 0))) (mAnd (mCmp gtD (mVar 2) (mC (.int 0))) (mCmp neD (mCall [false, false] f_central_of (mCons (mFrz (mVar 1)) (mCons (mFrz (mVar 2)) mNil))) (mVar 7)))) (mCmp neD (mVar 7) (mUn revD (mVar 7)))) (mRet (mFrz (mC (.bl false)))) mNext)
  (mIfS (mOr (mCmp neD c_law_right_3 (mList mNil)) (mCmp (notD isD) (mCall [false] f_is_central (mCons (mFrz (mVar 7)) mNil)) (mC (.bl true)))) (mRet (mFrz (mC (.bl false)))) mNext))))) mNext)
  (mSeq (mFor (miR1 (mCons (mC (.int 6)) mNil)) (asgn 8) b_law_right_1)
  (mSeq (mAsg (mFrz (mCall [true, false] f_law_take (mCons (mVar 0) (mCons (mFrz (mC (.int 8))) mNil)))) (asgn 10))
  (mSeq (mFor (miSeq (mCall [false, false] f_law_all_words (mCons (mFrz (mC (.str [97, 98]))) (mCons (mFrz (mVar 10)) mNil)))) (asgn 9) b_law_right_2)
  (mRet (mFrz (mC (.bl true)))))))))))))))
def f_law_right : Sem' := defOf 1 12 m_law_right
theorem sc_law_right : FnScope ["jar", "x", "y", "part", "size", "word", "pairs", "middle", "turn", "some", "many", "at"] ["jar"] (defScope s_law_right) := ⟨rfl, rfl, rfl, by decide +kernel, rfl, by decide +kernel, by decide +kernel⟩
theorem ok_law_right {f : Addr} {fd : FuncData} (F : Fun K "_law_right" "_law_right" s_law_right f fd) (T : Txt K mg) (G_law_take : GF P w K mg base "_law_take" 1 2 f_law_take) (G_law_divisor : GF P w K mg base "_law_divisor" 1 2 f_law_divisor) (G_christoffel : GF P w K mg base "christoffel" 4 2 f_christoffel) (G_is_christoffel : GF P w K mg base "is_christoffel" 4 1 f_is_christoffel) (G_law_is_low : GF P w K mg base "_law_is_low" 2 1 f_law_is_low) (G_parted_in_two : GF P w K mg base "parted_in_two" 5 1 f_parted_in_two) (G_central_of : GF P w K mg base "central_of" 4 2 f_central_of) (G_law_has_period : GF P w K mg base "_law_has_period" 1 2 f_law_has_period) (G_is_central : GF P w K mg base "is_central" 3 1 f_is_central) (G_law_word : GF P w K mg base "_law_word" 3 4 f_law_word) (G_law_is_middle : GF P w K mg base "_law_is_middle" 2 1 f_law_is_middle) (G_law_all_words : GF P w K mg base "_law_all_words" 1 2 f_law_all_words) : FnOk P w K mg base CX0 6 f fd ["jar"] (spV K mg 1 f_law_right) :=
  fn_ok (N := ["jar", "x", "y", "part", "size", "word", "pairs", "middle", "turn", "some", "many", "at"]) (k := 5) (m := m_law_right) F sc_law_right fun cdv A outer s H E hr =>
  (vs_cons (vs_asg (ve_frz (ve_tup (va_cons (ve_callG [true, false] G_law_take hr (va_cons (ve_var 0) (va_cons (ve_frz ve_int) va_nil))) (va_cons (ve_callG [true, false] G_law_take hr (va_cons (ve_var 0) (va_cons (ve_frz ve_int) va_nil))) va_nil)))) (vg_tup rfl (vgs_cons (vg_name 1 sc_law_right.nd) (vgs_cons (vg_name 2 sc_law_right.nd) vgs_nil))))
  (vs_cons (vs_asg (ve_frz (ve_callB (cx_max rfl) T.b_max (va_cons ve_int (va_cons (ve_callG [false, false] G_law_divisor hr (va_cons (ve_frz (ve_var 1)) (va_cons (ve_frz (ve_var 2)) va_nil))) va_nil)))) (vg_name 3 sc_law_right.nd))
  (vs_cons (vs_asg (ve_frz (ve_tup (va_cons (ve_op ox_fdiv (ve_var 1) (ve_var 3)) (va_cons (ve_op ox_fdiv (ve_var 2) (ve_var 3)) va_nil)))) (vg_tup rfl (vgs_cons (vg_name 1 sc_law_right.nd) (vgs_cons (vg_name 2 sc_law_right.nd) vgs_nil))))
  (vs_cons (vs_if (vt_op (oc_eq (units64 hr)) (ve_op ox_add (ve_var 1) (ve_var 2)) ve_int) (vs_one (vs_asg (ve_frz ve_int) (vg_name 1 sc_law_right.nd))) vs_nil)
  (vs_cons (vs_asg (ve_frz (ve_op ox_add (ve_var 1) (ve_var 2))) (vg_name 4 sc_law_right.nd))
  (vs_cons (vs_asg (ve_frz (ve_meth mx_join PySem.F.plainAttrs_str PySem.F.slot_str_join PySem.F.type_str_join (ve_str []) (va_cons (ve_lcE (own := [("at", 11)]) rfl sc_law_right.nd (vi_range1 T.b_range (va_cons (ve_var 4) va_nil)) (blkOk_by (own := [("at", 11)]) (N := ["jar", "x", "y", "part", "size", "word", "pairs", "middle", "turn", "some", "many", "at"]) (sc := (defScope s_law_right)) (by decide +kernel)) (by decide) (fun _ _ _ _ _ => (vg_name 11 sc_law_right.nd)) (fun _ _ _ _ _ => vts_nil) (fun _ _ _ _ _ => (ve_if (vt_op (oc_eq (units64 hr)) (ve_op ox_sub (ve_op ox_fdiv (ve_op ox_mul (ve_op ox_add (ve_var 11) ve_int) (ve_var 2)) (ve_var 4)) (ve_op ox_fdiv (ve_op ox_mul (ve_var 11) (ve_var 2)) (ve_var 4))) ve_int) (ve_str [98]) (ve_str [97])))) va_nil))) (vg_name 5 sc_law_right.nd))
  (vs_cons (vs_if (vt_w (vw_or (vt_op (oc_ne (units64 hr)) (ve_callG [false, false] G_christoffel hr (va_cons (ve_frz (ve_var 1)) (va_cons (ve_frz (ve_var 2)) va_nil))) (ve_var 5)) (vw_or (vt_op (oc_ne (units64 hr)) (ve_meth mx_count PySem.F.plainAttrs_str PySem.F.slot_str_count PySem.F.type_str_count (ve_var 5) (va_cons (ve_str [97]) va_nil)) (ve_var 1)) (vw_or (vt_op oc_isNot (ve_callG [false] G_is_christoffel hr (va_cons (ve_frz (ve_var 5)) va_nil)) ve_bl) (vw_or1 (vt_not (vt_val (ve_callG [false] G_law_is_low hr (va_cons (ve_frz (ve_var 5)) va_nil))))))))) (vs_one (vs_ret (ve_frz ve_bl))) vs_nil)
  (vs_cons (vs_if (vt_op oc_gt (ve_var 4) ve_int) (vs_cons (vs_asgF (vs_setLc (i := 6) (own := [("at", 11)]) rfl sc_law_right.nd (vi_range2 T.b_range (va_cons ve_int (va_cons (ve_var 4) va_nil))) (blkOk_by (own := [("at", 11)]) (N := ["jar", "x", "y", "part", "size", "word", "pairs", "middle", "turn", "some", "many", "at"]) (sc := (defScope s_law_right)) (by decide +kernel)) (by decide) (fun _ _ _ _ _ => (vg_name 11 sc_law_right.nd)) (fun _ _ _ _ _ => (vts_one (vt_w (vw_and (vt_val (ve_callG [false] G_law_is_low hr (va_cons (ve_frz (ve_slice (ve_var 5) vo_none (vo_some (ve_var 11)))) va_nil))) (vw_and1 (vt_val (ve_callG [false] G_law_is_low hr (va_cons (ve_frz (ve_slice (ve_var 5) (vo_some (ve_var 11)) vo_none)) va_nil)))))))) (fun _ _ _ _ _ => (ve_tup (va_cons (ve_slice (ve_var 5) vo_none (vo_some (ve_var 11))) (va_cons (ve_slice (ve_var 5) (vo_some (ve_var 11)) vo_none) va_nil))))))
  (vs_cons (vs_if (vt_w (vw_or (vt_op (oc_ne (units64 hr)) (ve_callB cx_len T.b_len (va_cons (ve_var 6) va_nil)) ve_int) (vw_or1 (vt_op (oc_ne (units64 hr)) (ve_callG [false] G_parted_in_two hr (va_cons (ve_frz (ve_var 5)) va_nil)) (ve_ix (ve_var 6) ve_int))))) (vs_one (vs_ret (ve_frz ve_bl))) vs_nil)
  (vs_cons (vs_asg (ve_frz (ve_slice (ve_var 5) (vo_some ve_int) (vo_some (ve_neg ve_int)))) (vg_name 7 sc_law_right.nd))
  (vs_cons (vs_if (vt_w (vw_or (vt_w (vw_and (vt_op oc_gt (ve_var 1) ve_int) (vw_and (vt_op oc_gt (ve_var 2) ve_int) (vw_and1 (vt_op (oc_ne (units64 hr)) (ve_callG [false, false] G_central_of hr (va_cons (ve_frz (ve_var 1)) (va_cons (ve_frz (ve_var 2)) va_nil))) (ve_var 7)))))) (vw_or1 (vt_op (oc_ne (units64 hr)) (ve_var 7) (ve_rev (ve_var 7)))))) (vs_one (vs_ret (ve_frz ve_bl))) vs_nil)
  (vs_one (vs_if (vt_w (vw_or (vt_op (oc_ne (units64 hr)) (ve_lcE (own := [("part", 3)]) rfl sc_law_right.nd (vi_seq (ve_ix (ve_var 6) ve_int)) (blkOk_by (own := [("part", 3)]) (N := ["jar", "x", "y", "part", "size", "word", "pairs", "middle", "turn", "some", "many", "at"]) (sc := (defScope s_law_right)) (by decide +kernel)) (by decide) (fun _ _ _ _ _ => (vg_name 3 sc_law_right.nd)) (fun _ _ _ _ _ => (vts_one (vt_not (vt_val (ve_callG [false, false] G_law_has_period hr (va_cons (ve_frz (ve_var 7)) (va_cons (ve_frz (ve_callB cx_len T.b_len (va_cons (ve_var 3) va_nil))) va_nil))))))) (fun _ _ _ _ _ => (ve_callB cx_len T.b_len (va_cons (ve_var 3) va_nil)))) (ve_list va_nil)) (vw_or1 (vt_op oc_isNot (ve_callG [false] G_is_central hr (va_cons (ve_frz (ve_var 7)) va_nil)) ve_bl)))) (vs_one (vs_ret (ve_frz ve_bl))) vs_nil)))))) vs_nil)
  (vs_cons (vs_for PassesOwn.never rfl (vi_range1 T.b_range (va_cons ve_int va_nil)) (vg_name 8 sc_law_right.nd) (vs_cons (vs_asg (ve_frz (ve_callG [true, false, false, false] G_law_word hr (va_cons (ve_var 0) (va_cons (ve_frz ve_int) (va_cons (ve_frz ve_int) (va_cons (ve_frz (ve_str [97, 98])) va_nil)))))) (vg_name 9 sc_law_right.nd))
  (vs_one (vs_if (vt_w (vw_or (vt_op (oc_ne (units64 hr)) (ve_callG [false] G_is_christoffel hr (va_cons (ve_frz (ve_var 9)) va_nil)) (ve_and (ve_opc (oc_ne (units64 hr)) (ve_var 9) (ve_str [])) (ve_one (ve_ofTest (ve_callG [false] G_law_is_low hr (va_cons (ve_frz (ve_var 9)) va_nil)))))) (vw_or1 (vt_op (oc_ne (units64 hr)) (ve_callG [false] G_is_central hr (va_cons (ve_frz (ve_var 9)) va_nil)) (ve_callG [false] G_law_is_middle hr (va_cons (ve_frz (ve_var 9)) va_nil)))))) (vs_one (vs_ret (ve_frz ve_bl))) vs_nil))))
  (vs_cons (vs_asg (ve_frz (ve_callG [true, false] G_law_take hr (va_cons (ve_var 0) (va_cons (ve_frz ve_int) va_nil)))) (vg_name 10 sc_law_right.nd))
  (vs_cons (vs_for PassesOwn.never rfl (vi_seq (ve_callG [false, false] G_law_all_words hr (va_cons (ve_frz (ve_str [97, 98])) (va_cons (ve_frz (ve_var 10)) va_nil)))) (vg_name 9 sc_law_right.nd) (vs_cons (vs_if (vt_w (vw_or (vt_op (oc_ne (units64 hr)) (ve_callG [false] G_is_central hr (va_cons (ve_frz (ve_var 9)) va_nil)) (ve_callG [false] G_law_is_middle hr (va_cons (ve_frz (ve_var 9)) va_nil))) (vw_or1 (vt_op (oc_ne (units64 hr)) (ve_callG [false] G_is_christoffel hr (va_cons (ve_frz (ve_var 9)) va_nil)) (ve_and (ve_opc (oc_ne (units64 hr)) (ve_var 9) (ve_str [])) (ve_one (ve_ofTest (ve_callG [false] G_law_is_low hr (va_cons (ve_frz (ve_var 9)) va_nil))))))))) (vs_one (vs_ret (ve_frz ve_bl))) vs_nil)
  (vs_one (vs_if (vt_op (oc_ne (units64 hr)) (ve_callG [false] G_is_central hr (va_cons (ve_frz (ve_var 9)) va_nil)) (ve_callG [false] G_is_christoffel hr (va_cons (ve_frz (ve_op ox_add (ve_op ox_add (ve_str [97]) (ve_var 9)) (ve_str [98]))) va_nil))) (vs_one (vs_ret (ve_frz ve_bl))) vs_nil))))
  (vs_one (vs_ret (ve_frz ve_bl))))))))))))))
abbrev s_law : Stmt := top 35
/- law: 0 script, 1 spot, 2 jar, 3 turn, 4 told | inout [0] fresh 0 level 7 -/
def b_law_1 : MS :=
  (mIfS (mNot (mTest (mCall [true] f_law_right (mCons (mVar 2) mNil)))) (mRet (mFrz (mC (.bl false)))) mNext)
def b_law_2 : MS :=
  (mSeq (mAsg (mCall [false, false] f_law_jar (mCons (mFrz (mVar 0)) (mCons (mFrz (mVar 1)) mNil))) (asgn 2))
  (mFor (miR1 (mCons (mC (.int 3)) mNil)) (asgn 3) b_law_1))
def m_law : MS :=
  (mSeq (mFor (miR1 (mCons (mCallB maxD (mCons (mC (.int 1)) (mCons (mCallB minD (mCons (mC (.int 3)) (mCons (mCallB lenD (mCons (mVar 0) mNil)) mNil))) mNil))) mNil)) (asgn 1) b_law_2)
  (mSeq (mAsg (mFrz (mList (mCons (mCall [false, false] f_christoffel (mCons (mFrz (mC (.int 3))) (mCons (mFrz (mC (.int 2))) mNil))) (mCons (mCall [false] f_is_christoffel (mCons (mFrz (mC (.str [97, 98, 97, 97, 98]))) mNil)) (mCons (mCall [false] f_parted_in_two (mCons (mFrz (mC (.str [97, 97, 98, 97, 98]))) mNil)) (mCons (mCall [false, false] f_christoffel (mCons (mFrz (mC (.int 1))) (mCons (mFrz (mC (.int 0))) mNil))) (mCons (mCall [false, false] f_christoffel (mCons (mFrz (mC (.int 0))) (mCons (mFrz (mC (.int 1))) mNil))) (mCons (mCall [false] f_parted_in_two (mCons (mFrz (mC (.str [97, 98]))) mNil)) mNil)))))))) (asgn 4))
  (mSeq (mAsg (mFrz (mBin addD (mVar 4) (mList (mCons (mCall [false] f_is_central (mCons (mFrz (mC (.str [97, 98, 97]))) mNil)) (mCons (mCall [false] f_is_central (mCons (mFrz (mC (.str [97, 98, 98, 97]))) mNil)) (mCons (mCall [false, false] f_central_of (mCons (mFrz (mC (.int 3))) (mCons (mFrz (mC (.int 2))) mNil))) (mCons (mCall [false] f_is_central (mCons (mFrz (mC (.str []))) mNil)) mNil))))))) (asgn 4))
  (mRet (mFrz (mOfB (mCmp eqD (mVar 4) (mList (mCons (mC (.str [97, 97, 98, 97, 98])) (mCons (mC (.bl false)) (mCons (mTup (mCons (mC (.str [97, 97, 98])) (mCons (mC (.str [97, 98])) mNil))) (mCons (mC (.str [97])) (mCons (mC (.str [98])) (mCons (mTup (mCons (mC (.str [97])) (mCons (mC (.str [98])) mNil))) (mCons (mC (.bl true)) (mCons (mC (.bl false)) (mCons (mC (.str [97, 98, 97])) (mCons (mC (.bl true)) mNil))))))))))))))))))
def f_law : Sem' := defOf 1 5 m_law
theorem sc_law : FnScope ["script", "spot", "jar", "turn", "told"] ["script"] (defScope s_law) := ⟨rfl, rfl, rfl, by decide +kernel, rfl, by decide +kernel, by decide +kernel⟩
theorem ok_law {f : Addr} {fd : FuncData} (F : Fun K "law" "law" s_law f fd) (T : Txt K mg) (G_law_jar : GF P w K mg base "_law_jar" 1 2 f_law_jar) (G_law_right : GF P w K mg base "_law_right" 6 1 f_law_right) (G_parted_in_two : GF P w K mg base "parted_in_two" 5 1 f_parted_in_two) (G_christoffel : GF P w K mg base "christoffel" 4 2 f_christoffel) (G_is_christoffel : GF P w K mg base "is_christoffel" 4 1 f_is_christoffel) (G_is_central : GF P w K mg base "is_central" 3 1 f_is_central) (G_central_of : GF P w K mg base "central_of" 4 2 f_central_of) : FnOk P w K mg base CX0 7 f fd ["script"] (spV K mg 1 f_law) :=
  fn_ok (N := ["script", "spot", "jar", "turn", "told"]) (k := 6) (m := m_law) F sc_law fun cdv A outer s H E hr =>
  (vs_cons (vs_for PassesOwn.never rfl (vi_range1 T.b_range (va_cons (ve_callB (cx_max rfl) T.b_max (va_cons ve_int (va_cons (ve_callB (cx_min rfl) T.b_min (va_cons ve_int (va_cons (ve_callB cx_len T.b_len (va_cons (ve_var 0) va_nil)) va_nil))) va_nil))) va_nil)) (vg_name 1 sc_law.nd) (vs_cons (vs_asg (ve_callG [false, false] G_law_jar hr (va_cons (ve_frz (ve_var 0)) (va_cons (ve_frz (ve_var 1)) va_nil))) (vg_name 2 sc_law.nd))
  (vs_one (vs_for PassesOwn.never rfl (vi_range1 T.b_range (va_cons ve_int va_nil)) (vg_name 3 sc_law.nd) (vs_one (vs_if (vt_not (vt_val (ve_callG [true] G_law_right hr (va_cons (ve_var 2) va_nil)))) (vs_one (vs_ret (ve_frz ve_bl))) vs_nil))))))
  (vs_cons (vs_asg (ve_frz (ve_list (va_cons (ve_callG [false, false] G_christoffel hr (va_cons (ve_frz ve_int) (va_cons (ve_frz ve_int) va_nil))) (va_cons (ve_callG [false] G_is_christoffel hr (va_cons (ve_frz (ve_str [97, 98, 97, 97, 98])) va_nil)) (va_cons (ve_callG [false] G_parted_in_two hr (va_cons (ve_frz (ve_str [97, 97, 98, 97, 98])) va_nil)) (va_cons (ve_callG [false, false] G_christoffel hr (va_cons (ve_frz ve_int) (va_cons (ve_frz ve_int) va_nil))) (va_cons (ve_callG [false, false] G_christoffel hr (va_cons (ve_frz ve_int) (va_cons (ve_frz ve_int) va_nil))) (va_cons (ve_callG [false] G_parted_in_two hr (va_cons (ve_frz (ve_str [97, 98])) va_nil)) va_nil)))))))) (vg_name 4 sc_law.nd))
  (vs_cons (vs_asg (ve_frz (ve_op ox_add (ve_var 4) (ve_list (va_cons (ve_callG [false] G_is_central hr (va_cons (ve_frz (ve_str [97, 98, 97])) va_nil)) (va_cons (ve_callG [false] G_is_central hr (va_cons (ve_frz (ve_str [97, 98, 98, 97])) va_nil)) (va_cons (ve_callG [false, false] G_central_of hr (va_cons (ve_frz ve_int) (va_cons (ve_frz ve_int) va_nil))) (va_cons (ve_callG [false] G_is_central hr (va_cons (ve_frz (ve_str [])) va_nil)) va_nil))))))) (vg_name 4 sc_law.nd))
  (vs_one (vs_ret (ve_frz (ve_opc (oc_eq (units64 hr)) (ve_var 4) (ve_list (va_cons (ve_str [97, 97, 98, 97, 98]) (va_cons ve_bl (va_cons (ve_tup (va_cons (ve_str [97, 97, 98]) (va_cons (ve_str [97, 98]) va_nil))) (va_cons (ve_str [97]) (va_cons (ve_str [98]) (va_cons (ve_tup (va_cons (ve_str [97]) (va_cons (ve_str [98]) va_nil))) (va_cons ve_bl (va_cons ve_bl (va_cons (ve_str [97, 98, 97]) (va_cons ve_bl va_nil))))))))))))))))))
end
theorem all_mk {l : PySem.W.OpenLaw} {w : World} {K : PySem.W.Frag} {h : Heap} {mg : Str → Option Value} {fa f0 f1 f2 f3 f4 f5 f6 f7 f8 f9 f10 f11 f12 f13 f14 f15 f16 f17 f18 f19 f20 f21 f22 f23 f24 f25 f26 f27 f28 : Addr} (X : K.In h) (G : h.Ns mainGlobals mg) (hfa : mg "law" = some (.ref fa))
    {od0 an0 od1 an1 od2 an2 od3 an3 od4 an4 od5 an5 od6 an6 od7 an7 od8 an8 od9 an9 od10 an10 od11 an11 od12 an12 od13 an13 od14 an14 od15 an15 od16 an16 od17 an17 od18 an18 od19 an19 od20 an20 od21 an21 od22 an22 od23 an23 od24 an24 od25 an25 od26 an26 od27 an27 od28 an28 : Option Addr} {sl0 sl1 sl2 sl3 sl4 sl5 sl6 sl7 sl8 sl9 sl10 sl11 sl12 sl13 sl14 sl15 sl16 sl17 sl18 sl19 sl20 sl21 sl22 sl23 sl24 sl25 sl26 sl27 sl28 : Array (Option Value)} {oc0 kV0 dc0 pm0 cd0 ct0 oc1 kV1 dc1 pm1 cd1 ct1 oc2 kV2 dc2 pm2 cd2 ct2 oc3 kV3 dc3 pm3 cd3 ct3 oc4 kV4 dc4 pm4 cd4 ct4 oc5 kV5 dc5 pm5 cd5 ct5 oc6 kV6 dc6 pm6 cd6 ct6 oc7 kV7 dc7 pm7 cd7 ct7 oc8 kV8 dc8 pm8 cd8 ct8 oc9 kV9 dc9 pm9 cd9 ct9 oc10 kV10 dc10 pm10 cd10 ct10 oc11 kV11 dc11 pm11 cd11 ct11 oc12 kV12 dc12 pm12 cd12 ct12 oc13 kV13 dc13 pm13 cd13 ct13 oc14 kV14 dc14 pm14 cd14 ct14 oc15 kV15 dc15 pm15 cd15 ct15 oc16 kV16 dc16 pm16 cd16 ct16 oc17 kV17 dc17 pm17 cd17 ct17 oc18 kV18 dc18 pm18 cd18 ct18 oc19 kV19 dc19 pm19 cd19 ct19 oc20 kV20 dc20 pm20 cd20 ct20 oc21 kV21 dc21 pm21 cd21 ct21 oc22 kV22 dc22 pm22 cd22 ct22 oc23 kV23 dc23 pm23 cd23 ct23 oc24 kV24 dc24 pm24 cd24 ct24 oc25 kV25 dc25 pm25 cd25 ct25 oc26 kV26 dc26 pm26 cd26 ct26 oc27 kV27 dc27 pm27 cd27 ct27 oc28 kV28 dc28 pm28 cd28 ct28 : Value} {t0 : Tok}
    (a0 : PySem.W.nsIn K mainGlobals "_law_jar" = some (some (.ref f0)))
    (l0 : K.lookup f0 = some ⟨oc0, od0, .func (PySem.W.fnOf "_law_jar" "_law_jar" (defArgs s_law_jar) (defBody s_law_jar) (defScope s_law_jar) .none kV0 dc0 pm0 an0 cd0 ct0), sl0⟩) (c0 : PySem.W.codeIn K cd0 "_law_jar" = true) (k0 : PySem.W.keepIn K (.ref f0) = true)
    (a1 : PySem.W.nsIn K mainGlobals "_law_all_words" = some (some (.ref f1)))
    (l1 : K.lookup f1 = some ⟨oc1, od1, .func (PySem.W.fnOf "_law_all_words" "_law_all_words" (defArgs s_law_all_words) (defBody s_law_all_words) (defScope s_law_all_words) .none kV1 dc1 pm1 an1 cd1 ct1), sl1⟩) (c1 : PySem.W.codeIn K cd1 "_law_all_words" = true) (k1 : PySem.W.keepIn K (.ref f1) = true)
    (a2 : PySem.W.nsIn K mainGlobals "_law_divisor" = some (some (.ref f2)))
    (l2 : K.lookup f2 = some ⟨oc2, od2, .func (PySem.W.fnOf "_law_divisor" "_law_divisor" (defArgs s_law_divisor) (defBody s_law_divisor) (defScope s_law_divisor) .none kV2 dc2 pm2 an2 cd2 ct2), sl2⟩) (c2 : PySem.W.codeIn K cd2 "_law_divisor" = true) (k2 : PySem.W.keepIn K (.ref f2) = true)
    (a3 : PySem.W.nsIn K mainGlobals "_law_has_period" = some (some (.ref f3)))
    (l3 : K.lookup f3 = some ⟨oc3, od3, .func (PySem.W.fnOf "_law_has_period" "_law_has_period" (defArgs s_law_has_period) (defBody s_law_has_period) (defScope s_law_has_period) .none kV3 dc3 pm3 an3 cd3 ct3), sl3⟩) (c3 : PySem.W.codeIn K cd3 "_law_has_period" = true) (k3 : PySem.W.keepIn K (.ref f3) = true)
    (a4 : PySem.W.nsIn K mainGlobals "_law_even" = some (some (.ref f4)))
    (l4 : K.lookup f4 = some ⟨oc4, od4, .func (PySem.W.fnOf "_law_even" "_law_even" (defArgs s_law_even) (defBody s_law_even) (defScope s_law_even) .none kV4 dc4 pm4 an4 cd4 ct4), sl4⟩) (c4 : PySem.W.codeIn K cd4 "_law_even" = true) (k4 : PySem.W.keepIn K (.ref f4) = true)
    (a5 : PySem.W.nsIn K mainGlobals "_law_is_low" = some (some (.ref f5)))
    (l5 : K.lookup f5 = some ⟨oc5, od5, .func (PySem.W.fnOf "_law_is_low" "_law_is_low" (defArgs s_law_is_low) (defBody s_law_is_low) (defScope s_law_is_low) .none kV5 dc5 pm5 an5 cd5 ct5), sl5⟩) (c5 : PySem.W.codeIn K cd5 "_law_is_low" = true) (k5 : PySem.W.keepIn K (.ref f5) = true)
    (a6 : PySem.W.nsIn K mainGlobals "_law_is_middle" = some (some (.ref f6)))
    (l6 : K.lookup f6 = some ⟨oc6, od6, .func (PySem.W.fnOf "_law_is_middle" "_law_is_middle" (defArgs s_law_is_middle) (defBody s_law_is_middle) (defScope s_law_is_middle) .none kV6 dc6 pm6 an6 cd6 ct6), sl6⟩) (c6 : PySem.W.codeIn K cd6 "_law_is_middle" = true) (k6 : PySem.W.keepIn K (.ref f6) = true)
    (a7 : PySem.W.nsIn K mainGlobals "_law_take" = some (some (.ref f7)))
    (l7 : K.lookup f7 = some ⟨oc7, od7, .func (PySem.W.fnOf "_law_take" "_law_take" (defArgs s_law_take) (defBody s_law_take) (defScope s_law_take) .none kV7 dc7 pm7 an7 cd7 ct7), sl7⟩) (c7 : PySem.W.codeIn K cd7 "_law_take" = true) (k7 : PySem.W.keepIn K (.ref f7) = true)
    (a8 : PySem.W.nsIn K mainGlobals "_law_choice" = some (some (.ref f8)))
    (l8 : K.lookup f8 = some ⟨oc8, od8, .func (PySem.W.fnOf "_law_choice" "_law_choice" (defArgs s_law_choice) (defBody s_law_choice) (defScope s_law_choice) .none kV8 dc8 pm8 an8 cd8 ct8), sl8⟩) (c8 : PySem.W.codeIn K cd8 "_law_choice" = true) (k8 : PySem.W.keepIn K (.ref f8) = true)
    (a9 : PySem.W.nsIn K mainGlobals "_law_word" = some (some (.ref f9)))
    (l9 : K.lookup f9 = some ⟨oc9, od9, .func (PySem.W.fnOf "_law_word" "_law_word" (defArgs s_law_word) (defBody s_law_word) (defScope s_law_word) .none kV9 dc9 pm9 an9 cd9 ct9), sl9⟩) (c9 : PySem.W.codeIn K cd9 "_law_word" = true) (k9 : PySem.W.keepIn K (.ref f9) = true)
    (a10 : PySem.W.nsIn K mainGlobals "christoffel_of" = some (some (.ref f10)))
    (l10 : K.lookup f10 = some ⟨oc10, od10, .func (PySem.W.fnOf "christoffel_of" "christoffel_of" (defArgs s_christoffel_of) (defBody s_christoffel_of) (defScope s_christoffel_of) .none kV10 dc10 pm10 an10 cd10 ct10), sl10⟩) (c10 : PySem.W.codeIn K cd10 "christoffel_of" = true) (k10 : PySem.W.keepIn K (.ref f10) = true)
    (a11 : PySem.W.nsIn K mainGlobals "greatest_shared" = some (some (.ref f11)))
    (l11 : K.lookup f11 = some ⟨oc11, od11, .func (PySem.W.fnOf "greatest_shared" "greatest_shared" (defArgs s_greatest_shared) (defBody s_greatest_shared) (defScope s_greatest_shared) .none kV11 dc11 pm11 an11 cd11 ct11), sl11⟩) (c11 : PySem.W.codeIn K cd11 "greatest_shared" = true) (k11 : PySem.W.keepIn K (.ref f11) = true)
    (a12 : PySem.W.nsIn K mainGlobals "are_apart" = some (some (.ref f12)))
    (l12 : K.lookup f12 = some ⟨oc12, od12, .func (PySem.W.fnOf "are_apart" "are_apart" (defArgs s_are_apart) (defBody s_are_apart) (defScope s_are_apart) .none kV12 dc12 pm12 an12 cd12 ct12), sl12⟩) (c12 : PySem.W.codeIn K cd12 "are_apart" = true) (k12 : PySem.W.keepIn K (.ref f12) = true)
    (a13 : PySem.W.nsIn K mainGlobals "is_even_number" = some (some (.ref f13)))
    (l13 : K.lookup f13 = some ⟨oc13, od13, .func (PySem.W.fnOf "is_even_number" "is_even_number" (defArgs s_is_even_number) (defBody s_is_even_number) (defScope s_is_even_number) .none kV13 dc13 pm13 an13 cd13 ct13), sl13⟩) (c13 : PySem.W.codeIn K cd13 "is_even_number" = true) (k13 : PySem.W.keepIn K (.ref f13) = true)
    (a14 : PySem.W.nsIn K mainGlobals "need_even_number" = some (some (.ref f14)))
    (l14 : K.lookup f14 = some ⟨oc14, od14, .func (PySem.W.fnOf "need_even_number" "need_even_number" (defArgs s_need_even_number) (defBody s_need_even_number) (defScope s_need_even_number) .none kV14 dc14 pm14 an14 cd14 ct14), sl14⟩) (c14 : PySem.W.codeIn K cd14 "need_even_number" = true) (k14 : PySem.W.keepIn K (.ref f14) = true)
    (a15 : PySem.W.nsIn K mainGlobals "need_pair" = some (some (.ref f15)))
    (l15 : K.lookup f15 = some ⟨oc15, od15, .func (PySem.W.fnOf "need_pair" "need_pair" (defArgs s_need_pair) (defBody s_need_pair) (defScope s_need_pair) .none kV15 dc15 pm15 an15 cd15 ct15), sl15⟩) (c15 : PySem.W.codeIn K cd15 "need_pair" = true) (k15 : PySem.W.keepIn K (.ref f15) = true)
    (a16 : PySem.W.nsIn K mainGlobals "central_of" = some (some (.ref f16)))
    (l16 : K.lookup f16 = some ⟨oc16, od16, .func (PySem.W.fnOf "central_of" "central_of" (defArgs s_central_of) (defBody s_central_of) (defScope s_central_of) .none kV16 dc16 pm16 an16 cd16 ct16), sl16⟩) (c16 : PySem.W.codeIn K cd16 "central_of" = true) (k16 : PySem.W.keepIn K (.ref f16) = true)
    (a17 : PySem.W.nsIn K mainGlobals "christoffel" = some (some (.ref f17)))
    (l17 : K.lookup f17 = some ⟨oc17, od17, .func (PySem.W.fnOf "christoffel" "christoffel" (defArgs s_christoffel) (defBody s_christoffel) (defScope s_christoffel) .none kV17 dc17 pm17 an17 cd17 ct17), sl17⟩) (c17 : PySem.W.codeIn K cd17 "christoffel" = true) (k17 : PySem.W.keepIn K (.ref f17) = true)
    (a18 : PySem.W.nsIn K mainGlobals "has_step" = some (some (.ref f18)))
    (l18 : K.lookup f18 = some ⟨oc18, od18, .func (PySem.W.fnOf "has_step" "has_step" (defArgs s_has_step) (defBody s_has_step) (defScope s_has_step) .none kV18 dc18 pm18 an18 cd18 ct18), sl18⟩) (c18 : PySem.W.codeIn K cd18 "has_step" = true) (k18 : PySem.W.keepIn K (.ref f18) = true)
    (a19 : PySem.W.nsIn K mainGlobals "is_central_word" = some (some (.ref f19)))
    (l19 : K.lookup f19 = some ⟨oc19, od19, .func (PySem.W.fnOf "is_central_word" "is_central_word" (defArgs s_is_central_word) (defBody s_is_central_word) (defScope s_is_central_word) .none kV19 dc19 pm19 an19 cd19 ct19), sl19⟩) (c19 : PySem.W.codeIn K cd19 "is_central_word" = true) (k19 : PySem.W.keepIn K (.ref f19) = true)
    (a20 : PySem.W.nsIn K mainGlobals "is_two_word" = some (some (.ref f20)))
    (l20 : K.lookup f20 = some ⟨oc20, od20, .func (PySem.W.fnOf "is_two_word" "is_two_word" (defArgs s_is_two_word) (defBody s_is_two_word) (defScope s_is_two_word) .none kV20 dc20 pm20 an20 cd20 ct20), sl20⟩) (c20 : PySem.W.codeIn K cd20 "is_two_word" = true) (k20 : PySem.W.keepIn K (.ref f20) = true)
    (a21 : PySem.W.nsIn K mainGlobals "need_two_word" = some (some (.ref f21)))
    (l21 : K.lookup f21 = some ⟨oc21, od21, .func (PySem.W.fnOf "need_two_word" "need_two_word" (defArgs s_need_two_word) (defBody s_need_two_word) (defScope s_need_two_word) .none kV21 dc21 pm21 an21 cd21 ct21), sl21⟩) (c21 : PySem.W.codeIn K cd21 "need_two_word" = true) (k21 : PySem.W.keepIn K (.ref f21) = true)
    (a22 : PySem.W.nsIn K mainGlobals "is_central" = some (some (.ref f22)))
    (l22 : K.lookup f22 = some ⟨oc22, od22, .func (PySem.W.fnOf "is_central" "is_central" (defArgs s_is_central) (defBody s_is_central) (defScope s_is_central) .none kV22 dc22 pm22 an22 cd22 ct22), sl22⟩) (c22 : PySem.W.codeIn K cd22 "is_central" = true) (k22 : PySem.W.keepIn K (.ref f22) = true)
    (a23 : PySem.W.nsIn K mainGlobals "is_christoffel_word" = some (some (.ref f23)))
    (l23 : K.lookup f23 = some ⟨oc23, od23, .func (PySem.W.fnOf "is_christoffel_word" "is_christoffel_word" (defArgs s_is_christoffel_word) (defBody s_is_christoffel_word) (defScope s_is_christoffel_word) .none kV23 dc23 pm23 an23 cd23 ct23), sl23⟩) (c23 : PySem.W.codeIn K cd23 "is_christoffel_word" = true) (k23 : PySem.W.keepIn K (.ref f23) = true)
    (a24 : PySem.W.nsIn K mainGlobals "is_christoffel" = some (some (.ref f24)))
    (l24 : K.lookup f24 = some ⟨oc24, od24, .func (PySem.W.fnOf "is_christoffel" "is_christoffel" (defArgs s_is_christoffel) (defBody s_is_christoffel) (defScope s_is_christoffel) .none kV24 dc24 pm24 an24 cd24 ct24), sl24⟩) (c24 : PySem.W.codeIn K cd24 "is_christoffel" = true) (k24 : PySem.W.keepIn K (.ref f24) = true)
    (a25 : PySem.W.nsIn K mainGlobals "parting_of" = some (some (.ref f25)))
    (l25 : K.lookup f25 = some ⟨oc25, od25, .func (PySem.W.fnOf "parting_of" "parting_of" (defArgs s_parting_of) (defBody s_parting_of) (defScope s_parting_of) .none kV25 dc25 pm25 an25 cd25 ct25), sl25⟩) (c25 : PySem.W.codeIn K cd25 "parting_of" = true) (k25 : PySem.W.keepIn K (.ref f25) = true)
    (a26 : PySem.W.nsIn K mainGlobals "parted_in_two" = some (some (.ref f26)))
    (l26 : K.lookup f26 = some ⟨oc26, od26, .func (PySem.W.fnOf "parted_in_two" "parted_in_two" (defArgs s_parted_in_two) (defBody s_parted_in_two) (defScope s_parted_in_two) .none kV26 dc26 pm26 an26 cd26 ct26), sl26⟩) (c26 : PySem.W.codeIn K cd26 "parted_in_two" = true) (k26 : PySem.W.keepIn K (.ref f26) = true)
    (a27 : PySem.W.nsIn K mainGlobals "_law_right" = some (some (.ref f27)))
    (l27 : K.lookup f27 = some ⟨oc27, od27, .func (PySem.W.fnOf "_law_right" "_law_right" (defArgs s_law_right) (defBody s_law_right) (defScope s_law_right) .none kV27 dc27 pm27 an27 cd27 ct27), sl27⟩) (c27 : PySem.W.codeIn K cd27 "_law_right" = true) (k27 : PySem.W.keepIn K (.ref f27) = true)
    (a28 : PySem.W.nsIn K mainGlobals "law" = some (some (.ref f28)))
    (l28 : K.lookup f28 = some ⟨oc28, od28, .func (PySem.W.fnOf "law" "law" (defArgs s_law) (defBody s_law) (defScope s_law) .none kV28 dc28 pm28 an28 cd28 ct28), sl28⟩) (c28 : PySem.W.codeIn K cd28 "law" = true) (k28 : PySem.W.keepIn K (.ref f28) = true)
    (z0 : PySem.W.nsIn K mainGlobals "len" = some none)
    (z1 : PySem.W.nsIn K mainGlobals "int" = some none)
    (z2 : PySem.W.nsIn K mainGlobals "abs" = some none)
    (z3 : PySem.W.nsIn K mainGlobals "max" = some none)
    (z4 : PySem.W.nsIn K mainGlobals "range" = some none)
    (z5 : PySem.W.nsIn K mainGlobals "list" = some none)
    (z6 : PySem.W.nsIn K mainGlobals "min" = some none)
    (z7 : PySem.W.nsIn K mainGlobals "isinstance" = some none)
    (z8 : PySem.W.nsIn K mainGlobals "bool" = some none)
    (z9 : PySem.W.nsIn K mainGlobals "all" = some none)
    (z10 : PySem.W.nsIn K mainGlobals "any" = some none)
    (z11 : PySem.W.nsIn K mainGlobals "str" = some none)
    (y0 : PySem.W.nsIn K mainGlobals "MOST_EVEN" = some (some (.int 40 t0)))
    (LAW : LawOk f_law) : ∃ fd : FuncData, (∀ (s : Shared) (v : Value), BindsTo s fd ⟨[v], []⟩ [("script", v)]) ∧ ∀ base : Heap, K.In base → base.Ns mainGlobals mg → FnOk l.prog w K mg base CX0 7 fa fd ["script"] (spLaw K) := by
  have e := hfa.symm.trans (PySem.W.mg_of X G a28)
  cases e
  have T : Txt K mg := ⟨PySem.W.mg_none_of X G z0, PySem.W.mg_none_of X G z1, PySem.W.mg_none_of X G z2, PySem.W.mg_none_of X G z3, PySem.W.mg_none_of X G z4, PySem.W.mg_none_of X G z5, PySem.W.mg_none_of X G z6, PySem.W.mg_none_of X G z7, PySem.W.mg_none_of X G z8, PySem.W.mg_none_of X G z9, PySem.W.mg_none_of X G z10, PySem.W.mg_none_of X G z11, ⟨_, PySem.W.mg_of X G y0⟩⟩
  have F0 := fun_mk (st := s_law_jar) l0 c0 k0
  have b0 := F0.binds (ps := ["script", "spot"]) fun _ _ _ _ _ _ us hl => match us, hl with | [_, _], _ => rfl
  have F1 := fun_mk (st := s_law_all_words) l1 c1 k1
  have b1 := F1.binds (ps := ["letters", "size"]) fun _ _ _ _ _ _ us hl => match us, hl with | [_, _], _ => rfl
  have F2 := fun_mk (st := s_law_divisor) l2 c2 k2
  have b2 := F2.binds (ps := ["one", "other"]) fun _ _ _ _ _ _ us hl => match us, hl with | [_, _], _ => rfl
  have F3 := fun_mk (st := s_law_has_period) l3 c3 k3
  have b3 := F3.binds (ps := ["word", "p"]) fun _ _ _ _ _ _ us hl => match us, hl with | [_, _], _ => rfl
  have F4 := fun_mk (st := s_law_even) l4 c4 k4
  have b4 := F4.binds (ps := ["word"]) fun _ _ _ _ _ _ us hl => match us, hl with | [_], _ => rfl
  have F5 := fun_mk (st := s_law_is_low) l5 c5 k5
  have b5 := F5.binds (ps := ["word"]) fun _ _ _ _ _ _ us hl => match us, hl with | [_], _ => rfl
  have F6 := fun_mk (st := s_law_is_middle) l6 c6 k6
  have b6 := F6.binds (ps := ["word"]) fun _ _ _ _ _ _ us hl => match us, hl with | [_], _ => rfl
  have F7 := fun_mk (st := s_law_take) l7 c7 k7
  have b7 := F7.binds (ps := ["jar", "total"]) fun _ _ _ _ _ _ us hl => match us, hl with | [_, _], _ => rfl
  have F8 := fun_mk (st := s_law_choice) l8 c8 k8
  have b8 := F8.binds (ps := ["jar", "items"]) fun _ _ _ _ _ _ us hl => match us, hl with | [_, _], _ => rfl
  have F9 := fun_mk (st := s_law_word) l9 c9 k9
  have b9 := F9.binds (ps := ["jar", "least", "most", "letters"]) fun _ _ _ _ _ _ us hl => match us, hl with | [_, _, _, _], _ => rfl
  have F10 := fun_mk (st := s_christoffel_of) l10 c10 k10
  have b10 := F10.binds (ps := ["x", "y"]) fun _ _ _ _ _ _ us hl => match us, hl with | [_, _], _ => rfl
  have F11 := fun_mk (st := s_greatest_shared) l11 c11 k11
  have b11 := F11.binds (ps := ["one", "other"]) fun _ _ _ _ _ _ us hl => match us, hl with | [_, _], _ => rfl
  have F12 := fun_mk (st := s_are_apart) l12 c12 k12
  have b12 := F12.binds (ps := ["x", "y"]) fun _ _ _ _ _ _ us hl => match us, hl with | [_, _], _ => rfl
  have F13 := fun_mk (st := s_is_even_number) l13 c13 k13
  have b13 := F13.binds (ps := ["value"]) fun _ _ _ _ _ _ us hl => match us, hl with | [_], _ => rfl
  have F14 := fun_mk (st := s_need_even_number) l14 c14 k14
  have b14 := F14.binds (ps := ["number", "most"]) fun _ _ _ _ _ _ us hl => match us, hl with | [_, _], _ => rfl
  have F15 := fun_mk (st := s_need_pair) l15 c15 k15
  have b15 := F15.binds (ps := ["x", "y"]) fun _ _ _ _ _ _ us hl => match us, hl with | [_, _], _ => rfl
  have F16 := fun_mk (st := s_central_of) l16 c16 k16
  have b16 := F16.binds (ps := ["x", "y"]) fun _ _ _ _ _ _ us hl => match us, hl with | [_, _], _ => rfl
  have F17 := fun_mk (st := s_christoffel) l17 c17 k17
  have b17 := F17.binds (ps := ["x", "y"]) fun _ _ _ _ _ _ us hl => match us, hl with | [_, _], _ => rfl
  have F18 := fun_mk (st := s_has_step) l18 c18 k18
  have b18 := F18.binds (ps := ["word", "step"]) fun _ _ _ _ _ _ us hl => match us, hl with | [_, _], _ => rfl
  have F19 := fun_mk (st := s_is_central_word) l19 c19 k19
  have b19 := F19.binds (ps := ["word"]) fun _ _ _ _ _ _ us hl => match us, hl with | [_], _ => rfl
  have F20 := fun_mk (st := s_is_two_word) l20 c20 k20
  have b20 := F20.binds (ps := ["value"]) fun _ _ _ _ _ _ us hl => match us, hl with | [_], _ => rfl
  have F21 := fun_mk (st := s_need_two_word) l21 c21 k21
  have b21 := F21.binds (ps := ["word"]) fun _ _ _ _ _ _ us hl => match us, hl with | [_], _ => rfl
  have F22 := fun_mk (st := s_is_central) l22 c22 k22
  have b22 := F22.binds (ps := ["word"]) fun _ _ _ _ _ _ us hl => match us, hl with | [_], _ => rfl
  have F23 := fun_mk (st := s_is_christoffel_word) l23 c23 k23
  have b23 := F23.binds (ps := ["word"]) fun _ _ _ _ _ _ us hl => match us, hl with | [_], _ => rfl
  have F24 := fun_mk (st := s_is_christoffel) l24 c24 k24
  have b24 := F24.binds (ps := ["word"]) fun _ _ _ _ _ _ us hl => match us, hl with | [_], _ => rfl
  have F25 := fun_mk (st := s_parting_of) l25 c25 k25
  have b25 := F25.binds (ps := ["word"]) fun _ _ _ _ _ _ us hl => match us, hl with | [_], _ => rfl
  have F26 := fun_mk (st := s_parted_in_two) l26 c26 k26
  have b26 := F26.binds (ps := ["word"]) fun _ _ _ _ _ _ us hl => match us, hl with | [_], _ => rfl
  have F27 := fun_mk (st := s_law_right) l27 c27 k27
  have b27 := F27.binds (ps := ["jar"]) fun _ _ _ _ _ _ us hl => match us, hl with | [_], _ => rfl
  have F28 := fun_mk (st := s_law) l28 c28 k28
  refine ⟨PySem.W.fnOf "law" "law" (defArgs s_law) (defBody s_law) (defScope s_law) .none kV28 dc28 pm28 an28 cd28 ct28, fun s v => .of_eq rfl, fun base _ _ => ?_⟩
  have G_law_jar : GF l.prog w K mg base "_law_jar" 1 2 f_law_jar := ⟨f0, _, _, ok_law_jar F0 T , PySem.W.mg_of X G a0, k0, b0, defOf_len⟩
  have G_law_all_words : GF l.prog w K mg base "_law_all_words" 1 2 f_law_all_words := ⟨f1, _, _, ok_law_all_words F1 T , PySem.W.mg_of X G a1, k1, b1, defOf_len⟩
  have G_law_divisor : GF l.prog w K mg base "_law_divisor" 1 2 f_law_divisor := ⟨f2, _, _, ok_law_divisor F2 T , PySem.W.mg_of X G a2, k2, b2, defOf_len⟩
  have G_law_has_period : GF l.prog w K mg base "_law_has_period" 1 2 f_law_has_period := ⟨f3, _, _, ok_law_has_period F3 T , PySem.W.mg_of X G a3, k3, b3, defOf_len⟩
  have G_law_even : GF l.prog w K mg base "_law_even" 1 1 f_law_even := ⟨f4, _, _, ok_law_even F4 T , PySem.W.mg_of X G a4, k4, b4, defOf_len⟩
  have G_law_is_low : GF l.prog w K mg base "_law_is_low" 2 1 f_law_is_low := ⟨f5, _, _, ok_law_is_low F5 T G_law_even, PySem.W.mg_of X G a5, k5, b5, defOf_len⟩
  have G_law_is_middle : GF l.prog w K mg base "_law_is_middle" 2 1 f_law_is_middle := ⟨f6, _, _, ok_law_is_middle F6 T G_law_divisor G_law_has_period, PySem.W.mg_of X G a6, k6, b6, defOf_len⟩
  have G_law_take : GF l.prog w K mg base "_law_take" 1 2 f_law_take := ⟨f7, _, _, ok_law_take F7 T , PySem.W.mg_of X G a7, k7, b7, defOf_len⟩
  have G_law_choice : GF l.prog w K mg base "_law_choice" 2 2 f_law_choice := ⟨f8, _, _, ok_law_choice F8 T G_law_take, PySem.W.mg_of X G a8, k8, b8, defOf_len⟩
  have G_law_word : GF l.prog w K mg base "_law_word" 3 4 f_law_word := ⟨f9, _, _, ok_law_word F9 T G_law_take G_law_choice, PySem.W.mg_of X G a9, k9, b9, defOf_len⟩
  have G_christoffel_of : GF l.prog w K mg base "christoffel_of" 1 2 f_christoffel_of := ⟨f10, _, _, ok_christoffel_of F10 T , PySem.W.mg_of X G a10, k10, b10, defOf_len⟩
  have G_greatest_shared : GF l.prog w K mg base "greatest_shared" 1 2 f_greatest_shared := ⟨f11, _, _, ok_greatest_shared F11 T , PySem.W.mg_of X G a11, k11, b11, defOf_len⟩
  have G_are_apart : GF l.prog w K mg base "are_apart" 2 2 f_are_apart := ⟨f12, _, _, ok_are_apart F12 T G_greatest_shared, PySem.W.mg_of X G a12, k12, b12, defOf_len⟩
  have G_is_even_number : GF l.prog w K mg base "is_even_number" 1 1 f_is_even_number := ⟨f13, _, _, ok_is_even_number F13 T , PySem.W.mg_of X G a13, k13, b13, defOf_len⟩
  have G_need_even_number : GF l.prog w K mg base "need_even_number" 2 2 f_need_even_number := ⟨f14, _, _, ok_need_even_number F14 T G_is_even_number, PySem.W.mg_of X G a14, k14, b14, defOf_len⟩
  have G_need_pair : GF l.prog w K mg base "need_pair" 3 2 f_need_pair := ⟨f15, _, _, ok_need_pair F15 T G_need_even_number G_are_apart, PySem.W.mg_of X G a15, k15, b15, defOf_len⟩
  have G_central_of : GF l.prog w K mg base "central_of" 4 2 f_central_of := ⟨f16, _, _, ok_central_of F16 T G_need_pair G_christoffel_of, PySem.W.mg_of X G a16, k16, b16, defOf_len⟩
  have G_christoffel : GF l.prog w K mg base "christoffel" 4 2 f_christoffel := ⟨f17, _, _, ok_christoffel F17 T G_need_pair G_christoffel_of, PySem.W.mg_of X G a17, k17, b17, defOf_len⟩
  have G_has_step : GF l.prog w K mg base "has_step" 1 2 f_has_step := ⟨f18, _, _, ok_has_step F18 T , PySem.W.mg_of X G a18, k18, b18, defOf_len⟩
  have G_is_central_word : GF l.prog w K mg base "is_central_word" 2 1 f_is_central_word := ⟨f19, _, _, ok_is_central_word F19 T G_greatest_shared G_has_step, PySem.W.mg_of X G a19, k19, b19, defOf_len⟩
  have G_is_two_word : GF l.prog w K mg base "is_two_word" 1 1 f_is_two_word := ⟨f20, _, _, ok_is_two_word F20 T , PySem.W.mg_of X G a20, k20, b20, defOf_len⟩
  have G_need_two_word : GF l.prog w K mg base "need_two_word" 2 1 f_need_two_word := ⟨f21, _, _, ok_need_two_word F21 T G_is_two_word, PySem.W.mg_of X G a21, k21, b21, defOf_len⟩
  have G_is_central : GF l.prog w K mg base "is_central" 3 1 f_is_central := ⟨f22, _, _, ok_is_central F22 T G_need_two_word G_is_central_word, PySem.W.mg_of X G a22, k22, b22, defOf_len⟩
  have G_is_christoffel_word : GF l.prog w K mg base "is_christoffel_word" 3 1 f_is_christoffel_word := ⟨f23, _, _, ok_is_christoffel_word F23 T G_are_apart G_christoffel_of, PySem.W.mg_of X G a23, k23, b23, defOf_len⟩
  have G_is_christoffel : GF l.prog w K mg base "is_christoffel" 4 1 f_is_christoffel := ⟨f24, _, _, ok_is_christoffel F24 T G_need_two_word G_is_christoffel_word, PySem.W.mg_of X G a24, k24, b24, defOf_len⟩
  have G_parting_of : GF l.prog w K mg base "parting_of" 4 1 f_parting_of := ⟨f25, _, _, ok_parting_of F25 T G_is_christoffel_word, PySem.W.mg_of X G a25, k25, b25, defOf_len⟩
  have G_parted_in_two : GF l.prog w K mg base "parted_in_two" 5 1 f_parted_in_two := ⟨f26, _, _, ok_parted_in_two F26 T G_need_two_word G_is_christoffel_word G_parting_of, PySem.W.mg_of X G a26, k26, b26, defOf_len⟩
  have G_law_right : GF l.prog w K mg base "_law_right" 6 1 f_law_right := ⟨f27, _, _, ok_law_right F27 T G_law_take G_law_divisor G_christoffel G_is_christoffel G_law_is_low G_parted_in_two G_central_of G_law_has_period G_is_central G_law_word G_law_is_middle G_law_all_words, PySem.W.mg_of X G a27, k27, b27, defOf_len⟩
  exact law_imp (ok_law F28 T G_law_jar G_law_right G_parted_in_two G_christoffel G_is_christoffel G_is_central G_central_of) LAW
end K61

set_option Elab.async false
set_option linter.all false
set_option maxRecDepth 100000
set_option maxHeartbeats 4000000
namespace K61
open PySem L2 PyProof.Rows VS
def t_law_jar (v_script : (List Int)) (v_spot : Int) : Option (List Int) :=
  (if (decide (v_spot < ((List.length v_script : Nat) : Int))) = true then ((atI v_script v_spot).bind fun a1 => some a1) else ( some (((991 : Int) * v_spot) + (97 : Int)))).bind fun a3 =>
  (powT (10 : Int) (55 : Int)).bind fun a5 =>
  (powT a5 (5 : Int)).bind fun a7 =>
  (modT (absI a3) a7).bind fun a9 =>
  (some (((((a9 % (2305843009213693907 : Int)) * (127 : Int)) + ((1109 : Int) * v_spot)) + ((71 : Int) * (if (decide (a3 < (0 : Int))) = true then (1 : Int) else 0))) + (43 : Int))).bind fun v_mixed11 =>
  (powT (10 : Int) (17 : Int)).bind fun a13 =>
  some ([(maxI2 (0 : Int) (a9 - a13)), v_mixed11, (0 : Int)] : (List Int))
theorem w_law_jar {v_script : (List Int)} {v_spot : Int} {r : (List Int)} (h : t_law_jar v_script v_spot = some r) {st : List SC} : f_law_jar [.val ((eL D.int) v_script), .val (D.int v_spot)] st = some (.fresh ((eL D.int) r), st) := by
  unfold t_law_jar at h
  refine def_postF rfl ?_
  show Post (m_law_jar ⟨[.val ((eL D.int) v_script), .val (D.int v_spot), .un, .un, .un], st⟩) _
  unfold m_law_jar
  obtain ⟨a3, e4, h⟩ := bnd h
  refine po_asg (Γ2 := ⟨[.val ((eL D.int) v_script), .val (D.int v_spot), .val (D.int a3), .un, .un], st⟩) (q_frz (q_ifP (R := (fun v => .val (D.int v))) (G := (fun v => ⟨[.val ((eL D.int) v_script), .val (D.int v_spot), .un, .un, .un], st⟩)) (q_cmp (q_var rfl) (q_callB (q_cons (q_var rfl) q_nil) rfl (o_lenL (e := D.int))) rfl rfl rfl) e4 (fun v hc hv => by (obtain ⟨a1, e2, hv⟩ := bnd hv; obtain rfl := som hv; exact (q_callB (q_cons (q_bin (q_var rfl) (q_var rfl) rfl rfl (o_ixL (e := D.int) e2)) q_nil) rfl rfl))) (fun v hc hv => by (obtain rfl := som hv; exact (q_bin (q_bin q_c (q_var rfl) rfl rfl (o_mulL rfl)) q_c rfl rfl rfl)))) rfl) rfl ?_
  obtain ⟨a5, e6, h⟩ := bnd h
  obtain ⟨a7, e8, h⟩ := bnd h
  obtain ⟨a9, e10, h⟩ := bnd h
  refine po_asg (Γ2 := ⟨[.val ((eL D.int) v_script), .val (D.int v_spot), .val (D.int a3), .val (D.int a9), .un], st⟩) (q_frz (q_bin (q_callB (q_cons (q_callB (q_cons (q_var rfl) q_nil) rfl rfl) q_nil) rfl rfl) (q_bin (q_bin q_c q_c rfl rfl (o_pow e6)) q_c rfl rfl (o_pow e8)) rfl rfl (o_mod e10)) rfl) rfl ?_
  obtain ⟨v_mixed11, e12, h⟩ := bnd h
  refine po_asg (Γ2 := ⟨[.val ((eL D.int) v_script), .val (D.int v_spot), .val (D.int a3), .val (D.int a9), .val (D.int v_mixed11)], st⟩) (q_eqV (f := D.int) (a := (((((a9 % (2305843009213693907 : Int)) * (127 : Int)) + ((1109 : Int) * v_spot)) + ((71 : Int) * (if (decide (a3 < (0 : Int))) = true then (1 : Int) else 0))) + (43 : Int))) (q_frz (q_bin (q_bin (q_bin (q_bin (q_bin (q_callB (q_cons (q_var rfl) q_nil) rfl rfl) q_c rfl rfl (o_modL (by decide))) q_c rfl rfl (o_mulR rfl)) (q_bin q_c (q_var rfl) rfl rfl (o_mulL rfl)) rfl rfl rfl) (q_bin q_c (q_callB (q_cons (q_ofB (q_cmp (q_var rfl) q_c rfl rfl rfl)) q_nil) rfl rfl) rfl rfl (o_mulL rfl)) rfl rfl rfl) q_c rfl rfl rfl) rfl) (som e12)) rfl ?_
  refine po_bare ?_
  obtain ⟨a13, e14, h⟩ := bnd h
  obtain rfl := som h
  exact po_ret (Γ1 := ⟨[.val ((eL D.int) v_script), .val (D.int v_spot), .val (D.int a3), .val (D.int a9), .val (D.int v_mixed11)], st⟩) (q_list (q_cons (q_callB (q_cons q_c (q_cons (q_bin (q_var rfl) (q_bin q_c q_c rfl rfl (o_pow e14)) rfl rfl rfl) q_nil)) rfl rfl) (q_cons (q_var rfl) (q_cons q_c q_nil))) rfl (lz rfl rfl)) ⟨_, _, rfl, rfl⟩
def t_law_take (v_jar : (List Int)) (v_total : Int) : Option (Int × (List Int)) :=
  (atI v_jar (0 : Int)).bind fun a1 =>
  if (decide ((0 : Int) < a1)) = true then (
    (atI v_jar (0 : Int)).bind fun a3 =>
    (modT a3 v_total).bind fun a5 =>
    (atI v_jar (0 : Int)).bind fun a7 =>
    (fdivT a7 v_total).bind fun a9 =>
    (setT v_jar (0 : Int) a9).bind fun a11 =>
    some (a5, a11)
  ) else (
    (atI v_jar (2 : Int)).bind fun a13 =>
    (setT v_jar (2 : Int) (a13 + (1 : Int))).bind fun a15 =>
    (atI a15 (1 : Int)).bind fun a17 =>
    (atI a15 (2 : Int)).bind fun a19 =>
    (some ((a17 + ((49979687 : Int) * a19)) % (2305843009213693951 : Int))).bind fun v_one21 =>
    (mulT v_one21 v_one21).bind fun a23 =>
    (atI a15 (2 : Int)).bind fun a25 =>
    (some ((((a23 + ((331 : Int) * a25)) % (2305843009213693921 : Int)) * (67867967 : Int)) + v_one21)).bind fun v_two27 =>
    (modT (v_two27 / (65651 : Int)) v_total).bind fun a29 =>
    some (a29, a15)
  )
theorem w_law_take {v_jar : (List Int)} {v_total : Int} {r : (Int × (List Int))} (h : t_law_take v_jar v_total = some r) {st : List SC} {k : Nat} (hk : k < st.length) : f_law_take [.par k, .val (D.int v_total)] (put st k ((eL D.int) v_jar)) = some (.val (D.int r.1), put st k ((eL D.int) r.2)) := by
  unfold t_law_take at h
  refine def_post rfl ?_
  show Post (m_law_take ⟨[.par k, .val (D.int v_total), .un, .un, .un], (put st k ((eL D.int) v_jar))⟩) _
  unfold m_law_take
  obtain ⟨a1, e2, h⟩ := bnd h
  rcases ifo h with ⟨hc, h⟩ | ⟨hc, h⟩
  · refine po_ifT (tr_t (q_cmp (q_bin (q_varP rfl) q_c (pk_par hk) rfl (o_ixL (e := D.int) e2)) q_c rfl rfl rfl) hc) ?_
    refine po_assoc ?_
    obtain ⟨a3, e4, h⟩ := bnd h
    obtain ⟨a5, e6, h⟩ := bnd h
    refine po_asg (Γ2 := ⟨[.par k, .val (D.int v_total), .val (D.int a5), .un, .un], (put st k ((eL D.int) v_jar))⟩) (q_frz (q_bin (q_callB (q_cons (q_bin (q_varP rfl) q_c (pk_par hk) rfl (o_ixL (e := D.int) e4)) q_nil) rfl rfl) (q_var rfl) rfl rfl (o_mod e6)) rfl) rfl ?_
    refine po_assoc ?_
    obtain ⟨a7, e8, h⟩ := bnd h
    obtain ⟨a9, e10, h⟩ := bnd h
    obtain ⟨a11, e12, h⟩ := bnd h
    refine po_asg (Γ2 := ⟨[.par k, .val (D.int v_total), .val (D.int a5), .un, .un], (put st k ((eL D.int) a11))⟩) (q_frz (q_bin (q_bin (q_varP rfl) q_c (pk_par hk) rfl (o_ixL (e := D.int) e8)) (q_var rfl) rfl rfl (o_fdiv e10)) rfl) (gs_setP (e := D.int) (sl := [.par k, .val (D.int v_total), .val (D.int a5), .un, .un]) hk (q_varP rfl) q_c e12) ?_
    obtain rfl := som h
    exact po_ret (Γ1 := ⟨[.par k, .val (D.int v_total), .val (D.int a5), .un, .un], (put st k ((eL D.int) a11))⟩) (q_frz (q_var rfl) rfl) ⟨_, _, rfl, rfl⟩
  · refine po_ifF (tr_f (q_cmp (q_bin (q_varP rfl) q_c (pk_par hk) rfl (o_ixL (e := D.int) e2)) q_c rfl rfl rfl) hc) ?_
    refine po_next ?_
    obtain ⟨a13, e14, h⟩ := bnd h
    obtain ⟨a15, e16, h⟩ := bnd h
    refine po_asg (Γ2 := ⟨[.par k, .val (D.int v_total), .un, .un, .un], (put st k ((eL D.int) a15))⟩) (q_frz (q_bin (q_bin (q_varP rfl) q_c (pk_par hk) rfl (o_ixL (e := D.int) e14)) q_c rfl rfl rfl) rfl) (gs_setP (e := D.int) (sl := [.par k, .val (D.int v_total), .un, .un, .un]) hk (q_varP rfl) q_c e16) ?_
    obtain ⟨a17, e18, h⟩ := bnd h
    obtain ⟨a19, e20, h⟩ := bnd h
    obtain ⟨v_one21, e22, h⟩ := bnd h
    refine po_asg (Γ2 := ⟨[.par k, .val (D.int v_total), .un, .val (D.int v_one21), .un], (put st k ((eL D.int) a15))⟩) (q_eqV (f := D.int) (a := ((a17 + ((49979687 : Int) * a19)) % (2305843009213693951 : Int))) (q_frz (q_bin (q_callB (q_cons (q_bin (q_bin (q_varP rfl) q_c (pk_par hk) rfl (o_ixL (e := D.int) e18)) (q_bin q_c (q_bin (q_varP rfl) q_c (pk_par hk) rfl (o_ixL (e := D.int) e20)) rfl rfl (o_mulL rfl)) rfl rfl rfl) q_nil) rfl rfl) q_c rfl rfl (o_modL (by decide))) rfl) (som e22)) rfl ?_
    obtain ⟨a23, e24, h⟩ := bnd h
    obtain ⟨a25, e26, h⟩ := bnd h
    obtain ⟨v_two27, e28, h⟩ := bnd h
    refine po_asg (Γ2 := ⟨[.par k, .val (D.int v_total), .un, .val (D.int v_one21), .val (D.int v_two27)], (put st k ((eL D.int) a15))⟩) (q_eqV (f := D.int) (a := ((((a23 + ((331 : Int) * a25)) % (2305843009213693921 : Int)) * (67867967 : Int)) + v_one21)) (q_frz (q_bin (q_bin (q_bin (q_callB (q_cons (q_bin (q_bin (q_var rfl) (q_var rfl) rfl rfl (o_mul e24)) (q_bin q_c (q_bin (q_varP rfl) q_c (pk_par hk) rfl (o_ixL (e := D.int) e26)) rfl rfl (o_mulL rfl)) rfl rfl rfl) q_nil) rfl rfl) q_c rfl rfl (o_modL (by decide))) q_c rfl rfl (o_mulR rfl)) (q_var rfl) rfl rfl rfl) rfl) (som e28)) rfl ?_
    refine po_bare ?_
    obtain ⟨a29, e30, h⟩ := bnd h
    obtain rfl := som h
    exact po_ret (Γ1 := ⟨[.par k, .val (D.int v_total), .un, .val (D.int v_one21), .val (D.int v_two27)], (put st k ((eL D.int) a15))⟩) (q_frz (q_bin (q_callB (q_cons (q_bin (q_var rfl) q_c rfl rfl (o_fdivL ⟨by decide, by decide⟩)) q_nil) rfl rfl) (q_var rfl) rfl rfl (o_mod e30)) rfl) ⟨_, _, rfl, rfl⟩
def t_law_divisor (v_one : Int) (v_other : Int) : Option Int :=
  (whileS (fun (s1 : (Int × Int)) => show Option Bool from  some (decide ((0 : Int) < s1.2))) (fun (s1 : (Int × Int)) => show Option ((Int × Int)) from
    (modT s1.1 s1.2).bind fun a2 =>
    some (s1.2, a2)) fuel (v_one, v_other)).bind fun j4 =>
  some j4.1
theorem w_law_divisor {v_one : Int} {v_other : Int} {r : Int} (h : t_law_divisor v_one v_other = some r) {st : List SC} : f_law_divisor [.val (D.int v_one), .val (D.int v_other)] st = some (.val (D.int r), st) := by
  unfold t_law_divisor at h
  refine def_post rfl ?_
  show Post (m_law_divisor ⟨[.val (D.int v_one), .val (D.int v_other)], st⟩) _
  unfold m_law_divisor
  obtain ⟨j4, e5, h⟩ := bnd h
  obtain ⟨Γ9, ef, rfl⟩ := whileS_ok (t := t_law_divisor_1) (b := b_law_divisor_1) (fun (s1 : (Int × Int)) Γ => Γ = ⟨[.val (D.int s1.1), .val (D.int s1.2)], st⟩) (by
      rintro s1 c Γ h rfl
      obtain rfl := som h
      exact (q_cmp (q_var rfl) q_c rfl rfl rfl)
      ) (by
      rintro s1 s9 Γ h rfl
      unfold b_law_divisor_1
      refine po_bare ?_
      obtain ⟨a2, e3, h⟩ := bnd h
      refine po_par (Γ3 := ⟨[.val (D.int s1.2), .val (D.int a2)], st⟩) (q_cons (q_var rfl) (q_cons (q_bin (q_callB (q_cons (q_var rfl) q_nil) rfl rfl) (q_var rfl) rfl rfl (o_mod e3)) q_nil)) rfl rfl ?_
      obtain rfl := som h
      exact po_end ⟨.inl rfl, rfl⟩
      ) e5 (Γ := ⟨[.val (D.int v_one), .val (D.int v_other)], st⟩) rfl
  refine po_while ef ?_
  refine po_bare ?_
  obtain rfl := som h
  exact po_ret (Γ1 := ⟨[.val (D.int j4.1), .val (D.int j4.2)], st⟩) (q_frz (q_var rfl) rfl) ⟨_, _, rfl, rfl⟩
def t_is_even_number (v_value : Int) : Option Bool :=
  some (true && (!false))
theorem w_is_even_number {v_value : Int} {r : Bool} (h : t_is_even_number v_value = some r) {st : List SC} : f_is_even_number [.val (D.int v_value)] st = some (.val (D.bl r), st) := by
  unfold t_is_even_number at h
  refine def_post rfl ?_
  show Post (m_is_even_number ⟨[.val (D.int v_value)], st⟩) _
  unfold m_is_even_number
  refine po_bare ?_
  obtain rfl := som h
  exact po_ret (Γ1 := ⟨[.val (D.int v_value)], st⟩) (q_frz (q_ofB (q_and (q_test (q_callB (q_cons (q_var rfl) (q_cons q_c q_nil)) rfl (isi_of (t := "int") (b := true) rfl (by decide)))) fun _ => (q_not (q_test (q_callB (q_cons (q_var rfl) (q_cons q_c q_nil)) rfl (isi_of (t := "int") (b := false) rfl (by decide))))))) rfl) ⟨_, _, rfl, rfl⟩
def t_need_even_number (v_number : Int) (v_most : Int) : Option Unit :=
  (t_is_even_number v_number).bind fun a1 =>
  if ((!a1) || (!((decide ((0 : Int) ≤ v_number)) && (decide (v_number ≤ v_most))))) = true then (
    none
  ) else (
    some ()
  )
theorem w_need_even_number {v_number : Int} {v_most : Int} {r : Unit} (h : t_need_even_number v_number v_most = some r) {st : List SC} : f_need_even_number [.val (D.int v_number), .val (D.int v_most)] st = some (.val (eN r), st) := by
  unfold t_need_even_number at h
  refine def_postN rfl ?_
  show Post (m_need_even_number ⟨[.val (D.int v_number), .val (D.int v_most)], st⟩) _
  unfold m_need_even_number
  refine po_bare ?_
  obtain ⟨a1, e2, h⟩ := bnd h
  rcases ifo h with ⟨hc, h⟩ | ⟨hc, h⟩
  · refine po_ifT (tr_t (q_or (q_not (q_test (q_call (q_cons (q_frz (q_var rfl) rfl) q_nil) rfl (w_is_even_number e2) (nl_v (nl_v nl_0))))) fun _ => (q_not (q_chain q_c (q_var rfl) rfl rfl rfl (q_var rfl) rfl rfl))) hc) ?_
    cases h
  · refine po_ifF (tr_f (q_or (q_not (q_test (q_call (q_cons (q_frz (q_var rfl) rfl) q_nil) rfl (w_is_even_number e2) (nl_v (nl_v nl_0))))) fun _ => (q_not (q_chain q_c (q_var rfl) rfl rfl rfl (q_var rfl) rfl rfl))) hc) ?_
    refine po_next ?_
    obtain rfl := som h
    exact po_end (.inr ⟨rfl, _, rfl, rfl⟩)
def t_greatest_shared (v_one : Int) (v_other : Int) : Option Int :=
  (whileS (fun (s1 : (Int × Int)) => show Option Bool from  some (decide ((0 : Int) < s1.2))) (fun (s1 : (Int × Int)) => show Option ((Int × Int)) from
    (modT s1.1 s1.2).bind fun a2 =>
    some (s1.2, a2)) fuel (v_one, v_other)).bind fun j4 =>
  some j4.1
theorem w_greatest_shared {v_one : Int} {v_other : Int} {r : Int} (h : t_greatest_shared v_one v_other = some r) {st : List SC} : f_greatest_shared [.val (D.int v_one), .val (D.int v_other)] st = some (.val (D.int r), st) := by
  unfold t_greatest_shared at h
  refine def_post rfl ?_
  show Post (m_greatest_shared ⟨[.val (D.int v_one), .val (D.int v_other)], st⟩) _
  unfold m_greatest_shared
  obtain ⟨j4, e5, h⟩ := bnd h
  obtain ⟨Γ9, ef, rfl⟩ := whileS_ok (t := t_greatest_shared_1) (b := b_greatest_shared_1) (fun (s1 : (Int × Int)) Γ => Γ = ⟨[.val (D.int s1.1), .val (D.int s1.2)], st⟩) (by
      rintro s1 c Γ h rfl
      obtain rfl := som h
      exact (q_cmp (q_var rfl) q_c rfl rfl rfl)
      ) (by
      rintro s1 s9 Γ h rfl
      unfold b_greatest_shared_1
      refine po_bare ?_
      obtain ⟨a2, e3, h⟩ := bnd h
      refine po_par (Γ3 := ⟨[.val (D.int s1.2), .val (D.int a2)], st⟩) (q_cons (q_var rfl) (q_cons (q_bin (q_var rfl) (q_var rfl) rfl rfl (o_mod e3)) q_nil)) rfl rfl ?_
      obtain rfl := som h
      exact po_end ⟨.inl rfl, rfl⟩
      ) e5 (Γ := ⟨[.val (D.int v_one), .val (D.int v_other)], st⟩) rfl
  refine po_while ef ?_
  refine po_bare ?_
  obtain rfl := som h
  exact po_ret (Γ1 := ⟨[.val (D.int j4.1), .val (D.int j4.2)], st⟩) (q_frz (q_var rfl) rfl) ⟨_, _, rfl, rfl⟩
def t_are_apart (v_x : Int) (v_y : Int) : Option Bool :=
  (t_greatest_shared v_x v_y).bind fun a1 =>
  some (a1 == (1 : Int))
theorem w_are_apart {v_x : Int} {v_y : Int} {r : Bool} (h : t_are_apart v_x v_y = some r) {st : List SC} : f_are_apart [.val (D.int v_x), .val (D.int v_y)] st = some (.val (D.bl r), st) := by
  unfold t_are_apart at h
  refine def_post rfl ?_
  show Post (m_are_apart ⟨[.val (D.int v_x), .val (D.int v_y)], st⟩) _
  unfold m_are_apart
  refine po_bare ?_
  obtain ⟨a1, e2, h⟩ := bnd h
  obtain rfl := som h
  exact po_ret (Γ1 := ⟨[.val (D.int v_x), .val (D.int v_y)], st⟩) (q_frz (q_ofB (q_cmp (q_call (q_cons (q_frz (q_var rfl) rfl) (q_cons (q_frz (q_var rfl) rfl) q_nil)) rfl (w_greatest_shared e2) (nl_v (nl_v nl_0))) q_c rfl rfl (o_eq (e := D.int) ee_I a1 (1 : Int)))) rfl) ⟨_, _, rfl, rfl⟩
def t_need_pair (v_x : Int) (v_y : Int) : Option Unit :=
  (t_need_even_number v_x (40 : Int)).bind fun a1 =>
  (t_need_even_number v_y (40 : Int)).bind fun a3 =>
  (if (decide ((40 : Int) < (v_x + v_y))) = true then some true else ((t_are_apart v_x v_y).bind fun a5 => some (!a5))).bind fun a7 =>
  if a7 = true then (
    none
  ) else (
    some ()
  )
theorem w_need_pair {v_x : Int} {v_y : Int} {r : Unit} (h : t_need_pair v_x v_y = some r) {st : List SC} : f_need_pair [.val (D.int v_x), .val (D.int v_y)] st = some (.val (eN r), st) := by
  unfold t_need_pair at h
  refine def_postN rfl ?_
  show Post (m_need_pair ⟨[.val (D.int v_x), .val (D.int v_y)], st⟩) _
  unfold m_need_pair
  obtain ⟨a1, e2, h⟩ := bnd h
  refine po_drop (Γ1 := ⟨[.val (D.int v_x), .val (D.int v_y)], st⟩) (q_call (q_cons (q_frz (q_var rfl) rfl) (q_cons (q_frz q_c rfl) q_nil)) rfl (w_need_even_number e2) (nl_v (nl_v nl_0))) ?_
  obtain ⟨a3, e4, h⟩ := bnd h
  refine po_drop (Γ1 := ⟨[.val (D.int v_x), .val (D.int v_y)], st⟩) (q_call (q_cons (q_frz (q_var rfl) rfl) (q_cons (q_frz q_c rfl) q_nil)) rfl (w_need_even_number e4) (nl_v (nl_v nl_0))) ?_
  refine po_bare ?_
  obtain ⟨a7, e8, h⟩ := bnd h
  rcases ifo h with ⟨hc, h⟩ | ⟨hc, h⟩
  · refine po_ifT (tr_t (q_orP (B := (fun v => v)) (G := (fun v => ⟨[.val (D.int v_x), .val (D.int v_y)], st⟩)) (q_cmp (q_bin (q_var rfl) (q_var rfl) rfl rfl rfl) q_c rfl rfl rfl) e8 (fun v hc hv => by (obtain ⟨a5, e6, hv⟩ := bnd hv; obtain rfl := som hv; exact (q_not (q_test (q_call (q_cons (q_frz (q_var rfl) rfl) (q_cons (q_frz (q_var rfl) rfl) q_nil)) rfl (w_are_apart e6) (nl_v (nl_v nl_0))))))) ⟨rfl, rfl⟩) hc) ?_
    cases h
  · refine po_ifF (tr_f (q_orP (B := (fun v => v)) (G := (fun v => ⟨[.val (D.int v_x), .val (D.int v_y)], st⟩)) (q_cmp (q_bin (q_var rfl) (q_var rfl) rfl rfl rfl) q_c rfl rfl rfl) e8 (fun v hc hv => by (obtain ⟨a5, e6, hv⟩ := bnd hv; obtain rfl := som hv; exact (q_not (q_test (q_call (q_cons (q_frz (q_var rfl) rfl) (q_cons (q_frz (q_var rfl) rfl) q_nil)) rfl (w_are_apart e6) (nl_v (nl_v nl_0))))))) ⟨rfl, rfl⟩) hc) ?_
    refine po_next ?_
    obtain rfl := som h
    exact po_end (.inr ⟨rfl, _, rfl, rfl⟩)
def t_christoffel_of (v_x : Int) (v_y : Int) : Option (List Nat) :=
  (some (v_x + v_y)).bind fun v_size1 =>
  (range1T v_size1).bind fun a3 =>
  (lcM (fun (x5 : Int) => (mulT (x5 + (1 : Int)) v_y).bind fun a6 => (fdivT a6 v_size1).bind fun a8 => (mulT x5 v_y).bind fun a10 => (fdivT a10 v_size1).bind fun a12 => some (if ((a8 - a12) == (1 : Int)) = true then ([98] : List Nat) else ([97] : List Nat))) a3).bind fun a14 =>
  (joinT ([] : List Nat) a14).bind fun a16 =>
  some a16
theorem w_christoffel_of {v_x : Int} {v_y : Int} {r : (List Nat)} (h : t_christoffel_of v_x v_y = some r) {st : List SC} : f_christoffel_of [.val (D.int v_x), .val (D.int v_y)] st = some (.val (D.str r), st) := by
  unfold t_christoffel_of at h
  refine def_post rfl ?_
  show Post (m_christoffel_of ⟨[.val (D.int v_x), .val (D.int v_y), .un, .un], st⟩) _
  unfold m_christoffel_of
  obtain ⟨v_size1, e2, h⟩ := bnd h
  refine po_asg (Γ2 := ⟨[.val (D.int v_x), .val (D.int v_y), .val (D.int v_size1), .un], st⟩) (q_eqV (f := D.int) (a := (v_x + v_y)) (q_frz (q_bin (q_var rfl) (q_var rfl) rfl rfl rfl) rfl) (som e2)) rfl ?_
  refine po_bare ?_
  obtain ⟨a3, e4, h⟩ := bnd h
  obtain ⟨a14, e15, h⟩ := bnd h
  obtain ⟨a16, e17, h⟩ := bnd h
  obtain rfl := som h
  exact po_ret (Γ1 := ⟨[.val (D.int v_x), .val (D.int v_y), .val (D.int v_size1), .un], st⟩) (q_frz (q_meth q_c rfl rfl (q_cons (q_lcM D.int D.str (i_range1 (q_cons (q_var rfl) q_nil) e4) rfl (fun x5 y hy => by (obtain ⟨a6, e7, hy⟩ := bnd hy; obtain ⟨a8, e9, hy⟩ := bnd hy; obtain ⟨a10, e11, hy⟩ := bnd hy; obtain ⟨a12, e13, hy⟩ := bnd hy; obtain rfl := som hy; exact turn_yes (Γ1 := ⟨[.val (D.int v_x), .val (D.int v_y), .val (D.int v_size1), .val (D.int x5)], st⟩) rfl rfl (q_ifv (e := D.str) (u := ([98] : List Nat)) (v := ([97] : List Nat)) (q_cmp (q_bin (q_bin (q_bin (q_bin (q_var rfl) q_c rfl rfl rfl) (q_var rfl) rfl rfl (o_mul e7)) (q_var rfl) rfl rfl (o_fdiv e9)) (q_bin (q_bin (q_var rfl) (q_var rfl) rfl rfl (o_mul e11)) (q_var rfl) rfl rfl (o_fdiv e13)) rfl rfl rfl) q_c rfl rfl (o_eq (e := D.int) ee_I (a8 - a12) (1 : Int))) (fun _ => q_c) (fun _ => q_c)) rfl rfl)) e15) q_nil) rfl rfl (o_join e17)) rfl) ⟨_, _, rfl, rfl⟩
def t_christoffel (v_x : Int) (v_y : Int) : Option (List Nat) :=
  (t_need_pair v_x v_y).bind fun a1 =>
  (t_christoffel_of v_x v_y).bind fun a3 =>
  some a3
theorem w_christoffel {v_x : Int} {v_y : Int} {r : (List Nat)} (h : t_christoffel v_x v_y = some r) {st : List SC} : f_christoffel [.val (D.int v_x), .val (D.int v_y)] st = some (.val (D.str r), st) := by
  unfold t_christoffel at h
  refine def_post rfl ?_
  show Post (m_christoffel ⟨[.val (D.int v_x), .val (D.int v_y)], st⟩) _
  unfold m_christoffel
  obtain ⟨a1, e2, h⟩ := bnd h
  refine po_drop (Γ1 := ⟨[.val (D.int v_x), .val (D.int v_y)], st⟩) (q_call (q_cons (q_frz (q_var rfl) rfl) (q_cons (q_frz (q_var rfl) rfl) q_nil)) rfl (w_need_pair e2) (nl_v (nl_v nl_0))) ?_
  refine po_bare ?_
  obtain ⟨a3, e4, h⟩ := bnd h
  obtain rfl := som h
  exact po_ret (Γ1 := ⟨[.val (D.int v_x), .val (D.int v_y)], st⟩) (q_frz (q_call (q_cons (q_frz (q_var rfl) rfl) (q_cons (q_frz (q_var rfl) rfl) q_nil)) rfl (w_christoffel_of e4) (nl_v (nl_v nl_0))) rfl) ⟨_, _, rfl, rfl⟩
def t_is_two_word (v_value : (List Nat)) : Option Bool :=
  (if true = true then ((if (decide (((List.length v_value : Nat) : Int) ≤ (40 : Int))) = true then ((lcM (fun (x1 : (List Nat)) => (inST x1 ([97, 98] : List Nat)).bind fun a2 => some a2) (signsT v_value)).bind fun a4 => some (List.all a4 id)) else some false).bind fun a6 => some a6) else some false).bind fun a8 =>
  some a8
theorem w_is_two_word {v_value : (List Nat)} {r : Bool} (h : t_is_two_word v_value = some r) {st : List SC} : f_is_two_word [.val (D.str v_value)] st = some (.val (D.bl r), st) := by
  unfold t_is_two_word at h
  refine def_post rfl ?_
  show Post (m_is_two_word ⟨[.val (D.str v_value), .un], st⟩) _
  unfold m_is_two_word
  refine po_bare ?_
  obtain ⟨a8, e9, h⟩ := bnd h
  obtain rfl := som h
  exact po_ret (Γ1 := ⟨[.val (D.str v_value), .un], st⟩) (q_frz (q_ofB (q_andP (B := (fun v => v)) (G := (fun v => ⟨[.val (D.str v_value), .un], st⟩)) (q_test (q_callB (q_cons (q_var rfl) (q_cons q_c q_nil)) rfl (isi_of (t := "str") (b := true) rfl (by decide)))) e9 (fun v hc hv => by (obtain ⟨a6, e7, hv⟩ := bnd hv; obtain rfl := som hv; exact (q_andP (B := (fun v => v)) (G := (fun v => ⟨[.val (D.str v_value), .un], st⟩)) (q_cmp (q_callB (q_cons (q_var rfl) q_nil) rfl rfl) q_c rfl rfl rfl) e7 (fun v hc hv => by (obtain ⟨a4, e5, hv⟩ := bnd hv; obtain rfl := som hv; exact (q_test (q_callB (q_cons (q_lcM D.str D.bl (i_seqS (q_var rfl) rfl) rfl (fun x1 y hy => by (obtain ⟨a2, e3, hy⟩ := bnd hy; obtain rfl := som hy; exact turn_yes (Γ1 := ⟨[.val (D.str v_value), .val (D.str x1)], st⟩) rfl rfl (q_ofB (q_cmp (q_var rfl) q_c rfl rfl (o_inS e3))) rfl rfl)) e5) q_nil) rfl o_all)))) ⟨rfl, rfl⟩))) ⟨rfl, rfl⟩)) rfl) ⟨_, _, rfl, rfl⟩
def t_need_two_word (v_word : (List Nat)) : Option Unit :=
  (t_is_two_word v_word).bind fun a1 =>
  if (!a1) = true then (
    none
  ) else (
    some ()
  )
theorem w_need_two_word {v_word : (List Nat)} {r : Unit} (h : t_need_two_word v_word = some r) {st : List SC} : f_need_two_word [.val (D.str v_word)] st = some (.val (eN r), st) := by
  unfold t_need_two_word at h
  refine def_postN rfl ?_
  show Post (m_need_two_word ⟨[.val (D.str v_word)], st⟩) _
  unfold m_need_two_word
  refine po_bare ?_
  obtain ⟨a1, e2, h⟩ := bnd h
  rcases ifo h with ⟨hc, h⟩ | ⟨hc, h⟩
  · refine po_ifT (tr_t (q_not (q_test (q_call (q_cons (q_frz (q_var rfl) rfl) q_nil) rfl (w_is_two_word e2) (nl_v nl_0)))) hc) ?_
    cases h
  · refine po_ifF (tr_f (q_not (q_test (q_call (q_cons (q_frz (q_var rfl) rfl) q_nil) rfl (w_is_two_word e2) (nl_v nl_0)))) hc) ?_
    refine po_next ?_
    obtain rfl := som h
    exact po_end (.inr ⟨rfl, _, rfl, rfl⟩)
def t_is_christoffel_word (v_word : (List Nat)) : Option Bool :=
  (some (countS v_word ([97] : List Nat))).bind fun v_x1 =>
  (some (countS v_word ([98] : List Nat))).bind fun v_y3 =>
  (t_are_apart v_x1 v_y3).bind fun a5 =>
  (if a5 = true then ((t_christoffel_of v_x1 v_y3).bind fun a7 => some (a7 == v_word)) else some false).bind fun a9 =>
  some a9
theorem w_is_christoffel_word {v_word : (List Nat)} {r : Bool} (h : t_is_christoffel_word v_word = some r) {st : List SC} : f_is_christoffel_word [.val (D.str v_word)] st = some (.val (D.bl r), st) := by
  unfold t_is_christoffel_word at h
  refine def_post rfl ?_
  show Post (m_is_christoffel_word ⟨[.val (D.str v_word), .un, .un], st⟩) _
  unfold m_is_christoffel_word
  obtain ⟨v_x1, e2, h⟩ := bnd h
  obtain ⟨v_y3, e4, h⟩ := bnd h
  refine po_par (Γ3 := ⟨[.val (D.str v_word), .val (D.int v_x1), .val (D.int v_y3)], st⟩) (q_cons (q_eqV (f := D.int) (a := (countS v_word ([97] : List Nat))) (q_meth (q_var rfl) rfl rfl (q_cons q_c q_nil) rfl rfl rfl) (som e2)) (q_cons (q_eqV (f := D.int) (a := (countS v_word ([98] : List Nat))) (q_meth (q_var rfl) rfl rfl (q_cons q_c q_nil) rfl rfl rfl) (som e4)) q_nil)) rfl rfl ?_
  refine po_bare ?_
  obtain ⟨a5, e6, h⟩ := bnd h
  obtain ⟨a9, e10, h⟩ := bnd h
  obtain rfl := som h
  exact po_ret (Γ1 := ⟨[.val (D.str v_word), .val (D.int v_x1), .val (D.int v_y3)], st⟩) (q_frz (q_ofB (q_andP (B := (fun v => v)) (G := (fun v => ⟨[.val (D.str v_word), .val (D.int v_x1), .val (D.int v_y3)], st⟩)) (q_test (q_call (q_cons (q_frz (q_var rfl) rfl) (q_cons (q_frz (q_var rfl) rfl) q_nil)) rfl (w_are_apart e6) (nl_v (nl_v (nl_v nl_0))))) e10 (fun v hc hv => by (obtain ⟨a7, e8, hv⟩ := bnd hv; obtain rfl := som hv; exact (q_cmp (q_call (q_cons (q_frz (q_var rfl) rfl) (q_cons (q_frz (q_var rfl) rfl) q_nil)) rfl (w_christoffel_of e8) (nl_v (nl_v (nl_v nl_0)))) (q_var rfl) rfl rfl (o_eq (e := D.str) ee_S a7 v_word)))) ⟨rfl, rfl⟩)) rfl) ⟨_, _, rfl, rfl⟩
def t_is_christoffel (v_word : (List Nat)) : Option Bool :=
  (t_need_two_word v_word).bind fun a1 =>
  (t_is_christoffel_word v_word).bind fun a3 =>
  some a3
theorem w_is_christoffel {v_word : (List Nat)} {r : Bool} (h : t_is_christoffel v_word = some r) {st : List SC} : f_is_christoffel [.val (D.str v_word)] st = some (.val (D.bl r), st) := by
  unfold t_is_christoffel at h
  refine def_post rfl ?_
  show Post (m_is_christoffel ⟨[.val (D.str v_word)], st⟩) _
  unfold m_is_christoffel
  obtain ⟨a1, e2, h⟩ := bnd h
  refine po_drop (Γ1 := ⟨[.val (D.str v_word)], st⟩) (q_call (q_cons (q_frz (q_var rfl) rfl) q_nil) rfl (w_need_two_word e2) (nl_v nl_0)) ?_
  refine po_bare ?_
  obtain ⟨a3, e4, h⟩ := bnd h
  obtain rfl := som h
  exact po_ret (Γ1 := ⟨[.val (D.str v_word)], st⟩) (q_frz (q_call (q_cons (q_frz (q_var rfl) rfl) q_nil) rfl (w_is_christoffel_word e4) (nl_v nl_0)) rfl) ⟨_, _, rfl, rfl⟩
def t_law_even (v_word : (List Nat)) : Option Bool :=
  (range2T (1 : Int) ((List.length v_word : Nat) : Int)).bind fun a1 =>
  (forR (fun (s3 : Unit) (x6 : Int) => show Option (FlT Unit Bool) from
    (range1T ((((List.length v_word : Nat) : Int) - x6) + (1 : Int))).bind fun a7 =>
    (lcM (fun (x9 : Int) =>  some (countS (cutL v_word (some x9) (some (x9 + x6))) ([98] : List Nat))) a7).bind fun a10 =>
    (maxT a10).bind fun a12 =>
    (minT a10).bind fun a14 =>
    if (decide ((1 : Int) < (a12 - a14))) = true then (
      some (.ret false)
    ) else (
      some (.nx ())
    )) a1 (() : Unit)).bind fun o20 => aftR o20 (fun r21 => some r21) fun j16 =>
  some true
theorem w_law_even {v_word : (List Nat)} {r : Bool} (h : t_law_even v_word = some r) {st : List SC} : f_law_even [.val (D.str v_word)] st = some (.val (D.bl r), st) := by
  unfold t_law_even at h
  refine def_post rfl ?_
  show Post (m_law_even ⟨[.val (D.str v_word), .un, .un, .un], st⟩) _
  unfold m_law_even
  obtain ⟨a1, e2, h⟩ := bnd h
  obtain ⟨o20, e17, h⟩ := bnd h
  obtain ⟨p9, ef, hl⟩ := forR_ok (e := D.int) (g := (asgn 1)) (b := b_law_even_1) (fun (s3 : Unit) Γ => ∃ q4 q5, Γ = ⟨[.val (D.str v_word), q2c q4, q2c q5, .un], st⟩) (Q := (fun (r : Bool) p => RetQ false (D.bl r) st p)) (fun r p hp => retQ_out hp) (by
      rintro s3 x6 s9 Γ h ⟨q4, q5, rfl⟩
      refine ⟨⟨[.val (D.str v_word), .val (D.int x6), q2c q5, .un], st⟩, rfl, ?_⟩
      unfold b_law_even_1
      obtain ⟨a7, e8, h⟩ := bnd h
      obtain ⟨a10, e11, h⟩ := bnd h
      refine po_asg (Γ2 := ⟨[.val (D.str v_word), .val (D.int x6), .val ((eL D.int) a10), .un], st⟩) (q_frz (q_lcM D.int D.int (i_range1 (q_cons (q_bin (q_bin (q_callB (q_cons (q_var rfl) q_nil) rfl rfl) (q_var rfl) rfl rfl rfl) q_c rfl rfl rfl) q_nil) e8) rfl (fun x9 y hy => by (obtain rfl := som hy; exact turn_yes (Γ1 := ⟨[.val (D.str v_word), .val (D.int x6), q2c q5, .val (D.int x9)], st⟩) rfl rfl (q_meth (q_sl (q_var rfl) (q_pS (q_var rfl)) (q_pS (q_bin (q_var rfl) (q_var rfl) rfl rfl rfl)) rfl o_slS) rfl rfl (q_cons q_c q_nil) rfl rfl rfl) rfl rfl)) e11) rfl) rfl ?_
      refine po_bare ?_
      obtain ⟨a12, e13, h⟩ := bnd h
      obtain ⟨a14, e15, h⟩ := bnd h
      rcases ifo h with ⟨hc, h⟩ | ⟨hc, h⟩
      · refine po_ifT (tr_t (q_cmp (q_bin (q_callB (q_cons (q_var rfl) q_nil) rfl (o_max e13)) (q_callB (q_cons (q_var rfl) q_nil) rfl (o_min e15)) rfl rfl rfl) q_c rfl rfl rfl) hc) ?_
        obtain rfl := som h
        exact po_ret (Γ1 := ⟨[.val (D.str v_word), .val (D.int x6), .val ((eL D.int) a10), .un], st⟩) (q_frz q_c rfl) ⟨_, _, rfl, rfl⟩
      · refine po_ifF (tr_f (q_cmp (q_bin (q_callB (q_cons (q_var rfl) q_nil) rfl (o_max e13)) (q_callB (q_cons (q_var rfl) q_nil) rfl (o_min e15)) rfl rfl rfl) q_c rfl rfl rfl) hc) ?_
        refine po_next ?_
        obtain rfl := som h
        exact po_end ⟨.inl rfl, .val (D.int x6), .val ((eL D.int) a10), rfl⟩
      ) e17 (Γ := ⟨[.val (D.str v_word), .un, .un, .un], st⟩) ⟨.un, .un, rfl⟩
  replace h := aftR_some h
  rcases h with ⟨r21, rfl, h⟩ | ⟨j16, rfl, h⟩
  · obtain ⟨v9, Γ9, rfl, hr⟩ := hl
    obtain rfl := som h
    exact po_forX (i_range2 (q_cons q_c (q_cons (q_callB (q_cons (q_var rfl) q_nil) rfl rfl) q_nil)) e2) ef ⟨v9, Γ9, rfl, hr⟩
  · obtain ⟨fl9, Γ9⟩ := p9
    obtain ⟨hf9, q18, q19, hg9⟩ := hl
    dsimp only at hf9 hg9
    subst hf9 hg9
    refine po_for (i_range2 (q_cons q_c (q_cons (q_callB (q_cons (q_var rfl) q_nil) rfl rfl) q_nil)) e2) ef ?_
    refine po_bare ?_
    obtain rfl := som h
    exact po_ret (Γ1 := ⟨[.val (D.str v_word), q2c q18, q2c q19, .un], st⟩) (q_frz q_c rfl) ⟨_, _, rfl, rfl⟩
def t_law_is_low (v_word : (List Nat)) : Option Bool :=
  (t_law_even v_word).bind fun a1 =>
  (if a1 = true then ((range2T (1 : Int) ((List.length v_word : Nat) : Int)).bind fun a3 => (lcT (fun (x5 : Int) =>  if (!decide (v_word < (cutL v_word (some x5) none))) = true then ( some (some x5)) else some none) a3).bind fun a6 => some (a6 == ([] : (List Int)))) else some false).bind fun a8 =>
  some a8
theorem w_law_is_low {v_word : (List Nat)} {r : Bool} (h : t_law_is_low v_word = some r) {st : List SC} : f_law_is_low [.val (D.str v_word)] st = some (.val (D.bl r), st) := by
  unfold t_law_is_low at h
  refine def_post rfl ?_
  show Post (m_law_is_low ⟨[.val (D.str v_word), .un], st⟩) _
  unfold m_law_is_low
  refine po_bare ?_
  obtain ⟨a1, e2, h⟩ := bnd h
  obtain ⟨a8, e9, h⟩ := bnd h
  obtain rfl := som h
  exact po_ret (Γ1 := ⟨[.val (D.str v_word), .un], st⟩) (q_frz (q_ofB (q_andP (B := (fun v => v)) (G := (fun v => ⟨[.val (D.str v_word), .un], st⟩)) (q_test (q_call (q_cons (q_frz (q_var rfl) rfl) q_nil) rfl (w_law_even e2) (nl_v (nl_u nl_0)))) e9 (fun v hc hv => by (obtain ⟨a3, e4, hv⟩ := bnd hv; obtain ⟨a6, e7, hv⟩ := bnd hv; obtain rfl := som hv; exact (q_cmp (q_lcT D.int D.int (i_range2 (q_cons q_c (q_cons (q_callB (q_cons (q_var rfl) q_nil) rfl rfl) q_nil)) e4) rfl (fun x5 y hy => by (rcases ifo hy with ⟨hc, hy⟩ | ⟨hc, hy⟩; exact (by (obtain rfl := som hy; exact turn_yes (Γ1 := ⟨[.val (D.str v_word), .val (D.int x5)], st⟩) rfl (tr_t (q_cmp (q_sl (q_var rfl) (q_pS (q_var rfl)) q_pN rfl o_slS) (q_var rfl) rfl rfl rfl) hc) (q_var rfl) rfl rfl)); exact (by (obtain rfl := som hy; exact turn_no (Γ1 := ⟨[.val (D.str v_word), .val (D.int x5)], st⟩) rfl (tr_f (q_cmp (q_sl (q_var rfl) (q_pS (q_var rfl)) q_pN rfl o_slS) (q_var rfl) rfl rfl rfl) hc) rfl)))) e7) (q_list q_nil rfl (lz rfl rfl)) rfl rfl (o_eq (e := (eL D.int)) (ee_L ee_I) a6 ([] : (List Int)))))) ⟨rfl, rfl⟩)) rfl) ⟨_, _, rfl, rfl⟩
def t_parting_of (v_word : (List Nat)) : Option (Option ((List Nat) × (List Nat))) :=
  (range2T (1 : Int) ((List.length v_word : Nat) : Int)).bind fun a1 =>
  (forR (fun (s3 : Unit) (x5 : Int) => show Option (FlT Unit (Option ((List Nat) × (List Nat)))) from
    (t_is_christoffel_word (cutL v_word none (some x5))).bind fun a6 =>
    (if a6 = true then ((t_is_christoffel_word (cutL v_word (some x5) none)).bind fun a8 => some a8) else some false).bind fun a10 =>
    if a10 = true then (
      some (.ret (some ((cutL v_word none (some x5)), (cutL v_word (some x5) none))))
    ) else (
      some (.nx ())
    )) a1 (() : Unit)).bind fun o15 => aftR o15 (fun r16 => some r16) fun j12 =>
  some (none : (Option ((List Nat) × (List Nat))))
theorem w_parting_of {v_word : (List Nat)} {r : (Option ((List Nat) × (List Nat)))} (h : t_parting_of v_word = some r) {st : List SC} : f_parting_of [.val (D.str v_word)] st = some (.val ((eO (eP2 D.str D.str)) r), st) := by
  unfold t_parting_of at h
  refine def_post rfl ?_
  show Post (m_parting_of ⟨[.val (D.str v_word), .un], st⟩) _
  unfold m_parting_of
  obtain ⟨a1, e2, h⟩ := bnd h
  obtain ⟨o15, e13, h⟩ := bnd h
  obtain ⟨p9, ef, hl⟩ := forR_ok (e := D.int) (g := (asgn 1)) (b := b_parting_of_1) (fun (s3 : Unit) Γ => ∃ q4, Γ = ⟨[.val (D.str v_word), q2c q4], st⟩) (Q := (fun (r : (Option ((List Nat) × (List Nat)))) p => RetQ false ((eO (eP2 D.str D.str)) r) st p)) (fun r p hp => retQ_out hp) (by
      rintro s3 x5 s9 Γ h ⟨q4, rfl⟩
      refine ⟨⟨[.val (D.str v_word), .val (D.int x5)], st⟩, rfl, ?_⟩
      unfold b_parting_of_1
      refine po_bare ?_
      obtain ⟨a6, e7, h⟩ := bnd h
      obtain ⟨a10, e11, h⟩ := bnd h
      rcases ifo h with ⟨hc, h⟩ | ⟨hc, h⟩
      · refine po_ifT (tr_t (q_andP (B := (fun v => v)) (G := (fun v => ⟨[.val (D.str v_word), .val (D.int x5)], st⟩)) (q_test (q_call (q_cons (q_frz (q_sl (q_var rfl) q_pN (q_pS (q_var rfl)) rfl o_slS) rfl) q_nil) rfl (w_is_christoffel_word e7) (nl_v (nl_v nl_0)))) e11 (fun v hc hv => by (obtain ⟨a8, e9, hv⟩ := bnd hv; obtain rfl := som hv; exact (q_test (q_call (q_cons (q_frz (q_sl (q_var rfl) (q_pS (q_var rfl)) q_pN rfl o_slS) rfl) q_nil) rfl (w_is_christoffel_word e9) (nl_v (nl_v nl_0)))))) ⟨rfl, rfl⟩) hc) ?_
        obtain rfl := som h
        exact po_ret (Γ1 := ⟨[.val (D.str v_word), .val (D.int x5)], st⟩) (q_frz (q_tup (q_cons (q_sl (q_var rfl) q_pN (q_pS (q_var rfl)) rfl o_slS) (q_cons (q_sl (q_var rfl) (q_pS (q_var rfl)) q_pN rfl o_slS) q_nil)) rfl (lz rfl rfl)) rfl) ⟨_, _, rfl, rfl⟩
      · refine po_ifF (tr_f (q_andP (B := (fun v => v)) (G := (fun v => ⟨[.val (D.str v_word), .val (D.int x5)], st⟩)) (q_test (q_call (q_cons (q_frz (q_sl (q_var rfl) q_pN (q_pS (q_var rfl)) rfl o_slS) rfl) q_nil) rfl (w_is_christoffel_word e7) (nl_v (nl_v nl_0)))) e11 (fun v hc hv => by (obtain ⟨a8, e9, hv⟩ := bnd hv; obtain rfl := som hv; exact (q_test (q_call (q_cons (q_frz (q_sl (q_var rfl) (q_pS (q_var rfl)) q_pN rfl o_slS) rfl) q_nil) rfl (w_is_christoffel_word e9) (nl_v (nl_v nl_0)))))) ⟨rfl, rfl⟩) hc) ?_
        refine po_next ?_
        obtain rfl := som h
        exact po_end ⟨.inl rfl, .val (D.int x5), rfl⟩
      ) e13 (Γ := ⟨[.val (D.str v_word), .un], st⟩) ⟨.un, rfl⟩
  replace h := aftR_some h
  rcases h with ⟨r16, rfl, h⟩ | ⟨j12, rfl, h⟩
  · obtain ⟨v9, Γ9, rfl, hr⟩ := hl
    obtain rfl := som h
    exact po_forX (i_range2 (q_cons q_c (q_cons (q_callB (q_cons (q_var rfl) q_nil) rfl rfl) q_nil)) e2) ef ⟨v9, Γ9, rfl, hr⟩
  · obtain ⟨fl9, Γ9⟩ := p9
    obtain ⟨hf9, q14, hg9⟩ := hl
    dsimp only at hf9 hg9
    subst hf9 hg9
    refine po_for (i_range2 (q_cons q_c (q_cons (q_callB (q_cons (q_var rfl) q_nil) rfl rfl) q_nil)) e2) ef ?_
    refine po_bare ?_
    obtain rfl := som h
    exact po_ret (Γ1 := ⟨[.val (D.str v_word), q2c q14], st⟩) (q_frz q_c rfl) ⟨_, _, rfl, rfl⟩
def t_parted_in_two (v_word : (List Nat)) : Option (Option ((List Nat) × (List Nat))) :=
  (t_need_two_word v_word).bind fun a1 =>
  (if (decide (((List.length v_word : Nat) : Int) < (2 : Int))) = true then some true else ((t_is_christoffel_word v_word).bind fun a3 => some (!a3))).bind fun a5 =>
  if a5 = true then (
    none
  ) else (
    (t_parting_of v_word).bind fun a7 =>
    some a7
  )
theorem w_parted_in_two {v_word : (List Nat)} {r : (Option ((List Nat) × (List Nat)))} (h : t_parted_in_two v_word = some r) {st : List SC} : f_parted_in_two [.val (D.str v_word)] st = some (.val ((eO (eP2 D.str D.str)) r), st) := by
  unfold t_parted_in_two at h
  refine def_post rfl ?_
  show Post (m_parted_in_two ⟨[.val (D.str v_word)], st⟩) _
  unfold m_parted_in_two
  obtain ⟨a1, e2, h⟩ := bnd h
  refine po_drop (Γ1 := ⟨[.val (D.str v_word)], st⟩) (q_call (q_cons (q_frz (q_var rfl) rfl) q_nil) rfl (w_need_two_word e2) (nl_v nl_0)) ?_
  obtain ⟨a5, e6, h⟩ := bnd h
  rcases ifo h with ⟨hc, h⟩ | ⟨hc, h⟩
  · refine po_ifT (tr_t (q_orP (B := (fun v => v)) (G := (fun v => ⟨[.val (D.str v_word)], st⟩)) (q_cmp (q_callB (q_cons (q_var rfl) q_nil) rfl rfl) q_c rfl rfl rfl) e6 (fun v hc hv => by (obtain ⟨a3, e4, hv⟩ := bnd hv; obtain rfl := som hv; exact (q_not (q_test (q_call (q_cons (q_frz (q_var rfl) rfl) q_nil) rfl (w_is_christoffel_word e4) (nl_v nl_0)))))) ⟨rfl, rfl⟩) hc) ?_
    cases h
  · refine po_ifF (tr_f (q_orP (B := (fun v => v)) (G := (fun v => ⟨[.val (D.str v_word)], st⟩)) (q_cmp (q_callB (q_cons (q_var rfl) q_nil) rfl rfl) q_c rfl rfl rfl) e6 (fun v hc hv => by (obtain ⟨a3, e4, hv⟩ := bnd hv; obtain rfl := som hv; exact (q_not (q_test (q_call (q_cons (q_frz (q_var rfl) rfl) q_nil) rfl (w_is_christoffel_word e4) (nl_v nl_0)))))) ⟨rfl, rfl⟩) hc) ?_
    refine po_next ?_
    refine po_bare ?_
    obtain ⟨a7, e8, h⟩ := bnd h
    obtain rfl := som h
    exact po_ret (Γ1 := ⟨[.val (D.str v_word)], st⟩) (q_frz (q_call (q_cons (q_frz (q_var rfl) rfl) q_nil) rfl (w_parting_of e8) (nl_v nl_0)) rfl) ⟨_, _, rfl, rfl⟩
def t_central_of (v_x : Int) (v_y : Int) : Option (List Nat) :=
  (t_need_pair v_x v_y).bind fun a1 =>
  if ((v_x == (0 : Int)) || (v_y == (0 : Int))) = true then (
    none
  ) else (
    (t_christoffel_of v_x v_y).bind fun a3 =>
    some (cutL a3 (some (1 : Int)) (some (-(1 : Int))))
  )
theorem w_central_of {v_x : Int} {v_y : Int} {r : (List Nat)} (h : t_central_of v_x v_y = some r) {st : List SC} : f_central_of [.val (D.int v_x), .val (D.int v_y)] st = some (.val (D.str r), st) := by
  unfold t_central_of at h
  refine def_post rfl ?_
  show Post (m_central_of ⟨[.val (D.int v_x), .val (D.int v_y)], st⟩) _
  unfold m_central_of
  obtain ⟨a1, e2, h⟩ := bnd h
  refine po_drop (Γ1 := ⟨[.val (D.int v_x), .val (D.int v_y)], st⟩) (q_call (q_cons (q_frz (q_var rfl) rfl) (q_cons (q_frz (q_var rfl) rfl) q_nil)) rfl (w_need_pair e2) (nl_v (nl_v nl_0))) ?_
  rcases ifo h with ⟨hc, h⟩ | ⟨hc, h⟩
  · refine po_ifT (tr_t (q_or (q_cmp (q_var rfl) q_c rfl rfl (o_eq (e := D.int) ee_I v_x (0 : Int))) fun _ => (q_cmp (q_var rfl) q_c rfl rfl (o_eq (e := D.int) ee_I v_y (0 : Int)))) hc) ?_
    cases h
  · refine po_ifF (tr_f (q_or (q_cmp (q_var rfl) q_c rfl rfl (o_eq (e := D.int) ee_I v_x (0 : Int))) fun _ => (q_cmp (q_var rfl) q_c rfl rfl (o_eq (e := D.int) ee_I v_y (0 : Int)))) hc) ?_
    refine po_next ?_
    refine po_bare ?_
    obtain ⟨a3, e4, h⟩ := bnd h
    obtain rfl := som h
    exact po_ret (Γ1 := ⟨[.val (D.int v_x), .val (D.int v_y)], st⟩) (q_frz (q_sl (q_call (q_cons (q_frz (q_var rfl) rfl) (q_cons (q_frz (q_var rfl) rfl) q_nil)) rfl (w_christoffel_of e4) (nl_v (nl_v nl_0))) (q_pS q_c) (q_pS (q_un q_c rfl rfl)) rfl o_slS) rfl) ⟨_, _, rfl, rfl⟩
def t_law_has_period (v_word : (List Nat)) (v_p : Int) : Option Bool :=
  (range1T (((List.length v_word : Nat) : Int) - v_p)).bind fun a1 =>
  (lcT (fun (x3 : Int) => (chT v_word x3).bind fun a4 => (chT v_word (x3 + v_p)).bind fun a6 => if (!(a4 == a6)) = true then ( some (some x3)) else some none) a1).bind fun a8 =>
  some (a8 == ([] : (List Int)))
theorem w_law_has_period {v_word : (List Nat)} {v_p : Int} {r : Bool} (h : t_law_has_period v_word v_p = some r) {st : List SC} : f_law_has_period [.val (D.str v_word), .val (D.int v_p)] st = some (.val (D.bl r), st) := by
  unfold t_law_has_period at h
  refine def_post rfl ?_
  show Post (m_law_has_period ⟨[.val (D.str v_word), .val (D.int v_p), .un], st⟩) _
  unfold m_law_has_period
  refine po_bare ?_
  obtain ⟨a1, e2, h⟩ := bnd h
  obtain ⟨a8, e9, h⟩ := bnd h
  obtain rfl := som h
  exact po_ret (Γ1 := ⟨[.val (D.str v_word), .val (D.int v_p), .un], st⟩) (q_frz (q_ofB (q_cmp (q_lcT D.int D.int (i_range1 (q_cons (q_bin (q_callB (q_cons (q_var rfl) q_nil) rfl rfl) (q_var rfl) rfl rfl rfl) q_nil) e2) rfl (fun x3 y hy => by (obtain ⟨a4, e5, hy⟩ := bnd hy; obtain ⟨a6, e7, hy⟩ := bnd hy; rcases ifo hy with ⟨hc, hy⟩ | ⟨hc, hy⟩; exact (by (obtain rfl := som hy; exact turn_yes (Γ1 := ⟨[.val (D.str v_word), .val (D.int v_p), .val (D.int x3)], st⟩) rfl (tr_t (q_cmp (q_bin (q_var rfl) (q_var rfl) rfl rfl (o_ixS e5)) (q_bin (q_var rfl) (q_bin (q_var rfl) (q_var rfl) rfl rfl rfl) rfl rfl (o_ixS e7)) rfl rfl (o_ne (e := D.str) ee_S a4 a6)) hc) (q_var rfl) rfl rfl)); exact (by (obtain rfl := som hy; exact turn_no (Γ1 := ⟨[.val (D.str v_word), .val (D.int v_p), .val (D.int x3)], st⟩) rfl (tr_f (q_cmp (q_bin (q_var rfl) (q_var rfl) rfl rfl (o_ixS e5)) (q_bin (q_var rfl) (q_bin (q_var rfl) (q_var rfl) rfl rfl rfl) rfl rfl (o_ixS e7)) rfl rfl (o_ne (e := D.str) ee_S a4 a6)) hc) rfl)))) e9) (q_list q_nil rfl (lz rfl rfl)) rfl rfl (o_eq (e := (eL D.int)) (ee_L ee_I) a8 ([] : (List Int))))) rfl) ⟨_, _, rfl, rfl⟩
def t_has_step (v_word : (List Nat)) (v_step : Int) : Option Bool :=
  (range1T (((List.length v_word : Nat) : Int) - v_step)).bind fun a1 =>
  (lcM (fun (x3 : Int) => (chT v_word x3).bind fun a4 => (chT v_word (x3 + v_step)).bind fun a6 => some (a4 == a6)) a1).bind fun a8 =>
  some (List.all a8 id)
theorem w_has_step {v_word : (List Nat)} {v_step : Int} {r : Bool} (h : t_has_step v_word v_step = some r) {st : List SC} : f_has_step [.val (D.str v_word), .val (D.int v_step)] st = some (.val (D.bl r), st) := by
  unfold t_has_step at h
  refine def_post rfl ?_
  show Post (m_has_step ⟨[.val (D.str v_word), .val (D.int v_step), .un], st⟩) _
  unfold m_has_step
  refine po_bare ?_
  obtain ⟨a1, e2, h⟩ := bnd h
  obtain ⟨a8, e9, h⟩ := bnd h
  obtain rfl := som h
  exact po_ret (Γ1 := ⟨[.val (D.str v_word), .val (D.int v_step), .un], st⟩) (q_frz (q_callB (q_cons (q_lcM D.int D.bl (i_range1 (q_cons (q_bin (q_callB (q_cons (q_var rfl) q_nil) rfl rfl) (q_var rfl) rfl rfl rfl) q_nil) e2) rfl (fun x3 y hy => by (obtain ⟨a4, e5, hy⟩ := bnd hy; obtain ⟨a6, e7, hy⟩ := bnd hy; obtain rfl := som hy; exact turn_yes (Γ1 := ⟨[.val (D.str v_word), .val (D.int v_step), .val (D.int x3)], st⟩) rfl rfl (q_ofB (q_cmp (q_bin (q_var rfl) (q_var rfl) rfl rfl (o_ixS e5)) (q_bin (q_var rfl) (q_bin (q_var rfl) (q_var rfl) rfl rfl rfl) rfl rfl (o_ixS e7)) rfl rfl (o_eq (e := D.str) ee_S a4 a6))) rfl rfl)) e9) q_nil) rfl o_all) rfl) ⟨_, _, rfl, rfl⟩
def t_is_central_word (v_word : (List Nat)) : Option Bool :=
  (some (((List.length v_word : Nat) : Int) + (2 : Int))).bind fun v_size1 =>
  (range2T (1 : Int) v_size1).bind fun a3 =>
  (lcT (fun (x5 : Int) => (t_greatest_shared x5 (v_size1 - x5)).bind fun a6 => if (a6 == (1 : Int)) = true then ( some (some x5)) else some none) a3).bind fun a8 =>
  (lcM (fun (x10 : Int) => (t_has_step v_word x10).bind fun a11 => (if a11 = true then ((t_has_step v_word (v_size1 - x10)).bind fun a13 => some a13) else some false).bind fun a15 => some a15) a8).bind fun a17 =>
  some (List.any a17 id)
theorem w_is_central_word {v_word : (List Nat)} {r : Bool} (h : t_is_central_word v_word = some r) {st : List SC} : f_is_central_word [.val (D.str v_word)] st = some (.val (D.bl r), st) := by
  unfold t_is_central_word at h
  refine def_post rfl ?_
  show Post (m_is_central_word ⟨[.val (D.str v_word), .un, .un, .un], st⟩) _
  unfold m_is_central_word
  obtain ⟨v_size1, e2, h⟩ := bnd h
  refine po_asg (Γ2 := ⟨[.val (D.str v_word), .val (D.int v_size1), .un, .un], st⟩) (q_eqV (f := D.int) (a := (((List.length v_word : Nat) : Int) + (2 : Int))) (q_frz (q_bin (q_callB (q_cons (q_var rfl) q_nil) rfl rfl) q_c rfl rfl rfl) rfl) (som e2)) rfl ?_
  obtain ⟨a3, e4, h⟩ := bnd h
  obtain ⟨a8, e9, h⟩ := bnd h
  refine po_asg (Γ2 := ⟨[.val (D.str v_word), .val (D.int v_size1), .val ((eL D.int) a8), .un], st⟩) (q_frz (q_lcT D.int D.int (i_range2 (q_cons q_c (q_cons (q_var rfl) q_nil)) e4) rfl (fun x5 y hy => by (obtain ⟨a6, e7, hy⟩ := bnd hy; rcases ifo hy with ⟨hc, hy⟩ | ⟨hc, hy⟩; exact (by (obtain rfl := som hy; exact turn_yes (Γ1 := ⟨[.val (D.str v_word), .val (D.int v_size1), .un, .val (D.int x5)], st⟩) rfl (tr_t (q_cmp (q_call (q_cons (q_frz (q_var rfl) rfl) (q_cons (q_frz (q_bin (q_var rfl) (q_var rfl) rfl rfl rfl) rfl) q_nil)) rfl (w_greatest_shared e7) (nl_v (nl_v (nl_u (nl_v nl_0))))) q_c rfl rfl (o_eq (e := D.int) ee_I a6 (1 : Int))) hc) (q_var rfl) rfl rfl)); exact (by (obtain rfl := som hy; exact turn_no (Γ1 := ⟨[.val (D.str v_word), .val (D.int v_size1), .un, .val (D.int x5)], st⟩) rfl (tr_f (q_cmp (q_call (q_cons (q_frz (q_var rfl) rfl) (q_cons (q_frz (q_bin (q_var rfl) (q_var rfl) rfl rfl rfl) rfl) q_nil)) rfl (w_greatest_shared e7) (nl_v (nl_v (nl_u (nl_v nl_0))))) q_c rfl rfl (o_eq (e := D.int) ee_I a6 (1 : Int))) hc) rfl)))) e9) rfl) rfl ?_
  refine po_bare ?_
  obtain ⟨a17, e18, h⟩ := bnd h
  obtain rfl := som h
  exact po_ret (Γ1 := ⟨[.val (D.str v_word), .val (D.int v_size1), .val ((eL D.int) a8), .un], st⟩) (q_frz (q_callB (q_cons (q_lcM D.int D.bl (q_iseq (q_var rfl) rfl) rfl (fun x10 y hy => by (obtain ⟨a11, e12, hy⟩ := bnd hy; obtain ⟨a15, e16, hy⟩ := bnd hy; obtain rfl := som hy; exact turn_yes (Γ1 := ⟨[.val (D.str v_word), .val (D.int v_size1), .val ((eL D.int) a8), .val (D.int x10)], st⟩) rfl rfl (q_ofB (q_andP (B := (fun v => v)) (G := (fun v => ⟨[.val (D.str v_word), .val (D.int v_size1), .val ((eL D.int) a8), .val (D.int x10)], st⟩)) (q_test (q_call (q_cons (q_frz (q_var rfl) rfl) (q_cons (q_frz (q_var rfl) rfl) q_nil)) rfl (w_has_step e12) (nl_v (nl_v (nl_v (nl_v nl_0)))))) e16 (fun v hc hv => by (obtain ⟨a13, e14, hv⟩ := bnd hv; obtain rfl := som hv; exact (q_test (q_call (q_cons (q_frz (q_var rfl) rfl) (q_cons (q_frz (q_bin (q_var rfl) (q_var rfl) rfl rfl rfl) rfl) q_nil)) rfl (w_has_step e14) (nl_v (nl_v (nl_v (nl_v nl_0)))))))) ⟨rfl, rfl⟩)) rfl rfl)) e18) q_nil) rfl o_any) rfl) ⟨_, _, rfl, rfl⟩
def t_is_central (v_word : (List Nat)) : Option Bool :=
  (t_need_two_word v_word).bind fun a1 =>
  (t_is_central_word v_word).bind fun a3 =>
  some a3
theorem w_is_central {v_word : (List Nat)} {r : Bool} (h : t_is_central v_word = some r) {st : List SC} : f_is_central [.val (D.str v_word)] st = some (.val (D.bl r), st) := by
  unfold t_is_central at h
  refine def_post rfl ?_
  show Post (m_is_central ⟨[.val (D.str v_word)], st⟩) _
  unfold m_is_central
  obtain ⟨a1, e2, h⟩ := bnd h
  refine po_drop (Γ1 := ⟨[.val (D.str v_word)], st⟩) (q_call (q_cons (q_frz (q_var rfl) rfl) q_nil) rfl (w_need_two_word e2) (nl_v nl_0)) ?_
  refine po_bare ?_
  obtain ⟨a3, e4, h⟩ := bnd h
  obtain rfl := som h
  exact po_ret (Γ1 := ⟨[.val (D.str v_word)], st⟩) (q_frz (q_call (q_cons (q_frz (q_var rfl) rfl) q_nil) rfl (w_is_central_word e4) (nl_v nl_0)) rfl) ⟨_, _, rfl, rfl⟩
def t_law_choice (v_jar : (List Int)) (v_items : (List (List Nat))) : Option ((List Nat) × (List Int)) :=
  (t_law_take v_jar ((List.length v_items : Nat) : Int)).bind fun a1 =>
  (atI v_items a1.1).bind fun a3 =>
  some (a3, a1.2)
theorem w_law_choice {v_jar : (List Int)} {v_items : (List (List Nat))} {r : ((List Nat) × (List Int))} (h : t_law_choice v_jar v_items = some r) {st : List SC} {k : Nat} (hk : k < st.length) : f_law_choice [.par k, .val ((eL D.str) v_items)] (put st k ((eL D.int) v_jar)) = some (.val (D.str r.1), put st k ((eL D.int) r.2)) := by
  unfold t_law_choice at h
  refine def_post rfl ?_
  show Post (m_law_choice ⟨[.par k, .val ((eL D.str) v_items)], (put st k ((eL D.int) v_jar))⟩) _
  unfold m_law_choice
  refine po_bare ?_
  obtain ⟨a1, e2, h⟩ := bnd h
  obtain ⟨a3, e4, h⟩ := bnd h
  obtain rfl := som h
  exact po_ret (Γ1 := ⟨[.par k, .val ((eL D.str) v_items)], (put st k ((eL D.int) a1.2))⟩) (q_frz (q_bin (q_var rfl) (q_callP (sl := [.par k, .val ((eL D.str) v_items)]) (st := st) (k := k) (x := (eL D.int) v_jar) (y := (eL D.int) a1.2) (.inl ⟨_, rfl⟩) (q_cons (q_varP rfl) (q_cons (q_frz (q_callB (q_cons (q_var rfl) q_nil) rfl (o_lenL (e := D.str))) rfl) q_nil)) rfl (w_law_take e2 hk) (nl_p hk (nl_v nl_0))) rfl rfl (o_ixL (e := D.str) e4)) rfl) ⟨_, _, rfl, rfl⟩
def t_law_word (v_jar : (List Int)) (v_least : Int) (v_most : Int) (v_letters : (List Nat)) : Option ((List Nat) × (List Int)) :=
  (t_law_take v_jar ((v_most - v_least) + (1 : Int))).bind fun a1 =>
  (some (v_least + a1.1)).bind fun v_size3 =>
  (repST (cutL v_letters none (some (1 : Int))) (3 : Int)).bind fun a5 =>
  (catT a5 (cutL v_letters (some (1 : Int)) (some (2 : Int)))).bind fun a7 =>
  (t_law_choice a1.2 ([v_letters, (cutL v_letters none (some (2 : Int))), a7] : (List (List Nat)))).bind fun a9 =>
  (range1T v_size3).bind fun a11 =>
  (lcS (fun (s18 : (List Int)) (x13 : Int) => (listST a9.1).bind fun a19 => (t_law_choice s18 a19).bind fun a21 => some (a21.1, a21.2)) a11 a9.2).bind fun a23 =>
  (joinT ([] : List Nat) a23.1).bind fun a25 =>
  (t_law_take a23.2 (4 : Int)).bind fun a27 =>
  (show Option ((List Int) × (List Nat)) from if ((a27.1 == (0 : Int)) && (decide ((1 : Int) < v_size3))) = true then (
    (t_law_take a27.2 (v_size3 / (2 : Int))).bind fun a29 =>
    (some (cutL a25 none (some ((1 : Int) + a29.1)))).bind fun v_part31 =>
    (repST v_part31 v_size3).bind fun a33 =>
    (some (cutL a33 none (some v_size3))).bind fun v_found35 =>
    some (a29.2, v_found35)
  ) else (
    some (a27.2, a25)
  )).bind fun j37 =>
  (show Option (List Nat) from if (a27.1 == (1 : Int)) = true then (
    (catT (cutL j37.2 none (some ((v_size3 + (1 : Int)) / (2 : Int)))) (cutL j37.2 none (some (v_size3 / (2 : Int)))).reverse).bind fun a40 =>
    (some (cutL a40 none (some v_size3))).bind fun v_found42 =>
    some v_found42
  ) else (
    some j37.2
  )).bind fun j44 =>
  some (j44, j37.1)
theorem w_law_word {v_jar : (List Int)} {v_least : Int} {v_most : Int} {v_letters : (List Nat)} {r : ((List Nat) × (List Int))} (h : t_law_word v_jar v_least v_most v_letters = some r) {st : List SC} {k : Nat} (hk : k < st.length) : f_law_word [.par k, .val (D.int v_least), .val (D.int v_most), .val (D.str v_letters)] (put st k ((eL D.int) v_jar)) = some (.val (D.str r.1), put st k ((eL D.int) r.2)) := by
  unfold t_law_word at h
  refine def_post rfl ?_
  show Post (m_law_word ⟨[.par k, .val (D.int v_least), .val (D.int v_most), .val (D.str v_letters), .un, .un, .un, .un, .un, .un], (put st k ((eL D.int) v_jar))⟩) _
  unfold m_law_word
  obtain ⟨a1, e2, h⟩ := bnd h
  obtain ⟨v_size3, e4, h⟩ := bnd h
  refine po_asg (Γ2 := ⟨[.par k, .val (D.int v_least), .val (D.int v_most), .val (D.str v_letters), .val (D.int v_size3), .un, .un, .un, .un, .un], (put st k ((eL D.int) a1.2))⟩) (q_eqV (f := D.int) (a := (v_least + a1.1)) (q_frz (q_bin (q_var rfl) (q_callP (sl := [.par k, .val (D.int v_least), .val (D.int v_most), .val (D.str v_letters), .un, .un, .un, .un, .un, .un]) (st := st) (k := k) (x := (eL D.int) v_jar) (y := (eL D.int) a1.2) (.inl ⟨_, rfl⟩) (q_cons (q_varP rfl) (q_cons (q_frz (q_bin (q_bin (q_var rfl) (q_var rfl) rfl rfl rfl) q_c rfl rfl rfl) rfl) q_nil)) rfl (w_law_take e2 hk) (nl_p hk (nl_v (nl_v (nl_v (nl_u (nl_u (nl_u (nl_u (nl_u (nl_u nl_0))))))))))) rfl rfl rfl) rfl) (som e4)) rfl ?_
  obtain ⟨a5, e6, h⟩ := bnd h
  obtain ⟨a7, e8, h⟩ := bnd h
  obtain ⟨a9, e10, h⟩ := bnd h
  refine po_asg (Γ2 := ⟨[.par k, .val (D.int v_least), .val (D.int v_most), .val (D.str v_letters), .val (D.int v_size3), .val (D.str a9.1), .un, .un, .un, .un], (put st k ((eL D.int) a9.2))⟩) (q_frz (q_callP (sl := [.par k, .val (D.int v_least), .val (D.int v_most), .val (D.str v_letters), .val (D.int v_size3), .un, .un, .un, .un, .un]) (st := st) (k := k) (x := (eL D.int) a1.2) (y := (eL D.int) a9.2) (.inl ⟨_, rfl⟩) (q_cons (q_varP rfl) (q_cons (q_frz (q_list (q_cons (q_var rfl) (q_cons (q_sl (q_var rfl) q_pN (q_pS q_c) rfl o_slS) (q_cons (q_bin (q_bin (q_sl (q_var rfl) q_pN (q_pS q_c) rfl o_slS) q_c rfl rfl (o_repS e6)) (q_sl (q_var rfl) (q_pS q_c) (q_pS q_c) rfl o_slS) rfl rfl (o_catS e8)) q_nil))) rfl (lz rfl rfl)) rfl) q_nil)) rfl (w_law_choice e10 hk) (nl_p hk (nl_v (nl_v (nl_v (nl_v (nl_u (nl_u (nl_u (nl_u (nl_u nl_0))))))))))) rfl) rfl ?_
  obtain ⟨a11, e12, h⟩ := bnd h
  obtain ⟨a23, e24, h⟩ := bnd h
  obtain ⟨a25, e26, h⟩ := bnd h
  refine po_asg (Γ2 := ⟨[.par k, .val (D.int v_least), .val (D.int v_most), .val (D.str v_letters), .val (D.int v_size3), .val (D.str a9.1), .val (D.str a25), .un, .un, .un], (put st k ((eL D.int) a23.2))⟩) (q_frz (q_meth q_c rfl rfl (q_cons (q_lcS D.int D.str (fun s18 => ⟨[.par k, .val (D.int v_least), .val (D.int v_most), .val (D.str v_letters), .val (D.int v_size3), .val (D.str a9.1), .un, .un, .un, .un], (put st k ((eL D.int) s18))⟩) (i_range1 (q_cons (q_var rfl) q_nil) e12) rfl rfl (fun s18 x13 y hy => by (obtain ⟨a19, e20, hy⟩ := bnd hy; obtain ⟨a21, e22, hy⟩ := bnd hy; obtain rfl := som hy; exact turn_yes (Γ1 := ⟨[.par k, .val (D.int v_least), .val (D.int v_most), .val (D.str v_letters), .val (D.int v_size3), .val (D.str a9.1), .un, .un, .un, .val (D.int x13)], (put st k ((eL D.int) s18))⟩) rfl rfl (q_callP (sl := [.par k, .val (D.int v_least), .val (D.int v_most), .val (D.str v_letters), .val (D.int v_size3), .val (D.str a9.1), .un, .un, .un, .val (D.int x13)]) (st := st) (k := k) (x := (eL D.int) s18) (y := (eL D.int) a21.2) (.inl ⟨_, rfl⟩) (q_cons (q_varP rfl) (q_cons (q_frz (q_callB (q_cons (q_var rfl) q_nil) rfl (o_listS e20)) rfl) q_nil)) rfl (w_law_choice e22 hk) (nl_p hk (nl_v (nl_v (nl_v (nl_v (nl_v (nl_u (nl_u (nl_u (nl_v nl_0))))))))))) rfl rfl)) (Γ2 := ⟨[.par k, .val (D.int v_least), .val (D.int v_most), .val (D.str v_letters), .val (D.int v_size3), .val (D.str a9.1), .un, .un, .un, .un], (put st k ((eL D.int) a23.2))⟩) rfl e24) q_nil) rfl rfl (o_join e26)) rfl) rfl ?_
  obtain ⟨a27, e28, h⟩ := bnd h
  refine po_asg (Γ2 := ⟨[.par k, .val (D.int v_least), .val (D.int v_most), .val (D.str v_letters), .val (D.int v_size3), .val (D.str a9.1), .val (D.str a25), .val (D.int a27.1), .un, .un], (put st k ((eL D.int) a27.2))⟩) (q_frz (q_callP (sl := [.par k, .val (D.int v_least), .val (D.int v_most), .val (D.str v_letters), .val (D.int v_size3), .val (D.str a9.1), .val (D.str a25), .un, .un, .un]) (st := st) (k := k) (x := (eL D.int) a23.2) (y := (eL D.int) a27.2) (.inl ⟨_, rfl⟩) (q_cons (q_varP rfl) (q_cons (q_frz q_c rfl) q_nil)) rfl (w_law_take e28 hk) (nl_p hk (nl_v (nl_v (nl_v (nl_v (nl_v (nl_v (nl_u (nl_u (nl_u nl_0))))))))))) rfl) rfl ?_
  obtain ⟨j37, e38, h⟩ := bnd h
  refine po_join (ψ := (fun p => ∃ q39, p = (.nx, ⟨[.par k, .val (D.int v_least), .val (D.int v_most), .val (D.str v_letters), .val (D.int v_size3), .val (D.str a9.1), .val (D.str j37.2), .val (D.int a27.1), q2c q39, .un], (put st k ((eL D.int) j37.1))⟩))) ?_ ?_
  · replace h := e38
    clear e38
    rcases ifo h with ⟨hc, h⟩ | ⟨hc, h⟩
    · refine pj_ifT (tr_t (q_and (q_cmp (q_var rfl) q_c rfl rfl (o_eq (e := D.int) ee_I a27.1 (0 : Int))) fun _ => (q_cmp (q_var rfl) q_c rfl rfl rfl)) hc) ?_
      obtain ⟨a29, e30, h⟩ := bnd h
      obtain ⟨v_part31, e32, h⟩ := bnd h
      refine po_asg (Γ2 := ⟨[.par k, .val (D.int v_least), .val (D.int v_most), .val (D.str v_letters), .val (D.int v_size3), .val (D.str a9.1), .val (D.str a25), .val (D.int a27.1), .val (D.str v_part31), .un], (put st k ((eL D.int) a29.2))⟩) (q_eqV (f := D.str) (a := (cutL a25 none (some ((1 : Int) + a29.1)))) (q_frz (q_sl (q_var rfl) q_pN (q_pS (q_bin q_c (q_callP (sl := [.par k, .val (D.int v_least), .val (D.int v_most), .val (D.str v_letters), .val (D.int v_size3), .val (D.str a9.1), .val (D.str a25), .val (D.int a27.1), .un, .un]) (st := st) (k := k) (x := (eL D.int) a27.2) (y := (eL D.int) a29.2) (.inl ⟨_, rfl⟩) (q_cons (q_varP rfl) (q_cons (q_frz (q_bin (q_var rfl) q_c rfl rfl (o_fdivL ⟨by decide, by decide⟩)) rfl) q_nil)) rfl (w_law_take e30 hk) (nl_p hk (nl_v (nl_v (nl_v (nl_v (nl_v (nl_v (nl_v (nl_u (nl_u nl_0))))))))))) rfl rfl rfl)) rfl o_slS) rfl) (som e32)) rfl ?_
      refine po_bare ?_
      obtain ⟨a33, e34, h⟩ := bnd h
      obtain ⟨v_found35, e36, h⟩ := bnd h
      refine po_asg (Γ2 := ⟨[.par k, .val (D.int v_least), .val (D.int v_most), .val (D.str v_letters), .val (D.int v_size3), .val (D.str a9.1), .val (D.str v_found35), .val (D.int a27.1), .val (D.str v_part31), .un], (put st k ((eL D.int) a29.2))⟩) (q_eqV (f := D.str) (a := (cutL a33 none (some v_size3))) (q_frz (q_sl (q_bin (q_var rfl) (q_var rfl) rfl rfl (o_repS e34)) q_pN (q_pS (q_var rfl)) rfl o_slS) rfl) (som e36)) rfl ?_
      obtain rfl := som h
      exact po_end ⟨.val (D.str v_part31), rfl⟩
    · refine pj_ifF (tr_f (q_and (q_cmp (q_var rfl) q_c rfl rfl (o_eq (e := D.int) ee_I a27.1 (0 : Int))) fun _ => (q_cmp (q_var rfl) q_c rfl rfl rfl)) hc) ?_
      obtain rfl := som h
      exact po_end ⟨.un, rfl⟩
  rintro _ ⟨q39, rfl⟩
  refine ⟨_, rfl, ?_⟩
  obtain ⟨j44, e45, h⟩ := bnd h
  refine po_join (ψ := (fun p => p = (.nx, ⟨[.par k, .val (D.int v_least), .val (D.int v_most), .val (D.str v_letters), .val (D.int v_size3), .val (D.str a9.1), .val (D.str j44), .val (D.int a27.1), q2c q39, .un], (put st k ((eL D.int) j37.1))⟩))) ?_ ?_
  · replace h := e45
    clear e45
    rcases ifo h with ⟨hc, h⟩ | ⟨hc, h⟩
    · refine pj_ifT (tr_t (q_cmp (q_var rfl) q_c rfl rfl (o_eq (e := D.int) ee_I a27.1 (1 : Int))) hc) ?_
      refine po_bare ?_
      obtain ⟨a40, e41, h⟩ := bnd h
      obtain ⟨v_found42, e43, h⟩ := bnd h
      refine po_asg (Γ2 := ⟨[.par k, .val (D.int v_least), .val (D.int v_most), .val (D.str v_letters), .val (D.int v_size3), .val (D.str a9.1), .val (D.str v_found42), .val (D.int a27.1), q2c q39, .un], (put st k ((eL D.int) j37.1))⟩) (q_eqV (f := D.str) (a := (cutL a40 none (some v_size3))) (q_frz (q_sl (q_bin (q_sl (q_var rfl) q_pN (q_pS (q_bin (q_bin (q_var rfl) q_c rfl rfl rfl) q_c rfl rfl (o_fdivL ⟨by decide, by decide⟩))) rfl o_slS) (q_un (q_sl (q_var rfl) q_pN (q_pS (q_bin (q_var rfl) q_c rfl rfl (o_fdivL ⟨by decide, by decide⟩))) rfl o_slS) rfl o_revS) rfl rfl (o_catS e41)) q_pN (q_pS (q_var rfl)) rfl o_slS) rfl) (som e43)) rfl ?_
      obtain rfl := som h
      exact po_end rfl
    · refine pj_ifF (tr_f (q_cmp (q_var rfl) q_c rfl rfl (o_eq (e := D.int) ee_I a27.1 (1 : Int))) hc) ?_
      obtain rfl := som h
      exact po_end rfl
  rintro _ rfl
  refine ⟨_, rfl, ?_⟩
  refine po_bare ?_
  obtain rfl := som h
  exact po_ret (Γ1 := ⟨[.par k, .val (D.int v_least), .val (D.int v_most), .val (D.str v_letters), .val (D.int v_size3), .val (D.str a9.1), .val (D.str j44), .val (D.int a27.1), q2c q39, .un], (put st k ((eL D.int) j37.1))⟩) (q_frz (q_var rfl) rfl) ⟨_, _, rfl, rfl⟩
def t_law_is_middle (v_word : (List Nat)) : Option Bool :=
  (some (((List.length v_word : Nat) : Int) + (2 : Int))).bind fun v_size1 =>
  (range2T (1 : Int) v_size1).bind fun a3 =>
  (lcT (fun (x5 : Int) => (t_law_divisor x5 (v_size1 - x5)).bind fun a6 => (if (a6 == (1 : Int)) = true then ((t_law_has_period v_word x5).bind fun a8 => (if a8 = true then ((t_law_has_period v_word (v_size1 - x5)).bind fun a10 => some a10) else some false).bind fun a12 => some a12) else some false).bind fun a14 => if a14 = true then ( some (some x5)) else some none) a3).bind fun a16 =>
  some (!(a16 == ([] : (List Int))))
theorem w_law_is_middle {v_word : (List Nat)} {r : Bool} (h : t_law_is_middle v_word = some r) {st : List SC} : f_law_is_middle [.val (D.str v_word)] st = some (.val (D.bl r), st) := by
  unfold t_law_is_middle at h
  refine def_post rfl ?_
  show Post (m_law_is_middle ⟨[.val (D.str v_word), .un, .un, .un], st⟩) _
  unfold m_law_is_middle
  obtain ⟨v_size1, e2, h⟩ := bnd h
  refine po_asg (Γ2 := ⟨[.val (D.str v_word), .val (D.int v_size1), .un, .un], st⟩) (q_eqV (f := D.int) (a := (((List.length v_word : Nat) : Int) + (2 : Int))) (q_frz (q_bin (q_callB (q_cons (q_var rfl) q_nil) rfl rfl) q_c rfl rfl rfl) rfl) (som e2)) rfl ?_
  obtain ⟨a3, e4, h⟩ := bnd h
  obtain ⟨a16, e17, h⟩ := bnd h
  refine po_asg (Γ2 := ⟨[.val (D.str v_word), .val (D.int v_size1), .val ((eL D.int) a16), .un], st⟩) (q_frz (q_lcT D.int D.int (i_range2 (q_cons q_c (q_cons (q_var rfl) q_nil)) e4) rfl (fun x5 y hy => by (obtain ⟨a6, e7, hy⟩ := bnd hy; obtain ⟨a14, e15, hy⟩ := bnd hy; rcases ifo hy with ⟨hc, hy⟩ | ⟨hc, hy⟩; exact (by (obtain rfl := som hy; exact turn_yes (Γ1 := ⟨[.val (D.str v_word), .val (D.int v_size1), .un, .val (D.int x5)], st⟩) rfl (tr_t (q_andP (B := (fun v => v)) (G := (fun v => ⟨[.val (D.str v_word), .val (D.int v_size1), .un, .val (D.int x5)], st⟩)) (q_cmp (q_call (q_cons (q_frz (q_var rfl) rfl) (q_cons (q_frz (q_bin (q_var rfl) (q_var rfl) rfl rfl rfl) rfl) q_nil)) rfl (w_law_divisor e7) (nl_v (nl_v (nl_u (nl_v nl_0))))) q_c rfl rfl (o_eq (e := D.int) ee_I a6 (1 : Int))) e15 (fun v hc hv => by (obtain ⟨a8, e9, hv⟩ := bnd hv; obtain ⟨a12, e13, hv⟩ := bnd hv; obtain rfl := som hv; exact (q_andP (B := (fun v => v)) (G := (fun v => ⟨[.val (D.str v_word), .val (D.int v_size1), .un, .val (D.int x5)], st⟩)) (q_test (q_call (q_cons (q_frz (q_var rfl) rfl) (q_cons (q_frz (q_var rfl) rfl) q_nil)) rfl (w_law_has_period e9) (nl_v (nl_v (nl_u (nl_v nl_0)))))) e13 (fun v hc hv => by (obtain ⟨a10, e11, hv⟩ := bnd hv; obtain rfl := som hv; exact (q_test (q_call (q_cons (q_frz (q_var rfl) rfl) (q_cons (q_frz (q_bin (q_var rfl) (q_var rfl) rfl rfl rfl) rfl) q_nil)) rfl (w_law_has_period e11) (nl_v (nl_v (nl_u (nl_v nl_0)))))))) ⟨rfl, rfl⟩))) ⟨rfl, rfl⟩) hc) (q_var rfl) rfl rfl)); exact (by (obtain rfl := som hy; exact turn_no (Γ1 := ⟨[.val (D.str v_word), .val (D.int v_size1), .un, .val (D.int x5)], st⟩) rfl (tr_f (q_andP (B := (fun v => v)) (G := (fun v => ⟨[.val (D.str v_word), .val (D.int v_size1), .un, .val (D.int x5)], st⟩)) (q_cmp (q_call (q_cons (q_frz (q_var rfl) rfl) (q_cons (q_frz (q_bin (q_var rfl) (q_var rfl) rfl rfl rfl) rfl) q_nil)) rfl (w_law_divisor e7) (nl_v (nl_v (nl_u (nl_v nl_0))))) q_c rfl rfl (o_eq (e := D.int) ee_I a6 (1 : Int))) e15 (fun v hc hv => by (obtain ⟨a8, e9, hv⟩ := bnd hv; obtain ⟨a12, e13, hv⟩ := bnd hv; obtain rfl := som hv; exact (q_andP (B := (fun v => v)) (G := (fun v => ⟨[.val (D.str v_word), .val (D.int v_size1), .un, .val (D.int x5)], st⟩)) (q_test (q_call (q_cons (q_frz (q_var rfl) rfl) (q_cons (q_frz (q_var rfl) rfl) q_nil)) rfl (w_law_has_period e9) (nl_v (nl_v (nl_u (nl_v nl_0)))))) e13 (fun v hc hv => by (obtain ⟨a10, e11, hv⟩ := bnd hv; obtain rfl := som hv; exact (q_test (q_call (q_cons (q_frz (q_var rfl) rfl) (q_cons (q_frz (q_bin (q_var rfl) (q_var rfl) rfl rfl rfl) rfl) q_nil)) rfl (w_law_has_period e11) (nl_v (nl_v (nl_u (nl_v nl_0)))))))) ⟨rfl, rfl⟩))) ⟨rfl, rfl⟩) hc) rfl)))) e17) rfl) rfl ?_
  refine po_bare ?_
  obtain rfl := som h
  exact po_ret (Γ1 := ⟨[.val (D.str v_word), .val (D.int v_size1), .val ((eL D.int) a16), .un], st⟩) (q_frz (q_ofB (q_cmp (q_var rfl) (q_list q_nil rfl (lz rfl rfl)) rfl rfl (o_ne (e := (eL D.int)) (ee_L ee_I) a16 ([] : (List Int))))) rfl) ⟨_, _, rfl, rfl⟩
def t_law_all_words (v_letters : (List Nat)) (v_size : Int) : Option (List (List Nat)) :=
  (some ([([] : List Nat)] : (List (List Nat)))).bind fun v_found1 =>
  (range1T v_size).bind fun a3 =>
  (forS (fun (s5 : (List (List Nat))) (x9 : Int) => show Option ((List (List Nat))) from
    (forS (fun (s10 : (List (List Nat))) (x12 : (List Nat)) => show Option ((List (List Nat))) from
    (lcM (fun (x13 : (List Nat)) => (catT x12 x13).bind fun a14 => some a14) (signsT v_letters)).bind fun a16 =>
    (extT s10 a16).bind fun a18 =>
    some a18) s5 ([] : (List (List Nat)))).bind fun j20 =>
    some j20) a3 v_found1).bind fun j23 =>
  some j23
theorem w_law_all_words {v_letters : (List Nat)} {v_size : Int} {r : (List (List Nat))} (h : t_law_all_words v_letters v_size = some r) {st : List SC} : f_law_all_words [.val (D.str v_letters), .val (D.int v_size)] st = some (.val ((eL D.str) r), st) := by
  unfold t_law_all_words at h
  refine def_post rfl ?_
  show Post (m_law_all_words ⟨[.val (D.str v_letters), .val (D.int v_size), .un, .un, .un, .un, .un], st⟩) _
  unfold m_law_all_words
  obtain ⟨v_found1, e2, h⟩ := bnd h
  refine po_asg (Γ2 := ⟨[.val (D.str v_letters), .val (D.int v_size), .val ((eL D.str) v_found1), .un, .un, .un, .un], st⟩) (q_eqV (f := (eL D.str)) (a := ([([] : List Nat)] : (List (List Nat)))) (q_frz (q_list (q_cons q_c q_nil) rfl (lz rfl rfl)) rfl) (som e2)) rfl ?_
  obtain ⟨a3, e4, h⟩ := bnd h
  obtain ⟨j23, e24, h⟩ := bnd h
  obtain ⟨Γ9, ef, q25, q26, q27, rfl⟩ := forS_ok (e := D.int) (g := (asgn 3)) (b := b_law_all_words_2) (fun (s5 : (List (List Nat))) Γ => ∃ q6 q7 q8, Γ = ⟨[.val (D.str v_letters), .val (D.int v_size), .val ((eL D.str) s5), q2c q6, q2c q7, q2c q8, .un], st⟩) (by
      rintro s5 x9 s9 Γ h ⟨q6, q7, q8, rfl⟩
      refine ⟨⟨[.val (D.str v_letters), .val (D.int v_size), .val ((eL D.str) s5), .val (D.int x9), q2c q7, q2c q8, .un], st⟩, rfl, ?_⟩
      unfold b_law_all_words_2
      refine po_asg (Γ2 := ⟨[.val (D.str v_letters), .val (D.int v_size), .val ((eL D.str) s5), .val (D.int x9), .own ((eL eA) ([] : (List D))), q2c q8, .un], st⟩) (q_list q_nil rfl (lz rfl rfl)) rfl ?_
      obtain ⟨j20, e21, h⟩ := bnd h
      obtain ⟨Γ9, ef, q22, rfl⟩ := forS_ok (e := D.str) (g := (asgn 5)) (b := b_law_all_words_1) (fun (s10 : (List (List Nat))) Γ => ∃ q11, Γ = ⟨[.val (D.str v_letters), .val (D.int v_size), .val ((eL D.str) s5), .val (D.int x9), .own ((eL D.str) s10), q2c q11, .un], st⟩) (by
          rintro s10 x12 s9 Γ h ⟨q11, rfl⟩
          refine ⟨⟨[.val (D.str v_letters), .val (D.int v_size), .val ((eL D.str) s5), .val (D.int x9), .own ((eL D.str) s10), .val (D.str x12), .un], st⟩, rfl, ?_⟩
          unfold b_law_all_words_1
          refine po_bare ?_
          obtain ⟨a16, e17, h⟩ := bnd h
          obtain ⟨a18, e19, h⟩ := bnd h
          refine po_drop (Γ1 := ⟨[.val (D.str v_letters), .val (D.int v_size), .val ((eL D.str) s5), .val (D.int x9), .own ((eL D.str) a18), .val (D.str x12), .un], st⟩) (q_extT (e := D.str) (q_varO rfl) rfl (q_lcM D.str D.str (i_seqS (q_var rfl) rfl) rfl (fun x13 y hy => by (obtain ⟨a14, e15, hy⟩ := bnd hy; obtain rfl := som hy; exact turn_yes (Γ1 := ⟨[.val (D.str v_letters), .val (D.int v_size), .val ((eL D.str) s5), .val (D.int x9), .own ((eL D.str) s10), .val (D.str x12), .val (D.str x13)], st⟩) rfl rfl (q_bin (q_var rfl) (q_var rfl) rfl rfl (o_catS e15)) rfl rfl)) e17) rfl rfl e19 rfl) ?_
          obtain rfl := som h
          exact po_end ⟨.inl rfl, .val (D.str x12), rfl⟩
          ) e21 (Γ := ⟨[.val (D.str v_letters), .val (D.int v_size), .val ((eL D.str) s5), .val (D.int x9), .own ((eL eA) ([] : (List D))), q2c q8, .un], st⟩) ⟨q8, rfl⟩
      refine po_for (q_iseq (q_var rfl) rfl) ef ?_
      refine po_bare ?_
      refine po_asg (Γ2 := ⟨[.val (D.str v_letters), .val (D.int v_size), .val ((eL D.str) j20), .val (D.int x9), .own ((eL D.str) j20), q2c q22, .un], st⟩) (q_frz (q_callB (q_cons (q_varO rfl) q_nil) rfl rfl) rfl) rfl ?_
      obtain rfl := som h
      exact po_end ⟨.inl rfl, .val (D.int x9), .own ((eL D.str) j20), q22, rfl⟩
      ) e24 (Γ := ⟨[.val (D.str v_letters), .val (D.int v_size), .val ((eL D.str) v_found1), .un, .un, .un, .un], st⟩) ⟨.un, .un, .un, rfl⟩
  refine po_for (i_range1 (q_cons (q_var rfl) q_nil) e4) ef ?_
  refine po_bare ?_
  obtain rfl := som h
  exact po_ret (Γ1 := ⟨[.val (D.str v_letters), .val (D.int v_size), .val ((eL D.str) j23), q2c q25, q2c q26, q2c q27, .un], st⟩) (q_frz (q_var rfl) rfl) ⟨_, _, rfl, rfl⟩
def t_law_right (v_jar : (List Int)) : Option (Bool × (List Int)) :=
  (t_law_take v_jar (14 : Int)).bind fun a1 =>
  (t_law_take a1.2 (14 : Int)).bind fun a3 =>
  (t_law_divisor a1.1 a3.1).bind fun a5 =>
  (some (maxI2 (1 : Int) a5)).bind fun v_part7 =>
  (fdivT a1.1 v_part7).bind fun a9 =>
  (fdivT a3.1 v_part7).bind fun a11 =>
  (show Option Int from if ((a9 + a11) == (0 : Int)) = true then (
    some (1 : Int)
  ) else (
    some a9
  )).bind fun j13 =>
  (some (j13 + a11)).bind fun v_size15 =>
  (range1T v_size15).bind fun a17 =>
  (lcM (fun (x19 : Int) => (mulT (x19 + (1 : Int)) a11).bind fun a20 => (fdivT a20 v_size15).bind fun a22 => (mulT x19 a11).bind fun a24 => (fdivT a24 v_size15).bind fun a26 => some (if ((a22 - a26) == (1 : Int)) = true then ([98] : List Nat) else ([97] : List Nat))) a17).bind fun a28 =>
  (joinT ([] : List Nat) a28).bind fun a30 =>
  (t_christoffel j13 a11).bind fun a32 =>
  (if (!(a32 == a30)) = true then some true else ((if (!((countS a30 ([97] : List Nat)) == j13)) = true then some true else ((t_is_christoffel a30).bind fun a34 => (if (!decide (a34 = true)) = true then some true else ((t_law_is_low a30).bind fun a36 => some (!a36))).bind fun a38 => some a38)).bind fun a40 => some a40)).bind fun a42 =>
  if a42 = true then (
    some (false, a3.2)
  ) else (
    if (decide ((1 : Int) < v_size15)) = true then (
      (range2T (1 : Int) v_size15).bind fun a44 =>
      (lcT (fun (x46 : Int) => (t_law_is_low (cutL a30 none (some x46))).bind fun a47 => (if a47 = true then ((t_law_is_low (cutL a30 (some x46) none)).bind fun a49 => some a49) else some false).bind fun a51 => if a51 = true then ( some (some ((cutL a30 none (some x46)), (cutL a30 (some x46) none)))) else some none) a44).bind fun a53 =>
      (if (!(((List.length a53 : Nat) : Int) == (1 : Int))) = true then some true else ((t_parted_in_two a30).bind fun a55 => (atI a53 (0 : Int)).bind fun a57 => some (!(a55 == (some a57))))).bind fun a59 =>
      if a59 = true then (
        some (false, a3.2)
      ) else (
        (some (cutL a30 (some (1 : Int)) (some (-(1 : Int))))).bind fun v_middle61 =>
        (if (decide ((0 : Int) < j13)) = true then ((if (decide ((0 : Int) < a11)) = true then ((t_central_of j13 a11).bind fun a63 => some (!(a63 == v_middle61))) else some false).bind fun a65 => some a65) else some false).bind fun a67 =>
        if (a67 || (!(v_middle61 == v_middle61.reverse))) = true then (
          some (false, a3.2)
        ) else (
          (atI a53 (0 : Int)).bind fun a69 =>
          (lcT (fun (x71 : (List Nat)) => (t_law_has_period v_middle61 ((List.length x71 : Nat) : Int)).bind fun a72 => if (!a72) = true then ( some (some ((List.length x71 : Nat) : Int))) else some none) ([a69.1, a69.2] : (List (List Nat)))).bind fun a74 =>
          (if (!(a74 == ([] : (List Int)))) = true then some true else ((t_is_central v_middle61).bind fun a76 => some (!decide (a76 = true)))).bind fun a78 =>
          if a78 = true then (
            some (false, a3.2)
          ) else (
            (range1T (6 : Int)).bind fun a80 =>
            (forR (fun (s82 : (List Int)) (x85 : Int) => show Option (FlT (List Int) (Bool × (List Int))) from
    (t_law_word s82 (0 : Int) (9 : Int) ([97, 98] : List Nat)).bind fun a86 =>
    (t_is_christoffel a86.1).bind fun a88 =>
    (if (!(a86.1 == ([] : List Nat))) = true then ((t_law_is_low a86.1).bind fun a90 => some a90) else some false).bind fun a92 =>
    (if (!(a88 == a92)) = true then some true else ((t_is_central a86.1).bind fun a94 => (t_law_is_middle a86.1).bind fun a96 => some (!(a94 == a96)))).bind fun a98 =>
    if a98 = true then (
      some (.ret (false, a86.2))
    ) else (
      some (.nx a86.2)
    )) a80 a3.2).bind fun o104 => aftR o104 (fun r105 => some r105) fun j100 =>
            (t_law_take j100 (8 : Int)).bind fun a106 =>
            (t_law_all_words ([97, 98] : List Nat) a106.1).bind fun a108 =>
            (forR (fun (s110 : Unit) (x112 : (List Nat)) => show Option (FlT Unit (Bool × (List Int))) from
    (t_is_central x112).bind fun a113 =>
    (t_law_is_middle x112).bind fun a115 =>
    (if (!(a113 == a115)) = true then some true else ((t_is_christoffel x112).bind fun a117 => (if (!(x112 == ([] : List Nat))) = true then ((t_law_is_low x112).bind fun a119 => some a119) else some false).bind fun a121 => some (!(a117 == a121)))).bind fun a123 =>
    if a123 = true then (
      some (.ret (false, a106.2))
    ) else (
      (t_is_central x112).bind fun a125 =>
      (catT ([97] : List Nat) x112).bind fun a127 =>
      (catT a127 ([98] : List Nat)).bind fun a129 =>
      (t_is_christoffel a129).bind fun a131 =>
      if (!(a125 == a131)) = true then (
        some (.ret (false, a106.2))
      ) else (
        some (.nx ())
      )
    )) a108 (() : Unit)).bind fun o136 => aftR o136 (fun r137 => some r137) fun j133 =>
            some (true, a106.2)
          )
        )
      )
    ) else (
      (range1T (6 : Int)).bind fun a138 =>
      (forR (fun (s140 : (List Int)) (x143 : Int) => show Option (FlT (List Int) (Bool × (List Int))) from
    (t_law_word s140 (0 : Int) (9 : Int) ([97, 98] : List Nat)).bind fun a144 =>
    (t_is_christoffel a144.1).bind fun a146 =>
    (if (!(a144.1 == ([] : List Nat))) = true then ((t_law_is_low a144.1).bind fun a148 => some a148) else some false).bind fun a150 =>
    (if (!(a146 == a150)) = true then some true else ((t_is_central a144.1).bind fun a152 => (t_law_is_middle a144.1).bind fun a154 => some (!(a152 == a154)))).bind fun a156 =>
    if a156 = true then (
      some (.ret (false, a144.2))
    ) else (
      some (.nx a144.2)
    )) a138 a3.2).bind fun o162 => aftR o162 (fun r163 => some r163) fun j158 =>
      (t_law_take j158 (8 : Int)).bind fun a164 =>
      (t_law_all_words ([97, 98] : List Nat) a164.1).bind fun a166 =>
      (forR (fun (s168 : Unit) (x170 : (List Nat)) => show Option (FlT Unit (Bool × (List Int))) from
    (t_is_central x170).bind fun a171 =>
    (t_law_is_middle x170).bind fun a173 =>
    (if (!(a171 == a173)) = true then some true else ((t_is_christoffel x170).bind fun a175 => (if (!(x170 == ([] : List Nat))) = true then ((t_law_is_low x170).bind fun a177 => some a177) else some false).bind fun a179 => some (!(a175 == a179)))).bind fun a181 =>
    if a181 = true then (
      some (.ret (false, a164.2))
    ) else (
      (t_is_central x170).bind fun a183 =>
      (catT ([97] : List Nat) x170).bind fun a185 =>
      (catT a185 ([98] : List Nat)).bind fun a187 =>
      (t_is_christoffel a187).bind fun a189 =>
      if (!(a183 == a189)) = true then (
        some (.ret (false, a164.2))
      ) else (
        some (.nx ())
      )
    )) a166 (() : Unit)).bind fun o194 => aftR o194 (fun r195 => some r195) fun j191 =>
      some (true, a164.2)
    )
  )
theorem w_law_right {v_jar : (List Int)} {r : (Bool × (List Int))} (h : t_law_right v_jar = some r) {st : List SC} {k : Nat} (hk : k < st.length) : f_law_right [.par k] (put st k ((eL D.int) v_jar)) = some (.val (D.bl r.1), put st k ((eL D.int) r.2)) := by
  unfold t_law_right at h
  refine def_post rfl ?_
  show Post (m_law_right ⟨[.par k, .un, .un, .un, .un, .un, .un, .un, .un, .un, .un, .un], (put st k ((eL D.int) v_jar))⟩) _
  unfold m_law_right
  obtain ⟨a1, e2, h⟩ := bnd h
  obtain ⟨a3, e4, h⟩ := bnd h
  refine po_asg (Γ2 := ⟨[.par k, .val (D.int a1.1), .val (D.int a3.1), .un, .un, .un, .un, .un, .un, .un, .un, .un], (put st k ((eL D.int) a3.2))⟩) (q_frz (q_tup (q_cons (q_callP (sl := [.par k, .un, .un, .un, .un, .un, .un, .un, .un, .un, .un, .un]) (st := st) (k := k) (x := (eL D.int) v_jar) (y := (eL D.int) a1.2) (.inl ⟨_, rfl⟩) (q_cons (q_varP rfl) (q_cons (q_frz q_c rfl) q_nil)) rfl (w_law_take e2 hk) (nl_p hk (nl_u (nl_u (nl_u (nl_u (nl_u (nl_u (nl_u (nl_u (nl_u (nl_u (nl_u nl_0))))))))))))) (q_cons (q_callP (sl := [.par k, .un, .un, .un, .un, .un, .un, .un, .un, .un, .un, .un]) (st := st) (k := k) (x := (eL D.int) a1.2) (y := (eL D.int) a3.2) (.inl ⟨_, rfl⟩) (q_cons (q_varP rfl) (q_cons (q_frz q_c rfl) q_nil)) rfl (w_law_take e4 hk) (nl_p hk (nl_u (nl_u (nl_u (nl_u (nl_u (nl_u (nl_u (nl_u (nl_u (nl_u (nl_u nl_0))))))))))))) q_nil)) rfl (lz rfl rfl)) rfl) rfl ?_
  obtain ⟨a5, e6, h⟩ := bnd h
  obtain ⟨v_part7, e8, h⟩ := bnd h
  refine po_asg (Γ2 := ⟨[.par k, .val (D.int a1.1), .val (D.int a3.1), .val (D.int v_part7), .un, .un, .un, .un, .un, .un, .un, .un], (put st k ((eL D.int) a3.2))⟩) (q_eqV (f := D.int) (a := (maxI2 (1 : Int) a5)) (q_frz (q_callB (q_cons q_c (q_cons (q_call (q_cons (q_frz (q_var rfl) rfl) (q_cons (q_frz (q_var rfl) rfl) q_nil)) rfl (w_law_divisor e6) (nl_p (lt_put hk) (nl_v (nl_v (nl_u (nl_u (nl_u (nl_u (nl_u (nl_u (nl_u (nl_u (nl_u nl_0))))))))))))) q_nil)) rfl rfl) rfl) (som e8)) rfl ?_
  obtain ⟨a9, e10, h⟩ := bnd h
  obtain ⟨a11, e12, h⟩ := bnd h
  refine po_asg (Γ2 := ⟨[.par k, .val (D.int a9), .val (D.int a11), .val (D.int v_part7), .un, .un, .un, .un, .un, .un, .un, .un], (put st k ((eL D.int) a3.2))⟩) (q_frz (q_tup (q_cons (q_bin (q_var rfl) (q_var rfl) rfl rfl (o_fdiv e10)) (q_cons (q_bin (q_var rfl) (q_var rfl) rfl rfl (o_fdiv e12)) q_nil)) rfl (lz rfl rfl)) rfl) rfl ?_
  obtain ⟨j13, e14, h⟩ := bnd h
  refine po_join (ψ := (fun p => p = (.nx, ⟨[.par k, .val (D.int j13), .val (D.int a11), .val (D.int v_part7), .un, .un, .un, .un, .un, .un, .un, .un], (put st k ((eL D.int) a3.2))⟩))) ?_ ?_
  · replace h := e14
    clear e14
    rcases ifo h with ⟨hc, h⟩ | ⟨hc, h⟩
    · refine pj_ifT (tr_t (q_cmp (q_bin (q_var rfl) (q_var rfl) rfl rfl rfl) q_c rfl rfl (o_eq (e := D.int) ee_I (a9 + a11) (0 : Int))) hc) ?_
      refine po_bare ?_
      refine po_asg (Γ2 := ⟨[.par k, .val (D.int (1 : Int)), .val (D.int a11), .val (D.int v_part7), .un, .un, .un, .un, .un, .un, .un, .un], (put st k ((eL D.int) a3.2))⟩) (q_frz q_c rfl) rfl ?_
      obtain rfl := som h
      exact po_end rfl
    · refine pj_ifF (tr_f (q_cmp (q_bin (q_var rfl) (q_var rfl) rfl rfl rfl) q_c rfl rfl (o_eq (e := D.int) ee_I (a9 + a11) (0 : Int))) hc) ?_
      obtain rfl := som h
      exact po_end rfl
  rintro _ rfl
  refine ⟨_, rfl, ?_⟩
  obtain ⟨v_size15, e16, h⟩ := bnd h
  refine po_asg (Γ2 := ⟨[.par k, .val (D.int j13), .val (D.int a11), .val (D.int v_part7), .val (D.int v_size15), .un, .un, .un, .un, .un, .un, .un], (put st k ((eL D.int) a3.2))⟩) (q_eqV (f := D.int) (a := (j13 + a11)) (q_frz (q_bin (q_var rfl) (q_var rfl) rfl rfl rfl) rfl) (som e16)) rfl ?_
  obtain ⟨a17, e18, h⟩ := bnd h
  obtain ⟨a28, e29, h⟩ := bnd h
  obtain ⟨a30, e31, h⟩ := bnd h
  refine po_asg (Γ2 := ⟨[.par k, .val (D.int j13), .val (D.int a11), .val (D.int v_part7), .val (D.int v_size15), .val (D.str a30), .un, .un, .un, .un, .un, .un], (put st k ((eL D.int) a3.2))⟩) (q_frz (q_meth q_c rfl rfl (q_cons (q_lcM D.int D.str (i_range1 (q_cons (q_var rfl) q_nil) e18) rfl (fun x19 y hy => by (obtain ⟨a20, e21, hy⟩ := bnd hy; obtain ⟨a22, e23, hy⟩ := bnd hy; obtain ⟨a24, e25, hy⟩ := bnd hy; obtain ⟨a26, e27, hy⟩ := bnd hy; obtain rfl := som hy; exact turn_yes (Γ1 := ⟨[.par k, .val (D.int j13), .val (D.int a11), .val (D.int v_part7), .val (D.int v_size15), .un, .un, .un, .un, .un, .un, .val (D.int x19)], (put st k ((eL D.int) a3.2))⟩) rfl rfl (q_ifv (e := D.str) (u := ([98] : List Nat)) (v := ([97] : List Nat)) (q_cmp (q_bin (q_bin (q_bin (q_bin (q_var rfl) q_c rfl rfl rfl) (q_var rfl) rfl rfl (o_mul e21)) (q_var rfl) rfl rfl (o_fdiv e23)) (q_bin (q_bin (q_var rfl) (q_var rfl) rfl rfl (o_mul e25)) (q_var rfl) rfl rfl (o_fdiv e27)) rfl rfl rfl) q_c rfl rfl (o_eq (e := D.int) ee_I (a22 - a26) (1 : Int))) (fun _ => q_c) (fun _ => q_c)) rfl rfl)) e29) q_nil) rfl rfl (o_join e31)) rfl) rfl ?_
  obtain ⟨a32, e33, h⟩ := bnd h
  obtain ⟨a42, e43, h⟩ := bnd h
  rcases ifo h with ⟨hc, h⟩ | ⟨hc, h⟩
  · refine po_ifT (tr_t (q_orP (B := (fun v => v)) (G := (fun v => ⟨[.par k, .val (D.int j13), .val (D.int a11), .val (D.int v_part7), .val (D.int v_size15), .val (D.str a30), .un, .un, .un, .un, .un, .un], (put st k ((eL D.int) a3.2))⟩)) (q_cmp (q_call (q_cons (q_frz (q_var rfl) rfl) (q_cons (q_frz (q_var rfl) rfl) q_nil)) rfl (w_christoffel e33) (nl_p (lt_put hk) (nl_v (nl_v (nl_v (nl_v (nl_v (nl_u (nl_u (nl_u (nl_u (nl_u (nl_u nl_0))))))))))))) (q_var rfl) rfl rfl (o_ne (e := D.str) ee_S a32 a30)) e43 (fun v hc hv => by (obtain ⟨a40, e41, hv⟩ := bnd hv; obtain rfl := som hv; exact (q_orP (B := (fun v => v)) (G := (fun v => ⟨[.par k, .val (D.int j13), .val (D.int a11), .val (D.int v_part7), .val (D.int v_size15), .val (D.str a30), .un, .un, .un, .un, .un, .un], (put st k ((eL D.int) a3.2))⟩)) (q_cmp (q_meth (q_var rfl) rfl rfl (q_cons q_c q_nil) rfl rfl rfl) (q_var rfl) rfl rfl (o_ne (e := D.int) ee_I (countS a30 ([97] : List Nat)) j13)) e41 (fun v hc hv => by (obtain ⟨a34, e35, hv⟩ := bnd hv; obtain ⟨a38, e39, hv⟩ := bnd hv; obtain rfl := som hv; exact (q_orP (B := (fun v => v)) (G := (fun v => ⟨[.par k, .val (D.int j13), .val (D.int a11), .val (D.int v_part7), .val (D.int v_size15), .val (D.str a30), .un, .un, .un, .un, .un, .un], (put st k ((eL D.int) a3.2))⟩)) (q_cmp (q_call (q_cons (q_frz (q_var rfl) rfl) q_nil) rfl (w_is_christoffel e35) (nl_p (lt_put hk) (nl_v (nl_v (nl_v (nl_v (nl_v (nl_u (nl_u (nl_u (nl_u (nl_u (nl_u nl_0))))))))))))) q_c rfl rfl (o_not rfl)) e39 (fun v hc hv => by (obtain ⟨a36, e37, hv⟩ := bnd hv; obtain rfl := som hv; exact (q_not (q_test (q_call (q_cons (q_frz (q_var rfl) rfl) q_nil) rfl (w_law_is_low e37) (nl_p (lt_put hk) (nl_v (nl_v (nl_v (nl_v (nl_v (nl_u (nl_u (nl_u (nl_u (nl_u (nl_u nl_0))))))))))))))))) ⟨rfl, rfl⟩))) ⟨rfl, rfl⟩))) ⟨rfl, rfl⟩) hc) ?_
    obtain rfl := som h
    exact po_ret (Γ1 := ⟨[.par k, .val (D.int j13), .val (D.int a11), .val (D.int v_part7), .val (D.int v_size15), .val (D.str a30), .un, .un, .un, .un, .un, .un], (put st k ((eL D.int) a3.2))⟩) (q_frz q_c rfl) ⟨_, _, rfl, rfl⟩
  · refine po_ifF (tr_f (q_orP (B := (fun v => v)) (G := (fun v => ⟨[.par k, .val (D.int j13), .val (D.int a11), .val (D.int v_part7), .val (D.int v_size15), .val (D.str a30), .un, .un, .un, .un, .un, .un], (put st k ((eL D.int) a3.2))⟩)) (q_cmp (q_call (q_cons (q_frz (q_var rfl) rfl) (q_cons (q_frz (q_var rfl) rfl) q_nil)) rfl (w_christoffel e33) (nl_p (lt_put hk) (nl_v (nl_v (nl_v (nl_v (nl_v (nl_u (nl_u (nl_u (nl_u (nl_u (nl_u nl_0))))))))))))) (q_var rfl) rfl rfl (o_ne (e := D.str) ee_S a32 a30)) e43 (fun v hc hv => by (obtain ⟨a40, e41, hv⟩ := bnd hv; obtain rfl := som hv; exact (q_orP (B := (fun v => v)) (G := (fun v => ⟨[.par k, .val (D.int j13), .val (D.int a11), .val (D.int v_part7), .val (D.int v_size15), .val (D.str a30), .un, .un, .un, .un, .un, .un], (put st k ((eL D.int) a3.2))⟩)) (q_cmp (q_meth (q_var rfl) rfl rfl (q_cons q_c q_nil) rfl rfl rfl) (q_var rfl) rfl rfl (o_ne (e := D.int) ee_I (countS a30 ([97] : List Nat)) j13)) e41 (fun v hc hv => by (obtain ⟨a34, e35, hv⟩ := bnd hv; obtain ⟨a38, e39, hv⟩ := bnd hv; obtain rfl := som hv; exact (q_orP (B := (fun v => v)) (G := (fun v => ⟨[.par k, .val (D.int j13), .val (D.int a11), .val (D.int v_part7), .val (D.int v_size15), .val (D.str a30), .un, .un, .un, .un, .un, .un], (put st k ((eL D.int) a3.2))⟩)) (q_cmp (q_call (q_cons (q_frz (q_var rfl) rfl) q_nil) rfl (w_is_christoffel e35) (nl_p (lt_put hk) (nl_v (nl_v (nl_v (nl_v (nl_v (nl_u (nl_u (nl_u (nl_u (nl_u (nl_u nl_0))))))))))))) q_c rfl rfl (o_not rfl)) e39 (fun v hc hv => by (obtain ⟨a36, e37, hv⟩ := bnd hv; obtain rfl := som hv; exact (q_not (q_test (q_call (q_cons (q_frz (q_var rfl) rfl) q_nil) rfl (w_law_is_low e37) (nl_p (lt_put hk) (nl_v (nl_v (nl_v (nl_v (nl_v (nl_u (nl_u (nl_u (nl_u (nl_u (nl_u nl_0))))))))))))))))) ⟨rfl, rfl⟩))) ⟨rfl, rfl⟩))) ⟨rfl, rfl⟩) hc) ?_
    refine po_next ?_
    rcases ifo h with ⟨hc, h⟩ | ⟨hc, h⟩
    · refine po_ifT (tr_t (q_cmp (q_var rfl) q_c rfl rfl rfl) hc) ?_
      refine po_assoc ?_
      obtain ⟨a44, e45, h⟩ := bnd h
      obtain ⟨a53, e54, h⟩ := bnd h
      refine po_asg (Γ2 := ⟨[.par k, .val (D.int j13), .val (D.int a11), .val (D.int v_part7), .val (D.int v_size15), .val (D.str a30), .val ((eL (eP2 D.str D.str)) a53), .un, .un, .un, .un, .un], (put st k ((eL D.int) a3.2))⟩) (q_frz (q_lcT D.int (eP2 D.str D.str) (i_range2 (q_cons q_c (q_cons (q_var rfl) q_nil)) e45) rfl (fun x46 y hy => by (obtain ⟨a47, e48, hy⟩ := bnd hy; obtain ⟨a51, e52, hy⟩ := bnd hy; rcases ifo hy with ⟨hc, hy⟩ | ⟨hc, hy⟩; exact (by (obtain rfl := som hy; exact turn_yes (Γ1 := ⟨[.par k, .val (D.int j13), .val (D.int a11), .val (D.int v_part7), .val (D.int v_size15), .val (D.str a30), .un, .un, .un, .un, .un, .val (D.int x46)], (put st k ((eL D.int) a3.2))⟩) rfl (tr_t (q_andP (B := (fun v => v)) (G := (fun v => ⟨[.par k, .val (D.int j13), .val (D.int a11), .val (D.int v_part7), .val (D.int v_size15), .val (D.str a30), .un, .un, .un, .un, .un, .val (D.int x46)], (put st k ((eL D.int) a3.2))⟩)) (q_test (q_call (q_cons (q_frz (q_sl (q_var rfl) q_pN (q_pS (q_var rfl)) rfl o_slS) rfl) q_nil) rfl (w_law_is_low e48) (nl_p (lt_put hk) (nl_v (nl_v (nl_v (nl_v (nl_v (nl_u (nl_u (nl_u (nl_u (nl_u (nl_v nl_0)))))))))))))) e52 (fun v hc hv => by (obtain ⟨a49, e50, hv⟩ := bnd hv; obtain rfl := som hv; exact (q_test (q_call (q_cons (q_frz (q_sl (q_var rfl) (q_pS (q_var rfl)) q_pN rfl o_slS) rfl) q_nil) rfl (w_law_is_low e50) (nl_p (lt_put hk) (nl_v (nl_v (nl_v (nl_v (nl_v (nl_u (nl_u (nl_u (nl_u (nl_u (nl_v nl_0)))))))))))))))) ⟨rfl, rfl⟩) hc) (q_tup (q_cons (q_sl (q_var rfl) q_pN (q_pS (q_var rfl)) rfl o_slS) (q_cons (q_sl (q_var rfl) (q_pS (q_var rfl)) q_pN rfl o_slS) q_nil)) rfl (lz rfl rfl)) rfl rfl)); exact (by (obtain rfl := som hy; exact turn_no (Γ1 := ⟨[.par k, .val (D.int j13), .val (D.int a11), .val (D.int v_part7), .val (D.int v_size15), .val (D.str a30), .un, .un, .un, .un, .un, .val (D.int x46)], (put st k ((eL D.int) a3.2))⟩) rfl (tr_f (q_andP (B := (fun v => v)) (G := (fun v => ⟨[.par k, .val (D.int j13), .val (D.int a11), .val (D.int v_part7), .val (D.int v_size15), .val (D.str a30), .un, .un, .un, .un, .un, .val (D.int x46)], (put st k ((eL D.int) a3.2))⟩)) (q_test (q_call (q_cons (q_frz (q_sl (q_var rfl) q_pN (q_pS (q_var rfl)) rfl o_slS) rfl) q_nil) rfl (w_law_is_low e48) (nl_p (lt_put hk) (nl_v (nl_v (nl_v (nl_v (nl_v (nl_u (nl_u (nl_u (nl_u (nl_u (nl_v nl_0)))))))))))))) e52 (fun v hc hv => by (obtain ⟨a49, e50, hv⟩ := bnd hv; obtain rfl := som hv; exact (q_test (q_call (q_cons (q_frz (q_sl (q_var rfl) (q_pS (q_var rfl)) q_pN rfl o_slS) rfl) q_nil) rfl (w_law_is_low e50) (nl_p (lt_put hk) (nl_v (nl_v (nl_v (nl_v (nl_v (nl_u (nl_u (nl_u (nl_u (nl_u (nl_v nl_0)))))))))))))))) ⟨rfl, rfl⟩) hc) rfl)))) e54) rfl) rfl ?_
      refine po_assoc ?_
      obtain ⟨a59, e60, h⟩ := bnd h
      rcases ifo h with ⟨hc, h⟩ | ⟨hc, h⟩
      · refine po_ifT (tr_t (q_orP (B := (fun v => v)) (G := (fun v => ⟨[.par k, .val (D.int j13), .val (D.int a11), .val (D.int v_part7), .val (D.int v_size15), .val (D.str a30), .val ((eL (eP2 D.str D.str)) a53), .un, .un, .un, .un, .un], (put st k ((eL D.int) a3.2))⟩)) (q_cmp (q_callB (q_cons (q_var rfl) q_nil) rfl (o_lenL (e := (eP2 D.str D.str)))) q_c rfl rfl (o_ne (e := D.int) ee_I ((List.length a53 : Nat) : Int) (1 : Int))) e60 (fun v hc hv => by (obtain ⟨a55, e56, hv⟩ := bnd hv; obtain ⟨a57, e58, hv⟩ := bnd hv; obtain rfl := som hv; exact (q_cmp (q_call (q_cons (q_frz (q_var rfl) rfl) q_nil) rfl (w_parted_in_two e56) (nl_p (lt_put hk) (nl_v (nl_v (nl_v (nl_v (nl_v (nl_v (nl_u (nl_u (nl_u (nl_u (nl_u nl_0))))))))))))) (q_bin (q_var rfl) q_c rfl rfl (o_ixL (e := (eP2 D.str D.str)) e58)) rfl rfl (o_ne (e := (eO (eP2 D.str D.str))) (ee_O (ee_P2 ee_S ee_S) (fun _ => rfl)) a55 (some a57))))) ⟨rfl, rfl⟩) hc) ?_
        obtain rfl := som h
        exact po_ret (Γ1 := ⟨[.par k, .val (D.int j13), .val (D.int a11), .val (D.int v_part7), .val (D.int v_size15), .val (D.str a30), .val ((eL (eP2 D.str D.str)) a53), .un, .un, .un, .un, .un], (put st k ((eL D.int) a3.2))⟩) (q_frz q_c rfl) ⟨_, _, rfl, rfl⟩
      · refine po_ifF (tr_f (q_orP (B := (fun v => v)) (G := (fun v => ⟨[.par k, .val (D.int j13), .val (D.int a11), .val (D.int v_part7), .val (D.int v_size15), .val (D.str a30), .val ((eL (eP2 D.str D.str)) a53), .un, .un, .un, .un, .un], (put st k ((eL D.int) a3.2))⟩)) (q_cmp (q_callB (q_cons (q_var rfl) q_nil) rfl (o_lenL (e := (eP2 D.str D.str)))) q_c rfl rfl (o_ne (e := D.int) ee_I ((List.length a53 : Nat) : Int) (1 : Int))) e60 (fun v hc hv => by (obtain ⟨a55, e56, hv⟩ := bnd hv; obtain ⟨a57, e58, hv⟩ := bnd hv; obtain rfl := som hv; exact (q_cmp (q_call (q_cons (q_frz (q_var rfl) rfl) q_nil) rfl (w_parted_in_two e56) (nl_p (lt_put hk) (nl_v (nl_v (nl_v (nl_v (nl_v (nl_v (nl_u (nl_u (nl_u (nl_u (nl_u nl_0))))))))))))) (q_bin (q_var rfl) q_c rfl rfl (o_ixL (e := (eP2 D.str D.str)) e58)) rfl rfl (o_ne (e := (eO (eP2 D.str D.str))) (ee_O (ee_P2 ee_S ee_S) (fun _ => rfl)) a55 (some a57))))) ⟨rfl, rfl⟩) hc) ?_
        refine po_next ?_
        refine po_assoc ?_
        obtain ⟨v_middle61, e62, h⟩ := bnd h
        refine po_asg (Γ2 := ⟨[.par k, .val (D.int j13), .val (D.int a11), .val (D.int v_part7), .val (D.int v_size15), .val (D.str a30), .val ((eL (eP2 D.str D.str)) a53), .val (D.str v_middle61), .un, .un, .un, .un], (put st k ((eL D.int) a3.2))⟩) (q_eqV (f := D.str) (a := (cutL a30 (some (1 : Int)) (some (-(1 : Int))))) (q_frz (q_sl (q_var rfl) (q_pS q_c) (q_pS (q_un q_c rfl rfl)) rfl o_slS) rfl) (som e62)) rfl ?_
        refine po_assoc ?_
        obtain ⟨a67, e68, h⟩ := bnd h
        rcases ifo h with ⟨hc, h⟩ | ⟨hc, h⟩
        · refine po_ifT (tr_t (q_or (q_andP (B := (fun v => v)) (G := (fun v => ⟨[.par k, .val (D.int j13), .val (D.int a11), .val (D.int v_part7), .val (D.int v_size15), .val (D.str a30), .val ((eL (eP2 D.str D.str)) a53), .val (D.str v_middle61), .un, .un, .un, .un], (put st k ((eL D.int) a3.2))⟩)) (q_cmp (q_var rfl) q_c rfl rfl rfl) e68 (fun v hc hv => by (obtain ⟨a65, e66, hv⟩ := bnd hv; obtain rfl := som hv; exact (q_andP (B := (fun v => v)) (G := (fun v => ⟨[.par k, .val (D.int j13), .val (D.int a11), .val (D.int v_part7), .val (D.int v_size15), .val (D.str a30), .val ((eL (eP2 D.str D.str)) a53), .val (D.str v_middle61), .un, .un, .un, .un], (put st k ((eL D.int) a3.2))⟩)) (q_cmp (q_var rfl) q_c rfl rfl rfl) e66 (fun v hc hv => by (obtain ⟨a63, e64, hv⟩ := bnd hv; obtain rfl := som hv; exact (q_cmp (q_call (q_cons (q_frz (q_var rfl) rfl) (q_cons (q_frz (q_var rfl) rfl) q_nil)) rfl (w_central_of e64) (nl_p (lt_put hk) (nl_v (nl_v (nl_v (nl_v (nl_v (nl_v (nl_v (nl_u (nl_u (nl_u (nl_u nl_0))))))))))))) (q_var rfl) rfl rfl (o_ne (e := D.str) ee_S a63 v_middle61)))) ⟨rfl, rfl⟩))) ⟨rfl, rfl⟩) fun _ => (q_cmp (q_var rfl) (q_un (q_var rfl) rfl o_revS) rfl rfl (o_ne (e := D.str) ee_S v_middle61 v_middle61.reverse))) hc) ?_
          obtain rfl := som h
          exact po_ret (Γ1 := ⟨[.par k, .val (D.int j13), .val (D.int a11), .val (D.int v_part7), .val (D.int v_size15), .val (D.str a30), .val ((eL (eP2 D.str D.str)) a53), .val (D.str v_middle61), .un, .un, .un, .un], (put st k ((eL D.int) a3.2))⟩) (q_frz q_c rfl) ⟨_, _, rfl, rfl⟩
        · refine po_ifF (tr_f (q_or (q_andP (B := (fun v => v)) (G := (fun v => ⟨[.par k, .val (D.int j13), .val (D.int a11), .val (D.int v_part7), .val (D.int v_size15), .val (D.str a30), .val ((eL (eP2 D.str D.str)) a53), .val (D.str v_middle61), .un, .un, .un, .un], (put st k ((eL D.int) a3.2))⟩)) (q_cmp (q_var rfl) q_c rfl rfl rfl) e68 (fun v hc hv => by (obtain ⟨a65, e66, hv⟩ := bnd hv; obtain rfl := som hv; exact (q_andP (B := (fun v => v)) (G := (fun v => ⟨[.par k, .val (D.int j13), .val (D.int a11), .val (D.int v_part7), .val (D.int v_size15), .val (D.str a30), .val ((eL (eP2 D.str D.str)) a53), .val (D.str v_middle61), .un, .un, .un, .un], (put st k ((eL D.int) a3.2))⟩)) (q_cmp (q_var rfl) q_c rfl rfl rfl) e66 (fun v hc hv => by (obtain ⟨a63, e64, hv⟩ := bnd hv; obtain rfl := som hv; exact (q_cmp (q_call (q_cons (q_frz (q_var rfl) rfl) (q_cons (q_frz (q_var rfl) rfl) q_nil)) rfl (w_central_of e64) (nl_p (lt_put hk) (nl_v (nl_v (nl_v (nl_v (nl_v (nl_v (nl_v (nl_u (nl_u (nl_u (nl_u nl_0))))))))))))) (q_var rfl) rfl rfl (o_ne (e := D.str) ee_S a63 v_middle61)))) ⟨rfl, rfl⟩))) ⟨rfl, rfl⟩) fun _ => (q_cmp (q_var rfl) (q_un (q_var rfl) rfl o_revS) rfl rfl (o_ne (e := D.str) ee_S v_middle61 v_middle61.reverse))) hc) ?_
          refine po_next ?_
          obtain ⟨a69, e70, h⟩ := bnd h
          obtain ⟨a74, e75, h⟩ := bnd h
          obtain ⟨a78, e79, h⟩ := bnd h
          rcases ifo h with ⟨hc, h⟩ | ⟨hc, h⟩
          · refine po_ifT (tr_t (q_orP (B := (fun v => v)) (G := (fun v => ⟨[.par k, .val (D.int j13), .val (D.int a11), .val (D.int v_part7), .val (D.int v_size15), .val (D.str a30), .val ((eL (eP2 D.str D.str)) a53), .val (D.str v_middle61), .un, .un, .un, .un], (put st k ((eL D.int) a3.2))⟩)) (q_cmp (q_lcT D.str D.int (q_iseqT (q_bin (q_var rfl) q_c rfl rfl (o_ixL (e := (eP2 D.str D.str)) e70)) rfl) rfl (fun x71 y hy => by (obtain ⟨a72, e73, hy⟩ := bnd hy; rcases ifo hy with ⟨hc, hy⟩ | ⟨hc, hy⟩; exact (by (obtain rfl := som hy; exact turn_yes (Γ1 := ⟨[.par k, .val (D.int j13), .val (D.int a11), .val (D.str x71), .val (D.int v_size15), .val (D.str a30), .val ((eL (eP2 D.str D.str)) a53), .val (D.str v_middle61), .un, .un, .un, .un], (put st k ((eL D.int) a3.2))⟩) rfl (tr_t (q_not (q_test (q_call (q_cons (q_frz (q_var rfl) rfl) (q_cons (q_frz (q_callB (q_cons (q_var rfl) q_nil) rfl rfl) rfl) q_nil)) rfl (w_law_has_period e73) (nl_p (lt_put hk) (nl_v (nl_v (nl_v (nl_v (nl_v (nl_v (nl_v (nl_u (nl_u (nl_u (nl_u nl_0))))))))))))))) hc) (q_callB (q_cons (q_var rfl) q_nil) rfl rfl) rfl rfl)); exact (by (obtain rfl := som hy; exact turn_no (Γ1 := ⟨[.par k, .val (D.int j13), .val (D.int a11), .val (D.str x71), .val (D.int v_size15), .val (D.str a30), .val ((eL (eP2 D.str D.str)) a53), .val (D.str v_middle61), .un, .un, .un, .un], (put st k ((eL D.int) a3.2))⟩) rfl (tr_f (q_not (q_test (q_call (q_cons (q_frz (q_var rfl) rfl) (q_cons (q_frz (q_callB (q_cons (q_var rfl) q_nil) rfl rfl) rfl) q_nil)) rfl (w_law_has_period e73) (nl_p (lt_put hk) (nl_v (nl_v (nl_v (nl_v (nl_v (nl_v (nl_v (nl_u (nl_u (nl_u (nl_u nl_0))))))))))))))) hc) rfl)))) e75) (q_list q_nil rfl (lz rfl rfl)) rfl rfl (o_ne (e := (eL D.int)) (ee_L ee_I) a74 ([] : (List Int)))) e79 (fun v hc hv => by (obtain ⟨a76, e77, hv⟩ := bnd hv; obtain rfl := som hv; exact (q_cmp (q_call (q_cons (q_frz (q_var rfl) rfl) q_nil) rfl (w_is_central e77) (nl_p (lt_put hk) (nl_v (nl_v (nl_v (nl_v (nl_v (nl_v (nl_v (nl_u (nl_u (nl_u (nl_u nl_0))))))))))))) q_c rfl rfl (o_not rfl)))) ⟨rfl, rfl⟩) hc) ?_
            obtain rfl := som h
            exact po_ret (Γ1 := ⟨[.par k, .val (D.int j13), .val (D.int a11), .val (D.int v_part7), .val (D.int v_size15), .val (D.str a30), .val ((eL (eP2 D.str D.str)) a53), .val (D.str v_middle61), .un, .un, .un, .un], (put st k ((eL D.int) a3.2))⟩) (q_frz q_c rfl) ⟨_, _, rfl, rfl⟩
          · refine po_ifF (tr_f (q_orP (B := (fun v => v)) (G := (fun v => ⟨[.par k, .val (D.int j13), .val (D.int a11), .val (D.int v_part7), .val (D.int v_size15), .val (D.str a30), .val ((eL (eP2 D.str D.str)) a53), .val (D.str v_middle61), .un, .un, .un, .un], (put st k ((eL D.int) a3.2))⟩)) (q_cmp (q_lcT D.str D.int (q_iseqT (q_bin (q_var rfl) q_c rfl rfl (o_ixL (e := (eP2 D.str D.str)) e70)) rfl) rfl (fun x71 y hy => by (obtain ⟨a72, e73, hy⟩ := bnd hy; rcases ifo hy with ⟨hc, hy⟩ | ⟨hc, hy⟩; exact (by (obtain rfl := som hy; exact turn_yes (Γ1 := ⟨[.par k, .val (D.int j13), .val (D.int a11), .val (D.str x71), .val (D.int v_size15), .val (D.str a30), .val ((eL (eP2 D.str D.str)) a53), .val (D.str v_middle61), .un, .un, .un, .un], (put st k ((eL D.int) a3.2))⟩) rfl (tr_t (q_not (q_test (q_call (q_cons (q_frz (q_var rfl) rfl) (q_cons (q_frz (q_callB (q_cons (q_var rfl) q_nil) rfl rfl) rfl) q_nil)) rfl (w_law_has_period e73) (nl_p (lt_put hk) (nl_v (nl_v (nl_v (nl_v (nl_v (nl_v (nl_v (nl_u (nl_u (nl_u (nl_u nl_0))))))))))))))) hc) (q_callB (q_cons (q_var rfl) q_nil) rfl rfl) rfl rfl)); exact (by (obtain rfl := som hy; exact turn_no (Γ1 := ⟨[.par k, .val (D.int j13), .val (D.int a11), .val (D.str x71), .val (D.int v_size15), .val (D.str a30), .val ((eL (eP2 D.str D.str)) a53), .val (D.str v_middle61), .un, .un, .un, .un], (put st k ((eL D.int) a3.2))⟩) rfl (tr_f (q_not (q_test (q_call (q_cons (q_frz (q_var rfl) rfl) (q_cons (q_frz (q_callB (q_cons (q_var rfl) q_nil) rfl rfl) rfl) q_nil)) rfl (w_law_has_period e73) (nl_p (lt_put hk) (nl_v (nl_v (nl_v (nl_v (nl_v (nl_v (nl_v (nl_u (nl_u (nl_u (nl_u nl_0))))))))))))))) hc) rfl)))) e75) (q_list q_nil rfl (lz rfl rfl)) rfl rfl (o_ne (e := (eL D.int)) (ee_L ee_I) a74 ([] : (List Int)))) e79 (fun v hc hv => by (obtain ⟨a76, e77, hv⟩ := bnd hv; obtain rfl := som hv; exact (q_cmp (q_call (q_cons (q_frz (q_var rfl) rfl) q_nil) rfl (w_is_central e77) (nl_p (lt_put hk) (nl_v (nl_v (nl_v (nl_v (nl_v (nl_v (nl_v (nl_u (nl_u (nl_u (nl_u nl_0))))))))))))) q_c rfl rfl (o_not rfl)))) ⟨rfl, rfl⟩) hc) ?_
            refine po_next ?_
            obtain ⟨a80, e81, h⟩ := bnd h
            obtain ⟨o104, e101, h⟩ := bnd h
            obtain ⟨p9, ef, hl⟩ := forR_ok (e := D.int) (g := (asgn 8)) (b := b_law_right_1) (fun (s82 : (List Int)) Γ => ∃ q83 q84, Γ = ⟨[.par k, .val (D.int j13), .val (D.int a11), .val (D.int v_part7), .val (D.int v_size15), .val (D.str a30), .val ((eL (eP2 D.str D.str)) a53), .val (D.str v_middle61), q2c q83, q2c q84, .un, .un], (put st k ((eL D.int) s82))⟩) (Q := (fun (r : (Bool × (List Int))) p => RetQ false (D.bl r.1) (put st k ((eL D.int) r.2)) p)) (fun r p hp => retQ_out hp) (by
                rintro s82 x85 s9 Γ h ⟨q83, q84, rfl⟩
                refine ⟨⟨[.par k, .val (D.int j13), .val (D.int a11), .val (D.int v_part7), .val (D.int v_size15), .val (D.str a30), .val ((eL (eP2 D.str D.str)) a53), .val (D.str v_middle61), .val (D.int x85), q2c q84, .un, .un], (put st k ((eL D.int) s82))⟩, rfl, ?_⟩
                unfold b_law_right_1
                obtain ⟨a86, e87, h⟩ := bnd h
                refine po_asg (Γ2 := ⟨[.par k, .val (D.int j13), .val (D.int a11), .val (D.int v_part7), .val (D.int v_size15), .val (D.str a30), .val ((eL (eP2 D.str D.str)) a53), .val (D.str v_middle61), .val (D.int x85), .val (D.str a86.1), .un, .un], (put st k ((eL D.int) a86.2))⟩) (q_frz (q_callP (sl := [.par k, .val (D.int j13), .val (D.int a11), .val (D.int v_part7), .val (D.int v_size15), .val (D.str a30), .val ((eL (eP2 D.str D.str)) a53), .val (D.str v_middle61), .val (D.int x85), q2c q84, .un, .un]) (st := st) (k := k) (x := (eL D.int) s82) (y := (eL D.int) a86.2) (.inl ⟨_, rfl⟩) (q_cons (q_varP rfl) (q_cons (q_frz q_c rfl) (q_cons (q_frz q_c rfl) (q_cons (q_frz q_c rfl) q_nil)))) rfl (w_law_word e87 hk) (nl_p hk (nl_v (nl_v (nl_v (nl_v (nl_v (nl_v (nl_v (nl_v (nl_q (nl_u (nl_u nl_0))))))))))))) rfl) rfl ?_
                refine po_bare ?_
                obtain ⟨a88, e89, h⟩ := bnd h
                obtain ⟨a92, e93, h⟩ := bnd h
                obtain ⟨a98, e99, h⟩ := bnd h
                rcases ifo h with ⟨hc, h⟩ | ⟨hc, h⟩
                · refine po_ifT (tr_t (q_orP (B := (fun v => v)) (G := (fun v => ⟨[.par k, .val (D.int j13), .val (D.int a11), .val (D.int v_part7), .val (D.int v_size15), .val (D.str a30), .val ((eL (eP2 D.str D.str)) a53), .val (D.str v_middle61), .val (D.int x85), .val (D.str a86.1), .un, .un], (put st k ((eL D.int) a86.2))⟩)) (q_cmp (q_call (q_cons (q_frz (q_var rfl) rfl) q_nil) rfl (w_is_christoffel e89) (nl_p (lt_put hk) (nl_v (nl_v (nl_v (nl_v (nl_v (nl_v (nl_v (nl_v (nl_v (nl_u (nl_u nl_0))))))))))))) (q_ofB (q_andP (B := (fun v => v)) (G := (fun v => ⟨[.par k, .val (D.int j13), .val (D.int a11), .val (D.int v_part7), .val (D.int v_size15), .val (D.str a30), .val ((eL (eP2 D.str D.str)) a53), .val (D.str v_middle61), .val (D.int x85), .val (D.str a86.1), .un, .un], (put st k ((eL D.int) a86.2))⟩)) (q_cmp (q_var rfl) q_c rfl rfl (o_ne (e := D.str) ee_S a86.1 ([] : List Nat))) e93 (fun v hc hv => by (obtain ⟨a90, e91, hv⟩ := bnd hv; obtain rfl := som hv; exact (q_test (q_call (q_cons (q_frz (q_var rfl) rfl) q_nil) rfl (w_law_is_low e91) (nl_p (lt_put hk) (nl_v (nl_v (nl_v (nl_v (nl_v (nl_v (nl_v (nl_v (nl_v (nl_u (nl_u nl_0)))))))))))))))) ⟨rfl, rfl⟩)) rfl rfl (o_ne (e := D.bl) ee_B a88 a92)) e99 (fun v hc hv => by (obtain ⟨a94, e95, hv⟩ := bnd hv; obtain ⟨a96, e97, hv⟩ := bnd hv; obtain rfl := som hv; exact (q_cmp (q_call (q_cons (q_frz (q_var rfl) rfl) q_nil) rfl (w_is_central e95) (nl_p (lt_put hk) (nl_v (nl_v (nl_v (nl_v (nl_v (nl_v (nl_v (nl_v (nl_v (nl_u (nl_u nl_0))))))))))))) (q_call (q_cons (q_frz (q_var rfl) rfl) q_nil) rfl (w_law_is_middle e97) (nl_p (lt_put hk) (nl_v (nl_v (nl_v (nl_v (nl_v (nl_v (nl_v (nl_v (nl_v (nl_u (nl_u nl_0))))))))))))) rfl rfl (o_ne (e := D.bl) ee_B a94 a96)))) ⟨rfl, rfl⟩) hc) ?_
                  obtain rfl := som h
                  exact po_ret (Γ1 := ⟨[.par k, .val (D.int j13), .val (D.int a11), .val (D.int v_part7), .val (D.int v_size15), .val (D.str a30), .val ((eL (eP2 D.str D.str)) a53), .val (D.str v_middle61), .val (D.int x85), .val (D.str a86.1), .un, .un], (put st k ((eL D.int) a86.2))⟩) (q_frz q_c rfl) ⟨_, _, rfl, rfl⟩
                · refine po_ifF (tr_f (q_orP (B := (fun v => v)) (G := (fun v => ⟨[.par k, .val (D.int j13), .val (D.int a11), .val (D.int v_part7), .val (D.int v_size15), .val (D.str a30), .val ((eL (eP2 D.str D.str)) a53), .val (D.str v_middle61), .val (D.int x85), .val (D.str a86.1), .un, .un], (put st k ((eL D.int) a86.2))⟩)) (q_cmp (q_call (q_cons (q_frz (q_var rfl) rfl) q_nil) rfl (w_is_christoffel e89) (nl_p (lt_put hk) (nl_v (nl_v (nl_v (nl_v (nl_v (nl_v (nl_v (nl_v (nl_v (nl_u (nl_u nl_0))))))))))))) (q_ofB (q_andP (B := (fun v => v)) (G := (fun v => ⟨[.par k, .val (D.int j13), .val (D.int a11), .val (D.int v_part7), .val (D.int v_size15), .val (D.str a30), .val ((eL (eP2 D.str D.str)) a53), .val (D.str v_middle61), .val (D.int x85), .val (D.str a86.1), .un, .un], (put st k ((eL D.int) a86.2))⟩)) (q_cmp (q_var rfl) q_c rfl rfl (o_ne (e := D.str) ee_S a86.1 ([] : List Nat))) e93 (fun v hc hv => by (obtain ⟨a90, e91, hv⟩ := bnd hv; obtain rfl := som hv; exact (q_test (q_call (q_cons (q_frz (q_var rfl) rfl) q_nil) rfl (w_law_is_low e91) (nl_p (lt_put hk) (nl_v (nl_v (nl_v (nl_v (nl_v (nl_v (nl_v (nl_v (nl_v (nl_u (nl_u nl_0)))))))))))))))) ⟨rfl, rfl⟩)) rfl rfl (o_ne (e := D.bl) ee_B a88 a92)) e99 (fun v hc hv => by (obtain ⟨a94, e95, hv⟩ := bnd hv; obtain ⟨a96, e97, hv⟩ := bnd hv; obtain rfl := som hv; exact (q_cmp (q_call (q_cons (q_frz (q_var rfl) rfl) q_nil) rfl (w_is_central e95) (nl_p (lt_put hk) (nl_v (nl_v (nl_v (nl_v (nl_v (nl_v (nl_v (nl_v (nl_v (nl_u (nl_u nl_0))))))))))))) (q_call (q_cons (q_frz (q_var rfl) rfl) q_nil) rfl (w_law_is_middle e97) (nl_p (lt_put hk) (nl_v (nl_v (nl_v (nl_v (nl_v (nl_v (nl_v (nl_v (nl_v (nl_u (nl_u nl_0))))))))))))) rfl rfl (o_ne (e := D.bl) ee_B a94 a96)))) ⟨rfl, rfl⟩) hc) ?_
                  refine po_next ?_
                  obtain rfl := som h
                  exact po_end ⟨.inl rfl, .val (D.int x85), .val (D.str a86.1), rfl⟩
                ) e101 (Γ := ⟨[.par k, .val (D.int j13), .val (D.int a11), .val (D.int v_part7), .val (D.int v_size15), .val (D.str a30), .val ((eL (eP2 D.str D.str)) a53), .val (D.str v_middle61), .un, .un, .un, .un], (put st k ((eL D.int) a3.2))⟩) ⟨.un, .un, rfl⟩
            replace h := aftR_some h
            rcases h with ⟨r105, rfl, h⟩ | ⟨j100, rfl, h⟩
            · obtain ⟨v9, Γ9, rfl, hr⟩ := hl
              obtain rfl := som h
              exact po_forX (i_range1 (q_cons q_c q_nil) e81) ef ⟨v9, Γ9, rfl, hr⟩
            · obtain ⟨fl9, Γ9⟩ := p9
              obtain ⟨hf9, q102, q103, hg9⟩ := hl
              dsimp only at hf9 hg9
              subst hf9 hg9
              refine po_for (i_range1 (q_cons q_c q_nil) e81) ef ?_
              obtain ⟨a106, e107, h⟩ := bnd h
              refine po_asg (Γ2 := ⟨[.par k, .val (D.int j13), .val (D.int a11), .val (D.int v_part7), .val (D.int v_size15), .val (D.str a30), .val ((eL (eP2 D.str D.str)) a53), .val (D.str v_middle61), q2c q102, q2c q103, .val (D.int a106.1), .un], (put st k ((eL D.int) a106.2))⟩) (q_frz (q_callP (sl := [.par k, .val (D.int j13), .val (D.int a11), .val (D.int v_part7), .val (D.int v_size15), .val (D.str a30), .val ((eL (eP2 D.str D.str)) a53), .val (D.str v_middle61), q2c q102, q2c q103, .un, .un]) (st := st) (k := k) (x := (eL D.int) j100) (y := (eL D.int) a106.2) (.inl ⟨_, rfl⟩) (q_cons (q_varP rfl) (q_cons (q_frz q_c rfl) q_nil)) rfl (w_law_take e107 hk) (nl_p hk (nl_v (nl_v (nl_v (nl_v (nl_v (nl_v (nl_v (nl_q (nl_q (nl_u (nl_u nl_0))))))))))))) rfl) rfl ?_
              obtain ⟨a108, e109, h⟩ := bnd h
              obtain ⟨o136, e134, h⟩ := bnd h
              obtain ⟨p9, ef, hl⟩ := forR_ok (e := D.str) (g := (asgn 9)) (b := b_law_right_2) (fun (s110 : Unit) Γ => ∃ q111, Γ = ⟨[.par k, .val (D.int j13), .val (D.int a11), .val (D.int v_part7), .val (D.int v_size15), .val (D.str a30), .val ((eL (eP2 D.str D.str)) a53), .val (D.str v_middle61), q2c q102, q2c q111, .val (D.int a106.1), .un], (put st k ((eL D.int) a106.2))⟩) (Q := (fun (r : (Bool × (List Int))) p => RetQ false (D.bl r.1) (put st k ((eL D.int) r.2)) p)) (fun r p hp => retQ_out hp) (by
                  rintro s110 x112 s9 Γ h ⟨q111, rfl⟩
                  refine ⟨⟨[.par k, .val (D.int j13), .val (D.int a11), .val (D.int v_part7), .val (D.int v_size15), .val (D.str a30), .val ((eL (eP2 D.str D.str)) a53), .val (D.str v_middle61), q2c q102, .val (D.str x112), .val (D.int a106.1), .un], (put st k ((eL D.int) a106.2))⟩, rfl, ?_⟩
                  unfold b_law_right_2
                  obtain ⟨a113, e114, h⟩ := bnd h
                  obtain ⟨a115, e116, h⟩ := bnd h
                  obtain ⟨a123, e124, h⟩ := bnd h
                  rcases ifo h with ⟨hc, h⟩ | ⟨hc, h⟩
                  · refine po_ifT (tr_t (q_orP (B := (fun v => v)) (G := (fun v => ⟨[.par k, .val (D.int j13), .val (D.int a11), .val (D.int v_part7), .val (D.int v_size15), .val (D.str a30), .val ((eL (eP2 D.str D.str)) a53), .val (D.str v_middle61), q2c q102, .val (D.str x112), .val (D.int a106.1), .un], (put st k ((eL D.int) a106.2))⟩)) (q_cmp (q_call (q_cons (q_frz (q_var rfl) rfl) q_nil) rfl (w_is_central e114) (nl_p (lt_put hk) (nl_v (nl_v (nl_v (nl_v (nl_v (nl_v (nl_v (nl_q (nl_v (nl_v (nl_u nl_0))))))))))))) (q_call (q_cons (q_frz (q_var rfl) rfl) q_nil) rfl (w_law_is_middle e116) (nl_p (lt_put hk) (nl_v (nl_v (nl_v (nl_v (nl_v (nl_v (nl_v (nl_q (nl_v (nl_v (nl_u nl_0))))))))))))) rfl rfl (o_ne (e := D.bl) ee_B a113 a115)) e124 (fun v hc hv => by (obtain ⟨a117, e118, hv⟩ := bnd hv; obtain ⟨a121, e122, hv⟩ := bnd hv; obtain rfl := som hv; exact (q_cmp (q_call (q_cons (q_frz (q_var rfl) rfl) q_nil) rfl (w_is_christoffel e118) (nl_p (lt_put hk) (nl_v (nl_v (nl_v (nl_v (nl_v (nl_v (nl_v (nl_q (nl_v (nl_v (nl_u nl_0))))))))))))) (q_ofB (q_andP (B := (fun v => v)) (G := (fun v => ⟨[.par k, .val (D.int j13), .val (D.int a11), .val (D.int v_part7), .val (D.int v_size15), .val (D.str a30), .val ((eL (eP2 D.str D.str)) a53), .val (D.str v_middle61), q2c q102, .val (D.str x112), .val (D.int a106.1), .un], (put st k ((eL D.int) a106.2))⟩)) (q_cmp (q_var rfl) q_c rfl rfl (o_ne (e := D.str) ee_S x112 ([] : List Nat))) e122 (fun v hc hv => by (obtain ⟨a119, e120, hv⟩ := bnd hv; obtain rfl := som hv; exact (q_test (q_call (q_cons (q_frz (q_var rfl) rfl) q_nil) rfl (w_law_is_low e120) (nl_p (lt_put hk) (nl_v (nl_v (nl_v (nl_v (nl_v (nl_v (nl_v (nl_q (nl_v (nl_v (nl_u nl_0)))))))))))))))) ⟨rfl, rfl⟩)) rfl rfl (o_ne (e := D.bl) ee_B a117 a121)))) ⟨rfl, rfl⟩) hc) ?_
                    obtain rfl := som h
                    exact po_ret (Γ1 := ⟨[.par k, .val (D.int j13), .val (D.int a11), .val (D.int v_part7), .val (D.int v_size15), .val (D.str a30), .val ((eL (eP2 D.str D.str)) a53), .val (D.str v_middle61), q2c q102, .val (D.str x112), .val (D.int a106.1), .un], (put st k ((eL D.int) a106.2))⟩) (q_frz q_c rfl) ⟨_, _, rfl, rfl⟩
                  · refine po_ifF (tr_f (q_orP (B := (fun v => v)) (G := (fun v => ⟨[.par k, .val (D.int j13), .val (D.int a11), .val (D.int v_part7), .val (D.int v_size15), .val (D.str a30), .val ((eL (eP2 D.str D.str)) a53), .val (D.str v_middle61), q2c q102, .val (D.str x112), .val (D.int a106.1), .un], (put st k ((eL D.int) a106.2))⟩)) (q_cmp (q_call (q_cons (q_frz (q_var rfl) rfl) q_nil) rfl (w_is_central e114) (nl_p (lt_put hk) (nl_v (nl_v (nl_v (nl_v (nl_v (nl_v (nl_v (nl_q (nl_v (nl_v (nl_u nl_0))))))))))))) (q_call (q_cons (q_frz (q_var rfl) rfl) q_nil) rfl (w_law_is_middle e116) (nl_p (lt_put hk) (nl_v (nl_v (nl_v (nl_v (nl_v (nl_v (nl_v (nl_q (nl_v (nl_v (nl_u nl_0))))))))))))) rfl rfl (o_ne (e := D.bl) ee_B a113 a115)) e124 (fun v hc hv => by (obtain ⟨a117, e118, hv⟩ := bnd hv; obtain ⟨a121, e122, hv⟩ := bnd hv; obtain rfl := som hv; exact (q_cmp (q_call (q_cons (q_frz (q_var rfl) rfl) q_nil) rfl (w_is_christoffel e118) (nl_p (lt_put hk) (nl_v (nl_v (nl_v (nl_v (nl_v (nl_v (nl_v (nl_q (nl_v (nl_v (nl_u nl_0))))))))))))) (q_ofB (q_andP (B := (fun v => v)) (G := (fun v => ⟨[.par k, .val (D.int j13), .val (D.int a11), .val (D.int v_part7), .val (D.int v_size15), .val (D.str a30), .val ((eL (eP2 D.str D.str)) a53), .val (D.str v_middle61), q2c q102, .val (D.str x112), .val (D.int a106.1), .un], (put st k ((eL D.int) a106.2))⟩)) (q_cmp (q_var rfl) q_c rfl rfl (o_ne (e := D.str) ee_S x112 ([] : List Nat))) e122 (fun v hc hv => by (obtain ⟨a119, e120, hv⟩ := bnd hv; obtain rfl := som hv; exact (q_test (q_call (q_cons (q_frz (q_var rfl) rfl) q_nil) rfl (w_law_is_low e120) (nl_p (lt_put hk) (nl_v (nl_v (nl_v (nl_v (nl_v (nl_v (nl_v (nl_q (nl_v (nl_v (nl_u nl_0)))))))))))))))) ⟨rfl, rfl⟩)) rfl rfl (o_ne (e := D.bl) ee_B a117 a121)))) ⟨rfl, rfl⟩) hc) ?_
                    refine po_next ?_
                    refine po_bare ?_
                    obtain ⟨a125, e126, h⟩ := bnd h
                    obtain ⟨a127, e128, h⟩ := bnd h
                    obtain ⟨a129, e130, h⟩ := bnd h
                    obtain ⟨a131, e132, h⟩ := bnd h
                    rcases ifo h with ⟨hc, h⟩ | ⟨hc, h⟩
                    · refine po_ifT (tr_t (q_cmp (q_call (q_cons (q_frz (q_var rfl) rfl) q_nil) rfl (w_is_central e126) (nl_p (lt_put hk) (nl_v (nl_v (nl_v (nl_v (nl_v (nl_v (nl_v (nl_q (nl_v (nl_v (nl_u nl_0))))))))))))) (q_call (q_cons (q_frz (q_bin (q_bin q_c (q_var rfl) rfl rfl (o_catS e128)) q_c rfl rfl (o_catS e130)) rfl) q_nil) rfl (w_is_christoffel e132) (nl_p (lt_put hk) (nl_v (nl_v (nl_v (nl_v (nl_v (nl_v (nl_v (nl_q (nl_v (nl_v (nl_u nl_0))))))))))))) rfl rfl (o_ne (e := D.bl) ee_B a125 a131)) hc) ?_
                      obtain rfl := som h
                      exact po_ret (Γ1 := ⟨[.par k, .val (D.int j13), .val (D.int a11), .val (D.int v_part7), .val (D.int v_size15), .val (D.str a30), .val ((eL (eP2 D.str D.str)) a53), .val (D.str v_middle61), q2c q102, .val (D.str x112), .val (D.int a106.1), .un], (put st k ((eL D.int) a106.2))⟩) (q_frz q_c rfl) ⟨_, _, rfl, rfl⟩
                    · refine po_ifF (tr_f (q_cmp (q_call (q_cons (q_frz (q_var rfl) rfl) q_nil) rfl (w_is_central e126) (nl_p (lt_put hk) (nl_v (nl_v (nl_v (nl_v (nl_v (nl_v (nl_v (nl_q (nl_v (nl_v (nl_u nl_0))))))))))))) (q_call (q_cons (q_frz (q_bin (q_bin q_c (q_var rfl) rfl rfl (o_catS e128)) q_c rfl rfl (o_catS e130)) rfl) q_nil) rfl (w_is_christoffel e132) (nl_p (lt_put hk) (nl_v (nl_v (nl_v (nl_v (nl_v (nl_v (nl_v (nl_q (nl_v (nl_v (nl_u nl_0))))))))))))) rfl rfl (o_ne (e := D.bl) ee_B a125 a131)) hc) ?_
                      refine po_next ?_
                      obtain rfl := som h
                      exact po_end ⟨.inl rfl, .val (D.str x112), rfl⟩
                  ) e134 (Γ := ⟨[.par k, .val (D.int j13), .val (D.int a11), .val (D.int v_part7), .val (D.int v_size15), .val (D.str a30), .val ((eL (eP2 D.str D.str)) a53), .val (D.str v_middle61), q2c q102, q2c q103, .val (D.int a106.1), .un], (put st k ((eL D.int) a106.2))⟩) ⟨q103, rfl⟩
              replace h := aftR_some h
              rcases h with ⟨r137, rfl, h⟩ | ⟨j133, rfl, h⟩
              · obtain ⟨v9, Γ9, rfl, hr⟩ := hl
                obtain rfl := som h
                exact po_forX (q_iseq (q_call (q_cons (q_frz q_c rfl) (q_cons (q_frz (q_var rfl) rfl) q_nil)) rfl (w_law_all_words e109) (nl_p (lt_put hk) (nl_v (nl_v (nl_v (nl_v (nl_v (nl_v (nl_v (nl_q (nl_q (nl_v (nl_u nl_0))))))))))))) rfl) ef ⟨v9, Γ9, rfl, hr⟩
              · obtain ⟨fl9, Γ9⟩ := p9
                obtain ⟨hf9, q135, hg9⟩ := hl
                dsimp only at hf9 hg9
                subst hf9 hg9
                refine po_for (q_iseq (q_call (q_cons (q_frz q_c rfl) (q_cons (q_frz (q_var rfl) rfl) q_nil)) rfl (w_law_all_words e109) (nl_p (lt_put hk) (nl_v (nl_v (nl_v (nl_v (nl_v (nl_v (nl_v (nl_q (nl_q (nl_v (nl_u nl_0))))))))))))) rfl) ef ?_
                refine po_bare ?_
                obtain rfl := som h
                exact po_ret (Γ1 := ⟨[.par k, .val (D.int j13), .val (D.int a11), .val (D.int v_part7), .val (D.int v_size15), .val (D.str a30), .val ((eL (eP2 D.str D.str)) a53), .val (D.str v_middle61), q2c q102, q2c q135, .val (D.int a106.1), .un], (put st k ((eL D.int) a106.2))⟩) (q_frz q_c rfl) ⟨_, _, rfl, rfl⟩
    · refine po_ifF (tr_f (q_cmp (q_var rfl) q_c rfl rfl rfl) hc) ?_
      refine po_next ?_
      obtain ⟨a138, e139, h⟩ := bnd h
      obtain ⟨o162, e159, h⟩ := bnd h
      obtain ⟨p9, ef, hl⟩ := forR_ok (e := D.int) (g := (asgn 8)) (b := b_law_right_1) (fun (s140 : (List Int)) Γ => ∃ q141 q142, Γ = ⟨[.par k, .val (D.int j13), .val (D.int a11), .val (D.int v_part7), .val (D.int v_size15), .val (D.str a30), .un, .un, q2c q141, q2c q142, .un, .un], (put st k ((eL D.int) s140))⟩) (Q := (fun (r : (Bool × (List Int))) p => RetQ false (D.bl r.1) (put st k ((eL D.int) r.2)) p)) (fun r p hp => retQ_out hp) (by
          rintro s140 x143 s9 Γ h ⟨q141, q142, rfl⟩
          refine ⟨⟨[.par k, .val (D.int j13), .val (D.int a11), .val (D.int v_part7), .val (D.int v_size15), .val (D.str a30), .un, .un, .val (D.int x143), q2c q142, .un, .un], (put st k ((eL D.int) s140))⟩, rfl, ?_⟩
          unfold b_law_right_1
          obtain ⟨a144, e145, h⟩ := bnd h
          refine po_asg (Γ2 := ⟨[.par k, .val (D.int j13), .val (D.int a11), .val (D.int v_part7), .val (D.int v_size15), .val (D.str a30), .un, .un, .val (D.int x143), .val (D.str a144.1), .un, .un], (put st k ((eL D.int) a144.2))⟩) (q_frz (q_callP (sl := [.par k, .val (D.int j13), .val (D.int a11), .val (D.int v_part7), .val (D.int v_size15), .val (D.str a30), .un, .un, .val (D.int x143), q2c q142, .un, .un]) (st := st) (k := k) (x := (eL D.int) s140) (y := (eL D.int) a144.2) (.inl ⟨_, rfl⟩) (q_cons (q_varP rfl) (q_cons (q_frz q_c rfl) (q_cons (q_frz q_c rfl) (q_cons (q_frz q_c rfl) q_nil)))) rfl (w_law_word e145 hk) (nl_p hk (nl_v (nl_v (nl_v (nl_v (nl_v (nl_u (nl_u (nl_v (nl_q (nl_u (nl_u nl_0))))))))))))) rfl) rfl ?_
          refine po_bare ?_
          obtain ⟨a146, e147, h⟩ := bnd h
          obtain ⟨a150, e151, h⟩ := bnd h
          obtain ⟨a156, e157, h⟩ := bnd h
          rcases ifo h with ⟨hc, h⟩ | ⟨hc, h⟩
          · refine po_ifT (tr_t (q_orP (B := (fun v => v)) (G := (fun v => ⟨[.par k, .val (D.int j13), .val (D.int a11), .val (D.int v_part7), .val (D.int v_size15), .val (D.str a30), .un, .un, .val (D.int x143), .val (D.str a144.1), .un, .un], (put st k ((eL D.int) a144.2))⟩)) (q_cmp (q_call (q_cons (q_frz (q_var rfl) rfl) q_nil) rfl (w_is_christoffel e147) (nl_p (lt_put hk) (nl_v (nl_v (nl_v (nl_v (nl_v (nl_u (nl_u (nl_v (nl_v (nl_u (nl_u nl_0))))))))))))) (q_ofB (q_andP (B := (fun v => v)) (G := (fun v => ⟨[.par k, .val (D.int j13), .val (D.int a11), .val (D.int v_part7), .val (D.int v_size15), .val (D.str a30), .un, .un, .val (D.int x143), .val (D.str a144.1), .un, .un], (put st k ((eL D.int) a144.2))⟩)) (q_cmp (q_var rfl) q_c rfl rfl (o_ne (e := D.str) ee_S a144.1 ([] : List Nat))) e151 (fun v hc hv => by (obtain ⟨a148, e149, hv⟩ := bnd hv; obtain rfl := som hv; exact (q_test (q_call (q_cons (q_frz (q_var rfl) rfl) q_nil) rfl (w_law_is_low e149) (nl_p (lt_put hk) (nl_v (nl_v (nl_v (nl_v (nl_v (nl_u (nl_u (nl_v (nl_v (nl_u (nl_u nl_0)))))))))))))))) ⟨rfl, rfl⟩)) rfl rfl (o_ne (e := D.bl) ee_B a146 a150)) e157 (fun v hc hv => by (obtain ⟨a152, e153, hv⟩ := bnd hv; obtain ⟨a154, e155, hv⟩ := bnd hv; obtain rfl := som hv; exact (q_cmp (q_call (q_cons (q_frz (q_var rfl) rfl) q_nil) rfl (w_is_central e153) (nl_p (lt_put hk) (nl_v (nl_v (nl_v (nl_v (nl_v (nl_u (nl_u (nl_v (nl_v (nl_u (nl_u nl_0))))))))))))) (q_call (q_cons (q_frz (q_var rfl) rfl) q_nil) rfl (w_law_is_middle e155) (nl_p (lt_put hk) (nl_v (nl_v (nl_v (nl_v (nl_v (nl_u (nl_u (nl_v (nl_v (nl_u (nl_u nl_0))))))))))))) rfl rfl (o_ne (e := D.bl) ee_B a152 a154)))) ⟨rfl, rfl⟩) hc) ?_
            obtain rfl := som h
            exact po_ret (Γ1 := ⟨[.par k, .val (D.int j13), .val (D.int a11), .val (D.int v_part7), .val (D.int v_size15), .val (D.str a30), .un, .un, .val (D.int x143), .val (D.str a144.1), .un, .un], (put st k ((eL D.int) a144.2))⟩) (q_frz q_c rfl) ⟨_, _, rfl, rfl⟩
          · refine po_ifF (tr_f (q_orP (B := (fun v => v)) (G := (fun v => ⟨[.par k, .val (D.int j13), .val (D.int a11), .val (D.int v_part7), .val (D.int v_size15), .val (D.str a30), .un, .un, .val (D.int x143), .val (D.str a144.1), .un, .un], (put st k ((eL D.int) a144.2))⟩)) (q_cmp (q_call (q_cons (q_frz (q_var rfl) rfl) q_nil) rfl (w_is_christoffel e147) (nl_p (lt_put hk) (nl_v (nl_v (nl_v (nl_v (nl_v (nl_u (nl_u (nl_v (nl_v (nl_u (nl_u nl_0))))))))))))) (q_ofB (q_andP (B := (fun v => v)) (G := (fun v => ⟨[.par k, .val (D.int j13), .val (D.int a11), .val (D.int v_part7), .val (D.int v_size15), .val (D.str a30), .un, .un, .val (D.int x143), .val (D.str a144.1), .un, .un], (put st k ((eL D.int) a144.2))⟩)) (q_cmp (q_var rfl) q_c rfl rfl (o_ne (e := D.str) ee_S a144.1 ([] : List Nat))) e151 (fun v hc hv => by (obtain ⟨a148, e149, hv⟩ := bnd hv; obtain rfl := som hv; exact (q_test (q_call (q_cons (q_frz (q_var rfl) rfl) q_nil) rfl (w_law_is_low e149) (nl_p (lt_put hk) (nl_v (nl_v (nl_v (nl_v (nl_v (nl_u (nl_u (nl_v (nl_v (nl_u (nl_u nl_0)))))))))))))))) ⟨rfl, rfl⟩)) rfl rfl (o_ne (e := D.bl) ee_B a146 a150)) e157 (fun v hc hv => by (obtain ⟨a152, e153, hv⟩ := bnd hv; obtain ⟨a154, e155, hv⟩ := bnd hv; obtain rfl := som hv; exact (q_cmp (q_call (q_cons (q_frz (q_var rfl) rfl) q_nil) rfl (w_is_central e153) (nl_p (lt_put hk) (nl_v (nl_v (nl_v (nl_v (nl_v (nl_u (nl_u (nl_v (nl_v (nl_u (nl_u nl_0))))))))))))) (q_call (q_cons (q_frz (q_var rfl) rfl) q_nil) rfl (w_law_is_middle e155) (nl_p (lt_put hk) (nl_v (nl_v (nl_v (nl_v (nl_v (nl_u (nl_u (nl_v (nl_v (nl_u (nl_u nl_0))))))))))))) rfl rfl (o_ne (e := D.bl) ee_B a152 a154)))) ⟨rfl, rfl⟩) hc) ?_
            refine po_next ?_
            obtain rfl := som h
            exact po_end ⟨.inl rfl, .val (D.int x143), .val (D.str a144.1), rfl⟩
          ) e159 (Γ := ⟨[.par k, .val (D.int j13), .val (D.int a11), .val (D.int v_part7), .val (D.int v_size15), .val (D.str a30), .un, .un, .un, .un, .un, .un], (put st k ((eL D.int) a3.2))⟩) ⟨.un, .un, rfl⟩
      replace h := aftR_some h
      rcases h with ⟨r163, rfl, h⟩ | ⟨j158, rfl, h⟩
      · obtain ⟨v9, Γ9, rfl, hr⟩ := hl
        obtain rfl := som h
        exact po_forX (i_range1 (q_cons q_c q_nil) e139) ef ⟨v9, Γ9, rfl, hr⟩
      · obtain ⟨fl9, Γ9⟩ := p9
        obtain ⟨hf9, q160, q161, hg9⟩ := hl
        dsimp only at hf9 hg9
        subst hf9 hg9
        refine po_for (i_range1 (q_cons q_c q_nil) e139) ef ?_
        obtain ⟨a164, e165, h⟩ := bnd h
        refine po_asg (Γ2 := ⟨[.par k, .val (D.int j13), .val (D.int a11), .val (D.int v_part7), .val (D.int v_size15), .val (D.str a30), .un, .un, q2c q160, q2c q161, .val (D.int a164.1), .un], (put st k ((eL D.int) a164.2))⟩) (q_frz (q_callP (sl := [.par k, .val (D.int j13), .val (D.int a11), .val (D.int v_part7), .val (D.int v_size15), .val (D.str a30), .un, .un, q2c q160, q2c q161, .un, .un]) (st := st) (k := k) (x := (eL D.int) j158) (y := (eL D.int) a164.2) (.inl ⟨_, rfl⟩) (q_cons (q_varP rfl) (q_cons (q_frz q_c rfl) q_nil)) rfl (w_law_take e165 hk) (nl_p hk (nl_v (nl_v (nl_v (nl_v (nl_v (nl_u (nl_u (nl_q (nl_q (nl_u (nl_u nl_0))))))))))))) rfl) rfl ?_
        obtain ⟨a166, e167, h⟩ := bnd h
        obtain ⟨o194, e192, h⟩ := bnd h
        obtain ⟨p9, ef, hl⟩ := forR_ok (e := D.str) (g := (asgn 9)) (b := b_law_right_2) (fun (s168 : Unit) Γ => ∃ q169, Γ = ⟨[.par k, .val (D.int j13), .val (D.int a11), .val (D.int v_part7), .val (D.int v_size15), .val (D.str a30), .un, .un, q2c q160, q2c q169, .val (D.int a164.1), .un], (put st k ((eL D.int) a164.2))⟩) (Q := (fun (r : (Bool × (List Int))) p => RetQ false (D.bl r.1) (put st k ((eL D.int) r.2)) p)) (fun r p hp => retQ_out hp) (by
            rintro s168 x170 s9 Γ h ⟨q169, rfl⟩
            refine ⟨⟨[.par k, .val (D.int j13), .val (D.int a11), .val (D.int v_part7), .val (D.int v_size15), .val (D.str a30), .un, .un, q2c q160, .val (D.str x170), .val (D.int a164.1), .un], (put st k ((eL D.int) a164.2))⟩, rfl, ?_⟩
            unfold b_law_right_2
            obtain ⟨a171, e172, h⟩ := bnd h
            obtain ⟨a173, e174, h⟩ := bnd h
            obtain ⟨a181, e182, h⟩ := bnd h
            rcases ifo h with ⟨hc, h⟩ | ⟨hc, h⟩
            · refine po_ifT (tr_t (q_orP (B := (fun v => v)) (G := (fun v => ⟨[.par k, .val (D.int j13), .val (D.int a11), .val (D.int v_part7), .val (D.int v_size15), .val (D.str a30), .un, .un, q2c q160, .val (D.str x170), .val (D.int a164.1), .un], (put st k ((eL D.int) a164.2))⟩)) (q_cmp (q_call (q_cons (q_frz (q_var rfl) rfl) q_nil) rfl (w_is_central e172) (nl_p (lt_put hk) (nl_v (nl_v (nl_v (nl_v (nl_v (nl_u (nl_u (nl_q (nl_v (nl_v (nl_u nl_0))))))))))))) (q_call (q_cons (q_frz (q_var rfl) rfl) q_nil) rfl (w_law_is_middle e174) (nl_p (lt_put hk) (nl_v (nl_v (nl_v (nl_v (nl_v (nl_u (nl_u (nl_q (nl_v (nl_v (nl_u nl_0))))))))))))) rfl rfl (o_ne (e := D.bl) ee_B a171 a173)) e182 (fun v hc hv => by (obtain ⟨a175, e176, hv⟩ := bnd hv; obtain ⟨a179, e180, hv⟩ := bnd hv; obtain rfl := som hv; exact (q_cmp (q_call (q_cons (q_frz (q_var rfl) rfl) q_nil) rfl (w_is_christoffel e176) (nl_p (lt_put hk) (nl_v (nl_v (nl_v (nl_v (nl_v (nl_u (nl_u (nl_q (nl_v (nl_v (nl_u nl_0))))))))))))) (q_ofB (q_andP (B := (fun v => v)) (G := (fun v => ⟨[.par k, .val (D.int j13), .val (D.int a11), .val (D.int v_part7), .val (D.int v_size15), .val (D.str a30), .un, .un, q2c q160, .val (D.str x170), .val (D.int a164.1), .un], (put st k ((eL D.int) a164.2))⟩)) (q_cmp (q_var rfl) q_c rfl rfl (o_ne (e := D.str) ee_S x170 ([] : List Nat))) e180 (fun v hc hv => by (obtain ⟨a177, e178, hv⟩ := bnd hv; obtain rfl := som hv; exact (q_test (q_call (q_cons (q_frz (q_var rfl) rfl) q_nil) rfl (w_law_is_low e178) (nl_p (lt_put hk) (nl_v (nl_v (nl_v (nl_v (nl_v (nl_u (nl_u (nl_q (nl_v (nl_v (nl_u nl_0)))))))))))))))) ⟨rfl, rfl⟩)) rfl rfl (o_ne (e := D.bl) ee_B a175 a179)))) ⟨rfl, rfl⟩) hc) ?_
              obtain rfl := som h
              exact po_ret (Γ1 := ⟨[.par k, .val (D.int j13), .val (D.int a11), .val (D.int v_part7), .val (D.int v_size15), .val (D.str a30), .un, .un, q2c q160, .val (D.str x170), .val (D.int a164.1), .un], (put st k ((eL D.int) a164.2))⟩) (q_frz q_c rfl) ⟨_, _, rfl, rfl⟩
            · refine po_ifF (tr_f (q_orP (B := (fun v => v)) (G := (fun v => ⟨[.par k, .val (D.int j13), .val (D.int a11), .val (D.int v_part7), .val (D.int v_size15), .val (D.str a30), .un, .un, q2c q160, .val (D.str x170), .val (D.int a164.1), .un], (put st k ((eL D.int) a164.2))⟩)) (q_cmp (q_call (q_cons (q_frz (q_var rfl) rfl) q_nil) rfl (w_is_central e172) (nl_p (lt_put hk) (nl_v (nl_v (nl_v (nl_v (nl_v (nl_u (nl_u (nl_q (nl_v (nl_v (nl_u nl_0))))))))))))) (q_call (q_cons (q_frz (q_var rfl) rfl) q_nil) rfl (w_law_is_middle e174) (nl_p (lt_put hk) (nl_v (nl_v (nl_v (nl_v (nl_v (nl_u (nl_u (nl_q (nl_v (nl_v (nl_u nl_0))))))))))))) rfl rfl (o_ne (e := D.bl) ee_B a171 a173)) e182 (fun v hc hv => by (obtain ⟨a175, e176, hv⟩ := bnd hv; obtain ⟨a179, e180, hv⟩ := bnd hv; obtain rfl := som hv; exact (q_cmp (q_call (q_cons (q_frz (q_var rfl) rfl) q_nil) rfl (w_is_christoffel e176) (nl_p (lt_put hk) (nl_v (nl_v (nl_v (nl_v (nl_v (nl_u (nl_u (nl_q (nl_v (nl_v (nl_u nl_0))))))))))))) (q_ofB (q_andP (B := (fun v => v)) (G := (fun v => ⟨[.par k, .val (D.int j13), .val (D.int a11), .val (D.int v_part7), .val (D.int v_size15), .val (D.str a30), .un, .un, q2c q160, .val (D.str x170), .val (D.int a164.1), .un], (put st k ((eL D.int) a164.2))⟩)) (q_cmp (q_var rfl) q_c rfl rfl (o_ne (e := D.str) ee_S x170 ([] : List Nat))) e180 (fun v hc hv => by (obtain ⟨a177, e178, hv⟩ := bnd hv; obtain rfl := som hv; exact (q_test (q_call (q_cons (q_frz (q_var rfl) rfl) q_nil) rfl (w_law_is_low e178) (nl_p (lt_put hk) (nl_v (nl_v (nl_v (nl_v (nl_v (nl_u (nl_u (nl_q (nl_v (nl_v (nl_u nl_0)))))))))))))))) ⟨rfl, rfl⟩)) rfl rfl (o_ne (e := D.bl) ee_B a175 a179)))) ⟨rfl, rfl⟩) hc) ?_
              refine po_next ?_
              refine po_bare ?_
              obtain ⟨a183, e184, h⟩ := bnd h
              obtain ⟨a185, e186, h⟩ := bnd h
              obtain ⟨a187, e188, h⟩ := bnd h
              obtain ⟨a189, e190, h⟩ := bnd h
              rcases ifo h with ⟨hc, h⟩ | ⟨hc, h⟩
              · refine po_ifT (tr_t (q_cmp (q_call (q_cons (q_frz (q_var rfl) rfl) q_nil) rfl (w_is_central e184) (nl_p (lt_put hk) (nl_v (nl_v (nl_v (nl_v (nl_v (nl_u (nl_u (nl_q (nl_v (nl_v (nl_u nl_0))))))))))))) (q_call (q_cons (q_frz (q_bin (q_bin q_c (q_var rfl) rfl rfl (o_catS e186)) q_c rfl rfl (o_catS e188)) rfl) q_nil) rfl (w_is_christoffel e190) (nl_p (lt_put hk) (nl_v (nl_v (nl_v (nl_v (nl_v (nl_u (nl_u (nl_q (nl_v (nl_v (nl_u nl_0))))))))))))) rfl rfl (o_ne (e := D.bl) ee_B a183 a189)) hc) ?_
                obtain rfl := som h
                exact po_ret (Γ1 := ⟨[.par k, .val (D.int j13), .val (D.int a11), .val (D.int v_part7), .val (D.int v_size15), .val (D.str a30), .un, .un, q2c q160, .val (D.str x170), .val (D.int a164.1), .un], (put st k ((eL D.int) a164.2))⟩) (q_frz q_c rfl) ⟨_, _, rfl, rfl⟩
              · refine po_ifF (tr_f (q_cmp (q_call (q_cons (q_frz (q_var rfl) rfl) q_nil) rfl (w_is_central e184) (nl_p (lt_put hk) (nl_v (nl_v (nl_v (nl_v (nl_v (nl_u (nl_u (nl_q (nl_v (nl_v (nl_u nl_0))))))))))))) (q_call (q_cons (q_frz (q_bin (q_bin q_c (q_var rfl) rfl rfl (o_catS e186)) q_c rfl rfl (o_catS e188)) rfl) q_nil) rfl (w_is_christoffel e190) (nl_p (lt_put hk) (nl_v (nl_v (nl_v (nl_v (nl_v (nl_u (nl_u (nl_q (nl_v (nl_v (nl_u nl_0))))))))))))) rfl rfl (o_ne (e := D.bl) ee_B a183 a189)) hc) ?_
                refine po_next ?_
                obtain rfl := som h
                exact po_end ⟨.inl rfl, .val (D.str x170), rfl⟩
            ) e192 (Γ := ⟨[.par k, .val (D.int j13), .val (D.int a11), .val (D.int v_part7), .val (D.int v_size15), .val (D.str a30), .un, .un, q2c q160, q2c q161, .val (D.int a164.1), .un], (put st k ((eL D.int) a164.2))⟩) ⟨q161, rfl⟩
        replace h := aftR_some h
        rcases h with ⟨r195, rfl, h⟩ | ⟨j191, rfl, h⟩
        · obtain ⟨v9, Γ9, rfl, hr⟩ := hl
          obtain rfl := som h
          exact po_forX (q_iseq (q_call (q_cons (q_frz q_c rfl) (q_cons (q_frz (q_var rfl) rfl) q_nil)) rfl (w_law_all_words e167) (nl_p (lt_put hk) (nl_v (nl_v (nl_v (nl_v (nl_v (nl_u (nl_u (nl_q (nl_q (nl_v (nl_u nl_0))))))))))))) rfl) ef ⟨v9, Γ9, rfl, hr⟩
        · obtain ⟨fl9, Γ9⟩ := p9
          obtain ⟨hf9, q193, hg9⟩ := hl
          dsimp only at hf9 hg9
          subst hf9 hg9
          refine po_for (q_iseq (q_call (q_cons (q_frz q_c rfl) (q_cons (q_frz (q_var rfl) rfl) q_nil)) rfl (w_law_all_words e167) (nl_p (lt_put hk) (nl_v (nl_v (nl_v (nl_v (nl_v (nl_u (nl_u (nl_q (nl_q (nl_v (nl_u nl_0))))))))))))) rfl) ef ?_
          refine po_bare ?_
          obtain rfl := som h
          exact po_ret (Γ1 := ⟨[.par k, .val (D.int j13), .val (D.int a11), .val (D.int v_part7), .val (D.int v_size15), .val (D.str a30), .un, .un, q2c q160, q2c q193, .val (D.int a164.1), .un], (put st k ((eL D.int) a164.2))⟩) (q_frz q_c rfl) ⟨_, _, rfl, rfl⟩
def t_law (v_script : (List Int)) : Option Bool :=
  (range1T (maxI2 (1 : Int) (minI2 (3 : Int) ((List.length v_script : Nat) : Int)))).bind fun a1 =>
  (forR (fun (s3 : Unit) (x7 : Int) => show Option (FlT Unit Bool) from
    (t_law_jar v_script x7).bind fun a8 =>
    (range1T (3 : Int)).bind fun a10 =>
    (forR (fun (s12 : (List Int)) (x14 : Int) => show Option (FlT (List Int) Bool) from
    (t_law_right s12).bind fun a15 =>
    if (!a15.1) = true then (
      some (.ret false)
    ) else (
      some (.nx a15.2)
    )) a10 a8).bind fun o20 => aftR o20 (fun r21 => some (.ret r21)) fun j17 =>
    some (.nx ())) a1 (() : Unit)).bind fun o27 => aftR o27 (fun r28 => some r28) fun j22 =>
  (t_christoffel (3 : Int) (2 : Int)).bind fun a29 =>
  (t_is_christoffel ([97, 98, 97, 97, 98] : List Nat)).bind fun a31 =>
  (t_parted_in_two ([97, 97, 98, 97, 98] : List Nat)).bind fun a33 =>
  (t_christoffel (1 : Int) (0 : Int)).bind fun a35 =>
  (t_christoffel (0 : Int) (1 : Int)).bind fun a37 =>
  (t_parted_in_two ([97, 98] : List Nat)).bind fun a39 =>
  (some ([(D.str a29), (D.bl a31), ((eO (eP2 D.str D.str)) a33), (D.str a35), (D.str a37), ((eO (eP2 D.str D.str)) a39)] : (List D))).bind fun v_told41 =>
  (t_is_central ([97, 98, 97] : List Nat)).bind fun a43 =>
  (t_is_central ([97, 98, 98, 97] : List Nat)).bind fun a45 =>
  (t_central_of (3 : Int) (2 : Int)).bind fun a47 =>
  (t_is_central ([] : List Nat)).bind fun a49 =>
  (catT v_told41 ([(D.bl a43), (D.bl a45), (D.str a47), (D.bl a49)] : (List D))).bind fun a51 =>
  (eqD ((eL eA) a51) ((eL eA) ([(D.str ([97, 97, 98, 97, 98] : List Nat)), (D.bl false), ((eP2 D.str D.str) (([97, 97, 98] : List Nat), ([97, 98] : List Nat))), (D.str ([97] : List Nat)), (D.str ([98] : List Nat)), ((eP2 D.str D.str) (([97] : List Nat), ([98] : List Nat))), (D.bl true), (D.bl false), (D.str ([97, 98, 97] : List Nat)), (D.bl true)] : (List D)))).bind fun a53 =>
  some a53
theorem w_law {v_script : (List Int)} {r : Bool} (h : t_law v_script = some r) {st : List SC} : f_law [.val ((eL D.int) v_script)] st = some (.val (D.bl r), st) := by
  unfold t_law at h
  refine def_post rfl ?_
  show Post (m_law ⟨[.val ((eL D.int) v_script), .un, .un, .un, .un], st⟩) _
  unfold m_law
  obtain ⟨a1, e2, h⟩ := bnd h
  obtain ⟨o27, e23, h⟩ := bnd h
  obtain ⟨p9, ef, hl⟩ := forR_ok (e := D.int) (g := (asgn 1)) (b := b_law_2) (fun (s3 : Unit) Γ => ∃ q4 q5 q6, Γ = ⟨[.val ((eL D.int) v_script), q2c q4, q2c q5, q2c q6, .un], st⟩) (Q := (fun (r : Bool) p => RetQ false (D.bl r) st p)) (fun r p hp => retQ_out hp) (by
      rintro s3 x7 s9 Γ h ⟨q4, q5, q6, rfl⟩
      refine ⟨⟨[.val ((eL D.int) v_script), .val (D.int x7), q2c q5, q2c q6, .un], st⟩, rfl, ?_⟩
      unfold b_law_2
      obtain ⟨a8, e9, h⟩ := bnd h
      refine po_asg (Γ2 := ⟨[.val ((eL D.int) v_script), .val (D.int x7), .own ((eL D.int) a8), q2c q6, .un], st⟩) (q_callF (q_cons (q_frz (q_var rfl) rfl) (q_cons (q_frz (q_var rfl) rfl) q_nil)) rfl (w_law_jar e9) (nl_v (nl_v (nl_q (nl_q (nl_u nl_0)))))) rfl ?_
      refine po_bare ?_
      obtain ⟨a10, e11, h⟩ := bnd h
      obtain ⟨o20, e18, h⟩ := bnd h
      obtain ⟨p9, ef, hl⟩ := forR_ok (e := D.int) (g := (asgn 3)) (b := b_law_1) (fun (s12 : (List Int)) Γ => ∃ q13, Γ = ⟨[.val ((eL D.int) v_script), .val (D.int x7), .own ((eL D.int) s12), q2c q13, .un], st⟩) (Q := (fun (r : Bool) p => RetQ false (D.bl r) st p)) (fun r p hp => retQ_out hp) (by
          rintro s12 x14 s9 Γ h ⟨q13, rfl⟩
          refine ⟨⟨[.val ((eL D.int) v_script), .val (D.int x7), .own ((eL D.int) s12), .val (D.int x14), .un], st⟩, rfl, ?_⟩
          unfold b_law_1
          refine po_bare ?_
          obtain ⟨a15, e16, h⟩ := bnd h
          rcases ifo h with ⟨hc, h⟩ | ⟨hc, h⟩
          · refine po_ifT (tr_t (q_not (q_test (q_callO (i := 2) (sl := [.val ((eL D.int) v_script), .val (D.int x7), .own ((eL D.int) s12), .val (D.int x14), .un]) (st := st) (x := (eL D.int) s12) (y := (eL D.int) a15.2) (.inl ⟨_, rfl⟩) (q_cons (q_varO rfl) q_nil) rfl (w_law_right e16 (lt_app _ _)) (nl_v (nl_v (nl_o (nl_v (nl_u nl_0))))) (lz1 rfl rfl)))) hc) ?_
            obtain rfl := som h
            exact po_ret (Γ1 := ⟨[.val ((eL D.int) v_script), .val (D.int x7), .own ((eL D.int) a15.2), .val (D.int x14), .un], st⟩) (q_frz q_c rfl) ⟨_, _, rfl, rfl⟩
          · refine po_ifF (tr_f (q_not (q_test (q_callO (i := 2) (sl := [.val ((eL D.int) v_script), .val (D.int x7), .own ((eL D.int) s12), .val (D.int x14), .un]) (st := st) (x := (eL D.int) s12) (y := (eL D.int) a15.2) (.inl ⟨_, rfl⟩) (q_cons (q_varO rfl) q_nil) rfl (w_law_right e16 (lt_app _ _)) (nl_v (nl_v (nl_o (nl_v (nl_u nl_0))))) (lz1 rfl rfl)))) hc) ?_
            refine po_next ?_
            obtain rfl := som h
            exact po_end ⟨.inl rfl, .val (D.int x14), rfl⟩
          ) e18 (Γ := ⟨[.val ((eL D.int) v_script), .val (D.int x7), .own ((eL D.int) a8), q2c q6, .un], st⟩) ⟨q6, rfl⟩
      replace h := aftR_some h
      rcases h with ⟨r21, rfl, h⟩ | ⟨j17, rfl, h⟩
      · obtain ⟨v9, Γ9, rfl, hr⟩ := hl
        obtain rfl := som h
        exact po_forX (i_range1 (q_cons q_c q_nil) e11) ef ⟨v9, Γ9, rfl, hr⟩
      · obtain ⟨fl9, Γ9⟩ := p9
        obtain ⟨hf9, q19, hg9⟩ := hl
        dsimp only at hf9 hg9
        subst hf9 hg9
        refine po_for (i_range1 (q_cons q_c q_nil) e11) ef ?_
        obtain rfl := som h
        exact po_end ⟨.inl rfl, .val (D.int x7), .own ((eL D.int) j17), q19, rfl⟩
      ) e23 (Γ := ⟨[.val ((eL D.int) v_script), .un, .un, .un, .un], st⟩) ⟨.un, .un, .un, rfl⟩
  replace h := aftR_some h
  rcases h with ⟨r28, rfl, h⟩ | ⟨j22, rfl, h⟩
  · obtain ⟨v9, Γ9, rfl, hr⟩ := hl
    obtain rfl := som h
    exact po_forX (i_range1 (q_cons (q_callB (q_cons q_c (q_cons (q_callB (q_cons q_c (q_cons (q_callB (q_cons (q_var rfl) q_nil) rfl (o_lenL (e := D.int))) q_nil)) rfl rfl) q_nil)) rfl rfl) q_nil) e2) ef ⟨v9, Γ9, rfl, hr⟩
  · obtain ⟨fl9, Γ9⟩ := p9
    obtain ⟨hf9, q24, q25, q26, hg9⟩ := hl
    dsimp only at hf9 hg9
    subst hf9 hg9
    refine po_for (i_range1 (q_cons (q_callB (q_cons q_c (q_cons (q_callB (q_cons q_c (q_cons (q_callB (q_cons (q_var rfl) q_nil) rfl (o_lenL (e := D.int))) q_nil)) rfl rfl) q_nil)) rfl rfl) q_nil) e2) ef ?_
    obtain ⟨a29, e30, h⟩ := bnd h
    obtain ⟨a31, e32, h⟩ := bnd h
    obtain ⟨a33, e34, h⟩ := bnd h
    obtain ⟨a35, e36, h⟩ := bnd h
    obtain ⟨a37, e38, h⟩ := bnd h
    obtain ⟨a39, e40, h⟩ := bnd h
    obtain ⟨v_told41, e42, h⟩ := bnd h
    refine po_asg (Γ2 := ⟨[.val ((eL D.int) v_script), q2c q24, q2c q25, q2c q26, .val ((eL eA) v_told41)], st⟩) (q_eqV (f := (eL eA)) (a := ([(D.str a29), (D.bl a31), ((eO (eP2 D.str D.str)) a33), (D.str a35), (D.str a37), ((eO (eP2 D.str D.str)) a39)] : (List D))) (q_frz (q_list (q_cons (q_call (q_cons (q_frz q_c rfl) (q_cons (q_frz q_c rfl) q_nil)) rfl (w_christoffel e30) (nl_v (nl_q (nl_q (nl_q (nl_u nl_0)))))) (q_cons (q_call (q_cons (q_frz q_c rfl) q_nil) rfl (w_is_christoffel e32) (nl_v (nl_q (nl_q (nl_q (nl_u nl_0)))))) (q_cons (q_call (q_cons (q_frz q_c rfl) q_nil) rfl (w_parted_in_two e34) (nl_v (nl_q (nl_q (nl_q (nl_u nl_0)))))) (q_cons (q_call (q_cons (q_frz q_c rfl) (q_cons (q_frz q_c rfl) q_nil)) rfl (w_christoffel e36) (nl_v (nl_q (nl_q (nl_q (nl_u nl_0)))))) (q_cons (q_call (q_cons (q_frz q_c rfl) (q_cons (q_frz q_c rfl) q_nil)) rfl (w_christoffel e38) (nl_v (nl_q (nl_q (nl_q (nl_u nl_0)))))) (q_cons (q_call (q_cons (q_frz q_c rfl) q_nil) rfl (w_parted_in_two e40) (nl_v (nl_q (nl_q (nl_q (nl_u nl_0)))))) q_nil)))))) rfl (lz rfl rfl)) rfl) (som e42)) rfl ?_
    obtain ⟨a43, e44, h⟩ := bnd h
    obtain ⟨a45, e46, h⟩ := bnd h
    obtain ⟨a47, e48, h⟩ := bnd h
    obtain ⟨a49, e50, h⟩ := bnd h
    obtain ⟨a51, e52, h⟩ := bnd h
    refine po_asg (Γ2 := ⟨[.val ((eL D.int) v_script), q2c q24, q2c q25, q2c q26, .val ((eL eA) a51)], st⟩) (q_frz (q_bin (q_var rfl) (q_list (q_cons (q_call (q_cons (q_frz q_c rfl) q_nil) rfl (w_is_central e44) (nl_v (nl_q (nl_q (nl_q (nl_v nl_0)))))) (q_cons (q_call (q_cons (q_frz q_c rfl) q_nil) rfl (w_is_central e46) (nl_v (nl_q (nl_q (nl_q (nl_v nl_0)))))) (q_cons (q_call (q_cons (q_frz q_c rfl) (q_cons (q_frz q_c rfl) q_nil)) rfl (w_central_of e48) (nl_v (nl_q (nl_q (nl_q (nl_v nl_0)))))) (q_cons (q_call (q_cons (q_frz q_c rfl) q_nil) rfl (w_is_central e50) (nl_v (nl_q (nl_q (nl_q (nl_v nl_0)))))) q_nil)))) rfl (lz rfl rfl)) rfl rfl (o_catL (e := eA) e52)) rfl) rfl ?_
    refine po_bare ?_
    obtain ⟨a53, e54, h⟩ := bnd h
    obtain rfl := som h
    exact po_ret (Γ1 := ⟨[.val ((eL D.int) v_script), q2c q24, q2c q25, q2c q26, .val ((eL eA) a51)], st⟩) (q_frz (q_ofB (q_cmp (q_var rfl) (q_list (q_cons q_c (q_cons q_c (q_cons (q_tup (q_cons q_c (q_cons q_c q_nil)) rfl (lz rfl rfl)) (q_cons q_c (q_cons q_c (q_cons (q_tup (q_cons q_c (q_cons q_c q_nil)) rfl (lz rfl rfl)) (q_cons q_c (q_cons q_c (q_cons q_c (q_cons q_c q_nil)))))))))) rfl (lz rfl rfl)) rfl rfl e54)) rfl) ⟨_, _, rfl, rfl⟩
theorem law_of (H : ∀ ns : List Int, ns.length ≤ 63 → (∀ z ∈ ns, Builtin.Int.intBits z ≤ 1048576) → t_law ns = some true) : LawOk f_law := fun ns hn hb => ⟨[], w_law (H ns hn hb)⟩
end K61

set_option Elab.async false
set_option linter.all false
set_option maxRecDepth 100000
set_option maxHeartbeats 4000000
namespace K61
open PySem L2 PyProof.Rows VS
/-! the jar of draws -/
def Jar (j : List Int) : Prop := ∃ a b c, j = [a, b, c]
theorem jar_ok (script : List Int) (i : Nat) : ∃ j, t_law_jar script (i : Int) = some j ∧ Jar j := by
  have p1 : powT 10 55 = some (10 ^ 55) := if_pos (by decide)
  have p2 : powT (10 ^ 55) 5 = some ((10 ^ 55) ^ 5) := if_pos (by decide +kernel)
  have p3 : powT 10 17 = some (10 ^ 17) := if_pos (by decide)
  have c : ∃ cell, (if decide ((i : Int) < ((List.length script : Nat) : Int)) = true then (atI script i).bind fun a => some a else some (991 * (i : Int) + 97)) = some cell := by
    by_cases h : i < script.length
    · rw [if_pos (by simpa using h), atI_lt h]
      exact ⟨_, rfl⟩
    · rw [if_neg (by simpa using h)]
      exact ⟨_, rfl⟩
  obtain ⟨cell, hc⟩ := c
  unfold t_law_jar
  rw [hc]
  simp only [Option.bind_some]
  rw [p1]
  simp only [Option.bind_some]
  rw [p2]
  simp only [Option.bind_some]
  rw [modT_eq (by decide +kernel), p3]
  exact ⟨_, rfl, _, _, _, rfl⟩
theorem take_ok {j : List Int} (hj : Jar j) {n : Int} (h1 : 0 < n) (h2 : n ≤ 1000000) : ∃ v j', t_law_take j n = some (v, j') ∧ 0 ≤ v ∧ v < n ∧ Jar j' := by
  obtain ⟨a, b, c, rfl⟩ := hj
  have m1 : ∀ x : Int, 0 ≤ x % n := fun x => Int.emod_nonneg _ (by omega)
  have m2 : ∀ x : Int, x % n < n := fun x => Int.emod_lt_of_pos _ h1
  by_cases ha : 0 < a
  · refine ⟨a % n, [a / n, b, c], ?_, m1 a, m2 a, _, _, _, rfl⟩
    simp [t_law_take, ha, modT_eq h1, fdivT_eq h1 h2, setT, ixN]
  · have e : ∀ y : Int, mulT (y % 2305843009213693951) (y % 2305843009213693951) = some ((y % 2305843009213693951) * (y % 2305843009213693951)) := fun y => mulT_eq (mulOk_l (by
      have a1 : 0 ≤ y % 2305843009213693951 := Int.emod_nonneg _ (by decide)
      have a2 : y % 2305843009213693951 < 2305843009213693951 := Int.emod_lt_of_pos _ (by decide)
      unfold smallI
      rw [decide_eq_true_eq]
      refine Nat.div_eq_of_lt ?_
      omega))
    have key : ∃ x : Int, t_law_take [a, b, c] n = some (x % n, [a, b, c + 1]) := by
      refine ⟨((((b + 49979687 * (c + 1)) % 2305843009213693951 * ((b + 49979687 * (c + 1)) % 2305843009213693951) + 331 * (c + 1)) % 2305843009213693921 * 67867967) + (b + 49979687 * (c + 1)) % 2305843009213693951) / 65651, ?_⟩
      simp [t_law_take, ha, modT_eq h1, setT, ixN, e]
    obtain ⟨x, hx⟩ := key
    exact ⟨x % n, [a, b, c + 1], hx, m1 x, m2 x, _, _, _, rfl⟩
theorem choice_ok {j : List Int} (hj : Jar j) {xs : List (List Nat)} (h1 : xs ≠ []) (h2 : xs.length ≤ 1000000) : ∃ x j', t_law_choice j xs = some (x, j') ∧ x ∈ xs ∧ Jar j' := by
  have h3 : 0 < xs.length := List.length_pos_iff.mpr h1
  obtain ⟨v, j', e, a1, a2, hj'⟩ := take_ok hj (n := (xs.length : Int)) (by omega) (by omega)
  obtain ⟨h4, h5⟩ := atI_in a1 a2
  refine ⟨_, j', ?_, List.getElem_mem h4, hj'⟩
  simp [t_law_choice, e, h5]
theorem len_cut {α : Type} (xs : List α) (n : Nat) : (cutL xs none (some (n : Int))).length = min n xs.length := by rw [cutL_b, List.length_take]
theorem mem_cutL {α : Type} {xs : List α} {lo hi : Option Int} {x : α} (h : x ∈ cutL xs lo hi) : x ∈ xs := by
  unfold cutL at h
  exact List.mem_of_mem_drop (List.mem_of_mem_take h)
theorem len_cutL {α : Type} (xs : List α) (lo hi : Option Int) : (cutL xs lo hi).length ≤ xs.length := by
  unfold cutL
  rw [List.length_take, List.length_drop]
  omega
theorem mem_rep {α : Type} {xs : List α} {n : Nat} {x : α} (h : x ∈ (List.replicate n xs).flatten) : x ∈ xs := by
  rw [List.mem_flatten] at h
  obtain ⟨l, h1, h2⟩ := h
  rw [(List.mem_replicate.mp h1).2] at h2
  exact h2
theorem len_rep {α : Type} (xs : List α) (n : Nat) : ((List.replicate n xs).flatten).length = n * xs.length := by
  simp [List.length_flatten]
theorem word_ok {j : List Int} (hj : Jar j) {least most : Nat} {ls : List Nat} (h1 : least ≤ most) (h2 : most ≤ 900) (hl : ls ≠ []) (hl2 : ls.length ≤ 300) :
    ∃ w j', t_law_word j (least : Int) (most : Int) ls = some (w, j') ∧ (∀ c ∈ w, c ∈ ls) ∧ least ≤ w.length ∧ w.length ≤ most ∧ Jar j' := by
  obtain ⟨v, j1, t1, v1, v2, hj1⟩ := take_ok hj (n := (most : Int) - least + 1) (by omega) (by omega)
  obtain ⟨s, hs⟩ : ∃ s : Nat, (least : Int) + v = s := ⟨((least : Int) + v).toNat, by omega⟩
  have r1 := repST_eq (s := cutL ls none (some 1)) (j := 3) (by decide) (by decide) (Nat.le_trans (len_cutL _ _ _) (by omega))
  have r2 : catT (List.replicate (3 : Int).toNat (cutL ls none (some 1))).flatten (cutL ls (some 1) (some 2)) = some ((List.replicate (3 : Int).toNat (cutL ls none (some 1))).flatten ++ cutL ls (some 1) (some 2)) := by
    refine catT_eq ?_
    rw [len_rep, show (3 : Int).toNat = 3 from rfl]
    have := len_cutL ls none (some 1)
    have := len_cutL ls (some 1) (some 2)
    omega
  obtain ⟨sm, j2, t2, m2, hj2⟩ := choice_ok hj1 (xs := [ls, cutL ls none (some 2), (List.replicate (3 : Int).toNat (cutL ls none (some 1))).flatten ++ cutL ls (some 1) (some 2)]) (by simp) (by simp)
  have sub : ∀ c ∈ sm, c ∈ ls := by
    intro c hc
    simp only [List.mem_cons, List.not_mem_nil, or_false] at m2
    rcases m2 with rfl | rfl | rfl
    · exact hc
    · exact mem_cutL hc
    · rcases List.mem_append.mp hc with hc | hc
      · exact mem_cutL (mem_rep hc)
      · exact mem_cutL hc
  have smn : sm ≠ [] := by
    obtain ⟨c, l, rfl⟩ := List.exists_cons_of_ne_nil hl
    simp only [List.mem_cons, List.not_mem_nil, or_false] at m2
    rcases m2 with rfl | rfl | rfl
    · simp
    · rw [show (2 : Int) = ((2 : Nat) : Int) from rfl, cutL_b]; simp
    · rw [show (1 : Int) = ((1 : Nat) : Int) from rfl, cutL_b]; simp [List.replicate]
  have sml : sm.length ≤ 1000000 := by
    simp only [List.mem_cons, List.not_mem_nil, or_false] at m2
    rcases m2 with rfl | rfl | rfl
    · omega
    · have := len_cutL ls none (some 2)
      omega
    · rw [List.length_append, len_rep, show (3 : Int).toNat = 3 from rfl]
      have := len_cutL ls none (some 1)
      have := len_cutL ls (some 1) (some 2)
      omega
  obtain ⟨ys, j3, t3, q3, l3, hj3⟩ := lcS_inv (f := fun (s18 : List Int) (x13 : Int) => (listST sm).bind fun a19 => (t_law_choice s18 a19).bind fun a21 => some (a21.1, a21.2)) (xs := (List.range s).map fun i => ((i : Nat) : Int)) (s := j2) Jar (fun t => ∃ c ∈ sm, t = [c]) (by
    intro s x _ hs
    obtain ⟨y, s', e, hy, hs'⟩ := choice_ok hs (xs := signsT sm) (by simpa [signsT] using smn) (by simpa using sml)
    refine ⟨y, s', ?_, mem_signs.mp hy, hs'⟩
    simp [listST_eq sml, e]) hj2 (by simp; omega)
  obtain ⟨w0, rfl, w0l⟩ : ∃ w0 : List Nat, ys = signsT w0 ∧ ∀ c ∈ w0, c ∈ sm := by
    have : ∀ ys : List (List Nat), (∀ t ∈ ys, ∃ c ∈ sm, t = [c]) → ∃ w0 : List Nat, ys = signsT w0 ∧ ∀ c ∈ w0, c ∈ sm := by
      intro ys
      induction ys with
      | nil => intro _; exact ⟨[], rfl, by simp⟩
      | cons y ys ih =>
        intro h
        obtain ⟨c, hc, rfl⟩ := h _ List.mem_cons_self
        obtain ⟨w, rfl, hw⟩ := ih fun t ht => h t (List.mem_cons_of_mem _ ht)
        refine ⟨c :: w, rfl, fun d hd => ?_⟩
        rcases List.mem_cons.mp hd with rfl | hd
        · exact hc
        · exact hw d hd
    exact this ys q3
  simp only [signsT_len, List.length_map, List.length_range] at l3
  have sm9 : s ≤ most := by omega
  have jn := joinT_signs (s := w0) (by omega)
  obtain ⟨kd, j4, t4, k1, k2, hj4⟩ := take_ok hj3 (n := 4) (by decide) (by decide)
  -- the two bends
  have B1 : ∃ w1 j5, (if (kd == 0 && decide (1 < (s : Int))) = true then (t_law_take j4 ((s : Int) / 2)).bind fun a29 => (some (cutL w0 none (some (1 + a29.1)))).bind fun p => (repST p (s : Int)).bind fun a33 => (some (cutL a33 none (some (s : Int)))).bind fun f => some (a29.2, f) else some (j4, w0)) = some (j5, w1) ∧ (∀ c ∈ w1, c ∈ sm) ∧ w1.length = s ∧ Jar j5 := by
    by_cases hc : (kd == 0 && decide (1 < (s : Int))) = true
    · rw [if_pos hc]
      simp only [Bool.and_eq_true, decide_eq_true_eq] at hc
      obtain ⟨v5, j5, t5, a5, b5, hj5⟩ := take_ok hj4 (n := (s : Int) / 2) (by omega) (by omega)
      obtain ⟨p, hp⟩ : ∃ p : Nat, 1 + v5 = p := ⟨(1 + v5).toNat, by omega⟩
      have pl : (cutL w0 none (some (p : Int))).length = p := by rw [len_cut]; omega
      have rp := repST_eq (s := cutL w0 none (some (p : Int))) (j := (s : Int)) (by omega) (by omega) (by omega)
      refine ⟨cutL (List.replicate (s : Int).toNat (cutL w0 none (some (p : Int)))).flatten none (some (s : Int)), j5, ?_, ?_, ?_, hj5⟩
      · simp only [t5, Option.bind_some, hp, rp]
      · intro c hc; exact w0l c (mem_cutL (mem_rep (mem_cutL hc)))
      · rw [len_cut, len_rep, pl]
        have : s * 1 ≤ s * p := Nat.mul_le_mul_left _ (by omega)
        simp only [Int.toNat_natCast]
        omega
    · rw [if_neg hc]
      exact ⟨w0, j4, rfl, w0l, by omega, hj4⟩
  obtain ⟨w1, j5, t5, w1l, w1s, hj5⟩ := B1
  have B2 : ∃ w2, (if (kd == 1) = true then (catT (cutL w1 none (some (((s : Int) + 1) / 2))) (cutL w1 none (some ((s : Int) / 2))).reverse).bind fun a40 => (some (cutL a40 none (some (s : Int)))).bind fun f => some f else some w1) = some w2 ∧ (∀ c ∈ w2, c ∈ sm) ∧ w2.length = s := by
    by_cases hc : (kd == 1) = true
    · rw [if_pos hc]
      have e1 : ((s : Int) + 1) / 2 = (((s + 1) / 2 : Nat) : Int) := by omega
      have e2 : (s : Int) / 2 = ((s / 2 : Nat) : Int) := by omega
      rw [e1, e2, catT_eq (by simp only [List.length_reverse, len_cut]; omega)]
      refine ⟨_, rfl, ?_, ?_⟩
      · intro c hc
        rcases List.mem_append.mp (mem_cutL hc) with hc | hc
        · exact w1l c (mem_cutL hc)
        · exact w1l c (mem_cutL (List.mem_reverse.mp hc))
      · rw [len_cut, List.length_append, List.length_reverse, len_cut, len_cut]; omega
    · rw [if_neg hc]
      exact ⟨w1, rfl, w1l, w1s⟩
  obtain ⟨w2, t6, w2l, w2s⟩ := B2
  refine ⟨w2, j5, ?_, fun c hc => sub c (w2l c hc), by omega, by omega, hj5⟩
  unfold t_law_word
  simp only [t1, Option.bind_some, hs, r1, r2, t2]
  rw [range1T_eq s (by omega)]
  simp only [Option.bind_some, t3, jn, t4]
  have t5' := t5
  have t6' := t6
  simp only [Option.bind_some] at t5' t6' ⊢
  rw [t5']
  simp only [Option.bind_some]
  rw [t6']
  rfl
end K61

set_option Elab.async false
set_option linter.all false
set_option maxRecDepth 100000
set_option maxHeartbeats 4000000
namespace K61
open PySem L2 PyProof.Rows VS
/-! what each def tells, plainly -/
theorem gs_ok (a b : Nat) (hb : b ≤ 1000) : t_greatest_shared (a : Int) (b : Int) = some ((Nat.gcd a b : Nat) : Int) := by
  unfold t_greatest_shared
  obtain ⟨s, e, ⟨x, y, rfl, hg⟩, ht⟩ := whileS_inv (t := fun (s1 : Int × Int) => some (decide ((0 : Int) < s1.2))) (f := fun (s1 : Int × Int) => (modT s1.1 s1.2).bind fun a2 => some (s1.2, a2))
    (fun s => ∃ x y : Nat, s = ((x : Int), (y : Int)) ∧ Nat.gcd x y = Nat.gcd a b) (fun s => s.2.toNat) (by
      rintro _ ⟨x, y, rfl, hg⟩
      by_cases h0 : y = 0
      · left; simp [h0]
      · right
        have h1 : (0 : Int) < (y : Int) := by omega
        refine ⟨by simp; omega, ((y : Int), ((x % y : Nat) : Int)), by simp [modT_eq h1], ⟨y, x % y, rfl, ?_⟩, ?_⟩
        · rw [← hg, Nat.gcd_comm x y, Nat.gcd_rec y x, Nat.gcd_comm]
        · have := Nat.mod_lt x (show y > 0 by omega)
          show ((x % y : Nat) : Int).toNat < ((y : Nat) : Int).toNat
          omega) (n := fuel) (s := ((a : Int), (b : Int))) (by simp [fuel]; omega) ⟨a, b, rfl, rfl⟩
  have h0 : y = 0 := by simpa using ht
  subst h0
  rw [Nat.gcd_zero_right] at hg
  rw [e]
  simp [hg]
theorem ld_ok (a b : Nat) (hb : b ≤ 1000) : t_law_divisor (a : Int) (b : Int) = some ((Nat.gcd a b : Nat) : Int) := gs_ok a b hb
theorem need_ok {i k : Int} (h : 0 ≤ i ∧ i ≤ k) : t_need_even_number i k = some () := by
  simp [t_need_even_number, t_is_even_number, h]
theorem apart_ok (a b : Nat) (hb : b ≤ 1000) : t_are_apart (a : Int) (b : Int) = some (Nat.gcd a b == 1) := by
  simp only [t_are_apart, gs_ok a b hb, Option.bind_some]
  congr 1
  rw [Bool.eq_iff_iff]
  simp
  omega
def chW (x y : Nat) : List Nat := (List.range (x + y)).map fun i => if (i + 1) * y / (x + y) - i * y / (x + y) = 1 then 98 else 97
theorem chW_len (x y : Nat) : (chW x y).length = x + y := by simp [chW]
theorem step_eq (i y s : Nat) : ((((i + 1) * y / s : Nat) : Int) - ((i * y / s : Nat) : Int) == 1) = decide ((i + 1) * y / s - i * y / s = 1) := by
  rw [Bool.eq_iff_iff]
  simp only [beq_iff_eq, decide_eq_true_eq]
  omega
theorem chlc_ok (x y : Nat) (h1 : x + y ≤ 900) : lcM (fun (x5 : Int) => (mulT (x5 + 1) (y : Int)).bind fun a6 => (fdivT a6 ((x : Int) + y)).bind fun a8 => (mulT x5 (y : Int)).bind fun a10 => (fdivT a10 ((x : Int) + y)).bind fun a12 => some (if ((a8 - a12) == 1) = true then ([98] : List Nat) else [97])) ((List.range (x + y)).map fun i => ((i : Nat) : Int))
    = some ((List.range (x + y)).map fun i => [if (i + 1) * y / (x + y) - i * y / (x + y) = 1 then 98 else 97]) := by
  refine lcM_map _ (fun i hi => ?_) (by simp; omega)
  have hi' := List.mem_range.mp hi
  have e1 : ((i : Int) + 1) * (y : Int) = (((i + 1) * y : Nat) : Int) := by simp
  have e2 : (i : Int) * (y : Int) = ((i * y : Nat) : Int) := by simp
  have e3 : (x : Int) + (y : Int) = ((x + y : Nat) : Int) := by simp
  rw [mulT_small (by omega) (by omega)]
  simp only [Option.bind_some]
  rw [fdivT_eq (by omega) (by omega)]
  simp only [Option.bind_some]
  rw [mulT_small (by omega) (by omega)]
  simp only [Option.bind_some]
  rw [fdivT_eq (by omega) (by omega)]
  simp only [Option.bind_some]
  rw [e1, e2, e3, ← Int.natCast_ediv, ← Int.natCast_ediv, step_eq]
  by_cases h : (i + 1) * y / (x + y) - i * y / (x + y) = 1 <;> simp [h]
theorem chof_ok (x y : Nat) (h1 : x + y ≤ 900) : t_christoffel_of (x : Int) (y : Int) = some (chW x y) := by
  unfold t_christoffel_of
  simp only [Option.bind_some]
  rw [show (x : Int) + (y : Int) = ((x + y : Nat) : Int) by simp, range1T_eq _ (by omega)]
  simp only [Option.bind_some]
  have e := chlc_ok x y h1
  rw [show (x : Int) + (y : Int) = ((x + y : Nat) : Int) by simp] at e
  rw [e]
  simp only [Option.bind_some]
  rw [joinT_chars (f := fun i => if (i + 1) * y / (x + y) - i * y / (x + y) = 1 then 98 else 97) (by simp; omega)]
  rfl
theorem needpair_ok (x y : Nat) (h1 : x + y ≤ 40) (h2 : Nat.gcd x y = 1) : t_need_pair (x : Int) (y : Int) = some () := by
  have a1 := apart_ok x y (by omega)
  have a2 : ¬ (40 : Int) < (x : Int) + y := by omega
  simp [t_need_pair, need_ok (i := (x : Int)) (k := 40) ⟨by omega, by omega⟩, need_ok (i := (y : Int)) (k := 40) ⟨by omega, by omega⟩, a1, a2, h2]
theorem chr_ok (x y : Nat) (h1 : x + y ≤ 40) (h2 : Nat.gcd x y = 1) : t_christoffel (x : Int) (y : Int) = some (chW x y) := by
  simp [t_christoffel, needpair_ok x y h1 h2, chof_ok x y (by omega)]
theorem cenof_ok (x y : Nat) (h1 : x + y ≤ 40) (h2 : Nat.gcd x y = 1) (hx : 0 < x) (hy : 0 < y) : t_central_of (x : Int) (y : Int) = some (cutL (chW x y) (some 1) (some (-1))) := by
  have a1 : ((x : Int) == 0) = false := by simp; omega
  have a2 : ((y : Int) == 0) = false := by simp; omega
  simp [t_central_of, needpair_ok x y h1 h2, chof_ok x y (by omega), a1, a2]
def ab (w : List Nat) : Bool := w.all fun c => c == 97 || c == 98
theorem two_ok {w : List Nat} (h : ab w = true) (hl : w.length ≤ 40) : t_is_two_word w = some true := by
  have e : lcM (fun (x1 : List Nat) => (inST x1 [97, 98]).bind fun a2 => some a2) (signsT w) = some (w.map fun c => decide (c ∈ [97, 98])) := by
    unfold signsT
    exact lcM_map _ (fun c hc => by rw [inST_one]; rfl) (by omega)
  have e2 : (w.map fun c => decide (c ∈ [97, 98])).all id = true := by
    simp only [ab, List.all_eq_true] at h
    simp only [List.all_map, List.all_eq_true]
    intro c hc
    simpa using h c hc
  have e3 : ((w.length : Nat) : Int) ≤ 40 := by omega
  simp only [t_is_two_word, e, e2, e3, Option.bind_some, decide_true, if_true]
theorem needtwo_ok {w : List Nat} (h : ab w = true) (hl : w.length ≤ 40) : t_need_two_word w = some () := by
  simp [t_need_two_word, two_ok h hl]
def chB (w : List Nat) : Bool := (Nat.gcd (w.count 97) (w.count 98) == 1) && (chW (w.count 97) (w.count 98) == w)
theorem cnt_le (w : List Nat) : w.count 97 + w.count 98 ≤ w.length := by
  induction w with
  | nil => simp
  | cons c w ih =>
    simp only [List.count_cons, List.length_cons]
    by_cases h : c = 97
    · subst h; simp; omega
    · by_cases h2 : c = 98
      · subst h2; simp; omega
      · simp [h, h2]; omega
theorem ischw_ok {w : List Nat} (hl : w.length ≤ 100) : t_is_christoffel_word w = some (chB w) := by
  have h := cnt_le w
  unfold t_is_christoffel_word chB
  simp only [countS_one, Option.bind_some]
  rw [apart_ok _ _ (by omega)]
  simp only [Option.bind_some]
  rw [chof_ok _ _ (by omega)]
  cases (Nat.gcd (w.count 97) (w.count 98) == 1) <;> rfl
theorem isch_ok {w : List Nat} (h : ab w = true) (hl : w.length ≤ 40) : t_is_christoffel w = some (chB w) := by
  simp [t_is_christoffel, needtwo_ok h hl, ischw_ok (w := w) (by omega)]
/-! even, low -/
def wl (w : List Nat) (s : Nat) : List Int := (List.range (w.length - s + 1)).map fun a => (((w.drop a).take s).count 98 : Nat)
def good (w : List Nat) (s : Nat) : Bool := decide (maxI (wl w s) - minI (wl w s) ≤ 1)
def evB (w : List Nat) : Bool := (List.range (w.length - 1)).all fun k => good w (k + 1)
theorem even_ok {w : List Nat} (hl : w.length ≤ 1000) : t_law_even w = some (evB w) := by
  unfold t_law_even
  rw [range2T_eq (w.length - 1) (by omega) (by omega) (by omega) (by omega) (by omega)]
  simp only [Option.bind_some]
  rw [forR_all (fun x : Int => good w x.toNat) false (fun x hx => ?_)]
  · have e : ((List.range (w.length - 1)).map fun k : Nat => (1 : Int) + (k : Nat)).all (fun x => good w x.toNat) = evB w := by
      rw [List.all_map]
      unfold evB
      congr 1
      funext k
      show good w ((1 : Int) + (k : Nat)).toNat = good w (k + 1)
      congr 1
      omega
    simp only [Option.bind_some, e]
    cases evB w <;> rfl
  · obtain ⟨k, hk, rfl⟩ := List.mem_map.mp hx
    have hk' := List.mem_range.mp hk
    have e1 : ((w.length : Nat) : Int) - (1 + (k : Nat)) + 1 = ((w.length - (k + 1) + 1 : Nat) : Int) := by omega
    rw [e1, range1T_eq _ (by omega)]
    simp only [Option.bind_some]
    have e2 : lcM (fun (x9 : Int) => some (countS (cutL w (some x9) (some (x9 + (1 + (k : Nat))))) [98])) ((List.range (w.length - (k + 1) + 1)).map fun i => ((i : Nat) : Int)) = some (wl w (k + 1)) := by
      refine lcM_map _ (fun i hi => ?_) (by simp; omega)
      rw [show (i : Int) + (1 + (k : Nat)) = ((i + (k + 1) : Nat) : Int) by omega, cutL_ab, countS_one, show i + (k + 1) - i = k + 1 by omega]
    rw [e2]
    have hne : wl w (k + 1) ≠ [] := by simp [wl]
    simp only [Option.bind_some, maxT_eq hne, minT_eq hne]
    rw [show ((1 : Int) + (k : Nat)).toNat = k + 1 by omega]
    unfold good
    by_cases h : maxI (wl w (k + 1)) - minI (wl w (k + 1)) ≤ 1
    · have h2 : ¬ (1 < maxI (wl w (k + 1)) - minI (wl w (k + 1))) := by omega
      simp [h, h2]
    · have h2 : (1 < maxI (wl w (k + 1)) - minI (wl w (k + 1))) := by omega
      simp [h, h2]
def lowL (w : List Nat) : Bool := (List.range (w.length - 1)).all fun i => decide (w < w.drop (i + 1))
def lowB (w : List Nat) : Bool := evB w && lowL w
theorem low_ok {w : List Nat} (hl : w.length ≤ 1000) : t_law_is_low w = some (lowB w) := by
  unfold t_law_is_low lowB
  rw [even_ok hl]
  simp only [Option.bind_some]
  cases evB w with
  | false => rfl
  | true =>
    rw [range2T_eq (w.length - 1) (by omega) (by omega) (by omega) (by omega) (by omega)]
    simp only [Option.bind_some, if_true, Bool.true_and]
    rw [lcT_map (fun i : Nat => !decide (w < w.drop (i + 1))) (fun i : Nat => (1 : Int) + (i : Nat)) (fun i hi => ?_) (by simp; omega)]
    · simp only [Option.bind_some]
      congr 1
      unfold lowL
      rw [Bool.eq_iff_iff]
      simp
    · rw [show (1 : Int) + (i : Nat) = ((i + 1 : Nat) : Int) by omega, cutL_a]
      split <;> rfl
def perB (w : List Nat) (p : Nat) : Bool := (List.range (w.length - p)).all fun i => w[i]? == w[i + p]?
theorem per_ok {w : List Nat} (hl : w.length ≤ 1000) (p : Nat) (hp : p ≤ 2000) : t_law_has_period w (p : Int) = some (perB w p) := by
  unfold t_law_has_period
  have e1 : range1T (((w.length : Nat) : Int) - (p : Nat)) = some ((List.range (w.length - p)).map fun i => ((i : Nat) : Int)) := by
    by_cases h : p ≤ w.length
    · rw [show ((w.length : Nat) : Int) - (p : Nat) = ((w.length - p : Nat) : Int) by omega]
      exact range1T_eq _ (by omega)
    · unfold range1T
      rw [if_pos (okR_in (by omega) (by omega)), show (((w.length : Nat) : Int) - (p : Nat)).toNat = 0 by omega, show w.length - p = 0 by omega]
      rfl
  rw [e1]
  simp only [Option.bind_some]
  rw [lcT_map (fun i : Nat => !(w[i]? == w[i + p]?)) (fun i : Nat => ((i : Nat) : Int)) (fun i hi => ?_) (by simp; omega)]
  · simp only [Option.bind_some]
    congr 1
    unfold perB
    rw [Bool.eq_iff_iff]
    simp
  · have hi' := List.mem_range.mp hi
    have h1 : i < w.length := by omega
    have h2 : i + p < w.length := by omega
    rw [chT_nat h1, show (i : Int) + (p : Nat) = ((i + p : Nat) : Int) by omega, chT_nat h2]
    simp [List.getElem?_eq_getElem h1, List.getElem?_eq_getElem h2]
    split <;> rfl
theorem step_ok {w : List Nat} (hl : w.length ≤ 1000) (p : Nat) (hp : p ≤ 2000) : t_has_step w (p : Int) = some (perB w p) := by
  unfold t_has_step
  have e1 : range1T (((w.length : Nat) : Int) - (p : Nat)) = some ((List.range (w.length - p)).map fun i => ((i : Nat) : Int)) := by
    by_cases h : p ≤ w.length
    · rw [show ((w.length : Nat) : Int) - (p : Nat) = ((w.length - p : Nat) : Int) by omega]
      exact range1T_eq _ (by omega)
    · unfold range1T
      rw [if_pos (okR_in (by omega) (by omega)), show (((w.length : Nat) : Int) - (p : Nat)).toNat = 0 by omega, show w.length - p = 0 by omega]
      rfl
  rw [e1]
  simp only [Option.bind_some]
  rw [lcM_map (fun i : Nat => w[i]? == w[i + p]?) (fun i hi => ?_) (by simp; omega)]
  · simp only [Option.bind_some, List.all_map]
    rfl
  · have hi' := List.mem_range.mp hi
    have h1 : i < w.length := by omega
    have h2 : i + p < w.length := by omega
    rw [chT_nat h1, show (i : Int) + (p : Nat) = ((i + p : Nat) : Int) by omega, chT_nat h2]
    simp [List.getElem?_eq_getElem h1, List.getElem?_eq_getElem h2]
def cenB (w : List Nat) : Bool := (List.range (w.length + 1)).any fun i => (Nat.gcd (i + 1) (w.length + 1 - i) == 1) && (perB w (i + 1) && perB w (w.length + 1 - i))
theorem cenw_ok {w : List Nat} (hl : w.length ≤ 900) : t_is_central_word w = some (cenB w) := by
  unfold t_is_central_word
  simp only [Option.bind_some]
  rw [range2T_eq (w.length + 1) (by omega) (by omega) (by omega) (by omega) (by omega)]
  simp only [Option.bind_some]
  rw [lcT_map (fun i : Nat => Nat.gcd (i + 1) (w.length + 1 - i) == 1) (fun i : Nat => (1 : Int) + (i : Nat)) (fun i hi => ?_) (by simp; omega)]
  · simp only [Option.bind_some]
    rw [lcM_map (fun i : Nat => perB w (i + 1) && perB w (w.length + 1 - i)) (fun i hi => ?_) (Nat.le_trans (List.length_filter_le _ _) (by simp; omega))]
    · simp only [Option.bind_some, List.any_map]
      congr 1
      unfold cenB
      rw [List.any_filter]
      rfl
    · have hi' := List.mem_range.mp (List.mem_filter.mp hi).1
      rw [show (1 : Int) + (i : Nat) = ((i + 1 : Nat) : Int) by omega, step_ok (by omega) _ (by omega)]
      simp only [Option.bind_some]
      rw [show ((w.length : Nat) : Int) + 2 - ((i + 1 : Nat) : Int) = ((w.length + 1 - i : Nat) : Int) by omega, step_ok (by omega) _ (by omega)]
      cases perB w (i + 1) <;> rfl
  · have hi' := List.mem_range.mp hi
    rw [show (1 : Int) + (i : Nat) = ((i + 1 : Nat) : Int) by omega, show ((w.length : Nat) : Int) + 2 - ((i + 1 : Nat) : Int) = ((w.length + 1 - i : Nat) : Int) by omega, gs_ok _ _ (by omega)]
    simp only [Option.bind_some]
    by_cases h : Nat.gcd (i + 1) (w.length + 1 - i) = 1
    · simp [h]
    · have h2 : ¬ ((Nat.gcd (i + 1) (w.length + 1 - i) : Nat) : Int) = 1 := by omega
      simp [h, h2]
theorem cen_ok {w : List Nat} (h : ab w = true) (hl : w.length ≤ 40) : t_is_central w = some (cenB w) := by
  simp [t_is_central, needtwo_ok h hl, cenw_ok (w := w) (by omega)]
theorem mid_ok {w : List Nat} (hl : w.length ≤ 900) : t_law_is_middle w = some (cenB w) := by
  unfold t_law_is_middle
  simp only [Option.bind_some]
  rw [range2T_eq (w.length + 1) (by omega) (by omega) (by omega) (by omega) (by omega)]
  simp only [Option.bind_some]
  rw [lcT_map (fun i : Nat => (Nat.gcd (i + 1) (w.length + 1 - i) == 1) && (perB w (i + 1) && perB w (w.length + 1 - i))) (fun i : Nat => (1 : Int) + (i : Nat)) (fun i hi => ?_) (by simp; omega)]
  · simp only [Option.bind_some]
    congr 1
    unfold cenB
    rw [Bool.eq_iff_iff]
    simp
  · have hi' := List.mem_range.mp hi
    rw [show (1 : Int) + (i : Nat) = ((i + 1 : Nat) : Int) by omega, show ((w.length : Nat) : Int) + 2 - ((i + 1 : Nat) : Int) = ((w.length + 1 - i : Nat) : Int) by omega, ld_ok _ _ (by omega)]
    simp only [Option.bind_some]
    by_cases h : Nat.gcd (i + 1) (w.length + 1 - i) = 1
    · rw [per_ok (by omega) _ (by omega), per_ok (by omega) _ (by omega)]
      cases perB w (i + 1) <;> cases perB w (w.length + 1 - i) <;> simp [h]
    · have h2 : ¬ ((Nat.gcd (i + 1) (w.length + 1 - i) : Nat) : Int) = 1 := by omega
      simp [h, h2]
end K61

set_option Elab.async false
set_option linter.all false
set_option maxRecDepth 100000
set_option maxHeartbeats 4000000
namespace K61
open PySem L2 PyProof.Rows VS
/-! the finite facts -/
def aw : Nat → List (List Nat)
  | 0 => [[]]
  | n + 1 => (aw n).flatMap fun w => [97, 98].map fun c => w ++ [c]
theorem aw_mem : ∀ (n : Nat) (w : List Nat), ab w = true → w.length = n → w ∈ aw n
  | 0, w, _, h => by simp [aw, List.length_eq_zero_iff.mp h]
  | n + 1, w, ha, h => by
    have hne : w ≠ [] := by intro z; rw [z] at h; simp at h
    have e := List.dropLast_concat_getLast hne
    simp only [aw, List.mem_flatMap, List.mem_map]
    have ha' : ∀ c ∈ w, c = 97 ∨ c = 98 := by
      intro c hc
      simp only [ab, List.all_eq_true] at ha
      simpa using ha c hc
    refine ⟨w.dropLast, aw_mem n _ ?_ (by simp [h]), w.getLast hne, ?_, e⟩
    · simp only [ab, List.all_eq_true]
      intro c hc
      simpa using ha' c ((List.dropLast_sublist w).subset hc)
    · simpa using ha' _ (List.getLast_mem hne)
theorem aw_len : ∀ (n : Nat), ∀ w ∈ aw n, w.length = n ∧ ab w = true
  | 0, w, h => by simp [aw] at h; simp [h, ab]
  | n + 1, w, h => by
    simp only [aw, List.mem_flatMap, List.mem_map] at h
    obtain ⟨v, hv, c, hc, rfl⟩ := h
    obtain ⟨h1, h2⟩ := aw_len n v hv
    refine ⟨by simp [h1], ?_⟩
    simp only [ab, List.all_append, Bool.and_eq_true] at h2 ⊢
    refine ⟨h2, ?_⟩
    simp only [List.mem_cons, List.not_mem_nil, or_false] at hc
    rcases hc with rfl | rfl <;> rfl
def ckA (w : List Nat) : Bool := chB w == (!(w == []) && lowB w)
def ckB (w : List Nat) : Bool := cenB w == chB (97 :: (w ++ [98]))
theorem fA0 : (aw 0).all ckA = true := by decide +kernel
theorem fA1 : (aw 1).all ckA = true := by decide +kernel
theorem fA2 : (aw 2).all ckA = true := by decide +kernel
theorem fA3 : (aw 3).all ckA = true := by decide +kernel
theorem fA4 : (aw 4).all ckA = true := by decide +kernel
theorem fA5 : (aw 5).all ckA = true := by decide +kernel
theorem fA6 : (aw 6).all ckA = true := by decide +kernel
theorem fA7 : (aw 7).all ckA = true := by decide +kernel
theorem fA8 : (aw 8).all ckA = true := by decide +kernel
theorem fA9 : (aw 9).all ckA = true := by decide +kernel
theorem fB : ((List.range 8).all fun n => (aw n).all ckB) = true := by decide +kernel
def mid (w : List Nat) : List Nat := (w.drop 1).dropLast
def ckC (x y : Nat) : Bool := (chW x y).count 97 == x && chB (chW x y) && evB (chW x y) && lowL (chW x y) && (if 1 < x + y then
    match (List.range (x + y - 1)).filter fun i => lowL ((chW x y).take (i + 1)) && lowL ((chW x y).drop (i + 1)) with
    | [i] => ((List.range (x + y - 1)).find? fun i => chB ((chW x y).take (i + 1)) && chB ((chW x y).drop (i + 1))) == some i && mid (chW x y) == (mid (chW x y)).reverse && perB (mid (chW x y)) (i + 1) && perB (mid (chW x y)) (x + y - (i + 1)) && cenB (mid (chW x y))
    | _ => false else true)
theorem fC : ((List.range 14).all fun x => (List.range 14).all fun y => !(Nat.gcd x y == 1) || ckC x y) = true := by decide +kernel
end K61

set_option Elab.async false
set_option linter.all false
set_option maxRecDepth 100000
set_option maxHeartbeats 4000000
namespace K61
open PySem L2 PyProof.Rows VS
def tail (v_j : List Int) : Option (Bool × (List Int)) :=
      (range1T (6 : Int)).bind fun a138 =>
      (forR (fun (s140 : (List Int)) (x143 : Int) => show Option (FlT (List Int) (Bool × (List Int))) from
    (t_law_word s140 (0 : Int) (9 : Int) ([97, 98] : List Nat)).bind fun a144 =>
    (t_is_christoffel a144.1).bind fun a146 =>
    (if (!(a144.1 == ([] : List Nat))) = true then ((t_law_is_low a144.1).bind fun a148 => some a148) else some false).bind fun a150 =>
    (if (!(a146 == a150)) = true then some true else ((t_is_central a144.1).bind fun a152 => (t_law_is_middle a144.1).bind fun a154 => some (!(a152 == a154)))).bind fun a156 =>
    if a156 = true then (
      some (.ret (false, a144.2))
    ) else (
      some (.nx a144.2)
    )) a138 v_j).bind fun o162 => aftR o162 (fun r163 => some r163) fun j158 =>
      (t_law_take j158 (8 : Int)).bind fun a164 =>
      (t_law_all_words ([97, 98] : List Nat) a164.1).bind fun a166 =>
      (forR (fun (s168 : Unit) (x170 : (List Nat)) => show Option (FlT Unit (Bool × (List Int))) from
    (t_is_central x170).bind fun a171 =>
    (t_law_is_middle x170).bind fun a173 =>
    (if (!(a171 == a173)) = true then some true else ((t_is_christoffel x170).bind fun a175 => (if (!(x170 == ([] : List Nat))) = true then ((t_law_is_low x170).bind fun a177 => some a177) else some false).bind fun a179 => some (!(a175 == a179)))).bind fun a181 =>
    if a181 = true then (
      some (.ret (false, a164.2))
    ) else (
      (t_is_central x170).bind fun a183 =>
      (catT ([97] : List Nat) x170).bind fun a185 =>
      (catT a185 ([98] : List Nat)).bind fun a187 =>
      (t_is_christoffel a187).bind fun a189 =>
      if (!(a183 == a189)) = true then (
        some (.ret (false, a164.2))
      ) else (
        some (.nx ())
      )
    )) a166 (() : Unit)).bind fun o194 => aftR o194 (fun r195 => some r195) fun j191 =>
      some (true, a164.2)
theorem factA {w : List Nat} (h : ab w = true) (hl : w.length ≤ 9) : chB w = (!(w == []) && lowB w) := by
  have key : ∀ n, n ≤ 9 → (aw n).all ckA = true := by
    intro n hn
    match n, hn with
    | 0, _ => exact fA0
    | 1, _ => exact fA1
    | 2, _ => exact fA2
    | 3, _ => exact fA3
    | 4, _ => exact fA4
    | 5, _ => exact fA5
    | 6, _ => exact fA6
    | 7, _ => exact fA7
    | 8, _ => exact fA8
    | 9, _ => exact fA9
    | n + 10, h => exact absurd h (by omega)
  have := key w.length hl
  rw [List.all_eq_true] at this
  have := this w (aw_mem _ w h rfl)
  unfold ckA at this
  exact eq_of_beq this
theorem factB {w : List Nat} (h : ab w = true) (hl : w.length ≤ 7) : cenB w = chB (97 :: (w ++ [98])) := by
  have := fB
  rw [List.all_eq_true] at this
  have := this w.length (List.mem_range.mpr (by omega))
  rw [List.all_eq_true] at this
  have := this w (aw_mem _ w h rfl)
  unfold ckB at this
  exact eq_of_beq this
theorem lc_ab {w : List Nat} (hl : w.length ≤ 900) : lcM (fun (x13 : List Nat) => (catT w x13).bind fun a14 => some a14) (signsT [97, 98]) = some ([97, 98].map fun c => w ++ [c]) := by
  unfold signsT
  exact lcM_map _ (fun c hc => by rw [catT_eq (by simp; omega)]; rfl) (by simp)
theorem aw_cnt : ∀ n : Nat, (aw n).length = 2 ^ n
  | 0 => rfl
  | n + 1 => by
    have : ∀ l : List (List Nat), (l.flatMap fun w => [97, 98].map fun c => w ++ [c]).length = 2 * l.length := by
      intro l
      induction l with
      | nil => rfl
      | cons x l ih => simp only [List.flatMap_cons, List.length_append, ih, List.length_cons]; simp; omega
    rw [aw, this, aw_cnt n, Nat.pow_succ]
    omega
theorem words_ok (n : Nat) (hn : n ≤ 9) : t_law_all_words [97, 98] (n : Int) = some (aw n) := by
  unfold t_law_all_words
  simp only [Option.bind_some]
  rw [range1T_eq n (by omega)]
  simp only [Option.bind_some]
  obtain ⟨s', e, hs⟩ := forS_inv (f := fun (s5 : List (List Nat)) (x9 : Int) => (forS (fun (s10 : List (List Nat)) (x12 : List Nat) => (lcM (fun (x13 : List Nat) => (catT x12 x13).bind fun a14 => some a14) (signsT [97, 98])).bind fun a16 => (extT s10 a16).bind fun a18 => some a18) s5 []).bind fun j20 => some j20)
    (fun i s => s = aw i) (xs := (List.range n).map fun i => ((i : Nat) : Int)) (by
      intro i hi s hs
      have hi' : i < n := by simpa using hi
      subst hs
      refine ⟨aw (i + 1), ?_, rfl⟩
      have e : forS (fun (s10 : List (List Nat)) (x12 : List Nat) => (lcM (fun (x13 : List Nat) => (catT x12 x13).bind fun a14 => some a14) (signsT [97, 98])).bind fun a16 => (extT s10 a16).bind fun a18 => some a18) (aw i) [] = some (aw (i + 1)) := by
        obtain ⟨s', e, hs⟩ := forS_inv (f := fun (s10 : List (List Nat)) (x12 : List Nat) => (lcM (fun (x13 : List Nat) => (catT x12 x13).bind fun a14 => some a14) (signsT [97, 98])).bind fun a16 => (extT s10 a16).bind fun a18 => some a18)
          (fun k s => s = ((aw i).take k).flatMap fun w => [97, 98].map fun c => w ++ [c]) (xs := aw i) (by
            intro k hk s hs
            subst hs
            have hw := aw_len i _ (List.getElem_mem hk)
            have hc := aw_cnt i
            have hp : 2 ^ i ≤ 2 ^ 9 := Nat.pow_le_pow_right (by decide) (by omega)
            have hl : (((aw i).take k).flatMap fun w => [97, 98].map fun c => w ++ [c]).length ≤ 2 * (aw i).length := by
              have : ∀ l : List (List Nat), (l.flatMap fun w => [97, 98].map fun c => w ++ [c]).length = 2 * l.length := by
                intro l
                induction l with
                | nil => rfl
                | cons x l ih => simp only [List.flatMap_cons, List.length_append, ih, List.length_cons]; simp; omega
              rw [this, List.length_take]
              omega
            refine ⟨_, ?_, rfl⟩
            rw [lc_ab (by omega)]
            simp only [Option.bind_some]
            rw [extT_eq (by simp only [List.length_map, List.length_cons, List.length_nil]; omega), List.take_succ_eq_append_getElem hk, List.flatMap_append]
            simp) (s := []) (by simp)
        rw [e, hs, List.take_length]
        rfl
      rw [e]
      rfl) (s := [[]]) rfl
  rw [e, hs]
  simp
theorem tail_ok {j : List Int} (hj : Jar j) : ∃ j', tail j = some (true, j') ∧ Jar j' := by
  unfold tail
  rw [show (6 : Int) = ((6 : Nat) : Int) from rfl, range1T_eq 6 (by omega)]
  simp only [Option.bind_some]
  obtain ⟨s', e, hs⟩ := forR_inv (R := Bool × List Int) (f := fun (s140 : List Int) (x143 : Int) => (t_law_word s140 0 9 [97, 98]).bind fun a144 =>
    (t_is_christoffel a144.1).bind fun a146 =>
    (if (!(a144.1 == ([] : List Nat))) = true then ((t_law_is_low a144.1).bind fun a148 => some a148) else some false).bind fun a150 =>
    (if (!(a146 == a150)) = true then some true else ((t_is_central a144.1).bind fun a152 => (t_law_is_middle a144.1).bind fun a154 => some (!(a152 == a154)))).bind fun a156 =>
    if a156 = true then (some (.ret (false, a144.2))) else (some (.nx a144.2)))
    (fun _ s => Jar s) (xs := (List.range 6).map fun i => ((i : Nat) : Int)) (by
      intro i hi s hs
      obtain ⟨w, s1, e1, hw, _, hl, hs1⟩ := word_ok hs (least := 0) (most := 9) (ls := [97, 98]) (by omega) (by omega) (by simp) (by simp)
      have hab : ab w = true := by
        simp only [ab, List.all_eq_true]
        intro c hc
        simpa using hw c hc
      refine ⟨s1, ?_, hs1⟩
      have e1' : t_law_word s 0 9 [97, 98] = some (w, s1) := e1
      have fa := factA hab hl
      simp only [e1', Option.bind_some, isch_ok hab (by omega : w.length ≤ 40), low_ok (w := w) (by omega), cen_ok hab (by omega : w.length ≤ 40), mid_ok (w := w) (by omega), fa]
      cases hb : (w == []) <;> simp) (s := j) hj
  rw [e]
  simp only [Option.bind_some, aftR_nx]
  obtain ⟨v, j2, e2, v1, v2, hj2⟩ := take_ok hs (n := 8) (by decide) (by decide)
  obtain ⟨n, rfl⟩ : ∃ n : Nat, v = n := ⟨v.toNat, by omega⟩
  refine ⟨j2, ?_, hj2⟩
  simp only [e2, Option.bind_some]
  rw [words_ok n (by omega)]
  simp only [Option.bind_some]
  rw [forR_all (fun _ => true) (false, j2) (fun w hw => ?_)]
  · simp
  · obtain ⟨hl, hab⟩ := aw_len n w hw
    have fa := factA hab (by omega)
    have fb := factB hab (by omega)
    have h1 : ab (97 :: (w ++ [98])) = true := by
      simp only [ab, List.all_cons, List.all_append, Bool.and_eq_true] at hab ⊢
      exact ⟨rfl, hab, rfl, rfl⟩
    have c1 : catT [97] w = some (97 :: w) := catT_eq (by simp; omega)
    have c2 : catT (97 :: w) [98] = some (97 :: (w ++ [98])) := catT_eq (by simp; omega)
    simp only [cen_ok hab (by omega : w.length ≤ 40), mid_ok (w := w) (by omega), isch_ok hab (by omega : w.length ≤ 40), low_ok (w := w) (by omega), c1, c2, isch_ok h1 (by simp; omega), Option.bind_some, fa, ← fb]
    cases hb : (w == []) <;> simp
end K61

set_option Elab.async false
set_option linter.all false
set_option maxRecDepth 100000
set_option maxHeartbeats 4000000
namespace K61
open PySem L2 PyProof.Rows VS
/-! parts of even words are even -/
def EvenP (w : List Nat) : Prop := ∀ s a b, 0 < s → a + s ≤ w.length → b + s ≤ w.length → ((w.drop a).take s).count 98 ≤ ((w.drop b).take s).count 98 + 1
theorem fold_max (l : List Int) (x : Int) : l.foldl (fun a b => if a < b then b else a) x ∈ x :: l ∧ ∀ y ∈ x :: l, y ≤ l.foldl (fun a b => if a < b then b else a) x := by
  induction l generalizing x with
  | nil => simp
  | cons z l ih =>
    simp only [List.foldl_cons]
    obtain ⟨h1, h2⟩ := ih (if x < z then z else x)
    have h3 := h2 _ List.mem_cons_self
    constructor
    · rcases List.mem_cons.mp h1 with e | e
      · rw [e]
        by_cases q : x < z <;> simp [q]
      · exact List.mem_cons_of_mem _ (List.mem_cons_of_mem _ e)
    · intro y hy
      rcases List.mem_cons.mp hy with rfl | hy
      · by_cases q : y < z
        · rw [if_pos q] at h3 ⊢; omega
        · rw [if_neg q] at h3 ⊢; omega
      · rcases List.mem_cons.mp hy with rfl | hy
        · by_cases q : x < y
          · rw [if_pos q] at h3 ⊢; omega
          · rw [if_neg q] at h3 ⊢; omega
        · exact h2 y (List.mem_cons_of_mem _ hy)
theorem fold_min (l : List Int) (x : Int) : l.foldl (fun a b => if b < a then b else a) x ∈ x :: l ∧ ∀ y ∈ x :: l, l.foldl (fun a b => if b < a then b else a) x ≤ y := by
  induction l generalizing x with
  | nil => simp
  | cons z l ih =>
    simp only [List.foldl_cons]
    obtain ⟨h1, h2⟩ := ih (if z < x then z else x)
    have h3 := h2 _ List.mem_cons_self
    constructor
    · rcases List.mem_cons.mp h1 with e | e
      · rw [e]
        by_cases q : z < x <;> simp [q]
      · exact List.mem_cons_of_mem _ (List.mem_cons_of_mem _ e)
    · intro y hy
      rcases List.mem_cons.mp hy with rfl | hy
      · by_cases q : z < y
        · rw [if_pos q] at h3 ⊢; omega
        · rw [if_neg q] at h3 ⊢; omega
      · rcases List.mem_cons.mp hy with rfl | hy
        · by_cases q : y < x
          · rw [if_pos q] at h3 ⊢; omega
          · rw [if_neg q] at h3 ⊢; omega
        · exact h2 y (List.mem_cons_of_mem _ hy)
theorem good_iff (w : List Nat) (s : Nat) : good w s = true ↔ ∀ x ∈ wl w s, ∀ y ∈ wl w s, x ≤ y + 1 := by
  have hne : wl w s ≠ [] := by simp [wl]
  simp only [good, decide_eq_true_eq]
  cases e : wl w s with
  | nil => exact absurd e hne
  | cons x xs =>
    obtain ⟨a1, a2⟩ := fold_max xs x
    obtain ⟨b1, b2⟩ := fold_min xs x
    simp only [maxI, minI]
    constructor
    · intro h u hu v hv
      have := a2 u hu
      have := b2 v hv
      omega
    · intro h
      have := h _ a1 _ b1
      omega
theorem evB_iff (w : List Nat) : evB w = true ↔ EvenP w := by
  unfold evB EvenP
  rw [List.all_eq_true]
  constructor
  · intro h s a b hs ha hb
    by_cases hw : s = w.length
    · have : a = 0 := by omega
      have : b = 0 := by omega
      subst_vars
      omega
    · have h1 := (good_iff w s).mp (by have := h (s - 1) (List.mem_range.mpr (by omega)); rwa [show s - 1 + 1 = s by omega] at this)
      have := h1 _ (List.mem_map.mpr ⟨a, List.mem_range.mpr (by omega), rfl⟩) _ (List.mem_map.mpr ⟨b, List.mem_range.mpr (by omega), rfl⟩)
      omega
  · intro h k hk
    have hk' := List.mem_range.mp hk
    refine (good_iff w (k + 1)).mpr fun x hx y hy => ?_
    obtain ⟨a, ha, rfl⟩ := List.mem_map.mp hx
    obtain ⟨b, hb, rfl⟩ := List.mem_map.mp hy
    have := List.mem_range.mp ha
    have := List.mem_range.mp hb
    have := h (k + 1) a b (by omega) (by omega) (by omega)
    omega
theorem ev_drop {w : List Nat} (h : evB w = true) (n : Nat) : evB (w.drop n) = true := by
  rw [evB_iff] at h ⊢
  intro s a b hs ha hb
  rw [List.length_drop] at ha hb
  rw [List.drop_drop, List.drop_drop]
  exact h s _ _ hs (by omega) (by omega)
theorem ev_take {w : List Nat} (h : evB w = true) (n : Nat) : evB (w.take n) = true := by
  rw [evB_iff] at h ⊢
  intro s a b hs ha hb
  rw [List.length_take] at ha hb
  have e : ∀ a, a + s ≤ min n w.length → ((w.take n).drop a).take s = (w.drop a).take s := by
    intro a ha
    rw [List.drop_take, List.take_take, Nat.min_eq_left (by omega)]
  rw [e a ha, e b hb]
  exact h s _ _ hs (by omega) (by omega)
theorem cut_mid {w : List Nat} (h : 1 ≤ w.length) : cutL w (some 1) (some (-1)) = mid w := by
  unfold mid
  rw [List.dropLast_eq_take, List.length_drop]
  have e1 : HT.sIx w.length 0 (some 1) = 1 := (HT.sIx_nat _ _ 1).trans (Nat.min_eq_left h)
  have e2 : HT.sIx w.length w.length (some (-1)) = w.length - 1 := by
    show (if (-1 : Int) < 0 then ((-1 : Int) + (w.length : Int)).toNat else min (-1 : Int).toNat w.length) = w.length - 1
    rw [if_pos (by decide)]
    omega
  unfold cutL
  rw [e1, e2]
theorem chW_ab (x y : Nat) : ab (chW x y) = true := by
  simp only [ab, chW, List.all_map, List.all_eq_true, Function.comp]
  intro i _
  by_cases h : (i + 1) * y / (x + y) - i * y / (x + y) = 1 <;> simp [h]
theorem ab_mid {w : List Nat} (h : ab w = true) : ab (mid w) = true := by
  simp only [ab, List.all_eq_true] at h ⊢
  exact fun c hc => h c (List.mem_of_mem_drop ((List.dropLast_sublist _).subset hc))
theorem mid_len (w : List Nat) : (mid w).length = w.length - 2 := by
  unfold mid
  rw [List.length_dropLast, List.length_drop]
  omega
end K61

set_option Elab.async false
set_option linter.all false
set_option maxRecDepth 100000
set_option maxHeartbeats 4000000
namespace K61
open PySem L2 PyProof.Rows VS
theorem parting_ok {w : List Nat} (hl : w.length ≤ 40) (i : Nat) (h : (List.range (w.length - 1)).find? (fun i => chB (w.take (i + 1)) && chB (w.drop (i + 1))) = some i) : t_parting_of w = some (some (w.take (i + 1), w.drop (i + 1))) := by
  unfold t_parting_of
  rw [range2T_eq (w.length - 1) (by omega) (by omega) (by omega) (by omega) (by omega)]
  simp only [Option.bind_some]
  rw [forR_find (fun x : Int => chB (w.take x.toNat) && chB (w.drop x.toNat)) (fun x : Int => some (w.take x.toNat, w.drop x.toNat)) (fun x hx => ?_)]
  · rw [List.find?_map]
    have e : ((fun x : Int => chB (w.take x.toNat) && chB (w.drop x.toNat)) ∘ fun k : Nat => (1 : Int) + (k : Nat)) = fun i => chB (w.take (i + 1)) && chB (w.drop (i + 1)) := by
      funext k
      show (chB (w.take ((1 : Int) + (k : Nat)).toNat) && chB (w.drop ((1 : Int) + (k : Nat)).toNat)) = _
      rw [show ((1 : Int) + (k : Nat)).toNat = k + 1 by omega]
    rw [e, h]
    simp only [Option.map_some, Option.bind_some, aftR_ret]
    rw [show ((1 : Int) + (i : Nat)).toNat = i + 1 by omega]
  · obtain ⟨k, hk, rfl⟩ := List.mem_map.mp hx
    rw [show (1 : Int) + (k : Nat) = ((k + 1 : Nat) : Int) by omega, cutL_b, cutL_a]
    simp only [Int.toNat_natCast]
    rw [ischw_ok (w := w.take (k + 1)) (by rw [List.length_take]; omega), ischw_ok (w := w.drop (k + 1)) (by rw [List.length_drop]; omega)]
    cases chB (w.take (k + 1)) <;> cases chB (w.drop (k + 1)) <;> simp
theorem right_ok {j : List Int} (hj : Jar j) : ∃ j', t_law_right j = some (true, j') ∧ Jar j' := by
  obtain ⟨v1, j1, t1, a1, a2, hj1⟩ := take_ok hj (n := 14) (by decide) (by decide)
  obtain ⟨v2, j2, t2, b1, b2, hj2⟩ := take_ok hj1 (n := 14) (by decide) (by decide)
  obtain ⟨x, rfl⟩ : ∃ x : Nat, v1 = x := ⟨v1.toNat, by omega⟩
  obtain ⟨y, rfl⟩ : ∃ y : Nat, v2 = y := ⟨v2.toNat, by omega⟩
  obtain ⟨jt, et, hjt⟩ := tail_ok hj2
  obtain ⟨p, hp⟩ : ∃ p, p = max 1 (Nat.gcd x y) := ⟨_, rfl⟩
  have hp1 : maxI2 1 ((Nat.gcd x y : Nat) : Int) = ((p : Nat) : Int) := by rw [maxI2_eq]; omega
  have hpl : Nat.gcd x y ≤ 13 := by
    by_cases h : x = 0
    · subst h; rw [Nat.gcd_zero_left]; omega
    · exact Nat.le_trans (Nat.gcd_le_left y (by omega)) (by omega)
  obtain ⟨X, hX⟩ : ∃ X, X = if x / p + y / p = 0 then 1 else x / p := ⟨_, rfl⟩
  obtain ⟨Y, hY⟩ : ∃ Y, Y = y / p := ⟨_, rfl⟩
  have hxp : x / p ≤ x := Nat.div_le_self _ _
  have hyp : y / p ≤ y := Nat.div_le_self _ _
  have hX13 : X < 14 := by rw [hX]; split <;> omega
  have hY13 : Y < 14 := by omega
  have hg : Nat.gcd X Y = 1 := by
    by_cases h0 : Nat.gcd x y = 0
    · rw [Nat.gcd_eq_zero_iff] at h0
      have e1 : x / p = 0 := by rw [h0.1]; exact Nat.zero_div _
      have e2 : y / p = 0 := by rw [h0.2]; exact Nat.zero_div _
      rw [hX, hY, e1, e2]
      rfl
    · have hpg : p = Nat.gcd x y := by omega
      have hc : Nat.gcd (x / p) (y / p) = 1 := by
        rw [hpg, Nat.gcd_div (Nat.gcd_dvd_left x y) (Nat.gcd_dvd_right x y)]
        exact Nat.div_self (by omega)
      by_cases hs : x / p + y / p = 0
      · exfalso
        have e1 : x / p = 0 := (Nat.eq_zero_of_add_eq_zero hs).1
        have e2 : y / p = 0 := (Nat.eq_zero_of_add_eq_zero hs).2
        rw [e1, e2] at hc
        cases hc
      · rw [hX, if_neg hs, hY]
        exact hc
  have hpos : 0 < X + Y := by
    rw [hX, hY]
    generalize x / p = u, y / p = v
    split <;> omega
  have j13 : (if (((x / p : Nat) : Int) + ((y / p : Nat) : Int) == 0) = true then some (1 : Int) else some ((x / p : Nat) : Int)) = some ((X : Nat) : Int) := by
    rw [hX]
    generalize x / p = x, y / p = y
    by_cases h : x + y = 0
    · have h2 : (((x : Nat) : Int) + ((y : Nat) : Int) == 0) = true := by simp only [beq_iff_eq]; omega
      rw [if_pos h2, if_pos h]; rfl
    · have h2 : ¬ (((x : Nat) : Int) + ((y : Nat) : Int) == 0) = true := by simp only [beq_iff_eq]; omega
      rw [if_neg h2, if_neg h]
  -- the facts of this pair
  have fc := fC
  rw [List.all_eq_true] at fc
  have fc := fc X (List.mem_range.mpr hX13)
  rw [List.all_eq_true] at fc
  have fc := fc Y (List.mem_range.mpr hY13)
  rw [hg] at fc
  simp only [beq_self_eq_true, Bool.not_true, Bool.false_or] at fc
  unfold ckC at fc
  have hwab := chW_ab X Y
  have hwl := chW_len X Y
  have chr := chr_ok X Y (by omega) hg
  have cof := fun h1 h2 => cenof_ok X Y (by omega) hg h1 h2
  have lc := chlc_ok X Y (by omega)
  have jn := joinT_chars (f := fun i => if (i + 1) * Y / (X + Y) - i * Y / (X + Y) = 1 then 98 else 97) (xs := List.range (X + Y)) (by simp; omega)
  rw [show (List.range (X + Y)).map (fun i => if (i + 1) * Y / (X + Y) - i * Y / (X + Y) = 1 then 98 else 97) = chW X Y from rfl] at jn
  generalize chW X Y = w at fc hwab hwl chr cof jn
  simp only [Bool.and_eq_true, beq_iff_eq] at fc
  obtain ⟨⟨⟨⟨c1, c2⟩, c3⟩, c4⟩, c5⟩ := fc
  have hlow : lowB w = true := by unfold lowB; rw [c3, c4]; rfl
  refine ⟨jt, ?_, hjt⟩
  unfold t_law_right
  simp only [t1, t2, Option.bind_some]
  rw [ld_ok x y (by omega)]
  simp only [Option.bind_some, hp1]
  rw [fdivT_eq (by omega) (by omega)]
  simp only [Option.bind_some]
  rw [fdivT_eq (by omega) (by omega)]
  simp only [Option.bind_some]
  rw [← Int.natCast_ediv, ← Int.natCast_ediv, j13]
  simp only [Option.bind_some]
  rw [← hY]
  have er : range1T ((X : Int) + (Y : Int)) = some ((List.range (X + Y)).map fun i => ((i : Nat) : Int)) := by
    rw [show (X : Int) + (Y : Int) = ((X + Y : Nat) : Int) by simp]
    exact range1T_eq _ (by omega)
  rw [er]
  simp only [Option.bind_some]
  rw [lc]
  simp only [Option.bind_some]
  rw [jn]
  simp only [Option.bind_some, chr, countS_one, c1, isch_ok hwab (by omega : w.length ≤ 40), c2, low_ok (w := w) (by omega), hlow]
  simp only [beq_self_eq_true, Bool.not_true, Bool.false_eq_true, if_false, decide_true, Option.bind_some]
  by_cases hs : 1 < X + Y
  · rw [if_pos hs] at c5
    have hs2 : (1 : Int) < (X : Int) + (Y : Int) := by omega
    rw [if_pos (by simpa using hs2)]
    rw [range2T_eq (w.length - 1) (by omega) (by omega) (by omega) (by omega) (by omega)]
    simp only [Option.bind_some]
    -- the pairs
    have ep : lcT (fun (x46 : Int) => (t_law_is_low (cutL w none (some x46))).bind fun a47 => (if a47 = true then ((t_law_is_low (cutL w (some x46) none)).bind fun a49 => some a49) else some false).bind fun a51 => if a51 = true then (some (some ((cutL w none (some x46)), (cutL w (some x46) none)))) else some none) ((List.range (w.length - 1)).map fun k => (1 : Int) + ((k : Nat) : Int))
        = some (((List.range (X + Y - 1)).filter fun i => lowL (w.take (i + 1)) && lowL (w.drop (i + 1))).map fun i => (w.take (i + 1), w.drop (i + 1))) := by
      rw [hwl]
      refine lcT_map _ _ (fun i hi => ?_) (by simp; omega)
      have hi' := List.mem_range.mp hi
      rw [show (1 : Int) + (i : Nat) = ((i + 1 : Nat) : Int) by omega, cutL_b, cutL_a, low_ok (w := w.take (i + 1)) (by rw [List.length_take]; omega), low_ok (w := w.drop (i + 1)) (by rw [List.length_drop]; omega)]
      unfold lowB
      rw [ev_take c3, ev_drop c3]
      cases lowL (w.take (i + 1)) <;> cases lowL (w.drop (i + 1)) <;> simp
    rw [ep]
    generalize hps : (List.range (X + Y - 1)).filter (fun i => lowL (w.take (i + 1)) && lowL (w.drop (i + 1))) = ps at c5
    match ps, c5 with
    | [i], c5 =>
      simp only [Bool.and_eq_true, beq_iff_eq] at c5
      obtain ⟨⟨⟨⟨d1, d2⟩, d3⟩, d4⟩, d5⟩ := c5
      have hi : i < X + Y - 1 := by
        have : i ∈ (List.range (X + Y - 1)).filter (fun i => lowL (w.take (i + 1)) && lowL (w.drop (i + 1))) := by rw [hps]; simp
        exact List.mem_range.mp (List.mem_filter.mp this).1
      rw [← hwl] at d1
      have pa := parting_ok (w := w) (by omega) i d1
      have pit : t_parted_in_two w = some (some (w.take (i + 1), w.drop (i + 1))) := by
        have h2 : ¬ ((w.length : Nat) : Int) < 2 := by omega
        simp [t_parted_in_two, needtwo_ok hwab (by omega : w.length ≤ 40), ischw_ok (w := w) (by omega), c2, h2, pa]
      have cm := cut_mid (w := w) (by omega)
      have hml := mid_len w
      have g1 : (w.take (i + 1)).length = i + 1 := by rw [List.length_take]; omega
      have g2 : (w.drop (i + 1)).length = X + Y - (i + 1) := by rw [List.length_drop]; omega
      have ea : atI [(w.take (i + 1), w.drop (i + 1))] 0 = some (w.take (i + 1), w.drop (i + 1)) := rfl
      have pl : lcT (fun (x71 : List Nat) => (t_law_has_period (mid w) ((List.length x71 : Nat) : Int)).bind fun a72 => if (!a72) = true then (some (some ((List.length x71 : Nat) : Int))) else some none) [w.take (i + 1), w.drop (i + 1)] = some [] := by
        rw [lcT_eq (fun _ => false) (fun _ => (0 : Int)) (fun z hz => ?_) (by simp)]
        · simp
        · simp only [List.mem_cons, List.not_mem_nil, or_false] at hz
          rcases hz with rfl | rfl
          · rw [g1, per_ok (by omega) _ (by omega), d3]; rfl
          · rw [g2, per_ok (by omega) _ (by omega), d4]; rfl
      have cq : (if decide (0 < (X : Int)) = true then ((if decide (0 < (Y : Int)) = true then ((t_central_of (X : Int) (Y : Int)).bind fun a63 => some (!(a63 == mid w))) else some false).bind fun a65 => some a65) else some false) = some false := by
        by_cases h1 : 0 < X
        · by_cases h2 : 0 < Y
          · rw [cof h1 h2, cm]
            simp
          · have e1 : decide ((0 : Int) < (X : Int)) = true := decide_eq_true (by omega)
            have e2 : decide ((0 : Int) < (Y : Int)) = false := decide_eq_false (by omega)
            rw [e1, e2]
            rfl
        · have e1 : decide ((0 : Int) < (X : Int)) = false := decide_eq_false (by omega)
          rw [e1]
          rfl
      simp only [List.map_cons, List.map_nil, Option.bind_some, pit, ea, cm, pl, cen_ok (ab_mid hwab) (by omega : (mid w).length ≤ 40), d5]
      rw [cq]
      have el : (((List.length [(w.take (i + 1), w.drop (i + 1))] : Nat) : Int) == 1) = true := rfl
      have en : (([] : List Int) == []) = true := rfl
      have eb : decide (true = true) = true := rfl
      simp only [Option.bind_some, ← d2, el, en, beq_self_eq_true, Bool.not_true, Bool.false_eq_true, if_false, Bool.or_self, eb]
      exact et
  · have hs2 : ¬ (1 : Int) < (X : Int) + (Y : Int) := by omega
    rw [if_neg (by simpa using hs2)]
    exact et
theorem law_ok : LawOk f_law := by
  refine law_of fun ns hn hb => ?_
  unfold t_law
  have e1 : maxI2 1 (minI2 3 ((ns.length : Nat) : Int)) = ((max 1 (min 3 ns.length) : Nat) : Int) := by rw [maxI2_eq, minI2_eq]; omega
  rw [e1, range1T_eq _ (by omega)]
  simp only [Option.bind_some]
  rw [forR_all (fun _ => true) false (fun x hx => ?_)]
  · have g1 := chr_ok 3 2 (by omega) rfl
    have g2 := isch_ok (w := [97, 98, 97, 97, 98]) rfl (by decide)
    have g4 := chr_ok 1 0 (by omega) rfl
    have g5 := chr_ok 0 1 (by omega) rfl
    have g7 := cen_ok (w := [97, 98, 97]) rfl (by decide)
    have g8 := cen_ok (w := [97, 98, 98, 97]) rfl (by decide)
    have g9 := cenof_ok 3 2 (by omega) rfl (by omega) (by omega)
    have g10 := cen_ok (w := []) rfl (by decide)
    have pit : ∀ w : List Nat, ab w = true → w.length ≤ 40 → 2 ≤ w.length → chB w = true → ∀ i, (List.range (w.length - 1)).find? (fun i => chB (w.take (i + 1)) && chB (w.drop (i + 1))) = some i → t_parted_in_two w = some (some (w.take (i + 1), w.drop (i + 1))) := by
      intro w h1 h2 h3 h4 i h5
      have h6 : ¬ ((w.length : Nat) : Int) < 2 := by omega
      simp [t_parted_in_two, needtwo_ok h1 h2, ischw_ok (w := w) (by omega), h4, h6, parting_ok h2 i h5]
    have g3 := pit [97, 97, 98, 97, 98] rfl (by decide) (by decide) (by decide +kernel) 2 (by decide +kernel)
    have g6 := pit [97, 98] rfl (by decide) (by decide) (by decide +kernel) 0 (by decide +kernel)
    rw [show chW 3 2 = [97, 97, 98, 97, 98] by decide +kernel] at g1 g9
    rw [show chW 1 0 = [97] by decide +kernel] at g4
    rw [show chW 0 1 = [98] by decide +kernel] at g5
    rw [show chB [97, 98, 97, 97, 98] = false by decide +kernel] at g2
    rw [show cenB [97, 98, 97] = true by decide +kernel] at g7
    rw [show cenB [97, 98, 98, 97] = false by decide +kernel] at g8
    rw [show cenB [] = true by decide +kernel] at g10
    have c : ∀ (a b : List D), a.length + b.length ≤ 1000000 → catT a b = some (a ++ b) := fun a b h => catT_eq h
    have g1' : t_christoffel 3 2 = some [97, 97, 98, 97, 98] := g1
    have g4' : t_christoffel 1 0 = some [97] := g4
    have g5' : t_christoffel 0 1 = some [98] := g5
    have g9' : t_central_of 3 2 = some [97, 98, 97] := g9
    simp only [List.all_eq_true, implies_true, if_true, Option.bind_some, aftR_nx, g1', g2, g3, g4', g5', g6, g7, g8, g9', g10]
    rw [c _ _ (by simp)]
    rfl
  · obtain ⟨i, hi, rfl⟩ := List.mem_map.mp hx
    obtain ⟨j, e, hj⟩ := jar_ok ns i
    rw [e]
    simp only [Option.bind_some]
    rw [show (3 : Int) = ((3 : Nat) : Int) from rfl, range1T_eq 3 (by omega)]
    simp only [Option.bind_some]
    obtain ⟨s', e2, hs⟩ := forR_inv (R := Bool) (f := fun (s12 : List Int) (x14 : Int) => (t_law_right s12).bind fun a15 => if (!a15.1) = true then (some (.ret false)) else (some (.nx a15.2))) (fun _ s => Jar s) (xs := (List.range 3).map fun i => ((i : Nat) : Int)) (by
      intro i hi s hs
      obtain ⟨s1, e3, hs1⟩ := right_ok hs
      exact ⟨s1, by simp [e3], hs1⟩) (s := j) hj
    rw [e2]
    rfl
end K61

open PySem PySem.W PyProof.Rows
set_option maxRecDepth 100000 in
set_option maxHeartbeats 0 in
theorem PySem.Challenge.cw_upwide_k61_whole_christoffel_and_central_holds : PySem.Challenge.rw_upwide_k61_whole_christoffel_and_central.Holds := by
  w_on; o_law; k_head; (case hw => w_witness2)
  k_fill
  refine VS.walk (l := PySem.Challenge.rw_upwide_k61_whole_christoffel_and_central) 7 ⟨rfl, by decide, by decide⟩ rfl rfl (fun w h Y => PySem.W.kIn_of Y) ?F
  case F =>
    intro w mg fa h KX G hmg
    refine' K61.all_mk KX G hmg ?a0 ?l0 ?c0 ?k0 ?a1 ?l1 ?c1 ?k1 ?a2 ?l2 ?c2 ?k2 ?a3 ?l3 ?c3 ?k3 ?a4 ?l4 ?c4 ?k4 ?a5 ?l5 ?c5 ?k5 ?a6 ?l6 ?c6 ?k6 ?a7 ?l7 ?c7 ?k7 ?a8 ?l8 ?c8 ?k8 ?a9 ?l9 ?c9 ?k9 ?a10 ?l10 ?c10 ?k10 ?a11 ?l11 ?c11 ?k11 ?a12 ?l12 ?c12 ?k12 ?a13 ?l13 ?c13 ?k13 ?a14 ?l14 ?c14 ?k14 ?a15 ?l15 ?c15 ?k15 ?a16 ?l16 ?c16 ?k16 ?a17 ?l17 ?c17 ?k17 ?a18 ?l18 ?c18 ?k18 ?a19 ?l19 ?c19 ?k19 ?a20 ?l20 ?c20 ?k20 ?a21 ?l21 ?c21 ?k21 ?a22 ?l22 ?c22 ?k22 ?a23 ?l23 ?c23 ?k23 ?a24 ?l24 ?c24 ?k24 ?a25 ?l25 ?c25 ?k25 ?a26 ?l26 ?c26 ?k26 ?a27 ?l27 ?c27 ?k27 ?a28 ?l28 ?c28 ?k28 ?z0 ?z1 ?z2 ?z3 ?z4 ?z5 ?z6 ?z7 ?z8 ?z9 ?z10 ?z11 ?y0 K61.law_ok
    (case a0 => k_is)
    (case l0 => k_is)
    (case c0 => k_is)
    (case k0 => k_is)
    (case a1 => k_is)
    (case l1 => k_is)
    (case c1 => k_is)
    (case k1 => k_is)
    (case a2 => k_is)
    (case l2 => k_is)
    (case c2 => k_is)
    (case k2 => k_is)
    (case a3 => k_is)
    (case l3 => k_is)
    (case c3 => k_is)
    (case k3 => k_is)
    (case a4 => k_is)
    (case l4 => k_is)
    (case c4 => k_is)
    (case k4 => k_is)
    (case a5 => k_is)
    (case l5 => k_is)
    (case c5 => k_is)
    (case k5 => k_is)
    (case a6 => k_is)
    (case l6 => k_is)
    (case c6 => k_is)
    (case k6 => k_is)
    (case a7 => k_is)
    (case l7 => k_is)
    (case c7 => k_is)
    (case k7 => k_is)
    (case a8 => k_is)
    (case l8 => k_is)
    (case c8 => k_is)
    (case k8 => k_is)
    (case a9 => k_is)
    (case l9 => k_is)
    (case c9 => k_is)
    (case k9 => k_is)
    (case a10 => k_is)
    (case l10 => k_is)
    (case c10 => k_is)
    (case k10 => k_is)
    (case a11 => k_is)
    (case l11 => k_is)
    (case c11 => k_is)
    (case k11 => k_is)
    (case a12 => k_is)
    (case l12 => k_is)
    (case c12 => k_is)
    (case k12 => k_is)
    (case a13 => k_is)
    (case l13 => k_is)
    (case c13 => k_is)
    (case k13 => k_is)
    (case a14 => k_is)
    (case l14 => k_is)
    (case c14 => k_is)
    (case k14 => k_is)
    (case a15 => k_is)
    (case l15 => k_is)
    (case c15 => k_is)
    (case k15 => k_is)
    (case a16 => k_is)
    (case l16 => k_is)
    (case c16 => k_is)
    (case k16 => k_is)
    (case a17 => k_is)
    (case l17 => k_is)
    (case c17 => k_is)
    (case k17 => k_is)
    (case a18 => k_is)
    (case l18 => k_is)
    (case c18 => k_is)
    (case k18 => k_is)
    (case a19 => k_is)
    (case l19 => k_is)
    (case c19 => k_is)
    (case k19 => k_is)
    (case a20 => k_is)
    (case l20 => k_is)
    (case c20 => k_is)
    (case k20 => k_is)
    (case a21 => k_is)
    (case l21 => k_is)
    (case c21 => k_is)
    (case k21 => k_is)
    (case a22 => k_is)
    (case l22 => k_is)
    (case c22 => k_is)
    (case k22 => k_is)
    (case a23 => k_is)
    (case l23 => k_is)
    (case c23 => k_is)
    (case k23 => k_is)
    (case a24 => k_is)
    (case l24 => k_is)
    (case c24 => k_is)
    (case k24 => k_is)
    (case a25 => k_is)
    (case l25 => k_is)
    (case c25 => k_is)
    (case k25 => k_is)
    (case a26 => k_is)
    (case l26 => k_is)
    (case c26 => k_is)
    (case k26 => k_is)
    (case a27 => k_is)
    (case l27 => k_is)
    (case c27 => k_is)
    (case k27 => k_is)
    (case a28 => k_is)
    (case l28 => k_is)
    (case c28 => k_is)
    (case k28 => k_is)
    (case z0 => k_is)
    (case z1 => k_is)
    (case z2 => k_is)
    (case z3 => k_is)
    (case z4 => k_is)
    (case z5 => k_is)
    (case z6 => k_is)
    (case z7 => k_is)
    (case z8 => k_is)
    (case z9 => k_is)
    (case z10 => k_is)
    (case z11 => k_is)
    (case y0 => k_is)

