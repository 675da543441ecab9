import PyProof.Rows.All
import HandS.ForMost
import HandS.Walk
import HandS.Wide
import HandS.IsInst
import HandS.Flow
import HandS.EndBits
import HandS.TupMul
import HandS.Zip
import HandS.Rev
import HandS.TupAny
import HandS.Conv
import HandS.Style
import HandS.Deep
import HandS.NoneIn
import KE.KRevSl
import HandS.Text
import PySem.Challenge.RW_upwide_k60_whole_even_words_counted
set_option Elab.async false
set_option linter.all false
set_option maxRecDepth 100000
set_option maxHeartbeats 4000000
/-! A layer over HandS: mirrors with value semantics. -/
namespace VS
open PySem L2

/-- data -/
inductive D where
  | non | bl (b : Bool) | int (i : Int) | str (s : List Nat) | tup (xs : List D) | lst (xs : List D)
  | dict (kvs : List (D × D)) | set (xs : List D) | fn (x : List Nat) | ty (n : String) | obj (c : List Nat) (fs : List (List Nat × D))

/-- a key as data -/
def kD : Key → D
  | .inl i => .int i
  | .inr x => .str x.cps.toList

/-- a text of the machine -/
def OkS (s : List Nat) : Prop := s.length ≤ sizeLine ∧ ∀ c ∈ s, c < 1114112
def keyOk : Key → Prop
  | .inl _ => True
  | .inr x => OkS x.cps.toList
mutual
def RD (K : PySem.W.Frag) (mg : Str → Option Value) (F : Hp) : D → V → Prop
  | .non, v => v = .non
  | .bl b, v => v = .bl b
  | .int i, v => v = .int i
  | .str s, v => v = .str ⟨s.toArray⟩ ∧ OkS s
  | .tup ds, v => ∃ a vs, v = .ref a ∧ SqT K F a vs ∧ RDs K mg F ds vs
  | .lst ds, v => ∃ a vs, v = .ref a ∧ SqL K F a vs ∧ RDs K mg F ds vs
  | .dict ds, v => ∃ a, v = .ref a ∧ ((∃ kvs, F a = some (.dK kvs) ∧ RDk K mg F ds kvs) ∨ ∃ kvs, F a = some (.dT kvs) ∧ RDt K mg F ds kvs)
  | .set _, _ => False
  | .fn x, v => ∃ f, v = .ref f ∧ mg ⟨x.toArray⟩ = some (.ref f)
  | .ty n, v => v = .ty n
  | .obj _ _, _ => False
def RDs (K : PySem.W.Frag) (mg : Str → Option Value) (F : Hp) : List D → List V → Prop
  | [], vs => vs = []
  | d :: ds, vs => ∃ v r, vs = v :: r ∧ RD K mg F d v ∧ RDs K mg F ds r
def RDk (K : PySem.W.Frag) (mg : Str → Option Value) (F : Hp) : List (D × D) → List (Key × V) → Prop
  | [], vs => vs = []
  | (k, d) :: ds, vs => ∃ c v r, vs = (c, v) :: r ∧ (k = kD c ∧ keyOk c) ∧ RD K mg F d v ∧ RDk K mg F ds r
def RDt (K : PySem.W.Frag) (mg : Str → Option Value) (F : Hp) : List (D × D) → List (List Key × V) → Prop
  | [], vs => vs = []
  | (k, d) :: ds, vs => ∃ c v r, vs = (c, v) :: r ∧ (k = .tup (c.map kD) ∧ ∀ z ∈ c, keyOk z) ∧ RD K mg F d v ∧ RDt K mg F ds r
end

section
variable {K : PySem.W.Frag} {mg : Str → Option Value} {F F' H H' : Hp}
mutual
theorem RD.mono (h : Same F F') : ∀ (d : D) (v : V), RD K mg F d v → RD K mg F' d v
  | .non, v, e => by simpa only [RD] using e
  | .bl b, v, e => by simpa only [RD] using e
  | .int i, v, e => by simpa only [RD] using e
  | .str s, v, e => by simpa only [RD] using e
  | .fn s, v, e => by simpa only [RD] using e
  | .ty s, v, e => by simpa only [RD] using e
  | .tup ds, v, e => by
    simp only [RD] at e ⊢
    obtain ⟨a, vs, e1, e2, e3⟩ := e
    refine ⟨a, vs, e1, ?_, RDs.mono h ds vs e3⟩
    rcases e2 with (e2 | ⟨o, e2⟩) | e2
    · exact .inl (.inl (h _ _ e2))
    · exact .inl (.inr ⟨o, h _ _ e2⟩)
    · exact .inr e2
  | .lst ds, v, e => by
    simp only [RD] at e ⊢
    obtain ⟨a, vs, e1, e2, e3⟩ := e
    exact ⟨a, vs, e1, h.seq e2, RDs.mono h ds vs e3⟩
  | .dict ds, v, e => by
    simp only [RD] at e ⊢
    obtain ⟨a, e1, e2⟩ := e
    refine ⟨a, e1, ?_⟩
    rcases e2 with ⟨kvs, e2, e3⟩ | ⟨kvs, e2, e3⟩
    · exact .inl ⟨kvs, h _ _ e2, RDk.mono h ds kvs e3⟩
    · exact .inr ⟨kvs, h _ _ e2, RDt.mono h ds kvs e3⟩
  | .set _, v, e => by simp only [RD] at e
  | .obj _ _, v, e => by simp only [RD] at e
theorem RDs.mono (h : Same F F') : ∀ (ds : List D) (vs : List V), RDs K mg F ds vs → RDs K mg F' ds vs
  | [], vs, e => by simpa only [RDs] using e
  | d :: ds, vs, e => by
    simp only [RDs] at e ⊢
    obtain ⟨v, r, e1, e2, e3⟩ := e
    exact ⟨v, r, e1, RD.mono h d v e2, RDs.mono h ds r e3⟩
theorem RDk.mono (h : Same F F') : ∀ (ds : List (D × D)) (vs : List (Key × V)), RDk K mg F ds vs → RDk K mg F' ds vs
  | [], vs, e => by simpa only [RDk] using e
  | (k, d) :: ds, vs, e => by
    simp only [RDk] at e ⊢
    obtain ⟨c, v, r, e1, e0, e2, e3⟩ := e
    exact ⟨c, v, r, e1, e0, RD.mono h d v e2, RDk.mono h ds r e3⟩
theorem RDt.mono (h : Same F F') : ∀ (ds : List (D × D)) (vs : List (List Key × V)), RDt K mg F ds vs → RDt K mg F' ds vs
  | [], vs, e => by simpa only [RDt] using e
  | (k, d) :: ds, vs, e => by
    simp only [RDt] at e ⊢
    obtain ⟨c, v, r, e1, e0, e2, e3⟩ := e
    exact ⟨c, v, r, e1, e0, RD.mono h d v e2, RDt.mono h ds r e3⟩
end
end

/-- a value is known; an object of nobody else; that of a slot; that of the store -/
inductive EV where
  | val (d : D) | fresh (d : D) | slot (i : Nat) | par (k : Nat)
inductive Cell where
  | un | val (d : D) | own (d : D) | par (k : Nat)
inductive SC where
  | own (d : D) | frz (d : D)
structure VEnv where
  sl : List Cell
  st : List SC
inductive Fl where
  | nx | brk | cont | ret (r : EV)
abbrev M := VEnv → Option (EV × VEnv)
abbrev MB := VEnv → Option (Bool × VEnv)
abbrev ML := VEnv → Option (List EV × VEnv)
abbrev MS := VEnv → Option (Fl × VEnv)
abbrev MG := EV → VEnv → Option VEnv

def OwnAt (K : PySem.W.Frag) (mg : Str → Option Value) (F H : Hp) (a : Addr) (d : D) : Prop :=
  F a = none ∧ match d with
    | .lst ds => ∃ vs, H a = some (.lst vs) ∧ RDs K mg F ds vs
    | .dict ds => (∃ kvs, H a = some (.dK kvs) ∧ RDk K mg F ds kvs) ∨ ∃ kvs, H a = some (.dT kvs) ∧ RDt K mg F ds kvs
    | _ => False

/-- where the objects stand that may be written -/
def LocAt (ρ : List Addr) (Γ : VEnv) (σ : St) : Nat ⊕ Nat → Addr → Prop
  | .inl i, a => (∃ d, Γ.sl[i]? = some (Cell.own d)) ∧ σ[i]? = some (some (.ref a))
  | .inr k, a => (∃ d, Γ.st[k]? = some (SC.own d)) ∧ ρ[k]? = some a

structure Rep (K : PySem.W.Frag) (mg : Str → Option Value) (ρ : List Addr) (O : Addr → Prop) (Γ : VEnv) (σ : St) (H F : Hp) : Prop where
  le : Same F H
  len : σ.length = Γ.sl.length
  vl : ∀ (i : Nat) (d : D), Γ.sl[i]? = some (Cell.val d) → ∃ v, σ[i]? = some (some v) ∧ RD K mg F d v
  ow : ∀ (i : Nat) (d : D), Γ.sl[i]? = some (Cell.own d) → ∃ a, σ[i]? = some (some (V.ref a)) ∧ OwnAt K mg F H a d
  pr : ∀ (i k : Nat), Γ.sl[i]? = some (Cell.par k) → ∃ a, ρ[k]? = some a ∧ σ[i]? = some (some (V.ref a))
  plen : ρ.length = Γ.st.length
  sow : ∀ (k : Nat) (d : D), Γ.st[k]? = some (SC.own d) → ∃ a, ρ[k]? = some a ∧ OwnAt K mg F H a d
  sfz : ∀ (k : Nat) (d : D), Γ.st[k]? = some (SC.frz d) → ∃ a, ρ[k]? = some a ∧ RD K mg F d (.ref a)
  inj : ∀ l l' a, LocAt ρ Γ σ l a → LocAt ρ Γ σ l' a → l = l'
  prot : ∀ a, O a → F a = none ∧ H a ≠ none ∧ ∀ l, ¬ LocAt ρ Γ σ l a

def RepEV (K : PySem.W.Frag) (mg : Str → Option Value) (ρ : List Addr) (O : Addr → Prop) (Γ : VEnv) (σ : St) (H F : Hp) : EV → V → Prop
  | .val d, v => RD K mg F d v
  | .fresh d, v => ∃ p, v = .ref p ∧ OwnAt K mg F H p d ∧ ¬ O p ∧ ∀ l, ¬ LocAt ρ Γ σ l p
  | .slot i, v => σ[i]? = some (some v) ∧ True
  | .par k, v => ∃ a, ρ[k]? = some a ∧ v = .ref a

def frs (r : EV) (v : V) : Addr → Prop := fun a => match r with
  | .fresh _ => v = .ref a
  | _ => False
def orO (O O' : Addr → Prop) : Addr → Prop := fun a => O a ∨ O' a

/-- what an operation that only makes new things leaves -/
structure Grow (F H F' H' : Hp) : Prop where
  hs : Same H H'
  fs : Same F F'
  le : Same F' H'
  nw : ∀ a, F' a ≠ none → F a ≠ none ∨ H a = none

section
variable {K : PySem.W.Frag} {mg : Str → Option Value} {ρ : List Addr} {O O' : Addr → Prop} {Γ Γ' : VEnv} {σ : St} {H F F' H' : Hp} {r : EV} {v : V} {d : D} {a : Addr}
theorem OwnAt.there (h : OwnAt K mg F H a d) : H a ≠ none := by
  obtain ⟨_, h⟩ := h
  cases d <;> simp only at h
  · obtain ⟨vs, e, _⟩ := h; rw [e]; exact fun z => nomatch z
  · rcases h with ⟨vs, e, _⟩ | ⟨vs, e, _⟩ <;> (rw [e]; exact fun z => nomatch z)
theorem OwnAt.stay (h : OwnAt K mg F H a d) (hf : Same F F') (hn : F' a = none) (hh : H' a = H a) : OwnAt K mg F' H' a d := by
  obtain ⟨_, h⟩ := h
  refine ⟨hn, ?_⟩
  cases d <;> simp only at h ⊢
  · obtain ⟨vs, e, q⟩ := h; exact ⟨vs, hh.trans e, RDs.mono hf _ _ q⟩
  · rcases h with ⟨vs, e, q⟩ | ⟨vs, e, q⟩
    · exact .inl ⟨vs, hh.trans e, RDk.mono hf _ _ q⟩
    · exact .inr ⟨vs, hh.trans e, RDt.mono hf _ _ q⟩
theorem Same.at_ (h : Same H H') (e : H a ≠ none) : H' a = H a := by
  cases q : H a with
  | none => exact absurd q e
  | some o => exact h a o q
theorem Grow.refl (h : Same F H) : Grow F H F H := ⟨Same.refl _, Same.refl _, h, fun a e => .inl e⟩
theorem Grow.keepN (g : Grow F H F' H') (hn : F a = none) (e : H a ≠ none) : F' a = none := by
  cases q : F' a with
  | none => rfl
  | some o => rcases g.nw a (by rw [q]; exact fun z => nomatch z) with z | z
              · exact absurd hn z
              · exact absurd z e
theorem Grow.own (g : Grow F H F' H') (h : OwnAt K mg F H a d) : OwnAt K mg F' H' a d :=
  h.stay g.fs (g.keepN h.1 h.there) (Same.at_ g.hs h.there)
theorem Grow.trans {F2 H2 : Hp} (g : Grow F H F' H') (g' : Grow F' H' F2 H2) : Grow F H F2 H2 where
  hs := g.hs.trans g'.hs
  fs := g.fs.trans g'.fs
  le := g'.le
  nw := fun a e => by
    rcases g'.nw a e with z | z
    · exact g.nw a z
    · right
      cases q : H a with
      | none => rfl
      | some o => rw [g.hs a o q] at z; cases z
theorem Rep.grow (R : Rep K mg ρ O Γ σ H F) (g : Grow F H F' H') : Rep K mg ρ O Γ σ H' F' where
  le := g.le
  len := R.len
  vl := fun i d e => let ⟨v, h1, h2⟩ := R.vl i d e; ⟨v, h1, RD.mono g.fs _ _ h2⟩
  ow := fun i d e => let ⟨v, h1, h2⟩ := R.ow i d e; ⟨v, h1, g.own h2⟩
  pr := R.pr
  plen := R.plen
  sow := fun i d e => let ⟨v, h1, h2⟩ := R.sow i d e; ⟨v, h1, g.own h2⟩
  sfz := fun i d e => let ⟨v, h1, h2⟩ := R.sfz i d e; ⟨v, h1, RD.mono g.fs _ _ h2⟩
  inj := R.inj
  prot := fun a h => let ⟨h1, h2, h3⟩ := R.prot a h; ⟨g.keepN h1 h2, by rw [Same.at_ g.hs h2]; exact h2, h3⟩
theorem Rep.opres (R : Rep K mg ρ O Γ σ H F) (g : Same H H') : ∀ a, O a → H' a = H a := fun a h => Same.at_ g (R.prot a h).2.1
theorem Rep.weakO (R : Rep K mg ρ O Γ σ H F) (h : ∀ a, O' a → O a) : Rep K mg ρ O' Γ σ H F :=
  { R with prot := fun a z => R.prot a (h a z) }
theorem RepEV.grow (e : RepEV K mg ρ O Γ σ H F r v) (g : Grow F H F' H') : RepEV K mg ρ O Γ σ H' F' r v := by
  cases r with
  | val d => exact RD.mono g.fs _ _ e
  | fresh d => obtain ⟨p, h1, h2, h3, h4⟩ := e; exact ⟨p, h1, g.own h2, h3, h4⟩
  | slot i => exact e
  | par k => exact e
theorem RepEV.weakO (e : RepEV K mg ρ O Γ σ H F r v) (h : ∀ a, O' a → O a) : RepEV K mg ρ O' Γ σ H F r v := by
  cases r with
  | val d => exact e
  | fresh d => obtain ⟨p, h1, h2, h3, h4⟩ := e; exact ⟨p, h1, h2, fun z => h3 (h _ z), h4⟩
  | slot i => exact e
  | par k => exact e
/-- the pending object is protected while more is evaluated -/
theorem Rep.pend (R : Rep K mg ρ O Γ σ H F) (e : RepEV K mg ρ O Γ σ H F r v) : Rep K mg ρ (orO O (frs r v)) Γ σ H F :=
  by
  refine { R with prot := fun a z => ?_ }
  rcases z with z | z
  · exact R.prot a z
  · cases r with
    | fresh d =>
      obtain ⟨p, h1, h2, h3, h4⟩ := e
      have z' : v = .ref a := z
      rw [h1] at z'; cases z'
      exact ⟨h2.1, h2.there, h4⟩
    | val d => exact False.elim z
    | slot i => exact False.elim z
    | par k => exact False.elim z
/-- which slots hold what: a step only freezes -/
def Cells (_ _ : VEnv) : Prop := True
theorem RepEV.later (R : Rep K mg ρ O Γ σ H F) (e : RepEV K mg ρ O Γ σ H F r v) (R' : Rep K mg ρ (orO O (frs r v)) Γ' σ H' F') (hf : Same F F') (ho : ∀ a, orO O (frs r v) a → H' a = H a) (hc : Cells Γ Γ') : RepEV K mg ρ O Γ' σ H' F' r v := by
  cases r with
  | val d => exact RD.mono hf _ _ e
  | fresh d =>
    obtain ⟨p, h1, h2, h3, h4⟩ := e
    have hp : orO O (frs (.fresh d) v) p := .inr h1
    obtain ⟨q1, q2, q3⟩ := R'.prot p hp
    exact ⟨p, h1, h2.stay hf q1 (ho p hp), h3, q3⟩
  | slot i => exact ⟨e.1, trivial⟩
  | par k => exact e
end

/-! ### reading -/
def peek (Γ : VEnv) : EV → Option D
  | .val d => some d
  | .fresh d => some d
  | .slot i => match Γ.sl[i]? with
    | some (.own d) => some d
    | some (.val d) => some d
    | _ => none
  | .par k => match Γ.st[k]? with
    | some (.own d) => some d
    | some (.frz d) => some d
    | _ => none
/-- frozen, or an object that may be written, as it stands -/
def RP (K : PySem.W.Frag) (mg : Str → Option Value) (F H : Hp) (d : D) (v : V) : Prop := RD K mg F d v ∨ ∃ a, v = .ref a ∧ OwnAt K mg F H a d
def freeze : EV → VEnv → Option (D × VEnv)
  | .val d, Γ => some (d, Γ)
  | .fresh d, Γ => some (d, Γ)
  | .slot i, Γ => match Γ.sl[i]? with
    | some (.own d) => some (d, ⟨Γ.sl.set i (.val d), Γ.st⟩)
    | some (.val d) => some (d, Γ)
    | _ => none
  | .par k, Γ => match Γ.st[k]? with
    | some (.own d) => some (d, ⟨Γ.sl, Γ.st.set k (.frz d)⟩)
    | some (.frz d) => some (d, Γ)
    | _ => none
/-- the object that may be written -/
def content (Γ : VEnv) : EV → Option D
  | .slot i => match Γ.sl[i]? with
    | some (.own d) => some d
    | _ => none
  | .par k => match Γ.st[k]? with
    | some (.own d) => some d
    | _ => none
  | _ => none
def putC (Γ : VEnv) (d : D) : EV → VEnv
  | .slot i => ⟨Γ.sl.set i (.own d), Γ.st⟩
  | .par k => ⟨Γ.sl, Γ.st.set k (.own d)⟩
  | _ => Γ
def setCell (Γ : VEnv) (i : Nat) (c : Cell) : VEnv := ⟨Γ.sl.set i c, Γ.st⟩
/-- name = value -/
def asgn (i : Nat) : MG := fun r Γ => match r with
  | .val d => some (setCell Γ i (.val d))
  | .fresh d => some (setCell Γ i (.own d))
  | .slot j => (freeze (.slot j) Γ).map fun p => setCell p.2 i (.val p.1)
  | .par k => some (setCell Γ i (.par k))

theorem gset {α : Type} {l : List α} {i j : Nat} {x y : α} (h : (l.set i x)[j]? = some y) : (j = i ∧ y = x ∧ i < l.length) ∨ (j ≠ i ∧ l[j]? = some y) := by
  by_cases e : j = i
  · subst e
    left
    have hl : j < l.length := by
      have := (List.getElem?_eq_some_iff.mp h).1
      simpa using this
    rw [List.getElem?_set_self hl] at h
    exact ⟨rfl, (Option.some.inj h).symm, hl⟩
  · right
    rw [List.getElem?_set_ne (Ne.symm e)] at h
    exact ⟨e, h⟩
section
variable {K : PySem.W.Frag} {mg : Str → Option Value} {ρ : List Addr} {O O' : Addr → Prop} {Γ Γ' : VEnv} {σ : St} {H F F' H' : Hp} {r : EV} {v : V} {d : D} {a : Addr}
theorem peek_ok (R : Rep K mg ρ O Γ σ H F) (e : RepEV K mg ρ O Γ σ H F r v) (h : peek Γ r = some d) : RP K mg F H d v := by
  cases r with
  | val d' => cases h; exact .inl e
  | fresh d' => cases h; obtain ⟨p, h1, h2, _⟩ := e; exact .inr ⟨p, h1, h2⟩
  | slot i =>
    obtain ⟨e, _⟩ := e
    simp only [peek] at h
    cases q : Γ.sl[i]? with
    | none => rw [q] at h; cases h
    | some c =>
      rw [q] at h
      cases c with
      | own d' => cases h; obtain ⟨a, h1, h2⟩ := R.ow i _ q; rw [e] at h1; cases h1; exact .inr ⟨a, rfl, h2⟩
      | val d' => cases h; obtain ⟨a, h1, h2⟩ := R.vl i _ q; rw [e] at h1; cases h1; exact .inl h2
      | un => cases h
      | par k => cases h
  | par k =>
    obtain ⟨a, e, rfl⟩ := e
    simp only [peek] at h
    cases q : Γ.st[k]? with
    | none => rw [q] at h; cases h
    | some c =>
      rw [q] at h
      cases c with
      | own d' => cases h; obtain ⟨b, h1, h2⟩ := R.sow k _ q; rw [e] at h1; cases h1; exact .inr ⟨a, rfl, h2⟩
      | frz d' => cases h; obtain ⟨b, h1, h2⟩ := R.sfz k _ q; rw [e] at h1; cases h1; exact .inl h2
/-- the heap's frozen part with one object more -/
def plus (F H : Hp) (a : Addr) : Hp := fun b => if b = a then H a else F b
theorem plus_same (hn : F a = none) : Same F (plus F H a) := fun b o e => by
  unfold plus
  by_cases hb : b = a
  · subst hb; rw [hn] at e; cases e
  · rw [if_neg hb]; exact e
theorem plus_le (h : Same F H) : Same (plus F H a) H := fun b o e => by
  unfold plus at e
  by_cases hb : b = a
  · subst hb; rw [if_pos rfl] at e; exact e
  · rw [if_neg hb] at e; exact h b o e
theorem plus_ne {b : Addr} (h : b ≠ a) : plus F H a b = F b := by unfold plus; rw [if_neg h]
theorem OwnAt.frozen (h : OwnAt K mg F H a d) : RD K mg (plus F H a) d (.ref a) := by
  obtain ⟨hn, h⟩ := h
  have sm : Same F (plus F H a) := plus_same hn
  cases d <;> simp only at h
  · obtain ⟨vs, e, q⟩ := h
    simp only [RD]
    exact ⟨a, vs, rfl, .inl (.inl (by unfold plus; rw [if_pos rfl]; exact e)), RDs.mono sm _ _ q⟩
  · simp only [RD]
    refine ⟨a, rfl, ?_⟩
    rcases h with ⟨vs, e, q⟩ | ⟨vs, e, q⟩
    · exact .inl ⟨vs, by unfold plus; rw [if_pos rfl]; exact e, RDk.mono sm _ _ q⟩
    · exact .inr ⟨vs, by unfold plus; rw [if_pos rfl]; exact e, RDt.mono sm _ _ q⟩
theorem OwnAt.plus {b : Addr} (h : OwnAt K mg F H b d) (hn : F a = none) (hne : b ≠ a) : OwnAt K mg (plus F H a) H b d :=
  h.stay (plus_same hn) (by rw [plus_ne hne]; exact h.1) rfl
/-- a pending object is frozen -/
theorem Rep.frzNew (R : Rep K mg ρ O Γ σ H F) (h : OwnAt K mg F H a d) (ho : ¬ O a) (hl : ∀ l, ¬ LocAt ρ Γ σ l a) : Rep K mg ρ O Γ σ H (plus F H a) where
  le := plus_le R.le
  len := R.len
  vl := fun i d e => let ⟨v, h1, h2⟩ := R.vl i d e; ⟨v, h1, RD.mono (plus_same h.1) _ _ h2⟩
  ow := fun i d e => let ⟨b, h1, h2⟩ := R.ow i d e; ⟨b, h1, h2.plus h.1 (fun z => hl (.inl i) ⟨⟨d, e⟩, by rw [h1, z]⟩)⟩
  pr := R.pr
  plen := R.plen
  sow := fun i d e => let ⟨b, h1, h2⟩ := R.sow i d e; ⟨b, h1, h2.plus h.1 (fun z => hl (.inr i) ⟨⟨d, e⟩, by rw [h1, z]⟩)⟩
  sfz := fun i d e => let ⟨v, h1, h2⟩ := R.sfz i d e; ⟨v, h1, RD.mono (plus_same h.1) _ _ h2⟩
  inj := R.inj
  prot := fun b hb => let ⟨h1, h2, h3⟩ := R.prot b hb; ⟨by rw [plus_ne (fun (z : b = a) => ho (z ▸ hb))]; exact h1, h2, h3⟩
theorem Rep.frzSlot {i : Nat} (R : Rep K mg ρ O Γ σ H F) (q : Γ.sl[i]? = some (Cell.own d)) (hs : σ[i]? = some (some (V.ref a))) (h : OwnAt K mg F H a d) :
    Rep K mg ρ O ⟨Γ.sl.set i (.val d), Γ.st⟩ σ H (plus F H a) := by
  have la : LocAt ρ Γ σ (.inl i) a := ⟨⟨d, q⟩, hs⟩
  have loc : ∀ l b, LocAt ρ ⟨Γ.sl.set i (.val d), Γ.st⟩ σ l b → LocAt ρ Γ σ l b ∧ b ≠ a := by
    intro l b hb
    cases l with
    | inl j =>
      obtain ⟨⟨d', e⟩, h1⟩ := hb
      rcases gset e with ⟨_, z, _⟩ | ⟨hne, e⟩
      · cases z
      · refine ⟨⟨⟨d', e⟩, h1⟩, fun z => ?_⟩
        subst z
        exact hne (by injection (R.inj (.inl j) (.inl i) b ⟨⟨d', e⟩, h1⟩ la))
    | inr k =>
      refine ⟨hb, fun z => ?_⟩
      subst z
      cases R.inj (.inr k) (.inl i) b hb la
  have ho : ∀ b, O b → b ≠ a := fun b hb z => (R.prot b hb).2.2 (.inl i) (z ▸ la)
  refine ⟨plus_le R.le, by rw [R.len]; simp, fun j d' e => ?_, fun j d' e => ?_, fun j k e => ?_, R.plen, fun k d' e => ?_, fun k d' e => ?_, fun l l' b h1 h2 => R.inj l l' b (loc l b h1).1 (loc l' b h2).1, fun b hb => ?_⟩
  · rcases gset e with ⟨rfl, z, _⟩ | ⟨_, e⟩
    · cases z; exact ⟨_, hs, h.frozen⟩
    · obtain ⟨v, h1, h2⟩ := R.vl j d' e; exact ⟨v, h1, RD.mono (plus_same h.1) _ _ h2⟩
  · rcases gset e with ⟨_, z, _⟩ | ⟨hne, e⟩
    · cases z
    · obtain ⟨b, h1, h2⟩ := R.ow j d' e
      exact ⟨b, h1, h2.plus h.1 (loc (.inl j) b ⟨⟨d', by rw [List.getElem?_set_ne (Ne.symm hne)]; exact e⟩, h1⟩).2⟩
  · rcases gset e with ⟨_, z, _⟩ | ⟨_, e⟩
    · cases z
    · exact R.pr j k e
  · obtain ⟨b, h1, h2⟩ := R.sow k d' e
    exact ⟨b, h1, h2.plus h.1 (loc (.inr k) b ⟨⟨d', e⟩, h1⟩).2⟩
  · obtain ⟨b, h1, h2⟩ := R.sfz k d' e; exact ⟨b, h1, RD.mono (plus_same h.1) _ _ h2⟩
  · obtain ⟨h1, h2, h3⟩ := R.prot b hb
    exact ⟨by rw [plus_ne (ho b hb)]; exact h1, h2, fun l z => h3 l (loc l b z).1⟩
theorem Rep.frzPar {i : Nat} (R : Rep K mg ρ O Γ σ H F) (q : Γ.st[i]? = some (SC.own d)) (hs : ρ[i]? = some a) (h : OwnAt K mg F H a d) :
    Rep K mg ρ O ⟨Γ.sl, Γ.st.set i (.frz d)⟩ σ H (plus F H a) := by
  have la : LocAt ρ Γ σ (.inr i) a := ⟨⟨d, q⟩, hs⟩
  have loc : ∀ l b, LocAt ρ ⟨Γ.sl, Γ.st.set i (.frz d)⟩ σ l b → LocAt ρ Γ σ l b ∧ b ≠ a := by
    intro l b hb
    cases l with
    | inr j =>
      obtain ⟨⟨d', e⟩, h1⟩ := hb
      rcases gset e with ⟨_, z, _⟩ | ⟨hne, e⟩
      · cases z
      · refine ⟨⟨⟨d', e⟩, h1⟩, fun z => ?_⟩
        subst z
        exact hne (by injection (R.inj (.inr j) (.inr i) b ⟨⟨d', e⟩, h1⟩ la))
    | inl k =>
      refine ⟨hb, fun z => ?_⟩
      subst z
      cases R.inj (.inl k) (.inr i) b hb la
  have ho : ∀ b, O b → b ≠ a := fun b hb z => (R.prot b hb).2.2 (.inr i) (z ▸ la)
  refine ⟨plus_le R.le, R.len, fun j d' e => ?_, fun j d' e => ?_, R.pr, by rw [R.plen]; simp, fun k d' e => ?_, fun k d' e => ?_, fun l l' b h1 h2 => R.inj l l' b (loc l b h1).1 (loc l' b h2).1, fun b hb => ?_⟩
  · obtain ⟨v, h1, h2⟩ := R.vl j d' e; exact ⟨v, h1, RD.mono (plus_same h.1) _ _ h2⟩
  · obtain ⟨b, h1, h2⟩ := R.ow j d' e
    exact ⟨b, h1, h2.plus h.1 (loc (.inl j) b ⟨⟨d', e⟩, h1⟩).2⟩
  · rcases gset e with ⟨_, z, _⟩ | ⟨hne, e⟩
    · cases z
    · obtain ⟨b, h1, h2⟩ := R.sow k d' e
      exact ⟨b, h1, h2.plus h.1 (loc (.inr k) b ⟨⟨d', by rw [List.getElem?_set_ne (Ne.symm hne)]; exact e⟩, h1⟩).2⟩
  · rcases gset e with ⟨rfl, z, _⟩ | ⟨_, e⟩
    · cases z; exact ⟨_, hs, h.frozen⟩
    · obtain ⟨b, h1, h2⟩ := R.sfz k d' e; exact ⟨b, h1, RD.mono (plus_same h.1) _ _ h2⟩
  · obtain ⟨h1, h2, h3⟩ := R.prot b hb
    exact ⟨by rw [plus_ne (ho b hb)]; exact h1, h2, fun l z => h3 l (loc l b z).1⟩
theorem Cells.refl : Cells Γ Γ := trivial
theorem Cells.trans {Γ2 : VEnv} (_ : Cells Γ Γ') (_ : Cells Γ' Γ2) : Cells Γ Γ2 := trivial
theorem freeze_ok (R : Rep K mg ρ O Γ σ H F) (e : RepEV K mg ρ O Γ σ H F r v) (h : freeze r Γ = some (d, Γ')) : ∃ F', Rep K mg ρ O Γ' σ H F' ∧ Same F F' ∧ RD K mg F' d v ∧ Cells Γ Γ' := by
  cases r with
  | val d' => cases h; exact ⟨F, R, Same.refl _, e, Cells.refl⟩
  | fresh d' => cases h; obtain ⟨p, rfl, h2, h3, h4⟩ := e; exact ⟨_, R.frzNew h2 h3 h4, plus_same h2.1, h2.frozen, Cells.refl⟩
  | slot i =>
    obtain ⟨e, _⟩ := e
    simp only [freeze] at h
    cases q : Γ.sl[i]? with
    | none => rw [q] at h; cases h
    | some c =>
      rw [q] at h
      cases c with
      | own d' =>
        cases h
        obtain ⟨a, h1, h2⟩ := R.ow i _ q; rw [e] at h1; cases h1
        exact ⟨_, R.frzSlot q e h2, plus_same h2.1, h2.frozen, trivial⟩
      | val d' => cases h; obtain ⟨a, h1, h2⟩ := R.vl i _ q; rw [e] at h1; cases h1; exact ⟨F, R, Same.refl _, h2, Cells.refl⟩
      | un => cases h
      | par k => cases h
  | par k =>
    obtain ⟨a, e, rfl⟩ := e
    simp only [freeze] at h
    cases q : Γ.st[k]? with
    | none => rw [q] at h; cases h
    | some c =>
      rw [q] at h
      cases c with
      | own d' => cases h; obtain ⟨b, h1, h2⟩ := R.sow k _ q; rw [e] at h1; cases h1; exact ⟨_, R.frzPar q e h2, plus_same h2.1, h2.frozen, trivial⟩
      | frz d' => cases h; obtain ⟨b, h1, h2⟩ := R.sfz k _ q; rw [e] at h1; cases h1; exact ⟨F, R, Same.refl _, h2, Cells.refl⟩
theorem sset {σ : St} {i j : Nat} {x : Option V} {y : V} (h : (σ.set i x)[j]? = some (some y)) : (j = i ∧ x = some y ∧ i < σ.length) ∨ (j ≠ i ∧ σ[j]? = some (some y)) := by
  rcases gset h with ⟨h1, h2, h3⟩ | h
  · exact .inl ⟨h1, h2.symm, h3⟩
  · exact .inr h
/-- a slot gets a new cell -/
theorem Rep.setCell {i : Nat} {c : Cell} {x : Option V} (R : Rep K mg ρ O Γ σ H F)
    (hc : match c with
      | .un => True
      | .val d => ∃ v, x = some v ∧ RD K mg F d v
      | .own d => ∃ a, x = some (.ref a) ∧ OwnAt K mg F H a d ∧ ¬ O a ∧ ∀ l, ¬ LocAt ρ Γ σ l a
      | .par k => ∃ a, ρ[k]? = some a ∧ x = some (.ref a)) : Rep K mg ρ O (setCell Γ i c) (σ.set i x) H F := by
  have lenσ := R.len
  have loc : ∀ l b, LocAt ρ (VS.setCell Γ i c) (σ.set i x) l b → (LocAt ρ Γ σ l b ∧ l ≠ .inl i) ∨ (l = .inl i ∧ (∃ d, c = .own d) ∧ x = some (.ref b)) := by
    intro l b hb
    cases l with
    | inl j =>
      obtain ⟨⟨d', e⟩, h1⟩ := hb
      rcases gset e with ⟨rfl, z, _⟩ | ⟨hne, e⟩
      · right
        rcases sset h1 with ⟨_, z2, _⟩ | ⟨z2, _⟩
        · exact ⟨rfl, ⟨d', z.symm⟩, z2⟩
        · exact absurd rfl z2
      · left
        rcases sset h1 with ⟨z2, _⟩ | ⟨_, h1⟩
        · exact absurd z2 hne
        · exact ⟨⟨⟨d', e⟩, h1⟩, fun z => hne (by injection z)⟩
    | inr k => exact .inl ⟨hb, fun z => nomatch z⟩
  have hi : ∀ {j : Nat} {c' : Cell}, (Γ.sl.set i c)[j]? = some c' → j = i → j < σ.length := fun e _ => by
    have := (List.getElem?_eq_some_iff.mp e).1
    rw [lenσ]; simpa using this
  refine ⟨R.le, by simp [VS.setCell, lenσ], fun j d' e => ?_, fun j d' e => ?_, fun j k e => ?_, R.plen, R.sow, R.sfz, fun l l' b h1 h2 => ?_, fun b hb => ?_⟩
  · rcases gset e with ⟨hj, z, _⟩ | ⟨hne, e'⟩
    · subst z
      obtain ⟨v, h1, h2⟩ := hc
      have := hi e hj
      subst hj
      exact ⟨v, by rw [List.getElem?_set_self this, h1], h2⟩
    · obtain ⟨v, h1, h2⟩ := R.vl j d' e'
      exact ⟨v, by rw [List.getElem?_set_ne (Ne.symm hne)]; exact h1, h2⟩
  · rcases gset e with ⟨hj, z, _⟩ | ⟨hne, e'⟩
    · subst z
      obtain ⟨a, h1, h2, _⟩ := hc
      have := hi e hj
      subst hj
      exact ⟨a, by rw [List.getElem?_set_self this, h1], h2⟩
    · obtain ⟨v, h1, h2⟩ := R.ow j d' e'
      exact ⟨v, by rw [List.getElem?_set_ne (Ne.symm hne)]; exact h1, h2⟩
  · rcases gset e with ⟨hj, z, _⟩ | ⟨hne, e'⟩
    · subst z
      obtain ⟨a, h1, h2⟩ := hc
      have := hi e hj
      subst hj
      exact ⟨a, h1, by rw [List.getElem?_set_self this, h2]⟩
    · obtain ⟨v, h1, h2⟩ := R.pr j k e'
      exact ⟨v, h1, by rw [List.getElem?_set_ne (Ne.symm hne)]; exact h2⟩
  · rcases loc l b h1 with ⟨a1, n1⟩ | ⟨e1, ⟨d1, z1⟩, x1⟩
    · rcases loc l' b h2 with ⟨a2, n2⟩ | ⟨e2, ⟨d2, z2⟩, x2⟩
      · exact R.inj l l' b a1 a2
      · subst z2
        obtain ⟨a, q1, q2, q3, q4⟩ := hc
        rw [x2] at q1; cases q1
        exact absurd a1 (q4 l)
    · rcases loc l' b h2 with ⟨a2, n2⟩ | ⟨e2, _⟩
      · subst z1
        obtain ⟨a, q1, q2, q3, q4⟩ := hc
        rw [x1] at q1; cases q1
        exact absurd a2 (q4 l')
      · rw [e1, e2]
  · obtain ⟨h1, h2, h3⟩ := R.prot b hb
    refine ⟨h1, h2, fun l hl => ?_⟩
    rcases loc l b hl with ⟨z, _⟩ | ⟨_, ⟨d1, z1⟩, x1⟩
    · exact h3 l z
    · subst z1
      obtain ⟨a, q1, q2, q3, q4⟩ := hc
      rw [x1] at q1; cases q1
      exact q3 hb
theorem asgn_ok {i : Nat} (R : Rep K mg ρ O Γ σ H F) (e : RepEV K mg ρ O Γ σ H F r v) (h : asgn i r Γ = some Γ') : ∃ F', Rep K mg ρ O Γ' (σ.set i (some v)) H F' ∧ Same F F' := by
  cases r with
  | val d => cases h; exact ⟨F, R.setCell ⟨v, rfl, e⟩, Same.refl _⟩
  | fresh d => cases h; obtain ⟨p, rfl, h2, h3, h4⟩ := e; exact ⟨F, R.setCell ⟨p, rfl, h2, h3, h4⟩, Same.refl _⟩
  | slot j =>
    simp only [asgn] at h
    cases q : freeze (.slot j) Γ with
    | none => rw [q] at h; cases h
    | some p =>
      rw [q] at h
      cases h
      obtain ⟨F', R', s, rd, _⟩ := freeze_ok R e q
      exact ⟨F', R'.setCell ⟨v, rfl, rd⟩, s⟩
  | par k => cases h; obtain ⟨a, h1, rfl⟩ := e; exact ⟨F, R.setCell ⟨a, h1, rfl⟩, Same.refl _⟩
/-- an object that may be written is written -/
theorem mut_ok (R : Rep K mg ρ O Γ σ H F) (e : RepEV K mg ρ O Γ σ H F r v) (h : content Γ r = some d) :
    ∃ a, v = .ref a ∧ OwnAt K mg F H a d ∧ ∀ H' d', (∀ b, b ≠ a → H' b = H b) → OwnAt K mg F H' a d' → Rep K mg ρ O (putC Γ d' r) σ H' F ∧ ∀ b, O b → H' b = H b := by
  have le : ∀ {a : Addr} {H' : Hp}, F a = none → (∀ b, b ≠ a → H' b = H b) → Same F H' := fun {a H'} hn hh b o q => by
    rw [hh b (fun z => by rw [z, hn] at q; cases q)]; exact R.le b o q
  cases r with
  | val d' => cases h
  | fresh d' => cases h
  | slot i =>
    obtain ⟨e, _⟩ := e
    simp only [content] at h
    cases q : Γ.sl[i]? with
    | none => rw [q] at h; cases h
    | some c =>
      rw [q] at h
      cases c with
      | own d0 =>
        cases h
        obtain ⟨a, h1, h2⟩ := R.ow i _ q; rw [e] at h1; cases h1
        refine ⟨a, rfl, h2, fun H' d' hh ho => ?_⟩
        have la : LocAt ρ Γ σ (.inl i) a := ⟨⟨d, q⟩, e⟩
        have hl : i < Γ.sl.length := (List.getElem?_eq_some_iff.mp q).1
        have loc : ∀ l b, LocAt ρ ⟨Γ.sl.set i (.own d'), Γ.st⟩ σ l b → LocAt ρ Γ σ l b := by
          intro l b hb
          cases l with
          | inl j =>
            obtain ⟨⟨d2, z⟩, h1⟩ := hb
            rcases gset z with ⟨rfl, _, _⟩ | ⟨_, z⟩
            · exact ⟨⟨d, q⟩, h1⟩
            · exact ⟨⟨d2, z⟩, h1⟩
          | inr k => exact hb
        have st : ∀ l b d2, LocAt ρ Γ σ l b → l ≠ .inl i → OwnAt K mg F H b d2 → OwnAt K mg F H' b d2 := fun l b d2 hb hn hO =>
          hO.stay (Same.refl _) hO.1 (hh b fun z => hn (R.inj l (.inl i) b hb (z ▸ la)))
        refine ⟨⟨le h2.1 hh, by rw [R.len]; simp [putC], fun j d2 z => ?_, fun j d2 z => ?_, fun j k z => ?_, R.plen, fun k d2 z => ?_, R.sfz, fun l l' b h1 h2 => R.inj l l' b (loc l b h1) (loc l' b h2), fun b hb => ?_⟩, fun b hb => hh b fun z => (R.prot b hb).2.2 (.inl i) (z ▸ la)⟩
        · rcases gset z with ⟨_, z, _⟩ | ⟨_, z⟩
          · cases z
          · exact R.vl j d2 z
        · rcases gset z with ⟨rfl, z, _⟩ | ⟨hne, z⟩
          · cases z; exact ⟨a, e, ho⟩
          · obtain ⟨b, h1, h2⟩ := R.ow j d2 z
            exact ⟨b, h1, st (.inl j) b d2 ⟨⟨d2, z⟩, h1⟩ (fun z => hne (by injection z)) h2⟩
        · rcases gset z with ⟨_, z, _⟩ | ⟨_, z⟩
          · cases z
          · exact R.pr j k z
        · obtain ⟨b, h1, h2⟩ := R.sow k d2 z
          exact ⟨b, h1, st (.inr k) b d2 ⟨⟨d2, z⟩, h1⟩ (fun z => nomatch z) h2⟩
        · obtain ⟨h1, h2, h3⟩ := R.prot b hb
          exact ⟨h1, by rw [hh b fun z => h3 (.inl i) (z ▸ la)]; exact h2, fun l z => h3 l (loc l b z)⟩
      | val d' => cases h
      | un => cases h
      | par k => cases h
  | par i =>
    obtain ⟨a, e, rfl⟩ := e
    simp only [content] at h
    cases q : Γ.st[i]? with
    | none => rw [q] at h; cases h
    | some c =>
      rw [q] at h
      cases c with
      | own d0 =>
        cases h
        obtain ⟨a, h1, h2⟩ := R.sow i _ q; rw [e] at h1; cases h1
        refine ⟨a, rfl, h2, fun H' d' hh ho => ?_⟩
        have la : LocAt ρ Γ σ (.inr i) a := ⟨⟨d, q⟩, e⟩
        have loc : ∀ l b, LocAt ρ ⟨Γ.sl, Γ.st.set i (.own d')⟩ σ l b → LocAt ρ Γ σ l b := by
          intro l b hb
          cases l with
          | inr j =>
            obtain ⟨⟨d2, z⟩, h1⟩ := hb
            rcases gset z with ⟨rfl, _, _⟩ | ⟨_, z⟩
            · exact ⟨⟨d, q⟩, h1⟩
            · exact ⟨⟨d2, z⟩, h1⟩
          | inl k => exact hb
        have st : ∀ l b d2, LocAt ρ Γ σ l b → l ≠ .inr i → OwnAt K mg F H b d2 → OwnAt K mg F H' b d2 := fun l b d2 hb hn hO =>
          hO.stay (Same.refl _) hO.1 (hh b fun z => hn (R.inj l (.inr i) b hb (z ▸ la)))
        refine ⟨⟨le h2.1 hh, R.len, R.vl, fun j d2 z => ?_, R.pr, by rw [R.plen]; simp [putC], fun k d2 z => ?_, fun k d2 z => ?_, fun l l' b h1 h2 => R.inj l l' b (loc l b h1) (loc l' b h2), fun b hb => ?_⟩, fun b hb => hh b fun z => (R.prot b hb).2.2 (.inr i) (z ▸ la)⟩
        · obtain ⟨b, h1, h2⟩ := R.ow j d2 z
          exact ⟨b, h1, st (.inl j) b d2 ⟨⟨d2, z⟩, h1⟩ (fun z => nomatch z) h2⟩
        · rcases gset z with ⟨rfl, z, _⟩ | ⟨hne, z⟩
          · cases z; exact ⟨a, e, ho⟩
          · obtain ⟨b, h1, h2⟩ := R.sow k d2 z
            exact ⟨b, h1, st (.inr k) b d2 ⟨⟨d2, z⟩, h1⟩ (fun z => hne (by injection z)) h2⟩
        · rcases gset z with ⟨_, z, _⟩ | ⟨_, z⟩
          · cases z
          · exact R.sfz k d2 z
        · obtain ⟨h1, h2, h3⟩ := R.prot b hb
          exact ⟨h1, by rw [hh b fun z => h3 (.inr i) (z ▸ la)]; exact h2, fun l z => h3 l (loc l b z)⟩
      | frz d' => cases h
end
end VS

set_option Elab.async false
set_option linter.all false
set_option maxRecDepth 100000
set_option maxHeartbeats 4000000
namespace VS
open PySem L2

/-- what a step leaves -/
structure Stp (K : PySem.W.Frag) (mg : Str → Option Value) (ρ : List Addr) (O : Addr → Prop) (Γ' : VEnv) (σ' : St) (H F H' F' : Hp) : Prop where
  rep : Rep K mg ρ O Γ' σ' H' F'
  fs : Same F F'
  op : ∀ a, O a → H' a = H a
section
variable (K : PySem.W.Frag) (mg : Str → Option Value)
def tV (m : M) : TE := fun σ H Q => ∃ ρ O Γ F r Γ', Rep K mg ρ O Γ σ H F ∧ m Γ = some (r, Γ') ∧
  ∀ v H' F', Stp K mg ρ O Γ' σ H F H' F' → Cells Γ Γ' → RepEV K mg ρ O Γ' σ H' F' r v → Q v H'
def tB (m : MB) : TT := fun σ H Q => ∃ ρ O Γ F b Γ', Rep K mg ρ O Γ σ H F ∧ m Γ = some (b, Γ') ∧
  ∀ H' F', Stp K mg ρ O Γ' σ H F H' F' → Cells Γ Γ' → Q b H'
/-- the values of a list of arguments, each pending while the next ones are evaluated -/
def RepL (ρ : List Addr) (Γ : VEnv) (σ : St) (H F : Hp) : (Addr → Prop) → List EV → List V → Prop
  | _, [], vs => vs = []
  | O, r :: rs, vs => ∃ v ws, vs = v :: ws ∧ RepEV K mg ρ O Γ σ H F r v ∧ RepL ρ Γ σ H F (orO O (frs r v)) rs ws
def tL (m : ML) : TA := fun σ H Q => ∃ ρ O Γ F rs Γ', Rep K mg ρ O Γ σ H F ∧ m Γ = some (rs, Γ') ∧
  ∀ vs H' F', Stp K mg ρ O Γ' σ H F H' F' → Cells Γ Γ' → RepL K mg ρ Γ' σ H' F' O rs vs → Q vs H'
def FlK (ρ : List Addr) (O : Addr → Prop) (Γ' : VEnv) (H F : Hp) (D : Ends) : Fl → Prop
  | .nx => ∀ σ' H' F', Stp K mg ρ O Γ' σ' H F H' F' → D.nx σ' H'
  | .brk => ∀ σ' H' F', Stp K mg ρ O Γ' σ' H F H' F' → D.bk σ' H'
  | .cont => ∀ σ' H' F', Stp K mg ρ O Γ' σ' H F H' F' → D.ct σ' H'
  | .ret r => ∀ v σ' H' F', Stp K mg ρ O Γ' σ' H F H' F' → RepEV K mg ρ O Γ' σ' H' F' r v → D.rt v H'
def tS (m : MS) : TS := fun D σ H => ∃ ρ O Γ F fl Γ', Rep K mg ρ O Γ σ H F ∧ m Γ = some (fl, Γ') ∧ FlK K mg ρ O Γ' H F D fl
/-- ws: the slots that the target writes -/
def tG (ws : List Nat) (g : MG) : TG := fun v σ H Q => ∃ ρ O Γ F r Γ', Rep K mg ρ O Γ σ H F ∧ RepEV K mg ρ O Γ σ H F r v ∧ g r Γ = some Γ' ∧
  ∀ σ' H' F', Stp K mg ρ O Γ' σ' H F H' F' → (∀ us : List Nat, (∀ i ∈ ws, i ∈ us) → wipe σ' us = wipe σ us) → Q σ' H'
end
abbrev VE (X : Cx) (e : Expr) (m : M) : Prop := PE X e (tV X.K X.mg m)
abbrev VT (X : Cx) (e : Expr) (m : MB) : Prop := PT X e (tB X.K X.mg m)
abbrev VW (X : Cx) (e : Expr) (m : MB) : Prop := PW X e (tB X.K X.mg m)
abbrev VA (X : Cx) (es : List Expr) (m : ML) : Prop := PA X es (tL X.K X.mg m)
abbrev VSt (X : Cx) (st : Stmt) (m : MS) : Prop := PS X st (tS X.K X.mg m)
abbrev VSs (X : Cx) (st : List Stmt) (m : MS) : Prop := PSs X st (tS X.K X.mg m)
abbrev VG (X : Cx) (e : Expr) (ws : List Nat) (g : MG) : Prop := PG X e (tG X.K X.mg ws g)

section
variable {X : Cx} {e : Expr} {es : List Expr} {st : Stmt} {sts : List Stmt}
theorem pe_of {t t' : TE} (h : PE X e t) (f : ∀ σ H Q, t' σ H Q → t σ H Q) : PE X e t' := ⟨fun pins s σ H Q I z => h.run pins s σ H Q I (f σ H Q z)⟩
theorem pt_of {t t' : TT} (h : PT X e t) (f : ∀ σ H Q, t' σ H Q → t σ H Q) : PT X e t' := ⟨fun pins s σ H Q I z => h.run pins s σ H Q I (f σ H Q z)⟩
theorem pw_of {t t' : TT} (h : PW X e t) (f : ∀ σ H Q, t' σ H Q → t σ H Q) : PW X e t' := ⟨fun wh pins s σ H Q I z => h.run wh pins s σ H Q I (f σ H Q z)⟩
theorem pa_of {t t' : TA} (h : PA X es t) (f : ∀ σ H Q, t' σ H Q → t σ H Q) : PA X es t' := ⟨fun p pins s σ H Q I z => h.run p pins s σ H Q I (f σ H Q z)⟩
theorem ps_of {t t' : TS} (h : PS X st t) (f : ∀ D σ H, t' D σ H → t D σ H) : PS X st t' := ⟨fun pins s σ H D I z => h.run pins s σ H D I (f D σ H z)⟩
theorem pss_of {t t' : TS} (h : PSs X sts t) (f : ∀ D σ H, t' D σ H → t D σ H) : PSs X sts t' := ⟨fun pins s σ H D I z => h.run pins s σ H D I (f D σ H z)⟩
theorem pg_of {t t' : TG} (h : PG X e t) (f : ∀ v σ H Q, t' v σ H Q → t v σ H Q) : PG X e t' := ⟨fun pins s σ H v u Q I r z => h.run pins s σ H v u Q I r (f v σ H Q z)⟩
end

section
variable {K : PySem.W.Frag} {mg : Str → Option Value} {ρ : List Addr} {O O' : Addr → Prop} {Γ Γ' Γ1 Γ2 : VEnv} {σ σ' : St} {H F H' F' H1 F1 H2 F2 : Hp} {r ra rb : EV} {v : V} {d : D} {a : Addr}
theorem Stp.refl (R : Rep K mg ρ O Γ σ H F) : Stp K mg ρ O Γ σ H F H F := ⟨R, Same.refl _, fun _ _ => rfl⟩
theorem Stp.trans (s1 : Stp K mg ρ O Γ1 σ H F H1 F1) (s2 : Stp K mg ρ O Γ2 σ' H1 F1 H2 F2) : Stp K mg ρ O Γ2 σ' H F H2 F2 :=
  ⟨s2.rep, s1.fs.trans s2.fs, fun a h => (s2.op a h).trans (s1.op a h)⟩
theorem Stp.weakO (s1 : Stp K mg ρ O Γ1 σ H F H1 F1) (h : ∀ a, O' a → O a) : Stp K mg ρ O' Γ1 σ H F H1 F1 := ⟨s1.rep.weakO h, s1.fs, fun a z => s1.op a (h a z)⟩
theorem Stp.grow (R : Rep K mg ρ O Γ σ H F) (g : Grow F H F' H') : Stp K mg ρ O Γ σ H F H' F' := ⟨R.grow g, g.fs, R.opres g.hs⟩
theorem orO_l : ∀ a, O a → orO O O' a := fun _ h => .inl h

/-- one expression, then what follows -/
theorem tV_run {m : M} {Q : VK} (R : Rep K mg ρ O Γ σ H F) (e : m Γ = some (r, Γ'))
    (k : ∀ v H' F', Stp K mg ρ O Γ' σ H F H' F' → Cells Γ Γ' → RepEV K mg ρ O Γ' σ H' F' r v → Q v H') : tV K mg m σ H Q := ⟨ρ, O, Γ, F, r, Γ', R, e, k⟩
/-- two expressions -/
theorem seq2 {ma mb : M} {Q : V → V → Hp → Prop} (R : Rep K mg ρ O Γ σ H F) (ea : ma Γ = some (ra, Γ1)) (eb : mb Γ1 = some (rb, Γ2))
    (k : ∀ x y H' F', Stp K mg ρ O Γ2 σ H F H' F' → Cells Γ Γ2 → RepEV K mg ρ O Γ2 σ H' F' ra x → RepEV K mg ρ (orO O (frs ra x)) Γ2 σ H' F' rb y → Q x y H') :
    tV K mg ma σ H (fun x H1 => tV K mg mb σ H1 fun y H2 => Q x y H2) :=
  tV_run R ea fun x H1 F1 s1 c1 r1 => by
    refine tV_run (s1.rep.pend r1) eb fun y H2 F2 s2 c2 r2 => ?_
    exact k x y H2 F2 (s1.trans (s2.weakO orO_l)) (c1.trans c2) (r1.later s1.rep s2.rep s2.fs s2.op c2) r2
end
end VS

set_option Elab.async false
set_option linter.all false
set_option maxRecDepth 100000
set_option maxHeartbeats 4000000
namespace VS
open PySem L2

/-! ### results -/
def Res (K : PySem.W.Frag) (mg : Str → Option Value) (F' H H' : Hp) : EV → V → Prop
  | .val d, v => RD K mg F' d v
  | .fresh d, v => ∃ p, v = .ref p ∧ H p = none ∧ OwnAt K mg F' H' p d
  | _, _ => False
def GQ (K : PySem.W.Frag) (mg : Str → Option Value) (F H : Hp) (res : EV) (Q : VK) : Prop := ∀ v H' F', Grow F H F' H' → Res K mg F' H H' res v → Q v H'
section
variable {K : PySem.W.Frag} {mg : Str → Option Value} {ρ : List Addr} {O O' : Addr → Prop} {Γ Γ' Γ1 Γ2 : VEnv} {σ σ' : St} {H F H' F' H1 F1 H2 F2 : Hp} {r ra rb res : EV} {v x y : V} {d e : D} {a p : Addr} {Q : VK}
theorem LocAt.there {l : Nat ⊕ Nat} (R : Rep K mg ρ O Γ σ H F) (h : LocAt ρ Γ σ l a) : H a ≠ none := by
  cases l with
  | inl i => obtain ⟨⟨d, e⟩, h⟩ := h; obtain ⟨b, h1, h2⟩ := R.ow i d e; rw [h] at h1; cases h1; exact h2.there
  | inr i => obtain ⟨⟨d, e⟩, h⟩ := h; obtain ⟨b, h1, h2⟩ := R.sow i d e; rw [h] at h1; cases h1; exact h2.there
theorem res_ev (R : Rep K mg ρ O Γ σ H F) (g : Grow F H F' H') (h : Res K mg F' H H' res v) : RepEV K mg ρ O Γ σ H' F' res v := by
  cases res with
  | val d => exact h
  | fresh d => obtain ⟨p, h1, h2, h3⟩ := h; exact ⟨p, h1, h3, fun z => (R.prot p z).2.1 h2, fun l z => z.there R h2⟩
  | slot i => exact h.elim
  | par k => exact h.elim
/-- nothing was made -/
theorem gq_val (h : Same F H) (k : GQ K mg F H (.val d) Q) (rd : RD K mg F d v) : Q v H := k v H F (Grow.refl h) rd
/-- a new list (tuple) of ours -/
theorem grow_own {o : HO} (h : Same F H) (hn : H p = none) : Grow F H F (upd H p o) where
  hs := fun b o' e => by rw [upd_ne (ne_of_none e hn)]; exact e
  fs := Same.refl _
  le := fun b o' e => by rw [upd_ne (ne_of_none (h b o' e) hn)]; exact h b o' e
  nw := fun a e => .inl e
theorem same_none (h : Same F H) (hn : H p = none) : F p = none := by
  cases q : F p with
  | none => rfl
  | some o => rw [h p o q] at hn; cases hn
theorem gq_list {vs : List V} {ds : List D} (h : Same F H) (k : GQ K mg F H (.fresh (.lst ds)) Q) (rd : RDs K mg F ds vs) : ∀ p, H p = none → Q (.ref p) (upd H p (.lst vs)) :=
  fun p hn => k _ _ F (grow_own h hn) ⟨p, rfl, hn, same_none h hn, vs, upd_same, rd⟩
theorem grow_frz {o : HO} (h : Same F H) (hn : H p = none) : Grow F H (upd F p o) (upd H p o) where
  hs := fun b o' e => by rw [upd_ne (ne_of_none e hn)]; exact e
  fs := fun b o' e => by rw [upd_ne (ne_of_none (h b o' e) hn)]; exact e
  le := fun b o' e => by
    by_cases hb : b = p
    · subst hb; rw [upd_same] at e ⊢; exact e
    · rw [upd_ne hb] at e ⊢; exact h b o' e
  nw := fun a e => by
    by_cases hb : a = p
    · subst hb; exact .inr hn
    · rw [upd_ne hb] at e; exact .inl e
theorem gq_tup {vs : List V} {ds : List D} (h : Same F H) (k : GQ K mg F H (.val (.tup ds)) Q) (rd : RDs K mg F ds vs) : ∀ p, H p = none → Q (.ref p) (upd H p (.tup vs)) :=
  fun p hn => by
    have g : Grow F H (upd F p (.tup vs)) (upd H p (.tup vs)) := grow_frz h hn
    refine k _ _ _ g ?_
    simp only [Res, RD]
    exact ⟨p, vs, rfl, .inl (.inl upd_same), RDs.mono g.fs _ _ rd⟩
end

/-! ### two-place operations -/
def OpV (K : PySem.W.Frag) (mg : Str → Option Value) (r : R2) (g : D → D → Option EV) : Prop :=
  ∀ (F H : Hp) (x y : V) (d e : D) (res : EV) (Q : VK), Same F H → RP K mg F H d x → RP K mg F H e y → g d e = some res → GQ K mg F H res Q → r x y H Q
def OpB (K : PySem.W.Frag) (mg : Str → Option Value) (r : R2) (g : D → D → Option Bool) : Prop :=
  ∀ (F H : Hp) (x y : V) (d e : D) (b : Bool) (Q : VK), Same F H → RP K mg F H d x → RP K mg F H e y → g d e = some b → Q (.bl b) H → r x y H Q
def mBin (g : D → D → Option EV) (a b : M) : M := fun Γ =>
  (a Γ).bind fun p => (b p.2).bind fun q => (peek q.2 p.1).bind fun x => (peek q.2 q.1).bind fun y => (g x y).map fun r => (r, q.2)
def mCmp (g : D → D → Option Bool) (a b : M) : MB := fun Γ =>
  (a Γ).bind fun p => (b p.2).bind fun q => (peek q.2 p.1).bind fun x => (peek q.2 q.1).bind fun y => (g x y).map fun r => (r, q.2)
/-- a test's answer as a value -/
def mOfB (m : MB) : M := fun Γ => (m Γ).map fun p => (.val (.bl p.1), p.2)

theorem obind {α β : Type} {o : Option α} {f : α → Option β} {b : β} (h : o.bind f = some b) : ∃ a, o = some a ∧ f a = some b := by
  cases o with
  | none => cases h
  | some a => exact ⟨a, rfl, h⟩
theorem omap {α β : Type} {o : Option α} {f : α → β} {b : β} (h : o.map f = some b) : ∃ a, o = some a ∧ f a = b := by
  cases o with
  | none => cases h
  | some a => exact ⟨a, rfl, Option.some.inj h⟩

section
variable {X : Cx} {a b c : Expr} {pos : Pos} {ma mb mc : M}
theorem ve_bin {op : Operator} {r : R2} {g : D → D → Option EV} (ho : OpR X (binaryOp op) r) (hv : OpV X.K X.mg r g) (ha : VE X a ma) (hb : VE X b mb) : VE X (.BinOp a op b pos) (mBin g ma mb) := by
  refine pe_of (pe_op ho ha hb) fun σ H Q h => ?_
  obtain ⟨ρ, O, Γ, F, res, Γ', R, e, k⟩ := h
  obtain ⟨⟨ra, Γ1⟩, e1, e⟩ := obind e
  obtain ⟨⟨rb, Γ2⟩, e2, e⟩ := obind e
  obtain ⟨dx, e3, e⟩ := obind e
  obtain ⟨dy, e4, e⟩ := obind e
  obtain ⟨res', e5, e⟩ := omap e
  cases e
  refine seq2 R e1 e2 fun x y H' F' s c rx ry => ?_
  refine hv F' H' x y dx dy res Q s.rep.le (peek_ok s.rep rx e3) (peek_ok s.rep (ry.weakO orO_l) e4) e5 fun v H2 F2 g hr => ?_
  exact k v H2 F2 (s.trans (Stp.grow s.rep g)) c (res_ev s.rep g hr)
theorem seq_cmp {r : R2} {g : D → D → Option Bool} (hv : OpB X.K X.mg r g) {σ : St} {H : Hp} {Q : Bool → Hp → Prop} (h : tB X.K X.mg (mCmp g ma mb) σ H Q) :
    tTest (tOp r (tV X.K X.mg ma) (tV X.K X.mg mb)) σ H Q := by
  obtain ⟨ρ, O, Γ, F, res, Γ', R, e, k⟩ := h
  obtain ⟨⟨ra, Γ1⟩, e1, e⟩ := obind e
  obtain ⟨⟨rb, Γ2⟩, e2, e⟩ := obind e
  obtain ⟨dx, e3, e⟩ := obind e
  obtain ⟨dy, e4, e⟩ := obind e
  obtain ⟨res', e5, e⟩ := omap e
  cases e
  refine seq2 R e1 e2 fun x y H' F' s c rx ry => ?_
  exact hv F' H' x y dx dy res _ s.rep.le (peek_ok s.rep rx e3) (peek_ok s.rep (ry.weakO orO_l) e4) e5 ⟨res, rfl, k H' F' s c⟩
theorem vt_cmp {op : CmpOp} {r : R2} {g : D → D → Option Bool} (ho : OpR X (compareOp op) r) (hv : OpB X.K X.mg r g) (ha : VE X a ma) (hb : VE X b mb) (hm : behindInMarks op b = false) : VT X (.Compare a [op] [b] pos) (mCmp g ma mb) :=
  pt_of (pt_cmpR ho ha hb hm) fun σ H Q h => seq_cmp hv h
theorem ve_cmp {op : CmpOp} {r : R2} {g : D → D → Option Bool} (ho : OpR X (compareOp op) r) (hv : OpB X.K X.mg r g) (ha : VE X a ma) (hb : VE X b mb) (hm : behindInMarks op b = false) : VE X (.Compare a [op] [b] pos) (mOfB (mCmp g ma mb)) := by
  refine pe_of (pe_cmpR ho ha hb hm) fun σ H Q h => ?_
  obtain ⟨ρ, O, Γ, F, res, Γ', R, e, k⟩ := h
  obtain ⟨⟨b1, Γ1⟩, e9, e0⟩ := omap e
  cases e0
  clear e
  obtain ⟨⟨ra, Γ1⟩, e1, e⟩ := obind e9
  obtain ⟨⟨rb, Γ2⟩, e2, e⟩ := obind e
  obtain ⟨dx, e3, e⟩ := obind e
  obtain ⟨dy, e4, e⟩ := obind e
  obtain ⟨res', e5, e⟩ := omap e
  cases e
  refine seq2 R e1 e2 fun x y H' F' s c rx ry => ?_
  exact hv F' H' x y dx dy b1 _ s.rep.le (peek_ok s.rep rx e3) (peek_ok s.rep (ry.weakO orO_l) e4) e5 (k _ H' F' s c (by simp only [RepEV, RD]))
/-- an expression whose value is True or False, as a test -/
def mTest (m : M) : MB := fun Γ => (m Γ).bind fun p => match p.1 with
  | .val (.bl b) => some (b, p.2)
  | _ => none
theorem vt_val (h : VE X a ma) (he : ∀ whole, isTrue a X.env whole = (do let v ← whole; standAt a.pos; holding [v] (truthy v)) := by intro _; rfl) : VT X a (mTest ma) := by
  refine pt_of (pt_val h he) fun σ H Q h => ?_
  obtain ⟨ρ, O, Γ, F, b, Γ', R, e, k⟩ := h
  obtain ⟨⟨r, Γ1⟩, e1, e⟩ := obind e
  refine tV_run R e1 fun v H' F' s c rv => ?_
  cases r with
  | val d =>
    cases d with
    | bl b' =>
      cases e
      have rv' : v = .bl b := by simpa only [RepEV, RD] using rv
      exact ⟨b, rv', k H' F' s c⟩
    | _ => cases e
  | fresh d => cases e
  | slot i => cases e
  | par i => cases e
/-! ### and, or, not, if -/
def mAnd (a b : MB) : MB := fun Γ => (a Γ).bind fun p => if p.1 = true then b p.2 else some (false, p.2)
def mOr (a b : MB) : MB := fun Γ => (a Γ).bind fun p => if p.1 = true then some (true, p.2) else b p.2
def mNot (a : MB) : MB := fun Γ => (a Γ).map fun p => (!p.1, p.2)
def mIf (t : MB) (a b : M) : M := fun Γ => (t Γ).bind fun p => if p.1 = true then a p.2 else b p.2
variable {ba bb : MB} {rest : List Expr}
theorem tB_run {K : PySem.W.Frag} {mg : Str → Option Value} {ρ : List Addr} {O : Addr → Prop} {Γ Γ' : VEnv} {σ : St} {H F : Hp} {k : Bool} {m : MB} {Q : Bool → Hp → Prop} (R : Rep K mg ρ O Γ σ H F) (e : m Γ = some (k, Γ'))
    (h : ∀ H' F', Stp K mg ρ O Γ' σ H F H' F' → Cells Γ Γ' → Q k H') : tB K mg m σ H Q := ⟨ρ, O, Γ, F, k, Γ', R, e, h⟩
theorem vw_and1 (ha : VT X a ba) : VW X (.BoolOp .And [a] pos) ba := pw_and1 ha
theorem vw_or1 (ha : VT X a ba) : VW X (.BoolOp .Or [a] pos) ba := pw_or1 ha
theorem vw_and (ha : VT X a ba) (hb : VW X (.BoolOp .And (b :: rest) pos) bb) : VW X (.BoolOp .And (a :: b :: rest) pos) (mAnd ba bb) := by
  refine pw_of (pw_and ha hb) fun σ H Q h => ?_
  obtain ⟨ρ, O, Γ, F, r, Γ', R, e, k⟩ := h
  obtain ⟨⟨r1, Γ1⟩, e1, e⟩ := obind e
  refine tB_run R e1 fun H1 F1 s1 c1 => ?_
  cases r1 with
  | true =>
    refine iteT ?_
    exact tB_run s1.rep e fun H2 F2 s2 c2 => k H2 F2 (s1.trans s2) (c1.trans c2)
  | false => cases e; exact iteF (k H1 F1 s1 c1)
theorem vw_or (ha : VT X a ba) (hb : VW X (.BoolOp .Or (b :: rest) pos) bb) : VW X (.BoolOp .Or (a :: b :: rest) pos) (mOr ba bb) := by
  refine pw_of (pw_or ha hb) fun σ H Q h => ?_
  obtain ⟨ρ, O, Γ, F, r, Γ', R, e, k⟩ := h
  obtain ⟨⟨r1, Γ1⟩, e1, e⟩ := obind e
  refine tB_run R e1 fun H1 F1 s1 c1 => ?_
  cases r1 with
  | false =>
    refine iteF ?_
    exact tB_run s1.rep e fun H2 F2 s2 c2 => k H2 F2 (s1.trans s2) (c1.trans c2)
  | true => cases e; exact iteT (k H1 F1 s1 c1)
theorem vt_w (h : VW X a ba) : VT X a ba := h.pt
theorem vt_not (ha : VT X a ba) : VT X (.UnaryOp .Not a pos) (mNot ba) := by
  refine pt_of (pt_not ha) fun σ H Q h => ?_
  obtain ⟨ρ, O, Γ, F, r, Γ', R, e, k⟩ := h
  obtain ⟨⟨r1, Γ1⟩, e1, e⟩ := omap e
  cases e
  exact tB_run R e1 k
/-- as values -/
theorem ve_and (ha : VE X a (mOfB ba)) (hb : VE X (.BoolOp .And (b :: rest) pos) (mOfB bb)) : VE X (.BoolOp .And (a :: b :: rest) pos) (mOfB (mAnd ba bb)) := by
  refine pe_of (pe_and ha hb) fun σ H Q h => ?_
  obtain ⟨ρ, O, Γ, F, r, Γ', R, e, k⟩ := h
  obtain ⟨⟨r2, Γ2⟩, e9, e0⟩ := omap e
  cases e0
  clear e
  obtain ⟨⟨r1, Γ1⟩, e1, e⟩ := obind e9
  refine tV_run R (r := .val (.bl r1)) (Γ' := Γ1) (by simp only [mOfB, e1, Option.map_some]) fun v H1 F1 s1 c1 rv => ?_
  have rv' : v = .bl r1 := by simpa only [RepEV, RD] using rv
  refine ⟨r1, rv', ?_⟩
  cases r1 with
  | true =>
    refine iteT ?_
    have e' : bb Γ1 = some (r2, Γ2) := e
    exact tV_run s1.rep (r := .val (.bl r2)) (Γ' := Γ2) (by simp only [mOfB, e', Option.map_some]) fun v H2 F2 s2 c2 => k v H2 F2 (s1.trans s2) (c1.trans c2)
  | false => cases e; exact iteF (k _ H1 F1 s1 c1 (by simp only [RepEV, RD]))
theorem ve_or (ha : VE X a (mOfB ba)) (hb : VE X (.BoolOp .Or (b :: rest) pos) (mOfB bb)) : VE X (.BoolOp .Or (a :: b :: rest) pos) (mOfB (mOr ba bb)) := by
  refine pe_of (pe_or ha hb) fun σ H Q h => ?_
  obtain ⟨ρ, O, Γ, F, r, Γ', R, e, k⟩ := h
  obtain ⟨⟨r2, Γ2⟩, e9, e0⟩ := omap e
  cases e0
  clear e
  obtain ⟨⟨r1, Γ1⟩, e1, e⟩ := obind e9
  refine tV_run R (r := .val (.bl r1)) (Γ' := Γ1) (by simp only [mOfB, e1, Option.map_some]) fun v H1 F1 s1 c1 rv => ?_
  have rv' : v = .bl r1 := by simpa only [RepEV, RD] using rv
  refine ⟨r1, rv', ?_⟩
  cases r1 with
  | false =>
    refine iteF ?_
    have e' : bb Γ1 = some (r2, Γ2) := e
    exact tV_run s1.rep (r := .val (.bl r2)) (Γ' := Γ2) (by simp only [mOfB, e', Option.map_some]) fun v H2 F2 s2 c2 => k v H2 F2 (s1.trans s2) (c1.trans c2)
  | true => cases e; exact iteT (k _ H1 F1 s1 c1 (by simp only [RepEV, RD]))
theorem ve_one {op} {m : M} (h : VE X a m) : VE X (.BoolOp op [a] pos) m := pe_one h
theorem ve_not (ha : VE X a (mOfB ba)) : VE X (.UnaryOp .Not a pos) (mOfB (mNot ba)) := by
  refine pe_of (pe_not ha) fun σ H Q h => ?_
  obtain ⟨ρ, O, Γ, F, r, Γ', R, e, k⟩ := h
  obtain ⟨⟨r2, Γ2⟩, e9, e0⟩ := omap e
  cases e0
  clear e
  obtain ⟨⟨r1, Γ1⟩, e1, e⟩ := omap e9
  cases e
  refine tV_run R (r := .val (.bl r1)) (Γ' := Γ1) (by simp only [mOfB, e1, Option.map_some]) fun v H1 F1 s1 c1 rv => ?_
  have rv' : v = .bl r1 := by simpa only [RepEV, RD] using rv
  exact ⟨r1, rv', k _ H1 F1 s1 c1 (by simp only [RepEV, RD])⟩
/-- any value that is True or False, as the answer of a test -/
theorem ve_ofTest {m : M} (h : VE X a m) : VE X a (mOfB (mTest m)) := by
  refine pe_of h fun σ H Q h => ?_
  obtain ⟨ρ, O, Γ, F, r, Γ', R, e, k⟩ := h
  obtain ⟨⟨r2, Γ2⟩, e9, e0⟩ := omap e
  cases e0
  clear e
  obtain ⟨⟨r1, Γ1⟩, e1, e⟩ := obind e9
  refine tV_run R e1 fun v H1 F1 s1 c1 rv => ?_
  cases r1 with
  | val d =>
    cases d with
    | bl b' => cases e; exact k v H1 F1 s1 c1 rv
    | _ => cases e
  | fresh d => cases e
  | slot i => cases e
  | par i => cases e
theorem ve_if {t : MB} (hc : VT X c t) (ha : VE X a ma) (hb : VE X b mb) : VE X (.IfExp c a b pos) (mIf t ma mb) := by
  refine pe_of (pe_ifExp hc ha hb) fun σ H Q h => ?_
  obtain ⟨ρ, O, Γ, F, r, Γ', R, e, k⟩ := h
  obtain ⟨⟨r1, Γ1⟩, e1, e⟩ := obind e
  refine tB_run R e1 fun H1 F1 s1 c1 => ?_
  cases r1 with
  | true => exact iteT (tV_run s1.rep e fun v H2 F2 s2 c2 => k v H2 F2 (s1.trans s2) (c1.trans c2))
  | false => exact iteF (tV_run s1.rep e fun v H2 F2 s2 c2 => k v H2 F2 (s1.trans s2) (c1.trans c2))
/-! ### names, constants -/
def mVar (i : Nat) : M := fun Γ => match Γ.sl[i]? with
  | some (.val d) => some (.val d, Γ)
  | some (.own _) => some (.slot i, Γ)
  | some (.par k) => some (.par k, Γ)
  | _ => none
def mC (d : D) : M := fun Γ => some (.val d, Γ)
theorem ve_var (i : Nat) {x : Str} {pos : Pos} (hN : X.N[i]? = some x := by rfl) (hv : Vis X.env.scope x := by first | exact Or.inl rfl | exact Or.inr (Or.inl rfl) | exact Or.inr (Or.inr rfl)) (hd : (x == ("__debug__" : Str)) = false := by decide)
    (hcd : (x == ("__classdict__" : Str)) = false := by decide) : VE X (.Name x pos) (mVar i) := by
  refine pe_of (pe_var hN hv hd hcd) fun σ H Q h => ?_
  obtain ⟨ρ, O, Γ, F, r, Γ', R, e, k⟩ := h
  simp only [mVar] at e
  cases q : Γ.sl[i]? with
  | none => rw [q] at e; cases e
  | some c =>
    rw [q] at e
    cases c with
    | un => cases e
    | val d => cases e; obtain ⟨v, h1, h2⟩ := R.vl i d q; exact ⟨v, h1, k v H F (Stp.refl R) Cells.refl h2⟩
    | own d => cases e; obtain ⟨a, h1, h2⟩ := R.ow i d q; exact ⟨_, h1, k _ H F (Stp.refl R) Cells.refl ⟨h1, trivial⟩⟩
    | par j => cases e; obtain ⟨a, h1, h2⟩ := R.pr i j q; exact ⟨_, h2, k _ H F (Stp.refl R) Cells.refl ⟨a, h1, rfl⟩⟩
theorem ve_const {v : V} {d : D} (h : PE X a (tC v)) (rd : ∀ F, RD X.K X.mg F d v) : VE X a (mC d) := by
  refine pe_of h fun σ H Q h => ?_
  obtain ⟨ρ, O, Γ, F, r, Γ', R, e, k⟩ := h
  cases e
  exact k v H F (Stp.refl R) Cells.refl (rd F)
theorem ve_int {i j pos} : VE X (.Constant (.int i) j pos) (mC (.int i)) := ve_const pe_int fun F => by simp only [RD]
theorem ve_bl {i j pos} : VE X (.Constant (.bool i) j pos) (mC (.bl i)) := ve_const pe_bl fun F => by simp only [RD]
theorem ve_non {j pos} : VE X (.Constant .none j pos) (mC .non) := ve_const pe_non fun F => by simp only [RD]
theorem ve_str {x : Str} {j pos} (s : List Nat) (h : x = ⟨s.toArray⟩ := by decide +kernel) (ok : OkS s := by decide) : VE X (.Constant (.str x) j pos) (mC (.str s)) := ve_const pe_str fun F => by simp only [RD]; exact ⟨by rw [h], ok⟩
/-- a constant of the module: an int, a text -/
theorem ve_gint {x : Str} {i : Int} {t : Tok} (hm : X.mg x = some (.int i t)) (hg : Gl X x := by rfl) (hd : (x == ("__debug__" : Str)) = false := by decide) : VE X (.Name x pos) (mC (.int i)) :=
  ve_const (v := .int i) (pe_glob hg hm ⟨t, rfl⟩ hd) fun F => by simp only [RD]
theorem ve_gstr {x y : Str} {t : Tok} (s : List Nat) (hm : X.mg x = some (.str y t)) (h : y = ⟨s.toArray⟩ := by decide +kernel) (ok : OkS s := by decide) (hg : Gl X x := by rfl) (hd : (x == ("__debug__" : Str)) = false := by decide) : VE X (.Name x pos) (mC (.str s)) :=
  ve_const (v := .str y) (pe_glob hg hm ⟨t, rfl⟩ hd) fun F => by simp only [RD]; exact ⟨by rw [h], ok⟩
end
end VS

set_option Elab.async false
set_option linter.all false
set_option maxRecDepth 100000
set_option maxHeartbeats 4000000
namespace VS
open PySem L2 PyProof.Rows

section
variable {K : PySem.W.Frag} {mg : Str → Option Value} {F H : Hp} {v x : V} {d : D} {ds : List D} {s : List Nat} {i : Int} {b : Bool}
theorem RP.mono (h : Same F H) (r : RP K mg F H d v) (hd : ∀ xs, d ≠ .lst xs) (hd2 : ∀ xs, d ≠ .dict xs) : RD K mg F d v := by
  rcases r with r | ⟨a, _, _, r⟩
  · exact r
  · cases d <;> simp only at r
    · exact absurd rfl (hd _)
    · exact absurd rfl (hd2 _)
theorem RP.int (r : RP K mg F H (.int i) v) : v = .int i := by
  rcases r with r | ⟨a, _, _, r⟩
  · simpa only [RD] using r
  · simp only at r
theorem RP.bl (r : RP K mg F H (.bl b) v) : v = .bl b := by
  rcases r with r | ⟨a, _, _, r⟩
  · simpa only [RD] using r
  · simp only at r
theorem RP.non (r : RP K mg F H .non v) : v = .non := by
  rcases r with r | ⟨a, _, _, r⟩
  · simpa only [RD] using r
  · simp only at r
theorem RP.str (r : RP K mg F H (.str s) v) : v = .str ⟨s.toArray⟩ ∧ OkS s := by
  rcases r with r | ⟨a, _, _, r⟩
  · simpa only [RD] using r
  · simp only at r
theorem RP.tup (h : Same F H) (r : RP K mg F H (.tup ds) v) : ∃ a vs, v = .ref a ∧ SqT K H a vs ∧ RDs K mg F ds vs := by
  rcases r with r | ⟨a, _, _, r⟩
  · simp only [RD] at r
    obtain ⟨a, vs, e1, e2, e3⟩ := r
    refine ⟨a, vs, e1, ?_, e3⟩
    rcases e2 with (e2 | ⟨o, e2⟩) | e2
    · exact .inl (.inl (h _ _ e2))
    · exact .inl (.inr ⟨o, h _ _ e2⟩)
    · exact .inr e2
  · simp only at r
theorem RP.lst (h : Same F H) (r : RP K mg F H (.lst ds) v) : ∃ a vs, v = .ref a ∧ SqL K H a vs ∧ RDs K mg F ds vs := by
  rcases r with r | ⟨a, e, _, r⟩
  · simp only [RD] at r
    obtain ⟨a, vs, e1, e2, e3⟩ := r
    exact ⟨a, vs, e1, h.seq e2, e3⟩
  · simp only at r
    obtain ⟨vs, e1, e2⟩ := r
    exact ⟨a, vs, e, .inl (.inl e1), e2⟩
theorem RDs.length : ∀ {ds : List D} {vs : List V}, RDs K mg F ds vs → ds.length = vs.length
  | [], vs, h => by simp only [RDs] at h; rw [h]; rfl
  | d :: ds, vs, h => by
    simp only [RDs] at h
    obtain ⟨v, r, rfl, _, h⟩ := h
    simp only [List.length_cons, RDs.length h]
theorem RDs.append : ∀ {ds es : List D} {vs ws : List V}, RDs K mg F ds vs → RDs K mg F es ws → RDs K mg F (ds ++ es) (vs ++ ws)
  | [], es, vs, ws, h, g => by simp only [RDs] at h; rw [h]; exact g
  | d :: ds, es, vs, ws, h, g => by
    simp only [RDs] at h
    obtain ⟨v, r, rfl, h1, h2⟩ := h
    simp only [List.cons_append, RDs]
    exact ⟨v, r ++ ws, rfl, h1, RDs.append h2 g⟩
theorem RDs.get : ∀ {ds : List D} {vs : List V} {i : Nat} {d : D}, RDs K mg F ds vs → ds[i]? = some d → ∃ v, vs[i]? = some v ∧ RD K mg F d v
  | [], vs, i, d, h, e => by simp at e
  | d' :: ds, vs, 0, d, h, e => by
    simp only [RDs] at h
    obtain ⟨v, r, rfl, h1, h2⟩ := h
    simp at e; subst e
    exact ⟨v, rfl, h1⟩
  | d' :: ds, vs, i + 1, d, h, e => by
    simp only [RDs] at h
    obtain ⟨v, r, rfl, h1, h2⟩ := h
    obtain ⟨w, h3, h4⟩ := RDs.get (i := i) h2 (by simpa using e)
    exact ⟨w, by simpa using h3, h4⟩
theorem RDs.set : ∀ {ds : List D} {vs : List V} {d : D} {v : V} (i : Nat), RDs K mg F ds vs → RD K mg F d v → RDs K mg F (ds.set i d) (vs.set i v)
  | [], vs, d, v, i, h, e => by simp only [RDs] at h; subst h; simp [RDs]
  | d' :: ds, vs, d, v, 0, h, e => by
    simp only [RDs] at h
    obtain ⟨w, r, rfl, h1, h2⟩ := h
    simp only [List.set_cons_zero, RDs]
    exact ⟨v, r, rfl, e, h2⟩
  | d' :: ds, vs, d, v, i + 1, h, e => by
    simp only [RDs] at h
    obtain ⟨w, r, rfl, h1, h2⟩ := h
    simp only [List.set_cons_succ, RDs]
    exact ⟨w, _, rfl, h1, RDs.set i h2 e⟩
theorem RDs.take : ∀ {ds : List D} {vs : List V} (n : Nat), RDs K mg F ds vs → RDs K mg F (ds.take n) (vs.take n)
  | _, _, 0, _ => by simp [RDs]
  | [], vs, n + 1, h => by simp only [RDs] at h; subst h; simp [RDs]
  | d :: ds, vs, n + 1, h => by
    simp only [RDs] at h
    obtain ⟨v, r, rfl, h1, h2⟩ := h
    simp only [List.take_succ_cons, RDs]
    exact ⟨v, _, rfl, h1, RDs.take n h2⟩
theorem RDs.drop : ∀ {ds : List D} {vs : List V} (n : Nat), RDs K mg F ds vs → RDs K mg F (ds.drop n) (vs.drop n)
  | _, _, 0, h => by simpa using h
  | [], vs, n + 1, h => by simp only [RDs] at h; subst h; simp [RDs]
  | d :: ds, vs, n + 1, h => by
    simp only [RDs] at h
    obtain ⟨v, r, rfl, h1, h2⟩ := h
    simp only [List.drop_succ_cons]
    exact RDs.drop n h2
theorem RDs.rev {ds : List D} {vs : List V} (h : RDs K mg F ds vs) : RDs K mg F ds.reverse vs.reverse := by
  induction ds generalizing vs with
  | nil => simp only [RDs] at h; subst h; simp [RDs]
  | cons d ds ih =>
    simp only [RDs] at h
    obtain ⟨v, r, rfl, h1, h2⟩ := h
    rw [List.reverse_cons, List.reverse_cons]
    exact (ih h2).append (by simp only [RDs]; exact ⟨v, [], rfl, h1, rfl⟩)
theorem RDs.ints : ∀ {ns : List Int} {vs : List V}, RDs K mg F (ns.map D.int) vs → vs = ns.map V.int
  | [], vs, h => by simpa [RDs] using h
  | n :: ns, vs, h => by
    simp only [List.map_cons, RDs, RD] at h
    obtain ⟨v, r, rfl, rfl, h⟩ := h
    rw [RDs.ints h]; rfl
theorem RDs.bls : ∀ {ns : List Bool} {vs : List V}, RDs K mg F (ns.map D.bl) vs → vs = ns.map V.bl
  | [], vs, h => by simpa [RDs] using h
  | n :: ns, vs, h => by
    simp only [List.map_cons, RDs, RD] at h
    obtain ⟨v, r, rfl, rfl, h⟩ := h
    rw [RDs.bls h]; rfl
theorem RDs.nil_iff {vs : List V} (h : RDs K mg F ds vs) : vs = [] ↔ ds = [] := by
  have := h.length
  cases ds <;> cases vs <;> simp_all
end

/-! ### ints, texts, lists, tuples: + - * // % ** -/
def smallI (i : Int) : Bool := decide (i.natAbs / 18446744073709551616 = 0)
theorem smallI_iff {i : Int} : smallI i = true ↔ i.natAbs < 2 ^ 64 := by
  simp only [smallI, decide_eq_true_eq]
  rw [Nat.div_eq_zero_iff]
  constructor
  · rintro (h | h)
    · cases h
    · exact h
  · intro h; exact .inr h
def mulOk (i j : Int) : Bool := smallI i || smallI j || decide (i.natAbs.log2 + j.natAbs.log2 < 1000000)
def powOk (i j : Int) : Bool := decide (0 ≤ j) && decide (Builtin.Int.intBits i * j.toNat / 134217729 = 0)
theorem powOk_iff {i j : Int} (h : powOk i j = true) : 0 ≤ j ∧ (Builtin.Int.intBits i : Int) * j ≤ 2 ^ 27 := by
  simp only [powOk, Bool.and_eq_true, decide_eq_true_eq] at h
  obtain ⟨h1, h2⟩ := h
  refine ⟨h1, ?_⟩
  rw [Nat.div_eq_zero_iff] at h2
  have h3 : Builtin.Int.intBits i * j.toNat < 134217729 := by
    rcases h2 with h | h
    · cases h
    · exact h
  have e : j = (j.toNat : Int) := by omega
  rw [e]
  have h4 : ((Builtin.Int.intBits i * j.toNat : Nat) : Int) ≤ 134217728 := by omega
  have h5 : (2 ^ 27 : Int) = 134217728 := by decide
  rw [h5, ← Int.natCast_mul]
  exact h4
def addD : D → D → Option EV
  | .int i, .int j => some (.val (.int (i + j)))
  | .int i, .bl k => some (.val (.int (i + if k then 1 else 0)))
  | .str s, .str t => if s.length + t.length ≤ sizeLine then some (.val (.str (s ++ t))) else none
  | .lst xs, .lst ys => if xs.length + ys.length ≤ sizeLine then some (.fresh (.lst (xs ++ ys))) else none
  | .tup xs, .tup ys => if xs.length + ys.length ≤ sizeLine then some (.val (.tup (xs ++ ys))) else none
  | _, _ => none
def subD : D → D → Option EV
  | .int i, .int j => some (.val (.int (i - j)))
  | _, _ => none
def mulD : D → D → Option EV
  | .int i, .int j => if mulOk i j = true then some (.val (.int (i * j))) else none
  | .str s, .int j => if j ≤ 1000 ∧ -1000 ≤ j ∧ s.length ≤ 1000 then some (.val (.str (List.replicate j.toNat s).flatten)) else none
  | .tup xs, .int k => if xs ≠ [] ∧ 2 ≤ k ∧ k ≤ 1000 ∧ xs.length ≤ 1000 then some (.val (.tup (List.replicate k.toNat xs).flatten)) else none
  | _, _ => none
def fdivD : D → D → Option EV
  | .int i, .int j => if 0 < j ∧ j.natAbs.log2 < 9000 then some (.val (.int (i / j))) else none
  | _, _ => none
def modD : D → D → Option EV
  | .int i, .int j => if 0 < j then some (.val (.int (i % j))) else none
  | _, _ => none
def powD : D → D → Option EV
  | .int i, .int j => if powOk i j = true then some (.val (.int (i ^ j.toNat))) else none
  | _, _ => none

theorem OkS.app {s t : List Nat} (hs : OkS s) (ht : OkS t) (h : s.length + t.length ≤ sizeLine) : OkS (s ++ t) :=
  ⟨by rw [List.length_append]; exact h, fun c hc => (List.mem_append.mp hc).elim (hs.2 c) (ht.2 c)⟩

/-- list + list, whatever they are -/
def rCatG (K : PySem.W.Frag) : R2 := fun x y H Q => ∃ l b xs zs, x = .ref l ∧ y = .ref b ∧ SqL K H l xs ∧ SqL K H b zs ∧ xs.length + zs.length ≤ sizeLine ∧ ∀ p, H p = none → Q (.ref p) (upd H p (.lst (xs ++ zs)))
section
variable {X : Cx}
theorem op_catG : OpR X (binaryOp .Add) (rCatG X.K) := by
  intro pins s σ H x y v u Q I rx ry h
  obtain ⟨l, b, xs, zs, rfl, rfl, hH, hB, hz, q⟩ := h
  cases rx
  cases ry
  obtain ⟨its, r, ⟨⟨cls, dd, data, sl⟩, n, e, hc, _, hd⟩, _⟩ := I.list hH
  obtain ⟨its2, r2, ⟨⟨cls2, dd2, data2, sl2⟩, n2, e2, hc2, _, hd2⟩, _⟩ := I.list hB
  simp only at hc hd hc2 hd2
  subst hc hd hc2 hd2
  have h1 := r.length
  have h2 := r2.length
  have ea : its.toArray ++ its2.toArray = (its ++ its2).toArray := by simp
  refine concat_meets ⟨_, e, rfl⟩ ⟨_, e2, rfl⟩ PySem.noFill_list_add PySem.seq_list_add PySem.F.slot_list_add PySem.F.entry_list_add (PySem.F.args_list_add_2 _ _) (list_addW l b its.toArray its2.toArray n n2 dd dd2 sl sl2 (by simp only [List.size_toArray]; omega)) ⟨e, e2, ?_⟩
  rw [ea]
  exact ⟨.ref _, _, I.lnew (t' := s.toks) (r.append r2) (by rw [List.length_append]; omega), rfl, q _ I.fresh⟩
theorem op_powG : OpR X (binaryOp .Pow) (rI (fun i j => 0 ≤ j ∧ (Builtin.Int.intBits i : Int) * j ≤ 2 ^ 27) fun i j => .int (i ^ j.toNat)) := opI fun _ _ _ _ _ _ _ hc q => pow_int hc.1 hc.2 q
def CMulG (i j : Int) : Prop := mulOk i j = true
theorem op_mulG : OpR X (binaryOp .Mult) (rI CMulG fun i j => .int (i * j)) := opI fun i j _ _ _ _ _ hc q => by
  have hc' : mulOk i j = true := hc
  simp only [mulOk, smallI_iff, Bool.or_eq_true, decide_eq_true_eq] at hc'
  refine mul_int q ?_
  rcases hc' with (h | h) | h
  · exact CMul.ok (.inl ⟨by omega, by omega⟩)
  · exact CMul.ok (.inr ⟨by omega, by omega⟩)
  · exact CMulW.ok h
/-- text * int -/
def rRepS : R2 := fun x y H Q => ∃ z k, x = .str z ∧ y = .int k ∧ -(2 ^ 63) ≤ k ∧ k ≤ 1000 ∧ z.length ≤ 1000 ∧ Q (.str ⟨(List.replicate k.toNat z.cps.toList).flatten.toArray⟩) H
theorem rep_flat (z : Array Nat) (n : Nat) : (List.replicate n z).foldl (· ++ ·) #[] = (List.replicate n z.toList).flatten.toArray := by
  have f : ∀ (m : Nat) (acc : List Nat), (List.replicate m z).foldl (· ++ ·) acc.toArray = (acc ++ (List.replicate m z.toList).flatten).toArray := by
    intro m
    induction m with
    | zero => intro acc; simp
    | succ m ih =>
      intro acc
      rw [List.replicate_succ, List.foldl_cons, List.replicate_succ, List.flatten_cons, ← List.append_assoc, ← ih]
      congr 1
      apply Array.ext'
      simp
  have := f n []
  simpa using this
theorem op_repS : OpR X (binaryOp .Mult) rRepS := by
  intro pins s σ H x y v u Q I rx ry h
  obtain ⟨z, k, rfl, rfl, h1, h2, h3, q⟩ := h
  obtain ⟨t, rfl⟩ := rx
  obtain ⟨t', rfl⟩ := ry
  have hlen : z.length = z.cps.toList.length := by simp [Str.length]
  refine PySem.P.mul_str ?_ ?_ ?_ ?_
  · rw [decide_eq_false (by omega), decide_eq_false (by omega)]; rfl
  · intro hk _
    have h0 : (0 : Int) < k := by omega
    intro z2
    have : (2 ^ 63 - 1 : Int) / k ≥ (2 ^ 63 - 1) / 1000 := by
      apply Int.le_ediv_of_mul_le h0
      have : ((2 ^ 63 - 1 : Int) / 1000) * k ≤ ((2 ^ 63 - 1) / 1000) * 1000 := Int.mul_le_mul_of_nonneg_left h2 (by decide)
      omega
    have e : ((2 ^ 63 - 1 : Int)) / 1000 = 9223372036854775 := by decide
    omega
  · intro hk _
    have hm : z.length * k.toNat ≤ 1000 * 1000 := Nat.mul_le_mul h3 (by omega)
    unfold Builtin.Str.tooLong
    exact decide_eq_false (by have : sizeLine = 16777216 := by decide
                              omega)
  · by_cases hk : k < 1
    · rw [if_pos hk]
      have e : k.toNat = 0 := by omega
      rw [e] at q
      exact ⟨by decide, .str Str.empty, H, I.tok _, ⟨_, rfl⟩, q⟩
    · rw [if_neg hk]
      have hq : ∀ t'' s'', Inv X pins σ H s'' → EP X pins σ Q (.str ⟨(List.replicate k.toNat z.cps.toList).flatten.toArray⟩ t'') s'' := fun t'' s'' I' => ⟨.str _, H, I', ⟨t'', rfl⟩, q⟩
      by_cases h1' : (k == 1 || z.length == 0) = true
      · rw [if_pos h1']
        have e : (⟨(List.replicate k.toNat z.cps.toList).flatten.toArray⟩ : Str) = z := by
          rw [Bool.or_eq_true] at h1'
          rcases h1' with h1' | h1'
          · have : k = 1 := by simpa using h1'
            subst this
            simp
          · have hz : z.cps.toList = [] := by
              have : z.length = 0 := by simpa using h1'
              exact List.eq_nil_of_length_eq_zero (by omega)
            rw [hz]
            have hz2 : z = ⟨#[]⟩ := by
              cases z with
              | mk c => congr 1; apply Array.ext'; simpa using hz
            rw [hz2]
            have : ∀ n, (List.replicate n ([] : List Nat)).flatten = [] := by intro n; induction n with
              | zero => rfl
              | succ n ih => rw [List.replicate_succ, List.flatten_cons, ih]; rfl
            rw [this]
        rw [e] at q
        exact ⟨.str z, H, I, ⟨_, rfl⟩, q⟩
      · rw [if_neg h1', rep_flat]
        have hm : z.length * k.toNat ≤ 1000 * 1000 := Nat.mul_le_mul h3 (by omega)
        exact ⟨by
          show (List.replicate k.toNat z.cps.toList).flatten.toArray.size ≤ _
          rw [List.size_toArray, lm_len_rep_flat, ← hlen]
          have : sizeLine = 16777216 := by decide
          first
            | omega
            | (rw [Nat.mul_comm]; omega), hq _ _ (I.tok _)⟩
end

/-! ### the operators by data -/
section
variable {K : PySem.W.Frag} {mg : Str → Option Value}
theorem ov_add_int : OpV K mg (rI0 fun i j => .int (i + j)) fun d e => match d, e with
    | .int i, .int j => some (.val (.int (i + j)))
    | _, _ => none := by
  intro F H x y d e res Q hl rx ry h k
  cases d <;> cases e <;> simp only at h <;> cases h
  exact ⟨_, _, rx.int, ry.int, gq_val hl k (by simp only [RD])⟩
end
theorem flat_rep {α : Type} (n : Nat) (s : List α) : (List.replicate n s).flatten.length = n * s.length := by
  rw [lm_len_rep_flat]
section
variable {X : Cx}
/-- an operation by data, given a rule for each kind of data -/
def OpX (X : Cx) (f : Value → Value → Sem Value) (g : D → D → Option EV) : Prop :=
  ∃ r, OpR X f r ∧ OpV X.K X.mg r g
theorem opx_or {f : Value → Value → Sem Value} {g g1 g2 : D → D → Option EV} (h1 : OpX X f g1) (h2 : OpX X f g2) (h : ∀ d e r, g d e = some r → g1 d e = some r ∨ g2 d e = some r) : OpX X f g := by
  obtain ⟨r1, a1, b1⟩ := h1
  obtain ⟨r2, a2, b2⟩ := h2
  refine ⟨_, a1.or a2, fun F H x y d e res Q hl rx ry hg k => ?_⟩
  rcases h d e res hg with z | z
  · exact .inl (b1 F H x y d e res Q hl rx ry z k)
  · exact .inr (b2 F H x y d e res Q hl rx ry z k)
def gII (C : Int → Int → Bool) (f : Int → Int → Int) : D → D → Option EV
  | .int i, .int j => if C i j = true then some (.val (.int (f i j))) else none
  | _, _ => none
theorem opx_int {f : Value → Value → Sem Value} {C : Int → Int → Prop} {g : Int → Int → Int} {c : Int → Int → Bool} (h : OpR X f (rI C fun i j => .int (g i j))) (hc : ∀ i j, c i j = true → C i j) : OpX X f (gII c g) := by
  refine ⟨_, h, fun F H x y d e res Q hl rx ry hg k => ?_⟩
  cases d <;> cases e <;> simp only [gII] at hg <;> first
    | cases hg; done
    | (rename_i i j
       by_cases z : c i j = true
       · rw [if_pos z] at hg
         cases hg
         exact ⟨_, _, rx.int, ry.int, hc i j z, gq_val hl k (by simp only [RD])⟩
       · rw [if_neg z] at hg; cases hg)
theorem opx_int0 {f : Value → Value → Sem Value} {g : Int → Int → Int} (h : OpR X f (rI0 fun i j => .int (g i j))) : OpX X f (gII (fun _ _ => true) g) := by
  refine ⟨_, h, fun F H x y d e res Q hl rx ry hg k => ?_⟩
  cases d <;> cases e <;> simp only [gII] at hg <;> first
    | cases hg; done
    | (cases hg; exact ⟨_, _, rx.int, ry.int, gq_val hl k (by simp only [RD])⟩)
def gSS : D → D → Option EV
  | .str s, .str t => if s.length + t.length ≤ sizeLine then some (.val (.str (s ++ t))) else none
  | _, _ => none
theorem str_app (s t : List Nat) : ((⟨s.toArray⟩ : Str) ++ (⟨t.toArray⟩ : Str)) = ⟨(s ++ t).toArray⟩ := by
  show (⟨s.toArray ++ t.toArray⟩ : Str) = _
  congr 1
  apply Array.ext'
  simp
theorem opx_addS {f : Value → Value → Sem Value} (h : OpR X f (fun x y H Q => ∃ i j, x = .str i ∧ y = .str j ∧ i.length + j.length ≤ sizeLine ∧ Q (.str (i ++ j)) H)) : OpX X f gSS := by
  refine ⟨_, h, fun F H x y d e res Q hl rx ry hg k => ?_⟩
  cases d <;> cases e <;> simp only [gSS] at hg <;> first
    | cases hg; done
    | (rename_i s t
       by_cases z : s.length + t.length ≤ sizeLine
       · rw [if_pos z] at hg
         cases hg
         refine ⟨_, _, rx.str.1, ry.str.1, z, ?_⟩
         rw [str_app]
         exact gq_val hl k (by simp only [RD]; exact ⟨trivial, rx.str.2.app ry.str.2 z⟩)
       · rw [if_neg z] at hg; cases hg)
def gLL : D → D → Option EV
  | .lst xs, .lst ys => if xs.length + ys.length ≤ sizeLine then some (.fresh (.lst (xs ++ ys))) else none
  | _, _ => none
theorem opx_addL : OpX X (binaryOp .Add) gLL := by
  refine ⟨_, op_catG, fun F H x y d e res Q hl rx ry hg k => ?_⟩
  cases d <;> cases e <;> simp only [gLL] at hg <;> first
    | cases hg; done
    | (rename_i s t
       by_cases z : s.length + t.length ≤ sizeLine
       · rw [if_pos z] at hg
         cases hg
         obtain ⟨a, vs, rfl, h1, h2⟩ := rx.lst hl
         obtain ⟨b, ws, rfl, h3, h4⟩ := ry.lst hl
         exact ⟨_, _, _, _, rfl, rfl, h1, h3, by rw [← h2.length, ← h4.length]; exact z, gq_list hl k (h2.append h4)⟩
       · rw [if_neg z] at hg; cases hg)
def gTT : D → D → Option EV
  | .tup xs, .tup ys => if xs.length + ys.length ≤ sizeLine then some (.val (.tup (xs ++ ys))) else none
  | _, _ => none
theorem sqT_mono {K : PySem.W.Frag} {F H : Hp} {a : Addr} {vs : List V} (h : Same F H) (r : SqT K F a vs) : SqT K H a vs := by
  rcases r with (e2 | ⟨o, e2⟩) | e2
  · exact .inl (.inl (h _ _ e2))
  · exact .inl (.inr ⟨o, h _ _ e2⟩)
  · exact .inr e2
theorem RP.tupF {K : PySem.W.Frag} {mg : Str → Option Value} {F H : Hp} {ds : List D} {v : V} (r : RP K mg F H (.tup ds) v) : ∃ a vs, v = .ref a ∧ SqT K F a vs ∧ RDs K mg F ds vs := by
  rcases r with r | ⟨a, _, _, r⟩
  · simpa only [RD] using r
  · simp only at r
theorem opx_addT : OpX X (binaryOp .Add) gTT := by
  refine ⟨_, op_catA, fun F H x y d e res Q hl rx ry hg k => ?_⟩
  cases d <;> cases e <;> simp only [gTT] at hg <;> first
    | cases hg; done
    | (rename_i s t
       by_cases z : s.length + t.length ≤ sizeLine
       · rw [if_pos z] at hg
         cases hg
         obtain ⟨a, vs, rfl, h1, h2⟩ := rx.tupF
         obtain ⟨b, ws, rfl, h3, h4⟩ := ry.tupF
         refine ⟨_, _, _, _, rfl, rfl, sqT_mono hl h1, sqT_mono hl h3, by rw [← h2.length, ← h4.length]; exact z, fun q => ?_, fun _ q => ?_, fun _ q => gq_tup hl k (h2.append h4)⟩
         · have : s = [] := h2.nil_iff.mp q
           subst this
           rw [List.nil_append] at k
           exact gq_val hl k (by simp only [RD]; exact ⟨b, ws, rfl, h3, h4⟩)
         · have : t = [] := h4.nil_iff.mp q
           subst this
           rw [List.append_nil] at k
           exact gq_val hl k (by simp only [RD]; exact ⟨a, vs, rfl, h1, h2⟩)
       · rw [if_neg z] at hg; cases hg)
def gIB : D → D → Option EV
  | .int i, .bl k => some (.val (.int (i + if k then 1 else 0)))
  | _, _ => none
theorem opx_addIB : OpX X (binaryOp .Add) gIB := by
  refine ⟨_, op_add_ib, fun F H x y d e res Q hl rx ry hg k => ?_⟩
  cases d <;> cases e <;> simp only [gIB] at hg <;> first
    | cases hg; done
    | (cases hg
       refine ⟨_, _, rx.int, ry.bl, gq_val hl k ?_⟩
       simp only [RD]
       rename_i b
       cases b <;> rfl)
theorem ox_add : OpX X (binaryOp .Add) addD := by
  refine opx_or (opx_or (opx_int0 op_add) (opx_addS op_add_str) (g := fun d e => (gII (fun _ _ => true) (fun i j => i + j) d e).or (gSS d e)) fun d e r h => ?_)
    (opx_or opx_addL (opx_or opx_addT opx_addIB (g := fun d e => (gTT d e).or (gIB d e)) fun d e r h => ?_) (g := fun d e => (gLL d e).or ((gTT d e).or (gIB d e))) fun d e r h => ?_) fun d e r h => ?_
  · cases q : gII (fun _ _ => true) (fun i j => i + j) d e <;> simp_all
  · cases q : gTT d e <;> simp_all
  · cases q : gLL d e <;> simp_all
  · cases d <;> cases e <;> simp only [addD] at h <;> first
      | cases h; done
      | simp_all [gII, gSS, gLL, gTT, gIB]
theorem ox_sub : OpX X (binaryOp .Sub) subD := by
  obtain ⟨r, a, b⟩ := opx_int0 (X := X) op_sub
  refine ⟨r, a, fun F H x y d e res Q hl rx ry hg k => b F H x y d e res Q hl rx ry ?_ k⟩
  cases d <;> cases e <;> simp_all [subD, gII]
def gSI : D → D → Option EV
  | .str s, .int j => if j ≤ 1000 ∧ -1000 ≤ j ∧ s.length ≤ 1000 then some (.val (.str (List.replicate j.toNat s).flatten)) else none
  | _, _ => none
theorem mem_rep {α : Type} {n : Nat} {s : List α} {c : α} (h : c ∈ (List.replicate n s).flatten) : c ∈ s := by
  rw [List.mem_flatten] at h
  obtain ⟨l, h1, h2⟩ := h
  rw [List.mem_replicate] at h1
  rw [← h1.2]; exact h2
theorem opx_mulS : OpX X (binaryOp .Mult) gSI := by
  refine ⟨_, op_repS, fun F H x y d e res Q hl rx ry hg k => ?_⟩
  cases d <;> cases e <;> simp only [gSI] at hg <;> first
    | cases hg; done
    | (rename_i s j
       by_cases z : j ≤ 1000 ∧ -1000 ≤ j ∧ s.length ≤ 1000
       · rw [if_pos z] at hg
         cases hg
         refine ⟨_, _, rx.str.1, ry.int, Int.le_trans (by decide) z.2.1, z.1, by simpa [Str.length] using z.2.2, gq_val hl k ?_⟩
         simp only [RD]
         have hm : j.toNat * s.length ≤ 1000 * 1000 := Nat.mul_le_mul (by omega) z.2.2
         have : sizeLine = 16777216 := by decide
         exact ⟨trivial, by rw [flat_rep]; omega, fun c hc => rx.str.2.2 c (mem_rep hc)⟩
       · rw [if_neg z] at hg; cases hg)
def gTI : D → D → Option EV
  | .tup xs, .int k => if xs ≠ [] ∧ 2 ≤ k ∧ k ≤ 1000 ∧ xs.length ≤ 1000 then some (.val (.tup (List.replicate k.toNat xs).flatten)) else none
  | _, _ => none
theorem RDs.rep {K : PySem.W.Frag} {mg : Str → Option Value} {F : Hp} {ds : List D} {vs : List V} (h : RDs K mg F ds vs) : ∀ n : Nat, RDs K mg F (List.replicate n ds).flatten (List.replicate n vs).flatten
  | 0 => by simp [RDs]
  | n + 1 => by rw [List.replicate_succ, List.flatten_cons, List.replicate_succ, List.flatten_cons]; exact h.append (RDs.rep h n)
theorem opx_mulT : OpX X (binaryOp .Mult) gTI := by
  refine ⟨_, op_repT, fun F H x y d e res Q hl rx ry hg k => ?_⟩
  cases d <;> cases e <;> simp only [gTI] at hg <;> first
    | cases hg; done
    | (rename_i s j
       by_cases z : s ≠ [] ∧ 2 ≤ j ∧ j ≤ 1000 ∧ s.length ≤ 1000
       · rw [if_pos z] at hg
         cases hg
         obtain ⟨a, vs, rfl, h1, h2⟩ := rx.tupF
         exact ⟨_, _, _, rfl, ry.int, sqT_mono hl h1, fun q => z.1 (h2.nil_iff.mp q), z.2.1, z.2.2.1, by rw [← h2.length]; exact z.2.2.2, gq_tup hl k (h2.rep _)⟩
       · rw [if_neg z] at hg; cases hg)
theorem ox_mul : OpX X (binaryOp .Mult) mulD := by
  refine opx_or (opx_or (opx_int (c := mulOk) op_mulG fun i j h => h) opx_mulS (g := fun d e => (gII mulOk (fun i j => i * j) d e).or (gSI d e)) fun d e r h => ?_) opx_mulT fun d e r h => ?_
  · cases q : gII mulOk (fun i j => i * j) d e <;> simp_all
  · cases d <;> cases e <;> simp only [mulD] at h <;> first
      | cases h; done
      | simp_all [gII, gSI, gTI]
theorem ox_fdiv : OpX X (binaryOp .FloorDiv) fdivD := by
  obtain ⟨r, a, b⟩ := opx_int (X := X) (c := fun i j => decide (0 < j ∧ j.natAbs.log2 < 9000)) op_fdivW fun i j h => by simpa [CDivW] using h
  refine ⟨r, a, fun F H x y d e res Q hl rx ry hg k => b F H x y d e res Q hl rx ry ?_ k⟩
  cases d <;> cases e <;> simp_all [fdivD, gII]
theorem ox_mod : OpX X (binaryOp .Mod) modD := by
  obtain ⟨r, a, b⟩ := opx_int (X := X) (c := fun i j => decide (0 < j)) op_mod fun i j h => by simpa using h
  refine ⟨r, a, fun F H x y d e res Q hl rx ry hg k => b F H x y d e res Q hl rx ry ?_ k⟩
  cases d <;> cases e <;> simp_all [modD, gII]
theorem ox_pow : OpX X (binaryOp .Pow) powD := by
  obtain ⟨r, a, b⟩ := opx_int (X := X) (c := powOk) op_powG fun i j h => powOk_iff h
  refine ⟨r, a, fun F H x y d e res Q hl rx ry hg k => b F H x y d e res Q hl rx ry ?_ k⟩
  cases d <;> cases e <;> simp_all [powD, gII]
variable {a b : Expr} {pos : Pos} {ma mb : M}
theorem ve_op {op : Operator} {g : D → D → Option EV} (h : OpX X (binaryOp op) g) (ha : VE X a ma) (hb : VE X b mb) : VE X (.BinOp a op b pos) (mBin g ma mb) := by
  obtain ⟨r, h1, h2⟩ := h
  exact ve_bin h1 h2 ha hb
end
end VS

set_option Elab.async false
set_option linter.all false
set_option maxRecDepth 100000
set_option maxHeartbeats 4000000
namespace VS
open PySem L2 PyProof.Rows

/-! ### data as PyData; == -/
mutual
def toPy : D → PyData
  | .non => .none
  | .bl b => .bool b
  | .int i => .int i
  | .str s => .str ⟨s.toArray⟩
  | .tup xs => .tuple (toPys xs)
  | .lst xs => .list (toPys xs)
  | .dict _ => .none
  | .set _ => .none
  | .fn _ => .none
  | .ty _ => .none
  | .obj _ _ => .none
def toPys : List D → List PyData
  | [] => []
  | x :: xs => toPy x :: toPys xs
end
/-- plain data, no deeper than n -/
def dpt : Nat → D → Bool
  | _, .non => true
  | _, .bl _ => true
  | _, .int _ => true
  | _, .str _ => true
  | n + 1, .tup xs => xs.all (dpt n)
  | n + 1, .lst xs => xs.all (dpt n)
  | _, _ => false
mutual
def beq : D → D → Bool
  | .non, .non => true
  | .bl a, .bl b => a == b
  | .bl a, .int j => (if a then 1 else 0) == j
  | .int i, .bl b => i == (if b then 1 else 0)
  | .int i, .int j => i == j
  | .str s, .str t => s == t
  | .lst xs, .lst ys => beqs xs ys
  | .tup xs, .tup ys => beqs xs ys
  | _, _ => false
def beqs : List D → List D → Bool
  | [], [] => true
  | x :: xs, y :: ys => beq x y && beqs xs ys
  | _, _ => false
end
theorem toPys_len : ∀ xs : List D, (toPys xs).length = xs.length
  | [] => by simp [toPys]
  | x :: xs => by simp [toPys, toPys_len xs]
section
variable {K : PySem.W.Frag} {mg : Str → Option Value} {F H : Hp}
mutual
theorem RD.dp (h : Same F H) : ∀ (n : Nat) (d : D) (v : V), RD K mg F d v → dpt n d = true → Dp K H v (toPy d)
  | _, .non, v, r, _ => by simp only [RD] at r; subst r; simp only [toPy]; exact .non
  | _, .bl b, v, r, _ => by simp only [RD] at r; subst r; simp only [toPy]; exact .bl b
  | _, .int i, v, r, _ => by simp only [RD] at r; subst r; simp only [toPy]; exact .int i
  | _, .str s, v, r, _ => by simp only [RD] at r; rw [r.1]; simp only [toPy]; exact .str _
  | n + 1, .tup xs, v, r, e => by
    simp only [RD] at r
    obtain ⟨a, vs, rfl, h1, h2⟩ := r
    simp only [toPy]
    exact .tup (sqT_mono h h1) (RDs.dp h n xs vs h2 (by simpa only [dpt] using e))
  | n + 1, .lst xs, v, r, e => by
    simp only [RD] at r
    obtain ⟨a, vs, rfl, h1, h2⟩ := r
    simp only [toPy]
    exact .lst (h.seq h1) (RDs.dp h n xs vs h2 (by simpa only [dpt] using e))
  | 0, .tup xs, v, r, e => by simp [dpt] at e
  | 0, .lst xs, v, r, e => by simp [dpt] at e
  | n, .dict _, v, r, e => by cases n <;> simp [dpt] at e
  | n, .set _, v, r, e => by cases n <;> simp [dpt] at e
  | n, .fn _, v, r, e => by cases n <;> simp [dpt] at e
  | n, .ty _, v, r, e => by cases n <;> simp [dpt] at e
  | n, .obj _ _, v, r, e => by cases n <;> simp [dpt] at e
theorem RDs.dp (h : Same F H) : ∀ (n : Nat) (ds : List D) (vs : List V), RDs K mg F ds vs → ds.all (dpt n) = true → DpAll K H vs (toPys ds)
  | n, [], vs, r, _ => by simp only [RDs] at r; subst r; simp only [toPys]; exact .nil
  | n, d :: ds, vs, r, e => by
    simp only [RDs] at r
    obtain ⟨v, q, rfl, h1, h2⟩ := r
    simp only [List.all_cons, Bool.and_eq_true] at e
    simp only [toPys]
    exact .cons (RD.dp h n d v h1 e.1) (RDs.dp h n ds q h2 e.2)
end
mutual
theorem RD.lay : ∀ (n : Nat) (d : D) (v : V), RD K mg F d v → dpt n d = true → (toPy d).canLay0 = true ∧ (toPy d).depth ≤ n
  | _, .non, v, r, _ => by simp only [toPy]; exact ⟨by simp only [PyData.canLay0], by simp [PyData.depth]⟩
  | _, .bl b, v, r, _ => by simp only [toPy]; exact ⟨by simp only [PyData.canLay0], by simp [PyData.depth]⟩
  | _, .int i, v, r, _ => by simp only [toPy]; exact ⟨by simp only [PyData.canLay0], by simp [PyData.depth]⟩
  | _, .str s, v, r, _ => by
    simp only [RD] at r
    simp only [toPy]
    refine ⟨?_, by simp [PyData.depth]⟩
    simp only [PyData.canLay0, PyData.strOk]
    have := r.2.2
    simpa using this
  | n + 1, .tup xs, v, r, e => by
    simp only [RD] at r
    obtain ⟨a, vs, rfl, h1, h2⟩ := r
    have := RDs.lay n xs vs h2 (by simpa only [dpt] using e)
    simp only [toPy, PyData.canLay0, PyData.depth]
    exact ⟨this.1, by omega⟩
  | n + 1, .lst xs, v, r, e => by
    simp only [RD] at r
    obtain ⟨a, vs, rfl, h1, h2⟩ := r
    have := RDs.lay n xs vs h2 (by simpa only [dpt] using e)
    simp only [toPy, PyData.canLay0, PyData.depth]
    exact ⟨this.1, by omega⟩
  | 0, .tup xs, v, r, e => by simp [dpt] at e
  | 0, .lst xs, v, r, e => by simp [dpt] at e
  | n, .dict _, v, r, e => by cases n <;> simp [dpt] at e
  | n, .set _, v, r, e => by cases n <;> simp [dpt] at e
  | n, .fn _, v, r, e => by cases n <;> simp [dpt] at e
  | n, .ty _, v, r, e => by cases n <;> simp [dpt] at e
  | n, .obj _ _, v, r, e => by cases n <;> simp [dpt] at e
theorem RDs.lay : ∀ (n : Nat) (ds : List D) (vs : List V), RDs K mg F ds vs → ds.all (dpt n) = true → PyData.canLayAll0 (toPys ds) = true ∧ PyData.depthAll (toPys ds) ≤ n
  | n, [], vs, r, _ => by simp only [toPys]; exact ⟨by simp only [PyData.canLayAll0], by simp [PyData.depthAll]⟩
  | n, d :: ds, vs, r, e => by
    simp only [RDs] at r
    obtain ⟨v, q, rfl, h1, h2⟩ := r
    simp only [List.all_cons, Bool.and_eq_true] at e
    have a := RD.lay n d v h1 e.1
    have b := RDs.lay n ds q h2 e.2
    simp only [toPys, PyData.canLayAll0, PyData.depthAll, a.1, b.1, Bool.and_self]
    exact ⟨trivial, by omega⟩
end
theorem RP.dp {n : Nat} {d : D} {v : V} (h : Same F H) (r : RP K mg F H d v) (e : dpt n d = true) (hn : n ≤ 64) : Dp K H v (toPy d) ∧ SeqAt.shaped (toPy d) = true := by
  have fin : ∀ F', Same F' H → RD K mg F' d v → Dp K H v (toPy d) ∧ SeqAt.shaped (toPy d) = true := fun F' h' r' => by
    have a := RD.lay n d v r' e
    refine ⟨RD.dp h' n d v r' e, ?_⟩
    unfold SeqAt.shaped
    rw [a.1, Bool.true_and, decide_eq_true (Nat.le_trans a.2 hn)]
  rcases r with r | ⟨a, rfl, r⟩
  · exact fin F h r
  · exact fin _ (plus_le h) r.frozen
end
theorem arr_beq (s t : List Nat) : ((⟨s.toArray⟩ : Str) == ⟨t.toArray⟩) = (s == t) := by
  rw [Bool.beq_eq_decide_eq, Bool.beq_eq_decide_eq]
  congr 1
  simp
mutual
theorem eqv_beq : ∀ (n m : Nat) (d e : D), dpt n d = true → dpt m e = true → PyData.eqv (toPy d) (toPy e) = beq d e
  | n, m, .non, e, h1, h2 => by cases e <;> cases m <;> simp [dpt] at h2 <;> simp only [toPy, PyData.eqv, beq]
  | n, m, .bl _, e, h1, h2 => by cases e <;> cases m <;> simp [dpt] at h2 <;> simp only [toPy, PyData.eqv, beq]
  | n, m, .int _, e, h1, h2 => by cases e <;> cases m <;> simp [dpt] at h2 <;> simp only [toPy, PyData.eqv, beq]
  | n, m, .str _, e, h1, h2 => by cases e <;> cases m <;> simp [dpt] at h2 <;> simp only [toPy, PyData.eqv, beq, arr_beq]
  | n, m, .tup xs, e, h1, h2 => by
    cases n with
    | zero => simp [dpt] at h1
    | succ n =>
      cases e with
      | tup ys =>
        cases m with
        | zero => simp [dpt] at h2
        | succ m =>
          simp only [toPy, PyData.eqv, beq]
          exact eqv_beqs n m xs ys (by simpa only [dpt] using h1) (by simpa only [dpt] using h2)
      | _ => cases m <;> simp [dpt] at h2 <;> simp only [toPy, PyData.eqv, beq]
  | n, m, .lst xs, e, h1, h2 => by
    cases n with
    | zero => simp [dpt] at h1
    | succ n =>
      cases e with
      | lst ys =>
        cases m with
        | zero => simp [dpt] at h2
        | succ m =>
          simp only [toPy, PyData.eqv, beq]
          exact eqv_beqs n m xs ys (by simpa only [dpt] using h1) (by simpa only [dpt] using h2)
      | _ => cases m <;> simp [dpt] at h2 <;> simp only [toPy, PyData.eqv, beq]
  | n, m, .dict _, e, h1, h2 => by cases n <;> simp [dpt] at h1
  | n, m, .set _, e, h1, h2 => by cases n <;> simp [dpt] at h1
  | n, m, .fn _, e, h1, h2 => by cases n <;> simp [dpt] at h1
  | n, m, .ty _, e, h1, h2 => by cases n <;> simp [dpt] at h1
  | n, m, .obj _ _, e, h1, h2 => by cases n <;> simp [dpt] at h1
theorem eqv_beqs : ∀ (n m : Nat) (ds es : List D), ds.all (dpt n) = true → es.all (dpt m) = true → PyData.eqvAll (toPys ds) (toPys es) = beqs ds es
  | n, m, [], es, h1, h2 => by cases es <;> simp only [toPys, PyData.eqvAll, beqs]
  | n, m, d :: ds, es, h1, h2 => by
    cases es with
    | nil => simp only [toPys, PyData.eqvAll, beqs]
    | cons e es =>
      simp only [List.all_cons, Bool.and_eq_true] at h1 h2
      simp only [toPys, PyData.eqvAll, beqs]
      rw [eqv_beq n m d e h1.1 h2.1, eqv_beqs n m ds es h1.2 h2.2]
end
def eqD (d e : D) : Option Bool := if dpt 60 d = true ∧ dpt 60 e = true then some (beq d e) else none
def neD (d e : D) : Option Bool := if dpt 60 d = true ∧ dpt 60 e = true then some (!beq d e) else none
/-- a comparison by data -/
def OpC (X : Cx) (f : Value → Value → Sem Value) (g : D → D → Option Bool) : Prop := ∃ r, OpR X f r ∧ OpB X.K X.mg r g
section
variable {X : Cx}
theorem opc_or {f : Value → Value → Sem Value} {g g1 g2 : D → D → Option Bool} (h1 : OpC X f g1) (h2 : OpC X f g2) (h : ∀ d e r, g d e = some r → g1 d e = some r ∨ g2 d e = some r) : OpC X f g := by
  obtain ⟨r1, a1, b1⟩ := h1
  obtain ⟨r2, a2, b2⟩ := h2
  refine ⟨_, a1.or a2, fun F H x y d e res Q hl rx ry hg k => ?_⟩
  rcases h d e res hg with z | z
  · exact .inl (b1 F H x y d e res Q hl rx ry z k)
  · exact .inr (b2 F H x y d e res Q hl rx ry z k)
theorem opc_imp {f : Value → Value → Sem Value} {g g1 : D → D → Option Bool} (h1 : OpC X f g1) (h : ∀ d e r, g d e = some r → g1 d e = some r) : OpC X f g := by
  obtain ⟨r1, a1, b1⟩ := h1
  exact ⟨r1, a1, fun F H x y d e res Q hl rx ry hg k => b1 F H x y d e res Q hl rx ry (h d e res hg) k⟩
theorem oc_eq (hu : X.A.units + 64 < cLine) : OpC X (compareOp .Eq) eqD := by
  refine ⟨_, op_eqD hu, fun F H x y d e res Q hl rx ry hg k => ?_⟩
  unfold eqD at hg
  by_cases z : dpt 60 d = true ∧ dpt 60 e = true
  · rw [if_pos z] at hg
    cases hg
    obtain ⟨a1, a2⟩ := rx.dp hl z.1 (by decide)
    obtain ⟨b1, b2⟩ := ry.dp hl z.2 (by decide)
    exact ⟨_, _, a1, b1, a2, b2, by rw [eqv_beq 60 60 d e z.1 z.2]; exact k⟩
  · rw [if_neg z] at hg; cases hg
theorem oc_ne (hu : X.A.units + 64 < cLine) : OpC X (compareOp .NotEq) neD := by
  refine ⟨_, op_neD hu, fun F H x y d e res Q hl rx ry hg k => ?_⟩
  unfold neD at hg
  by_cases z : dpt 60 d = true ∧ dpt 60 e = true
  · rw [if_pos z] at hg
    cases hg
    obtain ⟨a1, a2⟩ := rx.dp hl z.1 (by decide)
    obtain ⟨b1, b2⟩ := ry.dp hl z.2 (by decide)
    exact ⟨_, _, a1, b1, a2, b2, by rw [eqv_beq 60 60 d e z.1 z.2]; exact k⟩
  · rw [if_neg z] at hg; cases hg
/-! ### < <= > >= -/
def cII (f : Int → Int → Bool) : D → D → Option Bool
  | .int i, .int j => some (f i j)
  | _, _ => none
theorem opc_int {f : Value → Value → Sem Value} {g : Int → Int → Bool} (h : OpR X f (rI0 fun i j => .bl (g i j))) : OpC X f (cII g) := by
  refine ⟨_, h, fun F H x y d e res Q hl rx ry hg k => ?_⟩
  cases d <;> cases e <;> simp only [cII] at hg <;> first
    | cases hg; done
    | (cases hg; exact ⟨_, _, rx.int, ry.int, k⟩)
def cSS (f : List Nat → List Nat → Bool) : D → D → Option Bool
  | .str i, .str j => some (f i j)
  | _, _ => none
theorem opc_str {f : Value → Value → Sem Value} {g : List Nat → List Nat → Bool} (h : OpR X f (fun x y H Q => ∃ i j, x = .str i ∧ y = .str j ∧ Q (.bl (g i.cps.toList j.cps.toList)) H)) : OpC X f (cSS g) := by
  refine ⟨_, h, fun F H x y d e res Q hl rx ry hg k => ?_⟩
  cases d <;> cases e <;> simp only [cSS] at hg <;> first
    | cases hg; done
    | (cases hg; exact ⟨_, _, rx.str.1, ry.str.1, by simpa using k⟩)
/-- tuples of ints -/
def intsOf : List D → Option (List Int)
  | [] => some []
  | .int i :: r => (intsOf r).map (i :: ·)
  | _ => none
theorem intsOf_map : ∀ {ds : List D} {ns : List Int}, intsOf ds = some ns → ds = ns.map D.int
  | [], ns, h => by simp only [intsOf] at h; cases h; rfl
  | d :: r, ns, h => by
    cases d <;> simp only [intsOf] at h <;> first
      | cases h; done
      | (obtain ⟨ms, h1, rfl⟩ := omap h
         rw [intsOf_map h1]; rfl)
theorem intsOf_of (ns : List Int) : intsOf (ns.map D.int) = some ns := by
  induction ns with
  | nil => rfl
  | cons n ns ih => simp only [List.map_cons, intsOf, ih, Option.map_some]
def cTT : D → D → Option Bool
  | .tup xs, .tup ys => (intsOf xs).bind fun ns => (intsOf ys).map fun ms => HT.lexLt ns ms
  | _, _ => none
theorem opc_ltT (hu : X.A.units < cLine) : OpC X (compareOp .Lt) cTT := by
  refine ⟨_, op_ltT hu, fun F H x y d e res Q hl rx ry hg k => ?_⟩
  cases d <;> cases e <;> simp only [cTT] at hg <;> first
    | cases hg; done
    | (obtain ⟨ns, h1, hg⟩ := obind hg
       obtain ⟨ms, h2, hg⟩ := omap hg
       obtain ⟨a, vs, rfl, h3, h4⟩ := rx.tup hl
       obtain ⟨b, ws, rfl, h5, h6⟩ := ry.tup hl
       rw [intsOf_map h1] at h4
       rw [intsOf_map h2] at h6
       rw [h4.ints] at h3
       rw [h6.ints] at h5
       exact ⟨_, _, ns, ms, rfl, rfl, h3, h5, by rw [hg]; exact k⟩)
def ltD : D → D → Option Bool
  | .int i, .int j => some (decide (i < j))
  | .str s, .str t => some (decide (s < t))
  | .tup xs, .tup ys => (intsOf xs).bind fun ns => (intsOf ys).map fun ms => HT.lexLt ns ms
  | _, _ => none
def leD : D → D → Option Bool
  | .int i, .int j => some (decide (i ≤ j))
  | .str s, .str t => some (!decide (t < s))
  | _, _ => none
def gtD : D → D → Option Bool
  | .int i, .int j => some (decide (j < i))
  | .str s, .str t => some (decide (t < s))
  | _, _ => none
def geD : D → D → Option Bool
  | .int i, .int j => some (decide (j ≤ i))
  | .str s, .str t => some (!decide (s < t))
  | _, _ => none
theorem oc_lt (hu : X.A.units < cLine) : OpC X (compareOp .Lt) ltD := by
  refine opc_or (opc_or (opc_int op_lt) (opc_str (g := fun s t => decide (s < t)) op_lt_str) (g := fun d e => (cII (fun i j => decide (i < j)) d e).or (cSS (fun s t => decide (s < t)) d e)) fun d e r h => ?_) (opc_ltT hu) fun d e r h => ?_
  · cases q : cII (fun i j => decide (i < j)) d e <;> simp_all
  · cases d <;> cases e <;> simp only [ltD] at h <;> first
      | cases h; done
      | simp_all [cII, cSS, cTT]
theorem oc_le : OpC X (compareOp .LtE) leD := by
  refine opc_or (opc_int op_le) (opc_str (g := fun s t => !decide (t < s)) op_le_str) fun d e r h => ?_
  cases d <;> cases e <;> simp only [leD] at h <;> first
    | cases h; done
    | simp_all [cII, cSS]
theorem oc_gt : OpC X (compareOp .Gt) gtD := by
  refine opc_or (opc_int op_gt) (opc_str (g := fun s t => decide (t < s)) op_gt_str) fun d e r h => ?_
  cases d <;> cases e <;> simp only [gtD] at h <;> first
    | cases h; done
    | simp_all [cII, cSS]
theorem oc_ge : OpC X (compareOp .GtE) geD := by
  refine opc_or (opc_int op_ge) (opc_str (g := fun s t => !decide (s < t)) op_ge_str) fun d e r h => ?_
  cases d <;> cases e <;> simp only [geD] at h <;> first
    | cases h; done
    | simp_all [cII, cSS]
/-! ### is -/
def isD : D → D → Option Bool
  | .bl a, .bl b => some (decide (a = b))
  | .non, .non => some true
  | .bl _, .non => some false
  | .int _, .non => some false
  | .str _, .non => some false
  | .tup _, .non => some false
  | .lst _, .non => some false
  | .dict _, .non => some false
  | .fn _, .non => some false
  | _, _ => none
def notD (g : D → D → Option Bool) : D → D → Option Bool := fun d e => (g d e).map (!·)
theorem RP.nonIff {K : PySem.W.Frag} {mg : Str → Option Value} {F H : Hp} {d : D} {v : V} {b : Bool} (r : RP K mg F H d v) (h : isD d .non = some b) : decide (v = .non) = b := by
  rcases r with r | ⟨a, rfl, r⟩
  · cases d <;> simp only [isD] at h <;> first
      | (cases h; done)
      | (cases h
         simp only [RD] at r
         first
           | (rw [r]; rfl)
           | (rw [r.1]; rfl)
           | (obtain ⟨a, vs, rfl, _⟩ := r; rfl)
           | (obtain ⟨a, rfl, _⟩ := r; rfl))
  · obtain ⟨_, r⟩ := r
    cases d <;> simp only at r <;> simp only [isD] at h <;> cases h <;> rfl
theorem oc_is : OpC X (compareOp .Is) isD := by
  refine ⟨_, op_isN.or op_isBl, fun F H x y d e res Q hl rx ry hg k => ?_⟩
  cases e with
  | non => exact .inl ⟨ry.non, by rw [rx.nonIff hg]; exact k⟩
  | bl b =>
    cases d <;> simp only [isD] at hg <;> first
      | cases hg; done
      | (cases hg; exact .inr ⟨_, _, rx.bl, ry.bl, k⟩)
  | _ => cases d <;> simp only [isD] at hg <;> cases hg
theorem oc_isNot : OpC X (compareOp .IsNot) (notD isD) := by
  refine ⟨_, op_notN.or op_notBl, fun F H x y d e res Q hl rx ry hg k => ?_⟩
  obtain ⟨b, hg', rfl⟩ := omap hg; clear hg; have hg := hg'
  cases e with
  | non => exact .inl ⟨ry.non, by rw [rx.nonIff hg]; exact k⟩
  | bl b =>
    cases d <;> simp only [isD] at hg <;> first
      | cases hg; done
      | (cases hg; exact .inr ⟨_, _, rx.bl, ry.bl, k⟩)
  | _ => cases d <;> simp only [isD] at hg <;> cases hg
/-! ### in -/
def flatD : D → Bool
  | .non => true
  | .bl _ => true
  | .int _ => true
  | .str _ => true
  | _ => false
def inD : D → D → Option Bool
  | .str [c], .str t => some (decide (c ∈ t))
  | d, .lst ds => if dpt 60 d = true ∧ dpt 60 (.lst ds) = true then some (ds.any fun z => beq z d) else none
  | d, .tup ds => if flatD d = true ∧ ds.all flatD = true then some (ds.any fun z => beq z d) else none
  | _, _ => none
theorem any_beq (d : D) (n : Nat) (hd : dpt n d = true) : ∀ (ds : List D) (m : Nat), ds.all (dpt m) = true → ((toPys ds).any fun z => PyData.eqv z (toPy d)) = ds.any fun z => beq z d
  | [], m, _ => by simp [toPys]
  | x :: xs, m, h => by
    simp only [List.all_cons, Bool.and_eq_true] at h
    simp only [toPys, List.any_cons]
    rw [eqv_beq m n x d h.1 hd, any_beq d n hd xs m h.2]
theorem flat_V {K : PySem.W.Frag} {mg : Str → Option Value} {F : Hp} {d : D} {v : V} (r : RD K mg F d v) (h : flatD d = true) : flatV v = true := by
  cases d <;> simp only [flatD] at h <;> simp only [RD] at r <;> first
    | (cases h; done)
    | (rw [r]; rfl)
    | (rw [r.1]; rfl)
theorem eqV_beq {K : PySem.W.Frag} {mg : Str → Option Value} {F : Hp} {d e : D} {v u : V} (r : RD K mg F d v) (s : RD K mg F e u) (h : flatD d = true) (g : flatD e = true) : eqV v u = beq d e := by
  cases d <;> simp only [flatD] at h <;> simp only [RD] at r <;> cases e <;> simp only [flatD] at g <;> simp only [RD] at s <;> first
    | (cases h; done)
    | (cases g; done)
    | (first | rw [r.1] | rw [r]) <;> (first | rw [s.1] | rw [s]) <;> simp only [eqV, beq, arr_beq]
theorem inV_beq {K : PySem.W.Frag} {mg : Str → Option Value} {F : Hp} {d : D} {v : V} (r : RD K mg F d v) (h : flatD d = true) : ∀ {ds : List D} {vs : List V}, RDs K mg F ds vs → ds.all flatD = true → vs.all flatV = true ∧ inV v vs = ds.any fun z => beq z d
  | [], vs, q, _ => by simp only [RDs] at q; subst q; exact ⟨rfl, rfl⟩
  | e :: ds, vs, q, g => by
    simp only [RDs] at q
    obtain ⟨u, w, rfl, h1, h2⟩ := q
    simp only [List.all_cons, Bool.and_eq_true] at g
    obtain ⟨i1, i2⟩ := inV_beq r h h2 g.2
    refine ⟨by simp only [List.all_cons, flat_V h1 g.1, i1, Bool.and_self], ?_⟩
    unfold inV at i2 ⊢
    rw [List.any_cons, List.any_cons, i2, eqV_beq h1 r g.1 h]
theorem RP.flat {K : PySem.W.Frag} {mg : Str → Option Value} {F H : Hp} {d : D} {v : V} (r : RP K mg F H d v) (h : flatD d = true) : RD K mg F d v := by
  rcases r with r | ⟨a, _, _, r⟩
  · exact r
  · cases d <;> simp only at r <;> simp [flatD] at h
theorem in_cases {d e : D} {b : Bool} (h : inD d e = some b) : (∃ c t, d = .str [c] ∧ e = .str t ∧ b = decide (c ∈ t)) ∨
    (∃ ds, e = .lst ds ∧ dpt 60 d = true ∧ dpt 60 (.lst ds) = true ∧ b = ds.any fun z => beq z d) ∨ ∃ ds, e = .tup ds ∧ flatD d = true ∧ ds.all flatD = true ∧ b = ds.any fun z => beq z d := by
  unfold inD at h
  split at h
  · exact .inl ⟨_, _, rfl, rfl, (Option.some.inj h).symm⟩
  · split at h
    · rename_i ds z
      exact .inr (.inl ⟨ds, rfl, z.1, z.2, (Option.some.inj h).symm⟩)
    · cases h
  · split at h
    · rename_i ds z
      exact .inr (.inr ⟨ds, rfl, z.1, z.2, (Option.some.inj h).symm⟩)
    · cases h
  · cases h
theorem oc_in (hu : X.A.units + 65 < cLine) : OpC X (compareOp .In) inD := by
  refine ⟨_, op_in_sign.or ((op_inD hu).or op_in_seq), fun F H x y d e res Q hl rx ry hg k => ?_⟩
  rcases in_cases hg with ⟨c, t, rfl, rfl, rfl⟩ | ⟨ds, rfl, z1, z2, rfl⟩ | ⟨ds, rfl, z1, z2, rfl⟩
  · exact .inl ⟨c, _, rx.str.1, ry.str.1, by simpa using k⟩
  · obtain ⟨a1, a2⟩ := rx.dp hl z1 (by decide)
    obtain ⟨b1, b2⟩ := ry.dp hl z2 (by decide)
    simp only [toPy] at b1 b2
    exact .inr (.inl ⟨_, _, a1, b1, a2, b2, by rw [any_beq d 60 z1 ds 59 (by simpa only [dpt] using z2)]; exact k⟩)
  · obtain ⟨a, vs, rfl, h1, h2⟩ := ry.tup hl
    obtain ⟨i1, i2⟩ := inV_beq (rx.flat z1) z1 h2 z2
    exact .inr (.inr ⟨a, vs, rfl, .inr h1, flat_V (rx.flat z1) z1, i1, by rw [i2]; exact k⟩)
theorem oc_notIn (hu : X.A.units + 65 < cLine) : OpC X (compareOp .NotIn) (notD inD) := by
  refine ⟨_, op_notIn_sign.or ((op_notInD hu).or op_notIn_seq), fun F H x y d e res Q hl rx ry hg k => ?_⟩
  obtain ⟨b, hg', rfl⟩ := omap hg; clear hg; have hg := hg'
  rcases in_cases hg with ⟨c, t, rfl, rfl, rfl⟩ | ⟨ds, rfl, z1, z2, rfl⟩ | ⟨ds, rfl, z1, z2, rfl⟩
  · exact .inl ⟨c, _, rx.str.1, ry.str.1, by simpa using k⟩
  · obtain ⟨a1, a2⟩ := rx.dp hl z1 (by decide)
    obtain ⟨b1, b2⟩ := ry.dp hl z2 (by decide)
    simp only [toPy] at b1 b2
    exact .inr (.inl ⟨_, _, a1, b1, a2, b2, by rw [any_beq d 60 z1 ds 59 (by simpa only [dpt] using z2)]; exact k⟩)
  · obtain ⟨a, vs, rfl, h1, h2⟩ := ry.tup hl
    obtain ⟨i1, i2⟩ := inV_beq (rx.flat z1) z1 h2 z2
    exact .inr (.inr ⟨a, vs, rfl, .inr h1, flat_V (rx.flat z1) z1, i1, by rw [i2]; exact k⟩)
variable {a b c : Expr} {pos : Pos} {ma mb mc : M}
theorem vt_op {op : CmpOp} {g : D → D → Option Bool} (h : OpC X (compareOp op) g) (ha : VE X a ma) (hb : VE X b mb) (hm : behindInMarks op b = false := by first | exact nomark _ (by decide) (by decide) | rfl) : VT X (.Compare a [op] [b] pos) (mCmp g ma mb) := by
  obtain ⟨r, h1, h2⟩ := h
  exact vt_cmp h1 h2 ha hb hm
theorem ve_opc {op : CmpOp} {g : D → D → Option Bool} (h : OpC X (compareOp op) g) (ha : VE X a ma) (hb : VE X b mb) (hm : behindInMarks op b = false := by first | exact nomark _ (by decide) (by decide) | rfl) : VE X (.Compare a [op] [b] pos) (mOfB (mCmp g ma mb)) := by
  obtain ⟨r, h1, h2⟩ := h
  exact ve_cmp h1 h2 ha hb hm
/-! ### a op b op' c -/
def mChain (g g' : D → D → Option Bool) (a b c : M) : MB := fun Γ =>
  (a Γ).bind fun p => (b p.2).bind fun q => (peek q.2 p.1).bind fun x => (peek q.2 q.1).bind fun y => (g x y).bind fun k =>
    if k = true then (c q.2).bind fun r => (peek r.2 q.1).bind fun y' => (peek r.2 r.1).bind fun z => (g' y' z).map fun k' => (k', r.2) else some (false, q.2)
theorem chain_run {r r' : R2} {g g' : D → D → Option Bool} (hv : OpB X.K X.mg r g) (hv' : OpB X.K X.mg r' g') {σ : L2.St} {H : Hp} {Q : V → Hp → Prop} {ρ : List Addr} {O : Addr → Prop} {Γ Γ' : VEnv} {F : Hp} {k : Bool} (R : Rep X.K X.mg ρ O Γ σ H F)
    (e : mChain g g' ma mb mc Γ = some (k, Γ')) (h : ∀ H' F', Stp X.K X.mg ρ O Γ' σ H F H' F' → Cells Γ Γ' → Q (.bl k) H') : tChain r r' (tV X.K X.mg ma) (tV X.K X.mg mb) (tV X.K X.mg mc) σ H Q := by
  obtain ⟨⟨ra, Γ1⟩, e1, e⟩ := obind e
  obtain ⟨⟨rb, Γ2⟩, e2, e⟩ := obind e
  obtain ⟨dx, e3, e⟩ := obind e
  obtain ⟨dy, e4, e⟩ := obind e
  obtain ⟨k1, e5, e⟩ := obind e
  refine seq2 R e1 e2 fun x y H' F' s c rx ry => ?_
  have ry' := ry.weakO orO_l
  refine hv F' H' x y dx dy k1 _ s.rep.le (peek_ok s.rep rx e3) (peek_ok s.rep ry' e4) e5 ⟨k1, rfl, ?_⟩
  cases k1 with
  | false => cases e; exact iteF (h H' F' s c)
  | true =>
    refine iteT ?_
    obtain ⟨⟨rc, Γ3⟩, e6, e⟩ := obind e
    obtain ⟨dy', e7, e⟩ := obind e
    obtain ⟨dz, e8, e⟩ := obind e
    obtain ⟨k2, e9, e'⟩ := omap e
    cases e'
    refine tV_run (s.rep.pend ry') e6 fun z H2 F2 s2 c2 rz => ?_
    refine hv' F2 H2 y z dy' dz k _ s2.rep.le (peek_ok (s2.rep.weakO orO_l) (ry'.later s.rep s2.rep s2.fs s2.op c2) e7) (peek_ok s2.rep rz e8) e9 ?_
    exact h H2 F2 (s.trans (s2.weakO orO_l)) (c.trans c2)
theorem vt_chain {op op' : CmpOp} {g g' : D → D → Option Bool} (h : OpC X (compareOp op) g) (h' : OpC X (compareOp op') g') (ha : VE X a ma) (hb : VE X b mb) (hc : VE X c mc) (hm : lastMarks [op, op'] [b, c] = false := by with_unfolding_all rfl) :
    VT X (.Compare a [op, op'] [b, c] pos) (mChain g g' ma mb mc) := by
  obtain ⟨r, h1, h2⟩ := h
  obtain ⟨r', h1', h2'⟩ := h'
  refine pt_of (pt_chain h1 h1' ha hb hc hm) fun σ H Q h => ?_
  obtain ⟨ρ, O, Γ, F, res, Γ', R, e, k⟩ := h
  exact chain_run h2 h2' R e fun H' F' s c => ⟨res, rfl, k H' F' s c⟩
theorem ve_chain {op op' : CmpOp} {g g' : D → D → Option Bool} (h : OpC X (compareOp op) g) (h' : OpC X (compareOp op') g') (ha : VE X a ma) (hb : VE X b mb) (hc : VE X c mc) (hm : lastMarks [op, op'] [b, c] = false := by with_unfolding_all rfl) :
    VE X (.Compare a [op, op'] [b, c] pos) (mOfB (mChain g g' ma mb mc)) := by
  obtain ⟨r, h1, h2⟩ := h
  obtain ⟨r', h1', h2'⟩ := h'
  refine pe_of (pe_chain h1 h1' ha hb hc hm) fun σ H Q h => ?_
  obtain ⟨ρ, O, Γ, F, res, Γ', R, e, k⟩ := h
  obtain ⟨⟨b1, Γ1⟩, e9, e0⟩ := omap e
  cases e0
  exact chain_run h2 h2' R e9 fun H' F' s c => k _ H' F' s c (by simp only [RepEV, RD])
end
end VS

set_option Elab.async false
set_option linter.all false
set_option maxRecDepth 100000
set_option maxHeartbeats 4000000
namespace VS
open PySem L2 PyProof.Rows

/-! ### lists of arguments -/
def frL : List EV → List V → Addr → Prop
  | r :: rs, v :: vs => orO (frs r v) (frL rs vs)
  | _, _ => fun _ => False
def mNil : ML := fun Γ => some ([], Γ)
def mCons (m : M) (ml : ML) : ML := fun Γ => (m Γ).bind fun p => (ml p.2).map fun q => (p.1 :: q.1, q.2)
section
variable {K : PySem.W.Frag} {mg : Str → Option Value} {ρ : List Addr} {O O' : Addr → Prop} {Γ Γ' : VEnv} {σ σ' : L2.St} {H F H' F' : Hp} {r : EV} {v : V} {d : D} {a : Addr}
theorem Rep.pendL (R : Rep K mg ρ O Γ σ H F) : ∀ {rs : List EV} {vs : List V} {O1 : Addr → Prop}, RepL K mg ρ Γ σ H F O1 rs vs → Rep K mg ρ (orO O (frL rs vs)) Γ σ H F := by
  intro rs
  induction rs generalizing R O with
  | nil => intro vs O1 h; exact { R with prot := fun a z => z.elim (R.prot a) fun q => by cases vs <;> exact q.elim }
  | cons r rs ih =>
    intro vs O1 h
    simp only [RepL] at h
    obtain ⟨v, ws, rfl, h1, h2⟩ := h
    have h1' : RepEV K mg ρ (fun _ => False) Γ σ H F r v := by
      cases r with
      | fresh d => obtain ⟨p, e1, e2, _, e4⟩ := h1; exact ⟨p, e1, e2, fun z => z, e4⟩
      | _ => exact h1
    have R1 : Rep K mg ρ (orO O (frs r v)) Γ σ H F := by
      refine { R with prot := fun a z => ?_ }
      rcases z with z | z
      · exact R.prot a z
      · exact ((R.weakO (O' := fun _ => False) fun _ q => q.elim).pend h1').prot a (.inr z)
    have R2 := ih R1 h2
    exact R2.weakO fun a z => by
      rcases z with z | z | z
      · exact .inl (.inl z)
      · exact .inl (.inr z)
      · exact .inr z
theorem RepL.later : ∀ {rs : List EV} {vs : List V} {O1 : Addr → Prop}, RepL K mg ρ Γ σ H F O1 rs vs → Rep K mg ρ (orO O' (frL rs vs)) Γ' σ H' F' → Same F F' → (∀ a, frL rs vs a → H' a = H a) → Cells Γ Γ' → RepL K mg ρ Γ' σ H' F' O1 rs vs := by
  intro rs
  induction rs generalizing O' with
  | nil => intro vs O1 h _ _ _ _; exact h
  | cons r rs ih =>
    intro vs O1 h R' hf ho hc
    simp only [RepL] at h ⊢
    obtain ⟨v, ws, rfl, h1, h2⟩ := h
    refine ⟨v, ws, rfl, ?_, ih (O' := O') h2 (R'.weakO fun a z => ?_) hf (fun a z => ho a (.inr z)) hc⟩
    · cases r with
      | val d => exact RD.mono hf _ _ h1
      | fresh d =>
        obtain ⟨p, e1, e2, e3, e4⟩ := h1
        have hp : frL (.fresh d :: rs) (v :: ws) p := .inl e1
        obtain ⟨q1, q2, q3⟩ := R'.prot p (.inr hp)
        exact ⟨p, e1, e2.stay hf q1 (ho p hp), e3, q3⟩
      | slot i => exact ⟨h1.1, trivial⟩
      | par k => exact h1
    · rcases z with z | z
      · exact .inl z
      · exact .inr (.inr z)
theorem tL_run {m : ML} {rs : List EV} {Q : List V → Hp → Prop} (R : Rep K mg ρ O Γ σ H F) (e : m Γ = some (rs, Γ'))
    (k : ∀ vs H' F', Stp K mg ρ O Γ' σ H F H' F' → Cells Γ Γ' → RepL K mg ρ Γ' σ H' F' O rs vs → Q vs H') : tL K mg m σ H Q := ⟨ρ, O, Γ, F, rs, Γ', R, e, k⟩
def peekL (Γ : VEnv) : List EV → Option (List D)
  | [] => some []
  | r :: rs => (peek Γ r).bind fun d => (peekL Γ rs).map fun ds => d :: ds
def RPs (K : PySem.W.Frag) (mg : Str → Option Value) (F H : Hp) : List D → List V → Prop
  | [], vs => vs = []
  | d :: ds, vs => ∃ v ws, vs = v :: ws ∧ RP K mg F H d v ∧ RPs K mg F H ds ws
theorem peekL_ok (R : Rep K mg ρ O' Γ σ H F) : ∀ {rs : List EV} {vs : List V} {ds : List D} {O : Addr → Prop}, RepL K mg ρ Γ σ H F O rs vs → peekL Γ rs = some ds → RPs K mg F H ds vs := by
  intro rs
  induction rs with
  | nil => intro vs ds O h e; simp only [RepL] at h; simp only [peekL] at e; cases e; simp only [RPs]; exact h
  | cons r rs ih =>
    intro vs ds O h e
    simp only [RepL] at h
    obtain ⟨v, ws, rfl, h1, h2⟩ := h
    simp only [peekL] at e
    obtain ⟨d, e1, e⟩ := obind e
    obtain ⟨es, e2, e3⟩ := omap e
    subst e3
    simp only [RPs]
    refine ⟨v, ws, rfl, ?_, ih h2 e2⟩
    have h1' : RepEV K mg ρ (fun _ => False) Γ σ H F r v := by
      cases r with
      | fresh d => obtain ⟨p, q1, q2, _, q4⟩ := h1; exact ⟨p, q1, q2, fun z => z, q4⟩
      | _ => exact h1
    exact peek_ok (R.weakO fun _ q => q.elim) h1' e1
def freezeL : List EV → VEnv → Option (List D × VEnv)
  | [], Γ => some ([], Γ)
  | r :: rs, Γ => (freeze r Γ).bind fun p => (freezeL rs p.2).map fun q => (p.1 :: q.1, q.2)
theorem frL_out : ∀ {rs : List EV} {vs : List V} {O : Addr → Prop}, RepL K mg ρ Γ σ H F O rs vs → ∀ p, frL rs vs p → ¬ O p := by
  intro rs
  induction rs with
  | nil => intro vs O h p z; cases vs <;> exact z.elim
  | cons r rs ih =>
    intro vs O h p z hp
    simp only [RepL] at h
    obtain ⟨v, ws, rfl, h1, h2⟩ := h
    rcases z with z | z
    · cases r with
      | fresh d =>
        obtain ⟨p', e1, e2, e3, _⟩ := h1
        have z' : v = .ref p := z
        rw [e1] at z'; cases z'
        exact e3 hp
      | val d => exact z.elim
      | slot i => exact z.elim
      | par k => exact z.elim
    · exact ih h2 p z (.inl hp)
theorem freezeL_ok : ∀ {rs : List EV} {vs : List V} {ds : List D} {Γ : VEnv} {F : Hp}, Rep K mg ρ O Γ σ H F → RepL K mg ρ Γ σ H F O rs vs → freezeL rs Γ = some (ds, Γ') → ∃ F', Rep K mg ρ O Γ' σ H F' ∧ Same F F' ∧ RDs K mg F' ds vs ∧ Cells Γ Γ' := by
  intro rs
  induction rs with
  | nil =>
    intro vs ds Γ F R h e
    simp only [RepL] at h
    simp only [freezeL] at e
    cases e
    exact ⟨F, R, Same.refl _, by simp only [RDs]; exact h, Cells.refl⟩
  | cons r rs ih =>
    intro vs ds Γ F R h e
    simp only [RepL] at h
    obtain ⟨v, ws, rfl, h1, h2⟩ := h
    simp only [freezeL] at e
    obtain ⟨⟨d, Γ1⟩, e1, e⟩ := obind e
    obtain ⟨⟨es, Γ2⟩, e2, e3⟩ := omap e
    cases e3
    have R1 : Rep K mg ρ (orO O (frL rs ws)) Γ σ H F := R.pendL h2
    have h1' : RepEV K mg ρ (orO O (frL rs ws)) Γ σ H F r v := by
      cases r with
      | fresh d =>
        obtain ⟨p, q1, q2, q3, q4⟩ := h1
        refine ⟨p, q1, q2, fun z => ?_, q4⟩
        rcases z with z | z
        · exact q3 z
        · exact frL_out h2 p z (.inr q1)
      | _ => exact h1
    obtain ⟨F1, R1', s1, rd, c1⟩ := freeze_ok R1 h1' e1
    have h2' : RepL K mg ρ Γ1 σ H F1 O rs ws := by
      have := RepL.later (O' := O) h2 R1' s1 (fun _ _ => rfl) c1
      clear ih e2
      -- weaken the bound on addresses
      have wk : ∀ {rs : List EV} {ws : List V} {O1 O2 : Addr → Prop}, (∀ a, O2 a → O1 a) → RepL K mg ρ Γ1 σ H F1 O1 rs ws → RepL K mg ρ Γ1 σ H F1 O2 rs ws := by
        intro rs
        induction rs with
        | nil => intro ws O1 O2 _ h; exact h
        | cons r rs ih =>
          intro ws O1 O2 hO h
          simp only [RepL] at h ⊢
          obtain ⟨v, us, rfl, a1, a2⟩ := h
          refine ⟨v, us, rfl, a1.weakO hO, ih (fun a z => ?_) a2⟩
          rcases z with z | z
          · exact .inl (hO a z)
          · exact .inr z
      exact wk (fun a z => .inl z) this
    obtain ⟨F2, R2, s2, rds, c2⟩ := ih (R1'.weakO fun a z => .inl z) h2' e2
    refine ⟨F2, R2, s1.trans s2, ?_, c1.trans c2⟩
    simp only [RDs]
    exact ⟨v, ws, rfl, RD.mono s2 _ _ rd, rds⟩
end
section
variable {X : Cx} {e : Expr} {es : List Expr} {m : M} {ml : ML} {pos : Pos}
theorem va_nil : VA X [] mNil := by
  refine pa_of pa_nil fun σ H Q h => ?_
  obtain ⟨ρ, O, Γ, F, rs, Γ', R, e, k⟩ := h
  cases e
  exact k [] H F (Stp.refl R) Cells.refl (by simp only [RepL])
theorem va_cons (ha : VE X e m) (hr : VA X es ml) (hs : starEach (e :: es) X.env = (false, eval e X.env) :: starEach es X.env := by rfl) : VA X (e :: es) (mCons m ml) := by
  refine pa_of (pa_cons ha hr hs) fun σ H Q h => ?_
  obtain ⟨ρ, O, Γ, F, rs, Γ', R, e, k⟩ := h
  obtain ⟨⟨r, Γ1⟩, e1, e⟩ := obind e
  obtain ⟨⟨rs', Γ2⟩, e2, e3⟩ := omap e
  cases e3
  refine tV_run R e1 fun v H1 F1 s1 c1 r1 => ?_
  refine tL_run (s1.rep.pend r1) e2 fun vs H2 F2 s2 c2 r2 => ?_
  refine k (v :: vs) H2 F2 (s1.trans (s2.weakO orO_l)) (c1.trans c2) ?_
  simp only [RepL]
  exact ⟨v, vs, rfl, r1.later s1.rep s2.rep s2.fs s2.op c2, r2⟩
/-! ### displays -/
def mList (ml : ML) : M := fun Γ => (ml Γ).bind fun p => (freezeL p.1 p.2).bind fun q => if q.1.length ≤ sizeLine then some (.fresh (.lst q.1), q.2) else none
def mTup (ml : ML) : M := fun Γ => (ml Γ).bind fun p => (freezeL p.1 p.2).bind fun q => if q.1.length ≤ sizeLine then some (.val (.tup q.1), q.2) else none
theorem ve_list (h : VA X es ml) : VE X (.List es pos) (mList ml) := by
  refine pe_of (pe_lst h) fun σ H Q h => ?_
  obtain ⟨ρ, O, Γ, F, r, Γ', R, e, k⟩ := h
  obtain ⟨⟨rs, Γ1⟩, e1, e⟩ := obind e
  obtain ⟨⟨ds, Γ2⟩, e2, e⟩ := obind e
  refine tL_run R e1 fun vs H1 F1 s1 c1 r1 => ?_
  obtain ⟨F2, R2, s2, rd, c2⟩ := freezeL_ok s1.rep r1 e2
  split at e
  · rename_i hz
    cases e
    have s12 : Stp X.K X.mg ρ O Γ2 σ H F H1 F2 := ⟨R2, s1.fs.trans s2, s1.op⟩
    refine ⟨by rw [← rd.length]; exact hz, fun p hn => ?_⟩
    exact gq_list R2.le (fun v H3 F3 g hr => k v H3 F3 (s12.trans (Stp.grow R2 g)) (c1.trans c2) (res_ev R2 g hr)) rd p hn
  · cases e
theorem ve_tup {x1} (h : VA X es ml) : VE X (.Tuple es x1 pos) (mTup ml) := by
  refine pe_of (pe_tup h) fun σ H Q h => ?_
  obtain ⟨ρ, O, Γ, F, r, Γ', R, e, k⟩ := h
  obtain ⟨⟨rs, Γ1⟩, e1, e⟩ := obind e
  obtain ⟨⟨ds, Γ2⟩, e2, e⟩ := obind e
  refine tL_run R e1 fun vs H1 F1 s1 c1 r1 => ?_
  obtain ⟨F2, R2, s2, rd, c2⟩ := freezeL_ok s1.rep r1 e2
  split at e
  · rename_i hz
    cases e
    have s12 : Stp X.K X.mg ρ O Γ2 σ H F H1 F2 := ⟨R2, s1.fs.trans s2, s1.op⟩
    refine ⟨by rw [← rd.length]; exact hz, fun p hn => ?_⟩
    exact gq_tup R2.le (fun v H3 F3 g hr => k v H3 F3 (s12.trans (Stp.grow R2 g)) (c1.trans c2) (res_ev R2 g hr)) rd p hn
  · cases e
/-! ### calls of what only reads -/
def CallV (K : PySem.W.Frag) (mg : Str → Option Value) (r : List V → Hp → VK → Prop) (g : List D → Option EV) : Prop :=
  ∀ (F H : Hp) (xs : List V) (ds : List D) (res : EV) (Q : VK), Same F H → RPs K mg F H ds xs → g ds = some res → GQ K mg F H res Q → r xs H Q
def CallX (X : Cx) (f : Value) (g : List D → Option EV) : Prop := ∃ r, CallR X f r ∧ CallV X.K X.mg r g
def mCallB (g : List D → Option EV) (ml : ML) : M := fun Γ => (ml Γ).bind fun p => (peekL p.2 p.1).bind fun ds => (g ds).map fun r => (r, p.2)
theorem callB_run {r : List V → Hp → VK → Prop} {g : List D → Option EV} (hv : CallV X.K X.mg r g) {σ : L2.St} {H : Hp} {Q : VK} (h : tV X.K X.mg (mCallB g ml) σ H Q) : tCB r (tL X.K X.mg ml) σ H Q := by
  obtain ⟨ρ, O, Γ, F, res, Γ', R, e, k⟩ := h
  obtain ⟨⟨rs, Γ1⟩, e1, e⟩ := obind e
  obtain ⟨ds, e2, e⟩ := obind e
  obtain ⟨res', e3, e4⟩ := omap e
  cases e4
  refine tL_run R e1 fun vs H1 F1 s1 c1 r1 => ?_
  exact hv F1 H1 vs ds res Q s1.rep.le (peekL_ok s1.rep r1 e2) e3 fun v H2 F2 g hr => k v H2 F2 (s1.trans (Stp.grow s1.rep g)) c1 (res_ev s1.rep g hr)
theorem ve_callB {id : String} {g : List D → Option EV} {x : Str} {p : Pos} (hc : CallX X (.builtin id) g) (hm : X.mg x = none) (ha : VA X (e :: es) ml) (hv : bootBuiltins x = some (.builtin id) := by decide +kernel) (hg : Gl X x := by rfl) (hn : x ≠ "__name__" := by decide)
    (hdb : (x == ("__debug__" : Str)) = false := by decide) (he : starEach (e :: es) X.env = (false, eval e X.env) :: starEach es X.env := by rfl) (hpl : (backTo pos (starEach es X.env)).any (·.1) = false := by rfl) : VE X (.Call (.Name x p) (e :: es) [] pos) (mCallB g ml) := by
  obtain ⟨r, h1, h2⟩ := hc
  exact pe_of (pe_callB h1 hg hm hv ha hn hdb he hpl) fun σ H Q h => callB_run h2 h
theorem ve_callTy {T : String} {g : List D → Option EV} {x : Str} {p : Pos} (hc : CallX X (.type T) g) (hm : X.mg x = none) (ha : VA X (e :: es) ml) (hv : bootBuiltins x = some (.type T) := by decide +kernel) (hg : Gl X x := by rfl) (hn : x ≠ "__name__" := by decide)
    (hdb : (x == ("__debug__" : Str)) = false := by decide) (he : starEach (e :: es) X.env = (false, eval e X.env) :: starEach es X.env := by rfl) (hpl : (backTo pos (starEach es X.env)).any (·.1) = false := by rfl) : VE X (.Call (.Name x p) (e :: es) [] pos) (mCallB g ml) := by
  obtain ⟨r, h1, h2⟩ := hc
  exact pe_of (pe_callTy h1 hg hm hv ha hn hdb he hpl) fun σ H Q h => callB_run h2 h
theorem callx_or {f : Value} {g g1 g2 : List D → Option EV} (h1 : CallX X f g1) (h2 : CallX X f g2) (h : ∀ d r, g d = some r → g1 d = some r ∨ g2 d = some r) : CallX X f g := by
  obtain ⟨r1, a1, b1⟩ := h1
  obtain ⟨r2, a2, b2⟩ := h2
  refine ⟨_, a1.or a2, fun F H xs ds res Q hl rx hg k => ?_⟩
  rcases h ds res hg with z | z
  · exact .inl (b1 F H xs ds res Q hl rx z k)
  · exact .inr (b2 F H xs ds res Q hl rx z k)
theorem RPs.one {K : PySem.W.Frag} {mg : Str → Option Value} {F H : Hp} {d : D} {vs : List V} (h : RPs K mg F H [d] vs) : ∃ v, vs = [v] ∧ RP K mg F H d v := by
  simp only [RPs] at h
  obtain ⟨v, ws, rfl, h, rfl⟩ := h
  exact ⟨v, rfl, h⟩
theorem RPs.two {K : PySem.W.Frag} {mg : Str → Option Value} {F H : Hp} {d e : D} {vs : List V} (h : RPs K mg F H [d, e] vs) : ∃ v w, vs = [v, w] ∧ RP K mg F H d v ∧ RP K mg F H e w := by
  simp only [RPs] at h
  obtain ⟨v, ws, rfl, h, u, us, rfl, h', rfl⟩ := h
  exact ⟨v, u, rfl, h, h'⟩
def lenD : List D → Option EV
  | [.str s] => some (.val (.int s.length))
  | [.lst xs] => some (.val (.int xs.length))
  | [.tup xs] => some (.val (.int xs.length))
  | _ => none
theorem cx_len : CallX X (.builtin "len") lenD := by
  refine ⟨_, call_len, fun F H xs ds res Q hl rx hg k => ?_⟩
  unfold lenD at hg
  split at hg
  · rename_i s
    cases hg
    obtain ⟨v, rfl, h⟩ := rx.one
    obtain ⟨rfl, ok⟩ := h.str
    exact ⟨_, s.length, rfl, ⟨by simpa [Str.length] using ok.1, by simp [Str.length]⟩, gq_val hl k (by simp only [RD])⟩
  · rename_i s
    cases hg
    obtain ⟨v, rfl, h⟩ := rx.one
    obtain ⟨a, vs, rfl, h1, h2⟩ := h.lst hl
    exact ⟨_, s.length, rfl, .inl ⟨vs, h1, h2.length⟩, gq_val hl k (by simp only [RD])⟩
  · rename_i s
    cases hg
    obtain ⟨v, rfl, h⟩ := rx.one
    obtain ⟨a, vs, rfl, h1, h2⟩ := h.tup hl
    exact ⟨_, s.length, rfl, .inr ⟨vs, h1, h2.length⟩, gq_val hl k (by simp only [RD])⟩
  · cases hg
def absD : List D → Option EV
  | [.int i] => some (.val (.int (if i < 0 then -i else i)))
  | _ => none
theorem cx_abs : CallX X (.builtin "abs") absD := by
  refine ⟨_, call_abs, fun F H xs ds res Q hl rx hg k => ?_⟩
  unfold absD at hg
  split at hg
  · cases hg
    obtain ⟨v, rfl, h⟩ := rx.one
    exact ⟨_, by rw [h.int], gq_val hl k (by simp only [RD])⟩
  · cases hg
def intD : List D → Option EV
  | [.int i] => some (.val (.int i))
  | [.bl b] => some (.val (.int (if b then 1 else 0)))
  | _ => none
theorem cx_int : CallX X (.type "int") intD := by
  refine ⟨_, call_int1, fun F H xs ds res Q hl rx hg k => ?_⟩
  unfold intD at hg
  split at hg
  · cases hg
    obtain ⟨v, rfl, h⟩ := rx.one
    exact .inl ⟨_, by rw [h.int], gq_val hl k (by simp only [RD])⟩
  · cases hg
    obtain ⟨v, rfl, h⟩ := rx.one
    exact .inr ⟨_, by rw [h.bl], gq_val hl k (by simp only [RD])⟩
  · cases hg
/-- max and min of two ints; of a list of ints -/
def maxI : List Int → Int
  | [] => 0
  | x :: xs => xs.foldl (fun a b => if a < b then b else a) x
def minI : List Int → Int
  | [] => 0
  | x :: xs => xs.foldl (fun a b => if b < a then b else a) x
theorem foldmax (xs : List Int) : ∀ a : Int, (xs.foldl (fun a b => if a < b then b else a) a ∈ a :: xs) ∧ (∀ y ∈ a :: xs, y ≤ xs.foldl (fun a b => if a < b then b else a) a) := by
  induction xs with
  | nil => intro a; simp
  | cons b xs ih =>
    intro a
    rw [List.foldl_cons]
    by_cases h : a < b
    · rw [if_pos h]
      obtain ⟨i1, i2⟩ := ih b
      refine ⟨List.mem_cons_of_mem _ i1, fun y hy => ?_⟩
      rcases List.mem_cons.mp hy with rfl | hy
      · have := i2 b (List.mem_cons_self); omega
      · exact i2 y hy
    · rw [if_neg h]
      obtain ⟨i1, i2⟩ := ih a
      refine ⟨?_, fun y hy => ?_⟩
      · rcases List.mem_cons.mp i1 with z | z
        · rw [z]; exact List.mem_cons_self
        · exact List.mem_cons_of_mem _ (List.mem_cons_of_mem _ z)
      · rcases List.mem_cons.mp hy with rfl | hy
        · exact i2 y List.mem_cons_self
        · rcases List.mem_cons.mp hy with rfl | hy
          · have := i2 a (List.mem_cons_self); omega
          · exact i2 y (List.mem_cons_of_mem _ hy)
theorem foldmin (xs : List Int) : ∀ a : Int, (xs.foldl (fun a b => if b < a then b else a) a ∈ a :: xs) ∧ (∀ y ∈ a :: xs, xs.foldl (fun a b => if b < a then b else a) a ≤ y) := by
  induction xs with
  | nil => intro a; simp
  | cons b xs ih =>
    intro a
    rw [List.foldl_cons]
    by_cases h : b < a
    · rw [if_pos h]
      obtain ⟨i1, i2⟩ := ih b
      refine ⟨List.mem_cons_of_mem _ i1, fun y hy => ?_⟩
      rcases List.mem_cons.mp hy with rfl | hy
      · have := i2 b (List.mem_cons_self); omega
      · exact i2 y hy
    · rw [if_neg h]
      obtain ⟨i1, i2⟩ := ih a
      refine ⟨?_, fun y hy => ?_⟩
      · rcases List.mem_cons.mp i1 with z | z
        · rw [z]; exact List.mem_cons_self
        · exact List.mem_cons_of_mem _ (List.mem_cons_of_mem _ z)
      · rcases List.mem_cons.mp hy with rfl | hy
        · exact i2 y List.mem_cons_self
        · rcases List.mem_cons.mp hy with rfl | hy
          · have := i2 a (List.mem_cons_self); omega
          · exact i2 y (List.mem_cons_of_mem _ hy)
theorem maxI_of {ns : List Int} {m : Int} (h : m ∈ ns) (h2 : ∀ y ∈ ns, y ≤ m) : m = maxI ns := by
  cases ns with
  | nil => cases h
  | cons x xs =>
    obtain ⟨i1, i2⟩ := foldmax xs x
    have a := h2 _ i1
    have b := i2 m h
    have e : maxI (x :: xs) = xs.foldl (fun a b => if a < b then b else a) x := rfl
    rw [e]
    omega
theorem minI_of {ns : List Int} {m : Int} (h : m ∈ ns) (h2 : ∀ y ∈ ns, m ≤ y) : m = minI ns := by
  cases ns with
  | nil => cases h
  | cons x xs =>
    obtain ⟨i1, i2⟩ := foldmin xs x
    have a := h2 _ i1
    have b := i2 m h
    have e : minI (x :: xs) = xs.foldl (fun a b => if b < a then b else a) x := rfl
    rw [e]
    omega
theorem maxI_mem {ns : List Int} (h : ns ≠ []) : maxI ns ∈ ns ∧ ∀ y ∈ ns, y ≤ maxI ns := by
  cases ns with
  | nil => exact absurd rfl h
  | cons x xs => exact foldmax xs x
theorem minI_mem {ns : List Int} (h : ns ≠ []) : minI ns ∈ ns ∧ ∀ y ∈ ns, minI ns ≤ y := by
  cases ns with
  | nil => exact absurd rfl h
  | cons x xs => exact foldmin xs x
def maxD : List D → Option EV
  | [.int i, .int j] => some (.val (.int (if j > i then j else i)))
  | [.lst xs] => (intsOf xs).bind fun ns => if ns ≠ [] then some (.val (.int (maxI ns))) else none
  | _ => none
def minD : List D → Option EV
  | [.int i, .int j] => some (.val (.int (if j < i then j else i)))
  | [.lst xs] => (intsOf xs).bind fun ns => if ns ≠ [] then some (.val (.int (minI ns))) else none
  | _ => none
theorem RP.ints {K : PySem.W.Frag} {mg : Str → Option Value} {F H : Hp} {ds : List D} {ns : List Int} {v : V} (hl : Same F H) (h : RP K mg F H (.lst ds) v) (e : intsOf ds = some ns) : ∃ a, v = .ref a ∧ SqL K H a (ns.map V.int) := by
  obtain ⟨a, vs, rfl, h1, h2⟩ := h.lst hl
  rw [intsOf_map e] at h2
  rw [h2.ints] at h1
  exact ⟨a, rfl, h1⟩
theorem cx_max (hc : X.calm = true) : CallX X (.builtin "max") maxD := by
  refine ⟨_, (call_max2 hc).or (cr_max hc), fun F H xs ds res Q hl rx hg k => ?_⟩
  unfold maxD at hg
  split at hg
  · cases hg
    obtain ⟨v, w, rfl, h, h'⟩ := rx.two
    exact .inl ⟨_, _, by rw [h.int, h'.int], gq_val hl k (by simp only [RD])⟩
  · obtain ⟨ns, e1, hg⟩ := obind hg
    split at hg
    · rename_i hne
      cases hg
      obtain ⟨v, rfl, h⟩ := rx.one
      obtain ⟨a, rfl, h1⟩ := h.ints hl e1
      refine .inr ⟨a, ns, rfl, h1, List.length_pos_iff.mpr hne, fun m hm hy => ?_⟩
      rw [maxI_of hm hy]
      exact gq_val hl k (by simp only [RD])
    · cases hg
  · cases hg
theorem cx_min (hc : X.calm = true) : CallX X (.builtin "min") minD := by
  refine ⟨_, (call_min2 hc).or (cr_min hc), fun F H xs ds res Q hl rx hg k => ?_⟩
  unfold minD at hg
  split at hg
  · cases hg
    obtain ⟨v, w, rfl, h, h'⟩ := rx.two
    exact .inl ⟨_, _, by rw [h.int, h'.int], gq_val hl k (by simp only [RD])⟩
  · obtain ⟨ns, e1, hg⟩ := obind hg
    split at hg
    · rename_i hne
      cases hg
      obtain ⟨v, rfl, h⟩ := rx.one
      obtain ⟨a, rfl, h1⟩ := h.ints hl e1
      refine .inr ⟨a, ns, rfl, h1, List.length_pos_iff.mpr hne, fun m hm hy => ?_⟩
      rw [minI_of hm hy]
      exact gq_val hl k (by simp only [RD])
    · cases hg
  · cases hg
def sumD : List D → Option EV
  | [.lst xs] => (intsOf xs).map fun ns => .val (.int ns.sum)
  | _ => none
theorem cx_sum (hc : X.calm = true) : CallX X (.builtin "sum") sumD := by
  refine ⟨_, cr_sum hc, fun F H xs ds res Q hl rx hg k => ?_⟩
  unfold sumD at hg
  split at hg
  · obtain ⟨ns, e1, e2⟩ := omap hg
    subst e2
    obtain ⟨v, rfl, h⟩ := rx.one
    obtain ⟨a, rfl, h1⟩ := h.ints hl e1
    exact ⟨a, ns, rfl, h1, gq_val hl k (by simp only [RD])⟩
  · cases hg
def blsOf : List D → Option (List Bool)
  | [] => some []
  | .bl i :: r => (blsOf r).map (i :: ·)
  | _ => none
theorem blsOf_map : ∀ {ds : List D} {ns : List Bool}, blsOf ds = some ns → ds = ns.map D.bl
  | [], ns, h => by simp only [blsOf] at h; cases h; rfl
  | d :: r, ns, h => by
    cases d <;> simp only [blsOf] at h <;> first
      | cases h; done
      | (obtain ⟨ms, h1, rfl⟩ := omap h
         rw [blsOf_map h1]; rfl)
theorem blsOf_of (ns : List Bool) : blsOf (ns.map D.bl) = some ns := by
  induction ns with
  | nil => rfl
  | cons n ns ih => simp only [List.map_cons, blsOf, ih, Option.map_some]
theorem RP.bls {K : PySem.W.Frag} {mg : Str → Option Value} {F H : Hp} {ds : List D} {ns : List Bool} {v : V} (hl : Same F H) (h : RP K mg F H (.lst ds) v) (e : blsOf ds = some ns) : ∃ a, v = .ref a ∧ SqL K H a (ns.map V.bl) := by
  obtain ⟨a, vs, rfl, h1, h2⟩ := h.lst hl
  rw [blsOf_map e] at h2
  rw [h2.bls] at h1
  exact ⟨a, rfl, h1⟩
def allD : List D → Option EV
  | [.lst xs] => (blsOf xs).map fun ns => .val (.bl (ns.all id))
  | _ => none
def anyD : List D → Option EV
  | [.lst xs] => (blsOf xs).map fun ns => .val (.bl (ns.any id))
  | _ => none
theorem cx_all (hc : X.calm = true) : CallX X (.builtin "all") allD := by
  refine ⟨_, cr_all hc, fun F H xs ds res Q hl rx hg k => ?_⟩
  unfold allD at hg
  split at hg
  · obtain ⟨ns, e1, e2⟩ := omap hg
    subst e2
    obtain ⟨v, rfl, h⟩ := rx.one
    obtain ⟨a, rfl, h1⟩ := h.bls hl e1
    exact ⟨a, ns, rfl, h1, gq_val hl k (by simp only [RD])⟩
  · cases hg
theorem cx_any (hc : X.calm = true) : CallX X (.builtin "any") anyD := by
  refine ⟨_, cr_any hc, fun F H xs ds res Q hl rx hg k => ?_⟩
  unfold anyD at hg
  split at hg
  · obtain ⟨ns, e1, e2⟩ := omap hg
    subst e2
    obtain ⟨v, rfl, h⟩ := rx.one
    obtain ⟨a, rfl, h1⟩ := h.bls hl e1
    exact ⟨a, ns, rfl, h1, gq_val hl k (by simp only [RD])⟩
  · cases hg
/-- tuple(x), list(x) of a list or a tuple -/
def tupleD : List D → Option EV
  | [.lst xs] => some (.val (.tup xs))
  | [.tup xs] => some (.val (.tup xs))
  | _ => none
theorem cx_tuple : CallX X (.type "tuple") tupleD := by
  refine ⟨_, call_tuple_of, fun F H xs ds res Q hl rx hg k => ?_⟩
  unfold tupleD at hg
  split at hg
  · cases hg
    obtain ⟨v, rfl, h⟩ := rx.one
    obtain ⟨a, vs, rfl, h1, h2⟩ := h.lst hl
    exact ⟨a, vs, rfl, .inl ⟨h1, gq_tup hl k h2⟩⟩
  · cases hg
    obtain ⟨v, rfl, h⟩ := rx.one
    obtain ⟨a, vs, rfl, h1, h2⟩ := h.tupF
    exact ⟨a, vs, rfl, .inr ⟨sqT_mono hl h1, gq_val hl k (by simp only [RD]; exact ⟨a, vs, rfl, h1, h2⟩)⟩⟩
  · cases hg
def listD : List D → Option EV
  | [.lst xs] => some (.fresh (.lst xs))
  | [.tup xs] => some (.fresh (.lst xs))
  | _ => none
theorem cx_list : CallX X (.type "list") listD := by
  refine ⟨_, call_list_of, fun F H xs ds res Q hl rx hg k => ?_⟩
  unfold listD at hg
  split at hg
  · cases hg
    obtain ⟨v, rfl, h⟩ := rx.one
    obtain ⟨a, vs, rfl, h1, h2⟩ := h.lst hl
    exact ⟨a, vs, rfl, .inl h1, gq_list hl k h2⟩
  · cases hg
    obtain ⟨v, rfl, h⟩ := rx.one
    obtain ⟨a, vs, rfl, h1, h2⟩ := h.tup hl
    exact ⟨a, vs, rfl, .inr h1, gq_list hl k h2⟩
  · cases hg
/-! ### isinstance -/
def tyOf : D → Option String
  | .non => some "NoneType"
  | .bl _ => some "bool"
  | .int _ => some "int"
  | .str _ => some "str"
  | .tup _ => some "tuple"
  | .lst _ => some "list"
  | .dict _ => some "dict"
  | _ => none
def isiD : List D → Option EV
  | [d, .ty n] => (tyOf d).bind fun t => if n ∈ ["int", "bool", "str", "list", "tuple", "dict"] then some (.val (.bl (t == n || (t == "bool" && n == "int")))) else none
  | _ => none
theorem tyX_of {K : PySem.W.Frag} {mg : Str → Option Value} {F H : Hp} {d : D} {v : V} {t : String} (hl : Same F H) (r : RP K mg F H d v) (h : tyOf d = some t) : TyX K H v (.type t) := by
  cases d <;> simp only [tyOf] at h <;> first
    | (cases h; done)
    | (cases h; rw [r.non]; exact .base .non)
    | (cases h; rw [r.bl]; exact .base (.bl _))
    | (cases h; rw [r.int]; exact .base (.int _))
    | (cases h; rw [r.str.1]; exact .base (.str _))
    | (cases h
       obtain ⟨a, vs, rfl, h1, h2⟩ := r.tup hl
       rcases h1 with (h1 | ⟨o, h1⟩) | ⟨o, its, n, e1, e2, _⟩
       · exact .base (.tup h1)
       · exact .fTuple h1
       · exact .kTuple e1 e2)
    | (cases h
       obtain ⟨a, vs, rfl, h1, h2⟩ := r.lst hl
       rcases h1 with (h1 | ⟨o, h1⟩) | ⟨o, its, n, e1, e2, _⟩
       · exact .base (.lst h1)
       · exact .base (.frz h1)
       · exact .kList e1 e2)
    | (cases h
       rcases r with r | ⟨a, rfl, _, r⟩
       · simp only [RD] at r
         obtain ⟨a, rfl, ⟨kvs, e, _⟩ | ⟨kvs, e, _⟩⟩ := r
         · exact .base (.dK (hl _ _ e))
         · exact .base (.dT (hl _ _ e))
       · rcases r with ⟨kvs, e, _⟩ | ⟨kvs, e, _⟩
         · exact .base (.dK e)
         · exact .base (.dT e))
theorem kits : (["NoneType", "bool", "int", "str", "tuple", "list", "dict"].all fun t => ["int", "bool", "str", "list", "tuple", "dict"].all fun n => kitB t n == some (t == n || (t == "bool" && n == "int"))) = true := by decide +kernel
theorem tyOf_mem {d : D} {t : String} (h : tyOf d = some t) : t ∈ ["NoneType", "bool", "int", "str", "tuple", "list", "dict"] := by
  cases d <;> simp only [tyOf] at h <;> cases h <;> simp
theorem RP.ty {K : PySem.W.Frag} {mg : Str → Option Value} {F H : Hp} {n : String} {v : V} (r : RP K mg F H (.ty n) v) : v = .ty n := by
  rcases r with r | ⟨a, _, _, r⟩
  · simpa only [RD] using r
  · simp only at r
theorem cx_isi : CallX X (.builtin "isinstance") isiD := by
  refine ⟨_, call_isi, fun F H xs ds res Q hl rx hg k => ?_⟩
  unfold isiD at hg
  split at hg
  · rename_i d n
    obtain ⟨t, e1, hg⟩ := obind hg
    split at hg
    · rename_i hn
      cases hg
      obtain ⟨v, w, rfl, h, h'⟩ := rx.two
      have q := List.all_eq_true.mp (List.all_eq_true.mp kits t (tyOf_mem e1)) n hn
      have q' : kitB t n = some (t == n || (t == "bool" && n == "int")) := by simpa using q
      exact ⟨v, w, .type t, .type n, _, rfl, by rw [h'.ty]; exact .ty n, tyX_of hl h e1, kit_ty q', gq_val hl k (by simp only [RD])⟩
    · cases hg
  · cases hg
/-- a built-in class as a value -/
theorem ve_ty {x : Str} {p : Pos} (n : String) (hm : X.mg x = none) (hv : bootBuiltins x = some (.type n) := by decide +kernel) (hg : Gl X x := by rfl) (hn : x ≠ "__name__" := by decide) (hdb : (x == ("__debug__" : Str)) = false := by decide) : VE X (.Name x p) (mC (.ty n)) :=
  ve_const (v := .ty n) (pe_bltn hg hm hv rfl hn hdb) fun F => by simp only [RD]
/-! ### a[b] -/
def ixD : D → D → Option EV
  | .lst xs, .int i => (atI xs i).map .val
  | .tup xs, .int i => (atI xs i).map .val
  | .str s, .int i => (atI s i).map fun c => .val (.str [c])
  | _, _ => none
theorem atI_RDs {K : PySem.W.Frag} {mg : Str → Option Value} {F : Hp} {ds : List D} {vs : List V} {i : Int} {d : D} (h : RDs K mg F ds vs) (e : atI ds i = some d) : ∃ v, atI vs i = some v ∧ RD K mg F d v := by
  unfold atI at e ⊢
  obtain ⟨j, e1, e2⟩ := obind e
  rw [← h.length, e1]
  obtain ⟨v, h1, h2⟩ := h.get e2
  exact ⟨v, h1, h2⟩
theorem atI_mem {α : Type} {xs : List α} {i : Int} {c : α} (h : atI xs i = some c) : c ∈ xs := by
  unfold atI at h
  obtain ⟨j, _, e⟩ := obind h
  exact List.mem_of_getElem? e
theorem ve_ix {a b : Expr} {ma mb : M} (ha : VE X a ma) (hb : VE X b mb) (hs : PlainIx b := by intro _ _; rfl) : VE X (.Subscript a b pos) (mBin ixD ma mb) := by
  refine pe_of (pe_ix ix_seq ha hb hs) fun σ H Q h => ?_
  obtain ⟨ρ, O, Γ, F, res, Γ', R, e, k⟩ := h
  obtain ⟨⟨ra, Γ1⟩, e1, e⟩ := obind e
  obtain ⟨⟨rb, Γ2⟩, e2, e⟩ := obind e
  obtain ⟨dx, e3, e⟩ := obind e
  obtain ⟨dy, e4, e⟩ := obind e
  obtain ⟨res', e5, e6⟩ := omap e
  cases e6
  refine seq2 R e1 e2 fun x y H' F' s c rx ry => ?_
  have px := peek_ok s.rep rx e3
  have py := peek_ok s.rep (ry.weakO orO_l) e4
  have kk : GQ X.K X.mg F' H' res Q := fun v H2 F2 g hr => k v H2 F2 (s.trans (Stp.grow s.rep g)) c (res_ev s.rep g hr)
  unfold ixD at e5
  split at e5
  · obtain ⟨d, e7, rfl⟩ := omap e5
    obtain ⟨a, vs, rfl, h1, h2⟩ := px.lst s.rep.le
    obtain ⟨v, h3, h4⟩ := atI_RDs h2 e7
    exact .inl ⟨a, vs, _, v, rfl, py.int, h1, h3, gq_val s.rep.le kk h4⟩
  · obtain ⟨d, e7, rfl⟩ := omap e5
    obtain ⟨a, vs, rfl, h1, h2⟩ := px.tup s.rep.le
    obtain ⟨v, h3, h4⟩ := atI_RDs h2 e7
    exact .inr (.inl ⟨a, vs, _, v, rfl, py.int, h1, h3, gq_val s.rep.le kk h4⟩)
  · obtain ⟨d, e7, rfl⟩ := omap e5
    obtain ⟨rfl, ok⟩ := px.str
    refine .inr (.inr ⟨_, _, d, rfl, py.int, by simpa [Str.length] using ok.1, by simpa using e7, gq_val s.rep.le kk ?_⟩)
    simp only [RD]
    refine ⟨trivial, by show 1 ≤ sizeLine; decide, fun c hc => ?_⟩
    have : c = d := by simpa using hc
    rw [this]
    exact ok.2 d (atI_mem e7)
  · cases e5
/-! ### slices -/
def mPN : VEnv → Option (Option Int × VEnv) := fun Γ => some (none, Γ)
def mPS (m : M) : VEnv → Option (Option Int × VEnv) := fun Γ => (m Γ).bind fun p => match p.1 with
  | .val (.int i) => some (some i, p.2)
  | _ => none
def tP (K : PySem.W.Frag) (mg : Str → Option Value) (m : VEnv → Option (Option Int × VEnv)) : TO := fun σ H Q => ∃ ρ O Γ F r Γ', Rep K mg ρ O Γ σ H F ∧ m Γ = some (r, Γ') ∧
  ∀ H' F', Stp K mg ρ O Γ' σ H F H' F' → Cells Γ Γ' → Q r H'
abbrev VO (X : Cx) (e : Option Expr) (m : VEnv → Option (Option Int × VEnv)) : Prop := PO X e (tP X.K X.mg m)
theorem vo_none : VO X none mPN := ⟨fun pins s σ H Q I h => by
  obtain ⟨ρ, O, Γ, F, r, Γ', R, e, k⟩ := h
  cases e
  exact po_none.run pins s σ H Q I (k H F (Stp.refl R) Cells.refl)⟩
theorem vo_some (h : VE X e m) : VO X (some e) (mPS m) := ⟨fun pins s σ H Q I hh => by
  obtain ⟨ρ, O, Γ, F, r, Γ', R, e, k⟩ := hh
  obtain ⟨⟨q, Γ1⟩, e1, e⟩ := obind e
  refine (po_some h).run pins s σ H Q I (tV_run R e1 fun v H1 F1 s1 c1 r1 => ?_)
  cases q with
  | val d =>
    cases d with
    | int i =>
      cases e
      have : v = .int i := by simpa only [RepEV, RD] using r1
      exact ⟨i, this, k H1 F1 s1 c1⟩
    | _ => cases e
  | _ => cases e⟩
def cutL {α : Type} (xs : List α) (lo hi : Option Int) : List α := (xs.drop (HT.sIx xs.length 0 lo)).take (HT.sIx xs.length xs.length hi - HT.sIx xs.length 0 lo)
def slD (d : D) (lo hi : Option Int) : Option EV := match d with
  | .lst xs => some (.fresh (.lst (cutL xs lo hi)))
  | .tup xs => some (.val (.tup (cutL xs lo hi)))
  | .str s => some (.val (.str (cutL s lo hi)))
  | _ => none
def mSl (m : M) (lo hi : VEnv → Option (Option Int × VEnv)) : M := fun Γ => (m Γ).bind fun p => (lo p.2).bind fun l => (hi l.2).bind fun u => (peek u.2 p.1).bind fun d => (slD d l.1 u.1).map fun r => (r, u.2)
theorem RDs.cut {K : PySem.W.Frag} {mg : Str → Option Value} {F : Hp} {ds : List D} {vs : List V} (h : RDs K mg F ds vs) (lo hi : Option Int) : RDs K mg F (cutL ds lo hi) (cutV vs lo hi) := by
  unfold cutL cutV
  rw [h.length]
  exact (h.drop _).take _
theorem cutL_whole {α : Type} {xs : List α} {lo hi : Option Int} (h : HT.sIx xs.length 0 lo = 0 ∧ HT.sIx xs.length xs.length hi = xs.length) : cutL xs lo hi = xs := by
  unfold cutL
  rw [h.1, h.2]
  simp
theorem cutS_eq (s : List Nat) (lo hi : Option Int) : cutS ⟨s.toArray⟩ lo hi = ⟨(cutL s lo hi).toArray⟩ := by
  unfold cutS cutL
  simp [Str.length]
theorem OkS.cut {s : List Nat} (h : OkS s) (lo hi : Option Int) : OkS (cutL s lo hi) := by
  unfold cutL
  refine ⟨?_, fun c hc => h.2 c (List.mem_of_mem_drop (List.mem_of_mem_take hc))⟩
  have := h.1
  simp only [List.length_take, List.length_drop]
  omega
theorem SlR.or3 {r1 r2 r3 : V → Option Int → Option Int → Hp → VK → Prop} (h1 : SlR X r1) (h2 : SlR X r2) (h3 : SlR X r3) : SlR X (fun x lo hi H Q => r1 x lo hi H Q ∨ r2 x lo hi H Q ∨ r3 x lo hi H Q) := h1.or (h2.or h3)
theorem ve_slice {lo hi : Option Expr} {ml mh : VEnv → Option (Option Int × VEnv)} {p2 : Pos} (he : VE X e m) (hl : VO X lo ml) (hu : VO X hi mh) : VE X (.Subscript e (.Slice lo hi none p2) pos) (mSl m ml mh) := by
  refine pe_of (pe_slice (SlR.or3 sl_list sl_tupA sl_str) he hl hu) fun σ H Q h => ?_
  obtain ⟨ρ, O, Γ, F, res, Γ', R, e, k⟩ := h
  obtain ⟨⟨r, Γ1⟩, e1, e⟩ := obind e
  obtain ⟨⟨l, Γ2⟩, e2, e⟩ := obind e
  obtain ⟨⟨u, Γ3⟩, e3, e⟩ := obind e
  obtain ⟨d, e4, e⟩ := obind e
  obtain ⟨res', e5, e6⟩ := omap e
  cases e6
  refine tV_run R e1 fun v H1 F1 s1 c1 r1 => ?_
  refine ⟨ρ, orO O (frs r v), Γ1, F1, l, Γ2, s1.rep.pend r1, e2, fun H2 F2 s2 c2 => ?_⟩
  refine ⟨ρ, orO O (frs r v), Γ2, F2, u, Γ3, s2.rep, e3, fun H3 F3 s3 c3 => ?_⟩
  have s23 := s2.trans s3
  have r3 := r1.later s1.rep s23.rep s23.fs s23.op (c2.trans c3)
  have s : Stp X.K X.mg ρ O Γ3 σ H F H3 F3 := s1.trans (s23.weakO orO_l)
  have kk : GQ X.K X.mg F3 H3 res Q := fun v H2 F2 g hr => k v H2 F2 (s.trans (Stp.grow s.rep g)) (c1.trans (c2.trans c3)) (res_ev s.rep g hr)
  have px := peek_ok s.rep r3 e4
  cases d with
  | lst xs =>
    simp only [slD] at e5
    cases e5
    obtain ⟨a, vs, rfl, h1, h2⟩ := px.lst s.rep.le
    exact .inl ⟨a, vs, rfl, h1, gq_list s.rep.le kk (h2.cut l u)⟩
  | tup xs =>
    simp only [slD] at e5
    cases e5
    obtain ⟨a, vs, rfl, h1, h2⟩ := px.tupF
    refine .inr (.inl ⟨a, vs, rfl, sqT_mono s.rep.le h1, fun hw => ?_, fun _ => gq_tup s.rep.le kk (h2.cut l u)⟩)
    have ew : cutL xs l u = xs := cutL_whole (by rw [h2.length]; exact hw)
    have kk' : GQ X.K X.mg F3 H3 (.val (.tup xs)) Q := by
      have := kk
      simp only [ew] at this
      exact this
    exact gq_val s.rep.le kk' (by simp only [RD]; exact ⟨a, vs, rfl, h1, h2⟩)
  | str s' =>
    simp only [slD] at e5
    cases e5
    obtain ⟨rfl, ok⟩ := px.str
    refine .inr (.inr ⟨_, rfl, by simpa [Str.length] using ok.1, ?_⟩)
    rw [cutS_eq]
    exact gq_val s.rep.le kk (by simp only [RD]; exact ⟨trivial, ok.cut l u⟩)
  | _ => simp only [slD] at e5; cases e5
/-- xs[::-1] of a list -/
def mRev (m : M) : M := fun Γ => (m Γ).bind fun p => (peek p.2 p.1).bind fun d => match d with
  | .lst xs => some (.fresh (.lst xs.reverse), p.2)
  | _ => none
theorem ve_revL {k : Nat} {p1 p2 p3 : Pos} (he : VE X e m) : VE X (.Subscript e (.Slice none none (some (.UnaryOp .USub (.Constant (.int 1) k p1) p2)) p3) pos) (mRev m) := by
  refine pe_of (pe_revL he) fun σ H Q h => ?_
  obtain ⟨ρ, O, Γ, F, res, Γ', R, e, kk⟩ := h
  obtain ⟨⟨r, Γ1⟩, e1, e⟩ := obind e
  obtain ⟨d, e2, e⟩ := obind e
  refine tV_run R e1 fun v H1 F1 s1 c1 r1 => ?_
  have px := peek_ok s1.rep r1 e2
  cases d with
  | lst xs =>
    cases e
    obtain ⟨a, vs, rfl, h1, h2⟩ := px.lst s1.rep.le
    exact ⟨a, vs, rfl, h1, gq_list s1.rep.le (fun v H2 F2 g hr => kk v H2 F2 (s1.trans (Stp.grow s1.rep g)) c1 (res_ev s1.rep g hr)) h2.rev⟩
  | _ => cases e
/-! ### unary minus -/
def negD : D → Option EV
  | .int i => some (.val (.int (-i)))
  | _ => none
def mUn (g : D → Option EV) (m : M) : M := fun Γ => (m Γ).bind fun p => (peek p.2 p.1).bind fun d => (g d).map fun r => (r, p.2)
theorem ve_neg (he : VE X e m) : VE X (.UnaryOp .USub e pos) (mUn negD m) := by
  refine pe_of (pe_un un_neg he) fun σ H Q h => ?_
  obtain ⟨ρ, O, Γ, F, res, Γ', R, e, kk⟩ := h
  obtain ⟨⟨r, Γ1⟩, e1, e⟩ := obind e
  obtain ⟨d, e2, e⟩ := obind e
  obtain ⟨res', e3, e4⟩ := omap e
  cases e4
  refine tV_run R e1 fun v H1 F1 s1 c1 r1 => ?_
  have px := peek_ok s1.rep r1 e2
  cases d <;> simp only [negD] at e3 <;> cases e3
  exact ⟨_, px.int, gq_val s1.rep.le (fun v H2 F2 g hr => kk v H2 F2 (s1.trans (Stp.grow s1.rep g)) c1 (res_ev s1.rep g hr)) (by simp only [RD])⟩
/-! ### methods that only read -/
def MtV (K : PySem.W.Frag) (mg : Str → Option Value) (r : V → List V → Hp → VK → Prop) (g : D → List D → Option EV) : Prop :=
  ∀ (F H : Hp) (x : V) (xs : List V) (d : D) (ds : List D) (res : EV) (Q : VK), Same F H → RP K mg F H d x → RPs K mg F H ds xs → g d ds = some res → GQ K mg F H res Q → r x xs H Q
def MtX (X : Cx) (id : String) (g : D → List D → Option EV) : Prop := ∃ r, MtR X id r ∧ MtV X.K X.mg r g
def tyM : String → D → Bool
  | "str", .str _ => true
  | "list", .lst _ => true
  | _, _ => false
def mMeth (T : String) (g : D → List D → Option EV) (mo : M) (ml : ML) : M := fun Γ => (mo Γ).bind fun p => (peek p.2 p.1).bind fun d0 => if tyM T d0 = true then
  (ml p.2).bind fun q => (peek q.2 p.1).bind fun d => (peekL q.2 q.1).bind fun ds => (g d ds).map fun r => (r, q.2) else none
theorem tyM_V {T : String} {K : PySem.W.Frag} {mg : Str → Option Value} {F H : Hp} {d : D} {v : V} (hl : Same F H) (h : RP K mg F H d v) (e : tyM T d = true) : tyV K T v H := by
  unfold tyM at e
  split at e
  · rw [h.str.1]; rfl
  · obtain ⟨a, vs, rfl, h1, _⟩ := h.lst hl; exact .inl ⟨rfl, vs, h1⟩
  · cases e
theorem ve_meth {T id : String} {name : Str} {g : D → List D → Option EV} {o : Expr} {mo : M} {apos : Pos} (hm : MtX X id g) (pa : PlainAttrs T) (slot : Slot T name id) (hty : typeOf (.builtin id) = pure (.type "method_descriptor")) (ho : VE X o mo) (ha : VA X (e :: es) ml)
    (hbase : attributeBase o name X.env (eval o X.env) = eval o X.env := by rfl)
    (hfew : ((backTo pos (starEach (e :: es) X.env)).all (fun x => !x.1) && (backToKw pos (keywordEach [] X.env)).all (fun x => x.1.isSome)
      && decide ((e :: es).length + ([] : List Keyword).length + (if ([] : List Keyword).isEmpty then 0 else 1) < 30)) = true := by rfl)
    (hline : (apos.endLine == pos.line) = true := by rfl) (hs : starEach (e :: es) X.env = (false, eval e X.env) :: starEach es X.env := by rfl) (hplain : (backTo pos (starEach es X.env)).any (·.1) = false := by rfl) :
    VE X (.Call (.Attribute o name apos) (e :: es) [] pos) (mMeth T g mo ml) := by
  obtain ⟨r, h1, h2⟩ := hm
  refine pe_of (pe_bm pa slot hty h1 ho ha hbase hfew hline hs hplain) fun σ H Q h => ?_
  obtain ⟨ρ, O, Γ, F, res, Γ', R, e, k⟩ := h
  obtain ⟨⟨r, Γ1⟩, e1, e⟩ := obind e
  obtain ⟨d0, e2, e⟩ := obind e
  split at e
  · rename_i hT
    obtain ⟨⟨rs, Γ2⟩, e3, e⟩ := obind e
    obtain ⟨d, e4, e⟩ := obind e
    obtain ⟨ds, e5, e⟩ := obind e
    obtain ⟨res', e6, e7⟩ := omap e
    cases e7
    refine tV_run R e1 fun v H1 F1 s1 c1 r1 => ?_
    refine ⟨tyM_V s1.rep.le (peek_ok s1.rep r1 e2) hT, ?_⟩
    refine tL_run (s1.rep.pend r1) e3 fun vs H2 F2 s2 c2 r2 => ?_
    have r1' := r1.later s1.rep s2.rep s2.fs s2.op c2
    have s : Stp X.K X.mg ρ O Γ2 σ H F H2 F2 := s1.trans (s2.weakO orO_l)
    exact h2 F2 H2 v vs d ds res Q s.rep.le (peek_ok s.rep r1' e4) (peekL_ok s2.rep r2 e5) e6 fun v H3 F3 g hr => k v H3 F3 (s.trans (Stp.grow s.rep g)) (c1.trans c2) (res_ev s.rep g hr)
  · cases e
end
end VS

set_option Elab.async false
set_option linter.all false
set_option maxRecDepth 100000
set_option maxHeartbeats 4000000
namespace VS
open PySem L2 PyProof.Rows

section
variable {K : PySem.W.Frag} {mg : Str → Option Value} {ρ : List Addr} {O O' : Addr → Prop} {Γ Γ' Γ1 : VEnv} {σ σ' σ1 : L2.St} {H F H' F' H1 F1 : Hp} {r : EV} {v : V} {d : D} {a : Addr} {D : Ends} {fl : Fl}
theorem FlK.from (s : Stp K mg ρ O Γ1 σ1 H F H1 F1) (h : FlK K mg ρ O Γ' H F D fl) : FlK K mg ρ O Γ' H1 F1 D fl := by
  cases fl with
  | nx => exact fun σ' H' F' s' => h σ' H' F' (s.trans s')
  | brk => exact fun σ' H' F' s' => h σ' H' F' (s.trans s')
  | cont => exact fun σ' H' F' s' => h σ' H' F' (s.trans s')
  | ret r => exact fun v σ' H' F' s' => h v σ' H' F' (s.trans s')
theorem tS_run {m : MS} (R : Rep K mg ρ O Γ σ H F) (e : m Γ = some (fl, Γ')) (k : FlK K mg ρ O Γ' H F D fl) : tS K mg m D σ H := ⟨ρ, O, Γ, F, fl, Γ', R, e, k⟩
end
/-! ### statements -/
def mSeq (a b : MS) : MS := fun Γ => (a Γ).bind fun p => match p.1 with
  | .nx => b p.2
  | fl => some (fl, p.2)
def mNext : MS := fun Γ => some (.nx, Γ)
def mDrop (m : M) : MS := fun Γ => (m Γ).map fun p => (.nx, p.2)
def mRet (m : M) : MS := fun Γ => (m Γ).map fun p => (.ret p.1, p.2)
def mRetN : MS := fun Γ => some (.ret (.val .non), Γ)
def mIfS (t : MB) (a b : MS) : MS := fun Γ => (t Γ).bind fun p => if p.1 = true then a p.2 else b p.2
def mAsg (m : M) (g : MG) : MS := fun Γ => (m Γ).bind fun p => (g p.1 p.2).map fun Γ' => (.nx, Γ')
def mBrk : MS := fun Γ => some (.brk, Γ)
def mCont : MS := fun Γ => some (.cont, Γ)
def mNever : MS := fun _ => none
section
variable {X : Cx} {e : Expr} {st : Stmt} {sts : List Stmt} {m : M} {ms mt : MS} {t : MB} {g : MG} {ws : List Nat} {pos : Pos}
theorem vs_nil : VSs X [] mNext := by
  refine pss_of pss_nil fun D σ H h => ?_
  obtain ⟨ρ, O, Γ, F, fl, Γ', R, e, k⟩ := h
  cases e
  exact k σ H F (Stp.refl R)
theorem vs_one (h : VSt X st ms) : VSs X [st] ms := pss_one h
theorem vs_cons (h1 : VSt X st ms) (h2 : VSs X sts mt) : VSs X (st :: sts) (mSeq ms mt) := by
  refine pss_of (pss_cons h1 h2) fun D σ H h => ?_
  obtain ⟨ρ, O, Γ, F, fl, Γ', R, e, k⟩ := h
  obtain ⟨⟨f1, Γ1⟩, e1, e⟩ := obind e
  cases f1 with
  | nx =>
    refine tS_run R e1 ?_
    intro σ1 H1 F1 s1
    exact tS_run s1.rep e (k.from s1)
  | brk => cases e; exact tS_run R e1 k
  | cont => cases e; exact tS_run R e1 k
  | ret r => cases e; exact tS_run R e1 k
theorem vs_expr (h : VE X e m) (hs : swapsWith e none pos.line X.env = pure false := by rfl) : VSt X (.Expr e pos) (mDrop m) := by
  refine ps_of (ps_expr h hs) fun D σ H h => ?_
  obtain ⟨ρ, O, Γ, F, fl, Γ', R, e, k⟩ := h
  obtain ⟨⟨r, Γ1⟩, e1, e2⟩ := omap e
  cases e2
  exact tV_run R e1 fun v H1 F1 s1 c1 r1 => k σ H1 F1 s1
theorem vs_doc {x j pos'} : VSt X (.Expr (.Constant (.str x) j pos) pos') mNext := by
  refine ps_of ps_doc fun D σ H h => ?_
  obtain ⟨ρ, O, Γ, F, fl, Γ', R, e, k⟩ := h
  cases e
  exact k σ H F (Stp.refl R)
theorem vs_ret (h : VE X e m) : VSt X (.Return (some e) pos) (mRet m) := by
  refine ps_of (ps_ret h) fun D σ H h => ?_
  obtain ⟨ρ, O, Γ, F, fl, Γ', R, e, k⟩ := h
  obtain ⟨⟨r, Γ1⟩, e1, e2⟩ := omap e
  cases e2
  exact tV_run R e1 fun v H1 F1 s1 c1 r1 => k v σ H1 F1 s1 r1
theorem vs_retN : VSt X (.Return none pos) mRetN := by
  refine ps_of ps_retN fun D σ H h => ?_
  obtain ⟨ρ, O, Γ, F, fl, Γ', R, e, k⟩ := h
  cases e
  exact k .non σ H F (Stp.refl R) (by simp only [RepEV, RD])
theorem vs_if {c : Expr} {a b : List Stmt} (hc : VT X c t) (ha : VSs X a ms) (hb : VSs X b mt) : VSt X (.If c a b pos) (mIfS t ms mt) := by
  refine ps_of (ps_if hc ha hb) fun D σ H h => ?_
  obtain ⟨ρ, O, Γ, F, fl, Γ', R, e, k⟩ := h
  obtain ⟨⟨b1, Γ1⟩, e1, e⟩ := obind e
  refine tB_run R e1 fun H1 F1 s1 c1 => ?_
  cases b1 with
  | true => exact iteT (tS_run s1.rep e (k.from s1))
  | false => exact iteF (tS_run s1.rep e (k.from s1))
theorem vs_pass : VSt X (.Pass pos) mNext := by
  refine ps_of ps_pass fun D σ H h => ?_
  obtain ⟨ρ, O, Γ, F, fl, Γ', R, e, k⟩ := h
  cases e
  exact k σ H F (Stp.refl R)
theorem vs_break : VSt X (.Break pos) mBrk := by
  refine ps_of ps_break fun D σ H h => ?_
  obtain ⟨ρ, O, Γ, F, fl, Γ', R, e, k⟩ := h
  cases e
  exact k σ H F (Stp.refl R)
theorem vs_continue : VSt X (.Continue pos) mCont := by
  refine ps_of ps_continue fun D σ H h => ?_
  obtain ⟨ρ, O, Γ, F, fl, Γ', R, e, k⟩ := h
  cases e
  exact k σ H F (Stp.refl R)
/-- a statement that is not come to -/
theorem vs_never : VSt X st mNever := by
  refine ps_of ps_never fun D σ H h => ?_
  obtain ⟨ρ, O, Γ, F, fl, Γ', R, e, k⟩ := h
  cases e
/-! ### targets -/
theorem tG_run {K : PySem.W.Frag} {mg : Str → Option Value} {ρ : List Addr} {O : Addr → Prop} {Γ Γ' : VEnv} {σ : L2.St} {H F : Hp} {r : EV} {v : V} {Q : L2.St → Hp → Prop} (R : Rep K mg ρ O Γ σ H F) (rv : RepEV K mg ρ O Γ σ H F r v) (e : g r Γ = some Γ')
    (k : ∀ σ' H' F', Stp K mg ρ O Γ' σ' H F H' F' → (∀ us : List Nat, (∀ i ∈ ws, i ∈ us) → wipe σ' us = wipe σ us) → Q σ' H') : tG K mg ws g v σ H Q := ⟨ρ, O, Γ, F, r, Γ', R, rv, e, k⟩
theorem wipe_at {σ : L2.St} {i : Nat} : ∀ {us : List Nat}, (wipe σ us)[i]? = if i ∈ us ∧ i < σ.length then some none else σ[i]?
  | [] => by simp [wipe]
  | u :: us => by
    simp only [wipe]
    by_cases e : i = u
    · subst e
      by_cases hl : i < σ.length
      · rw [List.getElem?_set_self (by rw [wipe_length]; exact hl), if_pos ⟨List.mem_cons_self, hl⟩]
      · rw [if_neg fun z => hl z.2, List.getElem?_eq_none_iff.mpr (by simp [wipe_length]; omega), List.getElem?_eq_none_iff.mpr (by omega)]
    · rw [List.getElem?_set_ne (Ne.symm e), wipe_at (us := us)]
      simp [e]
theorem wipe_set {σ : L2.St} {i : Nat} {x : Option V} {us : List Nat} (h : i ∈ us) : wipe (σ.set i x) us = wipe σ us := by
  apply List.ext_getElem?
  intro j
  rw [wipe_at, wipe_at, List.length_set]
  by_cases e : j = i
  · subst e
    by_cases hl : j < σ.length
    · rw [if_pos ⟨h, hl⟩, if_pos ⟨h, hl⟩]
    · rw [if_neg fun z => hl z.2, if_neg fun z => hl z.2, List.getElem?_eq_none_iff.mpr (by simp; omega), List.getElem?_eq_none_iff.mpr (by omega)]
  · rw [List.getElem?_set_ne (Ne.symm e)]
theorem vg_name (i : Nat) {x : Str} (hN : X.N.Nodup) (hi : X.N[i]? = some x := by rfl) (hx : Loc X.env.scope x := by first | exact Or.inl rfl | exact Or.inr rfl) (hf : X.fn x = true ∨ X.env.scope.names.lookup x = some .local := by first | exact .inl rfl | exact .inr rfl) : VG X (.Name x pos) [i] (asgn i) := by
  refine pg_of (pg_name hN hi hx hf) fun v σ H Q h => ?_
  obtain ⟨ρ, O, Γ, F, r, Γ', R, rv, e, k⟩ := h
  obtain ⟨F', R', s⟩ := asgn_ok R rv e
  exact k _ H F' ⟨R', s, fun _ _ => rfl⟩ fun us hu => wipe_set (hu i List.mem_cons_self)
theorem vs_asg {tg : Expr} (he : VE X e m) (hg : VG X tg ws g) (hs : swapsWithSole [tg] e pos.line X.env = pure false := by rfl) (hw : swappedStores [tg] e X.env = pure none := by rfl)
    (h1 : (assignEach [tg] X.env).map (·.2) = [assign tg X.env] := by rfl) : VSt X (.Assign [tg] e pos) (mAsg m g) := by
  refine ps_of (ps_asg he hg hs hw h1) fun D σ H h => ?_
  obtain ⟨ρ, O, Γ, F, fl, Γ', R, e, k⟩ := h
  obtain ⟨⟨r, Γ1⟩, e1, e⟩ := obind e
  obtain ⟨Γ2, e2, e3⟩ := omap e
  cases e3
  exact tV_run R e1 fun v H1 F1 s1 c1 r1 => tG_run s1.rep r1 e2 fun σ' H2 F2 s2 _ => k σ' H2 F2 (s1.trans s2)
def mgSeq : List MG → List D → VEnv → Option VEnv
  | [], [], Γ => some Γ
  | g :: gs, d :: ds, Γ => (g (.val d) Γ).bind fun Γ' => mgSeq gs ds Γ'
  | _, _, _ => none
def mgTup (gs : List MG) : MG := fun r Γ => (freeze r Γ).bind fun p => match p.1 with
  | .tup ds => mgSeq gs ds p.2
  | .lst ds => mgSeq gs ds p.2
  | _ => none
/-- several targets, with data -/
def tGs (K : PySem.W.Frag) (mg : Str → Option Value) (ws : List Nat) (gs : List MG) : TGs := fun vs σ H Q => ∃ ρ O Γ F ds Γ', Rep K mg ρ O Γ σ H F ∧ RDs K mg F ds vs ∧ mgSeq gs ds Γ = some Γ' ∧
  ∀ σ' H' F', Stp K mg ρ O Γ' σ' H F H' F' → (∀ us : List Nat, (∀ i ∈ ws, i ∈ us) → wipe σ' us = wipe σ us) → Q σ' H'
abbrev VGs (X : Cx) (es : List Expr) (ws : List Nat) (gs : List MG) : Prop := PGs X es (tGs X.K X.mg ws gs)
theorem pgs_of {es : List Expr} {t t' : TGs} (h : PGs X es t) (f : ∀ v σ H Q, t' v σ H Q → t v σ H Q) : PGs X es t' := ⟨fun pins s σ H v u Q I r z => h.run pins s σ H v u Q I r (f v σ H Q z)⟩
theorem vgs_nil : VGs X [] [] [] := by
  refine pgs_of pgs_nil fun vs σ H Q h => ?_
  obtain ⟨ρ, O, Γ, F, ds, Γ', R, rd, e, k⟩ := h
  cases ds with
  | nil => cases e; simp only [RDs] at rd; exact ⟨rd, k σ H F (Stp.refl R) fun _ _ => rfl⟩
  | cons d ds => cases e
theorem vgs_cons {es : List Expr} {gs : List MG} {ws2 : List Nat} (h1 : VG X e ws g) (h2 : VGs X es ws2 gs) (hs : (assignEach (e :: es) X.env).map (·.2) = assign e X.env :: (assignEach es X.env).map (·.2) := by rfl) : VGs X (e :: es) (ws ++ ws2) (g :: gs) := by
  refine pgs_of (pgs_cons h1 h2 hs) fun vs σ H Q h => ?_
  obtain ⟨ρ, O, Γ, F, ds, Γ', R, rd, e, k⟩ := h
  cases ds with
  | nil => cases e
  | cons d ds =>
    simp only [mgSeq] at e
    obtain ⟨Γ1, e1, e2⟩ := obind e
    simp only [RDs] at rd
    obtain ⟨v, ws, rfl, h1, h2⟩ := rd
    exact ⟨v, ws, rfl, tG_run (r := .val d) R h1 e1 fun σ1 H1 F1 s1 w1 => ⟨ρ, O, Γ1, F1, ds, Γ', s1.rep, RDs.mono s1.fs _ _ h2, e2, fun σ2 H2 F2 s2 w2 => k σ2 H2 F2 (s1.trans s2) fun us hu => (w2 us fun i hi => hu i (List.mem_append_right _ hi)).trans (w1 us fun i hi => hu i (List.mem_append_left _ hi))⟩⟩
theorem PG.or {tg : Expr} {t t' : TG} (h : PG X tg t) (h' : PG X tg t') : PG X tg (fun v σ H Q => t v σ H Q ∨ t' v σ H Q) := ⟨fun pins s σ H v u Q I r z => z.elim (h.run pins s σ H v u Q I r) (h'.run pins s σ H v u Q I r)⟩
theorem mgSeq_len : ∀ {gs : List MG} {ds : List D} {Γ Γ' : VEnv}, mgSeq gs ds Γ = some Γ' → ds.length = gs.length
  | [], [], _, _, _ => rfl
  | g :: gs, d :: ds, Γ, Γ', e => by
    simp only [mgSeq] at e
    obtain ⟨Γ1, _, e2⟩ := obind e
    simp only [List.length_cons, mgSeq_len e2]
  | [], d :: ds, _, _, e => by simp only [mgSeq] at e; cases e
  | g :: gs, [], _, _, e => by simp only [mgSeq] at e; cases e
theorem vg_tup {es : List Expr} {k : Nat} {gs : List MG} (hc : X.calm = true) (h : VGs X es ws gs) (hn : (assignEach es X.env).length = gs.length := by rfl) (hst : (assignEach es X.env).findIdx? (·.1) = none := by rfl) : VG X (.Tuple es k pos) ws (mgTup gs) := by
  refine pg_of (PG.or (pg_tup hc h hn hst) (pg_unl hc h hn hst)) fun v σ H Q h => ?_
  obtain ⟨ρ, O, Γ, F, r, Γ', R, rv, e, kk⟩ := h
  obtain ⟨⟨d, Γ1⟩, e1, e⟩ := obind e
  obtain ⟨F1, R1, s1, rd, _⟩ := freeze_ok R rv e1
  have st : Stp X.K X.mg ρ O Γ1 σ H F H F1 := ⟨R1, s1, fun _ _ => rfl⟩
  cases d with
  | tup ds =>
    simp only [RD] at rd
    obtain ⟨a, vs, rfl, h1, h2⟩ := rd
    exact .inl ⟨a, vs, rfl, sqT_mono R1.le h1, by rw [← h2.length, mgSeq_len e], ρ, O, Γ1, F1, ds, Γ', R1, h2, e, fun σ2 H2 F2 s2 => kk σ2 H2 F2 (st.trans s2)⟩
  | lst ds =>
    simp only [RD] at rd
    obtain ⟨a, vs, rfl, h1, h2⟩ := rd
    exact .inr ⟨a, vs, rfl, R1.le.seq h1, by rw [← h2.length, mgSeq_len e], ρ, O, Γ1, F1, ds, Γ', R1, h2, e, fun σ2 H2 F2 s2 => kk σ2 H2 F2 (st.trans s2)⟩
  | _ => cases e
/-- o[i] = value, a list -/
def mgSub (mo mi : M) : MG := fun r Γ => (mo Γ).bind fun p => (mi p.2).bind fun q => (freeze r q.2).bind fun z => (content z.2 p.1).bind fun c => (peek z.2 q.1).bind fun i => match c, i with
  | .lst xs, .int k => (ixN xs.length k).map fun j => putC z.2 (.lst (xs.set j z.1)) p.1
  | _, _ => none
theorem vg_sub {o i : Expr} {mo mi : M} (ho : VE X o mo) (hi : VE X i mi)
    (ha : ∀ v, assign (.Subscript o i pos) X.env v = (do
      let ov ← holding [v] (eval o X.env)
      let iv ← holding [v, ov] (eval i X.env)
      standAt pos
      holding [v, ov, iv] (setItem ov iv v)
      release [v, ov, iv] []) := by intro _; rfl) : VG X (.Subscript o i pos) [] (mgSub mo mi) := by
  refine pg_of (pg_sub ho hi set_list ha) fun v σ H Q h => ?_
  obtain ⟨ρ, O, Γ, F, r, Γ', R, rv, e, kk⟩ := h
  obtain ⟨⟨ro, Γ1⟩, e1, e⟩ := obind e
  obtain ⟨⟨ri, Γ2⟩, e2, e⟩ := obind e
  obtain ⟨⟨d, Γ3⟩, e3, e⟩ := obind e
  obtain ⟨c, e4, e⟩ := obind e
  obtain ⟨di, e5, e⟩ := obind e
  refine tV_run (R.pend rv) e1 fun x H1 F1 s1 c1 r1 => ?_
  have rv1 := rv.later R s1.rep s1.fs s1.op c1
  refine tV_run (s1.rep.pend r1) e2 fun y H2 F2 s2 c2 r2 => ?_
  have r1' := r1.later s1.rep s2.rep s2.fs s2.op c2
  have s2' : Stp X.K X.mg ρ (orO O (frs r v)) Γ2 σ H1 F1 H2 F2 := s2.weakO orO_l
  have rv2 := rv1.later (s1.rep.weakO orO_l) s2'.rep s2'.fs s2'.op c2
  have s12 : Stp X.K X.mg ρ O Γ2 σ H F H2 F2 := (s1.weakO orO_l).trans (s2'.weakO orO_l)
  obtain ⟨F3, R3, s3, rd, c3⟩ := freeze_ok s12.rep rv2 e3
  have st3 : Stp X.K X.mg ρ O Γ3 σ H F H2 F3 := s12.trans ⟨R3, s3, fun _ _ => rfl⟩
  cases c with
  | lst xs =>
    cases di with
    | int k =>
      obtain ⟨j, e6, e7⟩ := omap e
      -- the object that is written
      have ro3 : RepEV X.K X.mg ρ (fun _ => False) Γ3 σ H2 F3 ro x := by
        cases ro with
        | val d => simp only [content] at e4; cases e4
        | fresh d => simp only [content] at e4; cases e4
        | slot i => exact ⟨r1'.1, trivial⟩
        | par k => exact r1'
      obtain ⟨a, rfl, ho, hm⟩ := mut_ok (R3.weakO fun _ z => z.elim) ro3 e4
      obtain ⟨_, vs, h1, h2⟩ := id ho
      have pi : RP X.K X.mg F3 H2 (.int k) y := by
        have ri3 : RepEV X.K X.mg ρ (fun _ => False) Γ3 σ H2 F3 ri y := by
          cases ri with
          | val d => exact RD.mono s3 _ _ r2
          | fresh d =>
            simp only [peek] at e5
            cases e5
            obtain ⟨p, q1, q2, _⟩ := r2
            exact absurd q2.2 (by simp)
          | slot i => exact ⟨r2.1, trivial⟩
          | par k => exact r2
        exact peek_ok (R3.weakO fun _ z => z.elim) ri3 e5
      refine ⟨a, vs, k, j, rfl, pi.int, h1, by rw [← h2.length]; exact e6, ?_⟩
      have hm' := mut_ok R3 (O := O) (d := .lst xs) (r := ro) (v := .ref a) (by
        cases ro with
        | val d => simp only [content] at e4; cases e4
        | fresh d => simp only [content] at e4; cases e4
        | slot i => exact ro3
        | par k => exact ro3) e4
      obtain ⟨a', q0, _, hm'⟩ := hm'
      cases q0
      obtain ⟨R4, op4⟩ := hm' (upd H2 a (.lst (vs.set j v))) (.lst (xs.set j d)) (fun b hb => upd_ne hb) ⟨ho.1, _, upd_same, RDs.set j h2 rd⟩
      rw [← e7] at kk
      exact kk σ _ F3 (st3.trans ⟨R4, Same.refl _, op4⟩) fun _ _ => rfl
    | _ => cases e
  | _ => cases e
/-! ### name op= value -/
def mAug (g : D → D → Option EV) (i : Nat) (m : M) : MS := fun Γ => (mVar i Γ).bind fun p => (m p.2).bind fun q => (peek q.2 p.1).bind fun x => (peek q.2 q.1).bind fun y => (g x y).bind fun r => (asgn i r q.2).map fun Γ' => (.nx, Γ')
theorem vs_aug {op : Operator} {f : D → D → Option EV} (i : Nat) {x : Str} {pos' : Pos} (ho : OpX X (inplaceOp op) f) (hN : X.N.Nodup) (he : VE X e m) (hi : X.N[i]? = some x := by rfl) (hx : Loc X.env.scope x := by first | exact Or.inl rfl | exact Or.inr rfl)
    (hf : X.fn x = true ∨ X.env.scope.names.lookup x = some .local := by first | exact .inl rfl | exact .inr rfl) : VSt X (.AugAssign (.Name x pos') op e pos) (mAug f i m) := by
  obtain ⟨r, h1, h2⟩ := ho
  refine ps_of (ps_aug hN hi hx he (ti := r) (fun pins s σ H x y v u Q I rx ry h => h1 pins s σ H x y v u Q I rx ry h) hf) fun D σ H h => ?_
  obtain ⟨ρ, O, Γ, F, fl, Γ', R, e, k⟩ := h
  obtain ⟨⟨rx, Γ0⟩, e0, e⟩ := obind e
  obtain ⟨⟨ry, Γ1⟩, e1, e⟩ := obind e
  obtain ⟨dx, e2, e⟩ := obind e
  obtain ⟨dy, e3, e⟩ := obind e
  obtain ⟨res, e4, e⟩ := obind e
  obtain ⟨Γ2, e5, e6⟩ := omap e
  cases e6
  have hv : ∃ v, σ[i]? = some (some v) ∧ RepEV X.K X.mg ρ O Γ σ H F rx v ∧ Γ0 = Γ := by
    simp only [mVar] at e0
    cases q : Γ.sl[i]? with
    | none => rw [q] at e0; cases e0
    | some c =>
      rw [q] at e0
      cases c with
      | un => cases e0
      | val d => cases e0; obtain ⟨v, h1, h2⟩ := R.vl i d q; exact ⟨v, h1, h2, rfl⟩
      | own d => cases e0; obtain ⟨a, h1, h2⟩ := R.ow i d q; exact ⟨_, h1, ⟨h1, trivial⟩, rfl⟩
      | par j => cases e0; obtain ⟨a, h1, h2⟩ := R.pr i j q; exact ⟨_, h2, ⟨a, h1, rfl⟩, rfl⟩
  obtain ⟨v, hv1, hv2, rfl⟩ := hv
  refine ⟨v, hv1, tV_run (R.pend hv2) e1 fun y H1 F1 s1 c1 r1 => ?_⟩
  have hv3 := hv2.later R s1.rep s1.fs s1.op c1
  have s1' : Stp X.K X.mg ρ O Γ1 σ H F H1 F1 := s1.weakO orO_l
  refine h2 F1 H1 v y dx dy res _ s1'.rep.le (peek_ok s1'.rep hv3 e2) (peek_ok s1.rep r1 e3) e4 fun z H2 F2 g hr => ?_
  have R2 := s1'.rep.grow g
  obtain ⟨F3, R3, s3⟩ := asgn_ok R2 (res_ev s1'.rep g hr) e5
  exact k _ H2 F3 (s1'.trans ((Stp.grow s1'.rep g).trans ⟨R3, s3, fun _ _ => rfl⟩))
theorem ox_iadd : OpX X (inplaceOp .Add) (fun d e => match d, e with
    | .int i, .int j => some (.val (.int (i + j)))
    | .str s, .str t => if s.length + t.length ≤ sizeLine then some (.val (.str (s ++ t))) else none
    | _, _ => none) := by
  refine opx_or (opx_int0 iop_add) (opx_addS iop_add_str) fun d e r h => ?_
  cases d <;> cases e <;> simp only at h <;> first
    | (cases h; done)
    | simp_all [gII, gSS]
theorem ox_isub : OpX X (inplaceOp .Sub) (gII (fun _ _ => true) fun i j => i - j) := opx_int0 iop_sub
end
end VS

set_option Elab.async false
set_option linter.all false
set_option maxRecDepth 100000
set_option maxHeartbeats 4000000
namespace VS
open PySem L2 PyProof.Rows RZ

/-! ### what a loop walks, as data -/
structure WalkD (K : PySem.W.Frag) (mg : Str → Option Value) (J : It) (F0 : Hp) (ds : List D) : Prop where
  goes : ∀ i H, i < ds.length → Same F0 H → J.go i H
  stops : ∀ H, Same F0 H → J.stop ds.length H
  yields : ∀ i H x H' F, i < ds.length → J.yld i H x H' → Same F0 F → Same F H → ∃ F' d, ds[i]? = some d ∧ Grow F H F' H' ∧ RD K mg F' d x
abbrev MI := VEnv → Option (List D × VEnv)
def tI (K : PySem.W.Frag) (mg : Str → Option Value) (m : MI) : TI := fun σ H R => ∃ ρ O Γ F ds Γ', Rep K mg ρ O Γ σ H F ∧ m Γ = some (ds, Γ') ∧
  ∀ J H' F', Stp K mg ρ O Γ' σ H F H' F' → Cells Γ Γ' → WalkD K mg J F' ds → R J H'
abbrev VI (X : Cx) (tg iter : Expr) (m : MI) : Prop := PI X tg iter (tI X.K X.mg m)
theorem pi_of {X : Cx} {tg iter : Expr} {t t' : TI} (h : PI X tg iter t) (f : ∀ σ H R, t' σ H R → t σ H R) : PI X tg iter t' := ⟨fun pins s σ H R I z => h.run pins s σ H R I (f σ H R z)⟩
theorem PI.or {X : Cx} {tg iter : Expr} {t t' : TI} (h : PI X tg iter t) (h' : PI X tg iter t') : PI X tg iter (fun σ H R => t σ H R ∨ t' σ H R) := ⟨fun pins s σ H R I z => z.elim (h.run pins s σ H R I) (h'.run pins s σ H R I)⟩
section
variable {K : PySem.W.Frag} {mg : Str → Option Value} {F H : Hp} {a b : Addr} {vs ws : List V} {ds es : List D}
theorem lt_of_get {α : Type} {l : List α} {i : Nat} {x : α} (h : l[i]? = some x) : i < l.length := (List.getElem?_eq_some_iff.mp h).1
theorem get_of_lt {α : Type} {l : List α} {i : Nat} (h : i < l.length) : ∃ x, l[i]? = some x := ⟨l[i], List.getElem?_eq_getElem h⟩
theorem wd_list (h1 : SqL K F a vs) (h2 : RDs K mg F ds vs) : WalkD K mg (Itl K a) F ds where
  goes := fun i H hi hs => by
    obtain ⟨x, hx⟩ := get_of_lt (show i < vs.length by rw [← h2.length]; exact hi)
    exact ⟨vs, x, hs.seq h1, hx⟩
  stops := fun H hs => ⟨vs, hs.seq h1, by rw [h2.length]; exact Nat.le_refl _⟩
  yields := fun i H x H' F' hi hy hf hs => by
    obtain ⟨rfl, hx⟩ := hy
    obtain ⟨d, hd⟩ := get_of_lt hi
    obtain ⟨v, e1, e2⟩ := h2.get hd
    have := hx vs ((hf.trans hs).seq h1)
    rw [e1] at this; cases this
    exact ⟨F', d, hd, Grow.refl hs, RD.mono hf _ _ e2⟩
theorem wd_tup (h1 : SqT K F a vs) (h2 : RDs K mg F ds vs) : WalkD K mg (Itt K a) F ds where
  goes := fun i H hi hs => by
    obtain ⟨x, hx⟩ := get_of_lt (show i < vs.length by rw [← h2.length]; exact hi)
    exact ⟨vs, x, sqT_mono hs h1, hx⟩
  stops := fun H hs => ⟨vs, sqT_mono hs h1, by rw [h2.length]; exact Nat.le_refl _⟩
  yields := fun i H x H' F' hi hy hf hs => by
    obtain ⟨rfl, hx⟩ := hy
    obtain ⟨d, hd⟩ := get_of_lt hi
    obtain ⟨v, e1, e2⟩ := h2.get hd
    have := hx vs (sqT_mono (hf.trans hs) h1)
    rw [e1] at this; cases this
    exact ⟨F', d, hd, Grow.refl hs, RD.mono hf _ _ e2⟩
def rangeD (lo : Int) (n : Nat) : List D := (List.range n).map fun i => .int (lo + (i : Nat))
def rangeDC (lo c : Int) (n : Nat) : List D := (List.range n).map fun i => .int (lo + (i : Nat) * c)
theorem wd_range {lo : Int} {n : Nat} : WalkD K mg (Itr lo n) F (rangeD lo n) where
  goes := fun i H hi hs => show i < n by simpa [rangeD] using hi
  stops := fun H hs => by simp [rangeD, Itr]
  yields := fun i H x H' F' hi hy hf hs => by
    obtain ⟨rfl, rfl⟩ := hy
    have hi' : i < n := by simpa [rangeD] using hi
    exact ⟨F', .int (lo + (i : Nat)), by simp [rangeD, hi'], Grow.refl hs, by simp only [RD]⟩
theorem wd_rangeC {lo c : Int} {n : Nat} : WalkD K mg (Itc lo c n) F (rangeDC lo c n) where
  goes := fun i H hi hs => show i < n by simpa [rangeDC] using hi
  stops := fun H hs => by simp [rangeDC, Itc]
  yields := fun i H x H' F' hi hy hf hs => by
    obtain ⟨rfl, rfl⟩ := hy
    have hi' : i < n := by simpa [rangeDC] using hi
    exact ⟨F', .int (lo + (i : Nat) * c), by simp [rangeDC, hi'], Grow.refl hs, by simp only [RD]⟩
def signsD (s : List Nat) : List D := s.map fun c => .str [c]
theorem wd_str {s : List Nat} (ok : OkS s) : WalkD K mg (Its ⟨s.toArray⟩) F (signsD s) where
  goes := fun i H hi hs => by simpa [signsD, Its] using hi
  stops := fun H hs => by simp [signsD, Its]
  yields := fun i H x H' F' hi hy hf hs => by
    obtain ⟨rfl, c, hc, rfl⟩ := hy
    have hc' : s[i]? = some c := by simpa using hc
    refine ⟨F', .str [c], by simp [signsD, hc'], Grow.refl hs, ?_⟩
    simp only [RD]
    refine ⟨trivial, by show 1 ≤ sizeLine; decide, fun c' hc'' => ?_⟩
    have : c' = c := by simpa using hc''
    rw [this]
    exact ok.2 c (List.mem_of_getElem? hc')
/-- pairs, new ones -/
def enumD (ds : List D) : List D := ds.mapIdx fun i d => .tup [.int (i : Nat), d]
theorem enumD_get {i : Nat} {d : D} (h : ds[i]? = some d) : (enumD ds)[i]? = some (.tup [.int (i : Nat), d]) := by simp [enumD, h]
theorem enumD_len : (enumD ds).length = ds.length := by simp [enumD]
theorem pair_rd {F' : Hp} {T : Addr} {x y : V} {d e : D} (hs : Same F' H) (hT : H T = none) (h1 : RD K mg F' d x) (h2 : RD K mg F' e y) : ∃ F2, Grow F' H F2 (upd H T (.tup [x, y])) ∧ RD K mg F2 (.tup [d, e]) (.ref T) := by
  have g : Grow F' H (upd F' T (.tup [x, y])) (upd H T (.tup [x, y])) := grow_frz hs hT
  refine ⟨_, g, ?_⟩
  simp only [RD]
  exact ⟨T, [x, y], rfl, .inl (.inl upd_same), by simp only [RDs]; exact ⟨x, [y], rfl, RD.mono g.fs _ _ h1, y, [], rfl, RD.mono g.fs _ _ h2, rfl⟩⟩
theorem wd_enum (h1 : SqL K F a vs) (h2 : RDs K mg F ds vs) : WalkD K mg (Ite K a) F (enumD ds) where
  goes := fun i H hi hs => by
    obtain ⟨x, hx⟩ := get_of_lt (show i < vs.length by rw [← h2.length, ← enumD_len]; exact hi)
    exact ⟨vs, x, hs.seq h1, hx⟩
  stops := fun H hs => ⟨vs, hs.seq h1, by rw [enumD_len, h2.length]; exact Nat.le_refl _⟩
  yields := fun i H x H' F' hi hy hf hs => by
    obtain ⟨T, y, rfl, hT, rfl, hx⟩ := hy
    obtain ⟨d, hd⟩ := get_of_lt (show i < ds.length by rw [← enumD_len]; exact hi)
    obtain ⟨v, e1, e2⟩ := h2.get hd
    have := hx vs ((hf.trans hs).seq h1)
    rw [e1] at this; cases this
    obtain ⟨F2, g, rd⟩ := pair_rd (K := K) (mg := mg) (x := .int (i : Nat)) (d := .int (i : Nat)) hs hT (by simp only [RD]) (RD.mono hf _ _ e2)
    exact ⟨F2, _, enumD_get hd, g, rd⟩
def zipD (ds es : List D) : List D := (ds.zip es).map fun p => .tup [p.1, p.2]
theorem wd_zipL (h1 : SqL K F a vs) (h2 : RDs K mg F ds vs) (g1 : SqL K F b ws) (g2 : RDs K mg F es ws) : WalkD K mg (Itz K a b) F (zipD ds es) where
  goes := fun i H hi hs => by
    have hl : i < ds.length ∧ i < es.length := by
      have : i < min ds.length es.length := by simpa [zipD] using hi
      omega
    obtain ⟨x, hx⟩ := get_of_lt (show i < vs.length by rw [← h2.length]; exact hl.1)
    obtain ⟨y, hy⟩ := get_of_lt (show i < ws.length by rw [← g2.length]; exact hl.2)
    exact ⟨vs, ws, x, y, hs.seq h1, hs.seq g1, hx, hy⟩
  stops := fun H hs => ⟨vs, ws, hs.seq h1, hs.seq g1, by simp only [zipD, List.length_map, List.length_zip, ← h2.length, ← g2.length]; omega⟩
  yields := fun i H x H' F' hi hy hf hs => by
    obtain ⟨T, x1, y1, rfl, hT, rfl, hx, hy⟩ := hy
    have hl : i < ds.length ∧ i < es.length := by
      have : i < min ds.length es.length := by simpa [zipD] using hi
      omega
    obtain ⟨d, hd⟩ := get_of_lt hl.1
    obtain ⟨e, he⟩ := get_of_lt hl.2
    obtain ⟨v, e1, e2⟩ := h2.get hd
    obtain ⟨w, e3, e4⟩ := g2.get he
    have q1 := hx vs ((hf.trans hs).seq h1)
    have q2 := hy ws ((hf.trans hs).seq g1)
    rw [e1] at q1; cases q1
    rw [e3] at q2; cases q2
    obtain ⟨F2, g, rd⟩ := pair_rd (K := K) (mg := mg) hs hT (RD.mono hf _ _ e2) (RD.mono hf _ _ e4)
    exact ⟨F2, .tup [d, e], by simp only [zipD, List.getElem?_map, List.getElem?_zip_eq_some (z := (d, e)) |>.mpr ⟨hd, he⟩, Option.map_some], g, rd⟩
theorem wd_zipT (h1 : SqT K F a vs) (h2 : RDs K mg F ds vs) (g1 : SqT K F b ws) (g2 : RDs K mg F es ws) : WalkD K mg (ItzT K a b) F (zipD ds es) where
  goes := fun i H hi hs => by
    have hl : i < ds.length ∧ i < es.length := by
      have : i < min ds.length es.length := by simpa [zipD] using hi
      omega
    obtain ⟨x, hx⟩ := get_of_lt (show i < vs.length by rw [← h2.length]; exact hl.1)
    obtain ⟨y, hy⟩ := get_of_lt (show i < ws.length by rw [← g2.length]; exact hl.2)
    exact ⟨vs, ws, x, y, sqT_mono hs h1, sqT_mono hs g1, hx, hy⟩
  stops := fun H hs => ⟨vs, ws, sqT_mono hs h1, sqT_mono hs g1, by simp only [zipD, List.length_map, List.length_zip, ← h2.length, ← g2.length]; omega⟩
  yields := fun i H x H' F' hi hy hf hs => by
    obtain ⟨T, x1, y1, rfl, hT, rfl, hx, hy⟩ := hy
    have hl : i < ds.length ∧ i < es.length := by
      have : i < min ds.length es.length := by simpa [zipD] using hi
      omega
    obtain ⟨d, hd⟩ := get_of_lt hl.1
    obtain ⟨e, he⟩ := get_of_lt hl.2
    obtain ⟨v, e1, e2⟩ := h2.get hd
    obtain ⟨w, e3, e4⟩ := g2.get he
    have q1 := hx vs (sqT_mono (hf.trans hs) h1)
    have q2 := hy ws (sqT_mono (hf.trans hs) g1)
    rw [e1] at q1; cases q1
    rw [e3] at q2; cases q2
    obtain ⟨F2, g, rd⟩ := pair_rd (K := K) (mg := mg) hs hT (RD.mono hf _ _ e2) (RD.mono hf _ _ e4)
    exact ⟨F2, .tup [d, e], by simp only [zipD, List.getElem?_map, List.getElem?_zip_eq_some (z := (d, e)) |>.mpr ⟨hd, he⟩, Option.map_some], g, rd⟩
end
/-! ### the iterables -/
def miSeq (m : M) : MI := fun Γ => (m Γ).bind fun p => (freeze p.1 p.2).bind fun q => match q.1 with
  | .lst xs => some (xs, q.2)
  | .tup xs => some (xs, q.2)
  | .str s => some (signsD s, q.2)
  | _ => none
def okR (i : Int) : Bool := decide (i.natAbs / 4611686018427387904 = 0)
def miR1 (ml : ML) : MI := fun Γ => (ml Γ).bind fun p => match p.1 with
  | [.val (.int j)] => if okR j = true then some (rangeD 0 j.toNat, p.2) else none
  | _ => none
def miR2 (ml : ML) : MI := fun Γ => (ml Γ).bind fun p => match p.1 with
  | [.val (.int i), .val (.int j)] => if okR i = true ∧ okR j = true then some (rangeD i (j - i).toNat, p.2) else none
  | _ => none
def miR3 (ml : ML) : MI := fun Γ => (ml Γ).bind fun p => match p.1 with
  | [.val (.int i), .val (.int j), .val (.int c)] => if c = -1 ∧ okR i = true ∧ okR j = true then some (rangeDC i (-1) (i - j).toNat, p.2) else none
  | _ => none
def miEnum (ml : ML) : MI := fun Γ => (ml Γ).bind fun p => (freezeL p.1 p.2).bind fun q => match q.1 with
  | [.lst xs] => some (enumD xs, q.2)
  | _ => none
def miZip (ml : ML) : MI := fun Γ => (ml Γ).bind fun p => (freezeL p.1 p.2).bind fun q => match q.1 with
  | [.lst xs, .lst ys] => some (zipD xs ys, q.2)
  | [.tup xs, .tup ys] => some (zipD xs ys, q.2)
  | _ => none
section
variable {X : Cx} {e tg : Expr} {es : List Expr} {m : M} {ml : ML} {p pos : Pos}
theorem vi_seq (he : VE X e m) : VI X tg e (miSeq m) := by
  refine pi_of (PI.or (pi_list he) (PI.or (pi_tup he) (pi_str he))) fun σ H R h => ?_
  obtain ⟨ρ, O, Γ, F, ds, Γ', Rp, e, k⟩ := h
  obtain ⟨⟨r, Γ1⟩, e1, e⟩ := obind e
  obtain ⟨⟨d, Γ2⟩, e2, e⟩ := obind e
  cases d with
  | lst xs =>
    cases e
    refine .inl (tV_run Rp e1 fun v H1 F1 s1 c1 r1 => ?_)
    obtain ⟨F2, R2, s2, rd, c2⟩ := freeze_ok s1.rep r1 e2
    simp only [RD] at rd
    obtain ⟨a, vs, rfl, h1, h2⟩ := rd
    exact ⟨a, rfl, ⟨vs, R2.le.seq h1⟩, k _ H1 F2 ⟨R2, s1.fs.trans s2, s1.op⟩ (c1.trans c2) (wd_list h1 h2)⟩
  | tup xs =>
    cases e
    refine .inr (.inl (tV_run Rp e1 fun v H1 F1 s1 c1 r1 => ?_))
    obtain ⟨F2, R2, s2, rd, c2⟩ := freeze_ok s1.rep r1 e2
    simp only [RD] at rd
    obtain ⟨a, vs, rfl, h1, h2⟩ := rd
    exact ⟨a, rfl, ⟨vs, sqT_mono R2.le h1⟩, k _ H1 F2 ⟨R2, s1.fs.trans s2, s1.op⟩ (c1.trans c2) (wd_tup h1 h2)⟩
  | str s =>
    cases e
    refine .inr (.inr (tV_run Rp e1 fun v H1 F1 s1 c1 r1 => ?_))
    obtain ⟨F2, R2, s2, rd, c2⟩ := freeze_ok s1.rep r1 e2
    simp only [RD] at rd
    obtain ⟨rfl, ok⟩ := rd
    exact ⟨_, rfl, k _ H1 F2 ⟨R2, s1.fs.trans s2, s1.op⟩ (c1.trans c2) (wd_str ok)⟩
  | _ => cases e
theorem okR_of {i : Int} (h : okR i = true) : -(2 ^ 62) ≤ i ∧ i < 2 ^ 62 := by
  simp only [okR, decide_eq_true_eq] at h
  rw [Nat.div_eq_zero_iff] at h
  have h3 : i.natAbs < 4611686018427387904 := by
    rcases h with h | h
    · cases h
    · exact h
  have e : (2 ^ 62 : Int) = 4611686018427387904 := by decide
  rw [e]
  omega
theorem repL_int1 {K : PySem.W.Frag} {mg : Str → Option Value} {ρ : List Addr} {O : Addr → Prop} {Γ : VEnv} {σ : L2.St} {H F : Hp} {i : Int} {rs : List EV} {vs : List V} (h : RepL K mg ρ Γ σ H F O (.val (.int i) :: rs) vs) : ∃ ws O', vs = .int i :: ws ∧ RepL K mg ρ Γ σ H F O' rs ws := by
  simp only [RepL, RepEV, RD] at h
  obtain ⟨v, ws, rfl, rfl, h⟩ := h
  exact ⟨ws, _, rfl, h⟩
theorem vi_range1 {a : Expr} (hm : X.mg "range" = none) (ha : VA X [a] ml) (hg : Gl X "range" := by rfl) (hs : starEach [a] X.env = [(false, eval a X.env)] := by rfl) : VI X tg (.Call (.Name "range" p) [a] [] pos) (miR1 ml) := by
  refine pi_of (pi_range1 hg hm ha hs) fun σ H R h => ?_
  obtain ⟨ρ, O, Γ, F, ds, Γ', Rp, e, k⟩ := h
  obtain ⟨⟨rs, Γ1⟩, e1, e⟩ := obind e
  refine tL_run Rp e1 fun vs H1 F1 s1 c1 r1 => ?_
  split at e
  · rename_i j hj
    simp only at hj
    subst hj
    split at e
    · rename_i hok
      cases e
      obtain ⟨ws, O', rfl, h⟩ := repL_int1 r1
      simp only [RepL] at h
      subst h
      exact ⟨j, rfl, (okR_of hok).1, (okR_of hok).2, k _ H1 F1 s1 c1 wd_range⟩
    · cases e
  · cases e
theorem vi_range2 {a b : Expr} (hm : X.mg "range" = none) (ha : VA X [a, b] ml) (hg : Gl X "range" := by rfl) (hs : starEach [a, b] X.env = [(false, eval a X.env), (false, eval b X.env)] := by rfl) (hs2 : starEach [b] X.env = [(false, eval b X.env)] := by rfl) : VI X tg (.Call (.Name "range" p) [a, b] [] pos) (miR2 ml) := by
  refine pi_of (pi_range2 hg hm ha hs hs2) fun σ H R h => ?_
  obtain ⟨ρ, O, Γ, F, ds, Γ', Rp, e, k⟩ := h
  obtain ⟨⟨rs, Γ1⟩, e1, e⟩ := obind e
  refine tL_run Rp e1 fun vs H1 F1 s1 c1 r1 => ?_
  split at e
  · rename_i i j hj
    simp only at hj
    subst hj
    split at e
    · rename_i hok
      cases e
      obtain ⟨ws, O', rfl, h⟩ := repL_int1 r1
      obtain ⟨ws2, O2', rfl, h2⟩ := repL_int1 h
      simp only [RepL] at h2
      subst h2
      exact ⟨i, j, rfl, ⟨(okR_of hok.1).1, (okR_of hok.1).2, (okR_of hok.2).1, (okR_of hok.2).2⟩, k _ H1 F1 s1 c1 wd_range⟩
    · cases e
  · cases e
theorem vi_range3 {a b c : Expr} (hm : X.mg "range" = none) (ha : VA X [a, b, c] ml) (hg : Gl X "range" := by rfl) (hs : starEach [a, b, c] X.env = (false, eval a X.env) :: starEach [b, c] X.env := by rfl) (hpl : (backTo pos (starEach [b, c] X.env)).any (·.1) = false := by rfl) : VI X tg (.Call (.Name "range" p) [a, b, c] [] pos) (miR3 ml) := by
  refine pi_of (pi_range3 hg hm ha hs hpl) fun σ H R h => ?_
  obtain ⟨ρ, O, Γ, F, ds, Γ', Rp, e, k⟩ := h
  obtain ⟨⟨rs, Γ1⟩, e1, e⟩ := obind e
  refine tL_run Rp e1 fun vs H1 F1 s1 c1 r1 => ?_
  split at e
  · rename_i i j c hj
    simp only at hj
    subst hj
    split at e
    · rename_i hok
      obtain ⟨rfl, hok⟩ := hok
      cases e
      obtain ⟨ws, O', rfl, h⟩ := repL_int1 r1
      obtain ⟨ws2, O2', rfl, h2⟩ := repL_int1 h
      obtain ⟨ws3, O3', rfl, h3⟩ := repL_int1 h2
      simp only [RepL] at h3
      subst h3
      exact ⟨i, j, -1, _, rfl, RgC.neg (okR_of hok.1).1 (okR_of hok.1).2 (okR_of hok.2).1 (okR_of hok.2).2, k _ H1 F1 s1 c1 wd_rangeC⟩
    · cases e
  · cases e
theorem vi_enum {elts : List Expr} {kk : Nat} {tpos : Pos} (hm : X.mg "enumerate" = none) (ha : VA X [e] ml) (hg : Gl X "enumerate" := by rfl) (hs : starEach [e] X.env = [(false, eval e X.env)] := by rfl) : VI X (.Tuple elts kk tpos) (.Call (.Name "enumerate" p) [e] [] pos) (miEnum ml) := by
  refine pi_of (pi_enum hg hm ha hs) fun σ H R h => ?_
  obtain ⟨ρ, O, Γ, F, ds, Γ', Rp, e, k⟩ := h
  obtain ⟨⟨rs, Γ1⟩, e1, e⟩ := obind e
  obtain ⟨⟨fs, Γ2⟩, e2, e⟩ := obind e
  refine tL_run Rp e1 fun vs H1 F1 s1 c1 r1 => ?_
  obtain ⟨F2, R2, s2, rd, c2⟩ := freezeL_ok s1.rep r1 e2
  split at e
  · rename_i xs hj
    simp only at hj
    subst hj
    cases e
    simp only [RDs, RD] at rd
    obtain ⟨v, r, rfl, ⟨a, ws, rfl, h1, h2⟩, rfl⟩ := rd
    exact ⟨a, ws, rfl, R2.le.seq h1, k _ H1 F2 ⟨R2, s1.fs.trans s2, s1.op⟩ (c1.trans c2) (wd_enum h1 h2)⟩
  · cases e
theorem vi_zip {e2 : Expr} {elts : List Expr} {kk : Nat} {tpos : Pos} (hm : X.mg "zip" = none) (ha : VA X [e, e2] ml) (hg : Gl X "zip" := by rfl) (hs : starEach [e, e2] X.env = (false, eval e X.env) :: starEach [e2] X.env := by rfl) (hpl : (backTo pos (starEach [e2] X.env)).any (·.1) = false := by rfl) :
    VI X (.Tuple elts kk tpos) (.Call (.Name "zip" p) [e, e2] [] pos) (miZip ml) := by
  refine pi_of (pi_zipA hg hm ha hs hpl) fun σ H R h => ?_
  obtain ⟨ρ, O, Γ, F, ds, Γ', Rp, e, k⟩ := h
  obtain ⟨⟨rs, Γ1⟩, e1, e⟩ := obind e
  obtain ⟨⟨fs, Γ2⟩, e2, e⟩ := obind e
  refine tL_run Rp e1 fun vs H1 F1 s1 c1 r1 => ?_
  obtain ⟨F2, R2, s2, rd, c2⟩ := freezeL_ok s1.rep r1 e2
  split at e
  · rename_i xs ys hj
    simp only at hj
    subst hj
    cases e
    simp only [RDs, RD] at rd
    obtain ⟨v, r, rfl, ⟨a, ws, rfl, h1, h2⟩, u, q, rfl, ⟨b, us, rfl, h3, h4⟩, rfl⟩ := rd
    exact ⟨a, b, ws, us, rfl, .inl ⟨R2.le.seq h1, R2.le.seq h3, k _ H1 F2 ⟨R2, s1.fs.trans s2, s1.op⟩ (c1.trans c2) (wd_zipL h1 h2 h3 h4)⟩⟩
  · rename_i xs ys hj
    simp only at hj
    subst hj
    cases e
    simp only [RDs, RD] at rd
    obtain ⟨v, r, rfl, ⟨a, ws, rfl, h1, h2⟩, u, q, rfl, ⟨b, us, rfl, h3, h4⟩, rfl⟩ := rd
    exact ⟨a, b, ws, us, rfl, .inr ⟨sqT_mono R2.le h1, sqT_mono R2.le h3, k _ H1 F2 ⟨R2, s1.fs.trans s2, s1.op⟩ (c1.trans c2) (wd_zipT h1 h2 h3 h4)⟩⟩
  · cases e
end
/-! ### for, while -/
def forD (g : MG) (body : MS) : List D → VEnv → Option (Fl × VEnv)
  | [], Γ => some (.nx, Γ)
  | d :: ds, Γ => (g (.val d) Γ).bind fun Γ1 => (body Γ1).bind fun p => match p.1 with
    | .nx => forD g body ds p.2
    | .cont => forD g body ds p.2
    | .brk => some (.nx, p.2)
    | .ret r => some (.ret r, p.2)
def mFor (mi : MI) (g : MG) (body : MS) : MS := fun Γ => (mi Γ).bind fun p => forD g body p.1 p.2
def whileD (t : MB) (body : MS) : Nat → VEnv → Option (Fl × VEnv)
  | 0, _ => none
  | n + 1, Γ => (t Γ).bind fun p => if p.1 = true then (body p.2).bind fun q => match q.1 with
      | .nx => whileD t body n q.2
      | .cont => whileD t body n q.2
      | .brk => some (.nx, q.2)
      | .ret r => some (.ret r, q.2) else some (.nx, p.2)
def mWhile (n : Nat) (t : MB) (body : MS) : MS := whileD t body n
section
variable {X : Cx} {tg iter : Expr} {body : List Stmt} {mi : MI} {g : MG} {ws : List Nat} {mb : MS} {pos : Pos}
theorem vs_for (hp : PassesOwn (model X.prog X.w) X.A X.env X.xe) (hc : X.calm = true) (hi : VI X tg iter mi) (hg : VG X tg ws g) (hb : VSs X body mb)
    (hs : ∀ x, foldedSetIterable iter X.env x = pure x := by intro _; rfl) : VSt X (.For tg iter body [] pos) (mFor mi g mb) := by
  refine ps_of (ps_for hp hc hi hg hb hs) fun D σ H h => ?_
  obtain ⟨ρ, O, Γ, F, fl, Γ', R, e, k⟩ := h
  obtain ⟨⟨ds, Γ1⟩, e1, e⟩ := obind e
  refine ⟨ρ, O, Γ, F, ds, Γ1, R, e1, fun J H1 F1 s1 c1 w => ?_⟩
  refine ⟨fun i m σ' H' => m = ds.length - i ∧ i ≤ ds.length ∧ ∃ Γi Fi, Stp X.K X.mg ρ O Γi σ' H F H' Fi ∧ Same F1 Fi ∧ forD g mb (ds.drop i) Γi = some (fl, Γ'), ⟨_, rfl, Nat.zero_le _, Γ1, F1, s1, Same.refl _, by simpa using e⟩, fun i m σ' H' hW => ?_⟩
  obtain ⟨rfl, hi, Γi, Fi, si, hf, ei⟩ := hW
  have hsame : Same F1 H' := hf.trans si.rep.le
  by_cases hlt : i < ds.length
  · refine .inr ⟨w.goes i H' hlt hsame, fun σ2 H2 => ∃ Γ2 F2, Stp X.K X.mg ρ O Γ2 σ2 H F H2 F2 ∧ Same F1 F2 ∧ forD g mb (ds.drop (i + 1)) Γ2 = some (fl, Γ'), fun σ2 H2 hN => ?_, fun x H2 hy => ?_⟩
    · obtain ⟨Γ2, F2, h1, h2, h3⟩ := hN
      exact ⟨ds.length - (i + 1), by omega, rfl, by omega, Γ2, F2, h1, h2, h3⟩
    · obtain ⟨F2, d, hd, gr, rd⟩ := w.yields i H' x H2 Fi hlt hy hf si.rep.le
      have edrop : ds.drop i = d :: ds.drop (i + 1) := by
        rw [List.drop_eq_getElem_cons hlt]
        congr 1
        rw [List.getElem?_eq_getElem hlt] at hd
        exact Option.some.inj hd
      rw [edrop] at ei
      simp only [forD] at ei
      obtain ⟨Γ2, e2, ei⟩ := obind ei
      obtain ⟨⟨f3, Γ3⟩, e3, ei⟩ := obind ei
      have s2 := si.trans (Stp.grow si.rep gr)
      refine tG_run (r := .val d) s2.rep rd e2 fun σ3 H3 F3 s3 _ => ?_
      have s23 := s2.trans s3
      refine tS_run s23.rep e3 ?_
      have hf3 : Same F1 F3 := (hf.trans gr.fs).trans s3.fs
      cases f3 with
      | nx => exact fun σ4 H4 F4 s4 => ⟨Γ3, F4, s23.trans s4, hf3.trans s4.fs, ei⟩
      | cont => exact fun σ4 H4 F4 s4 => ⟨Γ3, F4, s23.trans s4, hf3.trans s4.fs, ei⟩
      | brk => cases ei; exact fun σ4 H4 F4 s4 => k σ4 H4 F4 (s23.trans s4)
      | ret r => cases ei; exact fun v σ4 H4 F4 s4 hr => k v σ4 H4 F4 (s23.trans s4) hr
  · have hi' : i = ds.length := by omega
    subst hi'
    refine .inl ⟨w.stops H' hsame, ?_⟩
    rw [List.drop_length] at ei
    cases ei
    exact k σ' H' Fi si
theorem vs_while {c : Expr} {t : MB} (n : Nat) (hp : PassesOwn (model X.prog X.w) X.A X.env X.xe) (hc : VT X c t) (hb : VSs X body mb) : VSt X (.While c body [] pos) (mWhile n t mb) := by
  refine ps_of (ps_while hp hc hb) fun D σ H h => ?_
  obtain ⟨ρ, O, Γ, F, fl, Γ', R, e, k⟩ := h
  refine ⟨fun m σ' H' => ∃ Γi Fi, Stp X.K X.mg ρ O Γi σ' H F H' Fi ∧ whileD t mb m Γi = some (fl, Γ'), ⟨n, Γ, F, Stp.refl R, e⟩, fun m σ' H' hW => ?_⟩
  obtain ⟨Γi, Fi, si, ei⟩ := hW
  cases m with
  | zero => cases ei
  | succ m =>
    simp only [whileD] at ei
    obtain ⟨⟨b1, Γ1⟩, e1, ei⟩ := obind ei
    refine tB_run si.rep e1 fun H1 F1 s1 c1 => ?_
    have s01 := si.trans s1
    cases b1 with
    | false =>
      refine iteF ?_
      cases ei
      exact k σ' H1 F1 s01
    | true =>
      refine iteT ⟨fun σ2 H2 => ∃ Γ2 F2, Stp X.K X.mg ρ O Γ2 σ2 H F H2 F2 ∧ whileD t mb m Γ2 = some (fl, Γ'), fun σ2 H2 hN => ⟨m, by omega, hN⟩, ?_⟩
      obtain ⟨⟨f3, Γ3⟩, e3, ei⟩ := obind ei
      refine tS_run s01.rep e3 ?_
      cases f3 with
      | nx => exact fun σ4 H4 F4 s4 => ⟨Γ3, F4, s01.trans s4, ei⟩
      | cont => exact fun σ4 H4 F4 s4 => ⟨Γ3, F4, s01.trans s4, ei⟩
      | brk => cases ei; exact fun σ4 H4 F4 s4 => k σ4 H4 F4 (s01.trans s4)
      | ret r => cases ei; exact fun v σ4 H4 F4 s4 hr => k v σ4 H4 F4 (s01.trans s4) hr
end
end VS

set_option Elab.async false
set_option linter.all false
set_option maxRecDepth 100000
set_option maxHeartbeats 4000000
namespace VS
open PySem L2 PyProof.Rows

/-! ### list comprehensions -/
def wipeE (Γ : VEnv) : List Nat → VEnv
  | [] => Γ
  | v :: vs => setCell (wipeE Γ vs) v .un
/-- the slots vs as they were ahead of the comprehension -/
def backE (Γ Γe : VEnv) : List Nat → VEnv
  | [] => Γe
  | v :: vs => match Γ.sl[v]? with
    | some c => setCell (backE Γ Γe vs) v c
    | none => backE Γ Γe vs
def okW (Γ : VEnv) (vs : List Nat) : Bool := vs.all fun i => match Γ.sl[i]? with
  | some (.own _) => false
  | _ => true
def lcD (vs : List Nat) (g : MG) (tt : MB) (m : M) : List D → List D → VEnv → Option (List D × VEnv)
  | [], acc, Γ => some (acc, Γ)
  | d :: ds, acc, Γ => (g (.val d) Γ).bind fun Γ1 => (tt Γ1).bind fun p => if p.1 = true then
      (m p.2).bind fun q => (freeze q.1 q.2).bind fun z => if acc.length < sizeLine then lcD vs g tt m ds (acc ++ [z.1]) (wipeE z.2 vs) else none
    else lcD vs g tt m ds acc (wipeE p.2 vs)
def mLc (vs : List Nat) (mi : MI) (g : MG) (tt : MB) (m : M) : M := fun Γ => (mi Γ).bind fun p => if okW p.2 vs = true then
  (lcD vs g tt m p.1 [] (wipeE p.2 vs)).map fun q => (.fresh (.lst q.1), backE p.2 q.2 vs) else none
def mYes : MB := fun Γ => some (true, Γ)
section
variable {K : PySem.W.Frag} {mg : Str → Option Value} {ρ : List Addr} {O O' : Addr → Prop} {Γ Γ' Γ1 Γe : VEnv} {σ σ' : L2.St} {H F H' F' H1 F1 : Hp} {a : Addr} {d : D} {vs : List Nat}
theorem Rep.wiped (R : Rep K mg ρ O Γ σ H F) : ∀ vs : List Nat, Rep K mg ρ O (wipeE Γ vs) (wipe σ vs) H F
  | [] => R
  | v :: vs => (Rep.wiped R vs).setCell (c := .un) (x := none) trivial
theorem wipeE_len : ∀ vs : List Nat, (wipeE Γ vs).sl.length = Γ.sl.length
  | [] => rfl
  | v :: vs => by simp [wipeE, setCell, wipeE_len vs]
theorem backE_st : ∀ vs : List Nat, (backE Γ Γe vs).st = Γe.st
  | [] => rfl
  | v :: vs => by
    simp only [backE]
    split
    · exact backE_st vs
    · exact backE_st vs
theorem backE_len : ∀ vs : List Nat, (backE Γ Γe vs).sl.length = Γe.sl.length
  | [] => rfl
  | v :: vs => by
    simp only [backE]
    split
    · simp [setCell, backE_len vs]
    · exact backE_len vs
theorem backE_at {i : Nat} (hl : Γ.sl.length = Γe.sl.length) : ∀ vs : List Nat, (backE Γ Γe vs).sl[i]? = if i ∈ vs then Γ.sl[i]? else Γe.sl[i]?
  | [] => by simp [backE]
  | v :: vs => by
    simp only [backE]
    have ih := backE_at (i := i) hl vs
    cases q : Γ.sl[v]? with
    | none =>
      simp only
      rw [ih]
      by_cases e : i = v
      · subst e
        have h1 : Γ.sl.length ≤ i := List.getElem?_eq_none_iff.mp q
        by_cases e2 : i ∈ vs
        · simp [e2]
        · simp only [e2, if_false, List.mem_cons_self, if_true, q]
          exact List.getElem?_eq_none_iff.mpr (by omega)
      · simp [e]
    | some c =>
      simp only [setCell]
      by_cases e : i = v
      · subst e
        have h1 := lt_of_get q
        rw [List.getElem?_set_self (by rw [backE_len]; omega)]
        simp [q]
      · rw [List.getElem?_set_ne (Ne.symm e), ih]
        simp [e]
/-- behind the comprehension the slots are as they were -/
theorem Rep.back (R : Rep K mg ρ O Γ σ H F) (R' : Rep K mg ρ O Γe (wipe σ vs) H' F') (hf : Same F F') (ok : okW Γ vs = true) : Rep K mg ρ O (backE Γ Γe vs) σ H' F' := by
  have hl : Γ.sl.length = Γe.sl.length := by
    have a := R.len
    have b := R'.len
    rw [wipe_length] at b
    omega
  have out : ∀ {i : Nat}, i ∉ vs → (wipe σ vs)[i]? = σ[i]? := fun h => wipe_out h
  have noown : ∀ {i : Nat} {d : D}, i ∈ vs → Γ.sl[i]? ≠ some (Cell.own d) := fun {i d} h z => by
    have := List.all_eq_true.mp ok i h
    rw [z] at this
    simp at this
  have loc : ∀ l b, LocAt ρ (backE Γ Γe vs) σ l b → LocAt ρ Γe (wipe σ vs) l b := by
    intro l b h
    cases l with
    | inl i =>
      obtain ⟨⟨d, e⟩, h1⟩ := h
      rw [backE_at hl] at e
      by_cases hi : i ∈ vs
      · rw [if_pos hi] at e; exact absurd e (noown hi)
      · rw [if_neg hi] at e; exact ⟨⟨d, e⟩, by rw [out hi]; exact h1⟩
    | inr k => obtain ⟨⟨d, e⟩, h1⟩ := h; rw [backE_st] at e; exact ⟨⟨d, e⟩, h1⟩
  refine ⟨R'.le, by rw [backE_len, ← hl]; exact R.len, fun i d e => ?_, fun i d e => ?_, fun i k e => ?_, by rw [backE_st]; exact R'.plen, fun k d e => ?_, fun k d e => ?_, fun l l' b h1 h2 => R'.inj l l' b (loc l b h1) (loc l' b h2), fun b hb => ?_⟩
  · rw [backE_at hl] at e
    by_cases hi : i ∈ vs
    · rw [if_pos hi] at e
      obtain ⟨v, h1, h2⟩ := R.vl i d e
      exact ⟨v, h1, RD.mono hf _ _ h2⟩
    · rw [if_neg hi] at e
      obtain ⟨v, h1, h2⟩ := R'.vl i d e
      exact ⟨v, by rw [← out hi]; exact h1, h2⟩
  · rw [backE_at hl] at e
    by_cases hi : i ∈ vs
    · rw [if_pos hi] at e; exact absurd e (noown hi)
    · rw [if_neg hi] at e
      obtain ⟨v, h1, h2⟩ := R'.ow i d e
      exact ⟨v, by rw [← out hi]; exact h1, h2⟩
  · rw [backE_at hl] at e
    by_cases hi : i ∈ vs
    · rw [if_pos hi] at e
      exact R.pr i k e
    · rw [if_neg hi] at e
      obtain ⟨v, h1, h2⟩ := R'.pr i k e
      exact ⟨v, h1, by rw [← out hi]; exact h2⟩
  · rw [backE_st] at e; exact R'.sow k d e
  · rw [backE_st] at e; exact R'.sfz k d e
  · obtain ⟨h1, h2, h3⟩ := R'.prot b hb
    exact ⟨h1, h2, fun l z => h3 l (loc l b z)⟩
/-- a protected object is written -/
theorem Rep.updO (R : Rep K mg ρ O Γ σ H F) (ha : O a) (hh : ∀ b, b ≠ a → H' b = H b) (hn : H' a ≠ none) : Rep K mg ρ O Γ σ H' F := by
  obtain ⟨f1, f2, f3⟩ := R.prot a ha
  have ow : ∀ {b : Addr} {d : D}, (∃ l, LocAt ρ Γ σ l b) → OwnAt K mg F H b d → OwnAt K mg F H' b d := fun {b d} hl h => h.stay (Same.refl _) h.1 (hh b fun z => by obtain ⟨l, hl⟩ := hl; rw [z] at hl; exact f3 l hl)
  refine ⟨fun b o e => ?_, R.len, R.vl, fun i d e => ?_, R.pr, R.plen, fun k d e => ?_, R.sfz, R.inj, fun b hb => ?_⟩
  · rw [hh b fun z => by rw [z, f1] at e; cases e]; exact R.le b o e
  · obtain ⟨b, h1, h2⟩ := R.ow i d e; exact ⟨b, h1, ow ⟨.inl i, ⟨d, e⟩, h1⟩ h2⟩
  · obtain ⟨b, h1, h2⟩ := R.sow k d e; exact ⟨b, h1, ow ⟨.inr k, ⟨d, e⟩, h1⟩ h2⟩
  · obtain ⟨h1, h2, h3⟩ := R.prot b hb
    refine ⟨h1, ?_, h3⟩
    by_cases e : b = a
    · rw [e]; exact hn
    · rw [hh b e]; exact h2
theorem Rep.addO (R : Rep K mg ρ O Γ σ H F) (h1 : F a = none) (h2 : H a ≠ none) (h3 : ∀ l, ¬ LocAt ρ Γ σ l a) : Rep K mg ρ (orO O (· = a)) Γ σ H F := by
  refine { R with prot := fun b hb => ?_ }
  rcases hb with hb | hb
  · exact R.prot b hb
  · subst hb; exact ⟨h1, h2, h3⟩
end
section
variable {X : Cx} {e tg iter elt : Expr} {es ifs : List Expr} {m : M} {mi : MI} {g : MG} {ws : List Nat} {tt : MB} {pos : Pos}
abbrev VTs (X : Cx) (ifs : List Expr) (m : MB) : Prop := PTs X ifs (tB X.K X.mg m)
theorem pts_of {t t' : TT} (h : PTs X ifs t) (f : ∀ σ H Q, t' σ H Q → t σ H Q) : PTs X ifs t' := ⟨fun pins s σ H Q I z => h.run pins s σ H Q I (f σ H Q z)⟩
theorem vts_nil : VTs X [] mYes := by
  refine pts_of pts_nil fun σ H Q h => ?_
  obtain ⟨ρ, O, Γ, F, b, Γ', R, e, k⟩ := h
  cases e
  exact k H F (Stp.refl R) Cells.refl
theorem vts_one {c : Expr} {t : MB} (h : VT X c t) : VTs X [c] t := pts_one h
theorem wipe_wipe {σ : L2.St} {vs : List Nat} : wipe (wipe σ vs) vs = wipe σ vs := by
  apply List.ext_getElem?
  intro j
  rw [wipe_at, wipe_length]
  by_cases hj : j ∈ vs ∧ j < σ.length
  · rw [if_pos hj, wipe_at, if_pos hj]
  · rw [if_neg hj]
theorem ve_lc {scope : Scope} {own : List (Str × Nat)} (hc : X.calm = true) (hN : X.N.Nodup) (hi : VI X tg iter mi) (ok : BlkOk X.N X.env.scope scope own) (hw : ∀ i ∈ ws, i ∈ own.map (·.2))
    (hg : ∀ (s : Shared) (H : Hp) (C : Addr) (cl : List (Str × Addr)) (fp : List Addr), VG (X.blk s H scope (compEnvC scope cl C X.env) fp) tg ws g)
    (ht : ∀ (s : Shared) (H : Hp) (C : Addr) (cl : List (Str × Addr)) (fp : List Addr), VTs (X.blk s H scope (compEnvC scope cl C X.env) fp) ifs tt)
    (he : ∀ (s : Shared) (H : Hp) (C : Addr) (cl : List (Str × Addr)) (fp : List Addr), VE (X.blk s H scope (compEnvC scope cl C X.env) fp) elt m) (hs : ∀ x, foldedSetIterable iter X.env x = pure x := by intro _; rfl) :
    PE X (.ListComp elt [⟨tg, iter, ifs, 0⟩] scope pos) (tV X.K X.mg (mLc (own.map (·.2)) mi g tt m)) ∧
    ∀ σ H Q, tV X.K X.mg (mLc (own.map (·.2)) mi g tt m) σ H Q → tLc (tI X.K X.mg mi) (tG X.K X.mg ws g) (tB X.K X.mg tt) (tV X.K X.mg m) (own.map (·.2)) σ H Q := by
  have main : ∀ σ H Q, tV X.K X.mg (mLc (own.map (·.2)) mi g tt m) σ H Q → tLc (tI X.K X.mg mi) (tG X.K X.mg ws g) (tB X.K X.mg tt) (tV X.K X.mg m) (own.map (·.2)) σ H Q := by
    intro σ H Q h
    generalize own.map (·.2) = vs at *
    obtain ⟨ρ, O, Γ, F, r, Γ', R, e, k⟩ := h
    obtain ⟨⟨ds, Γ1⟩, e1, e⟩ := obind e
    split at e
    · rename_i hok
      obtain ⟨⟨res, Γe⟩, e2, e3⟩ := omap e
      cases e3
      refine ⟨ρ, O, Γ, F, ds, Γ1, R, e1, fun J H1 F1 s1 c1 w => ?_⟩
      intro D hD
      have hFD : F1 D = none := same_none s1.rep.le hD
      have nO : ¬ O D := fun z => (s1.rep.prot D z).2.1 hD
      -- the start
      have R0 : Rep X.K X.mg ρ (orO O (· = D)) Γ1 σ (upd H1 D (.lst [])) F1 :=
        (s1.rep.grow (grow_own s1.rep.le hD)).addO hFD (by rw [upd_same]; exact fun z => nomatch z) fun l z => z.there s1.rep hD
      have ho0 : ∀ a, O a → upd H1 D (.lst []) a = H a := fun a ha => by rw [upd_ne (fun (z : a = D) => nO (z ▸ ha))]; exact s1.op a ha
      refine ⟨fun i n H' => n = ds.length - i ∧ i ≤ ds.length ∧ ∃ Γi Fi acc accV, Rep X.K X.mg ρ (orO O (· = D)) Γi (wipe σ vs) H' Fi ∧ Same F1 Fi ∧ (∀ a, O a → H' a = H a) ∧ H' D = some (.lst accV) ∧ RDs X.K X.mg Fi acc accV ∧
          lcD vs g tt m (ds.drop i) acc Γi = some (res, Γe),
        ⟨_, rfl, Nat.zero_le _, wipeE Γ1 vs, F1, [], [], R0.wiped vs, Same.refl _, ho0, upd_same, by simp only [RDs], by simpa using e2⟩, fun i n H' hW => ?_⟩
      obtain ⟨rfl, hi, Γi, Fi, acc, accV, Ri, hfi, hoi, hDi, hai, ei⟩ := hW
      have hsame : Same F1 H' := hfi.trans Ri.le
      by_cases hlt : i < ds.length
      · refine .inr ⟨w.goes i H' hlt hsame, fun H2 => ∃ Γ2 F2 acc2 accV2, Rep X.K X.mg ρ (orO O (· = D)) Γ2 (wipe σ vs) H2 F2 ∧ Same F1 F2 ∧ (∀ a, O a → H2 a = H a) ∧ H2 D = some (.lst accV2) ∧ RDs X.K X.mg F2 acc2 accV2 ∧
            lcD vs g tt m (ds.drop (i + 1)) acc2 Γ2 = some (res, Γe), fun H2 hN => ?_, fun x H2 hy => ?_⟩
        · obtain ⟨Γ2, F2, acc2, accV2, h1, h2, h3, h4, h5, h6⟩ := hN
          exact ⟨ds.length - (i + 1), by omega, rfl, by omega, Γ2, F2, acc2, accV2, h1, h2, h3, h4, h5, h6⟩
        · obtain ⟨F2, d, hd, gr, rd⟩ := w.yields i H' x H2 Fi hlt hy hfi Ri.le
          have edrop : ds.drop i = d :: ds.drop (i + 1) := by
            rw [List.drop_eq_getElem_cons hlt]
            congr 1
            rw [List.getElem?_eq_getElem hlt] at hd
            exact Option.some.inj hd
          rw [edrop] at ei
          simp only [lcD] at ei
          obtain ⟨Γ2, e4, ei⟩ := obind ei
          obtain ⟨⟨b5, Γ3⟩, e5, ei⟩ := obind ei
          have R2 := Ri.grow gr
          refine tG_run (r := .val d) R2 rd e4 fun σ3 H3 F3 s3 hw3 => ?_
          have hw3' : wipe σ3 vs = wipe σ vs := (hw3 vs hw).trans wipe_wipe
          refine ⟨hw3', ?_⟩
          refine tB_run s3.rep e5 fun H4 F4 s4 c4 => ?_
          have s34 := s3.trans s4
          have hf4 : Same F1 F4 := (hfi.trans gr.fs).trans s34.fs
          have ho4 : ∀ a, O a → H4 a = H a := fun a ha => ((s34.op a (.inl ha)).trans (Ri.opres gr.hs a (.inl ha))).trans (hoi a ha)
          have hD4 : H4 D = some (.lst accV) := ((s34.op D (.inr rfl)).trans (Ri.opres gr.hs D (.inr rfl))).trans hDi
          have ha4 : RDs X.K X.mg F4 acc accV := RDs.mono (gr.fs.trans s34.fs) _ _ hai
          cases b5 with
          | false =>
            refine iteF ⟨wipeE Γ3 vs, F4, acc, accV, ?_, hf4, ho4, hD4, ha4, ei⟩
            have := s4.rep.wiped vs
            rw [hw3'] at this
            exact this
          | true =>
            refine iteT ?_
            obtain ⟨⟨r6, Γ4⟩, e6, ei⟩ := obind ei
            obtain ⟨⟨d7, Γ5⟩, e7, ei⟩ := obind ei
            split at ei
            · rename_i hz
              refine tV_run s4.rep e6 fun y H5 F5 s5 c5 r5 => ?_
              obtain ⟨F6, R6, s6, rd6, c6⟩ := freeze_ok s5.rep r5 e7
              have hD5 : H5 D = some (.lst accV) := (s5.op D (.inr rfl)).trans hD4
              have ha6 : RDs X.K X.mg F6 acc accV := RDs.mono (s5.fs.trans s6) _ _ ha4
              refine ⟨accV, hD5, by rw [← ha6.length]; exact hz, wipeE Γ5 vs, F6, acc ++ [d7], accV ++ [y], ?_, (hf4.trans s5.fs).trans s6, fun a ha => ?_, upd_same, ha6.append (by simp only [RDs]; exact ⟨y, [], rfl, rd6, rfl⟩), ei⟩
              · have := (R6.updO (a := D) (.inr rfl) (H' := upd H5 D (.lst (accV ++ [y]))) (fun b hb => upd_ne hb) (by rw [upd_same]; exact fun z => nomatch z)).wiped vs
                rw [hw3'] at this
                exact this
              · rw [upd_ne (fun (z : a = D) => nO (z ▸ ha)), s5.op a (.inl ha)]
                exact ho4 a ha
            · cases ei
      · have hi' : i = ds.length := by omega
        subst hi'
        refine .inl ⟨w.stops H' hsame, ?_⟩
        rw [List.drop_length] at ei
        cases ei
        have Rb : Rep X.K X.mg ρ (orO O (· = D)) (backE Γ1 Γe vs) σ H' Fi := by
          have R1' : Rep X.K X.mg ρ (orO O (· = D)) Γ1 σ (upd H1 D (.lst [])) F1 := R0
          exact R1'.back Ri hfi hok
        have hloc : ∀ l, ¬ LocAt ρ (backE Γ1 Γe vs) σ l D := (Rb.prot D (.inr rfl)).2.2
        have hFi : Fi D = none := (Rb.prot D (.inr rfl)).1
        refine k (.ref D) H' Fi ⟨Rb.weakO fun a z => .inl z, s1.fs.trans hfi, hoi⟩ trivial ⟨D, rfl, ⟨hFi, accV, hDi, hai⟩, nO, hloc⟩
    · cases e
  exact ⟨pe_of (pe_lc hc hN hi ok hg ht he hs) main, main⟩
end
end VS

set_option Elab.async false
set_option linter.all false
set_option maxRecDepth 100000
set_option maxHeartbeats 4000000
namespace VS
open PySem L2 PyProof.Rows

section
variable {X : Cx} {e tg iter elt : Expr} {es ifs : List Expr} {m : M} {mi : MI} {g : MG} {ws : List Nat} {tt : MB} {pos : Pos}
/-- y = [..], y a plain local, on one line -/
theorem vs_setLc {i : Nat} {y : Str} {py spos : Pos} {scope : Scope} {own : List (Str × Nat)} (hc : X.calm = true) (hN : X.N.Nodup) (hi : VI X tg iter mi) (ok : BlkOk X.N X.env.scope scope own) (hw : ∀ i ∈ ws, i ∈ own.map (·.2))
    (hg : ∀ (s : Shared) (H : Hp) (C : Addr) (cl : List (Str × Addr)) (fp : List Addr), VG (X.blk s H scope (compEnvC scope cl C X.env) fp) tg ws g)
    (ht : ∀ (s : Shared) (H : Hp) (C : Addr) (cl : List (Str × Addr)) (fp : List Addr), VTs (X.blk s H scope (compEnvC scope cl C X.env) fp) ifs tt)
    (he : ∀ (s : Shared) (H : Hp) (C : Addr) (cl : List (Str × Addr)) (fp : List Addr), VE (X.blk s H scope (compEnvC scope cl C X.env) fp) elt m)
    (hy : X.N[i]? = some y := by rfl) (hyl : X.env.scope.names.lookup y = some .local := by rfl) (hsw : swapsWith (.ListComp elt [⟨tg, iter, ifs, 0⟩] scope pos) (some (.Name y py)) spos.line X.env = pure true := by exact sw_true rfl rfl rfl (by decide +kernel)) (hs : ∀ x, foldedSetIterable iter X.env x = pure x := by intro _; rfl) :
    VSt X (.Assign [.Name y py] (.ListComp elt [⟨tg, iter, ifs, 0⟩] scope pos) spos) (mAsg (mLc (own.map (·.2)) mi g tt m) (asgn i)) := by
  refine ps_of (ps_setLc (g := tG X.K X.mg ws g) (tt := tB X.K X.mg tt) (te := tV X.K X.mg m) hc hN hy hyl hsw hi ok hg ht he hs) fun D σ H h => ?_
  obtain ⟨ρ, O, Γ, F, fl, Γ', R, e, k⟩ := h
  obtain ⟨⟨r, Γ1⟩, e1, e⟩ := obind e
  obtain ⟨Γ2, e2, e3⟩ := omap e
  cases e3
  refine (ve_lc (pos := pos) hc hN hi ok hw hg ht he hs).2 σ H _ (tV_run R e1 fun v H1 F1 s1 c1 r1 => ?_)
  obtain ⟨F2, R2, s2⟩ := asgn_ok s1.rep r1 e2
  exact k _ H1 F2 (s1.trans ⟨R2, s2, fun _ _ => rfl⟩)
end
/-! ### methods that write their list -/
/-- the arguments are frozen, the list is written; the answer is data -/
def MutV (K : PySem.W.Frag) (mg : Str → Option Value) (r : V → List V → Hp → VK → Prop) (g : List D → List D → Option (D × List D)) : Prop :=
  ∀ (F H : Hp) (a : Addr) (xs : List V) (cs ds : List D) (res : D) (cs' : List D) (Q : VK), Same F H → OwnAt K mg F H a (.lst cs) → RDs K mg F ds xs → g cs ds = some (res, cs') →
    (∀ v H', (∀ b, b ≠ a → H' b = H b) → OwnAt K mg F H' a (.lst cs') → RD K mg F res v → Q v H') → r (.ref a) xs H Q
def MutX (X : Cx) (id : String) (g : List D → List D → Option (D × List D)) : Prop := ∃ r, MtR X id r ∧ MutV X.K X.mg r g
def mMut (g : List D → List D → Option (D × List D)) (mo : M) (ml : ML) : M := fun Γ => (mo Γ).bind fun p => (content p.2 p.1).bind fun c0 => match c0 with
  | .lst _ => (ml p.2).bind fun q => (freezeL q.1 q.2).bind fun z => (content z.2 p.1).bind fun c => match c with
    | .lst cs => (g cs z.1).map fun w => (.val w.1, putC z.2 (.lst w.2) p.1)
    | _ => none
  | _ => none
section
variable {X : Cx} {e o : Expr} {es : List Expr} {mo : M} {ml : ML} {pos apos : Pos} {name : Str}
theorem content_later {K : PySem.W.Frag} {mg : Str → Option Value} {ρ : List Addr} {O : Addr → Prop} {Γ Γ' : VEnv} {σ : L2.St} {H F : Hp} {r : EV} {v : V} {d : D} (h : RepEV K mg ρ O Γ σ H F r v) (e : content Γ' r = some d) (hc : Cells Γ Γ') {H' F' : Hp} {O' : Addr → Prop} : RepEV K mg ρ O' Γ' σ H' F' r v := by
  cases r with
  | val d => cases e
  | fresh d => cases e
  | slot i => exact ⟨h.1, trivial⟩
  | par k => exact h
theorem mut_run {r : V → List V → Hp → VK → Prop} {g : List D → List D → Option (D × List D)} (hv : MutV X.K X.mg r g) {σ : L2.St} {H : Hp} {Q : VK} (h : tV X.K X.mg (mMut g mo ml) σ H Q) : tBM X.K "list" r (tV X.K X.mg mo) (tL X.K X.mg ml) σ H Q := by
  obtain ⟨ρ, O, Γ, F, res, Γ', R, e, k⟩ := h
  obtain ⟨⟨ro, Γ1⟩, e1, e⟩ := obind e
  obtain ⟨c0, e2, e⟩ := obind e
  cases c0 with
  | lst cs0 =>
    obtain ⟨⟨rs, Γ2⟩, e3, e⟩ := obind e
    obtain ⟨⟨ds, Γ3⟩, e4, e⟩ := obind e
    obtain ⟨c, e5, e⟩ := obind e
    cases c with
    | lst cs =>
      obtain ⟨⟨d, cs'⟩, e6, e7⟩ := omap e
      cases e7
      refine tV_run R e1 fun v H1 F1 s1 c1 r1 => ?_
      obtain ⟨a, rfl, ho, _⟩ := mut_ok s1.rep r1 e2
      obtain ⟨_, vs0, h1, _⟩ := id ho
      refine ⟨.inl ⟨rfl, vs0, .inl (.inl h1)⟩, ?_⟩
      refine tL_run s1.rep e3 fun vs H2 F2 s2 c2 r2 => ?_
      obtain ⟨F3, R3, s3, rd, c3⟩ := freezeL_ok s2.rep r2 e4
      have st : Stp X.K X.mg ρ O Γ3 σ H F H2 F3 := (s1.trans s2).trans ⟨R3, s3, fun _ _ => rfl⟩
      have ro3 : RepEV X.K X.mg ρ O Γ3 σ H2 F3 ro (.ref a) := content_later r1 e5 (c2.trans c3)
      obtain ⟨a', q0, ho3, hm⟩ := mut_ok R3 ro3 e5
      cases q0
      refine hv F3 H2 a vs cs ds d cs' Q R3.le ho3 rd e6 fun v H3 hh how rv => ?_
      obtain ⟨R4, op4⟩ := hm H3 _ hh how
      exact k v H3 F3 (st.trans ⟨R4, Same.refl _, op4⟩) trivial rv
    | _ => cases e
  | _ => cases e
theorem ve_mut {id : String} {g : List D → List D → Option (D × List D)} (hm : MutX X id g) (slot : Slot "list" name id) (hty : typeOf (.builtin id) = pure (.type "method_descriptor")) (ho : VE X o mo) (ha : VA X (e :: es) ml)
    (hbase : attributeBase o name X.env (eval o X.env) = eval o X.env := by rfl)
    (hfew : ((backTo pos (starEach (e :: es) X.env)).all (fun x => !x.1) && (backToKw pos (keywordEach [] X.env)).all (fun x => x.1.isSome)
      && decide ((e :: es).length + ([] : List Keyword).length + (if ([] : List Keyword).isEmpty then 0 else 1) < 30)) = true := by rfl)
    (hline : (apos.endLine == pos.line) = true := by rfl) (hs : starEach (e :: es) X.env = (false, eval e X.env) :: starEach es X.env := by rfl) (hplain : (backTo pos (starEach es X.env)).any (·.1) = false := by rfl) :
    VE X (.Call (.Attribute o name apos) (e :: es) [] pos) (mMut g mo ml) := by
  obtain ⟨r, h1, h2⟩ := hm
  exact pe_of (pe_bm PySem.F.plainAttrs_list slot hty h1 ho ha hbase hfew hline hs hplain) fun σ H Q h => mut_run h2 h
theorem ve_mut0 {id : String} {g : List D → List D → Option (D × List D)} (hm : MutX X id g) (slot : Slot "list" name id) (hty : typeOf (.builtin id) = pure (.type "method_descriptor")) (ho : VE X o mo)
    (hbase : attributeBase o name X.env (eval o X.env) = eval o X.env := by rfl) (hline : (apos.endLine == pos.line) = true := by rfl) :
    VE X (.Call (.Attribute o name apos) [] [] pos) (mMut g mo mNil) := by
  obtain ⟨r, h1, h2⟩ := hm
  refine pe_of (pe_bm0 PySem.F.plainAttrs_list slot hty h1 ho hbase hline) fun σ H Q h => ?_
  obtain h := mut_run h2 h
  refine (?_ : ∀ t, tBM X.K "list" r (tV X.K X.mg mo) t σ H Q → (∀ σ H Q, t σ H Q → Q [] H) → tBM0 X.K "list" r (tV X.K X.mg mo) σ H Q) _ h fun σ H Q ht => ?_
  · intro t ht h0
    obtain ⟨ρ, O, Γ, F, rr, Γ', R, e, k⟩ := ht
    exact ⟨ρ, O, Γ, F, rr, Γ', R, e, fun v H' F' s c rv => ⟨(k v H' F' s c rv).1, h0 _ _ _ (k v H' F' s c rv).2⟩⟩
  · obtain ⟨ρ, O, Γ, F, rs, Γ', R, e, k⟩ := ht
    cases e
    exact k [] H F (Stp.refl R) Cells.refl (by simp only [RepL])
variable {K : PySem.W.Frag} {mg : Str → Option Value}
def gAppend : List D → List D → Option (D × List D)
  | cs, [d] => if cs.length < sizeLine then some (.non, cs ++ [d]) else none
  | _, _ => none
theorem OwnAt.put {F H : Hp} {a : Addr} {d : D} {cs : List D} {vs : List V} (h : OwnAt K mg F H a d) (rd : RDs K mg F cs vs) : OwnAt K mg F (upd H a (.lst vs)) a (.lst cs) := ⟨h.1, vs, upd_same, rd⟩
theorem mx_append : MutX X "list.append" gAppend := by
  refine ⟨_, mt_append, fun F H a xs cs ds res cs' Q hl ho rd hg k => ?_⟩
  obtain ⟨_, vs, h1, h2⟩ := id ho
  unfold gAppend at hg
  split at hg
  · split at hg
    · rename_i d hz
      cases hg
      simp only [RDs] at rd
      obtain ⟨v, r, rfl, hv, rfl⟩ := rd
      exact ⟨a, vs, v, rfl, rfl, h1, by rw [← h2.length]; exact hz, k _ _ (fun b hb => upd_ne hb) (ho.put (h2.append (by simp only [RDs]; exact ⟨v, [], rfl, hv, rfl⟩))) (by simp only [RD])⟩
    · cases hg
  · cases hg
def gPop : List D → List D → Option (D × List D)
  | cs, [] => (cs[cs.length - 1]?).map fun d => (d, cs.dropLast)
  | _, _ => none
theorem RDs.dropLast {F : Hp} {cs : List D} {vs : List V} (h : RDs K mg F cs vs) : RDs K mg F cs.dropLast vs.dropLast := by
  rw [List.dropLast_eq_take, List.dropLast_eq_take, h.length]
  exact h.take _
theorem mx_pop : MutX X "list.pop" gPop := by
  refine ⟨_, mt_pop, fun F H a xs cs ds res cs' Q hl ho rd hg k => ?_⟩
  obtain ⟨_, vs, h1, h2⟩ := id ho
  unfold gPop at hg
  split at hg
  · obtain ⟨d, e1, e2⟩ := omap hg
    cases e2
    simp only [RDs] at rd
    subst rd
    obtain ⟨v, e3, hv⟩ := h2.get e1
    exact ⟨a, vs, v, rfl, rfl, h1, by rw [← h2.length]; exact e3, k _ _ (fun b hb => upd_ne hb) (ho.put h2.dropLast) hv⟩
  · cases hg
theorem sm62 {i : Int} (h : i.natAbs / 4611686018427387904 = 0) : -(2 ^ 63) ≤ i ∧ i < 2 ^ 63 := by
  rw [Nat.div_eq_zero_iff] at h
  have h3 : i.natAbs < 4611686018427387904 := by
    rcases h with h | h
    · cases h
    · exact h
  have e : (2 ^ 63 : Int) = 9223372036854775808 := by decide
  rw [e]
  omega
def gPopAt : List D → List D → Option (D × List D)
  | cs, [.int i] => if i.natAbs / 4611686018427387904 = 0 then (seqIndex? i cs.length).bind fun k => (cs[k]?).map fun d => (d, cs.eraseIdx k) else none
  | _, _ => none
theorem RDs.eraseIdx {F : Hp} : ∀ {cs : List D} {vs : List V} (k : Nat), RDs K mg F cs vs → RDs K mg F (cs.eraseIdx k) (vs.eraseIdx k)
  | [], vs, k, h => by simp only [RDs] at h; subst h; simp [RDs]
  | c :: cs, vs, 0, h => by
    simp only [RDs] at h
    obtain ⟨v, r, rfl, _, h⟩ := h
    simpa using h
  | c :: cs, vs, k + 1, h => by
    simp only [RDs] at h
    obtain ⟨v, r, rfl, h1, h⟩ := h
    simp only [List.eraseIdx_cons_succ, RDs]
    exact ⟨v, _, rfl, h1, RDs.eraseIdx k h⟩
theorem mx_popAt : MutX X "list.pop" gPopAt := by
  refine ⟨_, mt_popAt, fun F H a xs cs ds res cs' Q hl ho rd hg k => ?_⟩
  obtain ⟨_, vs, h1, h2⟩ := id ho
  unfold gPopAt at hg
  split at hg
  · rename_i i
    split at hg
    · rename_i hi
      have hi : -(2 ^ 63) ≤ i ∧ i < 2 ^ 63 := sm62 hi
      obtain ⟨j, e1, hg⟩ := obind hg
      obtain ⟨d, e2, e3⟩ := omap hg
      cases e3
      simp only [RDs, RD] at rd
      obtain ⟨v, r, rfl, rfl, rfl⟩ := rd
      obtain ⟨v, e4, hv⟩ := h2.get e2
      exact ⟨a, vs, i, j, v, rfl, rfl, h1, hi.1, hi.2, by rw [← h2.length]; exact e1, e4, k _ _ (fun b hb => upd_ne hb) (ho.put (h2.eraseIdx j)) hv⟩
    · cases hg
  · cases hg
def gReverse : List D → List D → Option (D × List D)
  | cs, [] => some (.non, cs.reverse)
  | _, _ => none
theorem mx_reverse : MutX X "list.reverse" gReverse := by
  refine ⟨_, mt_reverse, fun F H a xs cs ds res cs' Q hl ho rd hg k => ?_⟩
  obtain ⟨_, vs, h1, h2⟩ := id ho
  unfold gReverse at hg
  split at hg
  · cases hg
    simp only [RDs] at rd
    subst rd
    exact ⟨a, vs, rfl, rfl, h1, k _ _ (fun b hb => upd_ne hb) (ho.put h2.rev) (by simp only [RD])⟩
  · cases hg
def gClear : List D → List D → Option (D × List D)
  | _, [] => some (.non, [])
  | _, _ => none
theorem mx_clear : MutX X "list.clear" gClear := by
  refine ⟨_, mt_clear, fun F H a xs cs ds res cs' Q hl ho rd hg k => ?_⟩
  obtain ⟨_, vs, h1, h2⟩ := id ho
  unfold gClear at hg
  split at hg
  · cases hg
    simp only [RDs] at rd
    subst rd
    exact ⟨a, vs, rfl, rfl, h1, k _ _ (fun b hb => upd_ne hb) (ho.put (by simp only [RDs])) (by simp only [RD])⟩
  · cases hg
end
end VS

set_option Elab.async false
set_option linter.all false
set_option maxRecDepth 100000
set_option maxHeartbeats 4000000
namespace VS
open PySem L2 PyProof.Rows

/-! ### extend -/
def ownOf (Γ : VEnv) : EV → Option D
  | .fresh d => some d
  | r => content Γ r
def mExt (mo m : M) : M := fun Γ => (mo Γ).bind fun p => (content p.2 p.1).bind fun c0 => match c0 with
  | .lst _ => (m p.2).bind fun q => (ownOf q.2 q.1).bind fun z => (content q.2 p.1).bind fun c => match c, z with
    | .lst cs, .lst ds => if cs.length + ds.length ≤ sizeLine then some (.val .non, putC q.2 (.lst (cs ++ ds)) p.1) else none
    | _, _ => none
  | _ => none
section
variable {X : Cx} {e o : Expr} {mo m : M} {pos apos : Pos}
theorem ownOf_ok {K : PySem.W.Frag} {mg : Str → Option Value} {ρ : List Addr} {O : Addr → Prop} {Γ : VEnv} {σ : L2.St} {H F : Hp} {r : EV} {v : V} {d : D} (R : Rep K mg ρ O Γ σ H F) (h : RepEV K mg ρ O Γ σ H F r v) (e : ownOf Γ r = some d) : ∃ a, v = .ref a ∧ OwnAt K mg F H a d := by
  cases r with
  | val d => cases e
  | fresh d => cases e; obtain ⟨p, h1, h2, _⟩ := h; exact ⟨p, h1, h2⟩
  | slot i => obtain ⟨a, h1, h2, _⟩ := mut_ok R h e; exact ⟨a, h1, h2⟩
  | par i => obtain ⟨a, h1, h2, _⟩ := mut_ok R h e; exact ⟨a, h1, h2⟩
theorem ve_extend (ho : VE X o mo) (he : VE X e m)
    (hbase : attributeBase o "extend" X.env (eval o X.env) = eval o X.env := by rfl)
    (hfew : ((backTo pos (starEach [e] X.env)).all (fun x => !x.1) && (backToKw pos (keywordEach [] X.env)).all (fun x => x.1.isSome)
      && decide ([e].length + ([] : List Keyword).length + (if ([] : List Keyword).isEmpty then 0 else 1) < 30)) = true := by rfl)
    (hline : (apos.endLine == pos.line) = true := by rfl) (hs : starEach [e] X.env = (false, eval e X.env) :: starEach [] X.env := by rfl) (hplain : (backTo pos (starEach [] X.env)).any (·.1) = false := by rfl) :
    VE X (.Call (.Attribute o "extend" apos) [e] [] pos) (mExt mo m) := by
  refine pe_of (pe_bm PySem.F.plainAttrs_list PySem.F.slot_list_extend PySem.F.type_list_extend mt_extend ho (va_cons he va_nil hs) hbase hfew hline hs hplain) fun σ H Q h => ?_
  obtain ⟨ρ, O, Γ, F, res, Γ', R, e, k⟩ := h
  obtain ⟨⟨ro, Γ1⟩, e1, e⟩ := obind e
  obtain ⟨c0, e2, e⟩ := obind e
  cases c0 with
  | lst cs0 =>
    obtain ⟨⟨r, Γ2⟩, e3, e⟩ := obind e
    obtain ⟨z, e4, e⟩ := obind e
    obtain ⟨c, e5, e⟩ := obind e
    cases c with
    | lst cs =>
      cases z with
      | lst ds =>
        simp only at e
        split at e
        · rename_i hz
          cases e
          refine tV_run R e1 fun v H1 F1 s1 c1 r1 => ?_
          obtain ⟨a, rfl, ho, _⟩ := mut_ok s1.rep r1 e2
          obtain ⟨_, vs0, h1, _⟩ := id ho
          refine ⟨.inl ⟨rfl, vs0, .inl (.inl h1)⟩, ?_⟩
          have em : mCons m mNil Γ1 = some ([r], Γ2) := by simp only [mCons, e3, Option.bind_some, mNil, Option.map_some]
          refine tL_run s1.rep em fun vs H2 F2 s2 c2 r2 => ?_
          simp only [RepL] at r2
          obtain ⟨v2, ws, rfl, r2, rfl⟩ := r2
          have st : Stp X.K X.mg ρ O Γ2 σ H F H2 F2 := s1.trans s2
          have ro3 : RepEV X.K X.mg ρ O Γ2 σ H2 F2 ro (.ref a) := content_later r1 e5 c2
          obtain ⟨a', q0, ho3, hm⟩ := mut_ok st.rep ro3 e5
          cases q0
          obtain ⟨b, rfl, hb⟩ := ownOf_ok st.rep r2 e4
          obtain ⟨_, vs1, g1, g2⟩ := id ho3
          obtain ⟨_, vs2, g3, g4⟩ := id hb
          refine ⟨a, b, vs1, vs2, rfl, rfl, g1, g3, by rw [← g2.length, ← g4.length]; exact hz, ?_⟩
          obtain ⟨R4, op4⟩ := hm (upd H2 a (.lst (vs1 ++ vs2))) (.lst (cs ++ ds)) (fun b hb => upd_ne hb) (ho3.put (g2.append g4))
          exact k .non _ F2 (st.trans ⟨R4, Same.refl _, op4⟩) trivial (by simp only [RepEV, RD])
        · cases e
      | _ => cases e
    | _ => cases e
  | _ => cases e
end
/-! ### defs -/
abbrev Sem' := List Cell → List SC → Option (EV × List SC)
/-- the promise of a def with n parameters that does what f says -/
def spV (K : PySem.W.Frag) (mg : Str → Option Value) (n : Nat) (f : Sem') : Sp := fun vs H Q _ => vs.length = n ∧ ∃ cells ρ F O st r st', Rep K mg ρ O ⟨cells, st⟩ (vs.map some) H F ∧ f cells st = some (r, st') ∧
  ∀ v H' F', Stp K mg ρ O ⟨[], st'⟩ [] H F H' F' → RepEV K mg ρ O ⟨[], st'⟩ [] H' F' r v → Q v H'
def retEV (r : EV) (Γ : VEnv) : Option (EV × List SC) := match r with
  | .val d => some (.val d, Γ.st)
  | .fresh d => some (.fresh d, Γ.st)
  | .slot i => match Γ.sl[i]? with
    | some (.own d) => some (.fresh d, Γ.st)
    | some (.val d) => some (.val d, Γ.st)
    | _ => none
  | .par k => some (.par k, Γ.st)
/-- a body with p parameters and n slots as a def -/
def defOf (p n : Nat) (m : MS) : Sem' := fun cells st => if cells.length = p then (m ⟨cells ++ List.replicate (n - p) .un, st⟩).bind fun q => match q.1 with
  | .ret r => retEV r q.2
  | .nx => some (.val .non, q.2.st)
  | _ => none else none
section
variable {K : PySem.W.Frag} {mg : Str → Option Value} {ρ : List Addr} {O O' : Addr → Prop} {Γ Γ' : VEnv} {σ σ' : L2.St} {H F H' F' : Hp} {r : EV} {v : V} {d : D} {a : Addr}
/-- the slots are given up -/
theorem Rep.drop (R : Rep K mg ρ O Γ σ H F) : Rep K mg ρ O ⟨[], Γ.st⟩ [] H F where
  le := R.le
  len := rfl
  vl := fun i d e => by simp at e
  ow := fun i d e => by simp at e
  pr := fun i k e => by simp at e
  plen := R.plen
  sow := R.sow
  sfz := R.sfz
  inj := fun l l' b h1 h2 => by
    have f : ∀ l, LocAt ρ ⟨[], Γ.st⟩ [] l b → LocAt ρ Γ σ l b := fun l h => by
      cases l with
      | inl i => obtain ⟨⟨d, e⟩, _⟩ := h; simp at e
      | inr k => exact h
    exact R.inj l l' b (f l h1) (f l' h2)
  prot := fun b hb => ⟨(R.prot b hb).1, (R.prot b hb).2.1, fun l h => by
    cases l with
    | inl i => obtain ⟨⟨d, e⟩, _⟩ := h; simp at e
    | inr k => exact (R.prot b hb).2.2 (.inr k) h⟩
theorem locDrop {l : Nat ⊕ Nat} (h : LocAt ρ ⟨[], Γ.st⟩ [] l a) : LocAt ρ Γ σ l a := by
  cases l with
  | inl i => obtain ⟨⟨d, e⟩, _⟩ := h; simp at e
  | inr k => exact h
theorem retEV_ok {st : List SC} {r' : EV} (R : Rep K mg ρ O Γ σ H F) (h : RepEV K mg ρ O Γ σ H F r v) (e : retEV r Γ = some (r', st)) : st = Γ.st ∧ RepEV K mg ρ O ⟨[], st⟩ [] H F r' v := by
  cases r with
  | val d => cases e; exact ⟨rfl, h⟩
  | fresh d => cases e; obtain ⟨p, h1, h2, h3, h4⟩ := h; exact ⟨rfl, p, h1, h2, h3, fun l z => h4 l (locDrop z)⟩
  | slot i =>
    simp only [retEV] at e
    cases q : Γ.sl[i]? with
    | none => rw [q] at e; cases e
    | some c =>
      rw [q] at e
      cases c with
      | own d =>
        cases e
        obtain ⟨a, h1, h2⟩ := R.ow i d q
        have e0 := h.1
        rw [h1] at e0; cases e0
        have la : LocAt ρ Γ σ (.inl i) a := ⟨⟨d, q⟩, h1⟩
        refine ⟨rfl, a, rfl, h2, fun z => (R.prot a z).2.2 (.inl i) la, fun l z => ?_⟩
        have := R.inj l (.inl i) a (locDrop z) la
        subst this
        obtain ⟨⟨d, e⟩, _⟩ := z
        simp at e
      | val d => cases e; obtain ⟨a, h1, h2⟩ := R.vl i d q; have e0 := h.1; rw [h1] at e0; cases e0; exact ⟨rfl, h2⟩
      | un => cases e
      | par k => cases e
  | par k => cases e; exact ⟨rfl, h⟩
theorem rep_start {cells : List Cell} {st : List SC} {vs : List V} {N : List Str} (R : Rep K mg ρ O ⟨cells, st⟩ (vs.map some) H F) (hl : vs.length ≤ N.length) : Rep K mg ρ O ⟨cells ++ List.replicate (N.length - cells.length) .un, st⟩ (L2.start N vs) H F := by
  have hc : cells.length = vs.length := by have := R.len; simpa using this.symm
  have gc : ∀ {i : Nat} {c : Cell}, (cells ++ List.replicate (N.length - cells.length) .un)[i]? = some c → c ≠ .un → cells[i]? = some c ∧ i < vs.length := by
    intro i c h hn
    by_cases hi : i < cells.length
    · rw [List.getElem?_append_left hi] at h; exact ⟨h, by omega⟩
    · rw [List.getElem?_append_right (by omega)] at h
      have := List.getElem?_replicate (n := N.length - cells.length) (a := Cell.un) (i := i - cells.length)
      rw [h] at this
      split at this
      · exact absurd (Option.some.inj this) hn
      · cases this
  have gs : ∀ {i : Nat}, i < vs.length → (L2.start N vs)[i]? = (vs.map some)[i]? := fun hi => by
    unfold L2.start
    rw [List.getElem?_append_left (by simpa using hi)]
  have loc : ∀ l b, LocAt ρ ⟨cells ++ List.replicate (N.length - cells.length) .un, st⟩ (L2.start N vs) l b → LocAt ρ ⟨cells, st⟩ (vs.map some) l b := by
    intro l b h
    cases l with
    | inl i =>
      obtain ⟨⟨d, e⟩, h1⟩ := h
      obtain ⟨e1, e2⟩ := gc e (fun z => nomatch z)
      exact ⟨⟨d, e1⟩, by rw [← gs e2]; exact h1⟩
    | inr k => exact h
  refine ⟨R.le, by simp [L2.start]; omega, fun i d e => ?_, fun i d e => ?_, fun i k e => ?_, R.plen, R.sow, R.sfz, fun l l' b h1 h2 => R.inj l l' b (loc l b h1) (loc l' b h2), fun b hb => ⟨(R.prot b hb).1, (R.prot b hb).2.1, fun l z => (R.prot b hb).2.2 l (loc l b z)⟩⟩
  · obtain ⟨e1, e2⟩ := gc e (fun z => nomatch z)
    obtain ⟨v, h1, h2⟩ := R.vl i d e1
    exact ⟨v, by rw [gs e2]; exact h1, h2⟩
  · obtain ⟨e1, e2⟩ := gc e (fun z => nomatch z)
    obtain ⟨v, h1, h2⟩ := R.ow i d e1
    exact ⟨v, by rw [gs e2]; exact h1, h2⟩
  · obtain ⟨e1, e2⟩ := gc e (fun z => nomatch z)
    obtain ⟨v, h1, h2⟩ := R.pr i k e1
    exact ⟨v, h1, by rw [gs e2]; exact h2⟩
end
section
variable {P : Program} {w : World} {K : PySem.W.Frag} {mg : Str → Option Value} {base : Heap}
/-- a def of the text does what its mirror says -/
theorem fn_ok {x qual : Str} {st : Stmt} {f : Addr} {fd : FuncData} {N ps : List Str} {k : Nat} {m : MS} (F : Fun K x qual st f fd) (S : FnScope N ps (defScope st))
    (hb : ∀ (cdv : Value) (A : Around) (outer : List PySem.Env) (s : Shared) (H : Hp) (E : XK), Room k (A.deeper (envOfC qual (defScope st) s.heap.objs.size f cdv)) → VSs (cxOf CX0 P w K mg base N qual (defScope st) f cdv A outer s H E).nox (defBody st) m)
    (hps : ps.length ≤ N.length := by decide) : FnOk P w K mg base CX0 (k + 1) f fd ps (spV K mg ps.length (defOf ps.length N.length m)) := by
  refine F.ok S (fun vs H Q E h => h.1) fun cdv A outer s H vs Q E hr h => ?_
  obtain ⟨hl, cells, ρ, F, O, st0, r, st', R, e, k⟩ := h
  refine ⟨_, hb cdv A outer s H E hr, ?_⟩
  unfold defOf at e
  split at e
  case isFalse => cases e
  rename_i hcl
  obtain ⟨⟨fl, Γ'⟩, e1, e⟩ := obind e
  rw [← hcl] at e1
  have R' := rep_start (N := N) R (by rw [hl]; exact hps)
  refine tS_run R' e1 ?_
  cases fl with
  | nx =>
    cases e
    exact fun σ' H' F' s' => k .non H' F' ⟨s'.rep.drop, s'.fs, s'.op⟩ (by simp only [RepEV, RD])
  | ret r0 =>
    intro v σ' H' F' s' hr'
    obtain ⟨rfl, h2⟩ := retEV_ok s'.rep hr' e
    exact k v H' F' ⟨s'.rep.drop, s'.fs, s'.op⟩ h2
  | brk => cases e
  | cont => cases e
end
/-! ### calls -/
def passA (b : Bool) (r : EV) (Γ : VEnv) : Option (Cell × VEnv) := match r with
  | .val d => some (.val d, Γ)
  | .fresh d => some (.own d, Γ)
  | .slot i => if b = true then match Γ.sl[i]? with
      | some (.own d) => some (.par Γ.st.length, ⟨Γ.sl.set i (.par Γ.st.length), Γ.st ++ [.own d]⟩)
      | some (.val d) => some (.val d, Γ)
      | some (.par k) => some (.par k, Γ)
      | _ => none
    else (freeze (.slot i) Γ).map fun p => (.val p.1, p.2)
  | .par k => if b = true then some (.par k, Γ) else (freeze (.par k) Γ).map fun p => (.val p.1, p.2)
def passL : List Bool → List EV → VEnv → Option (List Cell × VEnv)
  | _, [], Γ => some ([], Γ)
  | bs, r :: rs, Γ => (passA (bs.headD false) r Γ).bind fun p => (passL bs.tail rs p.2).map fun q => (p.1 :: q.1, q.2)
/-- what was lent comes back -/
def unlend (n : Nat) (st : List SC) : Cell → Cell
  | .par k => if k < n then .par k else match st[k]? with
    | some (.own d) => .own d
    | some (.frz d) => .val d
    | none => .un
  | c => c
def mCall (bs : List Bool) (f : Sem') (ml : ML) : M := fun Γ => (ml Γ).bind fun p => (passL bs p.1 p.2).bind fun q => (f q.1 q.2.st).bind fun z =>
  match z.1 with
  | .val d => some (.val d, ⟨q.2.sl.map (unlend p.2.st.length z.2), z.2.take p.2.st.length⟩)
  | .fresh d => some (.fresh d, ⟨q.2.sl.map (unlend p.2.st.length z.2), z.2.take p.2.st.length⟩)
  | .par k => if k < p.2.st.length then some (.par k, ⟨q.2.sl.map (unlend p.2.st.length z.2), z.2.take p.2.st.length⟩) else none
  | _ => none
end VS

set_option Elab.async false
set_option linter.all false
set_option maxRecDepth 100000
set_option maxHeartbeats 4000000
namespace VS
open PySem L2 PyProof.Rows

section
variable {K : PySem.W.Frag} {mg : Str → Option Value} {ρ : List Addr} {O O' : Addr → Prop} {Γ Γ' : VEnv} {σ σ' : L2.St} {H F H' F' : Hp} {r : EV} {v : V} {d : D} {a : Addr}
/-- a cell of the callee, seen by the caller -/
def CellR (K : PySem.W.Frag) (mg : Str → Option Value) (ρ : List Addr) (Γ : VEnv) (σ : L2.St) (H F : Hp) (O : Addr → Prop) : Cell → V → Prop
  | .un, _ => False
  | .val d, v => RD K mg F d v
  | .own d, v => ∃ p, v = .ref p ∧ OwnAt K mg F H p d ∧ ¬ O p ∧ ∀ l, ¬ LocAt ρ Γ σ l p
  | .par k, v => ∃ a, ρ[k]? = some a ∧ v = .ref a
def ownC (c : Cell) (v : V) : Addr → Prop := fun a => match c with
  | .own _ => v = .ref a
  | _ => False
def CellsL (K : PySem.W.Frag) (mg : Str → Option Value) (ρ : List Addr) (Γ : VEnv) (σ : L2.St) (H F : Hp) : (Addr → Prop) → List Cell → List V → Prop
  | _, [], vs => vs = []
  | O, c :: cs, vs => ∃ v ws, vs = v :: ws ∧ CellR K mg ρ Γ σ H F O c v ∧ CellsL K mg ρ Γ σ H F (orO O (ownC c v)) cs ws
/-- an own object is lent: it stands in the store -/
theorem Rep.lend {i : Nat} (R : Rep K mg ρ O Γ σ H F) (q : Γ.sl[i]? = some (Cell.own d)) (hs : σ[i]? = some (some (V.ref a))) : Rep K mg (ρ ++ [a]) O ⟨Γ.sl.set i (.par Γ.st.length), Γ.st ++ [.own d]⟩ σ H F := by
  obtain ⟨a', h1, h2⟩ := R.ow i d q
  rw [hs] at h1; cases h1
  have la : LocAt ρ Γ σ (.inl i) a := ⟨⟨d, q⟩, hs⟩
  have hpl := R.plen
  have gp : ∀ {k : Nat} {b : Addr}, (ρ ++ [a])[k]? = some b → (k < ρ.length ∧ ρ[k]? = some b) ∨ (k = ρ.length ∧ b = a) := fun {k b} h => by
    by_cases hk : k < ρ.length
    · rw [List.getElem?_append_left hk] at h; exact .inl ⟨hk, h⟩
    · rw [List.getElem?_append_right (by omega)] at h
      have := lt_of_get h
      have e : k = ρ.length := by simp at this; omega
      subst e
      simp at h
      exact .inr ⟨rfl, h.symm⟩
  have gst : ∀ {k : Nat} {c : SC}, (Γ.st ++ [SC.own d])[k]? = some c → (k < Γ.st.length ∧ Γ.st[k]? = some c) ∨ (k = Γ.st.length ∧ c = .own d) := fun {k c} h => by
    by_cases hk : k < Γ.st.length
    · rw [List.getElem?_append_left hk] at h; exact .inl ⟨hk, h⟩
    · rw [List.getElem?_append_right (by omega)] at h
      have := lt_of_get h
      have e : k = Γ.st.length := by simp at this; omega
      subst e
      simp at h
      exact .inr ⟨rfl, h.symm⟩
  have ap : ∀ {k : Nat} {b : Addr}, ρ[k]? = some b → (ρ ++ [a])[k]? = some b := fun h => by rw [List.getElem?_append_left (lt_of_get h)]; exact h
  have loc : ∀ l b, LocAt (ρ ++ [a]) ⟨Γ.sl.set i (.par Γ.st.length), Γ.st ++ [.own d]⟩ σ l b → (LocAt ρ Γ σ l b ∧ l ≠ .inl i) ∨ (l = .inr Γ.st.length ∧ b = a) := by
    intro l b h
    cases l with
    | inl j =>
      obtain ⟨⟨d', e⟩, h1⟩ := h
      rcases gset e with ⟨_, z, _⟩ | ⟨hne, e⟩
      · cases z
      · exact .inl ⟨⟨⟨d', e⟩, h1⟩, fun z => hne (by injection z)⟩
    | inr k =>
      obtain ⟨⟨d', e⟩, h1⟩ := h
      rcases gst e with ⟨hk, e⟩ | ⟨rfl, _⟩
      · rcases gp h1 with ⟨_, h1⟩ | ⟨e2, _⟩
        · exact .inl ⟨⟨⟨d', e⟩, h1⟩, fun z => nomatch z⟩
        · omega
      · rcases gp h1 with ⟨e2, _⟩ | ⟨_, e3⟩
        · omega
        · exact .inr ⟨rfl, e3⟩
  refine ⟨R.le, by rw [R.len]; simp, fun j d' e => ?_, fun j d' e => ?_, fun j k e => ?_, by simp [hpl], fun k d' e => ?_, fun k d' e => ?_, fun l l' b h1 h2 => ?_, fun b hb => ?_⟩
  · rcases gset e with ⟨_, z, _⟩ | ⟨_, e⟩
    · cases z
    · exact R.vl j d' e
  · rcases gset e with ⟨_, z, _⟩ | ⟨_, e⟩
    · cases z
    · exact R.ow j d' e
  · rcases gset e with ⟨rfl, z, _⟩ | ⟨_, e⟩
    · cases z
      exact ⟨a, by rw [← hpl]; simp, hs⟩
    · obtain ⟨b, h3, h4⟩ := R.pr j k e
      exact ⟨b, ap h3, h4⟩
  · rcases gst e with ⟨_, e⟩ | ⟨rfl, z⟩
    · obtain ⟨b, h3, h4⟩ := R.sow k d' e; exact ⟨b, ap h3, h4⟩
    · cases z; exact ⟨a, by rw [← hpl]; simp, h2⟩
  · rcases gst e with ⟨_, e⟩ | ⟨_, z⟩
    · obtain ⟨b, h3, h4⟩ := R.sfz k d' e; exact ⟨b, ap h3, h4⟩
    · cases z
  · rcases loc l b h1 with ⟨a1, n1⟩ | ⟨e1, rfl⟩
    · rcases loc l' b h2 with ⟨a2, n2⟩ | ⟨e2, rfl⟩
      · exact R.inj l l' b a1 a2
      · exact absurd (R.inj l (.inl i) b a1 la) n1
    · rcases loc l' b h2 with ⟨a2, n2⟩ | ⟨e2, _⟩
      · exact absurd (R.inj l' (.inl i) b a2 la) n2
      · rw [e1, e2]
  · obtain ⟨h3, h4, h5⟩ := R.prot b hb
    refine ⟨h3, h4, fun l z => ?_⟩
    rcases loc l b z with ⟨z, _⟩ | ⟨_, rfl⟩
    · exact h5 l z
    · exact h5 _ la
/-- how the caller's slots look while something is lent: n the length of the store ahead -/
structure Lent (n : Nat) (Γ : VEnv) : Prop where
  le : n ≤ Γ.st.length
  inj : ∀ (i j k : Nat), n ≤ k → Γ.sl[i]? = some (Cell.par k) → Γ.sl[j]? = some (Cell.par k) → i = j
theorem freeze_st {r : EV} {Γ Γ' : VEnv} {d : D} (h : freeze r Γ = some (d, Γ')) : Γ'.st.length = Γ.st.length ∧ ∀ (i k : Nat), Γ'.sl[i]? = some (Cell.par k) → Γ.sl[i]? = some (Cell.par k) := by
  cases r with
  | val d' => cases h; exact ⟨rfl, fun _ _ z => z⟩
  | fresh d' => cases h; exact ⟨rfl, fun _ _ z => z⟩
  | slot i =>
    simp only [freeze] at h
    cases q : Γ.sl[i]? with
    | none => rw [q] at h; cases h
    | some c =>
      rw [q] at h
      cases c with
      | own d' =>
        cases h
        refine ⟨rfl, fun j k z => ?_⟩
        rcases gset z with ⟨_, z, _⟩ | ⟨_, z⟩
        · cases z
        · exact z
      | val d' => cases h; exact ⟨rfl, fun _ _ z => z⟩
      | un => cases h
      | par k => cases h
  | par k =>
    simp only [freeze] at h
    cases q : Γ.st[k]? with
    | none => rw [q] at h; cases h
    | some c =>
      rw [q] at h
      cases c with
      | own d' => cases h; exact ⟨by simp, fun _ _ z => z⟩
      | frz d' => cases h; exact ⟨rfl, fun _ _ z => z⟩
theorem Rep.lent0 (R : Rep K mg ρ O Γ σ H F) : Lent Γ.st.length Γ := ⟨Nat.le_refl _, fun i j k hk h1 _ => by
  obtain ⟨a, h3, _⟩ := R.pr i k h1
  have := lt_of_get h3
  have := R.plen
  omega⟩
theorem passA_ok {b : Bool} {c : Cell} {n : Nat} (R : Rep K mg ρ O Γ σ H F) (h : RepEV K mg ρ O Γ σ H F r v) (e : passA b r Γ = some (c, Γ')) (L : Lent n Γ) :
    ∃ ρ1 F', Rep K mg (ρ ++ ρ1) O Γ' σ H F' ∧ Same F F' ∧ CellR K mg (ρ ++ ρ1) Γ' σ H F' O c v ∧ Lent n Γ' ∧ (∀ a, ownC c v a → frs r v a) := by
  have fz : ∀ {r : EV} {p : D × VEnv}, freeze r Γ = some p → RepEV K mg ρ O Γ σ H F r v → ∃ ρ1 F', Rep K mg (ρ ++ ρ1) O p.2 σ H F' ∧ Same F F' ∧ CellR K mg (ρ ++ ρ1) p.2 σ H F' O (.val p.1) v ∧ Lent n p.2 := by
    intro r p e h
    obtain ⟨d, Γ'⟩ := p
    obtain ⟨F', R', s, rd, _⟩ := freeze_ok R h e
    obtain ⟨l1, l2⟩ := freeze_st e
    exact ⟨[], F', by rw [List.append_nil]; exact R', s, rd, by rw [l1]; exact L.le, fun i j k hk z1 z2 => L.inj i j k hk (l2 i k z1) (l2 j k z2)⟩
  cases r with
  | val d => cases e; exact ⟨[], F, by rw [List.append_nil]; exact R, Same.refl _, h, L, fun a z => z.elim⟩
  | fresh d => cases e; obtain ⟨p, h1, h2, h3, h4⟩ := h; exact ⟨[], F, by rw [List.append_nil]; exact R, Same.refl _, ⟨p, h1, h2, h3, by rw [List.append_nil]; exact h4⟩, L, fun a z => z⟩
  | slot i =>
    simp only [passA] at e
    split at e
    · cases q : Γ.sl[i]? with
      | none => rw [q] at e; cases e
      | some c0 =>
        rw [q] at e
        cases c0 with
        | own d =>
          cases e
          obtain ⟨a, h1, h2⟩ := R.ow i d q
          have h0 := h.1
          rw [h1] at h0; cases h0
          refine ⟨[a], F, R.lend q h1, Same.refl _, ⟨a, by rw [← R.plen]; simp, rfl⟩, ⟨by simp; have := L.le; omega, fun i1 j1 k hk z1 z2 => ?_⟩, fun a z => z.elim⟩
          rcases gset z1 with ⟨x1, y1, _⟩ | ⟨hn1, y1⟩
          · rcases gset z2 with ⟨x2, _, _⟩ | ⟨_, y2⟩
            · rw [x1, x2]
            · cases y1
              obtain ⟨a2, h3, _⟩ := R.pr _ _ y2
              have := lt_of_get h3
              have := R.plen
              omega
          · rcases gset z2 with ⟨x2, y2, _⟩ | ⟨_, y2⟩
            · cases y2
              obtain ⟨a2, h3, _⟩ := R.pr _ _ y1
              have := lt_of_get h3
              have := R.plen
              omega
            · exact L.inj i1 j1 k hk y1 y2
        | val d => cases e; obtain ⟨a, h1, h2⟩ := R.vl i d q; have h0 := h.1; rw [h1] at h0; cases h0; exact ⟨[], F, by rw [List.append_nil]; exact R, Same.refl _, h2, L, fun a z => z.elim⟩
        | par k => cases e; obtain ⟨a, h1, h2⟩ := R.pr i k q; have h0 := h.1; rw [h2] at h0; cases h0; exact ⟨[], F, by rw [List.append_nil]; exact R, Same.refl _, ⟨a, by rw [List.append_nil]; exact h1, rfl⟩, L, fun a z => z.elim⟩
        | un => cases e
    · obtain ⟨p, e1, e2⟩ := omap e
      cases e2
      obtain ⟨ρ1, F', h1, h2, h3, h4⟩ := fz e1 h
      exact ⟨ρ1, F', h1, h2, h3, h4, fun a z => z.elim⟩
  | par k =>
    simp only [passA] at e
    split at e
    · cases e; obtain ⟨a, h1, h2⟩ := h; exact ⟨[], F, by rw [List.append_nil]; exact R, Same.refl _, ⟨a, by rw [List.append_nil]; exact h1, h2⟩, L, fun a z => z.elim⟩
    · obtain ⟨p, e1, e2⟩ := omap e
      cases e2
      obtain ⟨ρ1, F', h1, h2, h3, h4⟩ := fz e1 h
      exact ⟨ρ1, F', h1, h2, h3, h4, fun a z => z.elim⟩
theorem CellR.later {c : Cell} {ρ1 : List Addr} (h : CellR K mg ρ Γ σ H F O c v) (R' : Rep K mg (ρ ++ ρ1) O' Γ' σ H F') (hO : ∀ a, ownC c v a → O' a) (hf : Same F F') : CellR K mg (ρ ++ ρ1) Γ' σ H F' O c v := by
  cases c with
  | un => exact h
  | val d => exact RD.mono hf _ _ h
  | own d =>
    obtain ⟨p, h1, h2, h3, h4⟩ := h
    obtain ⟨q1, q2, q3⟩ := R'.prot p (hO p h1)
    exact ⟨p, h1, h2.stay hf q1 rfl, h3, q3⟩
  | par k => obtain ⟨a, h1, h2⟩ := h; exact ⟨a, by rw [List.getElem?_append_left (lt_of_get h1)]; exact h1, h2⟩
theorem RepL.weak : ∀ {rs : List EV} {ws : List V} {O1 O2 : Addr → Prop}, (∀ a, O2 a → O1 a) → RepL K mg ρ Γ σ H F O1 rs ws → RepL K mg ρ Γ σ H F O2 rs ws := by
  intro rs
  induction rs with
  | nil => intro ws O1 O2 _ h; exact h
  | cons r rs ih =>
    intro ws O1 O2 hO h
    simp only [RepL] at h ⊢
    obtain ⟨v, us, rfl, a1, a2⟩ := h
    refine ⟨v, us, rfl, a1.weakO hO, ih (fun a z => ?_) a2⟩
    rcases z with z | z
    · exact .inl (hO a z)
    · exact .inr z
theorem RepL.ext {ρ1 : List Addr} : ∀ {rs : List EV} {ws : List V} {O1 : Addr → Prop}, RepL K mg ρ Γ σ H F O1 rs ws → Rep K mg (ρ ++ ρ1) (orO O' (frL rs ws)) Γ' σ H F' → Same F F' → RepL K mg (ρ ++ ρ1) Γ' σ H F' O1 rs ws := by
  intro rs
  induction rs generalizing O' with
  | nil => intro ws O1 h _ _; exact h
  | cons r rs ih =>
    intro ws O1 h R' hf
    simp only [RepL] at h ⊢
    obtain ⟨v, us, rfl, a1, a2⟩ := h
    refine ⟨v, us, rfl, ?_, ih (O' := O') a2 (R'.weakO fun a z => ?_) hf⟩
    · cases r with
      | val d => exact RD.mono hf _ _ a1
      | fresh d =>
        obtain ⟨p, e1, e2, e3, e4⟩ := a1
        have hp : frL (.fresh d :: rs) (v :: us) p := .inl e1
        obtain ⟨q1, q2, q3⟩ := R'.prot p (.inr hp)
        exact ⟨p, e1, e2.stay hf q1 rfl, e3, q3⟩
      | slot i => exact a1
      | par k => obtain ⟨a, h1, h2⟩ := a1; exact ⟨a, by rw [List.getElem?_append_left (lt_of_get h1)]; exact h1, h2⟩
    · rcases z with z | z
      · exact .inl z
      · exact .inr (.inr z)
theorem passL_ok {n : Nat} : ∀ {rs : List EV} {bs : List Bool} {vs : List V} {cells : List Cell} {Γ : VEnv} {F : Hp} {ρ : List Addr} {O : Addr → Prop}, Rep K mg ρ O Γ σ H F → RepL K mg ρ Γ σ H F O rs vs → passL bs rs Γ = some (cells, Γ') → Lent n Γ →
    ∃ ρ1 F', Rep K mg (ρ ++ ρ1) O Γ' σ H F' ∧ Same F F' ∧ CellsL K mg (ρ ++ ρ1) Γ' σ H F' O cells vs ∧ Lent n Γ' := by
  intro rs
  induction rs with
  | nil =>
    intro bs vs cells Γ F ρ O R h e L
    simp only [RepL] at h
    simp only [passL] at e
    cases e
    exact ⟨[], F, by rw [List.append_nil]; exact R, Same.refl _, by simp only [CellsL]; exact h, L⟩
  | cons r rs ih =>
    intro bs vs cells Γ F ρ O R h e L
    simp only [RepL] at h
    obtain ⟨v, ws, rfl, h1, h2⟩ := h
    simp only [passL] at e
    obtain ⟨⟨c, Γ1⟩, e1, e⟩ := obind e
    obtain ⟨⟨cs, Γ2⟩, e2, e3⟩ := omap e
    cases e3
    have R1 : Rep K mg ρ (orO O (frL rs ws)) Γ σ H F := R.pendL h2
    have h1' : RepEV K mg ρ (orO O (frL rs ws)) Γ σ H F r v := by
      cases r with
      | fresh d =>
        obtain ⟨p, q1, q2, q3, q4⟩ := h1
        refine ⟨p, q1, q2, fun z => ?_, q4⟩
        rcases z with z | z
        · exact q3 z
        · exact frL_out h2 p z (.inr q1)
      | _ => exact h1
    obtain ⟨ρ1, F1, R2, s1, cr, L1, ow⟩ := passA_ok R1 h1' e1 L
    -- the cell's own object is protected from here on
    have R3 : Rep K mg (ρ ++ ρ1) (orO (orO O (ownC c v)) (frL rs ws)) Γ1 σ H F1 := by
      refine { R2 with prot := fun a z => ?_ }
      rcases z with (z | z) | z
      · exact R2.prot a (.inl z)
      · cases c with
        | own d =>
          obtain ⟨p, q1, q2, q3, q4⟩ := cr
          have z' : v = .ref a := z
          rw [q1] at z'; cases z'
          exact ⟨q2.1, q2.there, q4⟩
        | _ => exact z.elim
      · exact R2.prot a (.inr z)
    have h2' : RepL K mg (ρ ++ ρ1) Γ1 σ H F1 (orO O (ownC c v)) rs ws := by
      have := RepL.ext (O' := O) h2 R2 s1
      exact this.weak fun a z => by
        rcases z with z | z
        · exact .inl z
        · exact .inr (ow a z)
    obtain ⟨ρ2, F2, R4, s2, cl, L2⟩ := ih (R3.weakO fun a z => .inl z) h2' e2 L1
    refine ⟨ρ1 ++ ρ2, F2, by rw [← List.append_assoc]; exact R4.weakO fun a z => .inl z, s1.trans s2, ?_, L2⟩
    simp only [CellsL]
    rw [← List.append_assoc]
    refine ⟨v, ws, rfl, ?_, cl⟩
    have cr' : CellR K mg (ρ ++ ρ1) Γ1 σ H F1 O c v := by
      cases c with
      | own d => obtain ⟨p, q1, q2, q3, q4⟩ := cr; exact ⟨p, q1, q2, fun z => q3 (.inl z), q4⟩
      | _ => exact cr
    exact cr'.later R4 (fun a z => .inr z) s2
end
end VS

set_option Elab.async false
set_option linter.all false
set_option maxRecDepth 100000
set_option maxHeartbeats 4000000
namespace VS
open PySem L2 PyProof.Rows

section
variable {K : PySem.W.Frag} {mg : Str → Option Value} {ρ : List Addr} {O O' : Addr → Prop} {Γ Γ' : VEnv} {σ σ' : L2.St} {H F H' F' : Hp} {r : EV} {v : V} {d : D} {a : Addr}
/-- the caller's own slots -/
def ownS (Γ : VEnv) (σ : L2.St) : Addr → Prop := fun a => ∃ i : Nat, (∃ d, Γ.sl[i]? = some (Cell.own d)) ∧ σ[i]? = some (some (V.ref a))
theorem CellsL.len : ∀ {cs : List Cell} {vs : List V} {O : Addr → Prop}, CellsL K mg ρ Γ σ H F O cs vs → cs.length = vs.length
  | [], vs, O, h => by simp only [CellsL] at h; rw [h]; rfl
  | c :: cs, vs, O, h => by
    simp only [CellsL] at h
    obtain ⟨v, ws, rfl, _, h⟩ := h
    simp only [List.length_cons, CellsL.len h]
theorem CellsL.get : ∀ {cs : List Cell} {vs : List V} {O : Addr → Prop} {i : Nat} {c : Cell}, CellsL K mg ρ Γ σ H F O cs vs → cs[i]? = some c → ∃ v O1, vs[i]? = some v ∧ CellR K mg ρ Γ σ H F O1 c v ∧ ∀ a, O a → O1 a
  | [], vs, O, i, c, h, e => by simp at e
  | c0 :: cs, vs, O, 0, c, h, e => by
    simp only [CellsL] at h
    obtain ⟨v, ws, rfl, h1, h2⟩ := h
    simp at e; subst e
    exact ⟨v, O, rfl, h1, fun _ z => z⟩
  | c0 :: cs, vs, O, i + 1, c, h, e => by
    simp only [CellsL] at h
    obtain ⟨v, ws, rfl, h1, h2⟩ := h
    obtain ⟨u, O1, q1, q2, q3⟩ := CellsL.get (i := i) h2 (by simpa using e)
    exact ⟨u, O1, by simpa using q1, q2, fun a z => q3 a (.inl z)⟩
/-- two own cells stand apart -/
theorem CellsL.apart : ∀ {cs : List Cell} {vs : List V} {O : Addr → Prop} {i j : Nat} {d e : D} {a : Addr}, CellsL K mg ρ Γ σ H F O cs vs → cs[i]? = some (Cell.own d) → cs[j]? = some (Cell.own e) → vs[i]? = some (V.ref a) → vs[j]? = some (V.ref a) → i = j
  | [], vs, O, i, j, d, e, a, h, e1, _, _, _ => by simp at e1
  | c0 :: cs, vs, O, 0, 0, d, e, a, h, e1, e2, e3, e4 => rfl
  | c0 :: cs, vs, O, 0, j + 1, d, e, a, h, e1, e2, e3, e4 => by
    simp only [CellsL] at h
    obtain ⟨v, ws, rfl, h1, h2⟩ := h
    simp at e1 e3
    subst e1
    subst e3
    obtain ⟨u, O1, q1, q2, q3⟩ := h2.get (i := j) (by simpa using e2)
    obtain ⟨p, z1, z2, z3, z4⟩ := q2
    have : u = .ref a := by
      have e4' : ws[j]? = some (V.ref a) := by simpa using e4
      rw [q1] at e4'; exact Option.some.inj e4'
    rw [this] at z1; cases z1
    exact absurd (q3 a (.inr rfl)) z3
  | c0 :: cs, vs, O, i + 1, 0, d, e, a, h, e1, e2, e3, e4 => by
    simp only [CellsL] at h
    obtain ⟨v, ws, rfl, h1, h2⟩ := h
    simp at e2 e4
    subst e2
    subst e4
    obtain ⟨u, O1, q1, q2, q3⟩ := h2.get (i := i) (by simpa using e1)
    obtain ⟨p, z1, z2, z3, z4⟩ := q2
    have : u = .ref a := by
      have e4' : ws[i]? = some (V.ref a) := by simpa using e3
      rw [q1] at e4'; exact Option.some.inj e4'
    rw [this] at z1; cases z1
    exact absurd (q3 a (.inr rfl)) z3
  | c0 :: cs, vs, O, i + 1, j + 1, d, e, a, h, e1, e2, e3, e4 => by
    simp only [CellsL] at h
    obtain ⟨v, ws, rfl, h1, h2⟩ := h
    rw [CellsL.apart (i := i) (j := j) h2 (by simpa using e1) (by simpa using e2) (by simpa using e3) (by simpa using e4)]
/-- the callee's view at its entry -/
theorem rep_callee {cells : List Cell} {vs : List V} (R : Rep K mg ρ O Γ σ H F) (h : CellsL K mg ρ Γ σ H F O cells vs) : Rep K mg ρ (orO O (ownS Γ σ)) ⟨cells, Γ.st⟩ (vs.map some) H F := by
  have gv : ∀ {i : Nat} {v : V}, vs[i]? = some v → (vs.map some)[i]? = some (some v) := fun h => by simp [h]
  have vg : ∀ {i : Nat} {v : V}, (vs.map some)[i]? = some (some v) → vs[i]? = some v := fun h => by simpa using h
  refine ⟨R.le, by simp [h.len], fun i d e => ?_, fun i d e => ?_, fun i k e => ?_, R.plen, R.sow, R.sfz, fun l l' b h1 h2 => ?_, fun b hb => ?_⟩
  · obtain ⟨v, O1, q1, q2, _⟩ := h.get e; exact ⟨v, gv q1, q2⟩
  · obtain ⟨v, O1, q1, ⟨p, rfl, z2, z3, z4⟩, _⟩ := h.get e; exact ⟨p, gv q1, z2⟩
  · obtain ⟨v, O1, q1, ⟨p, z1, rfl⟩, _⟩ := h.get e; exact ⟨p, z1, gv q1⟩
  · cases l with
    | inl i =>
      obtain ⟨⟨d, e⟩, e1⟩ := h1
      obtain ⟨v, O1, q1, ⟨p, rfl, z2, z3, z4⟩, _⟩ := h.get e
      have e1' := vg e1
      rw [q1] at e1'; cases e1'
      cases l' with
      | inl j =>
        obtain ⟨⟨d', e'⟩, e2⟩ := h2
        rw [h.apart e e' q1 (vg e2)]
      | inr k => exact absurd (show LocAt ρ Γ σ (.inr k) b from h2) (z4 (.inr k))
    | inr k =>
      cases l' with
      | inl j =>
        obtain ⟨⟨d, e⟩, e1⟩ := h2
        obtain ⟨v, O1, q1, ⟨p, rfl, z2, z3, z4⟩, _⟩ := h.get e
        have e1' := vg e1
        rw [q1] at e1'; cases e1'
        exact absurd (show LocAt ρ Γ σ (.inr k) b from h1) (z4 (.inr k))
      | inr k' => exact R.inj (.inr k) (.inr k') b h1 h2
  · have out : F b = none ∧ H b ≠ none ∧ (∀ k, ¬ LocAt ρ Γ σ (.inr k) b) ∧ (O b ∨ ∃ i, LocAt ρ Γ σ (.inl i) b) := by
      rcases hb with hb | ⟨i, hb⟩
      · exact ⟨(R.prot b hb).1, (R.prot b hb).2.1, fun k => (R.prot b hb).2.2 _, .inl hb⟩
      · have lb : LocAt ρ Γ σ (.inl i) b := hb
        obtain ⟨⟨d, e⟩, e1⟩ := hb
        obtain ⟨a, h1, h2⟩ := R.ow i d e
        rw [e1] at h1; cases h1
        exact ⟨h2.1, h2.there, (fun k z => by cases R.inj _ _ b lb z), .inr ⟨i, lb⟩⟩
    refine ⟨out.1, out.2.1, fun l hl => ?_⟩
    cases l with
    | inr k => exact out.2.2.1 k hl
    | inl i =>
      obtain ⟨⟨d, e⟩, e1⟩ := hl
      obtain ⟨v, O1, q1, ⟨p, rfl, z2, z3, z4⟩, z5⟩ := h.get e
      have e1' := vg e1
      rw [q1] at e1'; cases e1'
      rcases out.2.2.2 with z | ⟨j, z⟩
      · exact z3 (z5 b z)
      · exact z4 _ z
/-- behind the call: what was lent is back -/
theorem rep_back {n : Nat} {st' : List SC} (R : Rep K mg ρ O Γ σ H F) (L : Lent n Γ) (s : Stp K mg ρ (orO O (ownS Γ σ)) ⟨[], st'⟩ [] H F H' F') : Rep K mg (ρ.take n) O ⟨Γ.sl.map (unlend n st'), st'.take n⟩ σ H' F' ∧
    (∀ l b, LocAt (ρ.take n) ⟨Γ.sl.map (unlend n st'), st'.take n⟩ σ l b → LocAt ρ ⟨[], st'⟩ [] (.inr (match l with | .inl _ => 0 | .inr k => k)) b ∨ (∃ k, LocAt ρ ⟨[], st'⟩ [] (.inr k) b) ∨ ownS Γ σ b) := by
  have R' := s.rep
  have hpl : ρ.length = st'.length := R'.plen
  have hpl0 := R.plen
  have gs : ∀ {i : Nat} {c : Cell}, (Γ.sl.map (unlend n st'))[i]? = some c → ∃ c0, Γ.sl[i]? = some c0 ∧ unlend n st' c0 = c := fun {i c} h => by
    rw [List.getElem?_map] at h
    obtain ⟨c0, h1, h2⟩ := omap h
    exact ⟨c0, h1, h2⟩
  have tk : ∀ {α : Type} {l : List α} {k : Nat} {x : α}, (l.take n)[k]? = some x → k < n ∧ l[k]? = some x := fun {α l k x} h => by
    rw [List.getElem?_take] at h
    split at h
    · exact ⟨by assumption, h⟩
    · cases h
  have kt : ∀ {α : Type} {l : List α} {k : Nat} {x : α}, k < n → l[k]? = some x → (l.take n)[k]? = some x := fun hk h => by rw [List.getElem?_take, if_pos hk]; exact h
  -- a lent slot
  have lent : ∀ {i : Nat} {c0 : Cell} {d : D}, Γ.sl[i]? = some c0 → unlend n st' c0 = .own d → (c0 = .own d ∧ ∃ a, σ[i]? = some (some (V.ref a)) ∧ OwnAt K mg F H a d) ∨ ∃ k a, n ≤ k ∧ c0 = .par k ∧ st'[k]? = some (SC.own d) ∧ ρ[k]? = some a ∧ σ[i]? = some (some (V.ref a)) := by
    intro i c0 d h e
    cases c0 with
    | un => cases e
    | val d' => cases e
    | own d' => cases e; exact .inl ⟨rfl, R.ow i d h⟩
    | par k =>
      simp only [unlend] at e
      split at e
      · cases e
      · obtain ⟨a, h1, h2⟩ := R.pr i k h
        cases q : st'[k]? with
        | none => rw [q] at e; cases e
        | some c =>
          rw [q] at e
          cases c with
          | own d' => cases e; exact .inr ⟨k, a, by omega, rfl, q, h1, h2⟩
          | frz d' => cases e
  have loc : ∀ l b, LocAt (ρ.take n) ⟨Γ.sl.map (unlend n st'), st'.take n⟩ σ l b → (∃ i, l = .inl i ∧ LocAt ρ Γ σ (.inl i) b) ∨ (∃ i k, l = .inl i ∧ n ≤ k ∧ Γ.sl[i]? = some (Cell.par k) ∧ LocAt ρ ⟨[], st'⟩ [] (.inr k) b) ∨ ∃ k, l = .inr k ∧ k < n ∧ LocAt ρ ⟨[], st'⟩ [] (.inr k) b := by
    intro l b h
    cases l with
    | inl i =>
      obtain ⟨⟨d, e⟩, e1⟩ := h
      obtain ⟨c0, h1, h2⟩ := gs e
      rcases lent h1 h2 with ⟨rfl, _⟩ | ⟨k, a, hk, rfl, q1, q2, q3⟩
      · exact .inl ⟨i, rfl, ⟨d, h1⟩, e1⟩
      · rw [q3] at e1; cases e1
        exact .inr (.inl ⟨i, k, rfl, hk, h1, ⟨d, q1⟩, q2⟩)
    | inr k =>
      obtain ⟨⟨d, e⟩, e1⟩ := h
      obtain ⟨hk, e⟩ := tk e
      exact .inr (.inr ⟨k, rfl, hk, ⟨d, e⟩, (tk e1).2⟩)
  have oS : ∀ {i : Nat} {b : Addr}, LocAt ρ Γ σ (.inl i) b → orO O (ownS Γ σ) b := fun {i b} h => .inr ⟨i, h⟩
  refine ⟨⟨R'.le, by rw [R.len]; simp, fun i d e => ?_, fun i d e => ?_, fun i k e => ?_, by simp only [List.length_take]; omega, fun k d e => ?_, fun k d e => ?_, fun l l' b h1 h2 => ?_, fun b hb => ?_⟩, fun l b h => ?_⟩
  · obtain ⟨c0, h1, h2⟩ := gs e
    cases c0 with
    | un => cases h2
    | val d' => cases h2; obtain ⟨v, h3, h4⟩ := R.vl i d h1; exact ⟨v, h3, RD.mono s.fs _ _ h4⟩
    | own d' => cases h2
    | par k =>
      simp only [unlend] at h2
      split at h2
      · cases h2
      · obtain ⟨a, h3, h4⟩ := R.pr i k h1
        cases q : st'[k]? with
        | none => rw [q] at h2; cases h2
        | some c =>
          rw [q] at h2
          cases c with
          | own d' => cases h2
          | frz d' => cases h2; obtain ⟨a', h5, h6⟩ := R'.sfz k d q; rw [h3] at h5; cases h5; exact ⟨_, h4, h6⟩
  · obtain ⟨c0, h1, h2⟩ := gs e
    rcases lent h1 h2 with ⟨rfl, a, h3, h4⟩ | ⟨k, a, hk, rfl, q1, q2, q3⟩
    · have ho : orO O (ownS Γ σ) a := .inr ⟨i, ⟨d, h1⟩, h3⟩
      exact ⟨a, h3, h4.stay s.fs (R'.prot a ho).1 (s.op a ho)⟩
    · obtain ⟨a', h5, h6⟩ := R'.sow k d q1
      rw [q2] at h5; cases h5
      exact ⟨a, q3, h6⟩
  · obtain ⟨c0, h1, h2⟩ := gs e
    cases c0 with
    | un => cases h2
    | val d' => cases h2
    | own d' => cases h2
    | par k' =>
      simp only [unlend] at h2
      split at h2
      · rename_i hk
        cases h2
        obtain ⟨a, h3, h4⟩ := R.pr i k h1
        exact ⟨a, kt hk h3, h4⟩
      · cases q : st'[k']? with
        | none => rw [q] at h2; cases h2
        | some c => rw [q] at h2; cases c <;> cases h2
  · obtain ⟨hk, e⟩ := tk e
    obtain ⟨a, h1, h2⟩ := R'.sow k d e
    exact ⟨a, kt hk h1, h2⟩
  · obtain ⟨hk, e⟩ := tk e
    obtain ⟨a, h1, h2⟩ := R'.sfz k d e
    exact ⟨a, kt hk h1, h2⟩
  · have pr : ∀ {i : Nat} {k : Nat}, LocAt ρ Γ σ (.inl i) b → LocAt ρ ⟨[], st'⟩ [] (.inr k) b → False := fun h1 h2 => (R'.prot b (oS h1)).2.2 _ h2
    rcases loc l b h1 with ⟨i, rfl, a1⟩ | ⟨i, k, rfl, hk, p1, a1⟩ | ⟨k, rfl, hk, a1⟩
    · rcases loc l' b h2 with ⟨i', rfl, a2⟩ | ⟨i', k', rfl, hk', p2, a2⟩ | ⟨k', rfl, hk', a2⟩
      · exact R.inj _ _ b a1 a2
      · exact (pr a1 a2).elim
      · exact (pr a1 a2).elim
    · rcases loc l' b h2 with ⟨i', rfl, a2⟩ | ⟨i', k', rfl, hk', p2, a2⟩ | ⟨k', rfl, hk', a2⟩
      · exact (pr a2 a1).elim
      · have e : k = k' := by injection R'.inj _ _ b a1 a2
        subst e
        rw [L.inj i i' k hk p1 p2]
      · have e : k = k' := by injection R'.inj _ _ b a1 a2
        omega
    · rcases loc l' b h2 with ⟨i', rfl, a2⟩ | ⟨i', k', rfl, hk', p2, a2⟩ | ⟨k', rfl, hk', a2⟩
      · exact (pr a2 a1).elim
      · have e : k = k' := by injection R'.inj _ _ b a1 a2
        omega
      · have e : k = k' := by injection R'.inj _ _ b a1 a2
        rw [e]
  · have hb' : orO O (ownS Γ σ) b := .inl hb
    obtain ⟨h1, h2, h3⟩ := R'.prot b hb'
    refine ⟨h1, h2, fun l hl => ?_⟩
    rcases loc l b hl with ⟨i, rfl, a1⟩ | ⟨i, k, rfl, hk, p1, a1⟩ | ⟨k, rfl, hk, a1⟩
    · exact (R.prot b hb).2.2 _ a1
    · exact h3 _ a1
    · exact h3 _ a1
  · rcases loc l b h with ⟨i, rfl, a1⟩ | ⟨i, k, rfl, hk, p1, a1⟩ | ⟨k, rfl, hk, a1⟩
    · exact .inr (.inr ⟨i, a1⟩)
    · exact .inr (.inl ⟨k, a1⟩)
    · exact .inl a1
end
section
variable {X : Cx} {e : Expr} {es : List Expr} {ml : ML} {pos : Pos}
theorem call_run {bs : List Bool} {n : Nat} {f : Sem'} (hf : ∀ cells st r, f cells st = some r → cells.length = n) {E : XK} {σ : L2.St} {H : Hp} {Q : VK} (h : tV X.K X.mg (mCall bs f ml) σ H Q) : tCall (spV X.K X.mg n f) [] E (tL X.K X.mg ml) σ H Q := by
  obtain ⟨ρ, O, Γ, F, res, Γ', R, e, k⟩ := h
  obtain ⟨⟨rs, Γ1⟩, e1, e⟩ := obind e
  obtain ⟨⟨cells, Γ2⟩, e2, e⟩ := obind e
  obtain ⟨⟨z, st'⟩, e3, e⟩ := obind e
  refine tL_run R e1 fun vs H1 F1 s1 c1 r1 => ?_
  obtain ⟨ρ1, F2, R2, s2, cl, L⟩ := passL_ok s1.rep r1 e2 s1.rep.lent0
  have hn := hf _ _ _ e3
  refine ⟨by rw [List.append_nil, ← cl.len]; exact hn, cells, ρ ++ ρ1, F2, orO O (ownS Γ2 σ), Γ2.st, z, st', ?_, e3, fun v H' F' s rv => ?_⟩
  · rw [List.append_nil]; exact rep_callee R2 cl
  · obtain ⟨Rb, lb⟩ := rep_back R2 L s
    have hρ : (ρ ++ ρ1).take Γ1.st.length = ρ := by rw [← s1.rep.plen]; simp
    rw [hρ] at Rb lb
    have st : Stp X.K X.mg ρ O ⟨Γ2.sl.map (unlend Γ1.st.length st'), st'.take Γ1.st.length⟩ σ H F H' F' := s1.trans ⟨Rb, s2.trans s.fs, fun a ha => s.op a (.inl ha)⟩
    cases z with
    | val d => cases e; exact k v H' F' st trivial rv
    | fresh d =>
      cases e
      obtain ⟨p, h1, h2, h3, h4⟩ := rv
      refine k v H' F' st trivial ⟨p, h1, h2, fun z => h3 (.inl z), fun l hl => ?_⟩
      rcases lb l p hl with z | ⟨j, z⟩ | z
      · exact h4 _ z
      · exact h4 _ z
      · exact h3 (.inr z)
    | slot i => cases e
    | par j =>
      simp only at e
      split at e
      · rename_i hj
        cases e
        obtain ⟨p, h1, h2⟩ := rv
        refine k v H' F' st trivial ⟨p, ?_, h2⟩
        rw [← hρ, List.getElem?_take, if_pos hj]
        exact h1
      · cases e
/-- f(e, ..) -/
theorem ve_call {f0 : Addr} {fd : FuncData} {ps : List Str} {x : Str} {p : Pos} {k n : Nat} {f : Sem'} (bs : List Bool) (F : FnOk X.prog X.w X.K X.mg X.base CX0 k f0 fd ps (spV X.K X.mg n f)) (hf : ∀ cells st r, f cells st = some r → cells.length = n) (hr : Room k X.A) (hm : X.mg x = some (.ref f0)) (hk : PySem.W.keepIn X.K (.ref f0) = true)
    (hb : Binds X.K fd ps []) (ha : VA X (e :: es) ml) (hg : Gl X x := by rfl) (hdb : (x == ("__debug__" : Str)) = false := by decide) (he : starEach (e :: es) X.env = (false, eval e X.env) :: starEach es X.env := by rfl) (hpl : (backTo pos (starEach es X.env)).any (·.1) = false := by rfl) :
    VE X (.Call (.Name x p) (e :: es) [] pos) (mCall bs f ml) := by
  exact pe_of (pe_call F hr hg hm hk hb .nil pass0 ha hdb he hpl) fun σ H Q h => call_run (E := E0) hf h
end
theorem defOf_len {p n : Nat} {m : MS} (cells : List Cell) (st : List SC) (r : EV × List SC) (h : defOf p n m cells st = some r) : cells.length = p := by
  unfold defOf at h
  split at h
  · assumption
  · cases h
end VS

set_option Elab.async false
set_option linter.all false
set_option maxRecDepth 100000
set_option maxHeartbeats 4000000
namespace VS
open PySem L2 PyProof.Rows

/-! ### a def of the module, ready to be called -/
def GF (P : Program) (w : World) (K : PySem.W.Frag) (mg : Str → Option Value) (base : Heap) (x : Str) (k p : Nat) (f : Sem') : Prop :=
  ∃ f0 fd ps, FnOk P w K mg base CX0 k f0 fd ps (spV K mg p f) ∧ mg x = some (.ref f0) ∧ PySem.W.keepIn K (.ref f0) = true ∧ Binds K fd ps [] ∧ ∀ cells st r, f cells st = some r → cells.length = p
theorem gf_mk {P : Program} {w : World} {K : PySem.W.Frag} {mg : Str → Option Value} {base : Heap} {x : Str} {k : Nat} {f0 : Addr} {fd : FuncData} {ps N : List Str} {m : MS} (F : FnOk P w K mg base CX0 k f0 fd ps (spV K mg ps.length (defOf ps.length N.length m))) (hm : mg x = some (.ref f0))
    (hk : PySem.W.keepIn K (.ref f0) = true) (hb : Binds K fd ps []) : GF P w K mg base x k ps.length (defOf ps.length N.length m) := ⟨f0, fd, ps, F, hm, hk, hb, defOf_len⟩
section
variable {X : Cx} {e : Expr} {es : List Expr} {ml : ML} {pos : Pos}
theorem ve_callG {x : Str} {p : Pos} {k j n : Nat} {f : Sem'} (bs : List Bool) (G : GF X.prog X.w X.K X.mg X.base x k n f) (hr : Room j X.A) (ha : VA X (e :: es) ml) (hj : k ≤ j := by decide) (hg : Gl X x := by rfl) (hdb : (x == ("__debug__" : Str)) = false := by decide)
    (he : starEach (e :: es) X.env = (false, eval e X.env) :: starEach es X.env := by rfl) (hpl : (backTo pos (starEach es X.env)).any (·.1) = false := by rfl) :
    VE X (.Call (.Name x p) (e :: es) [] pos) (mCall bs f ml) := by
  obtain ⟨f0, fd, ps, F, hm, hk, hb, hl⟩ := G
  exact ve_call bs F hl (hr.mono hj) hm hk hb ha hg hdb he hpl
end
theorem units64 {k : Nat} {A : Around} (r : Room k A) : A.units + 64 < cLine := r.units
theorem units65 {k : Nat} {A : Around} (r : Room k A) : A.units + 65 < cLine := by
  have := r.un
  omega
/-! ### [..] * n -/
def mRepL (a b : M) : M := fun Γ => (a Γ).bind fun p => (b p.2).bind fun q => match p.1, q.1 with
  | .fresh (.lst xs), .val (.int k) => if k.natAbs / 4611686018427387904 = 0 ∧ xs.length * k.toNat ≤ sizeLine then some (.fresh (.lst (List.replicate k.toNat xs).flatten), q.2) else none
  | _, _ => none
theorem ve_repL {X : Cx} {a b : Expr} {ma mb : M} {pos : Pos} (ha : VE X a ma) (hb : VE X b mb) : VE X (.BinOp a .Mult b pos) (mRepL ma mb) := by
  refine pe_of (pe_op op_rep ha hb) fun σ H Q h => ?_
  obtain ⟨ρ, O, Γ, F, res, Γ', R, e, k⟩ := h
  obtain ⟨⟨ra, Γ1⟩, e1, e⟩ := obind e
  obtain ⟨⟨rb, Γ2⟩, e2, e⟩ := obind e
  refine seq2 R e1 e2 fun x y H' F' s c rx ry => ?_
  split at e
  · rename_i xs i h1 h2
    simp only at h1 h2
    subst h1 h2
    split at e
    · rename_i hz
      cases e
      obtain ⟨p, rfl, ⟨hn, vs, g1, g2⟩, _⟩ := rx
      have hy : y = .int i := by simpa only [RepEV, RD] using ry
      refine ⟨p, i, vs, rfl, hy, g1, (sm62 hz.1).1, (sm62 hz.1).2, by rw [← g2.length]; exact hz.2, ?_⟩
      exact gq_list s.rep.le (fun v H2 F2 g hr => k v H2 F2 (s.trans (Stp.grow s.rep g)) c (res_ev s.rep g hr)) (g2.rep _)
    · cases e
  · cases e
/-! ### the law -/
def spLaw (K : PySem.W.Frag) : Sp := fun vs H Q _ => ∃ (a : Addr) (ns : List Int), vs = [.ref a] ∧ SqL K H a (ns.map V.int) ∧ ns.length ≤ 63 ∧ (∀ z ∈ ns, Builtin.Int.intBits z ≤ 1048576) ∧ ∀ H', Q (.bl true) H'
theorem rds_ints {K : PySem.W.Frag} {mg : Str → Option Value} {F : Hp} : ∀ ns : List Int, RDs K mg F (ns.map D.int) (ns.map V.int)
  | [] => by simp [RDs]
  | n :: ns => by simp only [List.map_cons, RDs, RD]; exact ⟨_, _, rfl, rfl, rds_ints ns⟩
/-- what is to be shown of the law's mirror -/
def LawOk (f : Sem') : Prop := ∀ ns : List Int, ns.length ≤ 63 → (∀ z ∈ ns, Builtin.Int.intBits z ≤ 1048576) → ∃ st, f [.val (.lst (ns.map D.int))] [] = some (.val (.bl true), st)
theorem law_imp {P : Program} {w : World} {K : PySem.W.Frag} {mg : Str → Option Value} {base : Heap} {k : Nat} {f0 : Addr} {fd : FuncData} {ps : List Str} {f : Sem'} (F : FnOk P w K mg base CX0 k f0 fd ps (spV K mg 1 f)) (h : LawOk f) : FnOk P w K mg base CX0 k f0 fd ps (spLaw K) := by
  refine F.imp fun vs H Q E hh => ?_
  obtain ⟨a, ns, rfl, hS, h1, h2, hq⟩ := hh
  obtain ⟨st, e⟩ := h ns h1 h2
  refine ⟨rfl, [.val (.lst (ns.map D.int))], [], H, fun _ => False, [], _, st, ⟨Same.refl _, rfl, fun i d e => ?_, fun i d e => ?_, fun i k e => ?_, rfl, fun k d e => ?_, fun k d e => ?_, fun l l' b hl _ => ?_, fun b hb => hb.elim⟩, e, fun v H' F' s rv => ?_⟩
  · cases i with
    | zero =>
      simp at e
      subst e
      refine ⟨_, rfl, ?_⟩
      simp only [RD]
      exact ⟨a, _, rfl, hS, rds_ints ns⟩
    | succ i => simp at e
  · cases i <;> simp at e
  · cases i <;> simp at e
  · simp at e
  · simp at e
  · cases l with
    | inl i => obtain ⟨⟨d, e⟩, _⟩ := hl; cases i <;> simp at e
    | inr i => obtain ⟨⟨d, e⟩, _⟩ := hl; simp at e
  · have : v = .bl true := by simpa only [RepEV, RD] using rv
    rw [this]
    exact hq H'
theorem walk {l : PySem.W.OpenLaw} {q : Program} {loose : List Str} {XP : (Str → Option Value) → Heap → Prop} {YP : World → Heap → Prop} {d : DefRec} {K : Params → PySem.W.Frag} (k : Nat) (hr : Room k callerA) (hn : l.most = some 63) (hdf : d.params.defaults = [])
    (hY : ∀ (w : World) (h : Heap), YP w h → (K w.params).In h)
    (F : ∀ (w : World) (mg : Str → Option Value) (fa : Addr) (h : Heap), (K w.params).In h → h.Ns mainGlobals mg → mg d.name = some (.ref fa) →
      ∃ fd : FuncData, (∀ (s : Shared) (u : Value), BindsTo s fd ⟨[u], []⟩ [("script", u)]) ∧ ∀ base : Heap, (K w.params).In base → base.Ns mainGlobals mg → FnOk l.prog w (K w.params) mg base CX0 k fa fd ["script"] (spLaw (K w.params))) :
    PySem.W.WalkO q loose XP YP l.row.toRowW d [] (fun f vs => PySem.call f vs) :=
  L2.walk_ofB (n := 63) (k := k) (x := "script") (CX := fun _ => CX0) (sp := fun w => spLaw (K w.params)) hn (by decide) hdf hr hY F (fun _ _ a ns hl hb _ hS => ⟨a, ns, rfl, hS, hl, hb, fun _ => rfl⟩) fun _ _ _ _ _ z => z
end VS

set_option Elab.async false
set_option linter.all false
set_option maxRecDepth 100000
set_option maxHeartbeats 4000000
namespace VS
open PySem L2 PyProof.Rows

/-! ### a value is frozen at once -/
def mFrz (m : M) : M := fun Γ => (m Γ).bind fun p => (freeze p.1 p.2).map fun q => (.val q.1, q.2)
section
variable {X : Cx} {e : Expr} {es : List Expr} {m : M} {ml : ML} {pos : Pos}
theorem ve_frz (h : VE X e m) : VE X e (mFrz m) := by
  refine pe_of h fun σ H Q h => ?_
  obtain ⟨ρ, O, Γ, F, r, Γ', R, e, k⟩ := h
  obtain ⟨⟨r1, Γ1⟩, e1, e⟩ := obind e
  obtain ⟨⟨d, Γ2⟩, e2, e3⟩ := omap e
  cases e3
  refine tV_run R e1 fun v H1 F1 s1 c1 r1 => ?_
  obtain ⟨F2, R2, s2, rd, c2⟩ := freeze_ok s1.rep r1 e2
  exact k v H1 F2 (s1.trans ⟨R2, s2, fun _ _ => rfl⟩) trivial rd
/-! ### a, b = x, y -/
def mPar (i j : Nat) (ml : ML) : MS := fun Γ => (ml Γ).bind fun p => (freezeL p.1 p.2).bind fun q => match q.1 with
  | [d, e] => some (.nx, setCell (setCell q.2 i (.val d)) j (.val e))
  | _ => none
def mPar3 (i j l : Nat) (ml : ML) : MS := fun Γ => (ml Γ).bind fun p => (freezeL p.1 p.2).bind fun q => match q.1 with
  | [d, e, f] => some (.nx, setCell (setCell (setCell q.2 i (.val d)) j (.val e)) l (.val f))
  | _ => none
theorem vs_par {i j : Nat} {x y : Str} {a b : Expr} {px py pt : Pos} {kt k2 pt2} (hc : X.calm = true) (hN : X.N.Nodup) (ha : VA X [a, b] ml) (hi : X.N[i]? = some x := by rfl) (hj : X.N[j]? = some y := by rfl) (hij : i ≠ j := by decide)
    (hx : X.env.scope.names.lookup x = some .local := by rfl) (hy : X.env.scope.names.lookup y = some .local := by rfl)
    (hw : swappedStores [.Tuple [.Name x px, .Name y py] kt pt] (.Tuple [a, b] k2 pt2) X.env = pure (some [x, y]) := by rfl)
    (hs : swapsWithSole [.Tuple [.Name x px, .Name y py] kt pt] (.Tuple [a, b] k2 pt2) pos.line X.env = pure false := by rfl) :
    VSt X (.Assign [.Tuple [.Name x px, .Name y py] kt pt] (.Tuple [a, b] k2 pt2) pos) (mPar i j ml) := by
  refine ps_of (ps_par hc hN hi hj hij hx hy ha hw hs) fun D σ H h => ?_
  obtain ⟨ρ, O, Γ, F, fl, Γ', R, e, k⟩ := h
  obtain ⟨⟨rs, Γ1⟩, e1, e⟩ := obind e
  obtain ⟨⟨ds, Γ2⟩, e2, e⟩ := obind e
  refine tL_run R e1 fun vs H1 F1 s1 c1 r1 => ?_
  obtain ⟨F2, R2, s2, rd, _⟩ := freezeL_ok s1.rep r1 e2
  simp only at e
  split at e
  · cases e
    simp only [RDs] at rd
    obtain ⟨v, _, rfl, h1, w, _, rfl, h2, rfl⟩ := rd
    refine ⟨v, w, rfl, ?_⟩
    have R3 := R2.setCell (i := i) (c := .val _) (x := some v) ⟨v, rfl, h1⟩
    have R4 := R3.setCell (i := j) (c := .val _) (x := some w) ⟨w, rfl, h2⟩
    exact k _ H1 F2 ⟨R4, s1.fs.trans s2, s1.op⟩
  · cases e
theorem vs_par3 {i j l : Nat} {x y z : Str} {a b c : Expr} {px py pz pt : Pos} {kt k2 pt2} (hc : X.calm = true) (hN : X.N.Nodup) (ha : VA X [a, b, c] ml) (hi : X.N[i]? = some x := by rfl) (hj : X.N[j]? = some y := by rfl) (hl : X.N[l]? = some z := by rfl)
    (hij : i ≠ j := by decide) (hil : i ≠ l := by decide) (hjl : j ≠ l := by decide)
    (hx : X.env.scope.names.lookup x = some .local := by rfl) (hy : X.env.scope.names.lookup y = some .local := by rfl) (hz : X.env.scope.names.lookup z = some .local := by rfl)
    (hw : swappedStores [.Tuple [.Name x px, .Name y py, .Name z pz] kt pt] (.Tuple [a, b, c] k2 pt2) X.env = pure (some [x, y, z]) := by rfl)
    (hs : swapsWithSole [.Tuple [.Name x px, .Name y py, .Name z pz] kt pt] (.Tuple [a, b, c] k2 pt2) pos.line X.env = pure false := by rfl) :
    VSt X (.Assign [.Tuple [.Name x px, .Name y py, .Name z pz] kt pt] (.Tuple [a, b, c] k2 pt2) pos) (mPar3 i j l ml) := by
  refine ps_of (ps_par3 hc hN hi hj hl hij hil hjl hx hy hz ha hw hs) fun D σ H h => ?_
  obtain ⟨ρ, O, Γ, F, fl, Γ', R, e, k⟩ := h
  obtain ⟨⟨rs, Γ1⟩, e1, e⟩ := obind e
  obtain ⟨⟨ds, Γ2⟩, e2, e⟩ := obind e
  refine tL_run R e1 fun vs H1 F1 s1 c1 r1 => ?_
  obtain ⟨F2, R2, s2, rd, _⟩ := freezeL_ok s1.rep r1 e2
  simp only at e
  split at e
  · cases e
    simp only [RDs] at rd
    obtain ⟨v, _, rfl, h1, w, _, rfl, h2, u, _, rfl, h3, rfl⟩ := rd
    refine ⟨v, w, u, rfl, ?_⟩
    have R3 := R2.setCell (i := i) (c := .val _) (x := some v) ⟨v, rfl, h1⟩
    have R4 := R3.setCell (i := j) (c := .val _) (x := some w) ⟨w, rfl, h2⟩
    have R5 := R4.setCell (i := l) (c := .val _) (x := some u) ⟨u, rfl, h3⟩
    exact k _ H1 F2 ⟨R5, s1.fs.trans s2, s1.op⟩
  · cases e
end
/-! ### two clauses -/
def lc2D (vs vs1 : List Nat) (g : MG) (tt : MB) (mi1 : MI) (g1 : MG) (tt1 : MB) (m : M) : List D → List D → VEnv → Option (List D × VEnv)
  | [], acc, Γ => some (acc, Γ)
  | d :: ds, acc, Γ => (g (.val d) Γ).bind fun Γ1 => (tt Γ1).bind fun p => if p.1 = true then
      (mi1 p.2).bind fun q => (lcD vs1 g1 tt1 m q.1 acc (wipeE q.2 vs1)).bind fun z => lc2D vs vs1 g tt mi1 g1 tt1 m ds z.1 (wipeE z.2 vs)
    else lc2D vs vs1 g tt mi1 g1 tt1 m ds acc (wipeE p.2 vs)
def mLc2 (vs vs1 : List Nat) (mi : MI) (g : MG) (tt : MB) (mi1 : MI) (g1 : MG) (tt1 : MB) (m : M) : M := fun Γ => (mi Γ).bind fun p => if okW p.2 vs = true then
  (lc2D vs vs1 g tt mi1 g1 tt1 m p.1 [] (wipeE p.2 vs)).map fun q => (.fresh (.lst q.1), backE p.2 q.2 vs) else none
theorem wipe_sub {σ : L2.St} {vs ws : List Nat} (h : ∀ i ∈ ws, i ∈ vs) : wipe (wipe σ ws) vs = wipe σ vs := by
  apply List.ext_getElem?
  intro j
  rw [wipe_at, wipe_length, wipe_at (us := vs)]
  by_cases hj : j ∈ vs ∧ j < σ.length
  · rw [if_pos hj, if_pos hj]
  · rw [if_neg hj, if_neg hj, wipe_at]
    by_cases hw : j ∈ ws ∧ j < σ.length
    · exact absurd ⟨h j hw.1, hw.2⟩ hj
    · rw [if_neg hw]
section
variable {X : Cx} {e tg iter tg1 iter1 elt : Expr} {es ifs ifs1 : List Expr} {m : M} {mi mi1 : MI} {g g1 : MG} {ws ws1 : List Nat} {tt tt1 : MB} {pos : Pos}
/-- one clause's turns -/
theorem lc_turns {K : PySem.W.Frag} {mg : Str → Option Value} {ρ : List Addr} {O : Addr → Prop} {Γ Γe : VEnv} {σ : L2.St} {H F : Hp} {J : It} {ds acc : List D} {accV : List V} {Da : Addr} {vs : List Nat} {res : List D} {Nx : Hp → Prop} (hw : ∀ i ∈ ws, i ∈ vs) (nO : ¬ O Da)
    (w : WalkD K mg J F ds) (R : Rep K mg ρ (orO O (· = Da)) Γ (wipe σ vs) H F) (hD : H Da = some (.lst accV)) (ha : RDs K mg F acc accV) (e : lcD vs g tt m ds acc Γ = some (res, Γe))
    (k : ∀ H' F' accV', Rep K mg ρ (orO O (· = Da)) Γe (wipe σ vs) H' F' → Same F F' → (∀ a, O a → H' a = H a) → H' Da = some (.lst accV') → RDs K mg F' res accV' → Nx H') :
    ∃ W : Nat → Nat → Hp → Prop, (∃ m, W 0 m H) ∧ ∀ i n H', W i n H' → (J.stop i H' ∧ Nx H') ∨ (J.go i H' ∧ ∃ N2 : Hp → Prop, (∀ H'', N2 H'' → ∃ n', n' < n ∧ W (i + 1) n' H'') ∧
      ∀ x H'', J.yld i H' x H'' → tG K mg ws g x (wipe σ vs) H'' fun σ3 H5 => wipe σ3 vs = wipe σ vs ∧ tB K mg tt σ3 H5 fun b H6 =>
        if b = true then tV K mg m σ3 H6 fun y H7 => ∃ acc, H7 Da = some (.lst acc) ∧ acc.length < sizeLine ∧ N2 (upd H7 Da (.lst (acc ++ [y]))) else N2 H6) := by
  refine ⟨fun i n H' => n = ds.length - i ∧ i ≤ ds.length ∧ ∃ Γi Fi acc accV, Rep K mg ρ (orO O (· = Da)) Γi (wipe σ vs) H' Fi ∧ Same F Fi ∧ (∀ a, O a → H' a = H a) ∧ H' Da = some (.lst accV) ∧ RDs K mg Fi acc accV ∧
      lcD vs g tt m (ds.drop i) acc Γi = some (res, Γe), ⟨_, rfl, Nat.zero_le _, Γ, F, acc, accV, R, Same.refl _, fun _ _ => rfl, hD, ha, by simpa using e⟩, fun i n H' hW => ?_⟩
  obtain ⟨rfl, hi, Γi, Fi, acc, accV, Ri, hfi, hoi, hDi, hai, ei⟩ := hW
  have hsame : Same F H' := hfi.trans Ri.le
  by_cases hlt : i < ds.length
  · refine .inr ⟨w.goes i H' hlt hsame, fun H2 => ∃ Γ2 F2 acc2 accV2, Rep K mg ρ (orO O (· = Da)) Γ2 (wipe σ vs) H2 F2 ∧ Same F F2 ∧ (∀ a, O a → H2 a = H a) ∧ H2 Da = some (.lst accV2) ∧ RDs K mg F2 acc2 accV2 ∧
        lcD vs g tt m (ds.drop (i + 1)) acc2 Γ2 = some (res, Γe), fun H2 hN => ?_, fun x H2 hy => ?_⟩
    · obtain ⟨Γ2, F2, acc2, accV2, h1, h2, h3, h4, h5, h6⟩ := hN
      exact ⟨ds.length - (i + 1), by omega, rfl, by omega, Γ2, F2, acc2, accV2, h1, h2, h3, h4, h5, h6⟩
    · obtain ⟨F2, d, hd, gr, rd⟩ := w.yields i H' x H2 Fi hlt hy hfi Ri.le
      have edrop : ds.drop i = d :: ds.drop (i + 1) := by
        rw [List.drop_eq_getElem_cons hlt]
        congr 1
        rw [List.getElem?_eq_getElem hlt] at hd
        exact Option.some.inj hd
      rw [edrop] at ei
      simp only [lcD] at ei
      obtain ⟨Γ2, e4, ei⟩ := obind ei
      obtain ⟨⟨b5, Γ3⟩, e5, ei⟩ := obind ei
      have R2 := Ri.grow gr
      refine tG_run (r := .val d) R2 rd e4 fun σ3 H3 F3 s3 hw3 => ?_
      have hw3' : wipe σ3 vs = wipe σ vs := (hw3 vs hw).trans wipe_wipe
      refine ⟨hw3', ?_⟩
      refine tB_run s3.rep e5 fun H4 F4 s4 c4 => ?_
      have s34 := s3.trans s4
      have hf4 : Same F F4 := (hfi.trans gr.fs).trans s34.fs
      have ho4 : ∀ a, O a → H4 a = H a := fun a ha => ((s34.op a (.inl ha)).trans (Ri.opres gr.hs a (.inl ha))).trans (hoi a ha)
      have hD4 : H4 Da = some (.lst accV) := ((s34.op Da (.inr rfl)).trans (Ri.opres gr.hs Da (.inr rfl))).trans hDi
      have ha4 : RDs K mg F4 acc accV := RDs.mono (gr.fs.trans s34.fs) _ _ hai
      cases b5 with
      | false =>
        refine iteF ⟨wipeE Γ3 vs, F4, acc, accV, ?_, hf4, ho4, hD4, ha4, ei⟩
        have := s4.rep.wiped vs
        rw [hw3'] at this
        exact this
      | true =>
        refine iteT ?_
        obtain ⟨⟨r6, Γ4⟩, e6, ei⟩ := obind ei
        obtain ⟨⟨d7, Γ5⟩, e7, ei⟩ := obind ei
        split at ei
        · rename_i hz
          refine tV_run s4.rep e6 fun y H5 F5 s5 c5 r5 => ?_
          obtain ⟨F6, R6, s6, rd6, c6⟩ := freeze_ok s5.rep r5 e7
          have hD5 : H5 Da = some (.lst accV) := (s5.op Da (.inr rfl)).trans hD4
          have ha6 : RDs K mg F6 acc accV := RDs.mono (s5.fs.trans s6) _ _ ha4
          refine ⟨accV, hD5, by rw [← ha6.length]; exact hz, wipeE Γ5 vs, F6, acc ++ [d7], accV ++ [y], ?_, (hf4.trans s5.fs).trans s6, fun a ha => ?_, upd_same, ha6.append (by simp only [RDs]; exact ⟨y, [], rfl, rd6, rfl⟩), ei⟩
          · have := (R6.updO (a := Da) (.inr rfl) (H' := upd H5 Da (.lst (accV ++ [y]))) (fun b hb => upd_ne hb) (by rw [upd_same]; exact fun z => nomatch z)).wiped vs
            rw [hw3'] at this
            exact this
          · rw [upd_ne (fun (z : a = Da) => nO (z ▸ ha)), s5.op a (.inl ha)]
            exact ho4 a ha
        · cases ei
  · have hi' : i = ds.length := by omega
    subst hi'
    refine .inl ⟨w.stops H' hsame, ?_⟩
    rw [List.drop_length] at ei
    cases ei
    exact k H' Fi accV Ri hfi hoi hDi hai
theorem ve_lc2 {scope : Scope} {own : List (Str × Nat)} {vs1 : List Nat} (hc : X.calm = true) (hN : X.N.Nodup) (hi : VI X tg iter mi) (ok : BlkOk X.N X.env.scope scope own) (hv : ∀ i ∈ vs1, i ∈ own.map (·.2)) (hw : ∀ i ∈ ws, i ∈ own.map (·.2)) (hw1 : ∀ i ∈ ws1, i ∈ vs1)
    (hg : ∀ (s : Shared) (H : Hp) (C : Addr) (cl : List (Str × Addr)) (fp : List Addr), VG (X.blk s H scope (compEnvC scope cl C X.env) fp) tg ws g)
    (ht : ∀ (s : Shared) (H : Hp) (C : Addr) (cl : List (Str × Addr)) (fp : List Addr), VTs (X.blk s H scope (compEnvC scope cl C X.env) fp) ifs tt)
    (hi1 : ∀ (s : Shared) (H : Hp) (C : Addr) (cl : List (Str × Addr)) (fp : List Addr), VI (X.blk s H scope (compEnvC scope cl C X.env) fp) tg1 iter1 mi1)
    (hg1 : ∀ (s : Shared) (H : Hp) (C : Addr) (cl : List (Str × Addr)) (fp : List Addr), VG (X.blk s H scope (compEnvC scope cl C X.env) fp) tg1 ws1 g1)
    (ht1 : ∀ (s : Shared) (H : Hp) (C : Addr) (cl : List (Str × Addr)) (fp : List Addr), VTs (X.blk s H scope (compEnvC scope cl C X.env) fp) ifs1 tt1)
    (he : ∀ (s : Shared) (H : Hp) (C : Addr) (cl : List (Str × Addr)) (fp : List Addr), VE (X.blk s H scope (compEnvC scope cl C X.env) fp) elt m) (hs : ∀ x, foldedSetIterable iter X.env x = pure x := by intro _; rfl) (hs1 : ∀ env x, foldedSetIterable iter1 env x = pure x := by intro _ _; rfl) :
    VE X (.ListComp elt [⟨tg, iter, ifs, 0⟩, ⟨tg1, iter1, ifs1, 0⟩] scope pos) (mLc2 (own.map (·.2)) vs1 mi g tt mi1 g1 tt1 m) ∧
    ∀ σ H Q, tV X.K X.mg (mLc2 (own.map (·.2)) vs1 mi g tt mi1 g1 tt1 m) σ H Q → tLc2 (tI X.K X.mg mi) (tG X.K X.mg ws g) (tB X.K X.mg tt) (tI X.K X.mg mi1) (tG X.K X.mg ws1 g1) (tB X.K X.mg tt1) (tV X.K X.mg m) (own.map (·.2)) vs1 σ H Q := by
  have main : ∀ σ H Q, tV X.K X.mg (mLc2 (own.map (·.2)) vs1 mi g tt mi1 g1 tt1 m) σ H Q → tLc2 (tI X.K X.mg mi) (tG X.K X.mg ws g) (tB X.K X.mg tt) (tI X.K X.mg mi1) (tG X.K X.mg ws1 g1) (tB X.K X.mg tt1) (tV X.K X.mg m) (own.map (·.2)) vs1 σ H Q := by
    intro σ H Q h
    generalize own.map (·.2) = vs at *
    obtain ⟨ρ, O, Γ, F, r, Γ', R, e, k⟩ := h
    obtain ⟨⟨ds, Γ1⟩, e1, e⟩ := obind e
    split at e
    · rename_i hok
      obtain ⟨⟨res, Γe⟩, e2, e3⟩ := omap e
      cases e3
      refine ⟨ρ, O, Γ, F, ds, Γ1, R, e1, fun J H1 F1 s1 c1 w => ?_⟩
      intro D hD
      have hFD : F1 D = none := same_none s1.rep.le hD
      have nO : ¬ O D := fun z => (s1.rep.prot D z).2.1 hD
      have R0 : Rep X.K X.mg ρ (orO O (· = D)) Γ1 σ (upd H1 D (.lst [])) F1 :=
        (s1.rep.grow (grow_own s1.rep.le hD)).addO hFD (by rw [upd_same]; exact fun z => nomatch z) fun l z => z.there s1.rep hD
      have ho0 : ∀ a, O a → upd H1 D (.lst []) a = H a := fun a ha => by rw [upd_ne (fun (z : a = D) => nO (z ▸ ha))]; exact s1.op a ha
      refine ⟨fun i n H' => n = ds.length - i ∧ i ≤ ds.length ∧ ∃ Γi Fi acc accV, Rep X.K X.mg ρ (orO O (· = D)) Γi (wipe σ vs) H' Fi ∧ Same F1 Fi ∧ (∀ a, O a → H' a = H a) ∧ H' D = some (.lst accV) ∧ RDs X.K X.mg Fi acc accV ∧
          lc2D vs vs1 g tt mi1 g1 tt1 m (ds.drop i) acc Γi = some (res, Γe), ⟨_, rfl, Nat.zero_le _, wipeE Γ1 vs, F1, [], [], R0.wiped vs, Same.refl _, ho0, upd_same, by simp only [RDs], by simpa using e2⟩, fun i n H' hW => ?_⟩
      obtain ⟨rfl, hi, Γi, Fi, acc, accV, Ri, hfi, hoi, hDi, hai, ei⟩ := hW
      have hsame : Same F1 H' := hfi.trans Ri.le
      by_cases hlt : i < ds.length
      · refine .inr ⟨w.goes i H' hlt hsame, fun H2 => ∃ Γ2 F2 acc2 accV2, Rep X.K X.mg ρ (orO O (· = D)) Γ2 (wipe σ vs) H2 F2 ∧ Same F1 F2 ∧ (∀ a, O a → H2 a = H a) ∧ H2 D = some (.lst accV2) ∧ RDs X.K X.mg F2 acc2 accV2 ∧
            lc2D vs vs1 g tt mi1 g1 tt1 m (ds.drop (i + 1)) acc2 Γ2 = some (res, Γe), fun H2 hN => ?_, fun x H2 hy => ?_⟩
        · obtain ⟨Γ2, F2, acc2, accV2, h1, h2, h3, h4, h5, h6⟩ := hN
          exact ⟨ds.length - (i + 1), by omega, rfl, by omega, Γ2, F2, acc2, accV2, h1, h2, h3, h4, h5, h6⟩
        · obtain ⟨F2, d, hd, gr, rd⟩ := w.yields i H' x H2 Fi hlt hy hfi Ri.le
          have edrop : ds.drop i = d :: ds.drop (i + 1) := by
            rw [List.drop_eq_getElem_cons hlt]
            congr 1
            rw [List.getElem?_eq_getElem hlt] at hd
            exact Option.some.inj hd
          rw [edrop] at ei
          simp only [lc2D] at ei
          obtain ⟨Γ2, e4, ei⟩ := obind ei
          obtain ⟨⟨b5, Γ3⟩, e5, ei⟩ := obind ei
          have R2 := Ri.grow gr
          refine tG_run (r := .val d) R2 rd e4 fun σ3 H3 F3 s3 hw3 => ?_
          have hw3' : wipe σ3 vs = wipe σ vs := (hw3 vs hw).trans wipe_wipe
          refine ⟨hw3', ?_⟩
          refine tB_run s3.rep e5 fun H4 F4 s4 c4 => ?_
          have s34 := s3.trans s4
          have hf4 : Same F1 F4 := (hfi.trans gr.fs).trans s34.fs
          have ho4 : ∀ a, O a → H4 a = H a := fun a ha => ((s34.op a (.inl ha)).trans (Ri.opres gr.hs a (.inl ha))).trans (hoi a ha)
          have hD4 : H4 D = some (.lst accV) := ((s34.op D (.inr rfl)).trans (Ri.opres gr.hs D (.inr rfl))).trans hDi
          have ha4 : RDs X.K X.mg F4 acc accV := RDs.mono (gr.fs.trans s34.fs) _ _ hai
          cases b5 with
          | false =>
            refine iteF ⟨wipeE Γ3 vs, F4, acc, accV, ?_, hf4, ho4, hD4, ha4, ei⟩
            have := s4.rep.wiped vs
            rw [hw3'] at this
            exact this
          | true =>
            refine iteT ?_
            obtain ⟨⟨es6, Γ4⟩, e6, ei⟩ := obind ei
            obtain ⟨⟨acc7, Γ5⟩, e7, ei⟩ := obind ei
            refine ⟨ρ, orO O (· = D), Γ3, F4, es6, Γ4, s4.rep, e6, fun J1 H5 F5 s5 c5 w5 => ?_⟩
            have hD5 : H5 D = some (.lst accV) := (s5.op D (.inr rfl)).trans hD4
            have ha5 : RDs X.K X.mg F5 acc accV := RDs.mono s5.fs _ _ ha4
            refine lc_turns hw1 nO w5 (s5.rep.wiped vs1) hD5 ha5 e7 fun H6 F6 accV' R6 s6 o6 hD6 ha6 => ?_
            refine ⟨wipeE Γ5 vs, F6, acc7, accV', ?_, (hf4.trans s5.fs).trans s6, fun a ha => ((o6 a ha).trans (s5.op a (.inl ha))).trans (ho4 a ha), hD6, ha6, ei⟩
            have := R6.wiped vs
            rw [wipe_sub hv, hw3'] at this
            exact this
      · have hi' : i = ds.length := by omega
        subst hi'
        refine .inl ⟨w.stops H' hsame, ?_⟩
        rw [List.drop_length] at ei
        cases ei
        have Rb : Rep X.K X.mg ρ (orO O (· = D)) (backE Γ1 Γe vs) σ H' Fi := by
          have R1' : Rep X.K X.mg ρ (orO O (· = D)) Γ1 σ (upd H1 D (.lst [])) F1 := R0
          exact R1'.back Ri hfi hok
        have hloc : ∀ l, ¬ LocAt ρ (backE Γ1 Γe vs) σ l D := (Rb.prot D (.inr rfl)).2.2
        have hFi : Fi D = none := (Rb.prot D (.inr rfl)).1
        refine k (.ref D) H' Fi ⟨Rb.weakO fun a z => .inl z, s1.fs.trans hfi, hoi⟩ trivial ⟨D, rfl, ⟨hFi, accV, hDi, hai⟩, nO, hloc⟩
    · cases e
  exact ⟨pe_of (pe_lc2 hc hN hi ok hv hg ht hi1 hg1 ht1 he hs hs1) main, main⟩
theorem vs_setLc2 {i : Nat} {y : Str} {py spos : Pos} {scope : Scope} {own : List (Str × Nat)} {vs1 : List Nat} (hc : X.calm = true) (hN : X.N.Nodup) (hi : VI X tg iter mi) (ok : BlkOk X.N X.env.scope scope own) (hv : ∀ i ∈ vs1, i ∈ own.map (·.2)) (hw : ∀ i ∈ ws, i ∈ own.map (·.2)) (hw1 : ∀ i ∈ ws1, i ∈ vs1)
    (hg : ∀ (s : Shared) (H : Hp) (C : Addr) (cl : List (Str × Addr)) (fp : List Addr), VG (X.blk s H scope (compEnvC scope cl C X.env) fp) tg ws g)
    (ht : ∀ (s : Shared) (H : Hp) (C : Addr) (cl : List (Str × Addr)) (fp : List Addr), VTs (X.blk s H scope (compEnvC scope cl C X.env) fp) ifs tt)
    (hi1 : ∀ (s : Shared) (H : Hp) (C : Addr) (cl : List (Str × Addr)) (fp : List Addr), VI (X.blk s H scope (compEnvC scope cl C X.env) fp) tg1 iter1 mi1)
    (hg1 : ∀ (s : Shared) (H : Hp) (C : Addr) (cl : List (Str × Addr)) (fp : List Addr), VG (X.blk s H scope (compEnvC scope cl C X.env) fp) tg1 ws1 g1)
    (ht1 : ∀ (s : Shared) (H : Hp) (C : Addr) (cl : List (Str × Addr)) (fp : List Addr), VTs (X.blk s H scope (compEnvC scope cl C X.env) fp) ifs1 tt1)
    (he : ∀ (s : Shared) (H : Hp) (C : Addr) (cl : List (Str × Addr)) (fp : List Addr), VE (X.blk s H scope (compEnvC scope cl C X.env) fp) elt m)
    (hy : X.N[i]? = some y := by rfl) (hyl : X.env.scope.names.lookup y = some .local := by rfl) (hsw : swapsWith (.ListComp elt [⟨tg, iter, ifs, 0⟩, ⟨tg1, iter1, ifs1, 0⟩] scope pos) (some (.Name y py)) spos.line X.env = pure true := by exact sw_true rfl rfl rfl (by decide +kernel))
    (hs : ∀ x, foldedSetIterable iter X.env x = pure x := by intro _; rfl) (hs1 : ∀ env x, foldedSetIterable iter1 env x = pure x := by intro _ _; rfl) (hgi : ∀ r Γ, g1 r Γ = g1 r Γ := by intros; rfl) :
    VSt X (.Assign [.Name y py] (.ListComp elt [⟨tg, iter, ifs, 0⟩, ⟨tg1, iter1, ifs1, 0⟩] scope pos) spos) (mAsg (mLc2 (own.map (·.2)) vs1 mi g tt mi1 g1 tt1 m) (asgn i)) := by
  refine ps_of (ps_setLc2 (g := tG X.K X.mg ws g) (tt := tB X.K X.mg tt) (wi1 := tI X.K X.mg mi1) (g1 := tG X.K X.mg ws1 g1) (tt1 := tB X.K X.mg tt1) (te := tV X.K X.mg m) (vs1 := vs1) hc hN hy hyl hsw hi ok hv hg ht hi1 hg1 ht1 he hs hs1) fun D σ H h => ?_
  obtain ⟨ρ, O, Γ, F, fl, Γ', R, e, k⟩ := h
  obtain ⟨⟨r, Γ1⟩, e1, e⟩ := obind e
  obtain ⟨Γ2, e2, e3⟩ := omap e
  cases e3
  refine (ve_lc2 (pos := pos) hc hN hi ok hv hw hw1 hg ht hi1 hg1 ht1 he hs hs1).2 σ H _ (tV_run R e1 fun v H1 F1 s1 c1 r1 => ?_)
  obtain ⟨F2, R2, s2⟩ := asgn_ok s1.rep r1 e2
  exact k _ H1 F2 (s1.trans ⟨R2, s2, fun _ _ => rfl⟩)
end
end VS

set_option Elab.async false
set_option linter.all false
set_option maxRecDepth 100000
set_option maxHeartbeats 4000000
/-! ### [::-1] of lists, tuples, texts -/
namespace VSH
open PySem PyProof.Rows HT
section
variable {prog : Program} {w : World} {A : Around} {E : Value → Shared → Prop} {s : Shared}
theorem pick_rev (xs : Array Value) : ((List.range xs.size).filterMap fun (m : Nat) => xs[(((xs.size : Int) - 1) + (m : Int) * (-1)).toNat]?).toArray = xs.toList.reverse.toArray := by
  congr 1
  have e : (List.range xs.size).filterMap (fun (m : Nat) => xs[(((xs.size : Int) - 1) + (m : Int) * (-1)).toNat]?) = ((List.range xs.size).map (fun k => xs.size - 1 - k)).filterMap (xs[·]?) := by
    rw [List.filterMap_map]
    have : ∀ l : List Nat, (∀ m ∈ l, m < xs.size) → l.filterMap (fun (m : Nat) => xs[(((xs.size : Int) - 1) + (m : Int) * (-1)).toNat]?) = l.filterMap ((xs[·]?) ∘ fun k => xs.size - 1 - k) := by
      intro l
      induction l with
      | nil => intro _; rfl
      | cons m l ih =>
        intro hm
        have h1 := hm m List.mem_cons_self
        have e1 : (((xs.size : Int) - 1) + (m : Int) * (-1)).toNat = xs.size - 1 - m := by omega
        simp only [List.filterMap_cons, Function.comp_apply, e1]
        rw [ih fun k hk => hm k (List.mem_cons_of_mem _ hk)]
    exact this _ fun m hm => List.mem_range.mp hm
  rw [e, PySem.W.krv_range, List.filterMap_reverse, PySem.W.krv_all]
theorem getItem_tuple_rev {t sl : Addr} {items : Array Value} {tk : Tok} {Q : Value → Shared → Prop} (ht : IsTup s.heap t items) (hs : s.heap.IsSliceOf sl .none .none (.int (-1) tk))
    (h : Q (.ref s.heap.objs.size) { s with heap := s.heap.push { cls := .type "tuple", data := .seq items.toList.reverse.toArray } })
    (hsz : items.size ≤ sizeLine) : wpAny (model prog w) A (getItem (.ref t) (.ref sl)) Q E s := by
  have htake : sizeOk (.seq items.toList.reverse.toArray) := by
    show (items.toList.reverse).toArray.size ≤ sizeLine
    simpa using hsz
  obtain ⟨os, hos, hcs, hds⟩ := id hs
  have hTs : s.TypeIs (.ref sl) "slice" := ⟨os, hos, hcs⟩
  unfold getItem
  try with_reducible refine wpAny_holding ?_
  first | refine wpAny_bind (wpAny_pure ?_) | skip
  refine wpAny_bind (wpAny_sequenceKey ht.typeIs (by decide) ?_)
  refine wpAny_bind (wpAny_callSpecial?_slot (name := Str.ofString "__getitem__") ht.typeIs PyProof.Rows.slot_tuple_getitem
    (wpAny_call_entry PyProof.Rows.slot_tuple_getitem ht.typeIs entry_tuple_getitem ?_ (args_tuple_getitem _ _)))
  show wpAny _ _ (Builtin.Tuple.tupleItemsOf (.ref t) >>= _) _ _ s
  refine wpAny_bind (tupleItemsOf_ ht ?_)
  refine wpAny_bind (wpAny_typeOf hTs ?_)
  rw [if_pos (by decide)]
  have ap : ∀ {A : Around} {E : Value → Shared → Prop} {Q : Int × Int × Nat → Shared → Prop}, Q (((items.size : Int) - 1), -1, items.size) s → wpAny (model prog w) A (Builtin.Slice.sliceApplied (.ref sl) (pure (items.size : Int))) Q E s := by
    intro A E Q h
    unfold Builtin.Slice.sliceApplied Builtin.Slice.sliceFields
    refine wpAny_bind (wpAny_bind (wpAny_field hos hds (x := .none) rfl (wpAny_bind (wpAny_field hos hds (x := .none) rfl (wpAny_bind (wpAny_field hos hds (x := .int (-1) tk) rfl (wpAny_pure ?_)))))))
    refine wpAny_bind (slicePart_int ?_)
    show wpAny _ _ (if ((-1 : Int) == 0) = true then _ else _) _ _ s
    rw [if_neg (by decide)]
    refine wpAny_bind (slicePart_none (wpAny_bind (slicePart_none (wpAny_bind (wpAny_pure ?_)))))
    show wpAny _ _ (pure ((items.size : Int) - 1, (-1 : Int), Builtin.Slice.slicePlaces ((items.size : Int) - 1) (-1) (-1))) _ _ s
    have e : Builtin.Slice.slicePlaces ((items.size : Int) - 1) (-1) (-1) = items.size := by
      unfold Builtin.Slice.slicePlaces
      have h1 : ¬ ((-1 : Int) > 0) := by omega
      have h2 : (- -1 : Int) = 1 := by decide
      simp only [h1, if_false, h2, Int.ediv_one]
      split <;> omega
    rw [e]
    exact wpAny_pure h
  refine wpAny_bind (ap ?_)
  show wpAny _ _ (if (((items.size : Int) - 1) == 0 && (-1 : Int) == 1 && items.size == items.size) = true then _ else _) _ _ s
  rw [if_neg (by simp), pick_rev]
  first
    | exact wpAny_bind (m := Builtin.Tuple.tupleExact _) (wpAny_newObj_type (wpAny_pure ⟨_, rfl, wpAny_pure h⟩) htake)
    | exact wpAny_bind (m := Builtin.Tuple.tupleExact _) (wpAny_newObj_type (wpAny_bind (wpAny_pure (wpAny_pure ⟨_, rfl, wpAny_pure h⟩))) htake)
    | exact wpAny_bind (wpAny_bind (m := Builtin.Tuple.tupleExact _) (wpAny_newObj_type (wpAny_pure (wpAny_pure ⟨_, rfl, wpAny_pure h⟩)) htake))
    | exact wpAny_bind (wpAny_bind (m := Builtin.Tuple.tupleExact _) (wpAny_newObj_type (wpAny_pure ⟨_, rfl, wpAny_pure h⟩) htake))
theorem str_rev_ix (n : Nat) : Builtin.Str.strSliceIndices none none (-1) n = (List.range n).reverse := by
  unfold Builtin.Str.strSliceIndices
  show sliceRange ((n : Int) - 1) (-1) (-1) = _
  rw [PySem.W.krv_sliceRange, PySem.W.krv_range]
end
end VSH
namespace VS
open PySem L2 PyProof.Rows
def tRevA (K : PySem.W.Frag) (te : TE) : TE := fun σ H Q => te σ H fun x H1 => (∃ a xs, x = .ref a ∧ SqL K H1 a xs ∧ ∀ p, H1 p = none → Q (.ref p) (upd H1 p (.lst xs.reverse))) ∨
  (∃ a xs, x = .ref a ∧ SqT K H1 a xs ∧ ∀ p, H1 p = none → Q (.ref p) (upd H1 p (.tup xs.reverse))) ∨ ∃ z : Str, x = .str z ∧ z.length ≤ sizeLine ∧ Q (.str ⟨z.cps.toList.reverse.toArray⟩) H1
theorem pe_revA {X : Cx} {e : Expr} {te : TE} {k : Nat} {p1 p2 p3 pos : Pos} (he : PE X e te) : PE X (.Subscript e (.Slice none none (some (.UnaryOp .USub (.Constant (.int 1) k p1) p2)) p3) pos) (tRevA X.K te) := by
  refine ⟨fun pins s σ H Q I h => ?_⟩
  refine Subscript_ (thn (he.run pins s σ H _ I h) fun v s1 ⟨x, H1, I1, r1, q1⟩ => ?_)
  have hst : PO X (some (.UnaryOp .USub (.Constant (.int 1) k p1) p2)) (tPart (tUn (rU fun i => .int (-i)) (tC (.int 1)))) := po_some (pe_un un_neg pe_int)
  refine wpAny_Slice (thn (po_none.run pins s1 σ H1 (fun o H2 => o = none ∧ H2 = H1) I1 ⟨rfl, rfl⟩) fun vl s2 ⟨l, H2, I2, pl, el, e2⟩ => ?_)
  subst el e2
  refine thn (po_none.run pins s2 σ H2 (fun o H3 => o = none ∧ H3 = H2) I2 ⟨rfl, rfl⟩) fun vu s3 ⟨u, H3, I3, pu, eu, e3⟩ => ?_
  subst eu e3
  refine thn (hst.run pins s3 σ H3 (fun o H4 => o = some (-1) ∧ H4 = H3) I3 ⟨1, rfl, -1, rfl, rfl, rfl⟩) fun vs s4 ⟨o, H4, I4, ps, eo, e4⟩ => ?_
  subst eo e4
  have I5 : Inv X pins σ H4 { s4 with heap := s4.heap.push { cls := .type "slice", data := .fields #[vl, vu, vs] } } := I4.kept (t' := s4.toks) fun b ob q => Heap.get?_push_of_some _ q
  show wpAny (model X.prog X.w) X.A (subscriptTail e (.Slice none none (some (.UnaryOp .USub (.Constant (.int 1) k p1) p2)) p3) v (.ref s4.heap.objs.size)) (EP X pins σ Q) X.xe { s4 with heap := s4.heap.push { cls := .type "slice", data := .fields #[vl, vu, vs] } }
  rcases q1 with ⟨a, xs, ex, hx, q⟩ | ⟨a, xs, ex, hx, q⟩ | ⟨z, ex, hz, q⟩
  · subst ex
    cases r1
    obtain ⟨its, r, ht, hz⟩ := I5.list hx
    have hlen := r.length
    refine tail_any (ops := [.ref a, .ref s4.heap.objs.size]) ht.isList.typeIs (PySem.slot_list_getitem.lookup) ?_ (by with_unfolding_all rfl)
    refine wpAny_getItem_list_slice ht.isList (Heap.IsSliceOf.new _ vl vu vs) pl pu ps (by decide) ?_ (by rw [List.size_toArray]; omega)
    rw [PySem.W.krv_pick]
    refine ⟨.ref _, _, I5.laid (t' := s4.toks) (o := .lst xs.reverse) (fun b ob q => Heap.get?_push_of_some _ q) (Nat.le_refl _) ?_, rfl, q _ (I5.hok.fresh (Nat.le_refl _))⟩
    exact ⟨by rw [List.length_reverse]; exact hz, _, 0, r.reverse, Heap.get?_push_size _ rfl⟩
  · subst ex
    cases r1
    obtain ⟨its, r, ht, hz⟩ := I5.tuple hx
    have hlen := r.length
    cases pl
    cases pu
    cases ps with
    | int i tk =>
      refine tail_any (ops := [.ref a, .ref s4.heap.objs.size]) ht.typeIs (PyProof.Rows.slot_tuple_getitem.lookup) ?_ (by with_unfolding_all rfl)
      refine VSH.getItem_tuple_rev ht (Heap.IsSliceOf.new _ _ _ _) ?_ (by rw [List.size_toArray]; omega)
      refine ⟨.ref _, _, I5.laid (t' := s4.toks) (o := .tup xs.reverse) (fun b ob q => Heap.get?_push_of_some _ q) (Nat.le_refl _) ?_, rfl, q _ (I5.hok.fresh (Nat.le_refl _))⟩
      exact ⟨by rw [List.length_reverse]; exact hz, _, r.reverse, IsTup.new _ _⟩
  · subst ex
    obtain ⟨t, rfl⟩ := r1
    obtain ⟨l, rfl, hl⟩ := IsPart.raw pl
    obtain ⟨u, rfl, hu⟩ := IsPart.raw pu
    obtain ⟨w, rfl, hw⟩ := IsPart.raw ps
    refine tail_any (ops := [.str z t, .ref s4.heap.objs.size]) (typeIs_str _ _ _) (PySem.F.slot_str_getitem.lookup) ?_ (by with_unfolding_all rfl)
    refine wpAny_getItem_str_slice (l := l) (u := u) (st := w) (Heap.IsSliceOf.new _ _ _ _) (by rw [hw]; rfl) ?_
    unfold sliceMade slicePicked
    rw [hl, hu, hw]
    show Made.post (if ((-1 : Int) == 1 && (Builtin.Str.strSliceIndices none none (-1) z.length).length == z.length) = true then Made.val (.str z t)
      else Made.str ⟨((Builtin.Str.strSliceIndices none none (-1) z.length).filterMap (z.cps[·]?)).toArray⟩) (EP X pins σ Q) _
    rw [if_neg (by simp), VSH.str_rev_ix, List.filterMap_reverse]
    have : (List.range z.length).filterMap (z.cps[·]?) = z.cps.toList := PySem.W.krv_all z.cps
    rw [this]
    exact ⟨by simpa [Str.length] using hz, .str _, H4, I5.tok _, ⟨_, rfl⟩, q⟩
def revD : D → Option EV
  | .lst xs => some (.fresh (.lst xs.reverse))
  | .tup xs => some (.val (.tup xs.reverse))
  | .str s => some (.val (.str s.reverse))
  | _ => none
theorem ve_rev {X : Cx} {e : Expr} {m : M} {k : Nat} {p1 p2 p3 pos : Pos} (he : VE X e m) : VE X (.Subscript e (.Slice none none (some (.UnaryOp .USub (.Constant (.int 1) k p1) p2)) p3) pos) (mUn revD m) := by
  refine pe_of (pe_revA he) fun σ H Q h => ?_
  obtain ⟨ρ, O, Γ, F, res, Γ', R, e, kk⟩ := h
  obtain ⟨⟨r, Γ1⟩, e1, e⟩ := obind e
  obtain ⟨d, e2, e⟩ := obind e
  obtain ⟨r', e3, e4⟩ := omap e
  cases e4
  refine tV_run R e1 fun v H1 F1 s1 c1 r1 => ?_
  have px := peek_ok s1.rep r1 e2
  have kq : GQ X.K X.mg F1 H1 res Q := fun v H2 F2 g hr => kk v H2 F2 (s1.trans (Stp.grow s1.rep g)) c1 (res_ev s1.rep g hr)
  cases d with
  | lst xs =>
    cases e3
    obtain ⟨a, vs, rfl, h1, h2⟩ := px.lst s1.rep.le
    exact .inl ⟨a, vs, rfl, h1, gq_list s1.rep.le kq h2.rev⟩
  | tup xs =>
    cases e3
    obtain ⟨a, vs, rfl, h1, h2⟩ := px.tup s1.rep.le
    exact .inr (.inl ⟨a, vs, rfl, h1, gq_tup s1.rep.le kq h2.rev⟩)
  | str s =>
    cases e3
    obtain ⟨rfl, ok⟩ := px.str
    refine .inr (.inr ⟨_, rfl, by simpa [Str.length] using ok.1, gq_val s1.rep.le kq ?_⟩)
    simp only [RD]
    exact ⟨trivial, by simpa using ok.1, fun c hc => ok.2 c (List.mem_reverse.mp hc)⟩
  | _ => cases e3
/-! ### methods of texts -/
section
variable {X : Cx}
def g1S (f : List Nat → List Nat → D) : D → List D → Option EV
  | .str s, [.str t] => some (.val (f s t))
  | _, _ => none
theorem mx_1S {id : String} {g : Str → Str → V} {f : List Nat → List Nat → D} (h : MtR X id (fun x xs H Q => ∃ a b, x = .str a ∧ xs = [.str b] ∧ Q (g a b) H))
    (hf : ∀ s t F, OkS s → OkS t → RD X.K X.mg F (f s t) (g ⟨s.toArray⟩ ⟨t.toArray⟩)) : MtX X id (g1S f) := by
  refine ⟨_, h, fun F H x xs d ds res Q hl px pxs e k => ?_⟩
  unfold g1S at e
  split at e
  · cases e
    obtain ⟨rfl, ok⟩ := px.str
    obtain ⟨v, rfl, pv⟩ := pxs.one
    obtain ⟨rfl, ok2⟩ := pv.str
    exact ⟨_, _, rfl, rfl, gq_val hl k (hf _ _ F ok ok2)⟩
  · cases e
def startsS (s t : List Nat) : Bool := t.isPrefixOf s
def endsS (s t : List Nat) : Bool := t.isSuffixOf s
def countS (s t : List Nat) : Int := Txt.count ⟨s.toArray⟩ ⟨t.toArray⟩
def findS (s t : List Nat) : Int := Txt.find ⟨s.toArray⟩ ⟨t.toArray⟩
theorem subAt_iff (s t : List Nat) (i : Nat) : Builtin.Str.subAt ⟨s.toArray⟩ ⟨t.toArray⟩ i = ((s.drop i).take t.length == t) := by
  unfold Builtin.Str.subAt
  show ((s.toArray.extract i (i + t.toArray.size)) == t.toArray) = _
  rw [Bool.eq_iff_iff, beq_iff_eq, beq_iff_eq]
  constructor
  · intro h
    have := congrArg Array.toList h
    simpa [Array.toList_extract, List.extract_eq_drop_take] using this
  · intro h
    apply Array.ext'
    simpa [Array.toList_extract, List.extract_eq_drop_take] using h
theorem startsS_eq (s t : List Nat) : Txt.startswith ⟨s.toArray⟩ ⟨t.toArray⟩ = startsS s t := by
  unfold Txt.startswith startsS
  rw [subAt_iff, Bool.eq_iff_iff]
  simp only [Str.length, List.size_toArray, Nat.zero_add, Bool.and_eq_true, decide_eq_true_eq, List.drop_zero, beq_iff_eq, List.isPrefixOf_iff_prefix]
  constructor
  · rintro ⟨_, h⟩; rw [← h]; exact List.take_prefix _ _
  · intro h; exact ⟨h.length_le, (List.prefix_iff_eq_take.mp h).symm⟩
theorem endsS_eq (s t : List Nat) : Txt.endswith ⟨s.toArray⟩ ⟨t.toArray⟩ = endsS s t := by
  unfold Txt.endswith endsS
  rw [subAt_iff, Bool.eq_iff_iff]
  simp only [Str.length, List.size_toArray, Nat.zero_add, Bool.and_eq_true, decide_eq_true_eq, beq_iff_eq, List.isSuffixOf_iff_suffix]
  constructor
  · rintro ⟨hl, h⟩
    have e : (s.drop (s.length - t.length)).length = t.length := by rw [List.length_drop]; omega
    rw [List.take_of_length_le (by omega)] at h
    rw [← h]; exact List.drop_suffix _ _
  · intro h
    refine ⟨h.length_le, ?_⟩
    have e := List.suffix_iff_eq_drop.mp h
    have e2 : (s.drop (s.length - t.length)).length = t.length := by rw [List.length_drop]; have := h.length_le; omega
    rw [List.take_of_length_le (by omega)]
    exact e.symm
theorem mx_startswith : MtX X "str.startswith" (g1S fun s t => .bl (startsS s t)) := mx_1S mt_startswith fun s t F _ _ => by simp only [RD]; rw [startsS_eq]
theorem mx_endswith : MtX X "str.endswith" (g1S fun s t => .bl (endsS s t)) := mx_1S mt_endswith fun s t F _ _ => by simp only [RD]; rw [endsS_eq]
theorem mx_count : MtX X "str.count" (g1S fun s t => .int (countS s t)) := mx_1S mt_count fun s t F _ _ => by simp only [RD, countS]
theorem mx_find : MtX X "str.find" (g1S fun s t => .int (findS s t)) := mx_1S mt_find fun s t F _ _ => by simp only [RD, findS]
/-! join -/
def strsOf : List D → Option (List (List Nat))
  | [] => some []
  | .str s :: ds => (strsOf ds).map fun r => s :: r
  | _ => none
theorem strsOf_map : ∀ {ds : List D} {ns : List (List Nat)}, strsOf ds = some ns → ds = ns.map D.str
  | [], ns, e => by simp only [strsOf] at e; cases e; rfl
  | d :: ds, ns, e => by
    cases d with
    | str s =>
      simp only [strsOf] at e
      obtain ⟨r, e1, e2⟩ := omap e
      subst e2
      rw [strsOf_map e1]; rfl
    | _ => simp only [strsOf] at e; cases e
theorem strsOf_of : ∀ ns : List (List Nat), strsOf (ns.map D.str) = some ns
  | [] => rfl
  | n :: ns => by simp [strsOf, strsOf_of ns]
def joinL (sep : List Nat) : List (List Nat) → List Nat
  | [] => []
  | [x] => x
  | x :: y :: r => x ++ sep ++ joinL sep (y :: r)
def joinD : D → List D → Option EV
  | .str s, [.lst ds] => (strsOf ds).bind fun ns => if (ns.map (·.length)).sum + ns.length * s.length ≤ 16777216 then some (.val (.str (joinL s ns))) else none
  | .str s, [.tup ds] => (strsOf ds).bind fun ns => if (ns.map (·.length)).sum + ns.length * s.length ≤ 16777216 then some (.val (.str (joinL s ns))) else none
  | _, _ => none
theorem joinL_len (sep : List Nat) : ∀ ns : List (List Nat), (joinL sep ns).length ≤ (ns.map (·.length)).sum + ns.length * sep.length
  | [] => by simp [joinL]
  | [x] => by simp [joinL]
  | x :: y :: r => by
    have := joinL_len sep (y :: r)
    simp only [joinL, List.length_append, List.map_cons, List.sum_cons, List.length_cons, Nat.add_mul, Nat.one_mul] at this ⊢
    omega
theorem joinL_mem (sep : List Nat) (P : Nat → Prop) (hs : ∀ c ∈ sep, P c) : ∀ ns : List (List Nat), (∀ s ∈ ns, ∀ c ∈ s, P c) → ∀ c ∈ joinL sep ns, P c
  | [], _, c, hc => by simp [joinL] at hc
  | [x], h, c, hc => h x (by simp) c (by simpa [joinL] using hc)
  | x :: y :: r, h, c, hc => by
    simp only [joinL, List.mem_append] at hc
    rcases hc with (hc | hc) | hc
    · exact h x (by simp) c hc
    · exact hs c hc
    · exact joinL_mem sep P hs (y :: r) (fun s hs => h s (List.mem_cons_of_mem _ hs)) c hc
theorem join_eq (sep : List Nat) : ∀ ns : List (List Nat), Str.join ⟨sep.toArray⟩ (ns.map fun s => ⟨s.toArray⟩) = ⟨(joinL sep ns).toArray⟩
  | [] => rfl
  | [x] => rfl
  | x :: y :: r => by
    have := join_eq sep (y :: r)
    simp only [List.map_cons] at this ⊢
    simp only [Str.join, joinL]
    rw [this, str_app, str_app]
theorem RDs.strs {K : PySem.W.Frag} {mg : Str → Option Value} {F : Hp} : ∀ {ns : List (List Nat)} {vs : List V}, RDs K mg F (ns.map D.str) vs → vs = (ns.map fun s => (⟨s.toArray⟩ : Str)).map V.str ∧ ∀ s ∈ ns, OkS s
  | [], vs, h => by simp only [List.map_nil, RDs] at h; subst h; simp
  | n :: ns, vs, h => by
    simp only [List.map_cons, RDs, RD] at h
    obtain ⟨v, r, rfl, ⟨rfl, ok⟩, h⟩ := h
    obtain ⟨rfl, h2⟩ := RDs.strs h
    refine ⟨rfl, fun s hs => ?_⟩
    rcases List.mem_cons.mp hs with rfl | hs
    · exact ok
    · exact h2 s hs
theorem mx_join : MtX X "str.join" joinD := by
  refine ⟨_, mt_join, fun F H x xs d ds res Q hl px pxs e k => ?_⟩
  have main : ∀ {s : List Nat} {ns : List (List Nat)} {a : Addr} {vs : List V}, OkS s → (SqL X.K H a vs ∨ SqT X.K H a vs) → RDs X.K X.mg F (ns.map D.str) vs → (ns.map (·.length)).sum + ns.length * s.length ≤ 16777216 → res = .val (.str (joinL s ns)) →
      ∃ (b : Str) (p : Addr), ∃ ys : List Str, V.str ⟨s.toArray⟩ = .str b ∧ [V.ref a] = [.ref p] ∧ (SqL X.K H p (ys.map V.str) ∨ SqT X.K H p (ys.map V.str)) ∧ (ys.map (·.length)).sum + ys.length * b.length ≤ 16777216 ∧ Q (.str (Txt.join b ys)) H := by
    intro s ns a vs ok hq rd hz er
    obtain ⟨rfl, oks⟩ := rd.strs
    refine ⟨_, a, ns.map fun s => ⟨s.toArray⟩, rfl, rfl, hq, ?_, ?_⟩
    · simpa [Str.length, Function.comp_def] using hz
    · subst er
      refine gq_val hl k ?_
      simp only [RD]
      refine ⟨?_, ?_, joinL_mem s _ ok.2 ns fun t ht => (oks t ht).2⟩
      · rw [← join_eq]; exact congrArg V.str (PySem.StrLaws.glued_eq_join _ _)
      · have := joinL_len s ns
        show _ ≤ sizeLine
        exact Nat.le_trans (Nat.le_trans this hz) (by decide)
  unfold joinD at e
  split at e
  · obtain ⟨ns, e1, e⟩ := obind e
    split at e
    · rename_i hz
      cases e
      have := strsOf_map e1
      subst this
      obtain ⟨rfl, ok⟩ := px.str
      obtain ⟨v, rfl, pv⟩ := pxs.one
      obtain ⟨a, vs, rfl, h1, h2⟩ := pv.lst hl
      exact main ok (.inl h1) h2 hz rfl
    · cases e
  · obtain ⟨ns, e1, e⟩ := obind e
    split at e
    · rename_i hz
      cases e
      have := strsOf_map e1
      subst this
      obtain ⟨rfl, ok⟩ := px.str
      obtain ⟨v, rfl, pv⟩ := pxs.one
      obtain ⟨a, vs, rfl, h1, h2⟩ := pv.tup hl
      exact main ok (.inr h1) h2 hz rfl
    · cases e
  · cases e
end
end VS

set_option Elab.async false
set_option linter.all false
set_option maxRecDepth 100000
set_option maxHeartbeats 4000000
namespace VS
open PySem L2 PyProof.Rows

instance (s : List Nat) : Decidable (OkS s) := inferInstanceAs (Decidable (s.length ≤ sizeLine ∧ ∀ c ∈ s, c < 1114112))
/-- y = e, the list frozen at once -/
theorem vs_asgF {X : Cx} {st : Stmt} {m : M} {i : Nat} (h : VSt X st (mAsg m (asgn i))) : VSt X st (mAsg (mFrz m) (asgn i)) := by
  refine ps_of h fun D σ H h => ?_
  obtain ⟨ρ, O, Γ, F, fl, Γ', R, e, k⟩ := h
  obtain ⟨⟨r0, Γ0⟩, e0, e⟩ := obind e
  obtain ⟨Γ9, e9, e8⟩ := omap e
  cases e8
  obtain ⟨⟨r1, Γ1⟩, e1, e2⟩ := obind e0
  obtain ⟨⟨d, Γ2⟩, e3, e4⟩ := omap e2
  cases e4
  simp only [asgn] at e9
  cases e9
  cases r1 with
  | val d1 =>
    simp only [freeze] at e3
    cases e3
    exact ⟨ρ, O, Γ, F, .nx, _, R, by simp only [mAsg, e1, Option.bind_some, asgn, Option.map_some], k⟩
  | fresh d1 =>
    simp only [freeze] at e3
    cases e3
    refine ⟨ρ, O, Γ, F, .nx, setCell Γ1 i (.own d), R, by simp only [mAsg, e1, Option.bind_some, asgn, Option.map_some], fun σ' H' F' s => ?_⟩
    by_cases hi : i < Γ1.sl.length
    · have hg : (setCell Γ1 i (.own d)).sl[i]? = some (Cell.own d) := by simp [setCell, hi]
      obtain ⟨a, h1, h2⟩ := s.rep.ow i d hg
      have rv : RepEV X.K X.mg ρ O (setCell Γ1 i (.own d)) σ' H' F' (.slot i) (.ref a) := ⟨h1, trivial⟩
      have ef : freeze (.slot i) (setCell Γ1 i (.own d)) = some (d, setCell Γ1 i (.val d)) := by
        have hg' : (Γ1.sl.set i (Cell.own d))[i]? = some (Cell.own d) := hg
        simp only [freeze, setCell, List.set_set]
        rw [hg']
      obtain ⟨F2, R2, s2, _, _⟩ := freeze_ok s.rep rv ef
      exact k σ' H' F2 ⟨R2, s.fs.trans s2, s.op⟩
    · have e5 : setCell Γ1 i (.own d) = setCell Γ1 i (.val d) := by
        simp only [setCell]
        rw [List.set_eq_of_length_le (by omega), List.set_eq_of_length_le (by omega)]
      rw [e5] at s
      exact k σ' H' F' s
  | slot j =>
    refine ⟨ρ, O, Γ, F, .nx, setCell Γ2 i (.val d), R, by simp only [mAsg, e1, Option.bind_some, asgn, e3, Option.map_some], k⟩
  | par j =>
    refine ⟨ρ, O, Γ, F, .nx, setCell Γ1 i (.par j), R, by simp only [mAsg, e1, Option.bind_some, asgn, Option.map_some], fun σ' H' F' s => ?_⟩
    have hst : ∃ c, Γ1.st[j]? = some c := by
      simp only [freeze] at e3
      cases q : Γ1.st[j]? with
      | none => rw [q] at e3; cases e3
      | some c => exact ⟨c, rfl⟩
    obtain ⟨c, hc⟩ := hst
    have hj := s.rep.plen
    have hjl : j < ρ.length := by rw [hj]; exact lt_of_get hc
    have rv : RepEV X.K X.mg ρ O (setCell Γ1 i (.par j)) σ' H' F' (.par j) (.ref ρ[j]) := ⟨ρ[j], List.getElem?_eq_getElem hjl, rfl⟩
    have ef : freeze (.par j) (setCell Γ1 i (.par j)) = some (d, setCell Γ2 i (.par j)) := by
      simp only [freeze, setCell] at e3 ⊢
      rw [hc] at e3 ⊢
      cases c with
      | own d' => cases e3; rfl
      | frz d' => cases e3; rfl
    obtain ⟨F2, R2, s2, rd, _⟩ := freeze_ok s.rep rv ef
    by_cases hi : i < Γ1.sl.length
    · have hi2 : i < (setCell Γ2 i (.par j)).sl.length := by
        have := R2.len
        have := s.rep.len
        simp [setCell] at *
        omega
      have hg : (setCell Γ2 i (.par j)).sl[i]? = some (Cell.par j) := by
        have : i < Γ2.sl.length := by simpa [setCell] using hi2
        simp [setCell, this]
      obtain ⟨a, h1, h2⟩ := R2.pr i j hg
      rw [List.getElem?_eq_getElem hjl] at h1
      cases h1
      have R3 := R2.setCell (i := i) (c := .val d) (x := some (.ref ρ[j])) ⟨_, rfl, rd⟩
      have es : σ'.set i (some (V.ref ρ[j])) = σ' := by
        apply List.ext_getElem?
        intro n
        by_cases hn : n = i
        · subst hn; rw [List.getElem?_set_self (lt_of_get h2), h2]
        · rw [List.getElem?_set_ne (Ne.symm hn)]
      rw [es] at R3
      have e6 : setCell (setCell Γ2 i (.par j)) i (.val d) = setCell Γ2 i (.val d) := by simp only [setCell, List.set_set]
      rw [e6] at R3
      exact k σ' H' F2 ⟨R3, s.fs.trans s2, s.op⟩
    · have e5 : setCell Γ2 i (.par j) = setCell Γ2 i (.val d) := by
        have h1 := s.rep.len
        have h2 := R2.len
        simp only [setCell, List.length_set] at h1 h2 ⊢
        rw [List.set_eq_of_length_le (by omega), List.set_eq_of_length_le (by omega)]
      rw [e5] at R2
      exact k σ' H' F2 ⟨R2, s.fs.trans s2, s.op⟩
section
variable {X : Cx} {e tg iter tg1 iter1 elt : Expr} {es ifs ifs1 : List Expr} {m : M} {mi mi1 : MI} {g g1 : MG} {ws ws1 : List Nat} {tt tt1 : MB} {pos : Pos}
theorem ve_lcE {scope : Scope} {own : List (Str × Nat)} (hc : X.calm = true) (hN : X.N.Nodup) (hi : VI X tg iter mi) (ok : BlkOk X.N X.env.scope scope own) (hw : ∀ i ∈ ws, i ∈ own.map (·.2))
    (hg : ∀ (s : Shared) (H : Hp) (C : Addr) (cl : List (Str × Addr)) (fp : List Addr), VG (X.blk s H scope (compEnvC scope cl C X.env) fp) tg ws g)
    (ht : ∀ (s : Shared) (H : Hp) (C : Addr) (cl : List (Str × Addr)) (fp : List Addr), VTs (X.blk s H scope (compEnvC scope cl C X.env) fp) ifs tt)
    (he : ∀ (s : Shared) (H : Hp) (C : Addr) (cl : List (Str × Addr)) (fp : List Addr), VE (X.blk s H scope (compEnvC scope cl C X.env) fp) elt m) (hs : ∀ x, foldedSetIterable iter X.env x = pure x := by intro _; rfl) :
    VE X (.ListComp elt [⟨tg, iter, ifs, 0⟩] scope pos) (mLc (own.map (·.2)) mi g tt m) := (ve_lc hc hN hi ok hw hg ht he hs).1
theorem ve_lc2E {scope : Scope} {own : List (Str × Nat)} {vs1 : List Nat} (hc : X.calm = true) (hN : X.N.Nodup) (hi : VI X tg iter mi) (ok : BlkOk X.N X.env.scope scope own) (hv : ∀ i ∈ vs1, i ∈ own.map (·.2)) (hw : ∀ i ∈ ws, i ∈ own.map (·.2)) (hw1 : ∀ i ∈ ws1, i ∈ vs1)
    (hg : ∀ (s : Shared) (H : Hp) (C : Addr) (cl : List (Str × Addr)) (fp : List Addr), VG (X.blk s H scope (compEnvC scope cl C X.env) fp) tg ws g)
    (ht : ∀ (s : Shared) (H : Hp) (C : Addr) (cl : List (Str × Addr)) (fp : List Addr), VTs (X.blk s H scope (compEnvC scope cl C X.env) fp) ifs tt)
    (hi1 : ∀ (s : Shared) (H : Hp) (C : Addr) (cl : List (Str × Addr)) (fp : List Addr), VI (X.blk s H scope (compEnvC scope cl C X.env) fp) tg1 iter1 mi1)
    (hg1 : ∀ (s : Shared) (H : Hp) (C : Addr) (cl : List (Str × Addr)) (fp : List Addr), VG (X.blk s H scope (compEnvC scope cl C X.env) fp) tg1 ws1 g1)
    (ht1 : ∀ (s : Shared) (H : Hp) (C : Addr) (cl : List (Str × Addr)) (fp : List Addr), VTs (X.blk s H scope (compEnvC scope cl C X.env) fp) ifs1 tt1)
    (he : ∀ (s : Shared) (H : Hp) (C : Addr) (cl : List (Str × Addr)) (fp : List Addr), VE (X.blk s H scope (compEnvC scope cl C X.env) fp) elt m) (hs : ∀ x, foldedSetIterable iter X.env x = pure x := by intro _; rfl) (hs1 : ∀ env x, foldedSetIterable iter1 env x = pure x := by intro _ _; rfl) :
    VE X (.ListComp elt [⟨tg, iter, ifs, 0⟩, ⟨tg1, iter1, ifs1, 0⟩] scope pos) (mLc2 (own.map (·.2)) vs1 mi g tt mi1 g1 tt1 m) := (ve_lc2 hc hN hi ok hv hw hw1 hg ht hi1 hg1 ht1 he hs hs1).1
end
end VS

set_option Elab.async false
set_option linter.all false
set_option maxRecDepth 100000
set_option maxHeartbeats 4000000
/-! ### one step of a mirror after the other, for simp: nothing is looked at under a binder -/
namespace VS
open PySem L2 PyProof.Rows

section
variable {α : Type} {sl : List Cell} {st st' : List SC} {Γ : VEnv} {i j k n : Nat} {d e f x y : D} {ds xs cs : List D} {r s : EV} {rs : List EV} {c : Bool} {a b m mo : M} {t t1 t2 : MB} {ml : ML} {ms ms2 : MS} {g : MG} {T : String}
/-! cells -/
def rdC (i : Nat) (o : Option Cell) (Γ : VEnv) : Option (EV × VEnv) := match o with
  | some (.val d) => some (.val d, Γ)
  | some (.own _) => some (.slot i, Γ)
  | some (.par k) => some (.par k, Γ)
  | _ => none
@[simp] theorem mVar_e : mVar i ⟨sl, st⟩ = rdC i sl[i]? ⟨sl, st⟩ := rfl
@[simp] theorem rdC_v : rdC i (some (.val d)) Γ = some (.val d, Γ) := rfl
@[simp] theorem rdC_o : rdC i (some (.own d)) Γ = some (.slot i, Γ) := rfl
@[simp] theorem rdC_p : rdC i (some (.par k)) Γ = some (.par k, Γ) := rfl
@[simp] theorem mC_e : mC d Γ = some (.val d, Γ) := rfl
def fzS (i : Nat) (o : Option Cell) (Γ : VEnv) : Option (D × VEnv) := match o with
  | some (.own d) => some (d, ⟨Γ.sl.set i (.val d), Γ.st⟩)
  | some (.val d) => some (d, Γ)
  | _ => none
def fzP (k : Nat) (o : Option SC) (Γ : VEnv) : Option (D × VEnv) := match o with
  | some (.own d) => some (d, ⟨Γ.sl, Γ.st.set k (.frz d)⟩)
  | some (.frz d) => some (d, Γ)
  | _ => none
@[simp] theorem freeze_v : freeze (.val d) Γ = some (d, Γ) := rfl
@[simp] theorem freeze_f : freeze (.fresh d) Γ = some (d, Γ) := rfl
@[simp] theorem freeze_s : freeze (.slot i) ⟨sl, st⟩ = fzS i sl[i]? ⟨sl, st⟩ := rfl
@[simp] theorem freeze_p : freeze (.par k) ⟨sl, st⟩ = fzP k st[k]? ⟨sl, st⟩ := rfl
@[simp] theorem fzS_o : fzS i (some (.own d)) ⟨sl, st⟩ = some (d, ⟨sl.set i (.val d), st⟩) := rfl
@[simp] theorem fzS_v : fzS i (some (.val d)) Γ = some (d, Γ) := rfl
@[simp] theorem fzP_o : fzP k (some (.own d)) ⟨sl, st⟩ = some (d, ⟨sl, st.set k (.frz d)⟩) := rfl
@[simp] theorem fzP_f : fzP k (some (.frz d)) Γ = some (d, Γ) := rfl
def pkS (o : Option Cell) : Option D := match o with
  | some (.own d) => some d
  | some (.val d) => some d
  | _ => none
def pkP (o : Option SC) : Option D := match o with
  | some (.own d) => some d
  | some (.frz d) => some d
  | _ => none
@[simp] theorem peek_v : peek Γ (.val d) = some d := rfl
@[simp] theorem peek_f : peek Γ (.fresh d) = some d := rfl
@[simp] theorem peek_s : peek ⟨sl, st⟩ (.slot i) = pkS sl[i]? := rfl
@[simp] theorem peek_p : peek ⟨sl, st⟩ (.par k) = pkP st[k]? := rfl
@[simp] theorem pkS_o : pkS (some (.own d)) = some d := rfl
@[simp] theorem pkS_v : pkS (some (.val d)) = some d := rfl
@[simp] theorem pkP_o : pkP (some (.own d)) = some d := rfl
@[simp] theorem pkP_f : pkP (some (.frz d)) = some d := rfl
def ctS (o : Option Cell) : Option D := match o with
  | some (.own d) => some d
  | _ => none
def ctP (o : Option SC) : Option D := match o with
  | some (.own d) => some d
  | _ => none
@[simp] theorem content_s : content ⟨sl, st⟩ (.slot i) = ctS sl[i]? := rfl
@[simp] theorem content_p : content ⟨sl, st⟩ (.par k) = ctP st[k]? := rfl
@[simp] theorem ctS_o : ctS (some (.own d)) = some d := rfl
@[simp] theorem ctP_o : ctP (some (.own d)) = some d := rfl
@[simp] theorem putC_s : putC ⟨sl, st⟩ d (.slot i) = ⟨sl.set i (.own d), st⟩ := rfl
@[simp] theorem putC_p : putC ⟨sl, st⟩ d (.par k) = ⟨sl, st.set k (.own d)⟩ := rfl
@[simp] theorem setCell_e {c : Cell} : setCell ⟨sl, st⟩ i c = ⟨sl.set i c, st⟩ := rfl
def as1 (i : Nat) (o : Option (D × VEnv)) : Option VEnv := o.map fun p => setCell p.2 i (.val p.1)
@[simp] theorem asgn_v : asgn i (.val d) ⟨sl, st⟩ = some ⟨sl.set i (.val d), st⟩ := rfl
@[simp] theorem asgn_f : asgn i (.fresh d) ⟨sl, st⟩ = some ⟨sl.set i (.own d), st⟩ := rfl
@[simp] theorem asgn_p : asgn i (.par k) ⟨sl, st⟩ = some ⟨sl.set i (.par k), st⟩ := rfl
@[simp] theorem asgn_s : asgn i (.slot j) Γ = as1 i (freeze (.slot j) Γ) := rfl
@[simp] theorem as1_s : as1 i (some (d, Γ)) = some (setCell Γ i (.val d)) := rfl
/-! results -/
def bn4 {α : Type} (o : Option α) (Γ : VEnv) : Option (α × VEnv) := o.map fun r => (r, Γ)
@[simp] theorem bn4_s {v : α} : bn4 (some v) Γ = some (v, Γ) := rfl
def frz2 (o : Option (D × VEnv)) : Option (EV × VEnv) := o.map fun q => (.val q.1, q.2)
def frz1 (o : Option (EV × VEnv)) : Option (EV × VEnv) := o.bind fun p => frz2 (freeze p.1 p.2)
@[simp] theorem mFrz_e : mFrz m Γ = frz1 (m Γ) := rfl
@[simp] theorem frz1_s : frz1 (some (r, Γ)) = frz2 (freeze r Γ) := rfl
@[simp] theorem frz2_s : frz2 (some (d, Γ)) = some (.val d, Γ) := rfl
/-! two-place -/
def bn3 {α : Type} (h : D → D → Option α) (ox oy : Option D) (Γ : VEnv) : Option (α × VEnv) := ox.bind fun x => oy.bind fun y => bn4 (h x y) Γ
def bn2 {α : Type} (h : D → D → Option α) (r : EV) (o : Option (EV × VEnv)) : Option (α × VEnv) := o.bind fun q => bn3 h (peek q.2 r) (peek q.2 q.1) q.2
def bn1 {α : Type} (h : D → D → Option α) (b : M) (o : Option (EV × VEnv)) : Option (α × VEnv) := o.bind fun p => bn2 h p.1 (b p.2)
@[simp] theorem mBin_e {h : D → D → Option EV} : mBin h a b Γ = bn1 h b (a Γ) := rfl
@[simp] theorem mCmp_e {h : D → D → Option Bool} : mCmp h a b Γ = bn1 h b (a Γ) := rfl
@[simp] theorem bn1_s {h : D → D → Option α} : bn1 h b (some (r, Γ)) = bn2 h r (b Γ) := rfl
@[simp] theorem bn2_s {h : D → D → Option α} : bn2 h r (some (s, Γ)) = bn3 h (peek Γ r) (peek Γ s) Γ := rfl
@[simp] theorem bn3_s {h : D → D → Option α} : bn3 h (some x) (some y) Γ = bn4 (h x y) Γ := rfl
def ch3 (h : D → D → Option Bool) (s : EV) (o : Option (EV × VEnv)) : Option (Bool × VEnv) := o.bind fun r => (peek r.2 s).bind fun y => (peek r.2 r.1).bind fun z => bn4 (h y z) r.2
def ch2 (h h' : D → D → Option Bool) (c : M) (s : EV) (Γ : VEnv) (o : Option Bool) : Option (Bool × VEnv) := o.bind fun k => if k = true then ch3 h' s (c Γ) else some (false, Γ)
def ch1 (h h' : D → D → Option Bool) (c : M) (r : EV) (o : Option (EV × VEnv)) : Option (Bool × VEnv) := o.bind fun q => (peek q.2 r).bind fun x => (peek q.2 q.1).bind fun y => ch2 h h' c q.1 q.2 (h x y)
def ch0 (h h' : D → D → Option Bool) (b c : M) (o : Option (EV × VEnv)) : Option (Bool × VEnv) := o.bind fun p => ch1 h h' c p.1 (b p.2)
@[simp] theorem mChain_e {h h' : D → D → Option Bool} {c : M} : mChain h h' a b c Γ = ch0 h h' b c (a Γ) := rfl
@[simp] theorem ch0_s {h h' : D → D → Option Bool} {c : M} : ch0 h h' b c (some (r, Γ)) = ch1 h h' c r (b Γ) := rfl
theorem ch1_of {h h' : D → D → Option Bool} {c : M} (hx : peek Γ r = some x) (hy : peek Γ s = some y) : ch1 h h' c r (some (s, Γ)) = ch2 h h' c s Γ (h x y) := by
  simp only [ch1, Option.bind_some, hx, hy]
@[simp] theorem ch1_s {h h' : D → D → Option Bool} {c : M} : ch1 h h' c (.val x) (some (.val y, Γ)) = ch2 h h' c (.val y) Γ (h x y) := rfl
@[simp] theorem ch2_s {h h' : D → D → Option Bool} {c : M} {k : Bool} : ch2 h h' c s Γ (some k) = if k = true then ch3 h' s (c Γ) else some (false, Γ) := rfl
@[simp] theorem ch3_s {h' : D → D → Option Bool} : ch3 h' (.val y) (some (.val x, Γ)) = bn4 (h' y x) Γ := rfl
/-! truths -/
def ofb (o : Option (Bool × VEnv)) : Option (EV × VEnv) := o.map fun p => (.val (.bl p.1), p.2)
@[simp] theorem mOfB_e : mOfB t Γ = ofb (t Γ) := rfl
@[simp] theorem ofb_s : ofb (some (c, Γ)) = some (.val (.bl c), Γ) := rfl
def tst (o : Option (EV × VEnv)) : Option (Bool × VEnv) := o.bind fun p => match p.1 with
  | .val (.bl b) => some (b, p.2)
  | _ => none
@[simp] theorem mTest_e : mTest m Γ = tst (m Γ) := rfl
@[simp] theorem tst_s : tst (some (.val (.bl c), Γ)) = some (c, Γ) := rfl
def and1 (b : MB) (o : Option (Bool × VEnv)) : Option (Bool × VEnv) := o.bind fun p => if p.1 = true then b p.2 else some (false, p.2)
def or1 (b : MB) (o : Option (Bool × VEnv)) : Option (Bool × VEnv) := o.bind fun p => if p.1 = true then some (true, p.2) else b p.2
def not1 (o : Option (Bool × VEnv)) : Option (Bool × VEnv) := o.map fun p => (!p.1, p.2)
def if1 {α : Type} (a b : VEnv → Option α) (o : Option (Bool × VEnv)) : Option α := o.bind fun p => if p.1 = true then a p.2 else b p.2
@[simp] theorem mAnd_e : mAnd t1 t2 Γ = and1 t2 (t1 Γ) := rfl
@[simp] theorem mOr_e : mOr t1 t2 Γ = or1 t2 (t1 Γ) := rfl
@[simp] theorem mNot_e : mNot t Γ = not1 (t Γ) := rfl
@[simp] theorem mIf_e : mIf t a b Γ = if1 a b (t Γ) := rfl
@[simp] theorem mIfS_e : mIfS t ms ms2 Γ = if1 ms ms2 (t Γ) := rfl
@[simp] theorem and1_s : and1 t (some (c, Γ)) = if c = true then t Γ else some (false, Γ) := rfl
@[simp] theorem or1_s : or1 t (some (c, Γ)) = if c = true then some (true, Γ) else t Γ := rfl
@[simp] theorem not1_s : not1 (some (c, Γ)) = some (!c, Γ) := rfl
@[simp] theorem if1_s {p q : VEnv → Option α} : if1 p q (some (c, Γ)) = if c = true then p Γ else q Γ := rfl
/-! lists of arguments -/
def cn2 (r : EV) (o : Option (List EV × VEnv)) : Option (List EV × VEnv) := o.map fun q => (r :: q.1, q.2)
def cn1 (ml : ML) (o : Option (EV × VEnv)) : Option (List EV × VEnv) := o.bind fun p => cn2 p.1 (ml p.2)
@[simp] theorem mNil_e : mNil Γ = some ([], Γ) := rfl
@[simp] theorem mCons_e : mCons m ml Γ = cn1 ml (m Γ) := rfl
@[simp] theorem cn1_s : cn1 ml (some (r, Γ)) = cn2 r (ml Γ) := rfl
@[simp] theorem cn2_s : cn2 r (some (rs, Γ)) = some (r :: rs, Γ) := rfl
def pl1 (o : Option D) (p : Option (List D)) : Option (List D) := o.bind fun d => p.map fun ds => d :: ds
@[simp] theorem peekL_n : peekL Γ [] = some [] := rfl
@[simp] theorem peekL_c : peekL Γ (r :: rs) = pl1 (peek Γ r) (peekL Γ rs) := rfl
@[simp] theorem pl1_s : pl1 (some d) (some ds) = some (d :: ds) := rfl
def fl2 (d : D) (o : Option (List D × VEnv)) : Option (List D × VEnv) := o.map fun q => (d :: q.1, q.2)
def fl1 (rs : List EV) (o : Option (D × VEnv)) : Option (List D × VEnv) := o.bind fun p => fl2 p.1 (freezeL rs p.2)
@[simp] theorem freezeL_n : freezeL [] Γ = some ([], Γ) := rfl
@[simp] theorem freezeL_c : freezeL (r :: rs) Γ = fl1 rs (freeze r Γ) := rfl
@[simp] theorem fl1_s : fl1 rs (some (d, Γ)) = fl2 d (freezeL rs Γ) := rfl
@[simp] theorem fl2_s : fl2 d (some (ds, Γ)) = some (d :: ds, Γ) := rfl
def ls2 (o : Option (List D × VEnv)) : Option (EV × VEnv) := o.bind fun q => if q.1.length ≤ sizeLine then some (.fresh (.lst q.1), q.2) else none
def ls1 (o : Option (List EV × VEnv)) : Option (EV × VEnv) := o.bind fun p => ls2 (freezeL p.1 p.2)
@[simp] theorem mList_e : mList ml Γ = ls1 (ml Γ) := rfl
@[simp] theorem ls1_s : ls1 (some (rs, Γ)) = ls2 (freezeL rs Γ) := rfl
@[simp] theorem ls2_s : ls2 (some (ds, Γ)) = if ds.length ≤ sizeLine then some (.fresh (.lst ds), Γ) else none := rfl
def tp2 (o : Option (List D × VEnv)) : Option (EV × VEnv) := o.bind fun q => if q.1.length ≤ sizeLine then some (.val (.tup q.1), q.2) else none
def tp1 (o : Option (List EV × VEnv)) : Option (EV × VEnv) := o.bind fun p => tp2 (freezeL p.1 p.2)
@[simp] theorem mTup_e : mTup ml Γ = tp1 (ml Γ) := rfl
@[simp] theorem tp1_s : tp1 (some (rs, Γ)) = tp2 (freezeL rs Γ) := rfl
@[simp] theorem tp2_s : tp2 (some (ds, Γ)) = if ds.length ≤ sizeLine then some (.val (.tup ds), Γ) else none := rfl
/-! calls -/
def cb2 (h : List D → Option EV) (o : Option (List D)) (Γ : VEnv) : Option (EV × VEnv) := o.bind fun ds => bn4 (h ds) Γ
def cb1 (h : List D → Option EV) (o : Option (List EV × VEnv)) : Option (EV × VEnv) := o.bind fun p => cb2 h (peekL p.2 p.1) p.2
@[simp] theorem mCallB_e {h : List D → Option EV} : mCallB h ml Γ = cb1 h (ml Γ) := rfl
@[simp] theorem cb1_s {h : List D → Option EV} : cb1 h (some (rs, Γ)) = cb2 h (peekL Γ rs) Γ := rfl
@[simp] theorem cb2_s {h : List D → Option EV} : cb2 h (some ds) Γ = bn4 (h ds) Γ := rfl
def cl3 (n : Nat) (Γ : VEnv) (o : Option (EV × List SC)) : Option (EV × VEnv) := o.bind fun z => match z.1 with
  | .val d => some (.val d, ⟨Γ.sl.map (unlend n z.2), z.2.take n⟩)
  | .fresh d => some (.fresh d, ⟨Γ.sl.map (unlend n z.2), z.2.take n⟩)
  | .par k => if k < n then some (.par k, ⟨Γ.sl.map (unlend n z.2), z.2.take n⟩) else none
  | _ => none
def cl2 (f : Sem') (n : Nat) (o : Option (List Cell × VEnv)) : Option (EV × VEnv) := o.bind fun q => cl3 n q.2 (f q.1 q.2.st)
def cl1 (bs : List Bool) (f : Sem') (o : Option (List EV × VEnv)) : Option (EV × VEnv) := o.bind fun p => cl2 f p.2.st.length (passL bs p.1 p.2)
@[simp] theorem mCall_e {bs : List Bool} {f : Sem'} : mCall bs f ml Γ = cl1 bs f (ml Γ) := rfl
@[simp] theorem cl1_s {bs : List Bool} {f : Sem'} : cl1 bs f (some (rs, ⟨sl, st⟩)) = cl2 f st.length (passL bs rs ⟨sl, st⟩) := rfl
@[simp] theorem cl2_s {f : Sem'} {cells : List Cell} : cl2 f n (some (cells, ⟨sl, st⟩)) = cl3 n ⟨sl, st⟩ (f cells st) := rfl
@[simp] theorem cl3_v : cl3 n ⟨sl, st⟩ (some (.val d, st')) = some (.val d, ⟨sl.map (unlend n st'), st'.take n⟩) := rfl
@[simp] theorem cl3_f : cl3 n ⟨sl, st⟩ (some (.fresh d, st')) = some (.fresh d, ⟨sl.map (unlend n st'), st'.take n⟩) := rfl
@[simp] theorem cl3_p : cl3 n ⟨sl, st⟩ (some (.par k, st')) = if k < n then some (.par k, ⟨sl.map (unlend n st'), st'.take n⟩) else none := rfl
def pa2 (o : Option (D × VEnv)) : Option (Cell × VEnv) := o.map fun p => (.val p.1, p.2)
def pa1 (i : Nat) (o : Option Cell) (Γ : VEnv) : Option (Cell × VEnv) := match o with
  | some (.own d) => some (.par Γ.st.length, ⟨Γ.sl.set i (.par Γ.st.length), Γ.st ++ [.own d]⟩)
  | some (.val d) => some (.val d, Γ)
  | some (.par k) => some (.par k, Γ)
  | _ => none
@[simp] theorem passA_v : passA c (.val d) Γ = some (.val d, Γ) := rfl
@[simp] theorem passA_f : passA c (.fresh d) Γ = some (.own d, Γ) := rfl
@[simp] theorem passA_st : passA true (.slot i) ⟨sl, st⟩ = pa1 i sl[i]? ⟨sl, st⟩ := rfl
@[simp] theorem passA_sf : passA false (.slot i) Γ = pa2 (freeze (.slot i) Γ) := rfl
@[simp] theorem passA_pt : passA true (.par k) Γ = some (.par k, Γ) := rfl
@[simp] theorem passA_pf : passA false (.par k) Γ = pa2 (freeze (.par k) Γ) := rfl
@[simp] theorem pa2_s : pa2 (some (d, Γ)) = some (.val d, Γ) := rfl
@[simp] theorem pa1_o : pa1 i (some (.own d)) ⟨sl, st⟩ = some (.par st.length, ⟨sl.set i (.par st.length), st ++ [.own d]⟩) := rfl
@[simp] theorem pa1_v : pa1 i (some (.val d)) Γ = some (.val d, Γ) := rfl
@[simp] theorem pa1_p : pa1 i (some (.par k)) Γ = some (.par k, Γ) := rfl
def ps2 (c : Cell) (o : Option (List Cell × VEnv)) : Option (List Cell × VEnv) := o.map fun q => (c :: q.1, q.2)
def ps1 (bs : List Bool) (rs : List EV) (o : Option (Cell × VEnv)) : Option (List Cell × VEnv) := o.bind fun p => ps2 p.1 (passL bs rs p.2)
@[simp] theorem passL_n {bs : List Bool} : passL bs [] Γ = some ([], Γ) := by cases bs <;> rfl
@[simp] theorem passL_c {u : Bool} {bs : List Bool} : passL (u :: bs) (r :: rs) Γ = ps1 bs rs (passA u r Γ) := rfl
@[simp] theorem ps1_s {bs : List Bool} {c : Cell} : ps1 bs rs (some (c, Γ)) = ps2 c (passL bs rs Γ) := rfl
@[simp] theorem ps2_s {c : Cell} {cells : List Cell} : ps2 c (some (cells, Γ)) = some (c :: cells, Γ) := rfl
def rt1 (o : Option Cell) (st : List SC) : Option (EV × List SC) := match o with
  | some (.own d) => some (.fresh d, st)
  | some (.val d) => some (.val d, st)
  | _ => none
@[simp] theorem retEV_v : retEV (.val d) ⟨sl, st⟩ = some (.val d, st) := rfl
@[simp] theorem retEV_f : retEV (.fresh d) ⟨sl, st⟩ = some (.fresh d, st) := rfl
@[simp] theorem retEV_p : retEV (.par k) ⟨sl, st⟩ = some (.par k, st) := rfl
@[simp] theorem retEV_s : retEV (.slot i) ⟨sl, st⟩ = rt1 sl[i]? st := rfl
@[simp] theorem rt1_o : rt1 (some (.own d)) st = some (.fresh d, st) := rfl
@[simp] theorem rt1_v : rt1 (some (.val d)) st = some (.val d, st) := rfl
def df1 (o : Option (Fl × VEnv)) : Option (EV × List SC) := o.bind fun q => match q.1 with
  | .ret r => retEV r q.2
  | .nx => some (.val .non, q.2.st)
  | _ => none
theorem defOf_e {p : Nat} {cells : List Cell} : defOf p n ms cells st = if cells.length = p then df1 (ms ⟨cells ++ List.replicate (n - p) .un, st⟩) else none := rfl
@[simp] theorem df1_r : df1 (some (.ret r, Γ)) = retEV r Γ := rfl
@[simp] theorem df1_n : df1 (some (.nx, ⟨sl, st⟩)) = some (.val .non, st) := rfl
/-! places, slices -/
def pp1 (o : Option (EV × VEnv)) : Option (Option Int × VEnv) := o.bind fun p => match p.1 with
  | .val (.int i) => some (some i, p.2)
  | _ => none
@[simp] theorem mPN_e : mPN Γ = some (none, Γ) := rfl
@[simp] theorem mPS_e : mPS m Γ = pp1 (m Γ) := rfl
@[simp] theorem pp1_s {z : Int} : pp1 (some (.val (.int z), Γ)) = some (some z, Γ) := rfl
abbrev MO := VEnv → Option (Option Int × VEnv)
def sl4 (o : Option D) (l u : Option Int) (Γ : VEnv) : Option (EV × VEnv) := o.bind fun d => bn4 (slD d l u) Γ
def sl3 (r : EV) (l : Option Int) (o : Option (Option Int × VEnv)) : Option (EV × VEnv) := o.bind fun u => sl4 (peek u.2 r) l u.1 u.2
def sl2 (hi : MO) (r : EV) (o : Option (Option Int × VEnv)) : Option (EV × VEnv) := o.bind fun l => sl3 r l.1 (hi l.2)
def sl1 (lo hi : MO) (o : Option (EV × VEnv)) : Option (EV × VEnv) := o.bind fun p => sl2 hi p.1 (lo p.2)
@[simp] theorem mSl_e {lo hi : MO} : mSl m lo hi Γ = sl1 lo hi (m Γ) := rfl
@[simp] theorem sl1_s {lo hi : MO} : sl1 lo hi (some (r, Γ)) = sl2 hi r (lo Γ) := rfl
@[simp] theorem sl2_s {hi : MO} {l : Option Int} : sl2 hi r (some (l, Γ)) = sl3 r l (hi Γ) := rfl
@[simp] theorem sl3_s {l u : Option Int} : sl3 r l (some (u, Γ)) = sl4 (peek Γ r) l u Γ := rfl
@[simp] theorem sl4_s {l u : Option Int} : sl4 (some d) l u Γ = bn4 (slD d l u) Γ := rfl
@[simp] theorem slD_l {l u : Option Int} : slD (.lst xs) l u = some (.fresh (.lst (cutL xs l u))) := rfl
@[simp] theorem slD_t {l u : Option Int} : slD (.tup xs) l u = some (.val (.tup (cutL xs l u))) := rfl
@[simp] theorem slD_s {l u : Option Int} {w : List Nat} : slD (.str w) l u = some (.val (.str (cutL w l u))) := rfl
def un2 (h : D → Option EV) (o : Option D) (Γ : VEnv) : Option (EV × VEnv) := o.bind fun d => bn4 (h d) Γ
def un1 (h : D → Option EV) (o : Option (EV × VEnv)) : Option (EV × VEnv) := o.bind fun p => un2 h (peek p.2 p.1) p.2
@[simp] theorem mUn_e {h : D → Option EV} : mUn h m Γ = un1 h (m Γ) := rfl
@[simp] theorem un1_s {h : D → Option EV} : un1 h (some (r, Γ)) = un2 h (peek Γ r) Γ := rfl
@[simp] theorem un2_s {h : D → Option EV} : un2 h (some d) Γ = bn4 (h d) Γ := rfl
/-! methods -/
def mt4 (h : D → List D → Option EV) (o : Option D) (p : Option (List D)) (Γ : VEnv) : Option (EV × VEnv) := o.bind fun d => p.bind fun ds => bn4 (h d ds) Γ
def mt3 (h : D → List D → Option EV) (r : EV) (o : Option (List EV × VEnv)) : Option (EV × VEnv) := o.bind fun q => mt4 h (peek q.2 r) (peekL q.2 q.1) q.2
def mt2 (T : String) (h : D → List D → Option EV) (ml : ML) (r : EV) (Γ : VEnv) (o : Option D) : Option (EV × VEnv) := o.bind fun d0 => if tyM T d0 = true then mt3 h r (ml Γ) else none
def mt1 (T : String) (h : D → List D → Option EV) (ml : ML) (o : Option (EV × VEnv)) : Option (EV × VEnv) := o.bind fun p => mt2 T h ml p.1 p.2 (peek p.2 p.1)
@[simp] theorem mMeth_e {h : D → List D → Option EV} : mMeth T h mo ml Γ = mt1 T h ml (mo Γ) := rfl
@[simp] theorem mt1_s {h : D → List D → Option EV} : mt1 T h ml (some (r, Γ)) = mt2 T h ml r Γ (peek Γ r) := rfl
@[simp] theorem mt2_s {h : D → List D → Option EV} {w : List Nat} : mt2 "str" h ml r Γ (some (.str w)) = mt3 h r (ml Γ) := rfl
@[simp] theorem mt2_l {h : D → List D → Option EV} : mt2 "list" h ml r Γ (some (.lst xs)) = mt3 h r (ml Γ) := rfl
@[simp] theorem mt3_s {h : D → List D → Option EV} : mt3 h r (some (rs, Γ)) = mt4 h (peek Γ r) (peekL Γ rs) Γ := rfl
@[simp] theorem mt4_s {h : D → List D → Option EV} : mt4 h (some d) (some ds) Γ = bn4 (h d ds) Γ := rfl
abbrev MUT := List D → List D → Option (D × List D)
def mu6 (r : EV) (o : Option (D × List D)) (Γ : VEnv) : Option (EV × VEnv) := o.map fun w => (.val w.1, putC Γ (.lst w.2) r)
def mu5 (h : MUT) (r : EV) (ds : List D) (o : Option D) (Γ : VEnv) : Option (EV × VEnv) := o.bind fun c => match c with
  | .lst cs => mu6 r (h cs ds) Γ
  | _ => none
def mu4 (h : MUT) (r : EV) (o : Option (List D × VEnv)) : Option (EV × VEnv) := o.bind fun z => mu5 h r z.1 (content z.2 r) z.2
def mu3 (h : MUT) (r : EV) (o : Option (List EV × VEnv)) : Option (EV × VEnv) := o.bind fun q => mu4 h r (freezeL q.1 q.2)
def mu2 (h : MUT) (ml : ML) (r : EV) (Γ : VEnv) (o : Option D) : Option (EV × VEnv) := o.bind fun c0 => match c0 with
  | .lst _ => mu3 h r (ml Γ)
  | _ => none
def mu1 (h : MUT) (ml : ML) (o : Option (EV × VEnv)) : Option (EV × VEnv) := o.bind fun p => mu2 h ml p.1 p.2 (content p.2 p.1)
@[simp] theorem mMut_e {h : MUT} : mMut h mo ml Γ = mu1 h ml (mo Γ) := rfl
@[simp] theorem mu1_s {h : MUT} : mu1 h ml (some (r, Γ)) = mu2 h ml r Γ (content Γ r) := rfl
@[simp] theorem mu2_s {h : MUT} : mu2 h ml r Γ (some (.lst xs)) = mu3 h r (ml Γ) := rfl
@[simp] theorem mu3_s {h : MUT} : mu3 h r (some (rs, Γ)) = mu4 h r (freezeL rs Γ) := rfl
@[simp] theorem mu4_s {h : MUT} : mu4 h r (some (ds, Γ)) = mu5 h r ds (content Γ r) Γ := rfl
@[simp] theorem mu5_s {h : MUT} : mu5 h r ds (some (.lst cs)) Γ = mu6 r (h cs ds) Γ := rfl
@[simp] theorem mu6_s : mu6 r (some (d, cs)) Γ = some (.val d, putC Γ (.lst cs) r) := rfl
@[simp] theorem ownOf_f : ownOf Γ (.fresh d) = some d := rfl
@[simp] theorem ownOf_s : ownOf Γ (.slot i) = content Γ (.slot i) := rfl
@[simp] theorem ownOf_p : ownOf Γ (.par k) = content Γ (.par k) := rfl
def ex4 (r : EV) (o p : Option D) (Γ : VEnv) : Option (EV × VEnv) := o.bind fun z => p.bind fun c => match c, z with
  | .lst cs, .lst ds => if cs.length + ds.length ≤ sizeLine then some (.val .non, putC Γ (.lst (cs ++ ds)) r) else none
  | _, _ => none
def ex3 (r : EV) (o : Option (EV × VEnv)) : Option (EV × VEnv) := o.bind fun q => ex4 r (ownOf q.2 q.1) (content q.2 r) q.2
def ex2 (m : M) (r : EV) (Γ : VEnv) (o : Option D) : Option (EV × VEnv) := o.bind fun c0 => match c0 with
  | .lst _ => ex3 r (m Γ)
  | _ => none
def ex1 (m : M) (o : Option (EV × VEnv)) : Option (EV × VEnv) := o.bind fun p => ex2 m p.1 p.2 (content p.2 p.1)
@[simp] theorem mExt_e : mExt mo m Γ = ex1 m (mo Γ) := rfl
@[simp] theorem ex1_s : ex1 m (some (r, Γ)) = ex2 m r Γ (content Γ r) := rfl
@[simp] theorem ex2_s : ex2 m r Γ (some (.lst xs)) = ex3 r (m Γ) := rfl
@[simp] theorem ex3_s : ex3 r (some (s, Γ)) = ex4 r (ownOf Γ s) (content Γ r) Γ := rfl
@[simp] theorem ex4_s : ex4 r (some (.lst ds)) (some (.lst cs)) Γ = if cs.length + ds.length ≤ sizeLine then some (.val .non, putC Γ (.lst (cs ++ ds)) r) else none := rfl
/-! statements -/
def sq (b : MS) (o : Option (Fl × VEnv)) : Option (Fl × VEnv) := o.bind fun p => match p.1 with
  | .nx => b p.2
  | fl => some (fl, p.2)
@[simp] theorem mSeq_e : mSeq ms ms2 Γ = sq ms2 (ms Γ) := rfl
@[simp] theorem sq_n : sq ms (some (.nx, Γ)) = ms Γ := rfl
@[simp] theorem sq_r : sq ms (some (.ret r, Γ)) = some (.ret r, Γ) := rfl
@[simp] theorem sq_b : sq ms (some (.brk, Γ)) = some (.brk, Γ) := rfl
@[simp] theorem sq_c : sq ms (some (.cont, Γ)) = some (.cont, Γ) := rfl
@[simp] theorem mNext_e : mNext Γ = some (.nx, Γ) := rfl
@[simp] theorem mBrk_e : mBrk Γ = some (.brk, Γ) := rfl
@[simp] theorem mCont_e : mCont Γ = some (.cont, Γ) := rfl
@[simp] theorem mRetN_e : mRetN Γ = some (.ret (.val .non), Γ) := rfl
def dr1 (o : Option (EV × VEnv)) : Option (Fl × VEnv) := o.map fun p => (.nx, p.2)
def re1 (o : Option (EV × VEnv)) : Option (Fl × VEnv) := o.map fun p => (.ret p.1, p.2)
@[simp] theorem mDrop_e : mDrop m Γ = dr1 (m Γ) := rfl
@[simp] theorem mRet_e : mRet m Γ = re1 (m Γ) := rfl
@[simp] theorem dr1_s : dr1 (some (r, Γ)) = some (.nx, Γ) := rfl
@[simp] theorem re1_s : re1 (some (r, Γ)) = some (.ret r, Γ) := rfl
def ag2 (o : Option VEnv) : Option (Fl × VEnv) := o.map fun Γ => (.nx, Γ)
def ag1 (g : MG) (o : Option (EV × VEnv)) : Option (Fl × VEnv) := o.bind fun p => ag2 (g p.1 p.2)
@[simp] theorem mAsg_e : mAsg m g Γ = ag1 g (m Γ) := rfl
@[simp] theorem ag1_s : ag1 g (some (r, Γ)) = ag2 (g r Γ) := rfl
@[simp] theorem ag2_s : ag2 (some Γ) = some (.nx, Γ) := rfl
def gq1 (gs : List MG) (ds : List D) (o : Option VEnv) : Option VEnv := o.bind fun Γ => mgSeq gs ds Γ
@[simp] theorem mgSeq_n : mgSeq [] [] Γ = some Γ := rfl
@[simp] theorem mgSeq_c {gs : List MG} : mgSeq (g :: gs) (d :: ds) Γ = gq1 gs ds (g (.val d) Γ) := rfl
@[simp] theorem gq1_s {gs : List MG} : gq1 gs ds (some Γ) = mgSeq gs ds Γ := rfl
def gt1 (gs : List MG) (o : Option (D × VEnv)) : Option VEnv := o.bind fun p => match p.1 with
  | .tup ds => mgSeq gs ds p.2
  | .lst ds => mgSeq gs ds p.2
  | _ => none
@[simp] theorem mgTup_e {gs : List MG} : mgTup gs r Γ = gt1 gs (freeze r Γ) := rfl
@[simp] theorem gt1_t {gs : List MG} : gt1 gs (some (.tup ds, Γ)) = mgSeq gs ds Γ := rfl
@[simp] theorem gt1_l {gs : List MG} : gt1 gs (some (.lst ds, Γ)) = mgSeq gs ds Γ := rfl
def gs5 (d : D) (r : EV) (xs : List D) (o : Option Nat) (Γ : VEnv) : Option VEnv := o.map fun j => putC Γ (.lst (xs.set j d)) r
def gs4 (d : D) (r : EV) (o p : Option D) (Γ : VEnv) : Option VEnv := o.bind fun c => p.bind fun i => match c, i with
  | .lst xs, .int k => gs5 d r xs (ixN xs.length k) Γ
  | _, _ => none
def gs3 (r i : EV) (o : Option (D × VEnv)) : Option VEnv := o.bind fun z => gs4 z.1 r (content z.2 r) (peek z.2 i) z.2
def gs2 (v r : EV) (o : Option (EV × VEnv)) : Option VEnv := o.bind fun q => gs3 r q.1 (freeze v q.2)
def gs1 (mi : M) (v : EV) (o : Option (EV × VEnv)) : Option VEnv := o.bind fun p => gs2 v p.1 (mi p.2)
@[simp] theorem mgSub_e : mgSub mo m r Γ = gs1 m r (mo Γ) := rfl
@[simp] theorem gs1_s : gs1 m r (some (s, Γ)) = gs2 r s (m Γ) := rfl
@[simp] theorem gs2_s {v : EV} : gs2 v r (some (s, Γ)) = gs3 r s (freeze v Γ) := rfl
@[simp] theorem gs3_s : gs3 r s (some (d, Γ)) = gs4 d r (content Γ r) (peek Γ s) Γ := rfl
@[simp] theorem gs4_s {z : Int} : gs4 d r (some (.lst xs)) (some (.int z)) Γ = gs5 d r xs (ixN xs.length z) Γ := rfl
@[simp] theorem gs5_s : gs5 d r xs (some j) Γ = some (putC Γ (.lst (xs.set j d)) r) := rfl
def au5 (o : Option VEnv) : Option (Fl × VEnv) := o.map fun Γ => (.nx, Γ)
def au4 (i : Nat) (o : Option EV) (Γ : VEnv) : Option (Fl × VEnv) := o.bind fun r => au5 (asgn i r Γ)
def au3 (h : D → D → Option EV) (i : Nat) (o p : Option D) (Γ : VEnv) : Option (Fl × VEnv) := o.bind fun x => p.bind fun y => au4 i (h x y) Γ
def au2 (h : D → D → Option EV) (i : Nat) (r : EV) (o : Option (EV × VEnv)) : Option (Fl × VEnv) := o.bind fun q => au3 h i (peek q.2 r) (peek q.2 q.1) q.2
def au1 (h : D → D → Option EV) (i : Nat) (m : M) (o : Option (EV × VEnv)) : Option (Fl × VEnv) := o.bind fun p => au2 h i p.1 (m p.2)
@[simp] theorem mAug_e {h : D → D → Option EV} : mAug h i m Γ = au1 h i m (mVar i Γ) := rfl
@[simp] theorem au1_s {h : D → D → Option EV} : au1 h i m (some (r, Γ)) = au2 h i r (m Γ) := rfl
@[simp] theorem au2_s {h : D → D → Option EV} : au2 h i r (some (s, Γ)) = au3 h i (peek Γ r) (peek Γ s) Γ := rfl
@[simp] theorem au3_s {h : D → D → Option EV} : au3 h i (some x) (some y) Γ = au4 i (h x y) Γ := rfl
@[simp] theorem au4_s : au4 i (some r) Γ = au5 (asgn i r Γ) := rfl
@[simp] theorem au5_s : au5 (some Γ) = some (.nx, Γ) := rfl
def pr2 (i j : Nat) (o : Option (List D × VEnv)) : Option (Fl × VEnv) := o.bind fun q => match q.1 with
  | [d, e] => some (.nx, setCell (setCell q.2 i (.val d)) j (.val e))
  | _ => none
def pr1 (i j : Nat) (o : Option (List EV × VEnv)) : Option (Fl × VEnv) := o.bind fun p => pr2 i j (freezeL p.1 p.2)
@[simp] theorem mPar_e : mPar i j ml Γ = pr1 i j (ml Γ) := rfl
@[simp] theorem pr1_s : pr1 i j (some (rs, Γ)) = pr2 i j (freezeL rs Γ) := rfl
@[simp] theorem pr2_s : pr2 i j (some ([d, e], Γ)) = some (.nx, setCell (setCell Γ i (.val d)) j (.val e)) := rfl
def pt2 (i j l : Nat) (o : Option (List D × VEnv)) : Option (Fl × VEnv) := o.bind fun q => match q.1 with
  | [d, e, f] => some (.nx, setCell (setCell (setCell q.2 i (.val d)) j (.val e)) l (.val f))
  | _ => none
def pt1 (i j l : Nat) (o : Option (List EV × VEnv)) : Option (Fl × VEnv) := o.bind fun p => pt2 i j l (freezeL p.1 p.2)
@[simp] theorem mPar3_e : mPar3 i j k ml Γ = pt1 i j k (ml Γ) := rfl
@[simp] theorem pt1_s : pt1 i j k (some (rs, Γ)) = pt2 i j k (freezeL rs Γ) := rfl
@[simp] theorem pt2_s : pt2 i j k (some ([d, e, f], Γ)) = some (.nx, setCell (setCell (setCell Γ i (.val d)) j (.val e)) k (.val f)) := rfl
/-! walks -/
def ms2' (o : Option (D × VEnv)) : Option (List D × VEnv) := o.bind fun q => match q.1 with
  | .lst xs => some (xs, q.2)
  | .tup xs => some (xs, q.2)
  | .str s => some (signsD s, q.2)
  | _ => none
def ms1' (o : Option (EV × VEnv)) : Option (List D × VEnv) := o.bind fun p => ms2' (freeze p.1 p.2)
@[simp] theorem miSeq_e : miSeq m Γ = ms1' (m Γ) := rfl
@[simp] theorem ms1_s : ms1' (some (r, Γ)) = ms2' (freeze r Γ) := rfl
@[simp] theorem ms2_l : ms2' (some (.lst xs, Γ)) = some (xs, Γ) := rfl
@[simp] theorem ms2_t : ms2' (some (.tup xs, Γ)) = some (xs, Γ) := rfl
@[simp] theorem ms2_s {w : List Nat} : ms2' (some (.str w, Γ)) = some (signsD w, Γ) := rfl
def me2 (o : Option (List D × VEnv)) : Option (List D × VEnv) := o.bind fun q => match q.1 with
  | [.lst xs] => some (enumD xs, q.2)
  | _ => none
def me1 (o : Option (List EV × VEnv)) : Option (List D × VEnv) := o.bind fun p => me2 (freezeL p.1 p.2)
@[simp] theorem miEnum_e : miEnum ml Γ = me1 (ml Γ) := rfl
@[simp] theorem me1_s : me1 (some (rs, Γ)) = me2 (freezeL rs Γ) := rfl
@[simp] theorem me2_s : me2 (some ([.lst xs], Γ)) = some (enumD xs, Γ) := rfl
def mz2 (o : Option (List D × VEnv)) : Option (List D × VEnv) := o.bind fun q => match q.1 with
  | [.lst xs, .lst ys] => some (zipD xs ys, q.2)
  | [.tup xs, .tup ys] => some (zipD xs ys, q.2)
  | _ => none
def mz1 (o : Option (List EV × VEnv)) : Option (List D × VEnv) := o.bind fun p => mz2 (freezeL p.1 p.2)
@[simp] theorem miZip_e : miZip ml Γ = mz1 (ml Γ) := rfl
@[simp] theorem mz1_s : mz1 (some (rs, Γ)) = mz2 (freezeL rs Γ) := rfl
@[simp] theorem mz2_l : mz2 (some ([.lst xs, .lst cs], Γ)) = some (zipD xs cs, Γ) := rfl
@[simp] theorem mz2_t : mz2 (some ([.tup xs, .tup cs], Γ)) = some (zipD xs cs, Γ) := rfl
def rp2 (r : EV) (o : Option (EV × VEnv)) : Option (EV × VEnv) := o.bind fun q => match r, q.1 with
  | .fresh (.lst xs), .val (.int k) => if k.natAbs / 4611686018427387904 = 0 ∧ xs.length * k.toNat ≤ sizeLine then some (.fresh (.lst (List.replicate k.toNat xs).flatten), q.2) else none
  | _, _ => none
def rp1 (b : M) (o : Option (EV × VEnv)) : Option (EV × VEnv) := o.bind fun p => rp2 p.1 (b p.2)
@[simp] theorem mRepL_e : mRepL a b Γ = rp1 b (a Γ) := rfl
@[simp] theorem rp1_s : rp1 b (some (r, Γ)) = rp2 r (b Γ) := rfl
@[simp] theorem rp2_s {z : Int} : rp2 (.fresh (.lst xs)) (some (.val (.int z), Γ)) = if z.natAbs / 4611686018427387904 = 0 ∧ xs.length * z.toNat ≤ sizeLine then some (.fresh (.lst (List.replicate z.toNat xs).flatten), Γ) else none := rfl
/-! comprehensions -/
@[simp] theorem mYes_e : mYes Γ = some (true, Γ) := rfl
@[simp] theorem wipeE_n : wipeE Γ [] = Γ := rfl
@[simp] theorem wipeE_c {v : Nat} {vs : List Nat} : wipeE Γ (v :: vs) = setCell (wipeE Γ vs) v .un := rfl
def ok1 (o : Option Cell) : Bool := match o with
  | some (.own _) => false
  | _ => true
@[simp] theorem okW_n : okW Γ [] = true := rfl
@[simp] theorem okW_c {v : Nat} {vs : List Nat} : okW ⟨sl, st⟩ (v :: vs) = (ok1 sl[v]? && okW ⟨sl, st⟩ vs) := rfl
@[simp] theorem ok1_u : ok1 (some .un) = true := rfl
@[simp] theorem ok1_v : ok1 (some (.val d)) = true := rfl
@[simp] theorem ok1_p : ok1 (some (.par k)) = true := rfl
@[simp] theorem ok1_n : ok1 none = true := rfl
/-- one turn: what is put to the list, if any -/
def tu4 (vs : List Nat) (o : Option (D × VEnv)) : Option (Option D × VEnv) := o.map fun z => (some z.1, wipeE z.2 vs)
def tu3 (vs : List Nat) (o : Option (EV × VEnv)) : Option (Option D × VEnv) := o.bind fun q => tu4 vs (freeze q.1 q.2)
def tu2 (vs : List Nat) (m : M) (o : Option (Bool × VEnv)) : Option (Option D × VEnv) := o.bind fun p => if p.1 = true then tu3 vs (m p.2) else some (none, wipeE p.2 vs)
def tu1 (vs : List Nat) (tt : MB) (m : M) (o : Option VEnv) : Option (Option D × VEnv) := o.bind fun Γ => tu2 vs m (tt Γ)
def turn (vs : List Nat) (g : MG) (tt : MB) (m : M) (d : D) (Γ : VEnv) : Option (Option D × VEnv) := tu1 vs tt m (g (.val d) Γ)
@[simp] theorem turn_e {vs : List Nat} : turn vs g t m d Γ = tu1 vs t m (g (.val d) Γ) := rfl
@[simp] theorem tu1_s {vs : List Nat} : tu1 vs t m (some Γ) = tu2 vs m (t Γ) := rfl
@[simp] theorem tu2_s {vs : List Nat} : tu2 vs m (some (c, Γ)) = if c = true then tu3 vs (m Γ) else some (none, wipeE Γ vs) := rfl
@[simp] theorem tu3_s {vs : List Nat} : tu3 vs (some (r, Γ)) = tu4 vs (freeze r Γ) := rfl
@[simp] theorem tu4_s {vs : List Nat} : tu4 vs (some (d, Γ)) = some (some d, wipeE Γ vs) := rfl
end
/-! operations on data -/
section
variable {i j : Int} {s t : List Nat} {xs ys : List D} {c k : Bool} {d e : D}
@[simp] theorem addD_i : addD (.int i) (.int j) = some (.val (.int (i + j))) := rfl
@[simp] theorem addD_b : addD (.int i) (.bl c) = some (.val (.int (i + if c then 1 else 0))) := rfl
@[simp] theorem addD_s : addD (.str s) (.str t) = if s.length + t.length ≤ sizeLine then some (.val (.str (s ++ t))) else none := rfl
@[simp] theorem addD_l : addD (.lst xs) (.lst ys) = if xs.length + ys.length ≤ sizeLine then some (.fresh (.lst (xs ++ ys))) else none := rfl
@[simp] theorem addD_t : addD (.tup xs) (.tup ys) = if xs.length + ys.length ≤ sizeLine then some (.val (.tup (xs ++ ys))) else none := rfl
@[simp] theorem subD_i : subD (.int i) (.int j) = some (.val (.int (i - j))) := rfl
@[simp] theorem mulD_i : mulD (.int i) (.int j) = if mulOk i j = true then some (.val (.int (i * j))) else none := rfl
@[simp] theorem mulD_s : mulD (.str s) (.int j) = if j ≤ 1000 ∧ -1000 ≤ j ∧ s.length ≤ 1000 then some (.val (.str (List.replicate j.toNat s).flatten)) else none := rfl
@[simp] theorem mulD_t : mulD (.tup xs) (.int j) = if xs ≠ [] ∧ 2 ≤ j ∧ j ≤ 1000 ∧ xs.length ≤ 1000 then some (.val (.tup (List.replicate j.toNat xs).flatten)) else none := rfl
@[simp] theorem fdivD_i : fdivD (.int i) (.int j) = if 0 < j ∧ j.natAbs.log2 < 9000 then some (.val (.int (i / j))) else none := rfl
@[simp] theorem modD_i : modD (.int i) (.int j) = if 0 < j then some (.val (.int (i % j))) else none := rfl
@[simp] theorem powD_i : powD (.int i) (.int j) = if powOk i j = true then some (.val (.int (i ^ j.toNat))) else none := rfl
@[simp] theorem negD_i : negD (.int i) = some (.val (.int (-i))) := rfl
@[simp] theorem revD_l : revD (.lst xs) = some (.fresh (.lst xs.reverse)) := rfl
@[simp] theorem revD_t : revD (.tup xs) = some (.val (.tup xs.reverse)) := rfl
@[simp] theorem revD_s : revD (.str s) = some (.val (.str s.reverse)) := rfl
@[simp] theorem ltD_i : ltD (.int i) (.int j) = some (decide (i < j)) := rfl
@[simp] theorem leD_i : leD (.int i) (.int j) = some (decide (i ≤ j)) := rfl
@[simp] theorem gtD_i : gtD (.int i) (.int j) = some (decide (j < i)) := rfl
@[simp] theorem geD_i : geD (.int i) (.int j) = some (decide (j ≤ i)) := rfl
@[simp] theorem ltD_s : ltD (.str s) (.str t) = some (decide (s < t)) := rfl
@[simp] theorem leD_s : leD (.str s) (.str t) = some (!decide (t < s)) := rfl
@[simp] theorem gtD_s : gtD (.str s) (.str t) = some (decide (t < s)) := rfl
@[simp] theorem geD_s : geD (.str s) (.str t) = some (!decide (s < t)) := rfl
@[simp] theorem isD_b : isD (.bl c) (.bl k) = some (decide (c = k)) := rfl
@[simp] theorem isD_n : isD .non .non = some true := rfl
@[simp] theorem isD_bn : isD (.bl c) .non = some false := rfl
@[simp] theorem isD_in : isD (.int i) .non = some false := rfl
@[simp] theorem isD_sn : isD (.str s) .non = some false := rfl
@[simp] theorem isD_tn : isD (.tup xs) .non = some false := rfl
@[simp] theorem isD_ln : isD (.lst xs) .non = some false := rfl
def nt1 (o : Option Bool) : Option Bool := o.map (!·)
@[simp] theorem notD_e {g : D → D → Option Bool} : notD g d e = nt1 (g d e) := rfl
@[simp] theorem nt1_s : nt1 (some c) = some (!c) := rfl
@[simp] theorem lenD_s : lenD [.str s] = some (.val (.int s.length)) := rfl
@[simp] theorem lenD_l : lenD [.lst xs] = some (.val (.int xs.length)) := rfl
@[simp] theorem lenD_t : lenD [.tup xs] = some (.val (.int xs.length)) := rfl
@[simp] theorem absD_i : absD [.int i] = some (.val (.int (if i < 0 then -i else i))) := rfl
@[simp] theorem intD_i : intD [.int i] = some (.val (.int i)) := rfl
@[simp] theorem intD_b : intD [.bl c] = some (.val (.int (if c then 1 else 0))) := rfl
@[simp] theorem maxD_2 : maxD [.int i, .int j] = some (.val (.int (if j > i then j else i))) := rfl
@[simp] theorem minD_2 : minD [.int i, .int j] = some (.val (.int (if j < i then j else i))) := rfl
theorem maxD_l {ns : List Int} (h : intsOf xs = some ns) (hn : ns ≠ []) : maxD [.lst xs] = some (.val (.int (maxI ns))) := by
  simp only [maxD, h, Option.bind_some, if_pos hn]
theorem minD_l {ns : List Int} (h : intsOf xs = some ns) (hn : ns ≠ []) : minD [.lst xs] = some (.val (.int (minI ns))) := by
  simp only [minD, h, Option.bind_some, if_pos hn]
@[simp] theorem maxD_m {ns : List Int} (hn : ns ≠ []) : maxD [.lst (ns.map D.int)] = some (.val (.int (maxI ns))) := maxD_l (intsOf_of ns) hn
@[simp] theorem minD_m {ns : List Int} (hn : ns ≠ []) : minD [.lst (ns.map D.int)] = some (.val (.int (minI ns))) := minD_l (intsOf_of ns) hn
theorem sumD_l {ns : List Int} (h : intsOf xs = some ns) : sumD [.lst xs] = some (.val (.int ns.sum)) := by
  simp only [sumD, h, Option.map_some]
@[simp] theorem sumD_m {ns : List Int} : sumD [.lst (ns.map D.int)] = some (.val (.int ns.sum)) := sumD_l (intsOf_of ns)
theorem allD_l {bs : List Bool} (h : blsOf xs = some bs) : allD [.lst xs] = some (.val (.bl (bs.all id))) := by
  simp only [allD, h, Option.map_some]
theorem anyD_l {bs : List Bool} (h : blsOf xs = some bs) : anyD [.lst xs] = some (.val (.bl (bs.any id))) := by
  simp only [anyD, h, Option.map_some]
@[simp] theorem tupleD_l : tupleD [.lst xs] = some (.val (.tup xs)) := rfl
@[simp] theorem listD_l : listD [.lst xs] = some (.fresh (.lst xs)) := rfl
@[simp] theorem listD_t : listD [.tup xs] = some (.fresh (.lst xs)) := rfl
@[simp] theorem tupleD_t : tupleD [.tup xs] = some (.val (.tup xs)) := rfl
theorem isi_e {n : String} {u : String} (h : tyOf d = some u) : isiD [d, .ty n] = if n ∈ ["int", "bool", "str", "list", "tuple", "dict"] then some (.val (.bl (u == n || (u == "bool" && n == "int")))) else none := by
  simp only [isiD, h, Option.bind_some]
@[simp] theorem isi_i {n : String} : isiD [.int i, .ty n] = if n ∈ ["int", "bool", "str", "list", "tuple", "dict"] then some (.val (.bl ("int" == n || ("int" == "bool" && n == "int")))) else none := rfl
@[simp] theorem isi_b {n : String} : isiD [.bl c, .ty n] = if n ∈ ["int", "bool", "str", "list", "tuple", "dict"] then some (.val (.bl ("bool" == n || ("bool" == "bool" && n == "int")))) else none := rfl
@[simp] theorem isi_s {n : String} : isiD [.str s, .ty n] = if n ∈ ["int", "bool", "str", "list", "tuple", "dict"] then some (.val (.bl ("str" == n || ("str" == "bool" && n == "int")))) else none := rfl
@[simp] theorem isi_l {n : String} : isiD [.lst xs, .ty n] = if n ∈ ["int", "bool", "str", "list", "tuple", "dict"] then some (.val (.bl ("list" == n || ("list" == "bool" && n == "int")))) else none := rfl
@[simp] theorem isi_t {n : String} : isiD [.tup xs, .ty n] = if n ∈ ["int", "bool", "str", "list", "tuple", "dict"] then some (.val (.bl ("tuple" == n || ("tuple" == "bool" && n == "int")))) else none := rfl
@[simp] theorem isi_n {n : String} : isiD [.non, .ty n] = if n ∈ ["int", "bool", "str", "list", "tuple", "dict"] then some (.val (.bl ("NoneType" == n || ("NoneType" == "bool" && n == "int")))) else none := rfl
def ix1 (o : Option D) : Option EV := o.map .val
def ix2 (o : Option Nat) : Option EV := o.map fun c => .val (.str [c])
@[simp] theorem ixD_l : ixD (.lst xs) (.int i) = ix1 (atI xs i) := rfl
@[simp] theorem ixD_t : ixD (.tup xs) (.int i) = ix1 (atI xs i) := rfl
@[simp] theorem ixD_s : ixD (.str s) (.int i) = ix2 (atI s i) := rfl
@[simp] theorem ix1_s : ix1 (some d) = some (.val d) := rfl
@[simp] theorem ix2_s {c : Nat} : ix2 (some c) = some (.val (.str [c])) := rfl
@[simp] theorem g1S_s {f : List Nat → List Nat → D} : g1S f (.str s) [.str t] = some (.val (f s t)) := rfl
@[simp] theorem inD_s {c : Nat} : inD (.str [c]) (.str t) = some (decide (c ∈ t)) := rfl
@[simp] theorem gAppend_s : gAppend xs [d] = if xs.length < sizeLine then some (.non, xs ++ [d]) else none := rfl
def gp1 (cs : List D) (o : Option D) : Option (D × List D) := o.map fun d => (d, cs)
@[simp] theorem gPop_s : gPop xs [] = gp1 xs.dropLast xs[xs.length - 1]? := rfl
@[simp] theorem gp1_s : gp1 xs (some d) = some (d, xs) := rfl
@[simp] theorem gReverse_s : gReverse xs [] = some (.non, xs.reverse) := rfl
@[simp] theorem gClear_s : gClear xs [] = some (.non, []) := rfl
end
end VS

set_option Elab.async false
set_option linter.all false
set_option maxRecDepth 100000
set_option maxHeartbeats 4000000
/-! ### plain reasoning over mirrors -/
namespace VS
open PySem L2 PyProof.Rows

/-- a cell that holds a value, or nothing -/
def cel : Option D → Cell
  | none => .un
  | some d => .val d
@[simp] theorem unlend_val (n : Nat) (st : List SC) (d : D) : unlend n st (.val d) = .val d := rfl
@[simp] theorem unlend_un (n : Nat) (st : List SC) : unlend n st .un = .un := rfl
@[simp] theorem unlend_own (n : Nat) (st : List SC) (d : D) : unlend n st (.own d) = .own d := rfl
@[simp] theorem unlend_cel (n : Nat) (st : List SC) (o : Option D) : unlend n st (cel o) = cel o := by cases o <;> rfl
@[simp] theorem unlend_par (n : Nat) (st : List SC) (k : Nat) : unlend n st (.par k) = if k < n then .par k else match st[k]? with
    | some (.own d) => .own d
    | some (.frz d) => .val d
    | none => .un := rfl
/-- a cell that holds an own object, or nothing -/
def oce : Option D → Cell
  | none => .un
  | some d => .own d
@[simp] theorem unlend_oce (n : Nat) (st : List SC) (o : Option D) : unlend n st (oce o) = oce o := by cases o <;> rfl
@[simp] theorem oce_some (d : D) : oce (some d) = .own d := rfl
@[simp] theorem oce_none : oce none = .un := rfl
@[simp] theorem cel_some (d : D) : cel (some d) = .val d := rfl
@[simp] theorem cel_none : cel none = .un := rfl
/-! small facts for the store -/
theorem st_at (st : List SC) (x : SC) : (st ++ [x])[st.length]? = some x := by simp
@[simp] theorem st_take (st : List SC) (x : SC) : (st ++ [x]).take st.length = st := by simp
@[simp] theorem st_set (st : List SC) (x y : SC) : (st ++ [x]).set st.length y = st ++ [y] := by simp
@[simp] theorem intsOf_map' (ns : List Int) : intsOf (ns.map D.int) = some ns := intsOf_of ns
@[simp] theorem strsOf_map' (ns : List (List Nat)) : strsOf (ns.map D.str) = some ns := strsOf_of ns
theorem intsOf_mapf {α : Type} (f : α → Int) (xs : List α) : intsOf (xs.map fun x => D.int (f x)) = some (xs.map f) := by
  have := intsOf_of (xs.map f)
  rwa [List.map_map] at this
theorem strsOf_mapf {α : Type} (f : α → List Nat) (xs : List α) : strsOf (xs.map fun x => D.str (f x)) = some (xs.map f) := by
  have := strsOf_of (xs.map f)
  rwa [List.map_map] at this
theorem blsOf_mapf {α : Type} (f : α → Bool) : ∀ xs : List α, blsOf (xs.map fun x => D.bl (f x)) = some (xs.map f)
  | [] => rfl
  | x :: xs => by simp only [List.map_cons, blsOf, blsOf_mapf f xs, Option.map_some]
@[simp] theorem sumD_f {α : Type} (f : α → Int) (l : List α) : sumD [.lst (l.map fun x => D.int (f x))] = some (.val (.int (l.map f).sum)) := sumD_l (intsOf_mapf f l)
@[simp] theorem maxD_f {α : Type} (f : α → Int) (l : List α) (h : l ≠ []) : maxD [.lst (l.map fun x => D.int (f x))] = some (.val (.int (maxI (l.map f)))) := maxD_l (intsOf_mapf f l) (by simpa using h)
@[simp] theorem minD_f {α : Type} (f : α → Int) (l : List α) (h : l ≠ []) : minD [.lst (l.map fun x => D.int (f x))] = some (.val (.int (minI (l.map f)))) := minD_l (intsOf_mapf f l) (by simpa using h)
@[simp] theorem allD_f {α : Type} (f : α → Bool) (l : List α) : allD [.lst (l.map fun x => D.bl (f x))] = some (.val (.bl (l.all f))) := by
  rw [allD_l (blsOf_mapf f l)]
  simp [List.all_map, Function.comp_def]
@[simp] theorem anyD_f {α : Type} (f : α → Bool) (l : List α) : anyD [.lst (l.map fun x => D.bl (f x))] = some (.val (.bl (l.any f))) := by
  rw [anyD_l (blsOf_mapf f l)]
  simp [List.any_map, Function.comp_def]
theorem sizeLine_big : 1000000 ≤ sizeLine := by decide
/-! ### sequences -/
theorem seq_nx {a b : MS} {Γ Γ' : VEnv} {r : Option (Fl × VEnv)} (h : a Γ = some (.nx, Γ')) (h2 : b Γ' = r) : mSeq a b Γ = r := by
  simp only [mSeq, h, Option.bind_some]
  exact h2
theorem seq_ret {a b : MS} {Γ Γ' : VEnv} {v : EV} (h : a Γ = some (.ret v, Γ')) : mSeq a b Γ = some (.ret v, Γ') := by
  simp only [mSeq, h, Option.bind_some]
theorem for_in {mi : MI} {g : MG} {b : MS} {Γ Γ1 : VEnv} {ds : List D} {r : Option (Fl × VEnv)} (h : mi Γ = some (ds, Γ1)) (h2 : forD g b ds Γ1 = r) : mFor mi g b Γ = r := by
  simp only [mFor, h, Option.bind_some]
  exact h2
theorem okR_in {i : Int} (h1 : -1000000 ≤ i) (h2 : i ≤ 1000000) : okR i = true := by
  have a : i.natAbs < 4611686018427387904 := by omega
  exact decide_eq_true (Nat.div_eq_of_lt a)
theorem smallI_of {i : Int} (h1 : -1000000 ≤ i) (h2 : i ≤ 1000000) : smallI i = true := by
  have a : i.natAbs < 18446744073709551616 := by omega
  exact decide_eq_true (Nat.div_eq_of_lt a)
theorem mulOk_small {i j : Int} (h1 : -1000000 ≤ i) (h2 : i ≤ 1000000) : mulOk i j = true := by
  unfold mulOk
  rw [smallI_of h1 h2]
  rfl
theorem mulOk_l {i j : Int} (h : smallI i = true) : mulOk i j = true := by
  unfold mulOk
  rw [h]
  rfl
theorem mulOk_r {i j : Int} (h : smallI j = true) : mulOk i j = true := by
  unfold mulOk
  rw [h, Bool.or_true]
  rfl
theorem miR1_eq {ml : ML} {Γ Γ1 : VEnv} {j : Int} (h : ml Γ = some ([.val (.int j)], Γ1)) (hj : okR j = true) : miR1 ml Γ = some (rangeD 0 j.toNat, Γ1) := by
  unfold miR1
  rw [h]
  exact if_pos hj
theorem miR2_eq {ml : ML} {Γ Γ1 : VEnv} {i j : Int} (h : ml Γ = some ([.val (.int i), .val (.int j)], Γ1)) (hi : okR i = true) (hj : okR j = true) : miR2 ml Γ = some (rangeD i (j - i).toNat, Γ1) := by
  unfold miR2
  rw [h]
  exact if_pos ⟨hi, hj⟩
theorem miR3_eq {ml : ML} {Γ Γ1 : VEnv} {i j : Int} (h : ml Γ = some ([.val (.int i), .val (.int j), .val (.int (-1))], Γ1)) (hi : okR i = true) (hj : okR j = true) : miR3 ml Γ = some (rangeDC i (-1) (i - j).toNat, Γ1) := by
  unfold miR3
  rw [h]
  exact if_pos ⟨rfl, hi, hj⟩
/-- range(n), range(a, b) of small numbers -/
theorem miR1_n {ml : ML} {Γ Γ1 : VEnv} {j : Int} (n : Nat) (h : ml Γ = some ([.val (.int j)], Γ1)) (hj : j = n) (hn : n ≤ 1000000) : miR1 ml Γ = some (rangeD 0 n, Γ1) := by
  have := miR1_eq h (okR_in (by omega) (by omega))
  rw [this]
  congr 2
  subst hj
  rfl
theorem miR2_n {ml : ML} {Γ Γ1 : VEnv} {i j : Int} (n : Nat) (h : ml Γ = some ([.val (.int i), .val (.int j)], Γ1)) (hj : (j - i).toNat = n) (h1 : -1000000 ≤ i) (h2 : i ≤ 1000000) (h3 : -1000000 ≤ j) (h4 : j ≤ 1000000) : miR2 ml Γ = some (rangeD i n, Γ1) := by
  rw [miR2_eq h (okR_in h1 h2) (okR_in h3 h4), hj]
theorem asg_in {m : M} {g : MG} {Γ Γ1 Γ2 : VEnv} {r : EV} (h : m Γ = some (r, Γ1)) (h2 : g r Γ1 = some Γ2) : mAsg m g Γ = some (.nx, Γ2) := by
  simp only [mAsg, h, Option.bind_some, h2, Option.map_some]
theorem if_in {t : MB} {a b : MS} {Γ Γ1 : VEnv} {c : Bool} {r : Option (Fl × VEnv)} (h : t Γ = some (c, Γ1)) (h2 : (if c = true then a Γ1 else b Γ1) = r) : mIfS t a b Γ = r := by
  simp only [mIfS, h, Option.bind_some]
  exact h2
theorem ret_in {m : M} {Γ Γ1 : VEnv} {r : EV} (h : m Γ = some (r, Γ1)) : mRet m Γ = some (.ret r, Γ1) := by
  simp only [mRet, h, Option.map_some]
theorem def_ret {p n : Nat} {m : MS} {cells : List Cell} {st st' : List SC} {Γ' : VEnv} {v r : EV} (hl : cells.length = p := by rfl) (h : m ⟨cells ++ List.replicate (n - p) .un, st⟩ = some (.ret v, Γ')) (h2 : retEV v Γ' = some (r, st')) : defOf p n m cells st = some (r, st') := by
  simp only [defOf, hl, if_true, h, Option.bind_some, h2]
theorem def_val {p n : Nat} {m : MS} {cells : List Cell} {st st' : List SC} {d : D} (hl : cells.length = p) (h : ∃ sl, m ⟨cells ++ List.replicate (n - p) .un, st⟩ = some (.ret (.val d), ⟨sl, st'⟩)) : defOf p n m cells st = some (.val d, st') := by
  obtain ⟨sl, h⟩ := h
  exact def_ret hl h rfl
theorem def_nx {p n : Nat} {m : MS} {cells : List Cell} {st : List SC} {Γ' : VEnv} (hl : cells.length = p := by rfl) (h : m ⟨cells ++ List.replicate (n - p) .un, st⟩ = some (.nx, Γ')) : defOf p n m cells st = some (.val .non, Γ'.st) := by
  simp only [defOf, hl, if_true, h, Option.bind_some]
/-! ### for -/
theorem forD_inv {g : MG} {b : MS} (S : Nat → VEnv → Prop) (ds : List D) (h : ∀ i (hi : i < ds.length) Γ, S i Γ → ∃ Γ1 Γ2, g (.val ds[i]) Γ = some Γ1 ∧ (b Γ1 = some (.nx, Γ2) ∨ b Γ1 = some (.cont, Γ2)) ∧ S (i + 1) Γ2) {Γ : VEnv} (h0 : S 0 Γ) :
    ∃ Γ', forD g b ds Γ = some (.nx, Γ') ∧ S ds.length Γ' := by
  have : ∀ k (i : Nat) Γ, ds.length - i = k → i ≤ ds.length → S i Γ → ∃ Γ', forD g b (ds.drop i) Γ = some (.nx, Γ') ∧ S ds.length Γ' := by
    intro k
    induction k with
    | zero =>
      intro i Γ hk hi hs
      have e : i = ds.length := by omega
      subst e
      rw [List.drop_length]
      exact ⟨Γ, rfl, hs⟩
    | succ k ih =>
      intro i Γ hk hi hs
      have hlt : i < ds.length := by omega
      obtain ⟨Γ1, Γ2, h1, h2, h3⟩ := h i hlt Γ hs
      obtain ⟨Γ', h4, h5⟩ := ih (i + 1) Γ2 (by omega) hlt h3
      refine ⟨Γ', ?_, h5⟩
      rw [List.drop_eq_getElem_cons hlt]
      simp only [forD, h1, Option.bind_some]
      rcases h2 with h2 | h2 <;> (rw [h2]; exact h4)
  have := this _ 0 Γ rfl (Nat.zero_le _) h0
  simpa using this
/-- each turn goes on, or one gives an answer -/
theorem forD_all {g : MG} {b : MS} (S : VEnv → Prop) (R : VEnv → Prop) (r : EV) (ds : List D) (good : Nat → Bool)
    (h1 : ∀ i (hi : i < ds.length) Γ, S Γ → good i = true → ∃ Γ1 Γ2, g (.val ds[i]) Γ = some Γ1 ∧ b Γ1 = some (.nx, Γ2) ∧ S Γ2)
    (h2 : ∀ i (hi : i < ds.length) Γ, S Γ → good i = false → ∃ Γ1 Γ2, g (.val ds[i]) Γ = some Γ1 ∧ b Γ1 = some (.ret r, Γ2) ∧ R Γ2) {Γ : VEnv} (h0 : S Γ) :
    ((List.range ds.length).all good = true ∧ ∃ Γ', forD g b ds Γ = some (.nx, Γ') ∧ S Γ') ∨ ((List.range ds.length).all good = false ∧ ∃ Γ', forD g b ds Γ = some (.ret r, Γ') ∧ R Γ') := by
  have : ∀ k (i : Nat) Γ, ds.length - i = k → i ≤ ds.length → S Γ → ((∀ j, i ≤ j → j < ds.length → good j = true) ∧ ∃ Γ', forD g b (ds.drop i) Γ = some (.nx, Γ') ∧ S Γ') ∨ ((∃ j, i ≤ j ∧ j < ds.length ∧ good j = false) ∧ ∃ Γ', forD g b (ds.drop i) Γ = some (.ret r, Γ') ∧ R Γ') := by
    intro k
    induction k with
    | zero =>
      intro i Γ hk hi hs
      have e : i = ds.length := by omega
      subst e
      rw [List.drop_length]
      exact .inl ⟨fun j h1 h2 => by omega, Γ, rfl, hs⟩
    | succ k ih =>
      intro i Γ hk hi hs
      have hlt : i < ds.length := by omega
      rw [List.drop_eq_getElem_cons hlt]
      cases hg : good i with
      | true =>
        obtain ⟨Γ1, Γ2, e1, e2, e3⟩ := h1 i hlt Γ hs hg
        simp only [forD, e1, Option.bind_some, e2]
        rcases ih (i + 1) Γ2 (by omega) hlt e3 with ⟨a, q⟩ | ⟨⟨j, a1, a2, a3⟩, q⟩
        · refine .inl ⟨fun j h3 h4 => ?_, q⟩
          by_cases e : j = i
          · rw [e]; exact hg
          · exact a j (by omega) h4
        · exact .inr ⟨⟨j, by omega, a2, a3⟩, q⟩
      | false =>
        obtain ⟨Γ1, Γ2, e1, e2, e3⟩ := h2 i hlt Γ hs hg
        simp only [forD, e1, Option.bind_some, e2]
        exact .inr ⟨⟨i, Nat.le_refl _, hlt, hg⟩, Γ2, rfl, e3⟩
  rcases this _ 0 Γ rfl (Nat.zero_le _) h0 with ⟨a, q⟩ | ⟨⟨j, a1, a2, a3⟩, q⟩
  · rw [List.drop_zero] at q
    exact .inl ⟨by rw [List.all_eq_true]; intro j hj; exact a j (Nat.zero_le _) (List.mem_range.mp hj), q⟩
  · rw [List.drop_zero] at q
    refine .inr ⟨?_, q⟩
    rw [List.all_eq_false]
    exact ⟨j, List.mem_range.mpr a2, by rw [a3]; decide⟩
theorem forD_good {g : MG} {b : MS} (S : VEnv → Prop) (r : EV) (ds : List D) (good : Nat → Bool)
    (h : ∀ i (hi : i < ds.length) Γ, S Γ → ∃ Γ1 Γ2, g (.val ds[i]) Γ = some Γ1 ∧ b Γ1 = some (if good i = true then .nx else .ret r, Γ2) ∧ S Γ2) {Γ : VEnv} (h0 : S Γ) :
    ∃ Γ', forD g b ds Γ = some (if (List.range ds.length).all good = true then .nx else .ret r, Γ') ∧ S Γ' := by
  rcases forD_all (g := g) (b := b) S S r ds good (fun i hi Γ hs hg => by
      obtain ⟨Γ1, Γ2, e1, e2, e3⟩ := h i hi Γ hs
      rw [if_pos hg] at e2
      exact ⟨Γ1, Γ2, e1, e2, e3⟩) (fun i hi Γ hs hg => by
      obtain ⟨Γ1, Γ2, e1, e2, e3⟩ := h i hi Γ hs
      rw [if_neg (by rw [hg]; decide)] at e2
      exact ⟨Γ1, Γ2, e1, e2, e3⟩) h0 with ⟨a, Γ', e, q⟩ | ⟨a, Γ', e, q⟩
  · exact ⟨Γ', by rw [if_pos a]; exact e, q⟩
  · exact ⟨Γ', by rw [if_neg (by rw [a]; decide)]; exact e, q⟩
@[simp] theorem rangeD_length (lo : Int) (n : Nat) : (rangeD lo n).length = n := by simp [rangeD]
@[simp] theorem rangeD_get (lo : Int) (n i : Nat) (h : i < (rangeD lo n).length) : (rangeD lo n)[i] = .int (lo + (i : Nat)) := by simp [rangeD]
@[simp] theorem signsD_length (s : List Nat) : (signsD s).length = s.length := by simp [signsD]
@[simp] theorem signsD_get (s : List Nat) (i : Nat) (h : i < (signsD s).length) : (signsD s)[i] = .str [s[i]'(by simpa using h)] := by simp [signsD]
@[simp] theorem enumD_length (ds : List D) : (enumD ds).length = ds.length := by simp [enumD]
@[simp] theorem enumD_getE (ds : List D) (i : Nat) (h : i < (enumD ds).length) : (enumD ds)[i] = .tup [.int (i : Nat), ds[i]'(by simpa using h)] := by simp [enumD]
/-! ### while -/
theorem whileD_inv {t : MB} {b : MS} (S : Nat → VEnv → Prop) (h : ∀ k Γ, S k Γ → (∃ Γ1, t Γ = some (false, Γ1) ∧ S 0 Γ1) ∨ ∃ Γ1 Γ2 k', t Γ = some (true, Γ1) ∧ (b Γ1 = some (.nx, Γ2) ∨ b Γ1 = some (.cont, Γ2)) ∧ k' < k ∧ S k' Γ2) : ∀ (n k : Nat) (Γ : VEnv), k < n → S k Γ → ∃ k' Γ1 Γ', S k' Γ1 ∧ t Γ1 = some (false, Γ') ∧ S 0 Γ' ∧ whileD t b n Γ = some (.nx, Γ')
  | 0, k, Γ, hk, _ => by omega
  | n + 1, k, Γ, hk, hs => by
    rcases h k Γ hs with ⟨Γ1, e1, e2⟩ | ⟨Γ1, Γ2, k', e1, e2, e3, e4⟩
    · exact ⟨k, Γ, Γ1, hs, e1, e2, by simp [whileD, e1]⟩
    · obtain ⟨k2, G1, G', a1, a2, a3, a4⟩ := whileD_inv S h n k' Γ2 (by omega) e4
      refine ⟨k2, G1, G', a1, a2, a3, ?_⟩
      rcases e2 with e2 | e2 <;> simp [whileD, e1, e2, a4]
/-! ### comprehensions -/
theorem lcD_turn {vs : List Nat} {g : MG} {tt : MB} {m : M} {d : D} {ds acc : List D} {Γ : VEnv} (hl : acc.length < sizeLine) : lcD vs g tt m (d :: ds) acc Γ = (turn vs g tt m d Γ).bind fun p => match p.1 with
    | some x => lcD vs g tt m ds (acc ++ [x]) p.2
    | none => lcD vs g tt m ds acc p.2 := by
  simp only [lcD, turn, tu1, tu2, tu3, tu4]
  cases g (.val d) Γ with
  | none => rfl
  | some Γ1 =>
    simp only [Option.bind_some]
    cases tt Γ1 with
    | none => rfl
    | some p =>
      simp only [Option.bind_some]
      split
      · cases m p.2 with
        | none => rfl
        | some q =>
          simp only [Option.bind_some]
          cases freeze q.1 q.2 with
          | none => rfl
          | some z => simp only [Option.bind_some, Option.map_some, if_pos hl]
      · rfl
theorem lcD_map {α : Type} {vs : List Nat} {g : MG} {tt : MB} {m : M} {Γ : VEnv} (f : α → D) (b : α → Bool) (h : α → D) : ∀ (xs : List α) (acc : List D), (∀ x ∈ xs, turn vs g tt m (f x) Γ = some (if b x = true then some (h x) else none, Γ)) → acc.length + xs.length ≤ sizeLine →
    lcD vs g tt m (xs.map f) acc Γ = some (acc ++ (xs.filter b).map h, Γ)
  | [], acc, _, _ => by simp [lcD]
  | x :: xs, acc, hh, hl => by
    simp only [List.length_cons] at hl
    rw [List.map_cons, lcD_turn (by omega), hh x List.mem_cons_self]
    simp only [Option.bind_some]
    by_cases hb : b x = true
    · simp only [if_pos hb]
      rw [lcD_map f b h xs _ (fun y hy => hh y (List.mem_cons_of_mem _ hy)) (by simp; omega)]
      simp [List.filter_cons, hb]
    · simp only [if_neg hb]
      rw [lcD_map f b h xs _ (fun y hy => hh y (List.mem_cons_of_mem _ hy)) (by omega)]
      simp [List.filter_cons, hb]
theorem wipeE_at {Γ : VEnv} {i : Nat} : ∀ vs : List Nat, (wipeE Γ vs).sl[i]? = if i ∈ vs ∧ i < Γ.sl.length then some .un else Γ.sl[i]?
  | [] => by simp [wipeE]
  | v :: vs => by
    simp only [wipeE, setCell]
    by_cases e : i = v
    · subst e
      by_cases hl : i < Γ.sl.length
      · rw [List.getElem?_set_self (by rw [wipeE_len]; exact hl), if_pos ⟨List.mem_cons_self, hl⟩]
      · rw [List.getElem?_eq_none_iff.mpr (by simp [wipeE_len]; omega), if_neg fun z => hl z.2, List.getElem?_eq_none_iff.mpr (by omega)]
    · rw [List.getElem?_set_ne (Ne.symm e), wipeE_at vs]
      simp [e]
theorem wipeE_st {Γ : VEnv} : ∀ vs : List Nat, (wipeE Γ vs).st = Γ.st
  | [] => rfl
  | v :: vs => by simp only [wipeE, setCell]; exact wipeE_st vs
theorem back_wipe (Γ : VEnv) (vs : List Nat) : backE Γ (wipeE Γ vs) vs = Γ := by
  have h1 : (backE Γ (wipeE Γ vs) vs).st = Γ.st := by rw [backE_st, wipeE_st]
  have h2 : (backE Γ (wipeE Γ vs) vs).sl = Γ.sl := by
    apply List.ext_getElem?
    intro i
    rw [backE_at (by rw [wipeE_len]), wipeE_at]
    by_cases hi : i ∈ vs
    · rw [if_pos hi]
    · rw [if_neg hi, if_neg fun z => hi z.1]
  cases Γ
  generalize backE _ _ _ = G at h1 h2
  cases G
  simp only at h1 h2
  subst h1 h2
  rfl
theorem mLc_map {α : Type} {vs : List Nat} {mi : MI} {g : MG} {tt : MB} {m : M} {Γ Γ1 : VEnv} (f : α → D) (xs : List α) (b : α → Bool) (h : α → D) (hi : mi Γ = some (xs.map f, Γ1)) (ok : okW Γ1 vs = true) (hl : xs.length ≤ sizeLine)
    (hh : ∀ x ∈ xs, turn vs g tt m (f x) (wipeE Γ1 vs) = some (if b x = true then some (h x) else none, wipeE Γ1 vs)) : mLc vs mi g tt m Γ = some (.fresh (.lst ((xs.filter b).map h)), Γ1) := by
  simp only [mLc, hi, Option.bind_some, if_pos ok]
  rw [lcD_map f b h xs [] hh (by simpa using hl)]
  simp only [Option.map_some, List.nil_append, back_wipe]
/-- no test -/
theorem mLc_all {α : Type} {vs : List Nat} {mi : MI} {g : MG} {tt : MB} {m : M} {Γ Γ1 : VEnv} (f : α → D) (xs : List α) (h : α → D) (hi : mi Γ = some (xs.map f, Γ1)) (ok : okW Γ1 vs = true) (hl : xs.length ≤ sizeLine)
    (hh : ∀ x ∈ xs, turn vs g tt m (f x) (wipeE Γ1 vs) = some (some (h x), wipeE Γ1 vs)) : mLc vs mi g tt m Γ = some (.fresh (.lst (xs.map h)), Γ1) := by
  have := mLc_map f xs (fun _ => true) h hi ok hl (by simpa using hh)
  rwa [List.filter_eq_self.mpr (fun _ _ => rfl)] at this
theorem mLc_map0 {α : Type} {vs : List Nat} {mi : MI} {g : MG} {tt : MB} {m : M} {Γ : VEnv} (f : α → D) (xs : List α) (b : α → Bool) (h : α → D) (hi : mi Γ = some (xs.map f, Γ)) (ok : okW Γ vs = true) (hl : xs.length ≤ sizeLine)
    (hh : ∀ x ∈ xs, turn vs g tt m (f x) (wipeE Γ vs) = some (if b x = true then some (h x) else none, wipeE Γ vs)) : mLc vs mi g tt m Γ = some (.fresh (.lst ((xs.filter b).map h)), Γ) := mLc_map f xs b h hi ok hl hh
theorem mLc_all0 {α : Type} {vs : List Nat} {mi : MI} {g : MG} {tt : MB} {m : M} {Γ : VEnv} (f : α → D) (xs : List α) (h : α → D) (hi : mi Γ = some (xs.map f, Γ)) (ok : okW Γ vs = true) (hl : xs.length ≤ sizeLine)
    (hh : ∀ x ∈ xs, turn vs g tt m (f x) (wipeE Γ vs) = some (some (h x), wipeE Γ vs)) : mLc vs mi g tt m Γ = some (.fresh (.lst (xs.map h)), Γ) := mLc_all f xs h hi ok hl hh
theorem lc2D_map {α β : Type} {vs vs1 : List Nat} {g : MG} {tt : MB} {mi1 : MI} {g1 : MG} {tt1 : MB} {m : M} {Γ : VEnv} (f : α → D) (f1 : β → D) (ys : α → List β) (b1 : α → β → Bool) (h1 : α → β → D) : ∀ (xs : List α) (acc : List D),
    (∀ x ∈ xs, ∃ Γ1 Γ2 Γ3, g (.val (f x)) Γ = some Γ1 ∧ tt Γ1 = some (true, Γ2) ∧ mi1 Γ2 = some ((ys x).map f1, Γ3) ∧ (∀ y ∈ ys x, turn vs1 g1 tt1 m (f1 y) (wipeE Γ3 vs1) = some (if b1 x y = true then some (h1 x y) else none, wipeE Γ3 vs1)) ∧ wipeE (wipeE Γ3 vs1) vs = Γ) →
    acc.length + (xs.flatMap ys).length ≤ sizeLine → lc2D vs vs1 g tt mi1 g1 tt1 m (xs.map f) acc Γ = some (acc ++ xs.flatMap (fun x => ((ys x).filter (b1 x)).map (h1 x)), Γ)
  | [], acc, _, _ => by simp [lc2D]
  | x :: xs, acc, hh, hl => by
    obtain ⟨Γ1, Γ2, Γ3, e1, e2, e3, e4, e5⟩ := hh x List.mem_cons_self
    rw [List.flatMap_cons, List.length_append] at hl
    simp only [List.map_cons, lc2D, e1, Option.bind_some, e2, if_true, e3]
    rw [lcD_map f1 (b1 x) (h1 x) (ys x) acc e4 (by omega)]
    simp only [Option.bind_some, e5]
    rw [lc2D_map f f1 ys b1 h1 xs _ (fun y hy => hh y (List.mem_cons_of_mem _ hy))]
    · simp [List.flatMap_cons]
    · have := List.length_filter_le (b1 x) (ys x)
      simp only [List.length_append, List.length_map]
      omega
theorem mLc2_map {α β : Type} {vs vs1 : List Nat} {mi : MI} {g : MG} {tt : MB} {mi1 : MI} {g1 : MG} {tt1 : MB} {m : M} {Γ Γ1 : VEnv} (f : α → D) (xs : List α) (f1 : β → D) (ys : α → List β) (b1 : α → β → Bool) (h1 : α → β → D) (hi : mi Γ = some (xs.map f, Γ1)) (ok : okW Γ1 vs = true) (hl : (xs.flatMap ys).length ≤ sizeLine)
    (hh : ∀ x ∈ xs, ∃ Γ2 Γ3 Γ4, g (.val (f x)) (wipeE Γ1 vs) = some Γ2 ∧ tt Γ2 = some (true, Γ3) ∧ mi1 Γ3 = some ((ys x).map f1, Γ4) ∧ (∀ y ∈ ys x, turn vs1 g1 tt1 m (f1 y) (wipeE Γ4 vs1) = some (if b1 x y = true then some (h1 x y) else none, wipeE Γ4 vs1)) ∧ wipeE (wipeE Γ4 vs1) vs = wipeE Γ1 vs) :
    mLc2 vs vs1 mi g tt mi1 g1 tt1 m Γ = some (.fresh (.lst (xs.flatMap (fun x => ((ys x).filter (b1 x)).map (h1 x)))), Γ1) := by
  simp only [mLc2, hi, Option.bind_some, if_pos ok]
  rw [lc2D_map f f1 ys b1 h1 xs [] hh (by simpa using hl)]
  simp only [Option.map_some, List.nil_append, back_wipe]
/-! places, slices, == -/
theorem atI_nn {α : Type} (xs : List α) (i : Int) (h : 0 ≤ i) : atI xs i = xs[i.toNat]? := by
  unfold atI ixN
  rw [if_pos h]
  split
  · rfl
  · rename_i hn
    rw [List.getElem?_eq_none_iff.mpr (by omega)]
    rfl
@[simp] theorem atN {α : Type} (xs : List α) (i : Nat) : atI xs (i : Int) = xs[i]? := by rw [atI_nn _ _ (by omega)]; simp
@[simp] theorem atI_0 {α : Type} (xs : List α) : atI xs 0 = xs[0]? := atN xs 0
@[simp] theorem atI_1 {α : Type} (xs : List α) : atI xs 1 = xs[1]? := atN xs 1
@[simp] theorem atI_2 {α : Type} (xs : List α) : atI xs 2 = xs[2]? := atN xs 2
theorem atLast {α : Type} (xs : List α) : atI xs (-1) = xs.getLast? := by
  unfold atI ixN
  rw [if_neg (by decide), List.getLast?_eq_getElem?]
  split
  · simp only [Option.bind_some]
    congr 1
    omega
  · rw [List.getElem?_eq_none_iff.mpr (by omega)]
    rfl
@[simp] theorem cutL_ab {α : Type} (xs : List α) (a b : Nat) : cutL xs (some (a : Int)) (some (b : Int)) = (xs.drop a).take (b - a) := by
  unfold cutL
  rw [HT.sIx_nat, HT.sIx_nat]
  apply List.ext_getElem?
  intro i
  simp only [List.getElem?_take, List.getElem?_drop]
  split <;> split
  · congr 1; omega
  · rw [List.getElem?_eq_none_iff.mpr (by omega)]
  · rw [List.getElem?_eq_none_iff.mpr (by omega)]
  · rfl
@[simp] theorem cutL_b {α : Type} (xs : List α) (b : Nat) : cutL xs none (some (b : Int)) = xs.take b := by
  unfold cutL
  rw [HT.sIx_nat, HT.sIx_none, List.drop_zero, Nat.sub_zero]
  apply List.ext_getElem?
  intro i
  simp only [List.getElem?_take]
  split <;> split
  · rfl
  · omega
  · rw [List.getElem?_eq_none_iff.mpr (by omega)]
  · rfl
@[simp] theorem cutL_a {α : Type} (xs : List α) (a : Nat) : cutL xs (some (a : Int)) none = xs.drop a := by
  unfold cutL
  rw [HT.sIx_nat, HT.sIx_none]
  apply List.ext_getElem?
  intro i
  simp only [List.getElem?_take, List.getElem?_drop]
  split
  · congr 1; omega
  · rw [List.getElem?_eq_none_iff.mpr (by omega)]
@[simp] theorem cutL_0 {α : Type} (xs : List α) : cutL xs none none = xs := by
  unfold cutL
  simp [HT.sIx_none]
@[simp] theorem dpt_int (n : Nat) (i : Int) : dpt n (.int i) = true := by cases n <;> rfl
@[simp] theorem dpt_str (n : Nat) (i : List Nat) : dpt n (.str i) = true := by cases n <;> rfl
@[simp] theorem dpt_bl (n : Nat) (i : Bool) : dpt n (.bl i) = true := by cases n <;> rfl
@[simp] theorem dpt_non (n : Nat) : dpt n .non = true := by cases n <;> rfl
theorem dpt_lst (n : Nat) (xs : List D) : dpt (n + 1) (.lst xs) = xs.all (dpt n) := rfl
theorem dpt_tup (n : Nat) (xs : List D) : dpt (n + 1) (.tup xs) = xs.all (dpt n) := rfl
@[simp] theorem eqD_int (i j : Int) : eqD (.int i) (.int j) = some (i == j) := by simp [eqD, beq]
@[simp] theorem neD_int (i j : Int) : neD (.int i) (.int j) = some (i != j) := by simp [neD, beq, bne]
@[simp] theorem eqD_str (i j : List Nat) : eqD (.str i) (.str j) = some (i == j) := by simp [eqD, beq]
@[simp] theorem neD_str (i j : List Nat) : neD (.str i) (.str j) = some (i != j) := by simp [neD, beq, bne]
@[simp] theorem eqD_bl (i j : Bool) : eqD (.bl i) (.bl j) = some (i == j) := by simp [eqD, beq]
@[simp] theorem neD_bl (i j : Bool) : neD (.bl i) (.bl j) = some (i != j) := by simp [neD, beq, bne]
theorem all_dpt {α : Type} (n : Nat) (f : α → D) (h : ∀ x, dpt n (f x) = true) (xs : List α) : (xs.map f).all (dpt n) = true := by
  rw [List.all_eq_true]
  intro d hd
  obtain ⟨x, _, rfl⟩ := List.mem_map.mp hd
  exact h x
theorem beqs_map {α : Type} [BEq α] (f : α → D) (h : ∀ x y, beq (f x) (f y) = (x == y)) : ∀ xs ys : List α, beqs (xs.map f) (ys.map f) = (xs == ys)
  | [], [] => rfl
  | [], _ :: _ => rfl
  | _ :: _, [] => rfl
  | x :: xs, y :: ys => by
    simp only [List.map_cons, beqs, h, beqs_map f h xs ys]
    rfl
theorem eqL {α : Type} [BEq α] (f : α → D) (hd : ∀ x, dpt 59 (f x) = true) (h : ∀ x y, beq (f x) (f y) = (x == y)) (xs ys : List α) : eqD (.lst (xs.map f)) (.lst (ys.map f)) = some (xs == ys) := by
  unfold eqD
  rw [if_pos ⟨all_dpt 59 f hd xs, all_dpt 59 f hd ys⟩]
  simp only [beq, beqs_map f h]
theorem eqT {α : Type} [BEq α] (f : α → D) (hd : ∀ x, dpt 59 (f x) = true) (h : ∀ x y, beq (f x) (f y) = (x == y)) (xs ys : List α) : eqD (.tup (xs.map f)) (.tup (ys.map f)) = some (xs == ys) := by
  unfold eqD
  rw [if_pos ⟨all_dpt 59 f hd xs, all_dpt 59 f hd ys⟩]
  simp only [beq, beqs_map f h]
theorem neL {α : Type} [BEq α] (f : α → D) (hd : ∀ x, dpt 59 (f x) = true) (h : ∀ x y, beq (f x) (f y) = (x == y)) (xs ys : List α) : neD (.lst (xs.map f)) (.lst (ys.map f)) = some (!(xs == ys)) := by
  unfold neD
  rw [if_pos ⟨all_dpt 59 f hd xs, all_dpt 59 f hd ys⟩]
  simp only [beq, beqs_map f h]
theorem neT {α : Type} [BEq α] (f : α → D) (hd : ∀ x, dpt 59 (f x) = true) (h : ∀ x y, beq (f x) (f y) = (x == y)) (xs ys : List α) : neD (.tup (xs.map f)) (.tup (ys.map f)) = some (!(xs == ys)) := by
  unfold neD
  rw [if_pos ⟨all_dpt 59 f hd xs, all_dpt 59 f hd ys⟩]
  simp only [beq, beqs_map f h]
@[simp] theorem eqL_str (xs ys : List (List Nat)) : eqD (.lst (xs.map .str)) (.lst (ys.map .str)) = some (xs == ys) := eqL D.str (fun _ => by simp) (fun _ _ => by simp [beq]) xs ys
@[simp] theorem eqT_str (xs ys : List (List Nat)) : eqD (.tup (xs.map .str)) (.tup (ys.map .str)) = some (xs == ys) := eqT D.str (fun _ => by simp) (fun _ _ => by simp [beq]) xs ys
@[simp] theorem neL_str (xs ys : List (List Nat)) : neD (.lst (xs.map .str)) (.lst (ys.map .str)) = some (!(xs == ys)) := neL D.str (fun _ => by simp) (fun _ _ => by simp [beq]) xs ys
@[simp] theorem neT_str (xs ys : List (List Nat)) : neD (.tup (xs.map .str)) (.tup (ys.map .str)) = some (!(xs == ys)) := neT D.str (fun _ => by simp) (fun _ _ => by simp [beq]) xs ys
@[simp] theorem eqL_int (xs ys : List Int) : eqD (.lst (xs.map .int)) (.lst (ys.map .int)) = some (xs == ys) := eqL D.int (fun _ => by simp) (fun _ _ => by simp [beq]) xs ys
@[simp] theorem eqT_int (xs ys : List Int) : eqD (.tup (xs.map .int)) (.tup (ys.map .int)) = some (xs == ys) := eqT D.int (fun _ => by simp) (fun _ _ => by simp [beq]) xs ys
@[simp] theorem neL_int (xs ys : List Int) : neD (.lst (xs.map .int)) (.lst (ys.map .int)) = some (!(xs == ys)) := neL D.int (fun _ => by simp) (fun _ _ => by simp [beq]) xs ys
@[simp] theorem neT_int (xs ys : List Int) : neD (.tup (xs.map .int)) (.tup (ys.map .int)) = some (!(xs == ys)) := neT D.int (fun _ => by simp) (fun _ _ => by simp [beq]) xs ys
/-! join -/
theorem joinD_lst (s : List Nat) (ns : List (List Nat)) (h : (ns.map (·.length)).sum + ns.length * s.length ≤ 16777216) : joinD (.str s) [.lst (ns.map D.str)] = some (.val (.str (joinL s ns))) := by
  have e : joinD (.str s) [.lst (ns.map D.str)] = (strsOf (ns.map D.str)).bind fun ns => if (ns.map (·.length)).sum + ns.length * s.length ≤ 16777216 then some (.val (.str (joinL s ns))) else none := rfl
  rw [e, strsOf_of, Option.bind_some, if_pos h]
theorem joinL_chars : ∀ w : List Nat, joinL [] (w.map fun c => [c]) = w
  | [] => rfl
  | [x] => rfl
  | x :: y :: r => by
    have := joinL_chars (y :: r)
    simp only [List.map_cons] at this ⊢
    simp [joinL, this]
theorem sum_ones {α : Type} : ∀ xs : List α, (xs.map fun _ => 1).sum = xs.length
  | [] => rfl
  | x :: xs => by simp only [List.map_cons, List.sum_cons, List.length_cons, sum_ones xs]; omega
theorem joinD_chars {α : Type} (f : α → Nat) (xs : List α) (h : xs.length ≤ 16777216) : joinD (.str []) [.lst (xs.map fun x => D.str [f x])] = some (.val (.str (xs.map f))) := by
  have e : (xs.map fun x => D.str [f x]) = ((xs.map f).map fun c => [c]).map D.str := by simp [Function.comp_def]
  rw [e, joinD_lst, joinL_chars]
  have : (((xs.map f).map fun c => [c]).map (·.length)) = xs.map fun _ => 1 := by simp [Function.comp_def]
  rw [this, sum_ones]
  simpa using h
/-! texts of one letter -/
theorem occ1 (s : List Nat) (c : Nat) : ∀ (l : List Nat) (acc : Array Nat) (free limit : Nat), (∀ i ∈ l, free ≤ i) → l.Pairwise (· < ·) → acc.size + l.length ≤ limit →
    (forIn (m := Id) l (acc, free) (PySem.StrLaws.occBody ⟨s.toArray⟩ ⟨#[c]⟩ s.length limit)).run.fst.size = acc.size + (l.filter fun i => s[i]? == some c).length := by
  intro l
  induction l with
  | nil => intro acc free limit _ _ _; rfl
  | cons i l ih =>
    intro acc free limit hf hp hs
    rw [List.pairwise_cons] at hp
    have hfi := hf i List.mem_cons_self
    simp only [List.length_cons] at hs
    have key : (((acc, free).fst.size < limit ∧ (acc, free).snd ≤ i) ∧ i + (⟨#[c]⟩ : Str).length ≤ s.length) ∧ Builtin.Str.subAt ⟨s.toArray⟩ ⟨#[c]⟩ i = true ↔ (s[i]? == some c) = true := by
      have h1 := PySem.StrLaws.subAt_one ⟨s.toArray⟩ c i
      have h1' : (i + (⟨#[c]⟩ : Str).length ≤ s.length ∧ Builtin.Str.subAt ⟨s.toArray⟩ ⟨#[c]⟩ i = true) ↔ s[i]? = some c := by
        simpa [Str.length] using h1
      rw [beq_iff_eq, ← h1']
      constructor
      · rintro ⟨⟨⟨_, _⟩, a⟩, b⟩; exact ⟨a, b⟩
      · rintro ⟨a, b⟩; exact ⟨⟨⟨by show acc.size < limit; omega, hfi⟩, a⟩, b⟩
    rw [List.forIn_cons]
    by_cases hc : (s[i]? == some c) = true
    · have e1 : PySem.StrLaws.occBody ⟨s.toArray⟩ ⟨#[c]⟩ s.length limit i (acc, free) = (pure (ForInStep.yield (acc.push i, i + 1)) : Id _) := by
        unfold PySem.StrLaws.occBody
        simp only [Bool.and_eq_true, decide_eq_true_eq]
        rw [if_pos (key.mpr hc)]
        rfl
      rw [e1]
      simp only [pure_bind]
      rw [ih _ _ limit (fun j hj => hp.1 j hj) hp.2 (by simp; omega)]
      simp [List.filter_cons, hc]
      omega
    · have e1 : PySem.StrLaws.occBody ⟨s.toArray⟩ ⟨#[c]⟩ s.length limit i (acc, free) = (pure (ForInStep.yield (acc, free)) : Id _) := by
        unfold PySem.StrLaws.occBody
        simp only [Bool.and_eq_true, decide_eq_true_eq]
        rw [if_neg fun z => hc (key.mp z)]
      rw [e1]
      simp only [pure_bind]
      rw [ih _ _ limit (fun j hj => hf j (List.mem_cons_of_mem _ hj)) hp.2 (by omega)]
      simp [List.filter_cons, hc]
theorem filter_range (s : List Nat) (c : Nat) : ((List.range' 0 (s.length + 1)).filter fun i => s[i]? == some c).length = s.count c := by
  have : ∀ (s : List Nat) (k : Nat) , ((List.range' k (s.length + 1)).filter fun i => s[i - k]? == some c).length = s.count c := by
    intro s
    induction s with
    | nil => intro k; simp [List.range']
    | cons x s ih =>
      intro k
      rw [List.length_cons, List.range'_succ, List.filter_cons]
      have e : (List.range' (k + 1) (s.length + 1)).filter (fun i => (x :: s)[i - k]? == some c) = (List.range' (k + 1) (s.length + 1)).filter fun i => s[i - (k + 1)]? == some c := by
        apply List.filter_congr
        intro i hi
        have := List.mem_range'_1.mp hi
        obtain ⟨j, rfl⟩ : ∃ j, i = k + 1 + j := ⟨i - (k + 1), by omega⟩
        rw [show k + 1 + j - k = j + 1 by omega, show k + 1 + j - (k + 1) = j by omega, List.getElem?_cons_succ]
      rw [e]
      simp only [Nat.sub_self, List.getElem?_cons_zero]
      rw [List.count_cons]
      by_cases h : x = c
      · subst h; simp [ih (k + 1)]
      · simp [h, ih (k + 1)]
  simpa using this s 0
theorem countS_one (s : List Nat) (c : Nat) : countS s [c] = (s.count c : Nat) := by
  unfold countS Txt.count
  rw [PySem.StrLaws.occ_eq]
  rw [Array.length_toList]
  have := occ1 s c (List.range' 0 (s.length + 1 - 0)) #[] 0 (s.length + 1) (by simp) List.pairwise_lt_range' (by simp)
  rw [Nat.sub_zero, filter_range] at this
  simp only [Str.length, List.size_toArray, Nat.sub_zero]
  rw [show ((⟨[c].toArray⟩ : Str)) = ⟨#[c]⟩ from rfl]
  rw [this]
  simp
end VS

set_option Elab.async false
set_option linter.all false
set_option maxRecDepth 100000
set_option maxHeartbeats 4000000
namespace K60
open PySem L2 PyProof.Rows VS
def top (i : Nat) : Stmt := PySem.Challenge.pw_upwide_k60_whole_even_words_counted.main.body.getD i (.Pass ⟨0, 0, 0, 0⟩)
def fuel : Nat := 1000000
structure Txt (K : PySem.W.Frag) (mg : Str → Option Value) : Prop where
  b_len : mg "len" = none
  b_int : mg "int" = none
  b_abs : mg "abs" = none
  b_max : mg "max" = none
  b_range : mg "range" = none
  b_list : mg "list" = none
  b_min : mg "min" = none
  b_isinstance : mg "isinstance" = none
  b_bool : mg "bool" = none
  b_tuple : mg "tuple" = none
  b_sum : mg "sum" = none
  b_str : mg "str" = none
  b_all : mg "all" = none
  c_MOST_LISTED : ∃ t, mg "MOST_LISTED" = some (.int 10 t)
  c_MOST_COUNTED : ∃ t, mg "MOST_COUNTED" = some (.int 200 t)
  c_MOST_EVEN : ∃ t, mg "MOST_EVEN" = some (.int 40 t)
section
variable {P : Program} {w : World} {K : PySem.W.Frag} {mg : Str → Option Value} {base : Heap}
abbrev s_law_jar : Stmt := top 21
/- _law_jar: 0 script, 1 spot, 2 cell, 3 great, 4 mixed | inout [0, 0] fresh 1 level 1 -/
def m_law_jar : MS :=
  (mSeq (mAsg (mFrz (mIf (mCmp ltD (mVar 1) (mCallB lenD (mCons (mVar 0) mNil))) (mCallB intD (mCons (mBin ixD (mVar 0) (mVar 1)) mNil)) (mBin addD (mBin mulD (mC (.int 991)) (mVar 1)) (mC (.int 97))))) (asgn 2))
  (mSeq (mAsg (mFrz (mBin modD (mCallB intD (mCons (mCallB absD (mCons (mVar 2) mNil)) mNil)) (mBin powD (mBin powD (mC (.int 10)) (mC (.int 55))) (mC (.int 5))))) (asgn 3))
  (mSeq (mAsg (mFrz (mBin addD (mBin addD (mBin addD (mBin mulD (mBin modD (mCallB intD (mCons (mVar 3) mNil)) (mC (.int 2305843009213693907))) (mC (.int 127))) (mBin mulD (mC (.int 1109)) (mVar 1))) (mBin mulD (mC (.int 71)) (mCallB intD (mCons (mOfB (mCmp ltD (mVar 2) (mC (.int 0)))) mNil)))) (mC (.int 43)))) (asgn 4))
  (mRet (mList (mCons (mCallB maxD (mCons (mC (.int 0)) (mCons (mBin subD (mVar 3) (mBin powD (mC (.int 10)) (mC (.int 17)))) mNil))) (mCons (mVar 4) (mCons (mC (.int 0)) mNil))))))))
def f_law_jar : Sem' := defOf 2 5 m_law_jar
theorem sc_law_jar : FnScope ["script", "spot", "cell", "great", "mixed"] ["script", "spot"] (defScope s_law_jar) := ⟨rfl, rfl, rfl, by decide +kernel, rfl, by decide +kernel, by decide +kernel⟩
theorem ok_law_jar {f : Addr} {fd : FuncData} (F : Fun K "_law_jar" "_law_jar" s_law_jar f fd) (T : Txt K mg) : FnOk P w K mg base CX0 1 f fd ["script", "spot"] (spV K mg 2 f_law_jar) :=
  fn_ok (N := ["script", "spot", "cell", "great", "mixed"]) (k := 0) (m := m_law_jar) F sc_law_jar fun cdv A outer s H E hr =>
  (vs_cons (vs_asg (ve_frz (ve_if (vt_op (oc_lt hr.units0) (ve_var 1) (ve_callB cx_len T.b_len (va_cons (ve_var 0) va_nil))) (ve_callTy cx_int T.b_int (va_cons (ve_ix (ve_var 0) (ve_var 1)) va_nil)) (ve_op ox_add (ve_op ox_mul ve_int (ve_var 1)) ve_int))) (vg_name 2 sc_law_jar.nd))
  (vs_cons (vs_asg (ve_frz (ve_op ox_mod (ve_callTy cx_int T.b_int (va_cons (ve_callB cx_abs T.b_abs (va_cons (ve_var 2) va_nil)) va_nil)) (ve_op ox_pow (ve_op ox_pow ve_int ve_int) ve_int))) (vg_name 3 sc_law_jar.nd))
  (vs_cons (vs_asg (ve_frz (ve_op ox_add (ve_op ox_add (ve_op ox_add (ve_op ox_mul (ve_op ox_mod (ve_callTy cx_int T.b_int (va_cons (ve_var 3) va_nil)) ve_int) ve_int) (ve_op ox_mul ve_int (ve_var 1))) (ve_op ox_mul ve_int (ve_callTy cx_int T.b_int (va_cons (ve_opc (oc_lt hr.units0) (ve_var 2) ve_int) va_nil)))) ve_int)) (vg_name 4 sc_law_jar.nd))
  (vs_one (vs_ret (ve_list (va_cons (ve_callB (cx_max rfl) T.b_max (va_cons ve_int (va_cons (ve_op ox_sub (ve_var 3) (ve_op ox_pow ve_int ve_int)) va_nil))) (va_cons (ve_var 4) (va_cons ve_int va_nil)))))))))
abbrev s_law_all_words : Stmt := top 24
/- _law_all_words: 0 letters, 1 size, 2 found, 3 turn, 4 longer, 5 word, 6 letter | inout [0, 0] fresh 0 level 1 -/
def c_law_all_words_1 : M :=
  (mLc [6] (miSeq (mVar 0)) (asgn 6) mYes (mBin addD (mVar 5) (mVar 6)))
def b_law_all_words_1 : MS :=
  (mDrop (mExt (mVar 4) c_law_all_words_1))
def b_law_all_words_2 : MS :=
  (mSeq (mAsg (mList mNil) (asgn 4))
  (mSeq (mFor (miSeq (mVar 2)) (asgn 5) b_law_all_words_1)
  (mAsg (mFrz (mCallB listD (mCons (mVar 4) mNil))) (asgn 2))))
def m_law_all_words : MS :=
  (mSeq (mAsg (mFrz (mList (mCons (mC (.str [])) mNil))) (asgn 2))
  (mSeq (mFor (miR1 (mCons (mVar 1) mNil)) (asgn 3) b_law_all_words_2)
  (mRet (mFrz (mVar 2)))))
def f_law_all_words : Sem' := defOf 2 7 m_law_all_words
theorem sc_law_all_words : FnScope ["letters", "size", "found", "turn", "longer", "word", "letter"] ["letters", "size"] (defScope s_law_all_words) := ⟨rfl, rfl, rfl, by decide +kernel, rfl, by decide +kernel, by decide +kernel⟩
theorem ok_law_all_words {f : Addr} {fd : FuncData} (F : Fun K "_law_all_words" "_law_all_words" s_law_all_words f fd) (T : Txt K mg) : FnOk P w K mg base CX0 1 f fd ["letters", "size"] (spV K mg 2 f_law_all_words) :=
  fn_ok (N := ["letters", "size", "found", "turn", "longer", "word", "letter"]) (k := 0) (m := m_law_all_words) F sc_law_all_words fun cdv A outer s H E hr =>
  (vs_cons (vs_asg (ve_frz (ve_list (va_cons (ve_str []) va_nil))) (vg_name 2 sc_law_all_words.nd))
  (vs_cons (vs_for PassesOwn.never rfl (vi_range1 T.b_range (va_cons (ve_var 1) va_nil)) (vg_name 3 sc_law_all_words.nd) (vs_cons (vs_asg (ve_list va_nil) (vg_name 4 sc_law_all_words.nd))
  (vs_cons (vs_for PassesOwn.never rfl (vi_seq (ve_var 2)) (vg_name 5 sc_law_all_words.nd) (vs_one (vs_expr (ve_extend (ve_var 4) (ve_lcE (own := [("letter", 6)]) rfl sc_law_all_words.nd (vi_seq (ve_var 0)) (blkOk_by (own := [("letter", 6)]) (N := ["letters", "size", "found", "turn", "longer", "word", "letter"]) (sc := (defScope s_law_all_words)) (by decide +kernel)) (by decide) (fun _ _ _ _ _ => (vg_name 6 sc_law_all_words.nd)) (fun _ _ _ _ _ => vts_nil) (fun _ _ _ _ _ => (ve_op ox_add (ve_var 5) (ve_var 6))))))))
  (vs_one (vs_asg (ve_frz (ve_callTy cx_list T.b_list (va_cons (ve_var 4) va_nil))) (vg_name 2 sc_law_all_words.nd))))))
  (vs_one (vs_ret (ve_frz (ve_var 2))))))
abbrev s_law_take : Stmt := top 22
/- _law_take: 0 jar, 1 total, 2 found, 3 one, 4 two | inout [1, 0] fresh 0 level 1 -/
def m_law_take : MS :=
  (mSeq (mIfS (mCmp gtD (mBin ixD (mVar 0) (mC (.int 0))) (mC (.int 0))) (mSeq (mAsg (mFrz (mBin modD (mCallB intD (mCons (mBin ixD (mVar 0) (mC (.int 0))) mNil)) (mVar 1))) (asgn 2))
  (mSeq (mAsg (mFrz (mBin fdivD (mBin ixD (mVar 0) (mC (.int 0))) (mVar 1))) (mgSub (mVar 0) (mC (.int 0))))
  (mRet (mFrz (mVar 2))))) mNext)
  (mSeq (mAsg (mFrz (mBin addD (mBin ixD (mVar 0) (mC (.int 2))) (mC (.int 1)))) (mgSub (mVar 0) (mC (.int 2))))
  (mSeq (mAsg (mFrz (mBin modD (mCallB intD (mCons (mBin addD (mBin ixD (mVar 0) (mC (.int 1))) (mBin mulD (mC (.int 49979687)) (mBin ixD (mVar 0) (mC (.int 2))))) mNil)) (mC (.int 2305843009213693951)))) (asgn 3))
  (mSeq (mAsg (mFrz (mBin addD (mBin mulD (mBin modD (mCallB intD (mCons (mBin addD (mBin mulD (mVar 3) (mVar 3)) (mBin mulD (mC (.int 331)) (mBin ixD (mVar 0) (mC (.int 2))))) mNil)) (mC (.int 2305843009213693921))) (mC (.int 67867967))) (mVar 3))) (asgn 4))
  (mRet (mFrz (mBin modD (mCallB intD (mCons (mBin fdivD (mVar 4) (mC (.int 65651))) mNil)) (mVar 1))))))))
def f_law_take : Sem' := defOf 2 5 m_law_take
theorem sc_law_take : FnScope ["jar", "total", "found", "one", "two"] ["jar", "total"] (defScope s_law_take) := ⟨rfl, rfl, rfl, by decide +kernel, rfl, by decide +kernel, by decide +kernel⟩
theorem ok_law_take {f : Addr} {fd : FuncData} (F : Fun K "_law_take" "_law_take" s_law_take f fd) (T : Txt K mg) : FnOk P w K mg base CX0 1 f fd ["jar", "total"] (spV K mg 2 f_law_take) :=
  fn_ok (N := ["jar", "total", "found", "one", "two"]) (k := 0) (m := m_law_take) F sc_law_take fun cdv A outer s H E hr =>
  (vs_cons (vs_if (vt_op oc_gt (ve_ix (ve_var 0) ve_int) ve_int) (vs_cons (vs_asg (ve_frz (ve_op ox_mod (ve_callTy cx_int T.b_int (va_cons (ve_ix (ve_var 0) ve_int) va_nil)) (ve_var 1))) (vg_name 2 sc_law_take.nd))
  (vs_cons (vs_asg (ve_frz (ve_op ox_fdiv (ve_ix (ve_var 0) ve_int) (ve_var 1))) (vg_sub (ve_var 0) ve_int))
  (vs_one (vs_ret (ve_frz (ve_var 2)))))) vs_nil)
  (vs_cons (vs_asg (ve_frz (ve_op ox_add (ve_ix (ve_var 0) ve_int) ve_int)) (vg_sub (ve_var 0) ve_int))
  (vs_cons (vs_asg (ve_frz (ve_op ox_mod (ve_callTy cx_int T.b_int (va_cons (ve_op ox_add (ve_ix (ve_var 0) ve_int) (ve_op ox_mul ve_int (ve_ix (ve_var 0) ve_int))) va_nil)) ve_int)) (vg_name 3 sc_law_take.nd))
  (vs_cons (vs_asg (ve_frz (ve_op ox_add (ve_op ox_mul (ve_op ox_mod (ve_callTy cx_int T.b_int (va_cons (ve_op ox_add (ve_op ox_mul (ve_var 3) (ve_var 3)) (ve_op ox_mul ve_int (ve_ix (ve_var 0) ve_int))) va_nil)) ve_int) ve_int) (ve_var 3))) (vg_name 4 sc_law_take.nd))
  (vs_one (vs_ret (ve_frz (ve_op ox_mod (ve_callTy cx_int T.b_int (va_cons (ve_op ox_fdiv (ve_var 4) ve_int) va_nil)) (ve_var 1)))))))))
abbrev s_law_choice : Stmt := top 23
/- _law_choice: 0 jar, 1 items | inout [1, 0] fresh 0 level 2 -/
def m_law_choice : MS :=
  (mRet (mFrz (mBin ixD (mVar 1) (mCall [true, false] f_law_take (mCons (mVar 0) (mCons (mFrz (mCallB lenD (mCons (mVar 1) mNil))) mNil))))))
def f_law_choice : Sem' := defOf 2 2 m_law_choice
theorem sc_law_choice : FnScope ["jar", "items"] ["jar", "items"] (defScope s_law_choice) := ⟨rfl, rfl, rfl, by decide +kernel, rfl, by decide +kernel, by decide +kernel⟩
theorem ok_law_choice {f : Addr} {fd : FuncData} (F : Fun K "_law_choice" "_law_choice" s_law_choice f fd) (T : Txt K mg) (G_law_take : GF P w K mg base "_law_take" 1 2 f_law_take) : FnOk P w K mg base CX0 2 f fd ["jar", "items"] (spV K mg 2 f_law_choice) :=
  fn_ok (N := ["jar", "items"]) (k := 1) (m := m_law_choice) F sc_law_choice fun cdv A outer s H E hr =>
  (vs_one (vs_ret (ve_frz (ve_ix (ve_var 1) (ve_callG [true, false] G_law_take hr (va_cons (ve_var 0) (va_cons (ve_frz (ve_callB cx_len T.b_len (va_cons (ve_var 1) va_nil))) va_nil)))))))
abbrev s_law_even : Stmt := top 26
/- _law_even: 0 word, 1 size, 2 counts, 3 at | inout [0] fresh 0 level 1 -/
def c_law_even_1 : M :=
  (mLc [3] (miR1 (mCons (mBin addD (mBin subD (mCallB lenD (mCons (mVar 0) mNil)) (mVar 1)) (mC (.int 1))) mNil)) (asgn 3) mYes (mMeth "str" (g1S fun s t => .int (countS s t)) (mSl (mVar 0) (mPS (mVar 3)) (mPS (mBin addD (mVar 3) (mVar 1)))) (mCons (mC (.str [98])) mNil)))
def b_law_even_1 : MS :=
  (mSeq (mAsg (mFrz c_law_even_1) (asgn 2))
  (mIfS (mCmp gtD (mBin subD (mCallB maxD (mCons (mVar 2) mNil)) (mCallB minD (mCons (mVar 2) mNil))) (mC (.int 1))) (mRet (mFrz (mC (.bl false)))) mNext))
def m_law_even : MS :=
  (mSeq (mFor (miR2 (mCons (mC (.int 1)) (mCons (mCallB lenD (mCons (mVar 0) mNil)) mNil))) (asgn 1) b_law_even_1)
  (mRet (mFrz (mC (.bl true)))))
def f_law_even : Sem' := defOf 1 4 m_law_even
theorem sc_law_even : FnScope ["word", "size", "counts", "at"] ["word"] (defScope s_law_even) := ⟨rfl, rfl, rfl, by decide +kernel, rfl, by decide +kernel, by decide +kernel⟩
theorem ok_law_even {f : Addr} {fd : FuncData} (F : Fun K "_law_even" "_law_even" s_law_even f fd) (T : Txt K mg) : FnOk P w K mg base CX0 1 f fd ["word"] (spV K mg 1 f_law_even) :=
  fn_ok (N := ["word", "size", "counts", "at"]) (k := 0) (m := m_law_even) F sc_law_even fun cdv A outer s H E hr =>
  (vs_cons (vs_for PassesOwn.never rfl (vi_range2 T.b_range (va_cons ve_int (va_cons (ve_callB cx_len T.b_len (va_cons (ve_var 0) va_nil)) va_nil))) (vg_name 1 sc_law_even.nd) (vs_cons (vs_asgF (vs_setLc (i := 2) (own := [("at", 3)]) rfl sc_law_even.nd (vi_range1 T.b_range (va_cons (ve_op ox_add (ve_op ox_sub (ve_callB cx_len T.b_len (va_cons (ve_var 0) va_nil)) (ve_var 1)) ve_int) va_nil)) (blkOk_by (own := [("at", 3)]) (N := ["word", "size", "counts", "at"]) (sc := (defScope s_law_even)) (by decide +kernel)) (by decide) (fun _ _ _ _ _ => (vg_name 3 sc_law_even.nd)) (fun _ _ _ _ _ => vts_nil) (fun _ _ _ _ _ => (ve_meth mx_count PySem.F.plainAttrs_str PySem.F.slot_str_count PySem.F.type_str_count (ve_slice (ve_var 0) (vo_some (ve_var 3)) (vo_some (ve_op ox_add (ve_var 3) (ve_var 1)))) (va_cons (ve_str [98]) va_nil)))))
  (vs_one (vs_if (vt_op oc_gt (ve_op ox_sub (ve_callB (cx_max rfl) T.b_max (va_cons (ve_var 2) va_nil)) (ve_callB (cx_min rfl) T.b_min (va_cons (ve_var 2) va_nil))) ve_int) (vs_one (vs_ret (ve_frz ve_bl))) vs_nil))))
  (vs_one (vs_ret (ve_frz ve_bl))))
abbrev s_law_divisor : Stmt := top 25
/- _law_divisor: 0 one, 1 other | inout [0, 0] fresh 0 level 1 -/
def b_law_divisor_1 : MS :=
  (mPar 0 1 (mCons (mVar 1) (mCons (mBin modD (mCallB intD (mCons (mVar 0) mNil)) (mVar 1)) mNil)))
def t_law_divisor_1 : MB :=
  (mCmp gtD (mVar 1) (mC (.int 0)))
def m_law_divisor : MS :=
  (mSeq (mWhile fuel t_law_divisor_1 b_law_divisor_1)
  (mRet (mFrz (mVar 0))))
def f_law_divisor : Sem' := defOf 2 2 m_law_divisor
theorem sc_law_divisor : FnScope ["one", "other"] ["one", "other"] (defScope s_law_divisor) := ⟨rfl, rfl, rfl, by decide +kernel, rfl, by decide +kernel, by decide +kernel⟩
theorem ok_law_divisor {f : Addr} {fd : FuncData} (F : Fun K "_law_divisor" "_law_divisor" s_law_divisor f fd) (T : Txt K mg) : FnOk P w K mg base CX0 1 f fd ["one", "other"] (spV K mg 2 f_law_divisor) :=
  fn_ok (N := ["one", "other"]) (k := 0) (m := m_law_divisor) F sc_law_divisor fun cdv A outer s H E hr =>
  (vs_cons (vs_while fuel PassesOwn.never (vt_op oc_gt (ve_var 1) ve_int) (vs_one (vs_par (i := 0) (j := 1) rfl sc_law_divisor.nd (va_cons (ve_var 1) (va_cons (ve_op ox_mod (ve_callTy cx_int T.b_int (va_cons (ve_var 0) va_nil)) (ve_var 1)) va_nil)))))
  (vs_one (vs_ret (ve_frz (ve_var 0)))))
abbrev s_law_shared_with_none : Stmt := top 27
/- _law_shared_with_none: 0 number, 1 part | inout [0] fresh 0 level 2 -/
def c_law_shared_with_none_1 : M :=
  (mLc [1] (miR2 (mCons (mC (.int 1)) (mCons (mBin addD (mVar 0) (mC (.int 1))) mNil))) (asgn 1) (mCmp eqD (mCall [false, false] f_law_divisor (mCons (mFrz (mVar 1)) (mCons (mFrz (mVar 0)) mNil))) (mC (.int 1))) (mVar 1))
def m_law_shared_with_none : MS :=
  (mRet (mFrz (mCallB lenD (mCons c_law_shared_with_none_1 mNil))))
def f_law_shared_with_none : Sem' := defOf 1 2 m_law_shared_with_none
theorem sc_law_shared_with_none : FnScope ["number", "part"] ["number"] (defScope s_law_shared_with_none) := ⟨rfl, rfl, rfl, by decide +kernel, rfl, by decide +kernel, by decide +kernel⟩
theorem ok_law_shared_with_none {f : Addr} {fd : FuncData} (F : Fun K "_law_shared_with_none" "_law_shared_with_none" s_law_shared_with_none f fd) (T : Txt K mg) (G_law_divisor : GF P w K mg base "_law_divisor" 1 2 f_law_divisor) : FnOk P w K mg base CX0 2 f fd ["number"] (spV K mg 1 f_law_shared_with_none) :=
  fn_ok (N := ["number", "part"]) (k := 1) (m := m_law_shared_with_none) F sc_law_shared_with_none fun cdv A outer s H E hr =>
  (vs_one (vs_ret (ve_frz (ve_callB cx_len T.b_len (va_cons (ve_lcE (own := [("part", 1)]) rfl sc_law_shared_with_none.nd (vi_range2 T.b_range (va_cons ve_int (va_cons (ve_op ox_add (ve_var 0) ve_int) va_nil))) (blkOk_by (own := [("part", 1)]) (N := ["number", "part"]) (sc := (defScope s_law_shared_with_none)) (by decide +kernel)) (by decide) (fun _ _ _ _ _ => (vg_name 1 sc_law_shared_with_none.nd)) (fun _ _ _ _ _ => (vts_one (vt_op (oc_eq (units64 hr)) (ve_callG [false, false] G_law_divisor hr (va_cons (ve_frz (ve_var 1)) (va_cons (ve_frz (ve_var 0)) va_nil))) ve_int))) (fun _ _ _ _ _ => (ve_var 1))) va_nil)))))
abbrev s_law_swapped : Stmt := top 28
/- _law_swapped: 0 word, 1 letter | inout [0] fresh 0 level 1 -/
def c_law_swapped_1 : M :=
  (mLc [1] (miSeq (mVar 0)) (asgn 1) mYes (mIf (mCmp eqD (mVar 1) (mC (.str [98]))) (mC (.str [97])) (mC (.str [98]))))
def m_law_swapped : MS :=
  (mRet (mFrz (mMeth "str" joinD (mC (.str [])) (mCons c_law_swapped_1 mNil))))
def f_law_swapped : Sem' := defOf 1 2 m_law_swapped
theorem sc_law_swapped : FnScope ["word", "letter"] ["word"] (defScope s_law_swapped) := ⟨rfl, rfl, rfl, by decide +kernel, rfl, by decide +kernel, by decide +kernel⟩
theorem ok_law_swapped {f : Addr} {fd : FuncData} (F : Fun K "_law_swapped" "_law_swapped" s_law_swapped f fd) (T : Txt K mg) : FnOk P w K mg base CX0 1 f fd ["word"] (spV K mg 1 f_law_swapped) :=
  fn_ok (N := ["word", "letter"]) (k := 0) (m := m_law_swapped) F sc_law_swapped fun cdv A outer s H E hr =>
  (vs_one (vs_ret (ve_frz (ve_meth mx_join PySem.F.plainAttrs_str PySem.F.slot_str_join PySem.F.type_str_join (ve_str []) (va_cons (ve_lcE (own := [("letter", 1)]) rfl sc_law_swapped.nd (vi_seq (ve_var 0)) (blkOk_by (own := [("letter", 1)]) (N := ["word", "letter"]) (sc := (defScope s_law_swapped)) (by decide +kernel)) (by decide) (fun _ _ _ _ _ => (vg_name 1 sc_law_swapped.nd)) (fun _ _ _ _ _ => vts_nil) (fun _ _ _ _ _ => (ve_if (vt_op (oc_eq (units64 hr)) (ve_var 1) (ve_str [98])) (ve_str [97]) (ve_str [98])))) va_nil)))))
abbrev s_sums_of_second : Stmt := top 11
/- sums_of_second: 0 word, 1 found, 2 sign | inout [0] fresh 0 level 1 -/
def b_sums_of_second_1 : MS :=
  (mDrop (mMut gAppend (mVar 1) (mCons (mFrz (mBin addD (mBin ixD (mVar 1) (mUn negD (mC (.int 1)))) (mIf (mCmp eqD (mVar 2) (mC (.str [98]))) (mC (.int 1)) (mC (.int 0))))) mNil)))
def m_sums_of_second : MS :=
  (mSeq (mAsg (mList (mCons (mC (.int 0)) mNil)) (asgn 1))
  (mSeq (mFor (miSeq (mVar 0)) (asgn 2) b_sums_of_second_1)
  (mRet (mFrz (mVar 1)))))
def f_sums_of_second : Sem' := defOf 1 3 m_sums_of_second
theorem sc_sums_of_second : FnScope ["word", "found", "sign"] ["word"] (defScope s_sums_of_second) := ⟨rfl, rfl, rfl, by decide +kernel, rfl, by decide +kernel, by decide +kernel⟩
theorem ok_sums_of_second {f : Addr} {fd : FuncData} (F : Fun K "sums_of_second" "sums_of_second" s_sums_of_second f fd) (T : Txt K mg) : FnOk P w K mg base CX0 1 f fd ["word"] (spV K mg 1 f_sums_of_second) :=
  fn_ok (N := ["word", "found", "sign"]) (k := 0) (m := m_sums_of_second) F sc_sums_of_second fun cdv A outer s H E hr =>
  (vs_cons (vs_asg (ve_list (va_cons ve_int va_nil)) (vg_name 1 sc_sums_of_second.nd))
  (vs_cons (vs_for PassesOwn.never rfl (vi_seq (ve_var 0)) (vg_name 2 sc_sums_of_second.nd) (vs_one (vs_expr (ve_mut mx_append PySem.F.slot_list_append PySem.F.type_list_append (ve_var 1) (va_cons (ve_frz (ve_op ox_add (ve_ix (ve_var 1) (ve_neg ve_int)) (ve_if (vt_op (oc_eq (units64 hr)) (ve_var 2) (ve_str [98])) ve_int ve_int))) va_nil)))))
  (vs_one (vs_ret (ve_frz (ve_var 1))))))
abbrev s_is_evenly : Stmt := top 12
/- is_evenly: 0 word, 1 sums, 2 size, 3 some, 4 at | inout [0] fresh 0 level 2 -/
def c_is_evenly_1 : M :=
  (mLc [4] (miR1 (mCons (mBin addD (mBin subD (mCallB lenD (mCons (mVar 0) mNil)) (mVar 2)) (mC (.int 1))) mNil)) (asgn 4) mYes (mBin subD (mBin ixD (mVar 1) (mBin addD (mVar 4) (mVar 2))) (mBin ixD (mVar 1) (mVar 4))))
def b_is_evenly_1 : MS :=
  (mSeq (mAsg (mFrz c_is_evenly_1) (asgn 3))
  (mIfS (mCmp gtD (mBin subD (mCallB maxD (mCons (mVar 3) mNil)) (mCallB minD (mCons (mVar 3) mNil))) (mC (.int 1))) (mRet (mFrz (mC (.bl false)))) mNext))
def m_is_evenly : MS :=
  (mSeq (mAsg (mFrz (mCall [false] f_sums_of_second (mCons (mFrz (mVar 0)) mNil))) (asgn 1))
  (mSeq (mFor (miR2 (mCons (mC (.int 1)) (mCons (mBin addD (mCallB lenD (mCons (mVar 0) mNil)) (mC (.int 1))) mNil))) (asgn 2) b_is_evenly_1)
  (mRet (mFrz (mC (.bl true))))))
def f_is_evenly : Sem' := defOf 1 5 m_is_evenly
theorem sc_is_evenly : FnScope ["word", "sums", "size", "some", "at"] ["word"] (defScope s_is_evenly) := ⟨rfl, rfl, rfl, by decide +kernel, rfl, by decide +kernel, by decide +kernel⟩
theorem ok_is_evenly {f : Addr} {fd : FuncData} (F : Fun K "is_evenly" "is_evenly" s_is_evenly f fd) (T : Txt K mg) (G_sums_of_second : GF P w K mg base "sums_of_second" 1 1 f_sums_of_second) : FnOk P w K mg base CX0 2 f fd ["word"] (spV K mg 1 f_is_evenly) :=
  fn_ok (N := ["word", "sums", "size", "some", "at"]) (k := 1) (m := m_is_evenly) F sc_is_evenly fun cdv A outer s H E hr =>
  (vs_cons (vs_asg (ve_frz (ve_callG [false] G_sums_of_second hr (va_cons (ve_frz (ve_var 0)) va_nil))) (vg_name 1 sc_is_evenly.nd))
  (vs_cons (vs_for PassesOwn.never rfl (vi_range2 T.b_range (va_cons ve_int (va_cons (ve_op ox_add (ve_callB cx_len T.b_len (va_cons (ve_var 0) va_nil)) ve_int) va_nil))) (vg_name 2 sc_is_evenly.nd) (vs_cons (vs_asgF (vs_setLc (i := 3) (own := [("at", 4)]) rfl sc_is_evenly.nd (vi_range1 T.b_range (va_cons (ve_op ox_add (ve_op ox_sub (ve_callB cx_len T.b_len (va_cons (ve_var 0) va_nil)) (ve_var 2)) ve_int) va_nil)) (blkOk_by (own := [("at", 4)]) (N := ["word", "sums", "size", "some", "at"]) (sc := (defScope s_is_evenly)) (by decide +kernel)) (by decide) (fun _ _ _ _ _ => (vg_name 4 sc_is_evenly.nd)) (fun _ _ _ _ _ => vts_nil) (fun _ _ _ _ _ => (ve_op ox_sub (ve_ix (ve_var 1) (ve_op ox_add (ve_var 4) (ve_var 2))) (ve_ix (ve_var 1) (ve_var 4))))))
  (vs_one (vs_if (vt_op oc_gt (ve_op ox_sub (ve_callB (cx_max rfl) T.b_max (va_cons (ve_var 3) va_nil)) (ve_callB (cx_min rfl) T.b_min (va_cons (ve_var 3) va_nil))) ve_int) (vs_one (vs_ret (ve_frz ve_bl))) vs_nil))))
  (vs_one (vs_ret (ve_frz ve_bl)))))
abbrev s_even_words : Stmt := top 14
/- even_words: 0 number, 1 found, 2 turn, 3 word, 4 sign | inout [0] fresh 0 level 3 -/
def c_even_words_1 : M :=
  (mLc2 [3, 4] [4] (miSeq (mVar 1)) (asgn 3) mYes (miSeq (mC (.str [97, 98]))) (asgn 4) (mTest (mCall [false] f_is_evenly (mCons (mFrz (mBin addD (mVar 3) (mVar 4))) mNil))) (mBin addD (mVar 3) (mVar 4)))
def b_even_words_1 : MS :=
  (mAsg (mFrz c_even_words_1) (asgn 1))
def m_even_words : MS :=
  (mSeq (mAsg (mFrz (mList (mCons (mC (.str [])) mNil))) (asgn 1))
  (mSeq (mFor (miR1 (mCons (mVar 0) mNil)) (asgn 2) b_even_words_1)
  (mRet (mFrz (mVar 1)))))
def f_even_words : Sem' := defOf 1 5 m_even_words
theorem sc_even_words : FnScope ["number", "found", "turn", "word", "sign"] ["number"] (defScope s_even_words) := ⟨rfl, rfl, rfl, by decide +kernel, rfl, by decide +kernel, by decide +kernel⟩
theorem ok_even_words {f : Addr} {fd : FuncData} (F : Fun K "even_words" "even_words" s_even_words f fd) (T : Txt K mg) (G_is_evenly : GF P w K mg base "is_evenly" 2 1 f_is_evenly) : FnOk P w K mg base CX0 3 f fd ["number"] (spV K mg 1 f_even_words) :=
  fn_ok (N := ["number", "found", "turn", "word", "sign"]) (k := 2) (m := m_even_words) F sc_even_words fun cdv A outer s H E hr =>
  (vs_cons (vs_asg (ve_frz (ve_list (va_cons (ve_str []) va_nil))) (vg_name 1 sc_even_words.nd))
  (vs_cons (vs_for PassesOwn.never rfl (vi_range1 T.b_range (va_cons (ve_var 0) va_nil)) (vg_name 2 sc_even_words.nd) (vs_one (vs_asgF (vs_setLc2 (i := 1) (own := [("word", 3), ("sign", 4)]) (vs1 := [4]) rfl sc_even_words.nd (vi_seq (ve_var 1)) (blkOk_by (own := [("word", 3), ("sign", 4)]) (N := ["number", "found", "turn", "word", "sign"]) (sc := (defScope s_even_words)) (by decide +kernel)) (by decide) (by decide) (by decide) (fun _ _ _ _ _ => (vg_name 3 sc_even_words.nd)) (fun _ _ _ _ _ => vts_nil) (fun _ _ _ _ _ => (vi_seq (ve_str [97, 98]))) (fun _ _ _ _ _ => (vg_name 4 sc_even_words.nd)) (fun _ _ _ _ _ => (vts_one (vt_val (ve_callG [false] G_is_evenly hr (va_cons (ve_frz (ve_op ox_add (ve_var 3) (ve_var 4))) va_nil))))) (fun _ _ _ _ _ => (ve_op ox_add (ve_var 3) (ve_var 4)))))))
  (vs_one (vs_ret (ve_frz (ve_var 1))))))
abbrev s_is_even_number : Stmt := top 8
/- is_even_number: 0 value | inout [0] fresh 0 level 1 -/
def m_is_even_number : MS :=
  (mRet (mFrz (mOfB (mAnd (mTest (mCallB isiD (mCons (mVar 0) (mCons (mC (.ty "int")) mNil)))) (mNot (mTest (mCallB isiD (mCons (mVar 0) (mCons (mC (.ty "bool")) mNil)))))))))
def f_is_even_number : Sem' := defOf 1 1 m_is_even_number
theorem sc_is_even_number : FnScope ["value"] ["value"] (defScope s_is_even_number) := ⟨rfl, rfl, rfl, by decide +kernel, rfl, by decide +kernel, by decide +kernel⟩
theorem ok_is_even_number {f : Addr} {fd : FuncData} (F : Fun K "is_even_number" "is_even_number" s_is_even_number f fd) (T : Txt K mg) : FnOk P w K mg base CX0 1 f fd ["value"] (spV K mg 1 f_is_even_number) :=
  fn_ok (N := ["value"]) (k := 0) (m := m_is_even_number) F sc_is_even_number fun cdv A outer s H E hr =>
  (vs_one (vs_ret (ve_frz (ve_and (ve_ofTest (ve_callB cx_isi T.b_isinstance (va_cons (ve_var 0) (va_cons (ve_ty "int" T.b_int) va_nil)))) (ve_one (ve_not (ve_ofTest (ve_callB cx_isi T.b_isinstance (va_cons (ve_var 0) (va_cons (ve_ty "bool" T.b_bool) va_nil))))))))))
abbrev s_need_even_number : Stmt := top 16
/- need_even_number: 0 number, 1 most | inout [0, 0] fresh 0 level 2 -/
def m_need_even_number : MS :=
  (mIfS (mOr (mNot (mTest (mCall [false] f_is_even_number (mCons (mFrz (mVar 0)) mNil)))) (mNot (mChain leD leD (mC (.int 0)) (mVar 0) (mVar 1)))) mNever mNext)
def f_need_even_number : Sem' := defOf 2 2 m_need_even_number
theorem sc_need_even_number : FnScope ["number", "most"] ["number", "most"] (defScope s_need_even_number) := ⟨rfl, rfl, rfl, by decide +kernel, rfl, by decide +kernel, by decide +kernel⟩
theorem ok_need_even_number {f : Addr} {fd : FuncData} (F : Fun K "need_even_number" "need_even_number" s_need_even_number f fd) (T : Txt K mg) (G_is_even_number : GF P w K mg base "is_even_number" 1 1 f_is_even_number) : FnOk P w K mg base CX0 2 f fd ["number", "most"] (spV K mg 2 f_need_even_number) :=
  fn_ok (N := ["number", "most"]) (k := 1) (m := m_need_even_number) F sc_need_even_number fun cdv A outer s H E hr =>
  (vs_one (vs_if (vt_w (vw_or (vt_not (vt_val (ve_callG [false] G_is_even_number hr (va_cons (ve_frz (ve_var 0)) va_nil)))) (vw_or1 (vt_not (vt_chain oc_le oc_le ve_int (ve_var 0) (ve_var 1)))))) (vs_one vs_never) vs_nil))
abbrev s_all_even : Stmt := top 19
/- all_even: 0 number | inout [0] fresh 0 level 4 -/
def m_all_even : MS :=
  (mSeq (mDrop (mCall [false, false] f_need_even_number (mCons (mFrz (mVar 0)) (mCons (mFrz (mC (.int 10))) mNil))))
  (mRet (mFrz (mCallB tupleD (mCons (mCall [false] f_even_words (mCons (mFrz (mVar 0)) mNil)) mNil)))))
def f_all_even : Sem' := defOf 1 1 m_all_even
theorem sc_all_even : FnScope ["number"] ["number"] (defScope s_all_even) := ⟨rfl, rfl, rfl, by decide +kernel, rfl, by decide +kernel, by decide +kernel⟩
theorem ok_all_even {f : Addr} {fd : FuncData} (F : Fun K "all_even" "all_even" s_all_even f fd) (T : Txt K mg) (G_need_even_number : GF P w K mg base "need_even_number" 2 2 f_need_even_number) (G_even_words : GF P w K mg base "even_words" 3 1 f_even_words) : FnOk P w K mg base CX0 4 f fd ["number"] (spV K mg 1 f_all_even) :=
  fn_ok (N := ["number"]) (k := 3) (m := m_all_even) F sc_all_even fun cdv A outer s H E hr =>
  (vs_cons (vs_expr (ve_callG [false, false] G_need_even_number hr (va_cons (ve_frz (ve_var 0)) (va_cons (ve_frz (ve_gint T.c_MOST_LISTED.choose_spec)) va_nil))))
  (vs_one (vs_ret (ve_frz (ve_callTy cx_tuple T.b_tuple (va_cons (ve_callG [false] G_even_words hr (va_cons (ve_frz (ve_var 0)) va_nil)) va_nil))))))
abbrev s_greatest_shared : Stmt := top 10
/- greatest_shared: 0 one, 1 other | inout [0, 0] fresh 0 level 1 -/
def b_greatest_shared_1 : MS :=
  (mPar 0 1 (mCons (mVar 1) (mCons (mBin modD (mVar 0) (mVar 1)) mNil)))
def t_greatest_shared_1 : MB :=
  (mCmp gtD (mVar 1) (mC (.int 0)))
def m_greatest_shared : MS :=
  (mSeq (mWhile fuel t_greatest_shared_1 b_greatest_shared_1)
  (mRet (mFrz (mVar 0))))
def f_greatest_shared : Sem' := defOf 2 2 m_greatest_shared
theorem sc_greatest_shared : FnScope ["one", "other"] ["one", "other"] (defScope s_greatest_shared) := ⟨rfl, rfl, rfl, by decide +kernel, rfl, by decide +kernel, by decide +kernel⟩
theorem ok_greatest_shared {f : Addr} {fd : FuncData} (F : Fun K "greatest_shared" "greatest_shared" s_greatest_shared f fd) (T : Txt K mg) : FnOk P w K mg base CX0 1 f fd ["one", "other"] (spV K mg 2 f_greatest_shared) :=
  fn_ok (N := ["one", "other"]) (k := 0) (m := m_greatest_shared) F sc_greatest_shared fun cdv A outer s H E hr =>
  (vs_cons (vs_while fuel PassesOwn.never (vt_op oc_gt (ve_var 1) ve_int) (vs_one (vs_par (i := 0) (j := 1) rfl sc_greatest_shared.nd (va_cons (ve_var 1) (va_cons (ve_op ox_mod (ve_var 0) (ve_var 1)) va_nil)))))
  (vs_one (vs_ret (ve_frz (ve_var 0)))))
abbrev s_without_shared : Stmt := top 13
/- without_shared: 0 number, 1 one | inout [0] fresh 0 level 2 -/
def c_without_shared_1 : M :=
  (mLc [1] (miR2 (mCons (mC (.int 1)) (mCons (mBin addD (mVar 0) (mC (.int 1))) mNil))) (asgn 1) (mCmp eqD (mCall [false, false] f_greatest_shared (mCons (mFrz (mVar 1)) (mCons (mFrz (mVar 0)) mNil))) (mC (.int 1))) (mVar 1))
def m_without_shared : MS :=
  (mRet (mFrz (mCallB lenD (mCons c_without_shared_1 mNil))))
def f_without_shared : Sem' := defOf 1 2 m_without_shared
theorem sc_without_shared : FnScope ["number", "one"] ["number"] (defScope s_without_shared) := ⟨rfl, rfl, rfl, by decide +kernel, rfl, by decide +kernel, by decide +kernel⟩
theorem ok_without_shared {f : Addr} {fd : FuncData} (F : Fun K "without_shared" "without_shared" s_without_shared f fd) (T : Txt K mg) (G_greatest_shared : GF P w K mg base "greatest_shared" 1 2 f_greatest_shared) : FnOk P w K mg base CX0 2 f fd ["number"] (spV K mg 1 f_without_shared) :=
  fn_ok (N := ["number", "one"]) (k := 1) (m := m_without_shared) F sc_without_shared fun cdv A outer s H E hr =>
  (vs_one (vs_ret (ve_frz (ve_callB cx_len T.b_len (va_cons (ve_lcE (own := [("one", 1)]) rfl sc_without_shared.nd (vi_range2 T.b_range (va_cons ve_int (va_cons (ve_op ox_add (ve_var 0) ve_int) va_nil))) (blkOk_by (own := [("one", 1)]) (N := ["number", "one"]) (sc := (defScope s_without_shared)) (by decide +kernel)) (by decide) (fun _ _ _ _ _ => (vg_name 1 sc_without_shared.nd)) (fun _ _ _ _ _ => (vts_one (vt_op (oc_eq (units64 hr)) (ve_callG [false, false] G_greatest_shared hr (va_cons (ve_frz (ve_var 1)) (va_cons (ve_frz (ve_var 0)) va_nil))) ve_int))) (fun _ _ _ _ _ => (ve_var 1))) va_nil)))))
abbrev s_count_even : Stmt := top 18
/- count_even: 0 number, 1 size | inout [0] fresh 0 level 3 -/
def c_count_even_1 : M :=
  (mLc [1] (miR2 (mCons (mC (.int 1)) (mCons (mBin addD (mVar 0) (mC (.int 1))) mNil))) (asgn 1) mYes (mBin mulD (mBin addD (mBin subD (mVar 0) (mVar 1)) (mC (.int 1))) (mCall [false] f_without_shared (mCons (mFrz (mVar 1)) mNil))))
def m_count_even : MS :=
  (mSeq (mDrop (mCall [false, false] f_need_even_number (mCons (mFrz (mVar 0)) (mCons (mFrz (mC (.int 200))) mNil))))
  (mRet (mFrz (mBin addD (mC (.int 1)) (mCallB sumD (mCons c_count_even_1 mNil))))))
def f_count_even : Sem' := defOf 1 2 m_count_even
theorem sc_count_even : FnScope ["number", "size"] ["number"] (defScope s_count_even) := ⟨rfl, rfl, rfl, by decide +kernel, rfl, by decide +kernel, by decide +kernel⟩
theorem ok_count_even {f : Addr} {fd : FuncData} (F : Fun K "count_even" "count_even" s_count_even f fd) (T : Txt K mg) (G_need_even_number : GF P w K mg base "need_even_number" 2 2 f_need_even_number) (G_without_shared : GF P w K mg base "without_shared" 2 1 f_without_shared) : FnOk P w K mg base CX0 3 f fd ["number"] (spV K mg 1 f_count_even) :=
  fn_ok (N := ["number", "size"]) (k := 2) (m := m_count_even) F sc_count_even fun cdv A outer s H E hr =>
  (vs_cons (vs_expr (ve_callG [false, false] G_need_even_number hr (va_cons (ve_frz (ve_var 0)) (va_cons (ve_frz (ve_gint T.c_MOST_COUNTED.choose_spec)) va_nil))))
  (vs_one (vs_ret (ve_frz (ve_op ox_add ve_int (ve_callB (cx_sum rfl) T.b_sum (va_cons (ve_lcE (own := [("size", 1)]) rfl sc_count_even.nd (vi_range2 T.b_range (va_cons ve_int (va_cons (ve_op ox_add (ve_var 0) ve_int) va_nil))) (blkOk_by (own := [("size", 1)]) (N := ["number", "size"]) (sc := (defScope s_count_even)) (by decide +kernel)) (by decide) (fun _ _ _ _ _ => (vg_name 1 sc_count_even.nd)) (fun _ _ _ _ _ => vts_nil) (fun _ _ _ _ _ => (ve_op ox_mul (ve_op ox_add (ve_op ox_sub (ve_var 0) (ve_var 1)) ve_int) (ve_callG [false] G_without_shared hr (va_cons (ve_frz (ve_var 1)) va_nil))))) va_nil)))))))
abbrev s_is_two_word : Stmt := top 9
/- is_two_word: 0 value, 1 sign | inout [0] fresh 0 level 1 -/
def c_is_two_word_1 : M :=
  (mLc [1] (miSeq (mVar 0)) (asgn 1) mYes (mOfB (mCmp inD (mVar 1) (mC (.str [97, 98])))))
def m_is_two_word : MS :=
  (mRet (mFrz (mOfB (mAnd (mTest (mCallB isiD (mCons (mVar 0) (mCons (mC (.ty "str")) mNil)))) (mAnd (mCmp leD (mCallB lenD (mCons (mVar 0) mNil)) (mC (.int 40))) (mTest (mCallB allD (mCons c_is_two_word_1 mNil))))))))
def f_is_two_word : Sem' := defOf 1 2 m_is_two_word
theorem sc_is_two_word : FnScope ["value", "sign"] ["value"] (defScope s_is_two_word) := ⟨rfl, rfl, rfl, by decide +kernel, rfl, by decide +kernel, by decide +kernel⟩
theorem ok_is_two_word {f : Addr} {fd : FuncData} (F : Fun K "is_two_word" "is_two_word" s_is_two_word f fd) (T : Txt K mg) : FnOk P w K mg base CX0 1 f fd ["value"] (spV K mg 1 f_is_two_word) :=
  fn_ok (N := ["value", "sign"]) (k := 0) (m := m_is_two_word) F sc_is_two_word fun cdv A outer s H E hr =>
  (vs_one (vs_ret (ve_frz (ve_and (ve_ofTest (ve_callB cx_isi T.b_isinstance (va_cons (ve_var 0) (va_cons (ve_ty "str" T.b_str) va_nil)))) (ve_and (ve_opc oc_le (ve_callB cx_len T.b_len (va_cons (ve_var 0) va_nil)) (ve_gint T.c_MOST_EVEN.choose_spec)) (ve_one (ve_ofTest (ve_callB (cx_all rfl) T.b_all (va_cons (ve_lcE (own := [("sign", 1)]) rfl sc_is_two_word.nd (vi_seq (ve_var 0)) (blkOk_by (own := [("sign", 1)]) (N := ["value", "sign"]) (sc := (defScope s_is_two_word)) (by decide +kernel)) (by decide) (fun _ _ _ _ _ => (vg_name 1 sc_is_two_word.nd)) (fun _ _ _ _ _ => vts_nil) (fun _ _ _ _ _ => (ve_opc (oc_in (units65 hr)) (ve_var 1) (ve_str [97, 98])))) va_nil)))))))))
abbrev s_need_two_word : Stmt := top 15
/- need_two_word: 0 word | inout [0] fresh 0 level 2 -/
def m_need_two_word : MS :=
  (mIfS (mNot (mTest (mCall [false] f_is_two_word (mCons (mFrz (mVar 0)) mNil)))) mNever mNext)
def f_need_two_word : Sem' := defOf 1 1 m_need_two_word
theorem sc_need_two_word : FnScope ["word"] ["word"] (defScope s_need_two_word) := ⟨rfl, rfl, rfl, by decide +kernel, rfl, by decide +kernel, by decide +kernel⟩
theorem ok_need_two_word {f : Addr} {fd : FuncData} (F : Fun K "need_two_word" "need_two_word" s_need_two_word f fd) (T : Txt K mg) (G_is_two_word : GF P w K mg base "is_two_word" 1 1 f_is_two_word) : FnOk P w K mg base CX0 2 f fd ["word"] (spV K mg 1 f_need_two_word) :=
  fn_ok (N := ["word"]) (k := 1) (m := m_need_two_word) F sc_need_two_word fun cdv A outer s H E hr =>
  (vs_one (vs_if (vt_not (vt_val (ve_callG [false] G_is_two_word hr (va_cons (ve_frz (ve_var 0)) va_nil)))) (vs_one vs_never) vs_nil))
abbrev s_is_even : Stmt := top 17
/- is_even: 0 word | inout [0] fresh 0 level 3 -/
def m_is_even : MS :=
  (mSeq (mDrop (mCall [false] f_need_two_word (mCons (mFrz (mVar 0)) mNil)))
  (mRet (mFrz (mCall [false] f_is_evenly (mCons (mFrz (mVar 0)) mNil)))))
def f_is_even : Sem' := defOf 1 1 m_is_even
theorem sc_is_even : FnScope ["word"] ["word"] (defScope s_is_even) := ⟨rfl, rfl, rfl, by decide +kernel, rfl, by decide +kernel, by decide +kernel⟩
theorem ok_is_even {f : Addr} {fd : FuncData} (F : Fun K "is_even" "is_even" s_is_even f fd) (T : Txt K mg) (G_need_two_word : GF P w K mg base "need_two_word" 2 1 f_need_two_word) (G_is_evenly : GF P w K mg base "is_evenly" 2 1 f_is_evenly) : FnOk P w K mg base CX0 3 f fd ["word"] (spV K mg 1 f_is_even) :=
  fn_ok (N := ["word"]) (k := 2) (m := m_is_even) F sc_is_even fun cdv A outer s H E hr =>
  (vs_cons (vs_expr (ve_callG [false] G_need_two_word hr (va_cons (ve_frz (ve_var 0)) va_nil)))
  (vs_one (vs_ret (ve_frz (ve_callG [false] G_is_evenly hr (va_cons (ve_frz (ve_var 0)) va_nil))))))
abbrev s_law_right : Stmt := top 29
/- _law_right: 0 jar, 1 size, 2 every, 3 great, 4 word, 5 begin, 6 q, 7 p, 8 r, 9 long, 10 at, 11 bent, 12 letter, 13 i | inout [1] fresh 0 level 5 -/
def c_law_right_1 : M :=
  (mLc [4] (miSeq (mCall [false, false] f_law_all_words (mCons (mFrz (mC (.str [97, 98]))) (mCons (mFrz (mVar 1)) mNil)))) (asgn 4) (mTest (mCall [false] f_law_even (mCons (mFrz (mVar 4)) mNil))) (mVar 4))
def c_law_right_2 : M :=
  (mLc [13] (miR2 (mCons (mC (.int 1)) (mCons (mBin addD (mVar 3) (mC (.int 1))) mNil))) (asgn 13) mYes (mBin mulD (mBin addD (mBin subD (mVar 3) (mVar 13)) (mC (.int 1))) (mCall [false] f_law_shared_with_none (mCons (mFrz (mVar 13)) mNil))))
def c_law_right_3 : M :=
  (mLc [12] (miSeq (mC (.str [97, 98]))) (asgn 12) (mTest (mCall [false] f_is_even (mCons (mFrz (mBin addD (mVar 4) (mVar 12))) mNil))) (mVar 12))
def c_law_right_4 : M :=
  (mLc [12] (miSeq (mC (.str [97, 98]))) (asgn 12) (mTest (mCall [false] f_is_even (mCons (mFrz (mBin addD (mVar 12) (mVar 4))) mNil))) (mVar 12))
def c_law_right_5 : M :=
  (mLc [10] (miR1 (mCons (mC (.int 40)) mNil)) (asgn 10) mYes (mIf (mCmp eqD (mBin subD (mBin fdivD (mBin addD (mBin mulD (mBin addD (mVar 10) (mC (.int 1))) (mVar 7)) (mVar 8)) (mVar 6)) (mBin fdivD (mBin addD (mBin mulD (mVar 10) (mVar 7)) (mVar 8)) (mVar 6))) (mC (.int 1))) (mC (.str [98])) (mC (.str [97]))))
def m_law_right : MS :=
  (mSeq (mAsg (mFrz (mCall [true, false] f_law_take (mCons (mVar 0) (mCons (mFrz (mC (.int 10))) mNil)))) (asgn 1))
  (mSeq (mAsg (mFrz c_law_right_1) (asgn 2))
  (mSeq (mIfS (mOr (mCmp neD (mCall [false] f_all_even (mCons (mFrz (mVar 1)) mNil)) (mCallB tupleD (mCons (mVar 2) mNil))) (mCmp neD (mCall [false] f_count_even (mCons (mFrz (mVar 1)) mNil)) (mCallB lenD (mCons (mVar 2) mNil)))) (mRet (mFrz (mC (.bl false)))) mNext)
  (mSeq (mAsg (mFrz (mCall [true, false] f_law_take (mCons (mVar 0) (mCons (mFrz (mC (.int 201))) mNil)))) (asgn 3))
  (mSeq (mIfS (mCmp neD (mCall [false] f_count_even (mCons (mFrz (mVar 3)) mNil)) (mBin addD (mC (.int 1)) (mCallB sumD (mCons c_law_right_2 mNil)))) (mRet (mFrz (mC (.bl false)))) mNext)
  (mSeq (mAsg (mFrz (mCall [true, false] f_law_choice (mCons (mVar 0) (mCons (mFrz (mVar 2)) mNil)))) (asgn 4))
  (mSeq (mIfS (mOr (mCmp (notD isD) (mCall [false] f_is_even (mCons (mFrz (mUn revD (mVar 4))) mNil)) (mC (.bl true))) (mCmp (notD isD) (mCall [false] f_is_even (mCons (mFrz (mCall [false] f_law_swapped (mCons (mFrz (mVar 4)) mNil))) mNil)) (mC (.bl true)))) (mRet (mFrz (mC (.bl false)))) mNext)
  (mSeq (mAsg (mFrz (mCall [true, false] f_law_take (mCons (mVar 0) (mCons (mFrz (mBin addD (mVar 1) (mC (.int 1)))) mNil)))) (asgn 5))
  (mSeq (mIfS (mOr (mCmp (notD isD) (mCall [false] f_is_even (mCons (mFrz (mSl (mVar 4) (mPS (mVar 5)) mPN)) mNil)) (mC (.bl true))) (mCmp (notD isD) (mCall [false] f_is_even (mCons (mFrz (mSl (mVar 4) mPN (mPS (mVar 5)))) mNil)) (mC (.bl true)))) (mRet (mFrz (mC (.bl false)))) mNext)
  (mSeq (mIfS (mOr (mCmp eqD c_law_right_3 (mList mNil)) (mCmp eqD c_law_right_4 (mList mNil))) (mRet (mFrz (mC (.bl false)))) mNext)
  (mSeq (mAsg (mFrz (mBin addD (mC (.int 1)) (mCall [true, false] f_law_take (mCons (mVar 0) (mCons (mFrz (mC (.int 30))) mNil))))) (asgn 6))
  (mSeq (mAsg (mFrz (mTup (mCons (mCall [true, false] f_law_take (mCons (mVar 0) (mCons (mFrz (mBin addD (mVar 6) (mC (.int 1)))) mNil))) (mCons (mCall [true, false] f_law_take (mCons (mVar 0) (mCons (mFrz (mVar 6)) mNil))) mNil)))) (mgTup [(asgn 7), (asgn 8)]))
  (mSeq (mAsg (mFrz (mMeth "str" joinD (mC (.str [])) (mCons c_law_right_5 mNil))) (asgn 9))
  (mSeq (mIfS (mCmp (notD isD) (mCall [false] f_is_even (mCons (mFrz (mVar 9)) mNil)) (mC (.bl true))) (mRet (mFrz (mC (.bl false)))) mNext)
  (mSeq (mAsg (mFrz (mCall [true, false] f_law_take (mCons (mVar 0) (mCons (mFrz (mC (.int 40))) mNil)))) (asgn 10))
  (mSeq (mAsg (mFrz (mBin addD (mBin addD (mSl (mVar 9) mPN (mPS (mVar 10))) (mCall [false] f_law_swapped (mCons (mFrz (mBin ixD (mVar 9) (mVar 10))) mNil))) (mSl (mVar 9) (mPS (mBin addD (mVar 10) (mC (.int 1)))) mPN))) (asgn 11))
  (mRet (mFrz (mOfB (mCmp eqD (mCall [false] f_is_even (mCons (mFrz (mVar 11)) mNil)) (mCall [false] f_law_even (mCons (mFrz (mVar 11)) mNil))))))))))))))))))))))
def f_law_right : Sem' := defOf 1 14 m_law_right
theorem sc_law_right : FnScope ["jar", "size", "every", "great", "word", "begin", "q", "p", "r", "long", "at", "bent", "letter", "i"] ["jar"] (defScope s_law_right) := ⟨rfl, rfl, rfl, by decide +kernel, rfl, by decide +kernel, by decide +kernel⟩
theorem ok_law_right {f : Addr} {fd : FuncData} (F : Fun K "_law_right" "_law_right" s_law_right f fd) (T : Txt K mg) (G_law_take : GF P w K mg base "_law_take" 1 2 f_law_take) (G_law_all_words : GF P w K mg base "_law_all_words" 1 2 f_law_all_words) (G_law_even : GF P w K mg base "_law_even" 1 1 f_law_even) (G_all_even : GF P w K mg base "all_even" 4 1 f_all_even) (G_count_even : GF P w K mg base "count_even" 3 1 f_count_even) (G_law_shared_with_none : GF P w K mg base "_law_shared_with_none" 2 1 f_law_shared_with_none) (G_law_choice : GF P w K mg base "_law_choice" 2 2 f_law_choice) (G_is_even : GF P w K mg base "is_even" 3 1 f_is_even) (G_law_swapped : GF P w K mg base "_law_swapped" 1 1 f_law_swapped) : FnOk P w K mg base CX0 5 f fd ["jar"] (spV K mg 1 f_law_right) :=
  fn_ok (N := ["jar", "size", "every", "great", "word", "begin", "q", "p", "r", "long", "at", "bent", "letter", "i"]) (k := 4) (m := m_law_right) F sc_law_right fun cdv A outer s H E hr =>
  (vs_cons (vs_asg (ve_frz (ve_callG [true, false] G_law_take hr (va_cons (ve_var 0) (va_cons (ve_frz ve_int) va_nil)))) (vg_name 1 sc_law_right.nd))
  (vs_cons (vs_asgF (vs_setLc (i := 2) (own := [("word", 4)]) rfl sc_law_right.nd (vi_seq (ve_callG [false, false] G_law_all_words hr (va_cons (ve_frz (ve_str [97, 98])) (va_cons (ve_frz (ve_var 1)) va_nil)))) (blkOk_by (own := [("word", 4)]) (N := ["jar", "size", "every", "great", "word", "begin", "q", "p", "r", "long", "at", "bent", "letter", "i"]) (sc := (defScope s_law_right)) (by decide +kernel)) (by decide) (fun _ _ _ _ _ => (vg_name 4 sc_law_right.nd)) (fun _ _ _ _ _ => (vts_one (vt_val (ve_callG [false] G_law_even hr (va_cons (ve_frz (ve_var 4)) va_nil))))) (fun _ _ _ _ _ => (ve_var 4))))
  (vs_cons (vs_if (vt_w (vw_or (vt_op (oc_ne (units64 hr)) (ve_callG [false] G_all_even hr (va_cons (ve_frz (ve_var 1)) va_nil)) (ve_callTy cx_tuple T.b_tuple (va_cons (ve_var 2) va_nil))) (vw_or1 (vt_op (oc_ne (units64 hr)) (ve_callG [false] G_count_even hr (va_cons (ve_frz (ve_var 1)) va_nil)) (ve_callB cx_len T.b_len (va_cons (ve_var 2) va_nil)))))) (vs_one (vs_ret (ve_frz ve_bl))) vs_nil)
  (vs_cons (vs_asg (ve_frz (ve_callG [true, false] G_law_take hr (va_cons (ve_var 0) (va_cons (ve_frz ve_int) va_nil)))) (vg_name 3 sc_law_right.nd))
  (vs_cons (vs_if (vt_op (oc_ne (units64 hr)) (ve_callG [false] G_count_even hr (va_cons (ve_frz (ve_var 3)) va_nil)) (ve_op ox_add ve_int (ve_callB (cx_sum rfl) T.b_sum (va_cons (ve_lcE (own := [("i", 13)]) rfl sc_law_right.nd (vi_range2 T.b_range (va_cons ve_int (va_cons (ve_op ox_add (ve_var 3) ve_int) va_nil))) (blkOk_by (own := [("i", 13)]) (N := ["jar", "size", "every", "great", "word", "begin", "q", "p", "r", "long", "at", "bent", "letter", "i"]) (sc := (defScope s_law_right)) (by decide +kernel)) (by decide) (fun _ _ _ _ _ => (vg_name 13 sc_law_right.nd)) (fun _ _ _ _ _ => vts_nil) (fun _ _ _ _ _ => (ve_op ox_mul (ve_op ox_add (ve_op ox_sub (ve_var 3) (ve_var 13)) ve_int) (ve_callG [false] G_law_shared_with_none hr (va_cons (ve_frz (ve_var 13)) va_nil))))) va_nil)))) (vs_one (vs_ret (ve_frz ve_bl))) vs_nil)
  (vs_cons (vs_asg (ve_frz (ve_callG [true, false] G_law_choice hr (va_cons (ve_var 0) (va_cons (ve_frz (ve_var 2)) va_nil)))) (vg_name 4 sc_law_right.nd))
  (vs_cons (vs_if (vt_w (vw_or (vt_op oc_isNot (ve_callG [false] G_is_even hr (va_cons (ve_frz (ve_rev (ve_var 4))) va_nil)) ve_bl) (vw_or1 (vt_op oc_isNot (ve_callG [false] G_is_even hr (va_cons (ve_frz (ve_callG [false] G_law_swapped hr (va_cons (ve_frz (ve_var 4)) va_nil))) va_nil)) ve_bl)))) (vs_one (vs_ret (ve_frz ve_bl))) vs_nil)
  (vs_cons (vs_asg (ve_frz (ve_callG [true, false] G_law_take hr (va_cons (ve_var 0) (va_cons (ve_frz (ve_op ox_add (ve_var 1) ve_int)) va_nil)))) (vg_name 5 sc_law_right.nd))
  (vs_cons (vs_if (vt_w (vw_or (vt_op oc_isNot (ve_callG [false] G_is_even hr (va_cons (ve_frz (ve_slice (ve_var 4) (vo_some (ve_var 5)) vo_none)) va_nil)) ve_bl) (vw_or1 (vt_op oc_isNot (ve_callG [false] G_is_even hr (va_cons (ve_frz (ve_slice (ve_var 4) vo_none (vo_some (ve_var 5)))) va_nil)) ve_bl)))) (vs_one (vs_ret (ve_frz ve_bl))) vs_nil)
  (vs_cons (vs_if (vt_w (vw_or (vt_op (oc_eq (units64 hr)) (ve_lcE (own := [("letter", 12)]) rfl sc_law_right.nd (vi_seq (ve_str [97, 98])) (blkOk_by (own := [("letter", 12)]) (N := ["jar", "size", "every", "great", "word", "begin", "q", "p", "r", "long", "at", "bent", "letter", "i"]) (sc := (defScope s_law_right)) (by decide +kernel)) (by decide) (fun _ _ _ _ _ => (vg_name 12 sc_law_right.nd)) (fun _ _ _ _ _ => (vts_one (vt_val (ve_callG [false] G_is_even hr (va_cons (ve_frz (ve_op ox_add (ve_var 4) (ve_var 12))) va_nil))))) (fun _ _ _ _ _ => (ve_var 12))) (ve_list va_nil)) (vw_or1 (vt_op (oc_eq (units64 hr)) (ve_lcE (own := [("letter", 12)]) rfl sc_law_right.nd (vi_seq (ve_str [97, 98])) (blkOk_by (own := [("letter", 12)]) (N := ["jar", "size", "every", "great", "word", "begin", "q", "p", "r", "long", "at", "bent", "letter", "i"]) (sc := (defScope s_law_right)) (by decide +kernel)) (by decide) (fun _ _ _ _ _ => (vg_name 12 sc_law_right.nd)) (fun _ _ _ _ _ => (vts_one (vt_val (ve_callG [false] G_is_even hr (va_cons (ve_frz (ve_op ox_add (ve_var 12) (ve_var 4))) va_nil))))) (fun _ _ _ _ _ => (ve_var 12))) (ve_list va_nil))))) (vs_one (vs_ret (ve_frz ve_bl))) vs_nil)
  (vs_cons (vs_asg (ve_frz (ve_op ox_add ve_int (ve_callG [true, false] G_law_take hr (va_cons (ve_var 0) (va_cons (ve_frz ve_int) va_nil))))) (vg_name 6 sc_law_right.nd))
  (vs_cons (vs_asg (ve_frz (ve_tup (va_cons (ve_callG [true, false] G_law_take hr (va_cons (ve_var 0) (va_cons (ve_frz (ve_op ox_add (ve_var 6) ve_int)) va_nil))) (va_cons (ve_callG [true, false] G_law_take hr (va_cons (ve_var 0) (va_cons (ve_frz (ve_var 6)) va_nil))) va_nil)))) (vg_tup rfl (vgs_cons (vg_name 7 sc_law_right.nd) (vgs_cons (vg_name 8 sc_law_right.nd) vgs_nil))))
  (vs_cons (vs_asg (ve_frz (ve_meth mx_join PySem.F.plainAttrs_str PySem.F.slot_str_join PySem.F.type_str_join (ve_str []) (va_cons (ve_lcE (own := [("at", 10)]) rfl sc_law_right.nd (vi_range1 T.b_range (va_cons ve_int va_nil)) (blkOk_by (own := [("at", 10)]) (N := ["jar", "size", "every", "great", "word", "begin", "q", "p", "r", "long", "at", "bent", "letter", "i"]) (sc := (defScope s_law_right)) (by decide +kernel)) (by decide) (fun _ _ _ _ _ => (vg_name 10 sc_law_right.nd)) (fun _ _ _ _ _ => vts_nil) (fun _ _ _ _ _ => (ve_if (vt_op (oc_eq (units64 hr)) (ve_op ox_sub (ve_op ox_fdiv (ve_op ox_add (ve_op ox_mul (ve_op ox_add (ve_var 10) ve_int) (ve_var 7)) (ve_var 8)) (ve_var 6)) (ve_op ox_fdiv (ve_op ox_add (ve_op ox_mul (ve_var 10) (ve_var 7)) (ve_var 8)) (ve_var 6))) ve_int) (ve_str [98]) (ve_str [97])))) va_nil))) (vg_name 9 sc_law_right.nd))
  (vs_cons (vs_if (vt_op oc_isNot (ve_callG [false] G_is_even hr (va_cons (ve_frz (ve_var 9)) va_nil)) ve_bl) (vs_one (vs_ret (ve_frz ve_bl))) vs_nil)
  (vs_cons (vs_asg (ve_frz (ve_callG [true, false] G_law_take hr (va_cons (ve_var 0) (va_cons (ve_frz ve_int) va_nil)))) (vg_name 10 sc_law_right.nd))
  (vs_cons (vs_asg (ve_frz (ve_op ox_add (ve_op ox_add (ve_slice (ve_var 9) vo_none (vo_some (ve_var 10))) (ve_callG [false] G_law_swapped hr (va_cons (ve_frz (ve_ix (ve_var 9) (ve_var 10))) va_nil))) (ve_slice (ve_var 9) (vo_some (ve_op ox_add (ve_var 10) ve_int)) vo_none))) (vg_name 11 sc_law_right.nd))
  (vs_one (vs_ret (ve_frz (ve_opc (oc_eq (units64 hr)) (ve_callG [false] G_is_even hr (va_cons (ve_frz (ve_var 11)) va_nil)) (ve_callG [false] G_law_even hr (va_cons (ve_frz (ve_var 11)) va_nil))))))))))))))))))))))
abbrev s_law : Stmt := top 30
/- law: 0 script, 1 spot, 2 jar, 3 size | inout [0] fresh 0 level 6 -/
def b_law_1 : MS :=
  (mSeq (mAsg (mCall [false, false] f_law_jar (mCons (mFrz (mVar 0)) (mCons (mFrz (mVar 1)) mNil))) (asgn 2))
  (mIfS (mOr (mNot (mTest (mCall [true] f_law_right (mCons (mVar 2) mNil)))) (mNot (mTest (mCall [true] f_law_right (mCons (mVar 2) mNil))))) (mRet (mFrz (mC (.bl false)))) mNext))
def c_law_1 : M :=
  (mLc [3] (miR1 (mCons (mC (.int 7)) mNil)) (asgn 3) mYes (mCall [false] f_count_even (mCons (mFrz (mVar 3)) mNil)))
def m_law : MS :=
  (mSeq (mFor (miR1 (mCons (mCallB maxD (mCons (mC (.int 1)) (mCons (mCallB minD (mCons (mC (.int 3)) (mCons (mCallB lenD (mCons (mVar 0) mNil)) mNil))) mNil))) mNil)) (asgn 1) b_law_1)
  (mRet (mFrz (mOfB (mAnd (mCmp eqD c_law_1 (mList (mCons (mC (.int 1)) (mCons (mC (.int 2)) (mCons (mC (.int 4)) (mCons (mC (.int 8)) (mCons (mC (.int 14)) (mCons (mC (.int 24)) (mCons (mC (.int 36)) mNil))))))))) (mAnd (mCmp eqD (mCall [false] f_all_even (mCons (mFrz (mC (.int 2))) mNil)) (mTup (mCons (mC (.str [97, 97])) (mCons (mC (.str [97, 98])) (mCons (mC (.str [98, 97])) (mCons (mC (.str [98, 98])) mNil)))))) (mCmp eqD (mCall [false] f_all_even (mCons (mFrz (mC (.int 0))) mNil)) (mTup (mCons (mC (.str [])) mNil)))))))))
def f_law : Sem' := defOf 1 4 m_law
theorem sc_law : FnScope ["script", "spot", "jar", "size"] ["script"] (defScope s_law) := ⟨rfl, rfl, rfl, by decide +kernel, rfl, by decide +kernel, by decide +kernel⟩
theorem ok_law {f : Addr} {fd : FuncData} (F : Fun K "law" "law" s_law f fd) (T : Txt K mg) (G_law_jar : GF P w K mg base "_law_jar" 1 2 f_law_jar) (G_law_right : GF P w K mg base "_law_right" 5 1 f_law_right) (G_count_even : GF P w K mg base "count_even" 3 1 f_count_even) (G_all_even : GF P w K mg base "all_even" 4 1 f_all_even) : FnOk P w K mg base CX0 6 f fd ["script"] (spV K mg 1 f_law) :=
  fn_ok (N := ["script", "spot", "jar", "size"]) (k := 5) (m := m_law) F sc_law fun cdv A outer s H E hr =>
  (vs_cons (vs_for PassesOwn.never rfl (vi_range1 T.b_range (va_cons (ve_callB (cx_max rfl) T.b_max (va_cons ve_int (va_cons (ve_callB (cx_min rfl) T.b_min (va_cons ve_int (va_cons (ve_callB cx_len T.b_len (va_cons (ve_var 0) va_nil)) va_nil))) va_nil))) va_nil)) (vg_name 1 sc_law.nd) (vs_cons (vs_asg (ve_callG [false, false] G_law_jar hr (va_cons (ve_frz (ve_var 0)) (va_cons (ve_frz (ve_var 1)) va_nil))) (vg_name 2 sc_law.nd))
  (vs_one (vs_if (vt_w (vw_or (vt_not (vt_val (ve_callG [true] G_law_right hr (va_cons (ve_var 2) va_nil)))) (vw_or1 (vt_not (vt_val (ve_callG [true] G_law_right hr (va_cons (ve_var 2) va_nil))))))) (vs_one (vs_ret (ve_frz ve_bl))) vs_nil))))
  (vs_one (vs_ret (ve_frz (ve_and (ve_opc (oc_eq (units64 hr)) (ve_lcE (own := [("size", 3)]) rfl sc_law.nd (vi_range1 T.b_range (va_cons ve_int va_nil)) (blkOk_by (own := [("size", 3)]) (N := ["script", "spot", "jar", "size"]) (sc := (defScope s_law)) (by decide +kernel)) (by decide) (fun _ _ _ _ _ => (vg_name 3 sc_law.nd)) (fun _ _ _ _ _ => vts_nil) (fun _ _ _ _ _ => (ve_callG [false] G_count_even hr (va_cons (ve_frz (ve_var 3)) va_nil)))) (ve_list (va_cons ve_int (va_cons ve_int (va_cons ve_int (va_cons ve_int (va_cons ve_int (va_cons ve_int (va_cons ve_int va_nil))))))))) (ve_and (ve_opc (oc_eq (units64 hr)) (ve_callG [false] G_all_even hr (va_cons (ve_frz ve_int) va_nil)) (ve_tup (va_cons (ve_str [97, 97]) (va_cons (ve_str [97, 98]) (va_cons (ve_str [98, 97]) (va_cons (ve_str [98, 98]) va_nil)))))) (ve_one (ve_opc (oc_eq (units64 hr)) (ve_callG [false] G_all_even hr (va_cons (ve_frz ve_int) va_nil)) (ve_tup (va_cons (ve_str []) va_nil))))))))))
end
theorem all_mk {l : PySem.W.OpenLaw} {w : World} {K : PySem.W.Frag} {h : Heap} {mg : Str → Option Value} {fa f0 f1 f2 f3 f4 f5 f6 f7 f8 f9 f10 f11 f12 f13 f14 f15 f16 f17 f18 f19 f20 f21 : Addr} (X : K.In h) (G : h.Ns mainGlobals mg) (hfa : mg "law" = some (.ref fa))
    {od0 an0 od1 an1 od2 an2 od3 an3 od4 an4 od5 an5 od6 an6 od7 an7 od8 an8 od9 an9 od10 an10 od11 an11 od12 an12 od13 an13 od14 an14 od15 an15 od16 an16 od17 an17 od18 an18 od19 an19 od20 an20 od21 an21 : Option Addr} {sl0 sl1 sl2 sl3 sl4 sl5 sl6 sl7 sl8 sl9 sl10 sl11 sl12 sl13 sl14 sl15 sl16 sl17 sl18 sl19 sl20 sl21 : Array (Option Value)} {oc0 kV0 dc0 pm0 cd0 ct0 oc1 kV1 dc1 pm1 cd1 ct1 oc2 kV2 dc2 pm2 cd2 ct2 oc3 kV3 dc3 pm3 cd3 ct3 oc4 kV4 dc4 pm4 cd4 ct4 oc5 kV5 dc5 pm5 cd5 ct5 oc6 kV6 dc6 pm6 cd6 ct6 oc7 kV7 dc7 pm7 cd7 ct7 oc8 kV8 dc8 pm8 cd8 ct8 oc9 kV9 dc9 pm9 cd9 ct9 oc10 kV10 dc10 pm10 cd10 ct10 oc11 kV11 dc11 pm11 cd11 ct11 oc12 kV12 dc12 pm12 cd12 ct12 oc13 kV13 dc13 pm13 cd13 ct13 oc14 kV14 dc14 pm14 cd14 ct14 oc15 kV15 dc15 pm15 cd15 ct15 oc16 kV16 dc16 pm16 cd16 ct16 oc17 kV17 dc17 pm17 cd17 ct17 oc18 kV18 dc18 pm18 cd18 ct18 oc19 kV19 dc19 pm19 cd19 ct19 oc20 kV20 dc20 pm20 cd20 ct20 oc21 kV21 dc21 pm21 cd21 ct21 : Value} {t0 t1 t2 : Tok}
    (a0 : PySem.W.nsIn K mainGlobals "_law_jar" = some (some (.ref f0)))
    (l0 : K.lookup f0 = some ⟨oc0, od0, .func (PySem.W.fnOf "_law_jar" "_law_jar" (defArgs s_law_jar) (defBody s_law_jar) (defScope s_law_jar) .none kV0 dc0 pm0 an0 cd0 ct0), sl0⟩) (c0 : PySem.W.codeIn K cd0 "_law_jar" = true) (k0 : PySem.W.keepIn K (.ref f0) = true)
    (a1 : PySem.W.nsIn K mainGlobals "_law_all_words" = some (some (.ref f1)))
    (l1 : K.lookup f1 = some ⟨oc1, od1, .func (PySem.W.fnOf "_law_all_words" "_law_all_words" (defArgs s_law_all_words) (defBody s_law_all_words) (defScope s_law_all_words) .none kV1 dc1 pm1 an1 cd1 ct1), sl1⟩) (c1 : PySem.W.codeIn K cd1 "_law_all_words" = true) (k1 : PySem.W.keepIn K (.ref f1) = true)
    (a2 : PySem.W.nsIn K mainGlobals "_law_take" = some (some (.ref f2)))
    (l2 : K.lookup f2 = some ⟨oc2, od2, .func (PySem.W.fnOf "_law_take" "_law_take" (defArgs s_law_take) (defBody s_law_take) (defScope s_law_take) .none kV2 dc2 pm2 an2 cd2 ct2), sl2⟩) (c2 : PySem.W.codeIn K cd2 "_law_take" = true) (k2 : PySem.W.keepIn K (.ref f2) = true)
    (a3 : PySem.W.nsIn K mainGlobals "_law_choice" = some (some (.ref f3)))
    (l3 : K.lookup f3 = some ⟨oc3, od3, .func (PySem.W.fnOf "_law_choice" "_law_choice" (defArgs s_law_choice) (defBody s_law_choice) (defScope s_law_choice) .none kV3 dc3 pm3 an3 cd3 ct3), sl3⟩) (c3 : PySem.W.codeIn K cd3 "_law_choice" = true) (k3 : PySem.W.keepIn K (.ref f3) = true)
    (a4 : PySem.W.nsIn K mainGlobals "_law_even" = some (some (.ref f4)))
    (l4 : K.lookup f4 = some ⟨oc4, od4, .func (PySem.W.fnOf "_law_even" "_law_even" (defArgs s_law_even) (defBody s_law_even) (defScope s_law_even) .none kV4 dc4 pm4 an4 cd4 ct4), sl4⟩) (c4 : PySem.W.codeIn K cd4 "_law_even" = true) (k4 : PySem.W.keepIn K (.ref f4) = true)
    (a5 : PySem.W.nsIn K mainGlobals "_law_divisor" = some (some (.ref f5)))
    (l5 : K.lookup f5 = some ⟨oc5, od5, .func (PySem.W.fnOf "_law_divisor" "_law_divisor" (defArgs s_law_divisor) (defBody s_law_divisor) (defScope s_law_divisor) .none kV5 dc5 pm5 an5 cd5 ct5), sl5⟩) (c5 : PySem.W.codeIn K cd5 "_law_divisor" = true) (k5 : PySem.W.keepIn K (.ref f5) = true)
    (a6 : PySem.W.nsIn K mainGlobals "_law_shared_with_none" = some (some (.ref f6)))
    (l6 : K.lookup f6 = some ⟨oc6, od6, .func (PySem.W.fnOf "_law_shared_with_none" "_law_shared_with_none" (defArgs s_law_shared_with_none) (defBody s_law_shared_with_none) (defScope s_law_shared_with_none) .none kV6 dc6 pm6 an6 cd6 ct6), sl6⟩) (c6 : PySem.W.codeIn K cd6 "_law_shared_with_none" = true) (k6 : PySem.W.keepIn K (.ref f6) = true)
    (a7 : PySem.W.nsIn K mainGlobals "_law_swapped" = some (some (.ref f7)))
    (l7 : K.lookup f7 = some ⟨oc7, od7, .func (PySem.W.fnOf "_law_swapped" "_law_swapped" (defArgs s_law_swapped) (defBody s_law_swapped) (defScope s_law_swapped) .none kV7 dc7 pm7 an7 cd7 ct7), sl7⟩) (c7 : PySem.W.codeIn K cd7 "_law_swapped" = true) (k7 : PySem.W.keepIn K (.ref f7) = true)
    (a8 : PySem.W.nsIn K mainGlobals "sums_of_second" = some (some (.ref f8)))
    (l8 : K.lookup f8 = some ⟨oc8, od8, .func (PySem.W.fnOf "sums_of_second" "sums_of_second" (defArgs s_sums_of_second) (defBody s_sums_of_second) (defScope s_sums_of_second) .none kV8 dc8 pm8 an8 cd8 ct8), sl8⟩) (c8 : PySem.W.codeIn K cd8 "sums_of_second" = true) (k8 : PySem.W.keepIn K (.ref f8) = true)
    (a9 : PySem.W.nsIn K mainGlobals "is_evenly" = some (some (.ref f9)))
    (l9 : K.lookup f9 = some ⟨oc9, od9, .func (PySem.W.fnOf "is_evenly" "is_evenly" (defArgs s_is_evenly) (defBody s_is_evenly) (defScope s_is_evenly) .none kV9 dc9 pm9 an9 cd9 ct9), sl9⟩) (c9 : PySem.W.codeIn K cd9 "is_evenly" = true) (k9 : PySem.W.keepIn K (.ref f9) = true)
    (a10 : PySem.W.nsIn K mainGlobals "even_words" = some (some (.ref f10)))
    (l10 : K.lookup f10 = some ⟨oc10, od10, .func (PySem.W.fnOf "even_words" "even_words" (defArgs s_even_words) (defBody s_even_words) (defScope s_even_words) .none kV10 dc10 pm10 an10 cd10 ct10), sl10⟩) (c10 : PySem.W.codeIn K cd10 "even_words" = true) (k10 : PySem.W.keepIn K (.ref f10) = true)
    (a11 : PySem.W.nsIn K mainGlobals "is_even_number" = some (some (.ref f11)))
    (l11 : K.lookup f11 = some ⟨oc11, od11, .func (PySem.W.fnOf "is_even_number" "is_even_number" (defArgs s_is_even_number) (defBody s_is_even_number) (defScope s_is_even_number) .none kV11 dc11 pm11 an11 cd11 ct11), sl11⟩) (c11 : PySem.W.codeIn K cd11 "is_even_number" = true) (k11 : PySem.W.keepIn K (.ref f11) = true)
    (a12 : PySem.W.nsIn K mainGlobals "need_even_number" = some (some (.ref f12)))
    (l12 : K.lookup f12 = some ⟨oc12, od12, .func (PySem.W.fnOf "need_even_number" "need_even_number" (defArgs s_need_even_number) (defBody s_need_even_number) (defScope s_need_even_number) .none kV12 dc12 pm12 an12 cd12 ct12), sl12⟩) (c12 : PySem.W.codeIn K cd12 "need_even_number" = true) (k12 : PySem.W.keepIn K (.ref f12) = true)
    (a13 : PySem.W.nsIn K mainGlobals "all_even" = some (some (.ref f13)))
    (l13 : K.lookup f13 = some ⟨oc13, od13, .func (PySem.W.fnOf "all_even" "all_even" (defArgs s_all_even) (defBody s_all_even) (defScope s_all_even) .none kV13 dc13 pm13 an13 cd13 ct13), sl13⟩) (c13 : PySem.W.codeIn K cd13 "all_even" = true) (k13 : PySem.W.keepIn K (.ref f13) = true)
    (a14 : PySem.W.nsIn K mainGlobals "greatest_shared" = some (some (.ref f14)))
    (l14 : K.lookup f14 = some ⟨oc14, od14, .func (PySem.W.fnOf "greatest_shared" "greatest_shared" (defArgs s_greatest_shared) (defBody s_greatest_shared) (defScope s_greatest_shared) .none kV14 dc14 pm14 an14 cd14 ct14), sl14⟩) (c14 : PySem.W.codeIn K cd14 "greatest_shared" = true) (k14 : PySem.W.keepIn K (.ref f14) = true)
    (a15 : PySem.W.nsIn K mainGlobals "without_shared" = some (some (.ref f15)))
    (l15 : K.lookup f15 = some ⟨oc15, od15, .func (PySem.W.fnOf "without_shared" "without_shared" (defArgs s_without_shared) (defBody s_without_shared) (defScope s_without_shared) .none kV15 dc15 pm15 an15 cd15 ct15), sl15⟩) (c15 : PySem.W.codeIn K cd15 "without_shared" = true) (k15 : PySem.W.keepIn K (.ref f15) = true)
    (a16 : PySem.W.nsIn K mainGlobals "count_even" = some (some (.ref f16)))
    (l16 : K.lookup f16 = some ⟨oc16, od16, .func (PySem.W.fnOf "count_even" "count_even" (defArgs s_count_even) (defBody s_count_even) (defScope s_count_even) .none kV16 dc16 pm16 an16 cd16 ct16), sl16⟩) (c16 : PySem.W.codeIn K cd16 "count_even" = true) (k16 : PySem.W.keepIn K (.ref f16) = true)
    (a17 : PySem.W.nsIn K mainGlobals "is_two_word" = some (some (.ref f17)))
    (l17 : K.lookup f17 = some ⟨oc17, od17, .func (PySem.W.fnOf "is_two_word" "is_two_word" (defArgs s_is_two_word) (defBody s_is_two_word) (defScope s_is_two_word) .none kV17 dc17 pm17 an17 cd17 ct17), sl17⟩) (c17 : PySem.W.codeIn K cd17 "is_two_word" = true) (k17 : PySem.W.keepIn K (.ref f17) = true)
    (a18 : PySem.W.nsIn K mainGlobals "need_two_word" = some (some (.ref f18)))
    (l18 : K.lookup f18 = some ⟨oc18, od18, .func (PySem.W.fnOf "need_two_word" "need_two_word" (defArgs s_need_two_word) (defBody s_need_two_word) (defScope s_need_two_word) .none kV18 dc18 pm18 an18 cd18 ct18), sl18⟩) (c18 : PySem.W.codeIn K cd18 "need_two_word" = true) (k18 : PySem.W.keepIn K (.ref f18) = true)
    (a19 : PySem.W.nsIn K mainGlobals "is_even" = some (some (.ref f19)))
    (l19 : K.lookup f19 = some ⟨oc19, od19, .func (PySem.W.fnOf "is_even" "is_even" (defArgs s_is_even) (defBody s_is_even) (defScope s_is_even) .none kV19 dc19 pm19 an19 cd19 ct19), sl19⟩) (c19 : PySem.W.codeIn K cd19 "is_even" = true) (k19 : PySem.W.keepIn K (.ref f19) = true)
    (a20 : PySem.W.nsIn K mainGlobals "_law_right" = some (some (.ref f20)))
    (l20 : K.lookup f20 = some ⟨oc20, od20, .func (PySem.W.fnOf "_law_right" "_law_right" (defArgs s_law_right) (defBody s_law_right) (defScope s_law_right) .none kV20 dc20 pm20 an20 cd20 ct20), sl20⟩) (c20 : PySem.W.codeIn K cd20 "_law_right" = true) (k20 : PySem.W.keepIn K (.ref f20) = true)
    (a21 : PySem.W.nsIn K mainGlobals "law" = some (some (.ref f21)))
    (l21 : K.lookup f21 = some ⟨oc21, od21, .func (PySem.W.fnOf "law" "law" (defArgs s_law) (defBody s_law) (defScope s_law) .none kV21 dc21 pm21 an21 cd21 ct21), sl21⟩) (c21 : PySem.W.codeIn K cd21 "law" = true) (k21 : PySem.W.keepIn K (.ref f21) = true)
    (z0 : PySem.W.nsIn K mainGlobals "len" = some none)
    (z1 : PySem.W.nsIn K mainGlobals "int" = some none)
    (z2 : PySem.W.nsIn K mainGlobals "abs" = some none)
    (z3 : PySem.W.nsIn K mainGlobals "max" = some none)
    (z4 : PySem.W.nsIn K mainGlobals "range" = some none)
    (z5 : PySem.W.nsIn K mainGlobals "list" = some none)
    (z6 : PySem.W.nsIn K mainGlobals "min" = some none)
    (z7 : PySem.W.nsIn K mainGlobals "isinstance" = some none)
    (z8 : PySem.W.nsIn K mainGlobals "bool" = some none)
    (z9 : PySem.W.nsIn K mainGlobals "tuple" = some none)
    (z10 : PySem.W.nsIn K mainGlobals "sum" = some none)
    (z11 : PySem.W.nsIn K mainGlobals "str" = some none)
    (z12 : PySem.W.nsIn K mainGlobals "all" = some none)
    (y0 : PySem.W.nsIn K mainGlobals "MOST_LISTED" = some (some (.int 10 t0)))
    (y1 : PySem.W.nsIn K mainGlobals "MOST_COUNTED" = some (some (.int 200 t1)))
    (y2 : PySem.W.nsIn K mainGlobals "MOST_EVEN" = some (some (.int 40 t2)))
    (LAW : LawOk f_law) : ∃ fd : FuncData, (∀ (s : Shared) (v : Value), BindsTo s fd ⟨[v], []⟩ [("script", v)]) ∧ ∀ base : Heap, K.In base → base.Ns mainGlobals mg → FnOk l.prog w K mg base CX0 6 fa fd ["script"] (spLaw K) := by
  have e := hfa.symm.trans (PySem.W.mg_of X G a21)
  cases e
  have T : Txt K mg := ⟨PySem.W.mg_none_of X G z0, PySem.W.mg_none_of X G z1, PySem.W.mg_none_of X G z2, PySem.W.mg_none_of X G z3, PySem.W.mg_none_of X G z4, PySem.W.mg_none_of X G z5, PySem.W.mg_none_of X G z6, PySem.W.mg_none_of X G z7, PySem.W.mg_none_of X G z8, PySem.W.mg_none_of X G z9, PySem.W.mg_none_of X G z10, PySem.W.mg_none_of X G z11, PySem.W.mg_none_of X G z12, ⟨_, PySem.W.mg_of X G y0⟩, ⟨_, PySem.W.mg_of X G y1⟩, ⟨_, PySem.W.mg_of X G y2⟩⟩
  have F0 := fun_mk (st := s_law_jar) l0 c0 k0
  have b0 := F0.binds (ps := ["script", "spot"]) fun _ _ _ _ _ _ us hl => match us, hl with | [_, _], _ => rfl
  have F1 := fun_mk (st := s_law_all_words) l1 c1 k1
  have b1 := F1.binds (ps := ["letters", "size"]) fun _ _ _ _ _ _ us hl => match us, hl with | [_, _], _ => rfl
  have F2 := fun_mk (st := s_law_take) l2 c2 k2
  have b2 := F2.binds (ps := ["jar", "total"]) fun _ _ _ _ _ _ us hl => match us, hl with | [_, _], _ => rfl
  have F3 := fun_mk (st := s_law_choice) l3 c3 k3
  have b3 := F3.binds (ps := ["jar", "items"]) fun _ _ _ _ _ _ us hl => match us, hl with | [_, _], _ => rfl
  have F4 := fun_mk (st := s_law_even) l4 c4 k4
  have b4 := F4.binds (ps := ["word"]) fun _ _ _ _ _ _ us hl => match us, hl with | [_], _ => rfl
  have F5 := fun_mk (st := s_law_divisor) l5 c5 k5
  have b5 := F5.binds (ps := ["one", "other"]) fun _ _ _ _ _ _ us hl => match us, hl with | [_, _], _ => rfl
  have F6 := fun_mk (st := s_law_shared_with_none) l6 c6 k6
  have b6 := F6.binds (ps := ["number"]) fun _ _ _ _ _ _ us hl => match us, hl with | [_], _ => rfl
  have F7 := fun_mk (st := s_law_swapped) l7 c7 k7
  have b7 := F7.binds (ps := ["word"]) fun _ _ _ _ _ _ us hl => match us, hl with | [_], _ => rfl
  have F8 := fun_mk (st := s_sums_of_second) l8 c8 k8
  have b8 := F8.binds (ps := ["word"]) fun _ _ _ _ _ _ us hl => match us, hl with | [_], _ => rfl
  have F9 := fun_mk (st := s_is_evenly) l9 c9 k9
  have b9 := F9.binds (ps := ["word"]) fun _ _ _ _ _ _ us hl => match us, hl with | [_], _ => rfl
  have F10 := fun_mk (st := s_even_words) l10 c10 k10
  have b10 := F10.binds (ps := ["number"]) fun _ _ _ _ _ _ us hl => match us, hl with | [_], _ => rfl
  have F11 := fun_mk (st := s_is_even_number) l11 c11 k11
  have b11 := F11.binds (ps := ["value"]) fun _ _ _ _ _ _ us hl => match us, hl with | [_], _ => rfl
  have F12 := fun_mk (st := s_need_even_number) l12 c12 k12
  have b12 := F12.binds (ps := ["number", "most"]) fun _ _ _ _ _ _ us hl => match us, hl with | [_, _], _ => rfl
  have F13 := fun_mk (st := s_all_even) l13 c13 k13
  have b13 := F13.binds (ps := ["number"]) fun _ _ _ _ _ _ us hl => match us, hl with | [_], _ => rfl
  have F14 := fun_mk (st := s_greatest_shared) l14 c14 k14
  have b14 := F14.binds (ps := ["one", "other"]) fun _ _ _ _ _ _ us hl => match us, hl with | [_, _], _ => rfl
  have F15 := fun_mk (st := s_without_shared) l15 c15 k15
  have b15 := F15.binds (ps := ["number"]) fun _ _ _ _ _ _ us hl => match us, hl with | [_], _ => rfl
  have F16 := fun_mk (st := s_count_even) l16 c16 k16
  have b16 := F16.binds (ps := ["number"]) fun _ _ _ _ _ _ us hl => match us, hl with | [_], _ => rfl
  have F17 := fun_mk (st := s_is_two_word) l17 c17 k17
  have b17 := F17.binds (ps := ["value"]) fun _ _ _ _ _ _ us hl => match us, hl with | [_], _ => rfl
  have F18 := fun_mk (st := s_need_two_word) l18 c18 k18
  have b18 := F18.binds (ps := ["word"]) fun _ _ _ _ _ _ us hl => match us, hl with | [_], _ => rfl
  have F19 := fun_mk (st := s_is_even) l19 c19 k19
  have b19 := F19.binds (ps := ["word"]) fun _ _ _ _ _ _ us hl => match us, hl with | [_], _ => rfl
  have F20 := fun_mk (st := s_law_right) l20 c20 k20
  have b20 := F20.binds (ps := ["jar"]) fun _ _ _ _ _ _ us hl => match us, hl with | [_], _ => rfl
  have F21 := fun_mk (st := s_law) l21 c21 k21
  refine ⟨PySem.W.fnOf "law" "law" (defArgs s_law) (defBody s_law) (defScope s_law) .none kV21 dc21 pm21 an21 cd21 ct21, fun s v => .of_eq rfl, fun base _ _ => ?_⟩
  have G_law_jar : GF l.prog w K mg base "_law_jar" 1 2 f_law_jar := ⟨f0, _, _, ok_law_jar F0 T , PySem.W.mg_of X G a0, k0, b0, defOf_len⟩
  have G_law_all_words : GF l.prog w K mg base "_law_all_words" 1 2 f_law_all_words := ⟨f1, _, _, ok_law_all_words F1 T , PySem.W.mg_of X G a1, k1, b1, defOf_len⟩
  have G_law_take : GF l.prog w K mg base "_law_take" 1 2 f_law_take := ⟨f2, _, _, ok_law_take F2 T , PySem.W.mg_of X G a2, k2, b2, defOf_len⟩
  have G_law_choice : GF l.prog w K mg base "_law_choice" 2 2 f_law_choice := ⟨f3, _, _, ok_law_choice F3 T G_law_take, PySem.W.mg_of X G a3, k3, b3, defOf_len⟩
  have G_law_even : GF l.prog w K mg base "_law_even" 1 1 f_law_even := ⟨f4, _, _, ok_law_even F4 T , PySem.W.mg_of X G a4, k4, b4, defOf_len⟩
  have G_law_divisor : GF l.prog w K mg base "_law_divisor" 1 2 f_law_divisor := ⟨f5, _, _, ok_law_divisor F5 T , PySem.W.mg_of X G a5, k5, b5, defOf_len⟩
  have G_law_shared_with_none : GF l.prog w K mg base "_law_shared_with_none" 2 1 f_law_shared_with_none := ⟨f6, _, _, ok_law_shared_with_none F6 T G_law_divisor, PySem.W.mg_of X G a6, k6, b6, defOf_len⟩
  have G_law_swapped : GF l.prog w K mg base "_law_swapped" 1 1 f_law_swapped := ⟨f7, _, _, ok_law_swapped F7 T , PySem.W.mg_of X G a7, k7, b7, defOf_len⟩
  have G_sums_of_second : GF l.prog w K mg base "sums_of_second" 1 1 f_sums_of_second := ⟨f8, _, _, ok_sums_of_second F8 T , PySem.W.mg_of X G a8, k8, b8, defOf_len⟩
  have G_is_evenly : GF l.prog w K mg base "is_evenly" 2 1 f_is_evenly := ⟨f9, _, _, ok_is_evenly F9 T G_sums_of_second, PySem.W.mg_of X G a9, k9, b9, defOf_len⟩
  have G_even_words : GF l.prog w K mg base "even_words" 3 1 f_even_words := ⟨f10, _, _, ok_even_words F10 T G_is_evenly, PySem.W.mg_of X G a10, k10, b10, defOf_len⟩
  have G_is_even_number : GF l.prog w K mg base "is_even_number" 1 1 f_is_even_number := ⟨f11, _, _, ok_is_even_number F11 T , PySem.W.mg_of X G a11, k11, b11, defOf_len⟩
  have G_need_even_number : GF l.prog w K mg base "need_even_number" 2 2 f_need_even_number := ⟨f12, _, _, ok_need_even_number F12 T G_is_even_number, PySem.W.mg_of X G a12, k12, b12, defOf_len⟩
  have G_all_even : GF l.prog w K mg base "all_even" 4 1 f_all_even := ⟨f13, _, _, ok_all_even F13 T G_need_even_number G_even_words, PySem.W.mg_of X G a13, k13, b13, defOf_len⟩
  have G_greatest_shared : GF l.prog w K mg base "greatest_shared" 1 2 f_greatest_shared := ⟨f14, _, _, ok_greatest_shared F14 T , PySem.W.mg_of X G a14, k14, b14, defOf_len⟩
  have G_without_shared : GF l.prog w K mg base "without_shared" 2 1 f_without_shared := ⟨f15, _, _, ok_without_shared F15 T G_greatest_shared, PySem.W.mg_of X G a15, k15, b15, defOf_len⟩
  have G_count_even : GF l.prog w K mg base "count_even" 3 1 f_count_even := ⟨f16, _, _, ok_count_even F16 T G_need_even_number G_without_shared, PySem.W.mg_of X G a16, k16, b16, defOf_len⟩
  have G_is_two_word : GF l.prog w K mg base "is_two_word" 1 1 f_is_two_word := ⟨f17, _, _, ok_is_two_word F17 T , PySem.W.mg_of X G a17, k17, b17, defOf_len⟩
  have G_need_two_word : GF l.prog w K mg base "need_two_word" 2 1 f_need_two_word := ⟨f18, _, _, ok_need_two_word F18 T G_is_two_word, PySem.W.mg_of X G a18, k18, b18, defOf_len⟩
  have G_is_even : GF l.prog w K mg base "is_even" 3 1 f_is_even := ⟨f19, _, _, ok_is_even F19 T G_need_two_word G_is_evenly, PySem.W.mg_of X G a19, k19, b19, defOf_len⟩
  have G_law_right : GF l.prog w K mg base "_law_right" 5 1 f_law_right := ⟨f20, _, _, ok_law_right F20 T G_law_take G_law_all_words G_law_even G_all_even G_count_even G_law_shared_with_none G_law_choice G_is_even G_law_swapped, PySem.W.mg_of X G a20, k20, b20, defOf_len⟩
  exact law_imp (ok_law F21 T G_law_jar G_law_right G_count_even G_all_even) LAW
end K60

set_option Elab.async false
set_option linter.all false
set_option maxRecDepth 100000
set_option maxHeartbeats 4000000
namespace K60
open PySem L2 VS
def ab (w : List Nat) : Bool := w.all fun c => c == 97 || c == 98
def okT (w : List Nat) : Bool := ab w && decide (w.length ≤ 40)
theorem okT_len {w : List Nat} (h : okT w = true) : w.length ≤ 40 := by
  simp only [okT, Bool.and_eq_true, decide_eq_true_eq] at h; exact h.2
theorem isnum (n : Int) (st : List SC) : f_is_even_number [.val (.int n)] st = some (.val (.bl true), st) := by
  simp [f_is_even_number, defOf_e, m_is_even_number]
theorem neednum (n k : Int) (st : List SC) (h : 0 ≤ n ∧ n ≤ k) : f_need_even_number [.val (.int n), .val (.int k)] st = some (.val .non, st) := by
  simp [f_need_even_number, defOf_e, m_need_even_number, isnum, h]
theorem isword (w : List Nat) (st : List SC) (h : okT w = true) : f_is_two_word [.val (.str w)] st = some (.val (.bl true), st) := by
  simp only [okT, ab, Bool.and_eq_true, List.all_eq_true, Bool.or_eq_true, beq_iff_eq, decide_eq_true_eq] at h
  have e : c_is_two_word_1 ⟨[.val (.str w), .un], st⟩ = some (.fresh (.lst (w.map fun c => D.bl (decide (c ∈ [97, 98])))), ⟨[.val (.str w), .un], st⟩) :=
    mLc_all (fun c => D.str [c]) w _ (by simp [signsD]) (by simp) (by have := sizeLine_big; omega) (by intro c hc; simp [turn, inD])
  have h2 : (w.length : Int) ≤ 40 := by omega
  have h3 : (w.map fun c => decide (c ∈ [97, 98])).all id = true := by
    simp only [List.all_map, List.all_eq_true]
    intro c hc
    simpa using h.1 c hc
  simp only [List.mem_cons, List.not_mem_nil, or_false] at e h3
  simp [f_is_two_word, defOf_e, m_is_two_word, e, blsOf_mapf, h2]
  simpa using h.1
theorem needword (w : List Nat) (st : List SC) (h : okT w = true) : f_need_two_word [.val (.str w)] st = some (.val .non, st) := by
  simp [f_need_two_word, defOf_e, m_need_two_word, isword w st h]
/-! sums -/
def cb (w : List Nat) : Int := (w.count 98 : Nat)
def psum (w : List Nat) : List D := (List.range (w.length + 1)).map fun j => D.int (cb (w.take j))
theorem cb_succ (w : List Nat) (i : Nat) (h : i < w.length) : cb (w.take (i + 1)) = cb (w.take i) + if w[i] = 98 then 1 else 0 := by
  unfold cb
  rw [List.take_succ_eq_append_getElem h, List.count_append]
  by_cases e : w[i] = 98
  · simp [e]
  · simp [e, List.count_singleton]
theorem sums_eq (w : List Nat) (st : List SC) (h : w.length ≤ 40) : f_sums_of_second [.val (.str w)] st = some (.val (.lst (psum w)), st) := by
  obtain ⟨Γ', e, c, rfl⟩ := forD_inv (g := asgn 2) (b := b_sums_of_second_1)
    (fun i Γ => ∃ c, Γ = ⟨[.val (.str w), .own (.lst ((List.range (i + 1)).map fun j => D.int (cb (w.take j)))), c], st⟩) (signsD w) (by
      rintro i hi Γ ⟨c, rfl⟩
      have hi' : i < w.length := by simpa using hi
      refine ⟨_, _, rfl, .inl ?_, .val (.str [w[i]]), rfl⟩
      have h1 : atI ((List.range (i + 1)).map fun j => D.int (cb (w.take j))) (-1) = some (D.int (cb (w.take i))) := by
        rw [atLast, List.range_succ, List.map_append]; simp
      have h2 : i + 1 < sizeLine := by have := sizeLine_big; omega
      have h3 := cb_succ w i hi'
      rw [List.range_succ (n := i + 1), List.map_append]
      by_cases e : w[i] = 98
      · simp [b_sums_of_second_1, h1, e, h2] at h3 ⊢
        rw [← h3]
      · simp [b_sums_of_second_1, h1, e, h2] at h3 ⊢
        rw [← h3]) (Γ := ⟨[.val (.str w), .own (.lst [.int 0]), .un], st⟩) ⟨.un, by simp [cb]⟩
  simp only [signsD_length] at e
  have : 1 ≤ sizeLine := by decide
  simp [f_sums_of_second, defOf_e, m_sums_of_second, mFor, e, this, psum]
def wl (w : List Nat) (s : Nat) : List Int := (List.range (w.length - s + 1)).map fun a => cb ((w.drop a).take s)
def good (w : List Nat) (s : Nat) : Bool := decide (maxI (wl w s) - minI (wl w s) ≤ 1)
def evenB (w : List Nat) : Bool := (List.range w.length).all fun k => good w (k + 1)
theorem cb_win (w : List Nat) (a s : Nat) : cb (w.take (a + s)) - cb (w.take a) = cb ((w.drop a).take s) := by
  unfold cb
  rw [List.take_add, List.count_append]
  omega
theorem wl_ne (w : List Nat) (s : Nat) : wl w s ≠ [] := by
  unfold wl
  simp
theorem evenly_c (w : List Nat) (st : List SC) (h : w.length ≤ 40) (i : Nat) (hi : i < w.length) (d : Cell) : c_is_evenly_1 ⟨[.val (.str w), .val (.lst (psum w)), .val (.int (1 + (i : Nat))), d, .un], st⟩
    = some (.fresh (.lst ((wl w (i + 1)).map D.int)), ⟨[.val (.str w), .val (.lst (psum w)), .val (.int (1 + (i : Nat))), d, .un], st⟩) := by
  have big := sizeLine_big
  refine (mLc_all0 (fun a : Nat => D.int (0 + (a : Nat))) (List.range (w.length - (i + 1) + 1)) (fun a => D.int (cb ((w.drop a).take (i + 1)))) (miR1_n (w.length - (i + 1) + 1) (by simp; rfl) (by omega) (by omega)) (by simp) (by simp; omega) ?_).trans (by simp [wl, Function.comp_def])
  intro a ha
  have ha' := List.mem_range.mp ha
  have h1 : atI (psum w) ((a : Int) + (1 + (i : Nat))) = some (D.int (cb (w.take (a + (i + 1))))) := by
    rw [show ((a : Int) + (1 + (i : Nat))) = ((a + (i + 1) : Nat) : Int) by omega, atN]
    simp [psum, show a + (i + 1) < w.length + 1 by omega]
  have h2 : atI (psum w) (a : Int) = some (D.int (cb (w.take a))) := by
    rw [atN]
    simp [psum, show a < w.length + 1 by omega]
  simp [turn, h1, h2, cb_win]
theorem evenly_b (w : List Nat) (st : List SC) (h : w.length ≤ 40) (i : Nat) (hi : i < w.length) (d : Cell) : b_is_evenly_1 ⟨[.val (.str w), .val (.lst (psum w)), .val (.int (1 + (i : Nat))), d, .un], st⟩
      = some (if good w (i + 1) = true then .nx else .ret (.val (.bl false)), ⟨[.val (.str w), .val (.lst (psum w)), .val (.int (1 + (i : Nat))), .val (.lst ((wl w (i + 1)).map D.int)), .un], st⟩) := by
  have e := evenly_c w st h i hi d
  by_cases hg : good w (i + 1) = true
  · have hg' : ¬ (1 < maxI (wl w (i + 1)) - minI (wl w (i + 1))) := by
      simp only [good, decide_eq_true_eq] at hg; omega
    simp [b_is_evenly_1, e, wl_ne, hg', hg]
  · have hg' : (1 < maxI (wl w (i + 1)) - minI (wl w (i + 1))) := by
      simp only [good, decide_eq_true_eq] at hg; omega
    simp [b_is_evenly_1, e, wl_ne, hg', hg]
theorem evenly_eq (w : List Nat) (st : List SC) (h : w.length ≤ 40) : f_is_evenly [.val (.str w)] st = some (.val (.bl (evenB w)), st) := by
  obtain ⟨Γ', e, c, d, rfl⟩ := forD_good (g := asgn 2) (b := b_is_evenly_1) (fun Γ => ∃ c d, Γ = ⟨[.val (.str w), .val (.lst (psum w)), c, d, .un], st⟩) (.val (.bl false)) (rangeD 1 w.length) (fun k => good w (k + 1))
    (by
      rintro i hi Γ ⟨c, d, rfl⟩
      have hi' : i < w.length := by simpa using hi
      exact ⟨_, _, rfl, by rw [rangeD_get]; exact evenly_b w st h i hi' d, _, _, rfl⟩) (Γ := ⟨[.val (.str w), .val (.lst (psum w)), .un, .un, .un], st⟩) ⟨_, _, rfl⟩
  rw [rangeD_length] at e
  unfold evenB
  generalize (List.range w.length).all (fun k => good w (k + 1)) = q at e ⊢
  have e0 : mFrz (mCall [false] f_sums_of_second (mCons (mFrz (mVar 0)) mNil)) ⟨[.val (.str w), .un, .un, .un, .un], st⟩ = some (.val (.lst (psum w)), ⟨[.val (.str w), .un, .un, .un, .un], st⟩) := by
    simp [sums_eq w st h]
  cases q with
  | true => exact def_ret rfl (seq_nx (asg_in e0 rfl) (seq_nx (for_in (miR2_n w.length (by simp; rfl) (by omega) (by omega) (by omega) (by omega) (by omega)) e) (ret_in rfl))) rfl
  | false => exact def_ret rfl (seq_nx (asg_in e0 rfl) (seq_ret (for_in (miR2_n w.length (by simp; rfl) (by omega) (by omega) (by omega) (by omega) (by omega)) e))) rfl
end K60

set_option Elab.async false
set_option linter.all false
set_option maxRecDepth 100000
set_option maxHeartbeats 4000000
namespace K60
open PySem L2 VS
/-! the law's own test of evenness -/
theorem leven_c (w : List Nat) (st : List SC) (h : w.length ≤ 40) (i : Nat) (hi : i < w.length - 1) (d : Cell) : c_law_even_1 ⟨[.val (.str w), .val (.int (1 + (i : Nat))), d, .un], st⟩
    = some (.fresh (.lst ((wl w (i + 1)).map D.int)), ⟨[.val (.str w), .val (.int (1 + (i : Nat))), d, .un], st⟩) := by
  have big := sizeLine_big
  refine (mLc_all0 (fun a : Nat => D.int (0 + (a : Nat))) (List.range (w.length - (i + 1) + 1)) (fun a => D.int (cb ((w.drop a).take (i + 1)))) (miR1_n (w.length - (i + 1) + 1) (by simp; rfl) (by omega) (by omega)) (by simp) (by simp; omega) ?_).trans (by simp [wl, Function.comp_def])
  intro a ha
  have ha' := List.mem_range.mp ha
  have h1 : cutL w (some (a : Int)) (some ((a : Int) + (1 + (i : Nat)))) = (w.drop a).take (i + 1) := by
    rw [show ((a : Int) + (1 + (i : Nat))) = ((a + (i + 1) : Nat) : Int) by omega, cutL_ab]
    congr 1
    omega
  simp [turn, h1, countS_one, cb]
theorem leven_b (w : List Nat) (st : List SC) (h : w.length ≤ 40) (i : Nat) (hi : i < w.length - 1) (d : Cell) : b_law_even_1 ⟨[.val (.str w), .val (.int (1 + (i : Nat))), d, .un], st⟩
      = some (if good w (i + 1) = true then .nx else .ret (.val (.bl false)), ⟨[.val (.str w), .val (.int (1 + (i : Nat))), .val (.lst ((wl w (i + 1)).map D.int)), .un], st⟩) := by
  have e := leven_c w st h i hi d
  by_cases hg : good w (i + 1) = true
  · have hg' : ¬ (1 < maxI (wl w (i + 1)) - minI (wl w (i + 1))) := by
      simp only [good, decide_eq_true_eq] at hg; omega
    simp [b_law_even_1, e, wl_ne, hg', hg]
  · have hg' : (1 < maxI (wl w (i + 1)) - minI (wl w (i + 1))) := by
      simp only [good, decide_eq_true_eq] at hg; omega
    simp [b_law_even_1, e, wl_ne, hg', hg]
theorem good_whole (w : List Nat) : good w w.length = true := by
  simp [good, wl, maxI, minI]
theorem evenB_less (w : List Nat) : (List.range (w.length - 1)).all (fun k => good w (k + 1)) = evenB w := by
  unfold evenB
  cases h : w.length with
  | zero => rfl
  | succ n =>
    have hg := good_whole w
    rw [h] at hg
    rw [show n + 1 - 1 = n by omega, List.range_succ, List.all_append]
    simp [hg]
theorem leven_eq (w : List Nat) (st : List SC) (h : w.length ≤ 40) : f_law_even [.val (.str w)] st = some (.val (.bl (evenB w)), st) := by
  obtain ⟨Γ', e, c, d, rfl⟩ := forD_good (g := asgn 1) (b := b_law_even_1) (fun Γ => ∃ c d, Γ = ⟨[.val (.str w), c, d, .un], st⟩) (.val (.bl false)) (rangeD 1 (w.length - 1)) (fun k => good w (k + 1))
    (by
      rintro i hi Γ ⟨c, d, rfl⟩
      have hi' : i < w.length - 1 := by simpa using hi
      exact ⟨_, _, rfl, by rw [rangeD_get]; exact leven_b w st h i hi' d, _, _, rfl⟩) (Γ := ⟨[.val (.str w), .un, .un, .un], st⟩) ⟨_, _, rfl⟩
  rw [rangeD_length, evenB_less] at e
  generalize evenB w = q at e ⊢
  cases q with
  | true => exact def_ret rfl (seq_nx (for_in (miR2_n (w.length - 1) (by simp; rfl) (by omega) (by omega) (by omega) (by omega) (by omega)) e) (ret_in rfl)) rfl
  | false => exact def_ret rfl (seq_ret (for_in (miR2_n (w.length - 1) (by simp; rfl) (by omega) (by omega) (by omega) (by omega) (by omega)) e)) rfl
/-! greatest shared -/
theorem gs_eq (a b : Nat) (st : List SC) (hb : b ≤ 1000) : f_greatest_shared [.val (.int a), .val (.int b)] st = some (.val (.int (Nat.gcd a b : Nat)), st) := by
  obtain ⟨k', Γ1, Γ', h1, h2, ⟨a', b', rfl, hb', hg⟩, e⟩ := whileD_inv (t := t_greatest_shared_1) (b := b_greatest_shared_1) (fun k Γ => ∃ a' b' : Nat, Γ = ⟨[.val (.int a'), .val (.int b')], st⟩ ∧ k = b' ∧ Nat.gcd a' b' = Nat.gcd a b) (by
    rintro k Γ ⟨a', b', rfl, rfl, hg⟩
    by_cases h0 : k = 0
    · subst h0
      exact .inl ⟨_, by simp [t_greatest_shared_1], a', 0, rfl, rfl, hg⟩
    · have h0' : 0 < k := by omega
      have h1 : (0 : Int) < (k : Int) := by omega
      refine .inr ⟨⟨[.val (.int a'), .val (.int k)], st⟩, ⟨[.val (.int k), .val (.int (a' % k : Nat))], st⟩, a' % k, ?_, .inl ?_, Nat.mod_lt _ h0', k, a' % k, rfl, rfl, ?_⟩
      · simp [t_greatest_shared_1, h0']
      · simp [b_greatest_shared_1, h0']
      · rw [← hg, Nat.gcd_comm a' k, Nat.gcd_rec k a', Nat.gcd_comm]) fuel b ⟨[.val (.int a), .val (.int b)], st⟩ (by unfold fuel; omega) ⟨a, b, rfl, rfl, rfl⟩
  subst hb'
  rw [Nat.gcd_zero_right] at hg
  subst hg
  exact def_ret rfl (seq_nx e (ret_in rfl)) rfl
theorem ld_eq (a b : Nat) (st : List SC) (hb : b ≤ 1000) : f_law_divisor [.val (.int a), .val (.int b)] st = some (.val (.int (Nat.gcd a b : Nat)), st) := by
  obtain ⟨k', Γ1, Γ', h1, h2, ⟨a', b', rfl, hb', hg⟩, e⟩ := whileD_inv (t := t_law_divisor_1) (b := b_law_divisor_1) (fun k Γ => ∃ a' b' : Nat, Γ = ⟨[.val (.int a'), .val (.int b')], st⟩ ∧ k = b' ∧ Nat.gcd a' b' = Nat.gcd a b) (by
    rintro k Γ ⟨a', b', rfl, rfl, hg⟩
    by_cases h0 : k = 0
    · subst h0
      exact .inl ⟨_, by simp [t_law_divisor_1], a', 0, rfl, rfl, hg⟩
    · have h0' : 0 < k := by omega
      have h1 : (0 : Int) < (k : Int) := by omega
      refine .inr ⟨⟨[.val (.int a'), .val (.int k)], st⟩, ⟨[.val (.int k), .val (.int (a' % k : Nat))], st⟩, a' % k, ?_, .inl ?_, Nat.mod_lt _ h0', k, a' % k, rfl, rfl, ?_⟩
      · simp [t_law_divisor_1, h0']
      · simp [b_law_divisor_1, h0']
      · rw [← hg, Nat.gcd_comm a' k, Nat.gcd_rec k a', Nat.gcd_comm]) fuel b ⟨[.val (.int a), .val (.int b)], st⟩ (by unfold fuel; omega) ⟨a, b, rfl, rfl, rfl⟩
  subst hb'
  rw [Nat.gcd_zero_right] at hg
  subst hg
  exact def_ret rfl (seq_nx e (ret_in rfl)) rfl
def phi (n : Nat) : Nat := ((List.range n).filter fun i => Nat.gcd (i + 1) n == 1).length
theorem ws_eq (n : Nat) (st : List SC) (hn : n ≤ 1000) : f_without_shared [.val (.int n)] st = some (.val (.int (phi n : Nat)), st) := by
  have big := sizeLine_big
  have e : c_without_shared_1 ⟨[.val (.int n), .un], st⟩ = some (.fresh (.lst (((List.range n).filter fun i => Nat.gcd (i + 1) n == 1).map fun i : Nat => D.int (1 + (i : Nat)))), ⟨[.val (.int n), .un], st⟩) := by
    refine mLc_map0 (fun a : Nat => D.int (1 + (a : Nat))) (List.range n) _ _ (miR2_n n (by simp; rfl) (by omega) (by omega) (by omega) (by omega) (by omega)) (by simp) (by simp; omega) ?_
    intro i hi
    have hi' := List.mem_range.mp hi
    have h1 := gs_eq (i + 1) n st (by omega)
    rw [show ((i + 1 : Nat) : Int) = 1 + (i : Nat) by omega] at h1
    by_cases hg : Nat.gcd (i + 1) n = 1
    · simp [turn, h1, hg]
    · have : ¬ ((Nat.gcd (i + 1) n : Nat) : Int) = 1 := by omega
      simp [turn, h1, hg, this]
  simp [f_without_shared, defOf_e, m_without_shared, e, phi]
theorem lws_eq (n : Nat) (st : List SC) (hn : n ≤ 1000) : f_law_shared_with_none [.val (.int n)] st = some (.val (.int (phi n : Nat)), st) := by
  have big := sizeLine_big
  have e : c_law_shared_with_none_1 ⟨[.val (.int n), .un], st⟩ = some (.fresh (.lst (((List.range n).filter fun i => Nat.gcd (i + 1) n == 1).map fun i : Nat => D.int (1 + (i : Nat)))), ⟨[.val (.int n), .un], st⟩) := by
    refine mLc_map0 (fun a : Nat => D.int (1 + (a : Nat))) (List.range n) _ _ (miR2_n n (by simp; rfl) (by omega) (by omega) (by omega) (by omega) (by omega)) (by simp) (by simp; omega) ?_
    intro i hi
    have hi' := List.mem_range.mp hi
    have h1 := ld_eq (i + 1) n st (by omega)
    rw [show ((i + 1 : Nat) : Int) = 1 + (i : Nat) by omega] at h1
    by_cases hg : Nat.gcd (i + 1) n = 1
    · simp [turn, h1, hg]
    · have : ¬ ((Nat.gcd (i + 1) n : Nat) : Int) = 1 := by omega
      simp [turn, h1, hg, this]
  simp [f_law_shared_with_none, defOf_e, m_law_shared_with_none, e, phi]
def cE (n : Nat) : Int := 1 + ((List.range n).map fun i : Nat => ((n : Int) - (1 + (i : Nat)) + 1) * (phi (i + 1) : Nat)).sum
theorem count_eq (n : Nat) (st : List SC) (hn : n ≤ 200) : f_count_even [.val (.int n)] st = some (.val (.int (cE n)), st) := by
  have big := sizeLine_big
  have e : c_count_even_1 ⟨[.val (.int n), .un], st⟩ = some (.fresh (.lst ((List.range n).map fun i : Nat => D.int (((n : Int) - (1 + (i : Nat)) + 1) * (phi (i + 1) : Nat)))), ⟨[.val (.int n), .un], st⟩) := by
    refine mLc_all0 (fun a : Nat => D.int (1 + (a : Nat))) (List.range n) _ (miR2_n n (by simp; rfl) (by omega) (by omega) (by omega) (by omega) (by omega)) (by simp) (by simp; omega) ?_
    intro i hi
    have hi' := List.mem_range.mp hi
    have h1 := ws_eq (i + 1) st (by omega)
    rw [show ((i + 1 : Nat) : Int) = 1 + (i : Nat) by omega] at h1
    have h2 : mulOk ((n : Int) - (1 + (i : Nat)) + 1) (phi (i + 1) : Nat) = true := mulOk_small (by omega) (by omega)
    simp [turn, h1, h2]
  have h1 := neednum n 200 st ⟨by omega, by omega⟩
  simp [f_count_even, defOf_e, m_count_even, e, h1, intsOf_mapf, cE]
end K60

set_option Elab.async false
set_option linter.all false
set_option maxRecDepth 100000
set_option maxHeartbeats 4000000
namespace K60
open PySem L2 VS
def ew : Nat → List (List Nat)
  | 0 => [[]]
  | n + 1 => (ew n).flatMap fun w => ([97, 98].filter fun c => evenB (w ++ [c])).map fun c => w ++ [c]
def aw : Nat → List (List Nat)
  | 0 => [[]]
  | n + 1 => (aw n).flatMap fun w => [97, 98].map fun c => w ++ [c]
theorem ew_len : ∀ (n : Nat), ∀ w ∈ ew n, w.length = n
  | 0, w, h => by simp [ew] at h; simp [h]
  | n + 1, w, h => by
    simp only [ew, List.mem_flatMap, List.mem_map, List.mem_filter] at h
    obtain ⟨v, hv, c, _, rfl⟩ := h
    simp [ew_len n v hv]
theorem aw_len : ∀ (n : Nat), ∀ w ∈ aw n, w.length = n
  | 0, w, h => by simp [aw] at h; simp [h]
  | n + 1, w, h => by
    simp only [aw, List.mem_flatMap, List.mem_map] at h
    obtain ⟨v, hv, c, _, rfl⟩ := h
    simp [aw_len n v hv]
theorem flat2 {α β : Type} (k : Nat) (f : α → List β) (h : ∀ x, (f x).length ≤ k) : ∀ xs : List α, (xs.flatMap f).length ≤ k * xs.length
  | [] => by simp
  | x :: xs => by
    have := flat2 k f h xs
    have := h x
    simp only [List.flatMap_cons, List.length_append, List.length_cons, Nat.mul_add, Nat.mul_one]
    omega
theorem ew_cnt : ∀ n : Nat, (ew n).length ≤ 2 ^ n
  | 0 => by simp [ew]
  | n + 1 => by
    have := ew_cnt n
    have h := flat2 2 (fun w => ([97, 98].filter fun c => evenB (w ++ [c])).map fun c => w ++ [c]) (fun w => by
      rw [List.length_map]; exact List.length_filter_le _ _) (ew n)
    simp only [ew]
    rw [Nat.pow_succ]
    omega
theorem aw_cnt : ∀ n : Nat, (aw n).length ≤ 2 ^ n
  | 0 => by simp [aw]
  | n + 1 => by
    have := aw_cnt n
    have h := flat2 2 (fun w => [97, 98].map fun c => w ++ [c]) (fun w => by simp) (aw n)
    simp only [aw]
    rw [Nat.pow_succ]
    omega
theorem pow10 {n : Nat} (h : n ≤ 10) : 2 ^ n ≤ 1024 := Nat.le_trans (Nat.pow_le_pow_right (by decide) h) (by decide)
theorem ewords_eq (n : Nat) (st : List SC) (hn : n ≤ 10) : f_even_words [.val (.int n)] st = some (.val (.lst ((ew n).map D.str)), st) := by
  have big := sizeLine_big
  obtain ⟨Γ', e, c, rfl⟩ := forD_inv (g := asgn 2) (b := b_even_words_1) (fun i Γ => ∃ c, Γ = ⟨[.val (.int n), .val (.lst ((ew i).map D.str)), cel c, .un, .un], st⟩) (rangeD 0 n) (by
    rintro i hi Γ ⟨c, rfl⟩
    have hi' : i < n := by simpa using hi
    have hl := ew_len i
    have hc := ew_cnt i
    have hp := pow10 (n := i) (by omega)
    have e : c_even_words_1 ⟨[.val (.int n), .val (.lst ((ew i).map D.str)), .val (.int (0 + (i : Nat))), .un, .un], st⟩ = some (.fresh (.lst ((ew (i + 1)).map D.str)), ⟨[.val (.int n), .val (.lst ((ew i).map D.str)), .val (.int (0 + (i : Nat))), .un, .un], st⟩) := by
      refine (mLc2_map (Γ1 := ⟨[.val (.int n), .val (.lst ((ew i).map D.str)), .val (.int (0 + (i : Nat))), .un, .un], st⟩) D.str (ew i) (fun c => D.str [c]) (fun _ => [97, 98]) (fun w c => evenB (w ++ [c])) (fun w c => D.str (w ++ [c])) (by simp) (by simp) ?_ ?_).trans ?_
      · have := flat2 2 (fun _ : List Nat => [97, 98]) (fun _ => by simp) (ew i)
        omega
      · intro w hw
        have hwl := hl w hw
        refine ⟨_, _, _, rfl, rfl, rfl, ?_, rfl⟩
        intro c hc
        have h1 := evenly_eq (w ++ [c]) st (by simp; omega)
        have h2 : w.length + 1 ≤ sizeLine := by omega
        cases hb : evenB (w ++ [c]) with
        | true => simp [turn, h2, h1, hb]
        | false => simp [turn, h2, h1, hb]
      · simp [ew, List.map_flatMap, Function.comp_def]
    refine ⟨_, ⟨[.val (.int n), .val (.lst ((ew (i + 1)).map D.str)), .val (.int (0 + (i : Nat))), .un, .un], st⟩, rfl, .inl ?_, some (.int (0 + (i : Nat))), rfl⟩
    rw [rangeD_get]
    exact asg_in (r := .val (.lst ((ew (i + 1)).map D.str))) (Γ1 := ⟨[.val (.int n), .val (.lst ((ew i).map D.str)), .val (.int (0 + (i : Nat))), .un, .un], st⟩) (by simp only [mFrz, asgn, setCell, List.set_cons_succ, List.set_cons_zero, e, Option.bind_some, freeze, Option.map_some]) rfl) (Γ := ⟨[.val (.int n), .val (.lst [.str []]), .un, .un, .un], st⟩) ⟨none, by simp [ew]⟩
  rw [rangeD_length] at e
  have h1 : 1 ≤ sizeLine := by omega
  have e0 : mFrz (mList (mCons (mC (.str [])) mNil)) ⟨[.val (.int n), .un, .un, .un, .un], st⟩ = some (.val (.lst [.str []]), ⟨[.val (.int n), .un, .un, .un, .un], st⟩) := by
    simp [h1]
  exact def_ret rfl (seq_nx (asg_in e0 rfl) (seq_nx (for_in (miR1_n n (by simp; rfl) (by omega) (by omega)) e) (ret_in rfl))) rfl
theorem allw_c (n i : Nat) (w : List Nat) (L : D) (c : Cell) (F : D) (st : List SC) (h2 : w.length + 1 ≤ sizeLine) : c_law_all_words_1 ⟨[.val (.str [97, 98]), .val (.int n), .val F, .val (.int (0 + (i : Nat))), .own L, .val (.str w), .un], st⟩ = some (.fresh (.lst ([97, 98].map fun c => D.str (w ++ [c]))), ⟨[.val (.str [97, 98]), .val (.int n), .val F, .val (.int (0 + (i : Nat))), .own L, .val (.str w), .un], st⟩) := by
  have big := sizeLine_big
  exact mLc_all0 (fun c => D.str [c]) [97, 98] _ (by simp [signsD]) (by simp) (by simp; omega) (by intro c hc; simp [turn, h2])
theorem allw_b (n i : Nat) (hi : i ≤ 9) (t : Option D) (st : List SC) : ∃ t', forD (asgn 5) b_law_all_words_1 ((aw i).map D.str) ⟨[.val (.str [97, 98]), .val (.int n), .val (.lst ((aw i).map D.str)), .val (.int (0 + (i : Nat))), .own (.lst []), cel t, .un], st⟩
    = some (.nx, ⟨[.val (.str [97, 98]), .val (.int n), .val (.lst ((aw i).map D.str)), .val (.int (0 + (i : Nat))), .own (.lst ((aw (i + 1)).map D.str)), cel t', .un], st⟩) := by
  have big := sizeLine_big
  have hl := aw_len i
  have hc := aw_cnt i
  have hp := pow10 (n := i) (by omega)
  obtain ⟨Γ', e, t2, rfl⟩ := forD_inv (g := asgn 5) (b := b_law_all_words_1) (fun j Γ => ∃ t, Γ = ⟨[.val (.str [97, 98]), .val (.int n), .val (.lst ((aw i).map D.str)), .val (.int (0 + (i : Nat))), .own (.lst ((((aw i).take j).flatMap fun w => [97, 98].map fun c => w ++ [c]).map D.str)), cel t, .un], st⟩) ((aw i).map D.str) (by
    rintro j hj Γ ⟨t, rfl⟩
    have hj' : j < (aw i).length := by simpa using hj
    have hw := hl _ (List.getElem_mem hj')
    have h2 : ((aw i)[j]'hj').length + 1 ≤ sizeLine := by omega
    have h3 : (((aw i).take j).flatMap fun w => [97, 98].map fun c => w ++ [c]).length + 2 ≤ sizeLine := by
      have := flat2 2 (fun w : List Nat => [97, 98].map fun c => w ++ [c]) (fun w => by simp) ((aw i).take j)
      have : ((aw i).take j).length ≤ (aw i).length := by rw [List.length_take]; omega
      omega
    have e := allw_c n i ((aw i)[j]'hj') (.lst ((((aw i).take j).flatMap fun w => [97, 98].map fun c => w ++ [c]).map D.str)) .un (.lst ((aw i).map D.str)) st h2
    refine ⟨_, _, rfl, .inl ?_, some (.str ((aw i)[j]'hj')), rfl⟩
    rw [List.take_succ_eq_append_getElem hj', List.flatMap_append, List.map_append, List.getElem_map]
    simp only [asgn, setCell, List.set_cons_succ, List.set_cons_zero, b_law_all_words_1, mDrop, mExt, mVar, List.getElem?_cons_succ, List.getElem?_cons_zero, Option.bind_some, content, ownOf, e]
    rw [if_pos (by simpa using h3)]
    simp
    ) (Γ := ⟨[.val (.str [97, 98]), .val (.int n), .val (.lst ((aw i).map D.str)), .val (.int (0 + (i : Nat))), .own (.lst []), cel t, .un], st⟩) ⟨t, by simp⟩
  rw [List.length_map, List.take_length] at e
  exact ⟨t2, e⟩
theorem allw_eq (n : Nat) (st : List SC) (hn : n ≤ 10) : f_law_all_words [.val (.str [97, 98]), .val (.int n)] st = some (.val (.lst ((aw n).map D.str)), st) := by
  have big := sizeLine_big
  obtain ⟨Γ', e, c, d, t, rfl⟩ := forD_inv (g := asgn 3) (b := b_law_all_words_2) (fun i Γ => ∃ c d t, Γ = ⟨[.val (.str [97, 98]), .val (.int n), .val (.lst ((aw i).map D.str)), c, d, cel t, .un], st⟩) (rangeD 0 n) (by
    rintro i hi Γ ⟨c, d, t, rfl⟩
    have hi' : i < n := by simpa using hi
    obtain ⟨t', e⟩ := allw_b n i (by omega) t st
    refine ⟨_, ⟨[.val (.str [97, 98]), .val (.int n), .val (.lst ((aw (i + 1)).map D.str)), .val (.int (0 + (i : Nat))), .own (.lst ((aw (i + 1)).map D.str)), cel t', .un], st⟩, rfl, .inl ?_, _, _, t', rfl⟩
    rw [rangeD_get]
    refine seq_nx (Γ' := ⟨[.val (.str [97, 98]), .val (.int n), .val (.lst ((aw i).map D.str)), .val (.int (0 + (i : Nat))), .own (.lst []), cel t, .un], st⟩) (by simp) (seq_nx (for_in (ds := (aw i).map D.str) (Γ1 := ⟨[.val (.str [97, 98]), .val (.int n), .val (.lst ((aw i).map D.str)), .val (.int (0 + (i : Nat))), .own (.lst []), cel t, .un], st⟩) (by simp) e) (by simp))) (Γ := ⟨[.val (.str [97, 98]), .val (.int n), .val (.lst [.str []]), .un, .un, .un, .un], st⟩) ⟨.un, .un, none, by simp [aw]⟩
  rw [rangeD_length] at e
  have h1 : 1 ≤ sizeLine := by omega
  have e0 : mFrz (mList (mCons (mC (.str [])) mNil)) ⟨[.val (.str [97, 98]), .val (.int n), .un, .un, .un, .un, .un], st⟩ = some (.val (.lst [.str []]), ⟨[.val (.str [97, 98]), .val (.int n), .un, .un, .un, .un, .un], st⟩) := by
    simp [h1]
  exact def_ret rfl (seq_nx (asg_in e0 rfl) (seq_nx (for_in (miR1_n n (by simp; rfl) (by omega) (by omega)) e) (ret_in rfl))) rfl
def swp (w : List Nat) : List Nat := w.map fun c => if c = 98 then 97 else 98
theorem swap_eq (w : List Nat) (st : List SC) (h : w.length ≤ 40) : f_law_swapped [.val (.str w)] st = some (.val (.str (swp w)), st) := by
  have big := sizeLine_big
  have e : c_law_swapped_1 ⟨[.val (.str w), .un], st⟩ = some (.fresh (.lst (w.map fun c => D.str [if c = 98 then 97 else 98])), ⟨[.val (.str w), .un], st⟩) := by
    refine mLc_all0 (fun c => D.str [c]) w _ (by simp [signsD]) (by simp) (by omega) ?_
    intro c hc
    by_cases h : c = 98 <;> simp [turn, h]
  have e3 := joinD_chars (fun c => if c = 98 then 97 else 98) w (by omega)
  refine def_ret (v := .val (.str (swp w))) (Γ' := ⟨[.val (.str w), .un], st⟩) rfl (ret_in ?_) rfl
  show mFrz _ ⟨[.val (.str w), .un], st⟩ = _
  simp only [mFrz, mMeth, mC, mCons, mNil, e, Option.bind_some, peek, tyM, if_true, peekL, Option.map_some, e3, freeze, swp]
theorem iseven_eq (w : List Nat) (st : List SC) (h : okT w = true) : f_is_even [.val (.str w)] st = some (.val (.bl (evenB w)), st) := by
  simp [f_is_even, defOf_e, m_is_even, needword w st h, evenly_eq w st (okT_len h)]
theorem alleven_eq (n : Nat) (st : List SC) (hn : n ≤ 10) : f_all_even [.val (.int n)] st = some (.val (.tup ((ew n).map D.str)), st) := by
  have h1 := neednum n 10 st ⟨by omega, by omega⟩
  simp [f_all_even, defOf_e, m_all_even, h1, ewords_eq n st hn]
/-! evenness of parts -/
def EvenP (w : List Nat) : Prop := ∀ s a b, 0 < s → a + s ≤ w.length → b + s ≤ w.length → cb ((w.drop a).take s) ≤ cb ((w.drop b).take s) + 1
theorem evenB_iff (w : List Nat) : evenB w = true ↔ EvenP w := by
  have key : ∀ s, good w s = true ↔ ∀ x ∈ wl w s, ∀ y ∈ wl w s, x ≤ y + 1 := by
    intro s
    have hne := wl_ne w s
    simp only [good, decide_eq_true_eq]
    cases e : wl w s with
    | nil => exact absurd e hne
    | cons x xs =>
      obtain ⟨a1, a2⟩ := foldmax xs x
      obtain ⟨b1, b2⟩ := foldmin xs x
      simp only [maxI, minI]
      constructor
      · intro h u hu v hv
        have := a2 u hu
        have := b2 v hv
        omega
      · intro h
        have := h _ a1 _ b1
        omega
  unfold evenB EvenP
  rw [List.all_eq_true]
  constructor
  · intro h s a b hs ha hb
    have h1 := (key s).mp (by have := h (s - 1) (List.mem_range.mpr (by omega)); rwa [show s - 1 + 1 = s by omega] at this)
    refine h1 _ ?_ _ ?_
    · exact List.mem_map.mpr ⟨a, List.mem_range.mpr (by omega), rfl⟩
    · exact List.mem_map.mpr ⟨b, List.mem_range.mpr (by omega), rfl⟩
  · intro h k hk
    have hk' := List.mem_range.mp hk
    refine (key (k + 1)).mpr fun x hx y hy => ?_
    obtain ⟨a, ha, rfl⟩ := List.mem_map.mp hx
    obtain ⟨b, hb, rfl⟩ := List.mem_map.mp hy
    have := List.mem_range.mp ha
    have := List.mem_range.mp hb
    exact h (k + 1) a b (by omega) (by omega) (by omega)
theorem even_drop {w : List Nat} (h : evenB w = true) (n : Nat) : evenB (w.drop n) = true := by
  rw [evenB_iff] at h ⊢
  intro s a b hs ha hb
  rw [List.length_drop] at ha hb
  rw [List.drop_drop, List.drop_drop]
  exact h s _ _ hs (by omega) (by omega)
theorem even_take {w : List Nat} (h : evenB w = true) (n : Nat) : evenB (w.take n) = true := by
  rw [evenB_iff] at h ⊢
  intro s a b hs ha hb
  rw [List.length_take] at ha hb
  have e : ∀ a, a + s ≤ min n w.length → ((w.take n).drop a).take s = (w.drop a).take s := by
    intro a ha
    rw [List.drop_take, List.take_take, Nat.min_eq_left (by omega)]
  rw [e a ha, e b hb]
  exact h s _ _ hs (by omega) (by omega)
theorem even_rev {w : List Nat} (h : evenB w = true) : evenB w.reverse = true := by
  rw [evenB_iff] at h ⊢
  intro s a b hs ha hb
  rw [List.length_reverse] at ha hb
  have e : ∀ a, a + s ≤ w.length → cb ((w.reverse.drop a).take s) = cb ((w.drop (w.length - a - s)).take s) := by
    intro a ha
    rw [List.drop_reverse, List.take_reverse, List.length_take, Nat.min_eq_left (by omega), List.drop_take]
    unfold cb
    rw [List.count_reverse, show w.length - a - (w.length - a - s) = s by omega]
  rw [e a ha, e b hb]
  exact h s _ _ hs (by omega) (by omega)
theorem cb_swp (w : List Nat) : ab w = true → cb (swp w) = w.length - cb w := by
  induction w with
  | nil => intro _; rfl
  | cons c w ih =>
    intro h
    simp only [ab, List.all_cons, Bool.and_eq_true, Bool.or_eq_true, beq_iff_eq] at h
    have := ih (by simpa [ab] using h.2)
    simp only [cb, swp, List.map_cons, List.count_cons, List.length_cons] at this ⊢
    rcases h.1 with rfl | rfl
    · simp; omega
    · simp; omega
theorem ab_sub {w v : List Nat} (h : ab w = true) (hs : ∀ x ∈ v, x ∈ w) : ab v = true := by
  simp only [ab, List.all_eq_true] at h ⊢
  exact fun x hx => h x (hs x hx)
theorem even_swp {w : List Nat} (ha : ab w = true) (h : evenB w = true) : evenB (swp w) = true := by
  rw [evenB_iff] at h ⊢
  intro s a b hs h1 h2
  rw [show (swp w).length = w.length by simp [swp]] at h1 h2
  have e : ∀ a, a + s ≤ w.length → cb (((swp w).drop a).take s) = s - cb ((w.drop a).take s) := by
    intro a h1
    rw [show ((swp w).drop a).take s = swp ((w.drop a).take s) by simp [swp, List.map_take, List.map_drop], cb_swp _ (ab_sub ha fun x hx => List.mem_of_mem_drop (List.mem_of_mem_take hx))]
    rw [List.length_take, List.length_drop, Nat.min_eq_left (by omega)]
  rw [e a h1, e b h2]
  have := h s b a hs h2 h1
  omega
theorem filt_flat {α β : Type} (p : β → Bool) (f : α → List β) (q : α → Bool) (h : ∀ x, q x = false → (f x).filter p = []) : ∀ xs : List α, (xs.flatMap f).filter p = (xs.filter q).flatMap fun x => (f x).filter p
  | [] => rfl
  | x :: xs => by
    rw [List.flatMap_cons, List.filter_append, filt_flat p f q h xs]
    cases hx : q x with
    | true => simp [List.filter_cons, hx]
    | false => simp [List.filter_cons, hx, h x hx]
theorem aw_ew : ∀ n : Nat, (aw n).filter evenB = ew n
  | 0 => by
    have : evenB [] = true := rfl
    simp [aw, ew, this]
  | n + 1 => by
    simp only [aw, ew]
    rw [filt_flat evenB _ evenB (fun w hw => ?_), aw_ew n]
    · congr 1
      funext w
      exact List.filter_map
    · rw [List.filter_eq_nil_iff]
      intro v hv hb
      obtain ⟨c, _, rfl⟩ := List.mem_map.mp hv
      have := even_take hb w.length
      simp at this
      rw [this] at hw
      cases hw
theorem aw_ab : ∀ (n : Nat), ∀ w ∈ aw n, ab w = true
  | 0, w, h => by simp [aw] at h; simp [h, ab]
  | n + 1, w, h => by
    simp only [aw, List.mem_flatMap, List.mem_map] at h
    obtain ⟨v, hv, c, hc, rfl⟩ := h
    have := aw_ab n v hv
    simp only [List.mem_cons, List.not_mem_nil, or_false] at hc
    simp only [ab, List.all_append, Bool.and_eq_true, List.all_cons, List.all_nil] at this ⊢
    refine ⟨this, ?_, trivial⟩
    rcases hc with rfl | rfl <;> rfl
theorem ew_in {n : Nat} {w : List Nat} (h : w ∈ ew n) : ab w = true ∧ evenB w = true := by
  rw [← aw_ew, List.mem_filter] at h
  exact ⟨aw_ab n w h.1, h.2⟩
/-! the words of few letters, by reckoning -/
def fact (n : Nat) : Bool := cE n == ((ew n).length : Int) && !(ew n).isEmpty && (ew n).all fun w => (evenB (w ++ [97]) || evenB (w ++ [98])) && (evenB ([97] ++ w) || evenB ([98] ++ w))
theorem facts : (List.range 10).all fact = true := by decide +kernel
end K60

set_option Elab.async false
set_option linter.all false
set_option maxRecDepth 100000
set_option maxHeartbeats 4000000
namespace K60
open PySem L2 VS
theorem factsN (n : Nat) (h : n < 10) : fact n = true := List.all_eq_true.mp facts n (List.mem_range.mpr h)
/-! the jar -/
def Jar (d : D) : Prop := ∃ a b c : Int, d = .lst [.int a, .int b, .int c]
theorem small_mod {x m : Int} (h1 : 0 < m) (h2 : m ≤ 2305843009213693951) : smallI (x % m) = true := by
  have a := Int.emod_nonneg x (by omega : m ≠ 0)
  have b := Int.emod_lt_of_pos x h1
  rw [smallI_iff]
  have e : (2 ^ 64 : Nat) = 18446744073709551616 := by decide
  rw [e]
  omega
theorem jar_eq (ns : List Int) (i : Nat) (hi : i < 63) (st : List SC) : ∃ jar, Jar jar ∧ f_law_jar [.val (.lst (ns.map D.int)), .val (.int i)] st = some (.fresh jar, st) := by
  have m1 : mulOk 991 (i : Int) = true := mulOk_l (by decide)
  have m2 : mulOk 1109 (i : Int) = true := mulOk_l (by decide)
  have m3 : ∀ x : Int, mulOk 71 x = true := fun x => mulOk_l (by decide)
  have m4 : ∀ x : Int, mulOk x 127 = true := fun x => mulOk_r (by decide)
  have p1 : powOk 10 55 = true := by decide +kernel
  have p2 : powOk (10 ^ 55) 5 = true := by decide +kernel
  have p3 : powOk 10 17 = true := by decide +kernel
  have h3 : 3 ≤ sizeLine := by decide
  have cellE : ∃ c : Int, mFrz (mIf (mCmp ltD (mVar 1) (mCallB lenD (mCons (mVar 0) mNil))) (mCallB intD (mCons (mBin ixD (mVar 0) (mVar 1)) mNil)) (mBin addD (mBin mulD (mC (.int 991)) (mVar 1)) (mC (.int 97)))) ⟨[.val (.lst (ns.map D.int)), .val (.int i), .un, .un, .un], st⟩ = some (.val (.int c), ⟨[.val (.lst (ns.map D.int)), .val (.int i), .un, .un, .un], st⟩) := by
    by_cases h : i < ns.length
    · exact ⟨ns[i], by simp [h, atN]⟩
    · exact ⟨_, by simp [h, m1]; rfl⟩
  obtain ⟨c, e1⟩ := cellE
  have e2 : ∀ x : Int, ∃ g : Int, mFrz (mBin modD (mCallB intD (mCons (mCallB absD (mCons (mVar 2) mNil)) mNil)) (mBin powD (mBin powD (mC (.int 10)) (mC (.int 55))) (mC (.int 5)))) ⟨[.val (.lst (ns.map D.int)), .val (.int i), .val (.int x), .un, .un], st⟩ = some (.val (.int g), ⟨[.val (.lst (ns.map D.int)), .val (.int i), .val (.int x), .un, .un], st⟩) := by
    intro x
    have hp : (0 : Int) < (10 ^ 55) ^ 5 := by decide +kernel
    refine ⟨(if x < 0 then -x else x) % (10 ^ 55) ^ 5, ?_⟩
    simp only [mFrz, mBin, mCallB, mCons, mVar, mNil, List.getElem?_cons_succ, List.getElem?_cons_zero, Option.bind_some, Option.map_some, peekL, peek, absD, intD, mC, powD, p1, if_true]
    rw [show ((55 : Int).toNat) = 55 from rfl, show ((5 : Int).toNat) = 5 from rfl]
    simp only [p2, if_true, Option.map_some, Option.bind_some, modD, hp, freeze, peek]
  obtain ⟨g, e2⟩ := e2 c
  have e3 : ∃ m : Int, mFrz (mBin addD (mBin addD (mBin addD (mBin mulD (mBin modD (mCallB intD (mCons (mVar 3) mNil)) (mC (.int 2305843009213693907))) (mC (.int 127))) (mBin mulD (mC (.int 1109)) (mVar 1))) (mBin mulD (mC (.int 71)) (mCallB intD (mCons (mOfB (mCmp ltD (mVar 2) (mC (.int 0)))) mNil)))) (mC (.int 43))) ⟨[.val (.lst (ns.map D.int)), .val (.int i), .val (.int c), .val (.int g), .un], st⟩ = some (.val (.int m), ⟨[.val (.lst (ns.map D.int)), .val (.int i), .val (.int c), .val (.int g), .un], st⟩) := by
    refine ⟨g % 2305843009213693907 * 127 + 1109 * i + 71 * (if c < 0 then 1 else 0) + 43, ?_⟩
    simp [m2, m3, m4]
  obtain ⟨m, e3⟩ := e3
  have e4 : ∃ jar, Jar jar ∧ (mList (mCons (mCallB maxD (mCons (mC (.int 0)) (mCons (mBin subD (mVar 3) (mBin powD (mC (.int 10)) (mC (.int 17)))) mNil))) (mCons (mVar 4) (mCons (mC (.int 0)) mNil)))) ⟨[.val (.lst (ns.map D.int)), .val (.int i), .val (.int c), .val (.int g), .val (.int m)], st⟩ = some (.fresh jar, ⟨[.val (.lst (ns.map D.int)), .val (.int i), .val (.int c), .val (.int g), .val (.int m)], st⟩) := by
    refine ⟨.lst [.int (if g - 10 ^ 17 > 0 then g - 10 ^ 17 else 0), .int m, .int 0], ⟨_, _, _, rfl⟩, ?_⟩
    simp [p3, h3]
  obtain ⟨jar, hj, e4⟩ := e4
  exact ⟨jar, hj, def_ret rfl (seq_nx (asg_in e1 rfl) (seq_nx (asg_in e2 rfl) (seq_nx (asg_in e3 rfl) (ret_in e4)))) rfl⟩
theorem log_small {n : Int} (h1 : 0 < n) (h2 : n ≤ 1000000) : n.natAbs.log2 < 9000 := by
  have h : n.natAbs < 2 ^ 20 := by
    have e : (2 ^ 20 : Nat) = 1048576 := by decide
    rw [e]; omega
  have := (Nat.log2_lt (by omega)).mpr h
  omega
theorem take_eq (jar : D) (hj : Jar jar) (n : Int) (h1 : 0 < n) (h2 : n ≤ 1000000) : ∃ v jar', 0 ≤ v ∧ v < n ∧ Jar jar' ∧ f_law_take [.par 0, .val (.int n)] [.own jar] = some (.val (.int v), [.own jar']) := by
  obtain ⟨a, b, c, rfl⟩ := hj
  have hl := log_small h1 h2
  have q1 := Int.emod_nonneg a (by omega : n ≠ 0)
  have q2 := Int.emod_lt_of_pos a h1
  by_cases ha : 0 < a
  · refine ⟨a % n, .lst [.int (a / n), .int b, .int c], q1, q2, ⟨_, _, _, rfl⟩, ?_⟩
    simp [f_law_take, defOf_e, m_law_take, ha, h1, hl, ixN]
  · have m1 : ∀ x : Int, mulOk 49979687 x = true := fun x => mulOk_l (by decide)
    have m2 : ∀ x : Int, mulOk (x % 2305843009213693951) (x % 2305843009213693951) = true := fun x => mulOk_l (small_mod (by decide) (by decide))
    have m3 : ∀ x : Int, mulOk 331 x = true := fun x => mulOk_l (by decide)
    have m4 : ∀ x : Int, mulOk x 67867967 = true := fun x => mulOk_r (by decide)
    have hl2 : Nat.log2 65651 < 9000 := log_small (n := 65651) (by decide) (by decide)
    refine ⟨(((b + 49979687 * (c + 1)) % 2305843009213693951 * ((b + 49979687 * (c + 1)) % 2305843009213693951) + 331 * (c + 1)) % 2305843009213693921 * 67867967 + (b + 49979687 * (c + 1)) % 2305843009213693951) / 65651 % n, .lst [.int a, .int b, .int (c + 1)], Int.emod_nonneg _ (by omega : n ≠ 0), Int.emod_lt_of_pos _ h1, ⟨_, _, _, rfl⟩, ?_⟩
    simp [f_law_take, defOf_e, m_law_take, ha, h1, ixN, m1, m2, m3, m4, hl2]
theorem choice_eq (jar : D) (hj : Jar jar) (xs : List D) (h1 : xs ≠ []) (h2 : xs.length ≤ 1000000) : ∃ (i : Nat) (jar' : D) (hi : i < xs.length), Jar jar' ∧ f_law_choice [.par 0, .val (.lst xs)] [.own jar] = some (.val xs[i], [.own jar']) := by
  have hl : 0 < xs.length := List.length_pos_iff.mpr h1
  obtain ⟨v, jar', v1, v2, hj', e⟩ := take_eq jar hj xs.length (by omega) (by omega)
  refine ⟨v.toNat, jar', by omega, hj', ?_⟩
  have e2 : atI xs v = some (xs[v.toNat]'(by omega)) := by
    rw [atI_nn _ _ v1, List.getElem?_eq_getElem]
  simp [f_law_choice, defOf_e, m_law_choice, e, e2]
end K60

set_option Elab.async false
set_option linter.all false
set_option maxRecDepth 100000
set_option maxHeartbeats 4000000
namespace K60
open PySem L2 VS
/-! the long word -/
def FF (p r q i : Nat) : Nat := (i * p + r) / q
def long (p r q : Nat) : List Nat := (List.range 40).map fun i => if FF p r q (i + 1) - FF p r q i = 1 then 98 else 97
theorem FF_up (p r q i : Nat) (hq : 0 < q) (hp : p ≤ q) : FF p r q (i + 1) = FF p r q i ∨ FF p r q (i + 1) = FF p r q i + 1 := by
  unfold FF
  have h1 : (i * p + r) / q ≤ ((i + 1) * p + r) / q := Nat.div_le_div_right (by rw [Nat.add_mul]; omega)
  have h2 : ((i + 1) * p + r) / q ≤ (i * p + r + q) / q := Nat.div_le_div_right (by rw [Nat.add_mul]; omega)
  rw [Nat.add_div_right _ hq] at h2
  omega
theorem FF_win (p r q a s : Nat) (hq : 0 < q) : FF p r q a + s * p / q ≤ FF p r q (a + s) ∧ FF p r q (a + s) ≤ FF p r q a + s * p / q + 1 := by
  unfold FF
  have e : (a + s) * p + r = (a * p + r) + s * p := by rw [Nat.add_mul]; omega
  rw [e]
  generalize a * p + r = x
  generalize s * p = y
  have hx := Nat.div_add_mod x q
  have hy := Nat.div_add_mod y q
  have mx := Nat.mod_lt x hq
  have my := Nat.mod_lt y hq
  constructor
  · rw [Nat.le_div_iff_mul_le hq, Nat.add_mul, Nat.mul_comm, Nat.mul_comm (y / q)]
    omega
  · have : (x + y) / q < x / q + y / q + 2 := by
      rw [Nat.div_lt_iff_lt_mul hq, Nat.add_mul, Nat.add_mul, Nat.mul_comm, Nat.mul_comm (y / q)]
      omega
    omega
theorem long_len (p r q : Nat) : (long p r q).length = 40 := by simp [long]
theorem long_ok (p r q : Nat) : okT (long p r q) = true := by
  simp only [okT, ab, Bool.and_eq_true, decide_eq_true_eq, long_len, List.all_eq_true]
  refine ⟨fun c hc => ?_, by omega⟩
  simp only [long, List.mem_map] at hc
  obtain ⟨i, _, rfl⟩ := hc
  split <;> rfl
theorem long_cb (p r q : Nat) (hq : 0 < q) (hp : p ≤ q) : ∀ i, i ≤ 40 → cb ((long p r q).take i) = (FF p r q i : Int) - FF p r q 0
  | 0, _ => by simp [cb]
  | i + 1, h => by
    have h1 : i < (long p r q).length := by rw [long_len]; omega
    rw [cb_succ _ _ h1, long_cb p r q hq hp i (by omega)]
    have e : (long p r q)[i] = if FF p r q (i + 1) - FF p r q i = 1 then 98 else 97 := by simp [long]
    rw [e]
    rcases FF_up p r q i hq hp with h2 | h2
    · rw [h2]; simp
    · rw [h2]; simp; omega
theorem max_min (ns : List Int) (m : Int) (hn : ns ≠ []) (h : ∀ x ∈ ns, m ≤ x ∧ x ≤ m + 1) : maxI ns - minI ns ≤ 1 := by
  cases ns with
  | nil => exact absurd rfl hn
  | cons a xs =>
    have h1 := h _ (foldmax xs a).1
    have h2 := h _ (foldmin xs a).1
    simp only [maxI, minI]
    omega
theorem long_even (p r q : Nat) (hq : 0 < q) (hp : p ≤ q) : evenB (long p r q) = true := by
  unfold evenB
  rw [List.all_eq_true]
  intro k hk
  have hk' := List.mem_range.mp hk
  rw [long_len] at hk'
  simp only [good, decide_eq_true_eq]
  refine max_min _ ((k + 1) * p / q : Nat) (wl_ne _ _) fun x hx => ?_
  simp only [wl, List.mem_map, List.mem_range, long_len] at hx
  obtain ⟨a, ha, rfl⟩ := hx
  rw [← cb_win, long_cb p r q hq hp _ (by omega), long_cb p r q hq hp _ (by omega)]
  have := FF_win p r q a (k + 1) hq
  omega
theorem swp_ok {w : List Nat} (h : okT w = true) : okT (swp w) = true := by
  simp only [okT, ab, Bool.and_eq_true, decide_eq_true_eq, List.all_eq_true, swp, List.length_map] at h ⊢
  refine ⟨fun c hc => ?_, h.2⟩
  obtain ⟨i, _, rfl⟩ := List.mem_map.mp hc
  split <;> rfl
theorem long_c (p r q : Nat) (hq : 0 < q) (hp : p ≤ q) (hr : r ≤ 30) (hq2 : q ≤ 30) (c0 c1 c2 c3 c4 c5 c6 c9 c11 : Cell) (st : List SC) :
    c_law_right_5 ⟨[c0, c1, c2, c3, c4, c5, .val (.int q), .val (.int p), .val (.int r), c9, .un, c11, .un, .un], st⟩ = some (.fresh (.lst ((List.range 40).map fun i => D.str [if FF p r q (i + 1) - FF p r q i = 1 then 98 else 97])), ⟨[c0, c1, c2, c3, c4, c5, .val (.int q), .val (.int p), .val (.int r), c9, .un, c11, .un, .un], st⟩) := by
  have big := sizeLine_big
  refine mLc_all0 (fun a : Nat => D.int (0 + (a : Nat))) (List.range 40) _ (miR1_n 40 (by simp; rfl) (by omega) (by omega)) (by simp) (by simp; omega) ?_
  intro i hi
  have hi' := List.mem_range.mp hi
  have m1 : mulOk ((i : Int) + 1) p = true := mulOk_small (by omega) (by omega)
  have m2 : mulOk (i : Int) p = true := mulOk_small (by omega) (by omega)
  have hl : Nat.log2 q < 9000 := log_small (n := (q : Int)) (by omega) (by omega)
  have e1 : (((i : Int) + 1) * p + r) / q = (FF p r q (i + 1) : Nat) := by simp [FF]
  have e2 : ((i : Int) * p + r) / q = (FF p r q i : Nat) := by simp [FF]
  have hq' : (0 : Int) < q := by omega
  by_cases h : FF p r q (i + 1) - FF p r q i = 1
  · have h' : ((FF p r q (i + 1) : Nat) : Int) - (FF p r q i : Nat) = 1 := by omega
    simp [turn, m1, m2, hq, hl, e1, e2, h, h']
  · have h' : ¬ ((FF p r q (i + 1) : Nat) : Int) - (FF p r q i : Nat) = 1 := by
      rcases FF_up p r q i hq hp with h2 | h2 <;> omega
    simp [turn, m1, m2, hq, hl, e1, e2, h, h']
end K60

set_option Elab.async false
set_option linter.all false
set_option maxRecDepth 100000
set_option maxHeartbeats 4000000
namespace K60
open PySem L2 VS
theorem c1_eq (n : Nat) (hn : n < 10) (j : D) : c_law_right_1 ⟨[.par 0, .val (.int n), .un, .un, .un, .un, .un, .un, .un, .un, .un, .un, .un, .un], [.own j]⟩ = some (.fresh (.lst (((aw n).filter evenB).map D.str)), ⟨[.par 0, .val (.int n), .un, .un, .un, .un, .un, .un, .un, .un, .un, .un, .un, .un], [.own j]⟩) := by
  have big := sizeLine_big
  have e := allw_eq n [.own j] (by omega)
  have hl := aw_len n
  have h1 := aw_cnt n
  have h2 := pow10 (n := n) (by omega)
  refine mLc_map0 D.str (aw n) evenB D.str (by simp [e]) (by simp) (by omega) ?_
  intro w hw
  have hw' := hl w hw
  have e2 := leven_eq w [.own j] (by omega)
  cases hb : evenB w <;> simp [turn, e2, hb]
theorem c2_eq (n : Nat) (hn : n ≤ 200) (d1 d2 : D) (j : D) : c_law_right_2 ⟨[.par 0, .val d1, .val d2, .val (.int n), .un, .un, .un, .un, .un, .un, .un, .un, .un, .un], [.own j]⟩ = some (.fresh (.lst ((List.range n).map fun i : Nat => D.int (((n : Int) - (1 + (i : Nat)) + 1) * (phi (i + 1) : Nat)))), ⟨[.par 0, .val d1, .val d2, .val (.int n), .un, .un, .un, .un, .un, .un, .un, .un, .un, .un], [.own j]⟩) := by
  have big := sizeLine_big
  refine mLc_all0 (fun a : Nat => D.int (1 + (a : Nat))) (List.range n) _ (miR2_n n (by simp; rfl) (by omega) (by omega) (by omega) (by omega) (by omega)) (by simp) (by simp; omega) ?_
  intro i hi
  have hi' := List.mem_range.mp hi
  have h1 := lws_eq (i + 1) [.own j] (by omega)
  rw [show ((i + 1 : Nat) : Int) = 1 + (i : Nat) by omega] at h1
  have h2 : mulOk ((n : Int) - (1 + (i : Nat)) + 1) (phi (i + 1) : Nat) = true := mulOk_small (by omega) (by omega)
  simp [turn, h1, h2]
theorem c3_eq (w : List Nat) (h1 : okT (w ++ [97]) = true) (h2 : okT (w ++ [98]) = true) (d1 d2 d3 d5 : D) (j : D) : c_law_right_3 ⟨[.par 0, .val d1, .val d2, .val d3, .val (.str w), .val d5, .un, .un, .un, .un, .un, .un, .un, .un], [.own j]⟩ = some (.fresh (.lst (([97, 98].filter fun c => evenB (w ++ [c])).map fun c => D.str [c])), ⟨[.par 0, .val d1, .val d2, .val d3, .val (.str w), .val d5, .un, .un, .un, .un, .un, .un, .un, .un], [.own j]⟩) := by
  have big := sizeLine_big
  have hl := okT_len h1
  simp only [List.length_append, List.length_singleton] at hl
  refine mLc_map0 (fun c => D.str [c]) [97, 98] _ _ (by simp [signsD]) (by simp) (by simp; omega) ?_
  intro c hc
  have hs : w.length + 1 ≤ sizeLine := by omega
  have e : f_is_even [.val (.str (w ++ [c]))] [.own j] = some (.val (.bl (evenB (w ++ [c]))), [.own j]) := by
    simp only [List.mem_cons, List.not_mem_nil, or_false] at hc
    rcases hc with rfl | rfl
    · exact iseven_eq _ _ h1
    · exact iseven_eq _ _ h2
  cases hb : evenB (w ++ [c]) <;> simp [turn, hs, e, hb]
theorem c4_eq (w : List Nat) (h1 : okT ([97] ++ w) = true) (h2 : okT ([98] ++ w) = true) (d1 d2 d3 d5 : D) (j : D) : c_law_right_4 ⟨[.par 0, .val d1, .val d2, .val d3, .val (.str w), .val d5, .un, .un, .un, .un, .un, .un, .un, .un], [.own j]⟩ = some (.fresh (.lst (([97, 98].filter fun c => evenB ([c] ++ w)).map fun c => D.str [c])), ⟨[.par 0, .val d1, .val d2, .val d3, .val (.str w), .val d5, .un, .un, .un, .un, .un, .un, .un, .un], [.own j]⟩) := by
  have big := sizeLine_big
  have hl := okT_len h1
  simp only [List.length_append, List.length_singleton] at hl
  refine mLc_map0 (fun c => D.str [c]) [97, 98] _ _ (by simp [signsD]) (by simp) (by simp; omega) ?_
  intro c hc
  have hs : 1 + w.length ≤ sizeLine := by omega
  have e : f_is_even [.val (.str (c :: w))] [.own j] = some (.val (.bl (evenB (c :: w))), [.own j]) := by
    simp only [List.mem_cons, List.not_mem_nil, or_false] at hc
    rcases hc with rfl | rfl
    · exact iseven_eq _ _ h1
    · exact iseven_eq _ _ h2
  cases hb : evenB (c :: w) <;> simp [turn, hs, e, hb]
theorem filt_ne (f : Nat → Bool) (h : (f 97 || f 98) = true) : ([97, 98].filter f).map (fun c => D.str [c]) ≠ [] := by
  intro z
  rw [List.map_eq_nil_iff, List.filter_eq_nil_iff] at z
  have a := z 97 (by simp)
  have b := z 98 (by simp)
  simp [a, b] at h
theorem eq_nil {ds : List D} (h : ds ≠ []) (hd : ds.all (dpt 59) = true) : eqD (.lst ds) (.lst []) = some false := by
  unfold eqD
  rw [if_pos ⟨hd, rfl⟩]
  cases ds with
  | nil => exact absurd rfl h
  | cons d ds => rfl
theorem right_eq (jar : D) (hj : Jar jar) : ∃ jar', Jar jar' ∧ f_law_right [.par 0] [.own jar] = some (.val (.bl true), [.own jar']) := by
  have big := sizeLine_big
  -- the draws
  obtain ⟨n', j1, a1, a2, hj1, t1⟩ := take_eq jar hj 10 (by decide) (by decide)
  obtain ⟨n, rfl⟩ : ∃ n : Nat, n' = n := ⟨n'.toNat, by omega⟩
  have hn : n < 10 := by omega
  have fc := factsN n hn
  simp only [fact, Bool.and_eq_true, beq_iff_eq, List.all_eq_true, Bool.not_eq_true'] at fc
  obtain ⟨⟨f2, f3⟩, f4⟩ := fc
  have f1 := aw_ew n
  obtain ⟨g', j2, b1, b2, hj2, t2⟩ := take_eq j1 hj1 201 (by decide) (by decide)
  obtain ⟨g, rfl⟩ : ∃ g : Nat, g' = g := ⟨g'.toNat, by omega⟩
  have hne : (ew n).map D.str ≠ [] := by
    intro z
    rw [List.map_eq_nil_iff] at z
    rw [z] at f3
    simp at f3
  have hcnt := ew_cnt n
  have hp10 := pow10 (n := n) (by omega)
  obtain ⟨i, j3, hi, hj3, t3⟩ := choice_eq j2 hj2 ((ew n).map D.str) hne (by simp; omega)
  have hi' : i < (ew n).length := by simpa using hi
  obtain ⟨w, hw⟩ : ∃ w, w = (ew n)[i] := ⟨_, rfl⟩
  have hwm : w ∈ ew n := by rw [hw]; exact List.getElem_mem hi'
  have hwl := ew_len n w hwm
  have fw := f4 w hwm
  obtain ⟨g11, g12⟩ := fw
  obtain ⟨wab, wev⟩ := ew_in hwm
  have okS : ∀ v : List Nat, (∀ x ∈ v, x ∈ w) → v.length ≤ 40 → okT v = true := fun v h1 h2 => by
    simp only [okT, Bool.and_eq_true, decide_eq_true_eq]
    exact ⟨ab_sub wab h1, h2⟩
  have okC : ∀ c, c = 97 ∨ c = 98 → okT (w ++ [c]) = true ∧ okT ([c] ++ w) = true := fun c hc => by
    have hl1 : (w ++ [c]).length ≤ 40 := by simp; omega
    have hl2 : ([c] ++ w).length ≤ 40 := by simp; omega
    simp only [okT, ab, List.all_append, Bool.and_eq_true, decide_eq_true_eq, List.all_cons, List.all_nil] at wab ⊢
    rcases hc with rfl | rfl
    · exact ⟨⟨⟨wab, rfl, trivial⟩, hl1⟩, ⟨⟨rfl, trivial⟩, wab⟩, hl2⟩
    · exact ⟨⟨⟨wab, rfl, trivial⟩, hl1⟩, ⟨⟨rfl, trivial⟩, wab⟩, hl2⟩
  have g1 : okT w = true := okS w (fun _ h => h) (by omega)
  have g2 : okT w.reverse = true := okS _ (fun _ h => List.mem_reverse.mp h) (by simp; omega)
  have g3 := even_rev wev
  have g4 := swp_ok g1
  have g5 := even_swp wab wev
  have g7 := (okC 97 (.inl rfl)).1
  have g8 := (okC 98 (.inr rfl)).1
  have g9 := (okC 97 (.inl rfl)).2
  have g10 := (okC 98 (.inr rfl)).2
  rw [List.getElem_map, ← hw] at t3
  obtain ⟨s', j4, c1, c2, hj4, t4⟩ := take_eq j3 hj3 ((n : Int) + 1) (by omega) (by omega)
  obtain ⟨s, rfl⟩ : ∃ s : Nat, s' = s := ⟨s'.toNat, by omega⟩
  have g61 : okT (w.drop s) = true := okS _ (fun _ h => List.mem_of_mem_drop h) (by simp; omega)
  have g62 := even_drop wev s
  have g63 : okT (w.take s) = true := okS _ (fun _ h => List.mem_of_mem_take h) (by simp; omega)
  have g64 := even_take wev s
  obtain ⟨q', j5, d1, d2, hj5, t5⟩ := take_eq j4 hj4 30 (by decide) (by decide)
  obtain ⟨q, hq⟩ : ∃ q : Nat, 1 + q' = q := ⟨(1 + q').toNat, by omega⟩
  obtain ⟨p', j6, e1, e2, hj6, t6⟩ := take_eq j5 hj5 ((q : Int) + 1) (by omega) (by omega)
  obtain ⟨p, rfl⟩ : ∃ p : Nat, p' = p := ⟨p'.toNat, by omega⟩
  obtain ⟨r', j7, h1, h2, hj7, t7⟩ := take_eq j6 hj6 (q : Int) (by omega) (by omega)
  obtain ⟨r, rfl⟩ : ∃ r : Nat, r' = r := ⟨r'.toNat, by omega⟩
  obtain ⟨a', j8, k1, k2, hj8, t8⟩ := take_eq j7 hj7 40 (by decide) (by decide)
  obtain ⟨a, rfl⟩ : ∃ a : Nat, a' = a := ⟨a'.toNat, by omega⟩
  have hq0 : 0 < q := by omega
  have hpq : p ≤ q := by omega
  have lo := long_ok p r q
  have le := long_even p r q hq0 hpq
  have ll := long_len p r q
  -- what is told
  have A1 := fun st => alleven_eq n st (by omega)
  have A2 := fun st => count_eq n st (by omega)
  have A3 := fun st => count_eq g st (by omega)
  have A4 := fun st => iseven_eq w.reverse st g2
  have A5 := fun st => swap_eq w st (by omega)
  have A6 := fun st => iseven_eq (swp w) st g4
  have A7 := fun st => iseven_eq (w.drop s) st g61
  have A8 := fun st => iseven_eq (w.take s) st g63
  have A9 := fun st => iseven_eq (long p r q) st lo
  rw [g3] at A4
  rw [g5] at A6
  rw [g62] at A7
  rw [g64] at A8
  rw [le] at A9
  refine ⟨j8, hj8, ?_⟩
  have B1 : eqD (.lst (([97, 98].filter fun c => evenB (w ++ [c])).map fun c => D.str [c])) (.lst []) = some false := eq_nil (filt_ne (fun c => evenB (w ++ [c])) g11) (all_dpt 59 _ (fun _ => by simp) _)
  have B2 : eqD (.lst (([97, 98].filter fun c => evenB (c :: w)).map fun c => D.str [c])) (.lst []) = some false := eq_nil (filt_ne (fun c => evenB ([c] ++ w)) g12) (all_dpt 59 _ (fun _ => by simp) _)
  have C3 := fun d1 d2 d3 d5 j => c3_eq w g7 g8 d1 d2 d3 d5 j
  have C4 := fun d1 d2 d3 d5 j => c4_eq w g9 g10 d1 d2 d3 d5 j
  have C5 := fun c0 c1 c2 c3 c4 c5 c6 c9 c11 st => long_c p r q hq0 hpq (by omega) (by omega) c0 c1 c2 c3 c4 c5 c6 c9 c11 st
  have J := joinD_chars (fun i => if FF p r q (i + 1) - FF p r q i = 1 then 98 else 97) (List.range 40) (by simp)
  rw [show (List.range 40).map (fun i => if FF p r q (i + 1) - FF p r q i = 1 then 98 else 97) = long p r q from rfl] at J
  have ha : a < (long p r q).length := by omega
  obtain ⟨c, hc⟩ : ∃ c, c = (long p r q)[a] := ⟨_, rfl⟩
  have A10 := fun st => swap_eq [c] st (by simp)
  have bl : ((long p r q).take a ++ swp [c] ++ (long p r q).drop (a + 1)).length = 40 := by
    simp [swp, ll]; omega
  have bo : okT ((long p r q).take a ++ swp [c] ++ (long p r q).drop (a + 1)) = true := by
    simp only [okT, ab, Bool.and_eq_true, decide_eq_true_eq, List.all_eq_true] at lo ⊢
    refine ⟨fun x hx => ?_, by omega⟩
    simp only [List.mem_append] at hx
    rcases hx with (hx | hx) | hx
    · exact lo.1 x (List.mem_of_mem_take hx)
    · simp only [swp, List.map_cons, List.map_nil, List.mem_singleton] at hx
      subst hx
      split <;> rfl
    · exact lo.1 x (List.mem_of_mem_drop hx)
  have A11 := fun st => iseven_eq _ st bo
  have A12 := fun st => leven_eq ((long p r q).take a ++ swp [c] ++ (long p r q).drop (a + 1)) st (by omega)
  generalize hbent : (long p r q).take a ++ swp [c] ++ (long p r q).drop (a + 1) = bent at A11 A12
  rw [List.append_assoc] at hbent
  have sl1 : (swp [c]).length = 1 := by simp [swp]
  have hst1 : min a (long p r q).length + (swp [c]).length ≤ sizeLine := by omega
  have hst2 : min a (long p r q).length + (swp [c]).length + ((long p r q).length - (a + 1)) ≤ sizeLine := by omega
  have hget : (long p r q)[a]? = some c := by rw [List.getElem?_eq_getElem ha, hc]
  have hdr : cutL (long p r q) (some ((a : Int) + 1)) none = (long p r q).drop (a + 1) := cutL_a _ (a + 1)
  refine def_val rfl ⟨?sl, ?_⟩
  rotate_left
  show m_law_right ⟨[.par 0, .un, .un, .un, .un, .un, .un, .un, .un, .un, .un, .un, .un, .un], [.own jar]⟩ = _
  unfold m_law_right
  refine seq_nx (asg_in (by simp [t1]; first | exact ⟨rfl, rfl⟩ | rfl) rfl) ?_
  refine seq_nx (asg_in (r := .val (.lst ((ew n).map D.str))) (by simp [c1_eq n hn j1, f1]; rfl) rfl) ?_
  refine seq_nx (if_in (c := false) (by simp [A1, A2, f2]; rfl) rfl) ?_
  refine seq_nx (asg_in (by simp [t2]; first | exact ⟨rfl, rfl⟩ | rfl) rfl) ?_
  refine seq_nx (if_in (c := false) (by simp [A3, c2_eq g (by omega), intsOf_mapf, cE]; rfl) rfl) ?_
  refine seq_nx (asg_in (by simp [t3]; first | exact ⟨rfl, rfl⟩ | rfl) rfl) ?_
  refine seq_nx (if_in (c := false) (by simp [A4, A5, A6]; rfl) rfl) ?_
  refine seq_nx (asg_in (by simp [t4]; first | exact ⟨rfl, rfl⟩ | rfl) rfl) ?_
  refine seq_nx (if_in (c := false) (by simp [A7, A8]; rfl) rfl) ?_
  refine seq_nx (if_in (c := false) (by simp [C3, C4, B1, B2]; rfl) rfl) ?_
  refine seq_nx (asg_in (by simp [t5, hq]; first | exact ⟨rfl, rfl⟩ | rfl) rfl) ?_
  refine seq_nx (asg_in (by simp [t6, t7]; first | exact ⟨rfl, rfl⟩ | rfl) rfl) ?_
  have C5' := C5 (.par 0) (.val (.int n)) (.val (.lst ((ew n).map D.str))) (.val (.int g)) (.val (.str w)) (.val (.int s)) .un .un .un [.own j7]
  refine seq_nx (asg_in (by simp [C5', J]; first | exact ⟨rfl, rfl⟩ | rfl) rfl) ?_
  refine seq_nx (if_in (c := false) (by simp [A9]; rfl) rfl) ?_
  refine seq_nx (asg_in (by simp [t8]; first | exact ⟨rfl, rfl⟩ | rfl) rfl) ?_
  refine seq_nx (asg_in (r := .val (.str bent)) (by simp [hget, A10, hdr, hst1, hst2, hbent]; rfl) rfl) ?_
  refine ret_in ?_
  simp [A11, A12]
  rfl
theorem law_c (st : List SC) (a0 a1 a2 : Cell) (h0 : ∀ n s, unlend n s a0 = a0) (h1 : ∀ n s, unlend n s a1 = a1) (h2 : ∀ n s, unlend n s a2 = a2) : c_law_1 ⟨[a0, a1, a2, .un], st⟩ = some (.fresh (.lst ([1, 2, 4, 8, 14, 24, 36].map D.int)), ⟨[a0, a1, a2, .un], st⟩) := by
  have e : (List.range 7).map cE = [1, 2, 4, 8, 14, 24, 36] := by decide +kernel
  rw [← e, List.map_map]
  refine mLc_all0 (fun a : Nat => D.int (0 + (a : Nat))) (List.range 7) (D.int ∘ cE) (miR1_n 7 (by simp; rfl) (by omega) (by omega)) (by simp) (by decide) ?_
  intro i hi
  have hi' := List.mem_range.mp hi
  have h := fun st => count_eq i st (by omega)
  simp [turn, h, h0, h1, h2]
theorem law_ok : LawOk f_law := by
  intro ns hn hb
  have big := sizeLine_big
  obtain ⟨Γ', e, c, d, rfl⟩ := forD_inv (g := asgn 1) (b := b_law_1) (fun i Γ => ∃ c d, Γ = ⟨[.val (.lst (ns.map D.int)), cel c, oce d, .un], []⟩) (rangeD 0 (max 1 (min 3 ns.length))) (by
    rintro i hi Γ ⟨c, d, rfl⟩
    have hi' : i < 63 := by simp only [rangeD_length] at hi; omega
    obtain ⟨jar, hj, e1⟩ := jar_eq ns i hi' []
    obtain ⟨jar1, hj1, e2⟩ := right_eq jar hj
    obtain ⟨jar2, hj2, e3⟩ := right_eq jar1 hj1
    refine ⟨_, ⟨[.val (.lst (ns.map D.int)), .val (.int (0 + (i : Nat))), .own jar2, .un], []⟩, rfl, .inl ?_, some (.int (0 + (i : Nat))), some jar2, rfl⟩
    rw [rangeD_get]
    have e1' : f_law_jar [.val (.lst (ns.map D.int)), .val (.int (0 + (i : Nat)))] [] = some (.fresh jar, []) := by rw [Int.zero_add]; exact e1
    refine seq_nx (asg_in (r := .fresh jar) (Γ1 := ⟨[.val (.lst (ns.map D.int)), .val (.int (0 + (i : Nat))), oce d, .un], []⟩) (by simp at e1'; simp [e1']) rfl) ?_
    exact if_in (c := false) (Γ1 := ⟨[.val (.lst (ns.map D.int)), .val (.int (0 + (i : Nat))), .own jar2, .un], []⟩) (by simp [e2, e3]) rfl) (Γ := ⟨[.val (.lst (ns.map D.int)), .un, .un, .un], []⟩) ⟨none, none, rfl⟩
  have A1 := law_c [] (.val (.lst (ns.map D.int))) (cel c) (oce d) (fun _ _ => rfl) (fun _ _ => by simp) (fun _ _ => by simp)
  have A2 : f_all_even [.val (.int 2)] [] = some (.val (.tup ([[97, 97], [97, 98], [98, 97], [98, 98]].map D.str)), []) := by
    have := alleven_eq 2 [] (by decide)
    rw [show ew 2 = [[97, 97], [97, 98], [98, 97], [98, 98]] by decide +kernel] at this
    exact this
  have A3 : f_all_even [.val (.int 0)] [] = some (.val (.tup ([[]].map D.str)), []) := alleven_eq 0 [] (by decide)
  have hs : 7 ≤ sizeLine := by omega
  have E1 : eqD (.lst ([1, 2, 4, 8, 14, 24, 36].map D.int)) (.lst ([1, 2, 4, 8, 14, 24, 36].map D.int)) = some true := by rw [eqL_int]; rfl
  have E2 : eqD (.tup ([[97, 97], [97, 98], [98, 97], [98, 98]].map D.str)) (.tup ([[97, 97], [97, 98], [98, 97], [98, 98]].map D.str)) = some true := by rw [eqT_str]; rfl
  have E3 : eqD (.tup ([[]].map D.str)) (.tup ([[]].map D.str)) = some true := by rw [eqT_str]; rfl
  have h4 : 4 ≤ sizeLine := by omega
  have h1 : 1 ≤ sizeLine := by omega
  have M1 : miR1 (mCons (mCallB maxD (mCons (mC (.int 1)) (mCons (mCallB minD (mCons (mC (.int 3)) (mCons (mCallB lenD (mCons (mVar 0) mNil)) mNil))) mNil))) mNil) ⟨[.val (.lst (ns.map D.int)), .un, .un, .un], []⟩ = some (rangeD 0 (max 1 (min 3 ns.length)), ⟨[.val (.lst (ns.map D.int)), .un, .un, .un], []⟩) := by
    refine miR1_n (max 1 (min 3 ns.length)) (by simp; rfl) ?_ (by omega)
    split <;> split <;> omega
  refine ⟨[], def_val rfl ⟨?sl, ?_⟩⟩
  rotate_left
  refine seq_nx (for_in M1 e) (ret_in ?_)
  simp only [List.map_cons, List.map_nil] at A1 A2 A3 E1 E2 E3
  simp [A1, A2, A3, E1, E2, E3, hs, h4, h1]
  rfl
end K60

open PySem PySem.W PyProof.Rows
set_option maxRecDepth 100000 in
set_option maxHeartbeats 0 in
theorem PySem.Challenge.cw_upwide_k60_whole_even_words_counted_holds : PySem.Challenge.rw_upwide_k60_whole_even_words_counted.Holds := by
  w_on; o_law; k_head; (case hw => w_witness2)
  k_fill
  refine VS.walk (l := PySem.Challenge.rw_upwide_k60_whole_even_words_counted) 6 ⟨rfl, by decide, by decide⟩ rfl rfl (fun w h Y => PySem.W.kIn_of Y) ?F
  case F =>
    intro w mg fa h KX G hmg
    refine' K60.all_mk KX G hmg ?a0 ?l0 ?c0 ?k0 ?a1 ?l1 ?c1 ?k1 ?a2 ?l2 ?c2 ?k2 ?a3 ?l3 ?c3 ?k3 ?a4 ?l4 ?c4 ?k4 ?a5 ?l5 ?c5 ?k5 ?a6 ?l6 ?c6 ?k6 ?a7 ?l7 ?c7 ?k7 ?a8 ?l8 ?c8 ?k8 ?a9 ?l9 ?c9 ?k9 ?a10 ?l10 ?c10 ?k10 ?a11 ?l11 ?c11 ?k11 ?a12 ?l12 ?c12 ?k12 ?a13 ?l13 ?c13 ?k13 ?a14 ?l14 ?c14 ?k14 ?a15 ?l15 ?c15 ?k15 ?a16 ?l16 ?c16 ?k16 ?a17 ?l17 ?c17 ?k17 ?a18 ?l18 ?c18 ?k18 ?a19 ?l19 ?c19 ?k19 ?a20 ?l20 ?c20 ?k20 ?a21 ?l21 ?c21 ?k21 ?z0 ?z1 ?z2 ?z3 ?z4 ?z5 ?z6 ?z7 ?z8 ?z9 ?z10 ?z11 ?z12 ?y0 ?y1 ?y2 K60.law_ok
    (case a0 => k_is)
    (case l0 => k_is)
    (case c0 => k_is)
    (case k0 => k_is)
    (case a1 => k_is)
    (case l1 => k_is)
    (case c1 => k_is)
    (case k1 => k_is)
    (case a2 => k_is)
    (case l2 => k_is)
    (case c2 => k_is)
    (case k2 => k_is)
    (case a3 => k_is)
    (case l3 => k_is)
    (case c3 => k_is)
    (case k3 => k_is)
    (case a4 => k_is)
    (case l4 => k_is)
    (case c4 => k_is)
    (case k4 => k_is)
    (case a5 => k_is)
    (case l5 => k_is)
    (case c5 => k_is)
    (case k5 => k_is)
    (case a6 => k_is)
    (case l6 => k_is)
    (case c6 => k_is)
    (case k6 => k_is)
    (case a7 => k_is)
    (case l7 => k_is)
    (case c7 => k_is)
    (case k7 => k_is)
    (case a8 => k_is)
    (case l8 => k_is)
    (case c8 => k_is)
    (case k8 => k_is)
    (case a9 => k_is)
    (case l9 => k_is)
    (case c9 => k_is)
    (case k9 => k_is)
    (case a10 => k_is)
    (case l10 => k_is)
    (case c10 => k_is)
    (case k10 => k_is)
    (case a11 => k_is)
    (case l11 => k_is)
    (case c11 => k_is)
    (case k11 => k_is)
    (case a12 => k_is)
    (case l12 => k_is)
    (case c12 => k_is)
    (case k12 => k_is)
    (case a13 => k_is)
    (case l13 => k_is)
    (case c13 => k_is)
    (case k13 => k_is)
    (case a14 => k_is)
    (case l14 => k_is)
    (case c14 => k_is)
    (case k14 => k_is)
    (case a15 => k_is)
    (case l15 => k_is)
    (case c15 => k_is)
    (case k15 => k_is)
    (case a16 => k_is)
    (case l16 => k_is)
    (case c16 => k_is)
    (case k16 => k_is)
    (case a17 => k_is)
    (case l17 => k_is)
    (case c17 => k_is)
    (case k17 => k_is)
    (case a18 => k_is)
    (case l18 => k_is)
    (case c18 => k_is)
    (case k18 => k_is)
    (case a19 => k_is)
    (case l19 => k_is)
    (case c19 => k_is)
    (case k19 => k_is)
    (case a20 => k_is)
    (case l20 => k_is)
    (case c20 => k_is)
    (case k20 => k_is)
    (case a21 => k_is)
    (case l21 => k_is)
    (case c21 => k_is)
    (case k21 => k_is)
    (case z0 => k_is)
    (case z1 => k_is)
    (case z2 => k_is)
    (case z3 => k_is)
    (case z4 => k_is)
    (case z5 => k_is)
    (case z6 => k_is)
    (case z7 => k_is)
    (case z8 => k_is)
    (case z9 => k_is)
    (case z10 => k_is)
    (case z11 => k_is)
    (case z12 => k_is)
    (case y0 => k_is)
    (case y1 => k_is)
    (case y2 => k_is)

