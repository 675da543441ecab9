import PyProof.Rows.All
import HandS.ForMost
import HandS.Walk
import HandS.Wide
import HandS.IsInst
import HandS.Flow
import HandS.EndBits
import HandS.TupMul
import HandS.Zip
import HandS.Rev
import HandS.TupAny
import HandS.Conv
import HandS.Style
import HandS.Deep
import HandS.NoneIn
import HandS.WordsDict
import HandS.TupLen
import HandS.DictTup
import HandS.ListItems
import HandS.SetKeys
import HandS.DictSub
import HandS.DictComp
import KE.KDictPairs
import HandS.Lambda
import HandS.TryMany
import HandS.Small
import KE.GoesMore
import PyProof.Draws
import HandS.EndTab
import HandS.HeadHook4
import KE.KRevSl
import HandS.Text
import KE.SortData
import PyProof.ListStr
import HandS.TupSets
import HandS.ExcOwn
import PyProof.ExcBaseAll.ValueError
import HandS.Head0
import HandS.Head1
import HandS.Head2
import PyProof.EqAt
import HandS.Star
import HandS.WideMore
import HandS.StrMore
import PyProof.Rows.StrInSeq3
import PyProof.DictUpdate
import HandS.More
import PyProof.StrLawsIn
import PyProof.ReprBulk
import PyProof.ReprRoads
import PySem.Challenge.RW_upwide_k59_two_trees_merged
set_option Elab.async false
set_option linter.all false
set_option maxRecDepth 100000
set_option maxHeartbeats 4000000
/-! A layer over HandS: mirrors with value semantics. -/
namespace VS
open PySem L2

/-- the tables of code objects that a law's defs with lambdas have; whether it is told that no repr is under way -/
class TabT where
  T : List (Addr × Str)
  gd : Bool
section
variable {T : List (Addr × Str)} {H H' : Hp}
theorem tabs_but {a : Addr} (t : LamX.Tabs T H) (hh : ∀ b, b ≠ a → H' b = H b) (n1 : ∀ ps, H a ≠ some (.tbl ps)) (n2 : ∀ q, H a ≠ some (LamX.CodeO a q)) : LamX.Tabs T H' := fun p hp => by
  obtain ⟨ps, h1, h2, h3⟩ := t p hp
  refine ⟨ps, (hh _ fun z => n1 ps (z ▸ h1)).trans h1, h2, fun pos cv hc => ?_⟩
  obtain ⟨c, e1, e2⟩ := h3 pos cv hc
  exact ⟨c, e1, (hh _ fun z => n2 p.2 (z ▸ e2)).trans e2⟩
end

/-- data -/
inductive D where
  | non | bl (b : Bool) | int (i : Int) | str (s : List Nat) | tup (xs : List D) | lst (xs : List D)
  | dict (kvs : List (D × D)) | dicT (kvs : List (D × D)) | set (xs : List D) | fn (x : List Nat) | ty (n : String) | obj (c : List Nat) (fs : List (List Nat × D))

/-- a key as data -/
def kD : Key → D
  | .inl i => .int i
  | .inr x => .str x.cps.toList

/-- a text of the machine -/
def OkS (s : List Nat) : Prop := s.length ≤ sizeLine ∧ ∀ c ∈ s, c < 1114112
def keyOk : Key → Prop
  | .inl _ => True
  | .inr x => OkS x.cps.toList
mutual
def RD (K : PySem.W.Frag) (mg : Str → Option Value) (F : Hp) : D → V → Prop
  | .non, v => v = .non
  | .bl b, v => v = .bl b
  | .int i, v => v = .int i
  | .str s, v => v = .str ⟨s.toArray⟩ ∧ OkS s
  | .tup ds, v => ∃ a vs, v = .ref a ∧ F a = some (.tup vs) ∧ RDs K mg F ds vs
  | .lst ds, v => ∃ a vs, v = .ref a ∧ SqL K F a vs ∧ RDs K mg F ds vs
  | .dict ds, v => ∃ a kvs, v = .ref a ∧ F a = some (.dK kvs) ∧ RDk K mg F ds kvs
  | .dicT ds, v => ∃ a kvs, v = .ref a ∧ F a = some (.dT kvs) ∧ RDt K mg F ds kvs
  | .set _, _ => False
  | .fn x, v => ∃ f, v = .ref f ∧ mg ⟨x.toArray⟩ = some (.ref f)
  | .ty n, v => v = .ty n
  | .obj _ _, _ => False
def RDs (K : PySem.W.Frag) (mg : Str → Option Value) (F : Hp) : List D → List V → Prop
  | [], vs => vs = []
  | d :: ds, vs => ∃ v r, vs = v :: r ∧ RD K mg F d v ∧ RDs K mg F ds r
def RDk (K : PySem.W.Frag) (mg : Str → Option Value) (F : Hp) : List (D × D) → List (Key × V) → Prop
  | [], vs => vs = []
  | (k, d) :: ds, vs => ∃ c v r, vs = (c, v) :: r ∧ (k = kD c ∧ keyOk c) ∧ RD K mg F d v ∧ RDk K mg F ds r
def RDt (K : PySem.W.Frag) (mg : Str → Option Value) (F : Hp) : List (D × D) → List (List Key × V) → Prop
  | [], vs => vs = []
  | (k, d) :: ds, vs => ∃ c v r, vs = (c, v) :: r ∧ (k = .tup (c.map kD) ∧ ∀ z ∈ c, keyOk z) ∧ RD K mg F d v ∧ RDt K mg F ds r
end

section
variable {K : PySem.W.Frag} {mg : Str → Option Value} {F F' H H' : Hp}
mutual
theorem RD.mono (h : Same F F') : ∀ (d : D) (v : V), RD K mg F d v → RD K mg F' d v
  | .non, v, e => by simpa only [RD] using e
  | .bl b, v, e => by simpa only [RD] using e
  | .int i, v, e => by simpa only [RD] using e
  | .str s, v, e => by simpa only [RD] using e
  | .fn s, v, e => by simpa only [RD] using e
  | .ty s, v, e => by simpa only [RD] using e
  | .tup ds, v, e => by
    simp only [RD] at e ⊢
    obtain ⟨a, vs, e1, e2, e3⟩ := e
    exact ⟨a, vs, e1, h _ _ e2, RDs.mono h ds vs e3⟩
  | .lst ds, v, e => by
    simp only [RD] at e ⊢
    obtain ⟨a, vs, e1, e2, e3⟩ := e
    exact ⟨a, vs, e1, h.seq e2, RDs.mono h ds vs e3⟩
  | .dict ds, v, e => by
    simp only [RD] at e ⊢
    obtain ⟨a, kvs, e1, e2, e3⟩ := e
    exact ⟨a, kvs, e1, h _ _ e2, RDk.mono h ds kvs e3⟩
  | .dicT ds, v, e => by
    simp only [RD] at e ⊢
    obtain ⟨a, kvs, e1, e2, e3⟩ := e
    exact ⟨a, kvs, e1, h _ _ e2, RDt.mono h ds kvs e3⟩
  | .set _, v, e => by simp only [RD] at e
  | .obj _ _, v, e => by simp only [RD] at e
theorem RDs.mono (h : Same F F') : ∀ (ds : List D) (vs : List V), RDs K mg F ds vs → RDs K mg F' ds vs
  | [], vs, e => by simpa only [RDs] using e
  | d :: ds, vs, e => by
    simp only [RDs] at e ⊢
    obtain ⟨v, r, e1, e2, e3⟩ := e
    exact ⟨v, r, e1, RD.mono h d v e2, RDs.mono h ds r e3⟩
theorem RDk.mono (h : Same F F') : ∀ (ds : List (D × D)) (vs : List (Key × V)), RDk K mg F ds vs → RDk K mg F' ds vs
  | [], vs, e => by simpa only [RDk] using e
  | (k, d) :: ds, vs, e => by
    simp only [RDk] at e ⊢
    obtain ⟨c, v, r, e1, e0, e2, e3⟩ := e
    exact ⟨c, v, r, e1, e0, RD.mono h d v e2, RDk.mono h ds r e3⟩
theorem RDt.mono (h : Same F F') : ∀ (ds : List (D × D)) (vs : List (List Key × V)), RDt K mg F ds vs → RDt K mg F' ds vs
  | [], vs, e => by simpa only [RDt] using e
  | (k, d) :: ds, vs, e => by
    simp only [RDt] at e ⊢
    obtain ⟨c, v, r, e1, e0, e2, e3⟩ := e
    exact ⟨c, v, r, e1, e0, RD.mono h d v e2, RDt.mono h ds r e3⟩
end
end

/-- a value is known; an object of nobody else; that of a slot; that of the store -/
inductive EV where
  | val (d : D) | fresh (d : D) | slot (i : Nat) | par (k : Nat)
inductive Cell where
  | un | val (d : D) | own (d : D) | par (k : Nat)
inductive SC where
  | own (d : D) | frz (d : D)
structure VEnv where
  sl : List Cell
  st : List SC
inductive Fl where
  | nx | brk | cont | ret (r : EV) | exc (x : Str)
abbrev M := VEnv → Option (EV × VEnv)
abbrev MB := VEnv → Option (Bool × VEnv)
abbrev ML := VEnv → Option (List EV × VEnv)
abbrev MS := VEnv → Option (Fl × VEnv)
abbrev MG := EV → VEnv → Option VEnv

def OwnAt (K : PySem.W.Frag) (mg : Str → Option Value) (F H : Hp) (a : Addr) (d : D) : Prop :=
  F a = none ∧ match d with
    | .lst ds => ∃ vs, H a = some (.lst vs) ∧ RDs K mg F ds vs
    | .dict ds => ∃ kvs, H a = some (.dK kvs) ∧ RDk K mg F ds kvs
    | .dicT ds => ∃ kvs, H a = some (.dT kvs) ∧ RDt K mg F ds kvs
    | _ => False

/-- where the objects stand that may be written -/
def LocAt (ρ : List Addr) (Γ : VEnv) (σ : St) : Nat ⊕ Nat → Addr → Prop
  | .inl i, a => (∃ d, Γ.sl[i]? = some (Cell.own d)) ∧ σ[i]? = some (some (.ref a))
  | .inr k, a => (∃ d, Γ.st[k]? = some (SC.own d)) ∧ ρ[k]? = some a

section
variable [TabT]
structure Rep (K : PySem.W.Frag) (mg : Str → Option Value) (ρ : List Addr) (O : Addr → Prop) (Γ : VEnv) (σ : St) (H F : Hp) : Prop where
  le : Same F H
  len : σ.length = Γ.sl.length
  vl : ∀ (i : Nat) (d : D), Γ.sl[i]? = some (Cell.val d) → ∃ v, σ[i]? = some (some v) ∧ RD K mg F d v
  ow : ∀ (i : Nat) (d : D), Γ.sl[i]? = some (Cell.own d) → ∃ a, σ[i]? = some (some (V.ref a)) ∧ OwnAt K mg F H a d
  pr : ∀ (i k : Nat), Γ.sl[i]? = some (Cell.par k) → ∃ a, ρ[k]? = some a ∧ σ[i]? = some (some (V.ref a))
  plen : ρ.length = Γ.st.length
  sow : ∀ (k : Nat) (d : D), Γ.st[k]? = some (SC.own d) → ∃ a, ρ[k]? = some a ∧ OwnAt K mg F H a d
  sfz : ∀ (k : Nat) (d : D), Γ.st[k]? = some (SC.frz d) → ∃ a, ρ[k]? = some a ∧ RD K mg F d (.ref a)
  inj : ∀ l l' a, LocAt ρ Γ σ l a → LocAt ρ Γ σ l' a → l = l'
  prot : ∀ a, O a → F a = none ∧ H a ≠ none ∧ ∀ l, ¬ LocAt ρ Γ σ l a
  tb : LamX.Tabs TabT.T H
  nt : ∀ a ps, F a ≠ some (.tbl ps)
  pt : ∀ a, O a → ∀ ps, H a ≠ some (.tbl ps)

def RepEV (K : PySem.W.Frag) (mg : Str → Option Value) (ρ : List Addr) (O : Addr → Prop) (Γ : VEnv) (σ : St) (H F : Hp) : EV → V → Prop
  | .val d, v => RD K mg F d v
  | .fresh d, v => ∃ p, v = .ref p ∧ OwnAt K mg F H p d ∧ ¬ O p ∧ ∀ l, ¬ LocAt ρ Γ σ l p
  | .slot i, v => σ[i]? = some (some v) ∧ True
  | .par k, v => ∃ a, ρ[k]? = some a ∧ v = .ref a

def frs (r : EV) (v : V) : Addr → Prop := fun a => match r with
  | .fresh _ => v = .ref a
  | _ => False
def orO (O O' : Addr → Prop) : Addr → Prop := fun a => O a ∨ O' a

/-- what an operation that only makes new things leaves -/
structure Grow (F H F' H' : Hp) : Prop where
  hs : Same H H'
  fs : Same F F'
  le : Same F' H'
  nw : ∀ a, F' a ≠ none → F a ≠ none ∨ H a = none
  nt : ∀ a ps, F' a = some (.tbl ps) → F a = some (.tbl ps)

section
variable {K : PySem.W.Frag} {mg : Str → Option Value} {ρ : List Addr} {O O' : Addr → Prop} {Γ Γ' : VEnv} {σ : St} {H F F' H' : Hp} {r : EV} {v : V} {d : D} {a : Addr}
theorem OwnAt.there (h : OwnAt K mg F H a d) : H a ≠ none := by
  obtain ⟨_, h⟩ := h
  cases d <;> simp only at h
  · obtain ⟨vs, e, _⟩ := h; rw [e]; exact fun z => nomatch z
  · obtain ⟨vs, e, _⟩ := h; rw [e]; exact fun z => nomatch z
  · obtain ⟨vs, e, _⟩ := h; rw [e]; exact fun z => nomatch z
theorem OwnAt.stay (h : OwnAt K mg F H a d) (hf : Same F F') (hn : F' a = none) (hh : H' a = H a) : OwnAt K mg F' H' a d := by
  obtain ⟨_, h⟩ := h
  refine ⟨hn, ?_⟩
  cases d <;> simp only at h ⊢
  · obtain ⟨vs, e, q⟩ := h; exact ⟨vs, hh.trans e, RDs.mono hf _ _ q⟩
  · obtain ⟨vs, e, q⟩ := h; exact ⟨vs, hh.trans e, RDk.mono hf _ _ q⟩
  · obtain ⟨vs, e, q⟩ := h; exact ⟨vs, hh.trans e, RDt.mono hf _ _ q⟩
theorem OwnAt.notbl (h : OwnAt K mg F H a d) (ps : Array Value) : H a ≠ some (.tbl ps) := fun q => by
  obtain ⟨_, h⟩ := h
  rw [q] at h
  cases d <;> simp only at h <;> obtain ⟨_, e, _⟩ := h <;> cases e
theorem OwnAt.tabs {T : List (Addr × Str)} (h : OwnAt K mg F H a d) (t : LamX.Tabs T H) (hh : ∀ b, b ≠ a → H' b = H b) : LamX.Tabs T H' := by
  obtain ⟨_, h⟩ := h
  cases d <;> simp only at h
  · obtain ⟨vs, e, _⟩ := h; exact tabs_but t hh (fun ps q => by rw [e] at q; cases q) fun x q => by rw [e] at q; cases q
  · obtain ⟨vs, e, _⟩ := h; exact tabs_but t hh (fun ps q => by rw [e] at q; cases q) fun x q => by rw [e] at q; cases q
  · obtain ⟨vs, e, _⟩ := h; exact tabs_but t hh (fun ps q => by rw [e] at q; cases q) fun x q => by rw [e] at q; cases q
theorem Same.at_ (h : Same H H') (e : H a ≠ none) : H' a = H a := by
  cases q : H a with
  | none => exact absurd q e
  | some o => exact h a o q
theorem Grow.refl (h : Same F H) : Grow F H F H := ⟨Same.refl _, Same.refl _, h, fun a e => .inl e, fun _ _ e => e⟩
theorem Grow.keepN (g : Grow F H F' H') (hn : F a = none) (e : H a ≠ none) : F' a = none := by
  cases q : F' a with
  | none => rfl
  | some o => rcases g.nw a (by rw [q]; exact fun z => nomatch z) with z | z
              · exact absurd hn z
              · exact absurd z e
theorem Grow.own (g : Grow F H F' H') (h : OwnAt K mg F H a d) : OwnAt K mg F' H' a d :=
  h.stay g.fs (g.keepN h.1 h.there) (Same.at_ g.hs h.there)
theorem Grow.trans {F2 H2 : Hp} (g : Grow F H F' H') (g' : Grow F' H' F2 H2) : Grow F H F2 H2 where
  hs := g.hs.trans g'.hs
  fs := g.fs.trans g'.fs
  le := g'.le
  nw := fun a e => by
    rcases g'.nw a e with z | z
    · exact g.nw a z
    · right
      cases q : H a with
      | none => rfl
      | some o => rw [g.hs a o q] at z; cases z
  nt := fun a ps e => g.nt a ps (g'.nt a ps e)
theorem Rep.grow (R : Rep K mg ρ O Γ σ H F) (g : Grow F H F' H') : Rep K mg ρ O Γ σ H' F' where
  le := g.le
  len := R.len
  vl := fun i d e => let ⟨v, h1, h2⟩ := R.vl i d e; ⟨v, h1, RD.mono g.fs _ _ h2⟩
  ow := fun i d e => let ⟨v, h1, h2⟩ := R.ow i d e; ⟨v, h1, g.own h2⟩
  pr := R.pr
  plen := R.plen
  sow := fun i d e => let ⟨v, h1, h2⟩ := R.sow i d e; ⟨v, h1, g.own h2⟩
  sfz := fun i d e => let ⟨v, h1, h2⟩ := R.sfz i d e; ⟨v, h1, RD.mono g.fs _ _ h2⟩
  inj := R.inj
  prot := fun a h => let ⟨h1, h2, h3⟩ := R.prot a h; ⟨g.keepN h1 h2, by rw [Same.at_ g.hs h2]; exact h2, h3⟩
  tb := R.tb.ext g.hs
  nt := fun a ps e => R.nt a ps (g.nt a ps e)
  pt := fun a h ps => by rw [Same.at_ g.hs (R.prot a h).2.1]; exact R.pt a h ps
theorem Rep.opres (R : Rep K mg ρ O Γ σ H F) (g : Same H H') : ∀ a, O a → H' a = H a := fun a h => Same.at_ g (R.prot a h).2.1
theorem Rep.weakO (R : Rep K mg ρ O Γ σ H F) (h : ∀ a, O' a → O a) : Rep K mg ρ O' Γ σ H F :=
  { R with prot := fun a z => R.prot a (h a z), pt := fun a z => R.pt a (h a z) }
theorem RepEV.grow (e : RepEV K mg ρ O Γ σ H F r v) (g : Grow F H F' H') : RepEV K mg ρ O Γ σ H' F' r v := by
  cases r with
  | val d => exact RD.mono g.fs _ _ e
  | fresh d => obtain ⟨p, h1, h2, h3, h4⟩ := e; exact ⟨p, h1, g.own h2, h3, h4⟩
  | slot i => exact e
  | par k => exact e
theorem RepEV.weakO (e : RepEV K mg ρ O Γ σ H F r v) (h : ∀ a, O' a → O a) : RepEV K mg ρ O' Γ σ H F r v := by
  cases r with
  | val d => exact e
  | fresh d => obtain ⟨p, h1, h2, h3, h4⟩ := e; exact ⟨p, h1, h2, fun z => h3 (h _ z), h4⟩
  | slot i => exact e
  | par k => exact e
/-- the pending object is protected while more is evaluated -/
theorem Rep.pend (R : Rep K mg ρ O Γ σ H F) (e : RepEV K mg ρ O Γ σ H F r v) : Rep K mg ρ (orO O (frs r v)) Γ σ H F :=
  by
  refine { R with prot := fun a z => ?_, pt := fun a z => z.elim (R.pt a) fun z => ?_ }
  case refine_2 =>
    cases r with
    | fresh d =>
      obtain ⟨p, h1, h2, h3, h4⟩ := e
      have z' : v = .ref a := z
      rw [h1] at z'; cases z'
      exact h2.notbl
    | val d => exact False.elim z
    | slot i => exact False.elim z
    | par k => exact False.elim z
  rcases z with z | z
  · exact R.prot a z
  · cases r with
    | fresh d =>
      obtain ⟨p, h1, h2, h3, h4⟩ := e
      have z' : v = .ref a := z
      rw [h1] at z'; cases z'
      exact ⟨h2.1, h2.there, h4⟩
    | val d => exact False.elim z
    | slot i => exact False.elim z
    | par k => exact False.elim z
/-- which slots hold what: a step only freezes -/
def Cells (_ _ : VEnv) : Prop := True
theorem RepEV.later (R : Rep K mg ρ O Γ σ H F) (e : RepEV K mg ρ O Γ σ H F r v) (R' : Rep K mg ρ (orO O (frs r v)) Γ' σ H' F') (hf : Same F F') (ho : ∀ a, orO O (frs r v) a → H' a = H a) (hc : Cells Γ Γ') : RepEV K mg ρ O Γ' σ H' F' r v := by
  cases r with
  | val d => exact RD.mono hf _ _ e
  | fresh d =>
    obtain ⟨p, h1, h2, h3, h4⟩ := e
    have hp : orO O (frs (.fresh d) v) p := .inr h1
    obtain ⟨q1, q2, q3⟩ := R'.prot p hp
    exact ⟨p, h1, h2.stay hf q1 (ho p hp), h3, q3⟩
  | slot i => exact ⟨e.1, trivial⟩
  | par k => exact e
end

/-! ### reading -/
def peek (Γ : VEnv) : EV → Option D
  | .val d => some d
  | .fresh d => some d
  | .slot i => match Γ.sl[i]? with
    | some (.own d) => some d
    | some (.val d) => some d
    | _ => none
  | .par k => match Γ.st[k]? with
    | some (.own d) => some d
    | some (.frz d) => some d
    | _ => none
/-- frozen, or an object that may be written, as it stands -/
def RP (K : PySem.W.Frag) (mg : Str → Option Value) (F H : Hp) (d : D) (v : V) : Prop := RD K mg F d v ∨ ∃ a, v = .ref a ∧ OwnAt K mg F H a d
def freeze : EV → VEnv → Option (D × VEnv)
  | .val d, Γ => some (d, Γ)
  | .fresh d, Γ => some (d, Γ)
  | .slot i, Γ => match Γ.sl[i]? with
    | some (.own d) => some (d, ⟨Γ.sl.set i (.val d), Γ.st⟩)
    | some (.val d) => some (d, Γ)
    | _ => none
  | .par k, Γ => match Γ.st[k]? with
    | some (.own d) => some (d, ⟨Γ.sl, Γ.st.set k (.frz d)⟩)
    | some (.frz d) => some (d, Γ)
    | _ => none
/-- the object that may be written -/
def content (Γ : VEnv) : EV → Option D
  | .slot i => match Γ.sl[i]? with
    | some (.own d) => some d
    | _ => none
  | .par k => match Γ.st[k]? with
    | some (.own d) => some d
    | _ => none
  | _ => none
def putC (Γ : VEnv) (d : D) : EV → VEnv
  | .slot i => ⟨Γ.sl.set i (.own d), Γ.st⟩
  | .par k => ⟨Γ.sl, Γ.st.set k (.own d)⟩
  | _ => Γ
def setCell (Γ : VEnv) (i : Nat) (c : Cell) : VEnv := ⟨Γ.sl.set i c, Γ.st⟩
/-- name = value -/
def asgn (i : Nat) : MG := fun r Γ => match r with
  | .val d => some (setCell Γ i (.val d))
  | .fresh d => some (setCell Γ i (.own d))
  | .slot j => (freeze (.slot j) Γ).map fun p => setCell p.2 i (.val p.1)
  | .par k => some (setCell Γ i (.par k))

theorem gset {α : Type} {l : List α} {i j : Nat} {x y : α} (h : (l.set i x)[j]? = some y) : (j = i ∧ y = x ∧ i < l.length) ∨ (j ≠ i ∧ l[j]? = some y) := by
  by_cases e : j = i
  · subst e
    left
    have hl : j < l.length := by
      have := (List.getElem?_eq_some_iff.mp h).1
      simpa using this
    rw [List.getElem?_set_self hl] at h
    exact ⟨rfl, (Option.some.inj h).symm, hl⟩
  · right
    rw [List.getElem?_set_ne (Ne.symm e)] at h
    exact ⟨e, h⟩
section
variable {K : PySem.W.Frag} {mg : Str → Option Value} {ρ : List Addr} {O O' : Addr → Prop} {Γ Γ' : VEnv} {σ : St} {H F F' H' : Hp} {r : EV} {v : V} {d : D} {a : Addr}
theorem peek_ok (R : Rep K mg ρ O Γ σ H F) (e : RepEV K mg ρ O Γ σ H F r v) (h : peek Γ r = some d) : RP K mg F H d v := by
  cases r with
  | val d' => cases h; exact .inl e
  | fresh d' => cases h; obtain ⟨p, h1, h2, _⟩ := e; exact .inr ⟨p, h1, h2⟩
  | slot i =>
    obtain ⟨e, _⟩ := e
    simp only [peek] at h
    cases q : Γ.sl[i]? with
    | none => rw [q] at h; cases h
    | some c =>
      rw [q] at h
      cases c with
      | own d' => cases h; obtain ⟨a, h1, h2⟩ := R.ow i _ q; rw [e] at h1; cases h1; exact .inr ⟨a, rfl, h2⟩
      | val d' => cases h; obtain ⟨a, h1, h2⟩ := R.vl i _ q; rw [e] at h1; cases h1; exact .inl h2
      | un => cases h
      | par k => cases h
  | par k =>
    obtain ⟨a, e, rfl⟩ := e
    simp only [peek] at h
    cases q : Γ.st[k]? with
    | none => rw [q] at h; cases h
    | some c =>
      rw [q] at h
      cases c with
      | own d' => cases h; obtain ⟨b, h1, h2⟩ := R.sow k _ q; rw [e] at h1; cases h1; exact .inr ⟨a, rfl, h2⟩
      | frz d' => cases h; obtain ⟨b, h1, h2⟩ := R.sfz k _ q; rw [e] at h1; cases h1; exact .inl h2
/-- the heap's frozen part with one object more -/
def plus (F H : Hp) (a : Addr) : Hp := fun b => if b = a then H a else F b
theorem plus_same (hn : F a = none) : Same F (plus F H a) := fun b o e => by
  unfold plus
  by_cases hb : b = a
  · subst hb; rw [hn] at e; cases e
  · rw [if_neg hb]; exact e
theorem plus_le (h : Same F H) : Same (plus F H a) H := fun b o e => by
  unfold plus at e
  by_cases hb : b = a
  · subst hb; rw [if_pos rfl] at e; exact e
  · rw [if_neg hb] at e; exact h b o e
theorem plus_ne {b : Addr} (h : b ≠ a) : plus F H a b = F b := by unfold plus; rw [if_neg h]
theorem OwnAt.frozen (h : OwnAt K mg F H a d) : RD K mg (plus F H a) d (.ref a) := by
  obtain ⟨hn, h⟩ := h
  have sm : Same F (plus F H a) := plus_same hn
  cases d <;> simp only at h
  · obtain ⟨vs, e, q⟩ := h
    simp only [RD]
    exact ⟨a, vs, rfl, .inl (.inl (by unfold plus; rw [if_pos rfl]; exact e)), RDs.mono sm _ _ q⟩
  · obtain ⟨vs, e, q⟩ := h
    simp only [RD]
    exact ⟨a, vs, rfl, by unfold plus; rw [if_pos rfl]; exact e, RDk.mono sm _ _ q⟩
  · obtain ⟨vs, e, q⟩ := h
    simp only [RD]
    exact ⟨a, vs, rfl, by unfold plus; rw [if_pos rfl]; exact e, RDt.mono sm _ _ q⟩
theorem OwnAt.plus {b : Addr} (h : OwnAt K mg F H b d) (hn : F a = none) (hne : b ≠ a) : OwnAt K mg (plus F H a) H b d :=
  h.stay (plus_same hn) (by rw [plus_ne hne]; exact h.1) rfl
/-- a pending object is frozen -/
theorem Rep.frzNew (R : Rep K mg ρ O Γ σ H F) (h : OwnAt K mg F H a d) (ho : ¬ O a) (hl : ∀ l, ¬ LocAt ρ Γ σ l a) : Rep K mg ρ O Γ σ H (plus F H a) where
  le := plus_le R.le
  len := R.len
  vl := fun i d e => let ⟨v, h1, h2⟩ := R.vl i d e; ⟨v, h1, RD.mono (plus_same h.1) _ _ h2⟩
  ow := fun i d e => let ⟨b, h1, h2⟩ := R.ow i d e; ⟨b, h1, h2.plus h.1 (fun z => hl (.inl i) ⟨⟨d, e⟩, by rw [h1, z]⟩)⟩
  pr := R.pr
  plen := R.plen
  sow := fun i d e => let ⟨b, h1, h2⟩ := R.sow i d e; ⟨b, h1, h2.plus h.1 (fun z => hl (.inr i) ⟨⟨d, e⟩, by rw [h1, z]⟩)⟩
  sfz := fun i d e => let ⟨v, h1, h2⟩ := R.sfz i d e; ⟨v, h1, RD.mono (plus_same h.1) _ _ h2⟩
  inj := R.inj
  prot := fun b hb => let ⟨h1, h2, h3⟩ := R.prot b hb; ⟨by rw [plus_ne (fun (z : b = a) => ho (z ▸ hb))]; exact h1, h2, h3⟩
  tb := R.tb
  nt := fun b ps => by
    by_cases hb : b = a
    · rw [hb]; unfold plus; rw [if_pos rfl]; exact h.notbl ps
    · rw [plus_ne hb]; exact R.nt b ps
  pt := R.pt
theorem Rep.frzTb (R : Rep K mg ρ O Γ σ H F) (h : OwnAt K mg F H a d) : (∀ b ps, plus F H a b ≠ some (.tbl ps)) ∧ True := ⟨fun b ps => by
    by_cases hb : b = a
    · rw [hb]; unfold plus; rw [if_pos rfl]; exact h.notbl ps
    · rw [plus_ne hb]; exact R.nt b ps, trivial⟩
theorem Rep.frzSlot {i : Nat} (R : Rep K mg ρ O Γ σ H F) (q : Γ.sl[i]? = some (Cell.own d)) (hs : σ[i]? = some (some (V.ref a))) (h : OwnAt K mg F H a d) :
    Rep K mg ρ O ⟨Γ.sl.set i (.val d), Γ.st⟩ σ H (plus F H a) := by
  have la : LocAt ρ Γ σ (.inl i) a := ⟨⟨d, q⟩, hs⟩
  have loc : ∀ l b, LocAt ρ ⟨Γ.sl.set i (.val d), Γ.st⟩ σ l b → LocAt ρ Γ σ l b ∧ b ≠ a := by
    intro l b hb
    cases l with
    | inl j =>
      obtain ⟨⟨d', e⟩, h1⟩ := hb
      rcases gset e with ⟨_, z, _⟩ | ⟨hne, e⟩
      · cases z
      · refine ⟨⟨⟨d', e⟩, h1⟩, fun z => ?_⟩
        subst z
        exact hne (by injection (R.inj (.inl j) (.inl i) b ⟨⟨d', e⟩, h1⟩ la))
    | inr k =>
      refine ⟨hb, fun z => ?_⟩
      subst z
      cases R.inj (.inr k) (.inl i) b hb la
  have ho : ∀ b, O b → b ≠ a := fun b hb z => (R.prot b hb).2.2 (.inl i) (z ▸ la)
  refine ⟨plus_le R.le, by rw [R.len]; simp, fun j d' e => ?_, fun j d' e => ?_, fun j k e => ?_, R.plen, fun k d' e => ?_, fun k d' e => ?_, fun l l' b h1 h2 => R.inj l l' b (loc l b h1).1 (loc l' b h2).1, fun b hb => ?_, R.tb, (R.frzTb h).1, R.pt⟩
  · rcases gset e with ⟨rfl, z, _⟩ | ⟨_, e⟩
    · cases z; exact ⟨_, hs, h.frozen⟩
    · obtain ⟨v, h1, h2⟩ := R.vl j d' e; exact ⟨v, h1, RD.mono (plus_same h.1) _ _ h2⟩
  · rcases gset e with ⟨_, z, _⟩ | ⟨hne, e⟩
    · cases z
    · obtain ⟨b, h1, h2⟩ := R.ow j d' e
      exact ⟨b, h1, h2.plus h.1 (loc (.inl j) b ⟨⟨d', by rw [List.getElem?_set_ne (Ne.symm hne)]; exact e⟩, h1⟩).2⟩
  · rcases gset e with ⟨_, z, _⟩ | ⟨_, e⟩
    · cases z
    · exact R.pr j k e
  · obtain ⟨b, h1, h2⟩ := R.sow k d' e
    exact ⟨b, h1, h2.plus h.1 (loc (.inr k) b ⟨⟨d', e⟩, h1⟩).2⟩
  · obtain ⟨b, h1, h2⟩ := R.sfz k d' e; exact ⟨b, h1, RD.mono (plus_same h.1) _ _ h2⟩
  · obtain ⟨h1, h2, h3⟩ := R.prot b hb
    exact ⟨by rw [plus_ne (ho b hb)]; exact h1, h2, fun l z => h3 l (loc l b z).1⟩
theorem Rep.frzPar {i : Nat} (R : Rep K mg ρ O Γ σ H F) (q : Γ.st[i]? = some (SC.own d)) (hs : ρ[i]? = some a) (h : OwnAt K mg F H a d) :
    Rep K mg ρ O ⟨Γ.sl, Γ.st.set i (.frz d)⟩ σ H (plus F H a) := by
  have la : LocAt ρ Γ σ (.inr i) a := ⟨⟨d, q⟩, hs⟩
  have loc : ∀ l b, LocAt ρ ⟨Γ.sl, Γ.st.set i (.frz d)⟩ σ l b → LocAt ρ Γ σ l b ∧ b ≠ a := by
    intro l b hb
    cases l with
    | inr j =>
      obtain ⟨⟨d', e⟩, h1⟩ := hb
      rcases gset e with ⟨_, z, _⟩ | ⟨hne, e⟩
      · cases z
      · refine ⟨⟨⟨d', e⟩, h1⟩, fun z => ?_⟩
        subst z
        exact hne (by injection (R.inj (.inr j) (.inr i) b ⟨⟨d', e⟩, h1⟩ la))
    | inl k =>
      refine ⟨hb, fun z => ?_⟩
      subst z
      cases R.inj (.inl k) (.inr i) b hb la
  have ho : ∀ b, O b → b ≠ a := fun b hb z => (R.prot b hb).2.2 (.inr i) (z ▸ la)
  refine ⟨plus_le R.le, R.len, fun j d' e => ?_, fun j d' e => ?_, R.pr, by rw [R.plen]; simp, fun k d' e => ?_, fun k d' e => ?_, fun l l' b h1 h2 => R.inj l l' b (loc l b h1).1 (loc l' b h2).1, fun b hb => ?_, R.tb, (R.frzTb h).1, R.pt⟩
  · obtain ⟨v, h1, h2⟩ := R.vl j d' e; exact ⟨v, h1, RD.mono (plus_same h.1) _ _ h2⟩
  · obtain ⟨b, h1, h2⟩ := R.ow j d' e
    exact ⟨b, h1, h2.plus h.1 (loc (.inl j) b ⟨⟨d', e⟩, h1⟩).2⟩
  · rcases gset e with ⟨_, z, _⟩ | ⟨hne, e⟩
    · cases z
    · obtain ⟨b, h1, h2⟩ := R.sow k d' e
      exact ⟨b, h1, h2.plus h.1 (loc (.inr k) b ⟨⟨d', by rw [List.getElem?_set_ne (Ne.symm hne)]; exact e⟩, h1⟩).2⟩
  · rcases gset e with ⟨rfl, z, _⟩ | ⟨_, e⟩
    · cases z; exact ⟨_, hs, h.frozen⟩
    · obtain ⟨b, h1, h2⟩ := R.sfz k d' e; exact ⟨b, h1, RD.mono (plus_same h.1) _ _ h2⟩
  · obtain ⟨h1, h2, h3⟩ := R.prot b hb
    exact ⟨by rw [plus_ne (ho b hb)]; exact h1, h2, fun l z => h3 l (loc l b z).1⟩
theorem Cells.refl : Cells Γ Γ := trivial
theorem Cells.trans {Γ2 : VEnv} (_ : Cells Γ Γ') (_ : Cells Γ' Γ2) : Cells Γ Γ2 := trivial
theorem freeze_ok (R : Rep K mg ρ O Γ σ H F) (e : RepEV K mg ρ O Γ σ H F r v) (h : freeze r Γ = some (d, Γ')) : ∃ F', Rep K mg ρ O Γ' σ H F' ∧ Same F F' ∧ RD K mg F' d v ∧ Cells Γ Γ' := by
  cases r with
  | val d' => cases h; exact ⟨F, R, Same.refl _, e, Cells.refl⟩
  | fresh d' => cases h; obtain ⟨p, rfl, h2, h3, h4⟩ := e; exact ⟨_, R.frzNew h2 h3 h4, plus_same h2.1, h2.frozen, Cells.refl⟩
  | slot i =>
    obtain ⟨e, _⟩ := e
    simp only [freeze] at h
    cases q : Γ.sl[i]? with
    | none => rw [q] at h; cases h
    | some c =>
      rw [q] at h
      cases c with
      | own d' =>
        cases h
        obtain ⟨a, h1, h2⟩ := R.ow i _ q; rw [e] at h1; cases h1
        exact ⟨_, R.frzSlot q e h2, plus_same h2.1, h2.frozen, trivial⟩
      | val d' => cases h; obtain ⟨a, h1, h2⟩ := R.vl i _ q; rw [e] at h1; cases h1; exact ⟨F, R, Same.refl _, h2, Cells.refl⟩
      | un => cases h
      | par k => cases h
  | par k =>
    obtain ⟨a, e, rfl⟩ := e
    simp only [freeze] at h
    cases q : Γ.st[k]? with
    | none => rw [q] at h; cases h
    | some c =>
      rw [q] at h
      cases c with
      | own d' => cases h; obtain ⟨b, h1, h2⟩ := R.sow k _ q; rw [e] at h1; cases h1; exact ⟨_, R.frzPar q e h2, plus_same h2.1, h2.frozen, trivial⟩
      | frz d' => cases h; obtain ⟨b, h1, h2⟩ := R.sfz k _ q; rw [e] at h1; cases h1; exact ⟨F, R, Same.refl _, h2, Cells.refl⟩
theorem sset {σ : St} {i j : Nat} {x : Option V} {y : V} (h : (σ.set i x)[j]? = some (some y)) : (j = i ∧ x = some y ∧ i < σ.length) ∨ (j ≠ i ∧ σ[j]? = some (some y)) := by
  rcases gset h with ⟨h1, h2, h3⟩ | h
  · exact .inl ⟨h1, h2.symm, h3⟩
  · exact .inr h
/-- a slot gets a new cell -/
theorem Rep.setCell {i : Nat} {c : Cell} {x : Option V} (R : Rep K mg ρ O Γ σ H F)
    (hc : match c with
      | .un => True
      | .val d => ∃ v, x = some v ∧ RD K mg F d v
      | .own d => ∃ a, x = some (.ref a) ∧ OwnAt K mg F H a d ∧ ¬ O a ∧ ∀ l, ¬ LocAt ρ Γ σ l a
      | .par k => ∃ a, ρ[k]? = some a ∧ x = some (.ref a)) : Rep K mg ρ O (setCell Γ i c) (σ.set i x) H F := by
  have lenσ := R.len
  have loc : ∀ l b, LocAt ρ (VS.setCell Γ i c) (σ.set i x) l b → (LocAt ρ Γ σ l b ∧ l ≠ .inl i) ∨ (l = .inl i ∧ (∃ d, c = .own d) ∧ x = some (.ref b)) := by
    intro l b hb
    cases l with
    | inl j =>
      obtain ⟨⟨d', e⟩, h1⟩ := hb
      rcases gset e with ⟨rfl, z, _⟩ | ⟨hne, e⟩
      · right
        rcases sset h1 with ⟨_, z2, _⟩ | ⟨z2, _⟩
        · exact ⟨rfl, ⟨d', z.symm⟩, z2⟩
        · exact absurd rfl z2
      · left
        rcases sset h1 with ⟨z2, _⟩ | ⟨_, h1⟩
        · exact absurd z2 hne
        · exact ⟨⟨⟨d', e⟩, h1⟩, fun z => hne (by injection z)⟩
    | inr k => exact .inl ⟨hb, fun z => nomatch z⟩
  have hi : ∀ {j : Nat} {c' : Cell}, (Γ.sl.set i c)[j]? = some c' → j = i → j < σ.length := fun e _ => by
    have := (List.getElem?_eq_some_iff.mp e).1
    rw [lenσ]; simpa using this
  refine ⟨R.le, by simp [VS.setCell, lenσ], fun j d' e => ?_, fun j d' e => ?_, fun j k e => ?_, R.plen, R.sow, R.sfz, fun l l' b h1 h2 => ?_, fun b hb => ?_, R.tb, R.nt, R.pt⟩
  · rcases gset e with ⟨hj, z, _⟩ | ⟨hne, e'⟩
    · subst z
      obtain ⟨v, h1, h2⟩ := hc
      have := hi e hj
      subst hj
      exact ⟨v, by rw [List.getElem?_set_self this, h1], h2⟩
    · obtain ⟨v, h1, h2⟩ := R.vl j d' e'
      exact ⟨v, by rw [List.getElem?_set_ne (Ne.symm hne)]; exact h1, h2⟩
  · rcases gset e with ⟨hj, z, _⟩ | ⟨hne, e'⟩
    · subst z
      obtain ⟨a, h1, h2, _⟩ := hc
      have := hi e hj
      subst hj
      exact ⟨a, by rw [List.getElem?_set_self this, h1], h2⟩
    · obtain ⟨v, h1, h2⟩ := R.ow j d' e'
      exact ⟨v, by rw [List.getElem?_set_ne (Ne.symm hne)]; exact h1, h2⟩
  · rcases gset e with ⟨hj, z, _⟩ | ⟨hne, e'⟩
    · subst z
      obtain ⟨a, h1, h2⟩ := hc
      have := hi e hj
      subst hj
      exact ⟨a, h1, by rw [List.getElem?_set_self this, h2]⟩
    · obtain ⟨v, h1, h2⟩ := R.pr j k e'
      exact ⟨v, h1, by rw [List.getElem?_set_ne (Ne.symm hne)]; exact h2⟩
  · rcases loc l b h1 with ⟨a1, n1⟩ | ⟨e1, ⟨d1, z1⟩, x1⟩
    · rcases loc l' b h2 with ⟨a2, n2⟩ | ⟨e2, ⟨d2, z2⟩, x2⟩
      · exact R.inj l l' b a1 a2
      · subst z2
        obtain ⟨a, q1, q2, q3, q4⟩ := hc
        rw [x2] at q1; cases q1
        exact absurd a1 (q4 l)
    · rcases loc l' b h2 with ⟨a2, n2⟩ | ⟨e2, _⟩
      · subst z1
        obtain ⟨a, q1, q2, q3, q4⟩ := hc
        rw [x1] at q1; cases q1
        exact absurd a2 (q4 l')
      · rw [e1, e2]
  · obtain ⟨h1, h2, h3⟩ := R.prot b hb
    refine ⟨h1, h2, fun l hl => ?_⟩
    rcases loc l b hl with ⟨z, _⟩ | ⟨_, ⟨d1, z1⟩, x1⟩
    · exact h3 l z
    · subst z1
      obtain ⟨a, q1, q2, q3, q4⟩ := hc
      rw [x1] at q1; cases q1
      exact q3 hb
theorem asgn_ok {i : Nat} (R : Rep K mg ρ O Γ σ H F) (e : RepEV K mg ρ O Γ σ H F r v) (h : asgn i r Γ = some Γ') : ∃ F', Rep K mg ρ O Γ' (σ.set i (some v)) H F' ∧ Same F F' := by
  cases r with
  | val d => cases h; exact ⟨F, R.setCell ⟨v, rfl, e⟩, Same.refl _⟩
  | fresh d => cases h; obtain ⟨p, rfl, h2, h3, h4⟩ := e; exact ⟨F, R.setCell ⟨p, rfl, h2, h3, h4⟩, Same.refl _⟩
  | slot j =>
    simp only [asgn] at h
    cases q : freeze (.slot j) Γ with
    | none => rw [q] at h; cases h
    | some p =>
      rw [q] at h
      cases h
      obtain ⟨F', R', s, rd, _⟩ := freeze_ok R e q
      exact ⟨F', R'.setCell ⟨v, rfl, rd⟩, s⟩
  | par k => cases h; obtain ⟨a, h1, rfl⟩ := e; exact ⟨F, R.setCell ⟨a, h1, rfl⟩, Same.refl _⟩
/-- an object that may be written is written -/
theorem mut_ok (R : Rep K mg ρ O Γ σ H F) (e : RepEV K mg ρ O Γ σ H F r v) (h : content Γ r = some d) :
    ∃ a, v = .ref a ∧ OwnAt K mg F H a d ∧ ∀ H' d', (∀ b, b ≠ a → H' b = H b) → OwnAt K mg F H' a d' → Rep K mg ρ O (putC Γ d' r) σ H' F ∧ ∀ b, O b → H' b = H b := by
  have le : ∀ {a : Addr} {H' : Hp}, F a = none → (∀ b, b ≠ a → H' b = H b) → Same F H' := fun {a H'} hn hh b o q => by
    rw [hh b (fun z => by rw [z, hn] at q; cases q)]; exact R.le b o q
  cases r with
  | val d' => cases h
  | fresh d' => cases h
  | slot i =>
    obtain ⟨e, _⟩ := e
    simp only [content] at h
    cases q : Γ.sl[i]? with
    | none => rw [q] at h; cases h
    | some c =>
      rw [q] at h
      cases c with
      | own d0 =>
        cases h
        obtain ⟨a, h1, h2⟩ := R.ow i _ q; rw [e] at h1; cases h1
        refine ⟨a, rfl, h2, fun H' d' hh ho => ?_⟩
        have la : LocAt ρ Γ σ (.inl i) a := ⟨⟨d, q⟩, e⟩
        have hl : i < Γ.sl.length := (List.getElem?_eq_some_iff.mp q).1
        have loc : ∀ l b, LocAt ρ ⟨Γ.sl.set i (.own d'), Γ.st⟩ σ l b → LocAt ρ Γ σ l b := by
          intro l b hb
          cases l with
          | inl j =>
            obtain ⟨⟨d2, z⟩, h1⟩ := hb
            rcases gset z with ⟨rfl, _, _⟩ | ⟨_, z⟩
            · exact ⟨⟨d, q⟩, h1⟩
            · exact ⟨⟨d2, z⟩, h1⟩
          | inr k => exact hb
        have st : ∀ l b d2, LocAt ρ Γ σ l b → l ≠ .inl i → OwnAt K mg F H b d2 → OwnAt K mg F H' b d2 := fun l b d2 hb hn hO =>
          hO.stay (Same.refl _) hO.1 (hh b fun z => hn (R.inj l (.inl i) b hb (z ▸ la)))
        refine ⟨⟨le h2.1 hh, by rw [R.len]; simp [putC], fun j d2 z => ?_, fun j d2 z => ?_, fun j k z => ?_, R.plen, fun k d2 z => ?_, R.sfz, fun l l' b h1 h2 => R.inj l l' b (loc l b h1) (loc l' b h2), fun b hb => ?_, h2.tabs R.tb hh, R.nt, fun b hb ps => by rw [hh b fun z => (R.prot b hb).2.2 (.inl i) (z ▸ la)]; exact R.pt b hb ps⟩, fun b hb => hh b fun z => (R.prot b hb).2.2 (.inl i) (z ▸ la)⟩
        · rcases gset z with ⟨_, z, _⟩ | ⟨_, z⟩
          · cases z
          · exact R.vl j d2 z
        · rcases gset z with ⟨rfl, z, _⟩ | ⟨hne, z⟩
          · cases z; exact ⟨a, e, ho⟩
          · obtain ⟨b, h1, h2⟩ := R.ow j d2 z
            exact ⟨b, h1, st (.inl j) b d2 ⟨⟨d2, z⟩, h1⟩ (fun z => hne (by injection z)) h2⟩
        · rcases gset z with ⟨_, z, _⟩ | ⟨_, z⟩
          · cases z
          · exact R.pr j k z
        · obtain ⟨b, h1, h2⟩ := R.sow k d2 z
          exact ⟨b, h1, st (.inr k) b d2 ⟨⟨d2, z⟩, h1⟩ (fun z => nomatch z) h2⟩
        · obtain ⟨h1, h2, h3⟩ := R.prot b hb
          exact ⟨h1, by rw [hh b fun z => h3 (.inl i) (z ▸ la)]; exact h2, fun l z => h3 l (loc l b z)⟩
      | val d' => cases h
      | un => cases h
      | par k => cases h
  | par i =>
    obtain ⟨a, e, rfl⟩ := e
    simp only [content] at h
    cases q : Γ.st[i]? with
    | none => rw [q] at h; cases h
    | some c =>
      rw [q] at h
      cases c with
      | own d0 =>
        cases h
        obtain ⟨a, h1, h2⟩ := R.sow i _ q; rw [e] at h1; cases h1
        refine ⟨a, rfl, h2, fun H' d' hh ho => ?_⟩
        have la : LocAt ρ Γ σ (.inr i) a := ⟨⟨d, q⟩, e⟩
        have loc : ∀ l b, LocAt ρ ⟨Γ.sl, Γ.st.set i (.own d')⟩ σ l b → LocAt ρ Γ σ l b := by
          intro l b hb
          cases l with
          | inr j =>
            obtain ⟨⟨d2, z⟩, h1⟩ := hb
            rcases gset z with ⟨rfl, _, _⟩ | ⟨_, z⟩
            · exact ⟨⟨d, q⟩, h1⟩
            · exact ⟨⟨d2, z⟩, h1⟩
          | inl k => exact hb
        have st : ∀ l b d2, LocAt ρ Γ σ l b → l ≠ .inr i → OwnAt K mg F H b d2 → OwnAt K mg F H' b d2 := fun l b d2 hb hn hO =>
          hO.stay (Same.refl _) hO.1 (hh b fun z => hn (R.inj l (.inr i) b hb (z ▸ la)))
        refine ⟨⟨le h2.1 hh, R.len, R.vl, fun j d2 z => ?_, R.pr, by rw [R.plen]; simp [putC], fun k d2 z => ?_, fun k d2 z => ?_, fun l l' b h1 h2 => R.inj l l' b (loc l b h1) (loc l' b h2), fun b hb => ?_, h2.tabs R.tb hh, R.nt, fun b hb ps => by rw [hh b fun z => (R.prot b hb).2.2 (.inr i) (z ▸ la)]; exact R.pt b hb ps⟩, fun b hb => hh b fun z => (R.prot b hb).2.2 (.inr i) (z ▸ la)⟩
        · obtain ⟨b, h1, h2⟩ := R.ow j d2 z
          exact ⟨b, h1, st (.inl j) b d2 ⟨⟨d2, z⟩, h1⟩ (fun z => nomatch z) h2⟩
        · rcases gset z with ⟨rfl, z, _⟩ | ⟨hne, z⟩
          · cases z; exact ⟨a, e, ho⟩
          · obtain ⟨b, h1, h2⟩ := R.sow k d2 z
            exact ⟨b, h1, st (.inr k) b d2 ⟨⟨d2, z⟩, h1⟩ (fun z => hne (by injection z)) h2⟩
        · rcases gset z with ⟨_, z, _⟩ | ⟨_, z⟩
          · cases z
          · exact R.sfz k d2 z
        · obtain ⟨h1, h2, h3⟩ := R.prot b hb
          exact ⟨h1, by rw [hh b fun z => h3 (.inr i) (z ▸ la)]; exact h2, fun l z => h3 l (loc l b z)⟩
      | frz d' => cases h
end
end
end VS

set_option Elab.async false
set_option linter.all false
set_option maxRecDepth 100000
set_option maxHeartbeats 4000000
namespace VS
open PySem L2
variable [TabT]

/-- what a step leaves -/
structure Stp (K : PySem.W.Frag) (mg : Str → Option Value) (ρ : List Addr) (O : Addr → Prop) (Γ' : VEnv) (σ' : St) (H F H' F' : Hp) : Prop where
  rep : Rep K mg ρ O Γ' σ' H' F'
  fs : Same F F'
  op : ∀ a, O a → H' a = H a
section
variable (K : PySem.W.Frag) (mg : Str → Option Value)
def tV (m : M) : TE := fun σ H Q => ∃ ρ O Γ F r Γ', Rep K mg ρ O Γ σ H F ∧ m Γ = some (r, Γ') ∧
  ∀ v H' F', Stp K mg ρ O Γ' σ H F H' F' → Cells Γ Γ' → RepEV K mg ρ O Γ' σ H' F' r v → Q v H'
def tB (m : MB) : TT := fun σ H Q => ∃ ρ O Γ F b Γ', Rep K mg ρ O Γ σ H F ∧ m Γ = some (b, Γ') ∧
  ∀ H' F', Stp K mg ρ O Γ' σ H F H' F' → Cells Γ Γ' → Q b H'
/-- the values of a list of arguments, each pending while the next ones are evaluated -/
def RepL (ρ : List Addr) (Γ : VEnv) (σ : St) (H F : Hp) : (Addr → Prop) → List EV → List V → Prop
  | _, [], vs => vs = []
  | O, r :: rs, vs => ∃ v ws, vs = v :: ws ∧ RepEV K mg ρ O Γ σ H F r v ∧ RepL ρ Γ σ H F (orO O (frs r v)) rs ws
def tL (m : ML) : TA := fun σ H Q => ∃ ρ O Γ F rs Γ', Rep K mg ρ O Γ σ H F ∧ m Γ = some (rs, Γ') ∧
  ∀ vs H' F', Stp K mg ρ O Γ' σ H F H' F' → Cells Γ Γ' → RepL K mg ρ Γ' σ H' F' O rs vs → Q vs H'
def FlK (W : WX) (ρ : List Addr) (O : Addr → Prop) (Γ' : VEnv) (H F : Hp) (D : Ends) : Fl → Prop
  | .nx => ∀ σ' H' F', Stp K mg ρ O Γ' σ' H F H' F' → D.nx σ' H'
  | .brk => ∀ σ' H' F', Stp K mg ρ O Γ' σ' H F H' F' → D.bk σ' H'
  | .cont => ∀ σ' H' F', Stp K mg ρ O Γ' σ' H F H' F' → D.ct σ' H'
  | .ret r => ∀ v σ' H' F', Stp K mg ρ O Γ' σ' H F H' F' → RepEV K mg ρ O Γ' σ' H' F' r v → D.rt v H'
  | .exc x => ∀ C σ' H' F', mg x = some (.ref C) → Stp K mg ρ O Γ' σ' H F H' F' → W (.ref C) none σ' H'
def tS (W : WX) (m : MS) : TS := fun D σ H => ∃ ρ O Γ F fl Γ', Rep K mg ρ O Γ σ H F ∧ m Γ = some (fl, Γ') ∧ FlK K mg W ρ O Γ' H F D fl
/-- ws: the slots that the target writes -/
def tG (ws : List Nat) (g : MG) : TG := fun v σ H Q => ∃ ρ O Γ F r Γ', Rep K mg ρ O Γ σ H F ∧ RepEV K mg ρ O Γ σ H F r v ∧ g r Γ = some Γ' ∧
  ∀ σ' H' F', Stp K mg ρ O Γ' σ' H F H' F' → (∀ us : List Nat, (∀ i ∈ ws, i ∈ us) → wipe σ' us = wipe σ us) → Q σ' H'
end
abbrev VE (X : Cx) (e : Expr) (m : M) : Prop := PE X e (tV X.K X.mg m)
abbrev VT (X : Cx) (e : Expr) (m : MB) : Prop := PT X e (tB X.K X.mg m)
abbrev VW (X : Cx) (e : Expr) (m : MB) : Prop := PW X e (tB X.K X.mg m)
abbrev VA (X : Cx) (es : List Expr) (m : ML) : Prop := PA X es (tL X.K X.mg m)
/-- W: what is wanted of an exception -/
abbrev VSt (X : Cx) (st : Stmt) (m : MS) : Prop := ∀ W : WX, Takes X W → PS X st (tS X.K X.mg W m)
abbrev VSs (X : Cx) (st : List Stmt) (m : MS) : Prop := ∀ W : WX, Takes X W → PSs X st (tS X.K X.mg W m)
abbrev VG (X : Cx) (e : Expr) (ws : List Nat) (g : MG) : Prop := PG X e (tG X.K X.mg ws g)

section
variable {X : Cx} {e : Expr} {es : List Expr} {st : Stmt} {sts : List Stmt}
theorem pe_of {t t' : TE} (h : PE X e t) (f : ∀ σ H Q, t' σ H Q → t σ H Q) : PE X e t' := ⟨fun pins s σ H Q I z => h.run pins s σ H Q I (f σ H Q z)⟩
theorem pt_of {t t' : TT} (h : PT X e t) (f : ∀ σ H Q, t' σ H Q → t σ H Q) : PT X e t' := ⟨fun pins s σ H Q I z => h.run pins s σ H Q I (f σ H Q z)⟩
theorem pw_of {t t' : TT} (h : PW X e t) (f : ∀ σ H Q, t' σ H Q → t σ H Q) : PW X e t' := ⟨fun wh pins s σ H Q I z => h.run wh pins s σ H Q I (f σ H Q z)⟩
theorem pa_of {t t' : TA} (h : PA X es t) (f : ∀ σ H Q, t' σ H Q → t σ H Q) : PA X es t' := ⟨fun p pins s σ H Q I z => h.run p pins s σ H Q I (f σ H Q z)⟩
theorem ps_of {t t' : TS} (h : PS X st t) (f : ∀ D σ H, t' D σ H → t D σ H) : PS X st t' := ⟨fun pins s σ H D I z => h.run pins s σ H D I (f D σ H z)⟩
theorem pss_of {t t' : TS} (h : PSs X sts t) (f : ∀ D σ H, t' D σ H → t D σ H) : PSs X sts t' := ⟨fun pins s σ H D I z => h.run pins s σ H D I (f D σ H z)⟩
theorem pg_of {t t' : TG} (h : PG X e t) (f : ∀ v σ H Q, t' v σ H Q → t v σ H Q) : PG X e t' := ⟨fun pins s σ H v u Q I r z => h.run pins s σ H v u Q I r (f v σ H Q z)⟩
end

section
variable {K : PySem.W.Frag} {mg : Str → Option Value} {ρ : List Addr} {O O' : Addr → Prop} {Γ Γ' Γ1 Γ2 : VEnv} {σ σ' : St} {H F H' F' H1 F1 H2 F2 : Hp} {r ra rb : EV} {v : V} {d : D} {a : Addr}
theorem Stp.refl (R : Rep K mg ρ O Γ σ H F) : Stp K mg ρ O Γ σ H F H F := ⟨R, Same.refl _, fun _ _ => rfl⟩
theorem Stp.trans (s1 : Stp K mg ρ O Γ1 σ H F H1 F1) (s2 : Stp K mg ρ O Γ2 σ' H1 F1 H2 F2) : Stp K mg ρ O Γ2 σ' H F H2 F2 :=
  ⟨s2.rep, s1.fs.trans s2.fs, fun a h => (s2.op a h).trans (s1.op a h)⟩
theorem Stp.weakO (s1 : Stp K mg ρ O Γ1 σ H F H1 F1) (h : ∀ a, O' a → O a) : Stp K mg ρ O' Γ1 σ H F H1 F1 := ⟨s1.rep.weakO h, s1.fs, fun a z => s1.op a (h a z)⟩
theorem Stp.grow (R : Rep K mg ρ O Γ σ H F) (g : Grow F H F' H') : Stp K mg ρ O Γ σ H F H' F' := ⟨R.grow g, g.fs, R.opres g.hs⟩
theorem orO_l : ∀ a, O a → orO O O' a := fun _ h => .inl h

/-- one expression, then what follows -/
theorem tV_run {m : M} {Q : VK} (R : Rep K mg ρ O Γ σ H F) (e : m Γ = some (r, Γ'))
    (k : ∀ v H' F', Stp K mg ρ O Γ' σ H F H' F' → Cells Γ Γ' → RepEV K mg ρ O Γ' σ H' F' r v → Q v H') : tV K mg m σ H Q := ⟨ρ, O, Γ, F, r, Γ', R, e, k⟩
/-- two expressions -/
theorem seq2 {ma mb : M} {Q : V → V → Hp → Prop} (R : Rep K mg ρ O Γ σ H F) (ea : ma Γ = some (ra, Γ1)) (eb : mb Γ1 = some (rb, Γ2))
    (k : ∀ x y H' F', Stp K mg ρ O Γ2 σ H F H' F' → Cells Γ Γ2 → RepEV K mg ρ O Γ2 σ H' F' ra x → RepEV K mg ρ (orO O (frs ra x)) Γ2 σ H' F' rb y → Q x y H') :
    tV K mg ma σ H (fun x H1 => tV K mg mb σ H1 fun y H2 => Q x y H2) :=
  tV_run R ea fun x H1 F1 s1 c1 r1 => by
    refine tV_run (s1.rep.pend r1) eb fun y H2 F2 s2 c2 r2 => ?_
    exact k x y H2 F2 (s1.trans (s2.weakO orO_l)) (c1.trans c2) (r1.later s1.rep s2.rep s2.fs s2.op c2) r2
end
end VS

set_option Elab.async false
set_option linter.all false
set_option maxRecDepth 100000
set_option maxHeartbeats 4000000
namespace VS
open PySem L2
variable [TabT]

/-! ### results -/
def Res (K : PySem.W.Frag) (mg : Str → Option Value) (F' H H' : Hp) : EV → V → Prop
  | .val d, v => RD K mg F' d v
  | .fresh d, v => ∃ p, v = .ref p ∧ H p = none ∧ OwnAt K mg F' H' p d
  | _, _ => False
def GQ (K : PySem.W.Frag) (mg : Str → Option Value) (F H : Hp) (res : EV) (Q : VK) : Prop := ∀ v H' F', Grow F H F' H' → Res K mg F' H H' res v → Q v H'
section
variable {K : PySem.W.Frag} {mg : Str → Option Value} {ρ : List Addr} {O O' : Addr → Prop} {Γ Γ' Γ1 Γ2 : VEnv} {σ σ' : St} {H F H' F' H1 F1 H2 F2 : Hp} {r ra rb res : EV} {v x y : V} {d e : D} {a p : Addr} {Q : VK}
theorem LocAt.there {l : Nat ⊕ Nat} (R : Rep K mg ρ O Γ σ H F) (h : LocAt ρ Γ σ l a) : H a ≠ none := by
  cases l with
  | inl i => obtain ⟨⟨d, e⟩, h⟩ := h; obtain ⟨b, h1, h2⟩ := R.ow i d e; rw [h] at h1; cases h1; exact h2.there
  | inr i => obtain ⟨⟨d, e⟩, h⟩ := h; obtain ⟨b, h1, h2⟩ := R.sow i d e; rw [h] at h1; cases h1; exact h2.there
theorem res_ev (R : Rep K mg ρ O Γ σ H F) (g : Grow F H F' H') (h : Res K mg F' H H' res v) : RepEV K mg ρ O Γ σ H' F' res v := by
  cases res with
  | val d => exact h
  | fresh d => obtain ⟨p, h1, h2, h3⟩ := h; exact ⟨p, h1, h3, fun z => (R.prot p z).2.1 h2, fun l z => z.there R h2⟩
  | slot i => exact h.elim
  | par k => exact h.elim
/-- nothing was made -/
theorem gq_val (h : Same F H) (k : GQ K mg F H (.val d) Q) (rd : RD K mg F d v) : Q v H := k v H F (Grow.refl h) rd
/-- a new list (tuple) of ours -/
theorem grow_own {o : HO} (h : Same F H) (hn : H p = none) : Grow F H F (upd H p o) where
  hs := fun b o' e => by rw [upd_ne (ne_of_none e hn)]; exact e
  fs := Same.refl _
  le := fun b o' e => by rw [upd_ne (ne_of_none (h b o' e) hn)]; exact h b o' e
  nw := fun a e => .inl e
  nt := fun _ _ e => e
theorem same_none (h : Same F H) (hn : H p = none) : F p = none := by
  cases q : F p with
  | none => rfl
  | some o => rw [h p o q] at hn; cases hn
theorem gq_list {vs : List V} {ds : List D} (h : Same F H) (k : GQ K mg F H (.fresh (.lst ds)) Q) (rd : RDs K mg F ds vs) : ∀ p, H p = none → Q (.ref p) (upd H p (.lst vs)) :=
  fun p hn => k _ _ F (grow_own h hn) ⟨p, rfl, hn, same_none h hn, vs, upd_same, rd⟩
theorem grow_frz {o : HO} (h : Same F H) (hn : H p = none) (ho : ∀ ps, o ≠ .tbl ps := by intro ps z; cases z) : Grow F H (upd F p o) (upd H p o) where
  hs := fun b o' e => by rw [upd_ne (ne_of_none e hn)]; exact e
  fs := fun b o' e => by rw [upd_ne (ne_of_none (h b o' e) hn)]; exact e
  le := fun b o' e => by
    by_cases hb : b = p
    · subst hb; rw [upd_same] at e ⊢; exact e
    · rw [upd_ne hb] at e ⊢; exact h b o' e
  nw := fun a e => by
    by_cases hb : a = p
    · subst hb; exact .inr hn
    · rw [upd_ne hb] at e; exact .inl e
  nt := fun a ps e => by
    by_cases hb : a = p
    · subst hb; rw [upd_same] at e; exact absurd (Option.some.inj e) (ho ps)
    · rw [upd_ne hb] at e; exact e
theorem gq_tup {vs : List V} {ds : List D} (h : Same F H) (k : GQ K mg F H (.val (.tup ds)) Q) (rd : RDs K mg F ds vs) : ∀ p, H p = none → Q (.ref p) (upd H p (.tup vs)) :=
  fun p hn => by
    have g : Grow F H (upd F p (.tup vs)) (upd H p (.tup vs)) := grow_frz h hn
    refine k _ _ _ g ?_
    simp only [Res, RD]
    exact ⟨p, vs, rfl, upd_same, RDs.mono g.fs _ _ rd⟩
end

/-! ### two-place operations -/
def OpV (K : PySem.W.Frag) (mg : Str → Option Value) (r : R2) (g : D → D → Option EV) : Prop :=
  ∀ (F H : Hp) (x y : V) (d e : D) (res : EV) (Q : VK), Same F H → RP K mg F H d x → RP K mg F H e y → g d e = some res → GQ K mg F H res Q → r x y H Q
def OpB (K : PySem.W.Frag) (mg : Str → Option Value) (r : R2) (g : D → D → Option Bool) : Prop :=
  ∀ (F H : Hp) (x y : V) (d e : D) (b : Bool) (Q : VK), Same F H → RP K mg F H d x → RP K mg F H e y → g d e = some b → Q (.bl b) H → r x y H Q
def mBin (g : D → D → Option EV) (a b : M) : M := fun Γ =>
  (a Γ).bind fun p => (b p.2).bind fun q => (peek q.2 p.1).bind fun x => (peek q.2 q.1).bind fun y => (g x y).map fun r => (r, q.2)
def mCmp (g : D → D → Option Bool) (a b : M) : MB := fun Γ =>
  (a Γ).bind fun p => (b p.2).bind fun q => (peek q.2 p.1).bind fun x => (peek q.2 q.1).bind fun y => (g x y).map fun r => (r, q.2)
/-- a test's answer as a value -/
def mOfB (m : MB) : M := fun Γ => (m Γ).map fun p => (.val (.bl p.1), p.2)

theorem obind {α β : Type} {o : Option α} {f : α → Option β} {b : β} (h : o.bind f = some b) : ∃ a, o = some a ∧ f a = some b := by
  cases o with
  | none => cases h
  | some a => exact ⟨a, rfl, h⟩
theorem omap {α β : Type} {o : Option α} {f : α → β} {b : β} (h : o.map f = some b) : ∃ a, o = some a ∧ f a = b := by
  cases o with
  | none => cases h
  | some a => exact ⟨a, rfl, Option.some.inj h⟩

section
variable {X : Cx} {a b c : Expr} {pos : Pos} {ma mb mc : M}
theorem ve_bin {op : Operator} {r : R2} {g : D → D → Option EV} (ho : OpR X (binaryOp op) r) (hv : OpV X.K X.mg r g) (ha : VE X a ma) (hb : VE X b mb) : VE X (.BinOp a op b pos) (mBin g ma mb) := by
  refine pe_of (pe_op ho ha hb) fun σ H Q h => ?_
  obtain ⟨ρ, O, Γ, F, res, Γ', R, e, k⟩ := h
  obtain ⟨⟨ra, Γ1⟩, e1, e⟩ := obind e
  obtain ⟨⟨rb, Γ2⟩, e2, e⟩ := obind e
  obtain ⟨dx, e3, e⟩ := obind e
  obtain ⟨dy, e4, e⟩ := obind e
  obtain ⟨res', e5, e⟩ := omap e
  cases e
  refine seq2 R e1 e2 fun x y H' F' s c rx ry => ?_
  refine hv F' H' x y dx dy res Q s.rep.le (peek_ok s.rep rx e3) (peek_ok s.rep (ry.weakO orO_l) e4) e5 fun v H2 F2 g hr => ?_
  exact k v H2 F2 (s.trans (Stp.grow s.rep g)) c (res_ev s.rep g hr)
theorem seq_cmp {r : R2} {g : D → D → Option Bool} (hv : OpB X.K X.mg r g) {σ : St} {H : Hp} {Q : Bool → Hp → Prop} (h : tB X.K X.mg (mCmp g ma mb) σ H Q) :
    tTest (tOp r (tV X.K X.mg ma) (tV X.K X.mg mb)) σ H Q := by
  obtain ⟨ρ, O, Γ, F, res, Γ', R, e, k⟩ := h
  obtain ⟨⟨ra, Γ1⟩, e1, e⟩ := obind e
  obtain ⟨⟨rb, Γ2⟩, e2, e⟩ := obind e
  obtain ⟨dx, e3, e⟩ := obind e
  obtain ⟨dy, e4, e⟩ := obind e
  obtain ⟨res', e5, e⟩ := omap e
  cases e
  refine seq2 R e1 e2 fun x y H' F' s c rx ry => ?_
  exact hv F' H' x y dx dy res _ s.rep.le (peek_ok s.rep rx e3) (peek_ok s.rep (ry.weakO orO_l) e4) e5 ⟨res, rfl, k H' F' s c⟩
theorem vt_cmp {op : CmpOp} {r : R2} {g : D → D → Option Bool} (ho : OpR X (compareOp op) r) (hv : OpB X.K X.mg r g) (ha : VE X a ma) (hb : VE X b mb) (hm : behindInMarks op b = false) : VT X (.Compare a [op] [b] pos) (mCmp g ma mb) :=
  pt_of (pt_cmpR ho ha hb hm) fun σ H Q h => seq_cmp hv h
theorem ve_cmp {op : CmpOp} {r : R2} {g : D → D → Option Bool} (ho : OpR X (compareOp op) r) (hv : OpB X.K X.mg r g) (ha : VE X a ma) (hb : VE X b mb) (hm : behindInMarks op b = false) : VE X (.Compare a [op] [b] pos) (mOfB (mCmp g ma mb)) := by
  refine pe_of (pe_cmpR ho ha hb hm) fun σ H Q h => ?_
  obtain ⟨ρ, O, Γ, F, res, Γ', R, e, k⟩ := h
  obtain ⟨⟨b1, Γ1⟩, e9, e0⟩ := omap e
  cases e0
  clear e
  obtain ⟨⟨ra, Γ1⟩, e1, e⟩ := obind e9
  obtain ⟨⟨rb, Γ2⟩, e2, e⟩ := obind e
  obtain ⟨dx, e3, e⟩ := obind e
  obtain ⟨dy, e4, e⟩ := obind e
  obtain ⟨res', e5, e⟩ := omap e
  cases e
  refine seq2 R e1 e2 fun x y H' F' s c rx ry => ?_
  exact hv F' H' x y dx dy b1 _ s.rep.le (peek_ok s.rep rx e3) (peek_ok s.rep (ry.weakO orO_l) e4) e5 (k _ H' F' s c (by simp only [RepEV, RD]))
/-- an expression whose value is True or False, as a test -/
def mTest (m : M) : MB := fun Γ => (m Γ).bind fun p => match p.1 with
  | .val (.bl b) => some (b, p.2)
  | _ => none
theorem vt_val (h : VE X a ma) (he : ∀ whole, isTrue a X.env whole = (do let v ← whole; standAt a.pos; holding [v] (truthy v)) := by intro _; rfl) : VT X a (mTest ma) := by
  refine pt_of (pt_val h he) fun σ H Q h => ?_
  obtain ⟨ρ, O, Γ, F, b, Γ', R, e, k⟩ := h
  obtain ⟨⟨r, Γ1⟩, e1, e⟩ := obind e
  refine tV_run R e1 fun v H' F' s c rv => ?_
  cases r with
  | val d =>
    cases d with
    | bl b' =>
      cases e
      have rv' : v = .bl b := by simpa only [RepEV, RD] using rv
      exact ⟨b, rv', k H' F' s c⟩
    | _ => cases e
  | fresh d => cases e
  | slot i => cases e
  | par i => cases e
/-! ### and, or, not, if -/
def mAnd (a b : MB) : MB := fun Γ => (a Γ).bind fun p => if p.1 = true then b p.2 else some (false, p.2)
def mOr (a b : MB) : MB := fun Γ => (a Γ).bind fun p => if p.1 = true then some (true, p.2) else b p.2
def mNot (a : MB) : MB := fun Γ => (a Γ).map fun p => (!p.1, p.2)
def mIf (t : MB) (a b : M) : M := fun Γ => (t Γ).bind fun p => if p.1 = true then a p.2 else b p.2
variable {ba bb : MB} {rest : List Expr}
theorem tB_run {K : PySem.W.Frag} {mg : Str → Option Value} {ρ : List Addr} {O : Addr → Prop} {Γ Γ' : VEnv} {σ : St} {H F : Hp} {k : Bool} {m : MB} {Q : Bool → Hp → Prop} (R : Rep K mg ρ O Γ σ H F) (e : m Γ = some (k, Γ'))
    (h : ∀ H' F', Stp K mg ρ O Γ' σ H F H' F' → Cells Γ Γ' → Q k H') : tB K mg m σ H Q := ⟨ρ, O, Γ, F, k, Γ', R, e, h⟩
theorem vw_and1 (ha : VT X a ba) : VW X (.BoolOp .And [a] pos) ba := pw_and1 ha
theorem vw_or1 (ha : VT X a ba) : VW X (.BoolOp .Or [a] pos) ba := pw_or1 ha
theorem vw_and (ha : VT X a ba) (hb : VW X (.BoolOp .And (b :: rest) pos) bb) : VW X (.BoolOp .And (a :: b :: rest) pos) (mAnd ba bb) := by
  refine pw_of (pw_and ha hb) fun σ H Q h => ?_
  obtain ⟨ρ, O, Γ, F, r, Γ', R, e, k⟩ := h
  obtain ⟨⟨r1, Γ1⟩, e1, e⟩ := obind e
  refine tB_run R e1 fun H1 F1 s1 c1 => ?_
  cases r1 with
  | true =>
    refine iteT ?_
    exact tB_run s1.rep e fun H2 F2 s2 c2 => k H2 F2 (s1.trans s2) (c1.trans c2)
  | false => cases e; exact iteF (k H1 F1 s1 c1)
theorem vw_or (ha : VT X a ba) (hb : VW X (.BoolOp .Or (b :: rest) pos) bb) : VW X (.BoolOp .Or (a :: b :: rest) pos) (mOr ba bb) := by
  refine pw_of (pw_or ha hb) fun σ H Q h => ?_
  obtain ⟨ρ, O, Γ, F, r, Γ', R, e, k⟩ := h
  obtain ⟨⟨r1, Γ1⟩, e1, e⟩ := obind e
  refine tB_run R e1 fun H1 F1 s1 c1 => ?_
  cases r1 with
  | false =>
    refine iteF ?_
    exact tB_run s1.rep e fun H2 F2 s2 c2 => k H2 F2 (s1.trans s2) (c1.trans c2)
  | true => cases e; exact iteT (k H1 F1 s1 c1)
theorem vt_w (h : VW X a ba) : VT X a ba := h.pt
theorem vt_not (ha : VT X a ba) : VT X (.UnaryOp .Not a pos) (mNot ba) := by
  refine pt_of (pt_not ha) fun σ H Q h => ?_
  obtain ⟨ρ, O, Γ, F, r, Γ', R, e, k⟩ := h
  obtain ⟨⟨r1, Γ1⟩, e1, e⟩ := omap e
  cases e
  exact tB_run R e1 k
/-- as values -/
theorem ve_and (ha : VE X a (mOfB ba)) (hb : VE X (.BoolOp .And (b :: rest) pos) (mOfB bb)) : VE X (.BoolOp .And (a :: b :: rest) pos) (mOfB (mAnd ba bb)) := by
  refine pe_of (pe_and ha hb) fun σ H Q h => ?_
  obtain ⟨ρ, O, Γ, F, r, Γ', R, e, k⟩ := h
  obtain ⟨⟨r2, Γ2⟩, e9, e0⟩ := omap e
  cases e0
  clear e
  obtain ⟨⟨r1, Γ1⟩, e1, e⟩ := obind e9
  refine tV_run R (r := .val (.bl r1)) (Γ' := Γ1) (by simp only [mOfB, e1, Option.map_some]) fun v H1 F1 s1 c1 rv => ?_
  have rv' : v = .bl r1 := by simpa only [RepEV, RD] using rv
  refine ⟨r1, rv', ?_⟩
  cases r1 with
  | true =>
    refine iteT ?_
    have e' : bb Γ1 = some (r2, Γ2) := e
    exact tV_run s1.rep (r := .val (.bl r2)) (Γ' := Γ2) (by simp only [mOfB, e', Option.map_some]) fun v H2 F2 s2 c2 => k v H2 F2 (s1.trans s2) (c1.trans c2)
  | false => cases e; exact iteF (k _ H1 F1 s1 c1 (by simp only [RepEV, RD]))
theorem ve_or (ha : VE X a (mOfB ba)) (hb : VE X (.BoolOp .Or (b :: rest) pos) (mOfB bb)) : VE X (.BoolOp .Or (a :: b :: rest) pos) (mOfB (mOr ba bb)) := by
  refine pe_of (pe_or ha hb) fun σ H Q h => ?_
  obtain ⟨ρ, O, Γ, F, r, Γ', R, e, k⟩ := h
  obtain ⟨⟨r2, Γ2⟩, e9, e0⟩ := omap e
  cases e0
  clear e
  obtain ⟨⟨r1, Γ1⟩, e1, e⟩ := obind e9
  refine tV_run R (r := .val (.bl r1)) (Γ' := Γ1) (by simp only [mOfB, e1, Option.map_some]) fun v H1 F1 s1 c1 rv => ?_
  have rv' : v = .bl r1 := by simpa only [RepEV, RD] using rv
  refine ⟨r1, rv', ?_⟩
  cases r1 with
  | false =>
    refine iteF ?_
    have e' : bb Γ1 = some (r2, Γ2) := e
    exact tV_run s1.rep (r := .val (.bl r2)) (Γ' := Γ2) (by simp only [mOfB, e', Option.map_some]) fun v H2 F2 s2 c2 => k v H2 F2 (s1.trans s2) (c1.trans c2)
  | true => cases e; exact iteT (k _ H1 F1 s1 c1 (by simp only [RepEV, RD]))
theorem ve_one {op} {m : M} (h : VE X a m) : VE X (.BoolOp op [a] pos) m := pe_one h
theorem ve_not (ha : VE X a (mOfB ba)) : VE X (.UnaryOp .Not a pos) (mOfB (mNot ba)) := by
  refine pe_of (pe_not ha) fun σ H Q h => ?_
  obtain ⟨ρ, O, Γ, F, r, Γ', R, e, k⟩ := h
  obtain ⟨⟨r2, Γ2⟩, e9, e0⟩ := omap e
  cases e0
  clear e
  obtain ⟨⟨r1, Γ1⟩, e1, e⟩ := omap e9
  cases e
  refine tV_run R (r := .val (.bl r1)) (Γ' := Γ1) (by simp only [mOfB, e1, Option.map_some]) fun v H1 F1 s1 c1 rv => ?_
  have rv' : v = .bl r1 := by simpa only [RepEV, RD] using rv
  exact ⟨r1, rv', k _ H1 F1 s1 c1 (by simp only [RepEV, RD])⟩
/-- any value that is True or False, as the answer of a test -/
theorem ve_ofTest {m : M} (h : VE X a m) : VE X a (mOfB (mTest m)) := by
  refine pe_of h fun σ H Q h => ?_
  obtain ⟨ρ, O, Γ, F, r, Γ', R, e, k⟩ := h
  obtain ⟨⟨r2, Γ2⟩, e9, e0⟩ := omap e
  cases e0
  clear e
  obtain ⟨⟨r1, Γ1⟩, e1, e⟩ := obind e9
  refine tV_run R e1 fun v H1 F1 s1 c1 rv => ?_
  cases r1 with
  | val d =>
    cases d with
    | bl b' => cases e; exact k v H1 F1 s1 c1 rv
    | _ => cases e
  | fresh d => cases e
  | slot i => cases e
  | par i => cases e
theorem ve_if {t : MB} (hc : VT X c t) (ha : VE X a ma) (hb : VE X b mb) : VE X (.IfExp c a b pos) (mIf t ma mb) := by
  refine pe_of (pe_ifExp hc ha hb) fun σ H Q h => ?_
  obtain ⟨ρ, O, Γ, F, r, Γ', R, e, k⟩ := h
  obtain ⟨⟨r1, Γ1⟩, e1, e⟩ := obind e
  refine tB_run R e1 fun H1 F1 s1 c1 => ?_
  cases r1 with
  | true => exact iteT (tV_run s1.rep e fun v H2 F2 s2 c2 => k v H2 F2 (s1.trans s2) (c1.trans c2))
  | false => exact iteF (tV_run s1.rep e fun v H2 F2 s2 c2 => k v H2 F2 (s1.trans s2) (c1.trans c2))
/-! ### names, constants -/
def mVar (i : Nat) : M := fun Γ => match Γ.sl[i]? with
  | some (.val d) => some (.val d, Γ)
  | some (.own _) => some (.slot i, Γ)
  | some (.par k) => some (.par k, Γ)
  | _ => none
def mC (d : D) : M := fun Γ => some (.val d, Γ)
theorem ve_var (i : Nat) {x : Str} {pos : Pos} (hN : X.N[i]? = some x := by rfl) (hv : Vis X.env.scope x := by first | exact Or.inl rfl | exact Or.inr (Or.inl rfl) | exact Or.inr (Or.inr rfl)) (hd : (x == ("__debug__" : Str)) = false := by decide)
    (hcd : (x == ("__classdict__" : Str)) = false := by decide) : VE X (.Name x pos) (mVar i) := by
  refine pe_of (pe_var hN hv hd hcd) fun σ H Q h => ?_
  obtain ⟨ρ, O, Γ, F, r, Γ', R, e, k⟩ := h
  simp only [mVar] at e
  cases q : Γ.sl[i]? with
  | none => rw [q] at e; cases e
  | some c =>
    rw [q] at e
    cases c with
    | un => cases e
    | val d => cases e; obtain ⟨v, h1, h2⟩ := R.vl i d q; exact ⟨v, h1, k v H F (Stp.refl R) Cells.refl h2⟩
    | own d => cases e; obtain ⟨a, h1, h2⟩ := R.ow i d q; exact ⟨_, h1, k _ H F (Stp.refl R) Cells.refl ⟨h1, trivial⟩⟩
    | par j => cases e; obtain ⟨a, h1, h2⟩ := R.pr i j q; exact ⟨_, h2, k _ H F (Stp.refl R) Cells.refl ⟨a, h1, rfl⟩⟩
theorem ve_const {v : V} {d : D} (h : PE X a (tC v)) (rd : ∀ F, RD X.K X.mg F d v) : VE X a (mC d) := by
  refine pe_of h fun σ H Q h => ?_
  obtain ⟨ρ, O, Γ, F, r, Γ', R, e, k⟩ := h
  cases e
  exact k v H F (Stp.refl R) Cells.refl (rd F)
theorem ve_int {i j pos} : VE X (.Constant (.int i) j pos) (mC (.int i)) := ve_const pe_int fun F => by simp only [RD]
theorem ve_bl {i j pos} : VE X (.Constant (.bool i) j pos) (mC (.bl i)) := ve_const pe_bl fun F => by simp only [RD]
theorem ve_non {j pos} : VE X (.Constant .none j pos) (mC .non) := ve_const pe_non fun F => by simp only [RD]
theorem ve_str {x : Str} {j pos} (s : List Nat) (h : x = ⟨s.toArray⟩ := by decide +kernel) (ok : OkS s := by decide) : VE X (.Constant (.str x) j pos) (mC (.str s)) := ve_const pe_str fun F => by simp only [RD]; exact ⟨by rw [h], ok⟩
/-- a constant of the module: an int, a text -/
theorem ve_gint {x : Str} {i : Int} {t : Tok} (hm : X.mg x = some (.int i t)) (hg : Gl X x := by rfl) (hd : (x == ("__debug__" : Str)) = false := by decide) : VE X (.Name x pos) (mC (.int i)) :=
  ve_const (v := .int i) (pe_glob hg hm ⟨t, rfl⟩ hd) fun F => by simp only [RD]
theorem ve_gstr {x y : Str} {t : Tok} (s : List Nat) (hm : X.mg x = some (.str y t)) (h : y = ⟨s.toArray⟩ := by decide +kernel) (ok : OkS s := by decide) (hg : Gl X x := by rfl) (hd : (x == ("__debug__" : Str)) = false := by decide) : VE X (.Name x pos) (mC (.str s)) :=
  ve_const (v := .str y) (pe_glob hg hm ⟨t, rfl⟩ hd) fun F => by simp only [RD]; exact ⟨by rw [h], ok⟩
end
end VS

set_option Elab.async false
set_option linter.all false
set_option maxRecDepth 100000
set_option maxHeartbeats 4000000
namespace VS
open PySem L2 PyProof.Rows
variable [TabT]

section
variable {K : PySem.W.Frag} {mg : Str → Option Value} {F H : Hp} {v x : V} {d : D} {ds : List D} {s : List Nat} {i : Int} {b : Bool}
theorem RP.mono (h : Same F H) (r : RP K mg F H d v) (hd : ∀ xs, d ≠ .lst xs) (hd2 : ∀ xs, d ≠ .dict xs) (hd3 : ∀ xs, d ≠ .dicT xs := by intro xs z; cases z) : RD K mg F d v := by
  rcases r with r | ⟨a, _, _, r⟩
  · exact r
  · cases d <;> simp only at r
    · exact absurd rfl (hd _)
    · exact absurd rfl (hd2 _)
    · exact absurd rfl (hd3 _)
theorem RP.int (r : RP K mg F H (.int i) v) : v = .int i := by
  rcases r with r | ⟨a, _, _, r⟩
  · simpa only [RD] using r
  · simp only at r
theorem RP.bl (r : RP K mg F H (.bl b) v) : v = .bl b := by
  rcases r with r | ⟨a, _, _, r⟩
  · simpa only [RD] using r
  · simp only at r
theorem RP.non (r : RP K mg F H .non v) : v = .non := by
  rcases r with r | ⟨a, _, _, r⟩
  · simpa only [RD] using r
  · simp only at r
theorem RP.str (r : RP K mg F H (.str s) v) : v = .str ⟨s.toArray⟩ ∧ OkS s := by
  rcases r with r | ⟨a, _, _, r⟩
  · simpa only [RD] using r
  · simp only at r
theorem RP.tup (h : Same F H) (r : RP K mg F H (.tup ds) v) : ∃ a vs, v = .ref a ∧ SqT K H a vs ∧ RDs K mg F ds vs := by
  rcases r with r | ⟨a, _, _, r⟩
  · simp only [RD] at r
    obtain ⟨a, vs, e1, e2, e3⟩ := r
    exact ⟨a, vs, e1, .of (h _ _ e2), e3⟩
  · simp only at r
theorem RP.lst (h : Same F H) (r : RP K mg F H (.lst ds) v) : ∃ a vs, v = .ref a ∧ SqL K H a vs ∧ RDs K mg F ds vs := by
  rcases r with r | ⟨a, e, _, r⟩
  · simp only [RD] at r
    obtain ⟨a, vs, e1, e2, e3⟩ := r
    exact ⟨a, vs, e1, h.seq e2, e3⟩
  · simp only at r
    obtain ⟨vs, e1, e2⟩ := r
    exact ⟨a, vs, e, .inl (.inl e1), e2⟩
theorem RDs.length : ∀ {ds : List D} {vs : List V}, RDs K mg F ds vs → ds.length = vs.length
  | [], vs, h => by simp only [RDs] at h; rw [h]; rfl
  | d :: ds, vs, h => by
    simp only [RDs] at h
    obtain ⟨v, r, rfl, _, h⟩ := h
    simp only [List.length_cons, RDs.length h]
theorem RDs.append : ∀ {ds es : List D} {vs ws : List V}, RDs K mg F ds vs → RDs K mg F es ws → RDs K mg F (ds ++ es) (vs ++ ws)
  | [], es, vs, ws, h, g => by simp only [RDs] at h; rw [h]; exact g
  | d :: ds, es, vs, ws, h, g => by
    simp only [RDs] at h
    obtain ⟨v, r, rfl, h1, h2⟩ := h
    simp only [List.cons_append, RDs]
    exact ⟨v, r ++ ws, rfl, h1, RDs.append h2 g⟩
theorem RDs.get : ∀ {ds : List D} {vs : List V} {i : Nat} {d : D}, RDs K mg F ds vs → ds[i]? = some d → ∃ v, vs[i]? = some v ∧ RD K mg F d v
  | [], vs, i, d, h, e => by simp at e
  | d' :: ds, vs, 0, d, h, e => by
    simp only [RDs] at h
    obtain ⟨v, r, rfl, h1, h2⟩ := h
    simp at e; subst e
    exact ⟨v, rfl, h1⟩
  | d' :: ds, vs, i + 1, d, h, e => by
    simp only [RDs] at h
    obtain ⟨v, r, rfl, h1, h2⟩ := h
    obtain ⟨w, h3, h4⟩ := RDs.get (i := i) h2 (by simpa using e)
    exact ⟨w, by simpa using h3, h4⟩
theorem RDs.set : ∀ {ds : List D} {vs : List V} {d : D} {v : V} (i : Nat), RDs K mg F ds vs → RD K mg F d v → RDs K mg F (ds.set i d) (vs.set i v)
  | [], vs, d, v, i, h, e => by simp only [RDs] at h; subst h; simp [RDs]
  | d' :: ds, vs, d, v, 0, h, e => by
    simp only [RDs] at h
    obtain ⟨w, r, rfl, h1, h2⟩ := h
    simp only [List.set_cons_zero, RDs]
    exact ⟨v, r, rfl, e, h2⟩
  | d' :: ds, vs, d, v, i + 1, h, e => by
    simp only [RDs] at h
    obtain ⟨w, r, rfl, h1, h2⟩ := h
    simp only [List.set_cons_succ, RDs]
    exact ⟨w, _, rfl, h1, RDs.set i h2 e⟩
theorem RDs.take : ∀ {ds : List D} {vs : List V} (n : Nat), RDs K mg F ds vs → RDs K mg F (ds.take n) (vs.take n)
  | _, _, 0, _ => by simp [RDs]
  | [], vs, n + 1, h => by simp only [RDs] at h; subst h; simp [RDs]
  | d :: ds, vs, n + 1, h => by
    simp only [RDs] at h
    obtain ⟨v, r, rfl, h1, h2⟩ := h
    simp only [List.take_succ_cons, RDs]
    exact ⟨v, _, rfl, h1, RDs.take n h2⟩
theorem RDs.drop : ∀ {ds : List D} {vs : List V} (n : Nat), RDs K mg F ds vs → RDs K mg F (ds.drop n) (vs.drop n)
  | _, _, 0, h => by simpa using h
  | [], vs, n + 1, h => by simp only [RDs] at h; subst h; simp [RDs]
  | d :: ds, vs, n + 1, h => by
    simp only [RDs] at h
    obtain ⟨v, r, rfl, h1, h2⟩ := h
    simp only [List.drop_succ_cons]
    exact RDs.drop n h2
theorem RDs.rev {ds : List D} {vs : List V} (h : RDs K mg F ds vs) : RDs K mg F ds.reverse vs.reverse := by
  induction ds generalizing vs with
  | nil => simp only [RDs] at h; subst h; simp [RDs]
  | cons d ds ih =>
    simp only [RDs] at h
    obtain ⟨v, r, rfl, h1, h2⟩ := h
    rw [List.reverse_cons, List.reverse_cons]
    exact (ih h2).append (by simp only [RDs]; exact ⟨v, [], rfl, h1, rfl⟩)
theorem RDs.ints : ∀ {ns : List Int} {vs : List V}, RDs K mg F (ns.map D.int) vs → vs = ns.map V.int
  | [], vs, h => by simpa [RDs] using h
  | n :: ns, vs, h => by
    simp only [List.map_cons, RDs, RD] at h
    obtain ⟨v, r, rfl, rfl, h⟩ := h
    rw [RDs.ints h]; rfl
theorem RDs.bls : ∀ {ns : List Bool} {vs : List V}, RDs K mg F (ns.map D.bl) vs → vs = ns.map V.bl
  | [], vs, h => by simpa [RDs] using h
  | n :: ns, vs, h => by
    simp only [List.map_cons, RDs, RD] at h
    obtain ⟨v, r, rfl, rfl, h⟩ := h
    rw [RDs.bls h]; rfl
theorem RDs.nil_iff {vs : List V} (h : RDs K mg F ds vs) : vs = [] ↔ ds = [] := by
  have := h.length
  cases ds <;> cases vs <;> simp_all
end

/-! ### ints, texts, lists, tuples: + - * // % ** -/
def smallI (i : Int) : Bool := decide (i.natAbs / 18446744073709551616 = 0)
theorem smallI_iff {i : Int} : smallI i = true ↔ i.natAbs < 2 ^ 64 := by
  simp only [smallI, decide_eq_true_eq]
  rw [Nat.div_eq_zero_iff]
  constructor
  · rintro (h | h)
    · cases h
    · exact h
  · intro h; exact .inr h
def mulOk (i j : Int) : Bool := smallI i || smallI j || decide (i.natAbs.log2 + j.natAbs.log2 < 1000000)
def powOk (i j : Int) : Bool := decide (0 ≤ j) && decide (Builtin.Int.intBits i * j.toNat / 134217729 = 0)
theorem powOk_iff {i j : Int} (h : powOk i j = true) : 0 ≤ j ∧ (Builtin.Int.intBits i : Int) * j ≤ 2 ^ 27 := by
  simp only [powOk, Bool.and_eq_true, decide_eq_true_eq] at h
  obtain ⟨h1, h2⟩ := h
  refine ⟨h1, ?_⟩
  rw [Nat.div_eq_zero_iff] at h2
  have h3 : Builtin.Int.intBits i * j.toNat < 134217729 := by
    rcases h2 with h | h
    · cases h
    · exact h
  have e : j = (j.toNat : Int) := by omega
  rw [e]
  have h4 : ((Builtin.Int.intBits i * j.toNat : Nat) : Int) ≤ 134217728 := by omega
  have h5 : (2 ^ 27 : Int) = 134217728 := by decide
  rw [h5, ← Int.natCast_mul]
  exact h4
def addD : D → D → Option EV
  | .int i, .int j => some (.val (.int (i + j)))
  | .int i, .bl k => some (.val (.int (i + if k then 1 else 0)))
  | .str s, .str t => if s.length + t.length ≤ sizeLine then some (.val (.str (s ++ t))) else none
  | .lst xs, .lst ys => if xs.length + ys.length ≤ sizeLine then some (.fresh (.lst (xs ++ ys))) else none
  | .tup xs, .tup ys => if xs.length + ys.length ≤ sizeLine then some (.val (.tup (xs ++ ys))) else none
  | _, _ => none
def subD : D → D → Option EV
  | .int i, .int j => some (.val (.int (i - j)))
  | _, _ => none
def mulD : D → D → Option EV
  | .int i, .int j => if mulOk i j = true then some (.val (.int (i * j))) else none
  | .str s, .int j => if j ≤ 1000 ∧ -1000 ≤ j ∧ s.length ≤ 1000 then some (.val (.str (List.replicate j.toNat s).flatten)) else none
  | .tup xs, .int k => if xs ≠ [] ∧ 2 ≤ k ∧ k ≤ 1000 ∧ xs.length ≤ 1000 then some (.val (.tup (List.replicate k.toNat xs).flatten)) else none
  | _, _ => none
def fdivD : D → D → Option EV
  | .int i, .int j => if 0 < j ∧ j.natAbs.log2 < 9000 then some (.val (.int (i / j))) else none
  | _, _ => none
def modD : D → D → Option EV
  | .int i, .int j => if 0 < j then some (.val (.int (i % j))) else none
  | _, _ => none
def powD : D → D → Option EV
  | .int i, .int j => if powOk i j = true then some (.val (.int (i ^ j.toNat))) else none
  | _, _ => none

theorem OkS.app {s t : List Nat} (hs : OkS s) (ht : OkS t) (h : s.length + t.length ≤ sizeLine) : OkS (s ++ t) :=
  ⟨by rw [List.length_append]; exact h, fun c hc => (List.mem_append.mp hc).elim (hs.2 c) (ht.2 c)⟩

/-- list + list, whatever they are -/
def rCatG (K : PySem.W.Frag) : R2 := fun x y H Q => ∃ l b xs zs, x = .ref l ∧ y = .ref b ∧ SqL K H l xs ∧ SqL K H b zs ∧ xs.length + zs.length ≤ sizeLine ∧ ∀ p, H p = none → Q (.ref p) (upd H p (.lst (xs ++ zs)))
section
variable {X : Cx}
theorem op_catG : OpR X (binaryOp .Add) (rCatG X.K) := by
  intro pins s σ H x y v u Q I rx ry h
  obtain ⟨l, b, xs, zs, rfl, rfl, hH, hB, hz, q⟩ := h
  cases rx
  cases ry
  obtain ⟨its, r, ⟨⟨cls, dd, data, sl⟩, n, e, hc, _, hd⟩, _⟩ := I.list hH
  obtain ⟨its2, r2, ⟨⟨cls2, dd2, data2, sl2⟩, n2, e2, hc2, _, hd2⟩, _⟩ := I.list hB
  simp only at hc hd hc2 hd2
  subst hc hd hc2 hd2
  have h1 := r.length
  have h2 := r2.length
  have ea : its.toArray ++ its2.toArray = (its ++ its2).toArray := by simp
  refine concat_meets ⟨_, e, rfl⟩ ⟨_, e2, rfl⟩ PySem.noFill_list_add PySem.seq_list_add PySem.F.slot_list_add PySem.F.entry_list_add (PySem.F.args_list_add_2 _ _) (list_addW l b its.toArray its2.toArray n n2 dd dd2 sl sl2 (by simp only [List.size_toArray]; omega)) ⟨e, e2, ?_⟩
  rw [ea]
  exact ⟨.ref _, _, I.lnew (t' := s.toks) (r.append r2) (by rw [List.length_append]; omega), rfl, q _ I.fresh⟩
theorem op_powG : OpR X (binaryOp .Pow) (rI (fun i j => 0 ≤ j ∧ (Builtin.Int.intBits i : Int) * j ≤ 2 ^ 27) fun i j => .int (i ^ j.toNat)) := opI fun _ _ _ _ _ _ _ hc q => pow_int hc.1 hc.2 q
def CMulG (i j : Int) : Prop := mulOk i j = true
theorem op_mulG : OpR X (binaryOp .Mult) (rI CMulG fun i j => .int (i * j)) := opI fun i j _ _ _ _ _ hc q => by
  have hc' : mulOk i j = true := hc
  simp only [mulOk, smallI_iff, Bool.or_eq_true, decide_eq_true_eq] at hc'
  refine mul_int q ?_
  rcases hc' with (h | h) | h
  · exact CMul.ok (.inl ⟨by omega, by omega⟩)
  · exact CMul.ok (.inr ⟨by omega, by omega⟩)
  · exact CMulW.ok h
/-- text * int -/
def rRepS : R2 := fun x y H Q => ∃ z k, x = .str z ∧ y = .int k ∧ -(2 ^ 63) ≤ k ∧ k ≤ 1000 ∧ z.length ≤ 1000 ∧ Q (.str ⟨(List.replicate k.toNat z.cps.toList).flatten.toArray⟩) H
theorem rep_flat (z : Array Nat) (n : Nat) : (List.replicate n z).foldl (· ++ ·) #[] = (List.replicate n z.toList).flatten.toArray := by
  have f : ∀ (m : Nat) (acc : List Nat), (List.replicate m z).foldl (· ++ ·) acc.toArray = (acc ++ (List.replicate m z.toList).flatten).toArray := by
    intro m
    induction m with
    | zero => intro acc; simp
    | succ m ih =>
      intro acc
      rw [List.replicate_succ, List.foldl_cons, List.replicate_succ, List.flatten_cons, ← List.append_assoc, ← ih]
      congr 1
      apply Array.ext'
      simp
  have := f n []
  simpa using this
theorem op_repS : OpR X (binaryOp .Mult) rRepS := by
  intro pins s σ H x y v u Q I rx ry h
  obtain ⟨z, k, rfl, rfl, h1, h2, h3, q⟩ := h
  obtain ⟨t, rfl⟩ := rx
  obtain ⟨t', rfl⟩ := ry
  have hlen : z.length = z.cps.toList.length := by simp [Str.length]
  refine PySem.P.mul_str ?_ ?_ ?_ ?_
  · rw [decide_eq_false (by omega), decide_eq_false (by omega)]; rfl
  · intro hk _
    have h0 : (0 : Int) < k := by omega
    intro z2
    have : (2 ^ 63 - 1 : Int) / k ≥ (2 ^ 63 - 1) / 1000 := by
      apply Int.le_ediv_of_mul_le h0
      have : ((2 ^ 63 - 1 : Int) / 1000) * k ≤ ((2 ^ 63 - 1) / 1000) * 1000 := Int.mul_le_mul_of_nonneg_left h2 (by decide)
      omega
    have e : ((2 ^ 63 - 1 : Int)) / 1000 = 9223372036854775 := by decide
    omega
  · intro hk _
    have hm : z.length * k.toNat ≤ 1000 * 1000 := Nat.mul_le_mul h3 (by omega)
    unfold Builtin.Str.tooLong
    exact decide_eq_false (by have : sizeLine = 16777216 := by decide
                              omega)
  · by_cases hk : k < 1
    · rw [if_pos hk]
      have e : k.toNat = 0 := by omega
      rw [e] at q
      exact ⟨by decide, .str Str.empty, H, I.tok _, ⟨_, rfl⟩, q⟩
    · rw [if_neg hk]
      have hq : ∀ t'' s'', Inv X pins σ H s'' → EP X pins σ Q (.str ⟨(List.replicate k.toNat z.cps.toList).flatten.toArray⟩ t'') s'' := fun t'' s'' I' => ⟨.str _, H, I', ⟨t'', rfl⟩, q⟩
      by_cases h1' : (k == 1 || z.length == 0) = true
      · rw [if_pos h1']
        have e : (⟨(List.replicate k.toNat z.cps.toList).flatten.toArray⟩ : Str) = z := by
          rw [Bool.or_eq_true] at h1'
          rcases h1' with h1' | h1'
          · have : k = 1 := by simpa using h1'
            subst this
            simp
          · have hz : z.cps.toList = [] := by
              have : z.length = 0 := by simpa using h1'
              exact List.eq_nil_of_length_eq_zero (by omega)
            rw [hz]
            have hz2 : z = ⟨#[]⟩ := by
              cases z with
              | mk c => congr 1; apply Array.ext'; simpa using hz
            rw [hz2]
            have : ∀ n, (List.replicate n ([] : List Nat)).flatten = [] := by intro n; induction n with
              | zero => rfl
              | succ n ih => rw [List.replicate_succ, List.flatten_cons, ih]; rfl
            rw [this]
        rw [e] at q
        exact ⟨.str z, H, I, ⟨_, rfl⟩, q⟩
      · rw [if_neg h1', rep_flat]
        have hm : z.length * k.toNat ≤ 1000 * 1000 := Nat.mul_le_mul h3 (by omega)
        exact ⟨by
          show (List.replicate k.toNat z.cps.toList).flatten.toArray.size ≤ _
          rw [List.size_toArray, lm_len_rep_flat, ← hlen]
          have : sizeLine = 16777216 := by decide
          first
            | omega
            | (rw [Nat.mul_comm]; omega), hq _ _ (I.tok _)⟩
end

/-! ### the operators by data -/
section
variable {K : PySem.W.Frag} {mg : Str → Option Value}
theorem ov_add_int : OpV K mg (rI0 fun i j => .int (i + j)) fun d e => match d, e with
    | .int i, .int j => some (.val (.int (i + j)))
    | _, _ => none := by
  intro F H x y d e res Q hl rx ry h k
  cases d <;> cases e <;> simp only at h <;> cases h
  exact ⟨_, _, rx.int, ry.int, gq_val hl k (by simp only [RD])⟩
end
theorem flat_rep {α : Type} (n : Nat) (s : List α) : (List.replicate n s).flatten.length = n * s.length := by
  rw [lm_len_rep_flat]
section
variable {X : Cx}
/-- an operation by data, given a rule for each kind of data -/
def OpX (X : Cx) (f : Value → Value → Sem Value) (g : D → D → Option EV) : Prop :=
  ∃ r, OpR X f r ∧ OpV X.K X.mg r g
theorem opx_or {f : Value → Value → Sem Value} {g g1 g2 : D → D → Option EV} (h1 : OpX X f g1) (h2 : OpX X f g2) (h : ∀ d e r, g d e = some r → g1 d e = some r ∨ g2 d e = some r) : OpX X f g := by
  obtain ⟨r1, a1, b1⟩ := h1
  obtain ⟨r2, a2, b2⟩ := h2
  refine ⟨_, a1.or a2, fun F H x y d e res Q hl rx ry hg k => ?_⟩
  rcases h d e res hg with z | z
  · exact .inl (b1 F H x y d e res Q hl rx ry z k)
  · exact .inr (b2 F H x y d e res Q hl rx ry z k)
def gII (C : Int → Int → Bool) (f : Int → Int → Int) : D → D → Option EV
  | .int i, .int j => if C i j = true then some (.val (.int (f i j))) else none
  | _, _ => none
theorem opx_int {f : Value → Value → Sem Value} {C : Int → Int → Prop} {g : Int → Int → Int} {c : Int → Int → Bool} (h : OpR X f (rI C fun i j => .int (g i j))) (hc : ∀ i j, c i j = true → C i j) : OpX X f (gII c g) := by
  refine ⟨_, h, fun F H x y d e res Q hl rx ry hg k => ?_⟩
  cases d <;> cases e <;> simp only [gII] at hg <;> first
    | cases hg; done
    | (rename_i i j
       by_cases z : c i j = true
       · rw [if_pos z] at hg
         cases hg
         exact ⟨_, _, rx.int, ry.int, hc i j z, gq_val hl k (by simp only [RD])⟩
       · rw [if_neg z] at hg; cases hg)
theorem opx_int0 {f : Value → Value → Sem Value} {g : Int → Int → Int} (h : OpR X f (rI0 fun i j => .int (g i j))) : OpX X f (gII (fun _ _ => true) g) := by
  refine ⟨_, h, fun F H x y d e res Q hl rx ry hg k => ?_⟩
  cases d <;> cases e <;> simp only [gII] at hg <;> first
    | cases hg; done
    | (cases hg; exact ⟨_, _, rx.int, ry.int, gq_val hl k (by simp only [RD])⟩)
def gSS : D → D → Option EV
  | .str s, .str t => if s.length + t.length ≤ sizeLine then some (.val (.str (s ++ t))) else none
  | _, _ => none
theorem str_app (s t : List Nat) : ((⟨s.toArray⟩ : Str) ++ (⟨t.toArray⟩ : Str)) = ⟨(s ++ t).toArray⟩ := by
  show (⟨s.toArray ++ t.toArray⟩ : Str) = _
  congr 1
  apply Array.ext'
  simp
theorem opx_addS {f : Value → Value → Sem Value} (h : OpR X f (fun x y H Q => ∃ i j, x = .str i ∧ y = .str j ∧ i.length + j.length ≤ sizeLine ∧ Q (.str (i ++ j)) H)) : OpX X f gSS := by
  refine ⟨_, h, fun F H x y d e res Q hl rx ry hg k => ?_⟩
  cases d <;> cases e <;> simp only [gSS] at hg <;> first
    | cases hg; done
    | (rename_i s t
       by_cases z : s.length + t.length ≤ sizeLine
       · rw [if_pos z] at hg
         cases hg
         refine ⟨_, _, rx.str.1, ry.str.1, z, ?_⟩
         rw [str_app]
         exact gq_val hl k (by simp only [RD]; exact ⟨trivial, rx.str.2.app ry.str.2 z⟩)
       · rw [if_neg z] at hg; cases hg)
def gLL : D → D → Option EV
  | .lst xs, .lst ys => if xs.length + ys.length ≤ sizeLine then some (.fresh (.lst (xs ++ ys))) else none
  | _, _ => none
theorem opx_addL : OpX X (binaryOp .Add) gLL := by
  refine ⟨_, op_catG, fun F H x y d e res Q hl rx ry hg k => ?_⟩
  cases d <;> cases e <;> simp only [gLL] at hg <;> first
    | cases hg; done
    | (rename_i s t
       by_cases z : s.length + t.length ≤ sizeLine
       · rw [if_pos z] at hg
         cases hg
         obtain ⟨a, vs, rfl, h1, h2⟩ := rx.lst hl
         obtain ⟨b, ws, rfl, h3, h4⟩ := ry.lst hl
         exact ⟨_, _, _, _, rfl, rfl, h1, h3, by rw [← h2.length, ← h4.length]; exact z, gq_list hl k (h2.append h4)⟩
       · rw [if_neg z] at hg; cases hg)
def gTT : D → D → Option EV
  | .tup xs, .tup ys => if xs.length + ys.length ≤ sizeLine then some (.val (.tup (xs ++ ys))) else none
  | _, _ => none
theorem sqT_mono {K : PySem.W.Frag} {F H : Hp} {a : Addr} {vs : List V} (h : Same F H) (r : F a = some (.tup vs)) : SqT K H a vs := .of (h _ _ r)
theorem RP.tupF {K : PySem.W.Frag} {mg : Str → Option Value} {F H : Hp} {ds : List D} {v : V} (r : RP K mg F H (.tup ds) v) : ∃ a vs, v = .ref a ∧ F a = some (.tup vs) ∧ RDs K mg F ds vs := by
  rcases r with r | ⟨a, _, _, r⟩
  · simpa only [RD] using r
  · simp only at r
theorem opx_addT : OpX X (binaryOp .Add) gTT := by
  refine ⟨_, op_catA, fun F H x y d e res Q hl rx ry hg k => ?_⟩
  cases d <;> cases e <;> simp only [gTT] at hg <;> first
    | cases hg; done
    | (rename_i s t
       by_cases z : s.length + t.length ≤ sizeLine
       · rw [if_pos z] at hg
         cases hg
         obtain ⟨a, vs, rfl, h1, h2⟩ := rx.tupF
         obtain ⟨b, ws, rfl, h3, h4⟩ := ry.tupF
         refine ⟨_, _, _, _, rfl, rfl, sqT_mono hl h1, sqT_mono hl h3, by rw [← h2.length, ← h4.length]; exact z, fun q => ?_, fun _ q => ?_, fun _ q => gq_tup hl k (h2.append h4)⟩
         · have : s = [] := h2.nil_iff.mp q
           subst this
           rw [List.nil_append] at k
           exact gq_val hl k (by simp only [RD]; exact ⟨b, ws, rfl, h3, h4⟩)
         · have : t = [] := h4.nil_iff.mp q
           subst this
           rw [List.append_nil] at k
           exact gq_val hl k (by simp only [RD]; exact ⟨a, vs, rfl, h1, h2⟩)
       · rw [if_neg z] at hg; cases hg)
def gIB : D → D → Option EV
  | .int i, .bl k => some (.val (.int (i + if k then 1 else 0)))
  | _, _ => none
theorem opx_addIB : OpX X (binaryOp .Add) gIB := by
  refine ⟨_, op_add_ib, fun F H x y d e res Q hl rx ry hg k => ?_⟩
  cases d <;> cases e <;> simp only [gIB] at hg <;> first
    | cases hg; done
    | (cases hg
       refine ⟨_, _, rx.int, ry.bl, gq_val hl k ?_⟩
       simp only [RD]
       rename_i b
       cases b <;> rfl)
theorem ox_add : OpX X (binaryOp .Add) addD := by
  refine opx_or (opx_or (opx_int0 op_add) (opx_addS op_add_str) (g := fun d e => (gII (fun _ _ => true) (fun i j => i + j) d e).or (gSS d e)) fun d e r h => ?_)
    (opx_or opx_addL (opx_or opx_addT opx_addIB (g := fun d e => (gTT d e).or (gIB d e)) fun d e r h => ?_) (g := fun d e => (gLL d e).or ((gTT d e).or (gIB d e))) fun d e r h => ?_) fun d e r h => ?_
  · cases q : gII (fun _ _ => true) (fun i j => i + j) d e <;> simp_all
  · cases q : gTT d e <;> simp_all
  · cases q : gLL d e <;> simp_all
  · cases d <;> cases e <;> simp only [addD] at h <;> first
      | cases h; done
      | simp_all [gII, gSS, gLL, gTT, gIB]
theorem ox_sub : OpX X (binaryOp .Sub) subD := by
  obtain ⟨r, a, b⟩ := opx_int0 (X := X) op_sub
  refine ⟨r, a, fun F H x y d e res Q hl rx ry hg k => b F H x y d e res Q hl rx ry ?_ k⟩
  cases d <;> cases e <;> simp_all [subD, gII]
def gSI : D → D → Option EV
  | .str s, .int j => if j ≤ 1000 ∧ -1000 ≤ j ∧ s.length ≤ 1000 then some (.val (.str (List.replicate j.toNat s).flatten)) else none
  | _, _ => none
theorem mem_rep {α : Type} {n : Nat} {s : List α} {c : α} (h : c ∈ (List.replicate n s).flatten) : c ∈ s := by
  rw [List.mem_flatten] at h
  obtain ⟨l, h1, h2⟩ := h
  rw [List.mem_replicate] at h1
  rw [← h1.2]; exact h2
theorem opx_mulS : OpX X (binaryOp .Mult) gSI := by
  refine ⟨_, op_repS, fun F H x y d e res Q hl rx ry hg k => ?_⟩
  cases d <;> cases e <;> simp only [gSI] at hg <;> first
    | cases hg; done
    | (rename_i s j
       by_cases z : j ≤ 1000 ∧ -1000 ≤ j ∧ s.length ≤ 1000
       · rw [if_pos z] at hg
         cases hg
         refine ⟨_, _, rx.str.1, ry.int, Int.le_trans (by decide) z.2.1, z.1, by simpa [Str.length] using z.2.2, gq_val hl k ?_⟩
         simp only [RD]
         have hm : j.toNat * s.length ≤ 1000 * 1000 := Nat.mul_le_mul (by omega) z.2.2
         have : sizeLine = 16777216 := by decide
         exact ⟨trivial, by rw [flat_rep]; omega, fun c hc => rx.str.2.2 c (mem_rep hc)⟩
       · rw [if_neg z] at hg; cases hg)
def gTI : D → D → Option EV
  | .tup xs, .int k => if xs ≠ [] ∧ 2 ≤ k ∧ k ≤ 1000 ∧ xs.length ≤ 1000 then some (.val (.tup (List.replicate k.toNat xs).flatten)) else none
  | _, _ => none
theorem RDs.rep {K : PySem.W.Frag} {mg : Str → Option Value} {F : Hp} {ds : List D} {vs : List V} (h : RDs K mg F ds vs) : ∀ n : Nat, RDs K mg F (List.replicate n ds).flatten (List.replicate n vs).flatten
  | 0 => by simp [RDs]
  | n + 1 => by rw [List.replicate_succ, List.flatten_cons, List.replicate_succ, List.flatten_cons]; exact h.append (RDs.rep h n)
theorem opx_mulT : OpX X (binaryOp .Mult) gTI := by
  refine ⟨_, op_repT, fun F H x y d e res Q hl rx ry hg k => ?_⟩
  cases d <;> cases e <;> simp only [gTI] at hg <;> first
    | cases hg; done
    | (rename_i s j
       by_cases z : s ≠ [] ∧ 2 ≤ j ∧ j ≤ 1000 ∧ s.length ≤ 1000
       · rw [if_pos z] at hg
         cases hg
         obtain ⟨a, vs, rfl, h1, h2⟩ := rx.tupF
         exact ⟨_, _, _, rfl, ry.int, sqT_mono hl h1, fun q => z.1 (h2.nil_iff.mp q), z.2.1, z.2.2.1, by rw [← h2.length]; exact z.2.2.2, gq_tup hl k (h2.rep _)⟩
       · rw [if_neg z] at hg; cases hg)
theorem ox_mul : OpX X (binaryOp .Mult) mulD := by
  refine opx_or (opx_or (opx_int (c := mulOk) op_mulG fun i j h => h) opx_mulS (g := fun d e => (gII mulOk (fun i j => i * j) d e).or (gSI d e)) fun d e r h => ?_) opx_mulT fun d e r h => ?_
  · cases q : gII mulOk (fun i j => i * j) d e <;> simp_all
  · cases d <;> cases e <;> simp only [mulD] at h <;> first
      | cases h; done
      | simp_all [gII, gSI, gTI]
theorem ox_fdiv : OpX X (binaryOp .FloorDiv) fdivD := by
  obtain ⟨r, a, b⟩ := opx_int (X := X) (c := fun i j => decide (0 < j ∧ j.natAbs.log2 < 9000)) op_fdivW fun i j h => by simpa [CDivW] using h
  refine ⟨r, a, fun F H x y d e res Q hl rx ry hg k => b F H x y d e res Q hl rx ry ?_ k⟩
  cases d <;> cases e <;> simp_all [fdivD, gII]
theorem ox_mod : OpX X (binaryOp .Mod) modD := by
  obtain ⟨r, a, b⟩ := opx_int (X := X) (c := fun i j => decide (0 < j)) op_mod fun i j h => by simpa using h
  refine ⟨r, a, fun F H x y d e res Q hl rx ry hg k => b F H x y d e res Q hl rx ry ?_ k⟩
  cases d <;> cases e <;> simp_all [modD, gII]
theorem ox_pow : OpX X (binaryOp .Pow) powD := by
  obtain ⟨r, a, b⟩ := opx_int (X := X) (c := powOk) op_powG fun i j h => powOk_iff h
  refine ⟨r, a, fun F H x y d e res Q hl rx ry hg k => b F H x y d e res Q hl rx ry ?_ k⟩
  cases d <;> cases e <;> simp_all [powD, gII]
variable {a b : Expr} {pos : Pos} {ma mb : M}
theorem ve_op {op : Operator} {g : D → D → Option EV} (h : OpX X (binaryOp op) g) (ha : VE X a ma) (hb : VE X b mb) : VE X (.BinOp a op b pos) (mBin g ma mb) := by
  obtain ⟨r, h1, h2⟩ := h
  exact ve_bin h1 h2 ha hb
end
end VS

set_option Elab.async false
set_option linter.all false
set_option maxRecDepth 100000
set_option maxHeartbeats 4000000
/-! ### keys of dicts and sets: ints, texts, tuples of these; what stands under a key -/
namespace VS
open PySem L2 PyProof.Rows
variable [TabT]
def kdOf : D → Option Key
  | .int i => some (.inl i)
  | .str s => some (.inr ⟨s.toArray⟩)
  | _ => none
def ksOf : List D → Option (List Key)
  | [] => some []
  | d :: ds => (kdOf d).bind fun k => (ksOf ds).map fun ks => k :: ks
def ktOf : D → Option (List Key)
  | .tup ds => ksOf ds
  | _ => none
def keyOf (d : D) : Option (Key ⊕ List Key) := match kdOf d with
  | some k => some (.inl k)
  | none => (ktOf d).map .inr
def sameK (d e : D) : Bool := decide (keyOf d = keyOf e)
theorem kdOf_eq {d : D} {k : Key} (h : kdOf d = some k) : d = kD k := by
  unfold kdOf at h
  split at h
  · cases h; rfl
  · cases h; simp [kD]
  · cases h
theorem ksOf_eq : ∀ {ds : List D} {ks : List Key}, ksOf ds = some ks → ds = ks.map kD
  | [], ks, h => by cases h; rfl
  | d :: ds, ks, h => by
    unfold ksOf at h
    obtain ⟨k, h1, h⟩ := obind h
    obtain ⟨r, h2, h3⟩ := omap h
    cases h3
    rw [kdOf_eq h1, ksOf_eq h2]
    rfl
theorem kdOf_kD (k : Key) : kdOf (kD k) = some k := by
  cases k <;> simp [kD, kdOf]
theorem ksOf_kD : ∀ ks : List Key, ksOf (ks.map kD) = some ks
  | [] => rfl
  | k :: ks => by simp only [List.map_cons, ksOf, kdOf_kD, ksOf_kD ks, Option.bind_some, Option.map_some]
def tD (ks : List Key) : D := .tup (ks.map kD)
theorem keyOf_kD (k : Key) : keyOf (kD k) = some (.inl k) := by
  unfold keyOf
  rw [kdOf_kD]
theorem keyOf_tD (ks : List Key) : keyOf (tD ks) = some (.inr ks) := by
  unfold keyOf tD
  simp only [kdOf, ktOf, ksOf_kD, Option.map_some]
theorem ktOf_eq {d : D} {k : List Key} (h : ktOf d = some k) : d = tD k := by
  unfold ktOf at h
  split at h
  · rw [ksOf_eq h]; rfl
  · cases h
theorem sameK_kD (k k' : Key) : sameK (kD k) (kD k') = decide (k = k') := by
  unfold sameK
  rw [keyOf_kD, keyOf_kD]
  simp
theorem sameK_tD (k k' : List Key) : sameK (tD k) (tD k') = decide (k = k') := by
  unfold sameK
  rw [keyOf_tD, keyOf_tD]
  simp
section
variable {K : PySem.W.Frag} {mg : Str → Option Value} {F : Hp}
theorem rd_kV (k : Key) {v : V} (h : RD K mg F (kD k) v) : v = kV k := by
  cases k with
  | inl i =>
    simp only [kD, RD] at h
    rw [h]
    rfl
  | inr x =>
    simp only [kD, RD] at h
    rw [h.1]
    rfl
theorem rd_keyOk (k : Key) {v : V} (h : RD K mg F (kD k) v) : keyOk k := by
  cases k with
  | inl i => trivial
  | inr x =>
    simp only [kD, RD] at h
    exact h.2
theorem rds_kV : ∀ {ks : List Key} {vs : List V}, RDs K mg F (ks.map kD) vs → vs = ks.map kV
  | [], vs, h => by simpa only [List.map_nil, RDs] using h
  | k :: ks, vs, h => by
    simp only [List.map_cons, RDs] at h
    obtain ⟨v, r, rfl, h1, h2⟩ := h
    rw [rd_kV k h1, rds_kV h2]
    rfl
theorem rds_keyOk : ∀ {ks : List Key} {vs : List V}, RDs K mg F (ks.map kD) vs → ∀ z ∈ ks, keyOk z
  | [], _, _ => by simp
  | k :: ks, vs, h => by
    simp only [List.map_cons, RDs] at h
    obtain ⟨v, r, rfl, h1, h2⟩ := h
    intro z hz
    rcases List.mem_cons.mp hz with rfl | hz
    · exact rd_keyOk z h1
    · exact rds_keyOk h2 z hz
theorem rd_tV (k : List Key) {v : V} (h : RD K mg F (tD k) v) : ∃ b, v = .ref b ∧ F b = some (.tup (k.map kV)) ∧ ∀ z ∈ k, keyOk z := by
  simp only [tD, RD] at h
  obtain ⟨b, vs, rfl, h1, h2⟩ := h
  rw [rds_kV h2] at h1
  exact ⟨b, rfl, h1, rds_keyOk h2⟩
end
/-! what stands under a key; put under a key -/
def valD (kvs : List (D × D)) (k : D) : Option D := (kvs.find? fun p => sameK p.1 k).map (·.2)
def putD (kvs : List (D × D)) (k v : D) : List (D × D) := if (kvs.any fun p => sameK p.1 k) = true then kvs.map (fun p => if sameK p.1 k = true then (p.1, v) else p) else kvs ++ [(k, v)]
section
variable {K : PySem.W.Frag} {mg : Str → Option Value} {F : Hp}
theorem RDk.len : ∀ {ds : List (D × D)} {vs : List (Key × V)}, RDk K mg F ds vs → ds.length = vs.length
  | [], vs, h => by simp only [RDk] at h; rw [h]; rfl
  | (k, d) :: ds, vs, h => by
    simp only [RDk] at h
    obtain ⟨c, v, r, rfl, _, _, h⟩ := h
    simp only [List.length_cons, RDk.len h]
theorem RDt.len : ∀ {ds : List (D × D)} {vs : List (List Key × V)}, RDt K mg F ds vs → ds.length = vs.length
  | [], vs, h => by simp only [RDt] at h; rw [h]; rfl
  | (k, d) :: ds, vs, h => by
    simp only [RDt] at h
    obtain ⟨c, v, r, rfl, _, _, h⟩ := h
    simp only [List.length_cons, RDt.len h]
theorem valD_cons (k d k' : D) (ds : List (D × D)) : valD ((k, d) :: ds) k' = if sameK k k' = true then some d else valD ds k' := by
  unfold valD
  rw [List.find?_cons]
  by_cases h : sameK k k' = true
  · simp [h]
  · simp [h]
theorem RDk.look (c : Key) : ∀ {ds : List (D × D)} {vs : List (Key × V)}, RDk K mg F ds vs → match valD ds (kD c) with
    | some d => ∃ v, valV vs c = some v ∧ RD K mg F d v
    | none => valV vs c = none
  | [], vs, h => by
    simp only [RDk] at h
    subst h
    rfl
  | (k, d) :: ds, vs, h => by
    simp only [RDk] at h
    obtain ⟨c', v, r, rfl, ⟨rfl, _⟩, h1, h2⟩ := h
    rw [valD_cons, sameK_kD]
    by_cases e : c' = c
    · rw [if_pos (by simp [e])]
      exact ⟨v, valV_pos e, h1⟩
    · rw [if_neg (by simp [e]), valV_neg e]
      exact RDk.look c h2
theorem RDt.look (c : List Key) : ∀ {ds : List (D × D)} {vs : List (List Key × V)}, RDt K mg F ds vs → match valD ds (tD c) with
    | some d => ∃ v, valV vs c = some v ∧ RD K mg F d v
    | none => valV vs c = none
  | [], vs, h => by
    simp only [RDt] at h
    subst h
    rfl
  | (k, d) :: ds, vs, h => by
    simp only [RDt] at h
    obtain ⟨c', v, r, rfl, ⟨rfl, _⟩, h1, h2⟩ := h
    rw [valD_cons, show (D.tup (c'.map kD)) = tD c' from rfl, sameK_tD]
    by_cases e : c' = c
    · rw [if_pos (by simp [e])]
      exact ⟨v, valV_pos e, h1⟩
    · rw [if_neg (by simp [e]), valV_neg e]
      exact RDt.look c h2
theorem RDk.any (c : Key) : ∀ {ds : List (D × D)} {vs : List (Key × V)}, RDk K mg F ds vs → (ds.any fun p => sameK p.1 (kD c)) = vs.any fun kv => decide (kv.1 = c)
  | [], vs, h => by simp only [RDk] at h; subst h; rfl
  | (k, d) :: ds, vs, h => by
    simp only [RDk] at h
    obtain ⟨c', v, r, rfl, ⟨rfl, _⟩, _, h2⟩ := h
    rw [List.any_cons, List.any_cons, sameK_kD, RDk.any c h2]
theorem RDt.any (c : List Key) : ∀ {ds : List (D × D)} {vs : List (List Key × V)}, RDt K mg F ds vs → (ds.any fun p => sameK p.1 (tD c)) = vs.any fun kv => decide (kv.1 = c)
  | [], vs, h => by simp only [RDt] at h; subst h; rfl
  | (k, d) :: ds, vs, h => by
    simp only [RDt] at h
    obtain ⟨c', v, r, rfl, ⟨rfl, _⟩, _, h2⟩ := h
    rw [List.any_cons, List.any_cons, show (D.tup (c'.map kD)) = tD c' from rfl, sameK_tD, RDt.any c h2]
theorem RDk.app : ∀ {ds es : List (D × D)} {vs ws : List (Key × V)}, RDk K mg F ds vs → RDk K mg F es ws → RDk K mg F (ds ++ es) (vs ++ ws)
  | [], es, vs, ws, h, g => by simp only [RDk] at h; subst h; exact g
  | (k, d) :: ds, es, vs, ws, h, g => by
    simp only [RDk] at h
    obtain ⟨c, v, r, rfl, e, h1, h2⟩ := h
    simp only [List.cons_append, RDk]
    exact ⟨c, v, _, rfl, e, h1, RDk.app h2 g⟩
theorem RDt.app : ∀ {ds es : List (D × D)} {vs ws : List (List Key × V)}, RDt K mg F ds vs → RDt K mg F es ws → RDt K mg F (ds ++ es) (vs ++ ws)
  | [], es, vs, ws, h, g => by simp only [RDt] at h; subst h; exact g
  | (k, d) :: ds, es, vs, ws, h, g => by
    simp only [RDt] at h
    obtain ⟨c, v, r, rfl, e, h1, h2⟩ := h
    simp only [List.cons_append, RDt]
    exact ⟨c, v, _, rfl, e, h1, RDt.app h2 g⟩
theorem RDk.repl (c : Key) {x : D} {y : V} (hx : RD K mg F x y) : ∀ {ds : List (D × D)} {vs : List (Key × V)}, RDk K mg F ds vs → RDk K mg F (ds.map fun p => if sameK p.1 (kD c) = true then (p.1, x) else p) (vs.map fun kv => if kv.1 = c then (kv.1, y) else kv)
  | [], vs, h => by simp only [RDk] at h; subst h; simp only [List.map_nil, RDk]
  | (k, d) :: ds, vs, h => by
    simp only [RDk] at h
    obtain ⟨c', v, r, rfl, ⟨rfl, ok⟩, h1, h2⟩ := h
    simp only [List.map_cons, sameK_kD, decide_eq_true_eq]
    by_cases e : c' = c
    · rw [if_pos e, if_pos e]
      simp only [RDk]
      exact ⟨c', y, _, rfl, ⟨rfl, ok⟩, hx, RDk.repl c hx h2⟩
    · rw [if_neg e, if_neg e]
      simp only [RDk]
      exact ⟨c', v, _, rfl, ⟨rfl, ok⟩, h1, RDk.repl c hx h2⟩
theorem RDt.repl (c : List Key) {x : D} {y : V} (hx : RD K mg F x y) : ∀ {ds : List (D × D)} {vs : List (List Key × V)}, RDt K mg F ds vs → RDt K mg F (ds.map fun p => if sameK p.1 (tD c) = true then (p.1, x) else p) (vs.map fun kv => if kv.1 = c then (kv.1, y) else kv)
  | [], vs, h => by simp only [RDt] at h; subst h; simp only [List.map_nil, RDt]
  | (k, d) :: ds, vs, h => by
    simp only [RDt] at h
    obtain ⟨c', v, r, rfl, ⟨rfl, ok⟩, h1, h2⟩ := h
    simp only [List.map_cons, show (D.tup (c'.map kD)) = tD c' from rfl, sameK_tD, decide_eq_true_eq]
    by_cases e : c' = c
    · rw [if_pos e, if_pos e]
      simp only [RDt]
      exact ⟨c', y, _, rfl, ⟨rfl, ok⟩, hx, RDt.repl c hx h2⟩
    · rw [if_neg e, if_neg e]
      simp only [RDt]
      exact ⟨c', v, _, rfl, ⟨rfl, ok⟩, h1, RDt.repl c hx h2⟩
theorem RDk.put {ds : List (D × D)} {vs : List (Key × V)} (c : Key) {x : D} {y : V} (h : RDk K mg F ds vs) (ok : keyOk c) (hx : RD K mg F x y) : RDk K mg F (putD ds (kD c) x) (putK vs c y) := by
  unfold putD putK
  rw [h.any c]
  split
  · exact h.repl c hx
  · exact h.app (by simp only [RDk]; exact ⟨c, y, [], rfl, ⟨rfl, ok⟩, hx, rfl⟩)
theorem RDt.put {ds : List (D × D)} {vs : List (List Key × V)} (c : List Key) {x : D} {y : V} (h : RDt K mg F ds vs) (ok : ∀ z ∈ c, keyOk z) (hx : RD K mg F x y) : RDt K mg F (putD ds (tD c) x) (putK vs c y) := by
  unfold putD putK
  rw [h.any c]
  split
  · exact h.repl c hx
  · exact h.app (by simp only [RDt]; exact ⟨c, y, [], rfl, ⟨rfl, ok⟩, hx, rfl⟩)
/-- a dict that is read -/
theorem RP.dict {H : Hp} {ds : List (D × D)} {v : V} (hl : Same F H) (r : RP K mg F H (.dict ds) v) : ∃ a kvs, v = .ref a ∧ H a = some (.dK kvs) ∧ RDk K mg F ds kvs := by
  rcases r with r | ⟨a, rfl, _, r⟩
  · simp only [RD] at r
    obtain ⟨a, kvs, rfl, h1, h2⟩ := r
    exact ⟨a, kvs, rfl, hl _ _ h1, h2⟩
  · obtain ⟨kvs, h1, h2⟩ := r
    exact ⟨a, kvs, rfl, h1, h2⟩
theorem RP.dicT {H : Hp} {ds : List (D × D)} {v : V} (hl : Same F H) (r : RP K mg F H (.dicT ds) v) : ∃ a kvs, v = .ref a ∧ H a = some (.dT kvs) ∧ RDt K mg F ds kvs := by
  rcases r with r | ⟨a, rfl, _, r⟩
  · simp only [RD] at r
    obtain ⟨a, kvs, rfl, h1, h2⟩ := r
    exact ⟨a, kvs, rfl, hl _ _ h1, h2⟩
  · obtain ⟨kvs, h1, h2⟩ := r
    exact ⟨a, kvs, rfl, h1, h2⟩
end
/-- what stands under a key of a dict; none: none of its keys are of this kind -/
def lookD : D → D → Option (Option D)
  | .dict ds, k => if (kdOf k).isSome then some (valD ds k) else none
  | .dicT ds, k => if (ktOf k).isSome then some (valD ds k) else none
  | _, _ => none
def LkR (K : PySem.W.Frag) (mg : Str → Option Value) (F : Hp) (r : Option D) (o : Option V) : Prop := match r with
  | some z => ∃ v, o = some v ∧ RD K mg F z v
  | none => o = none
theorem lookD_ok {K : PySem.W.Frag} {mg : Str → Option Value} {F H : Hp} {d k : D} {x y : V} {r : Option D} (hl : Same F H) (hx : RP K mg F H d x) (hy : RP K mg F H k y) (e : lookD d k = some r) :
    ∃ a o, x = .ref a ∧ DGet H a y o ∧ LkR K mg F r o := by
  cases d with
  | dict ds =>
    simp only [lookD] at e
    by_cases hk : (kdOf k).isSome = true
    · rw [if_pos hk] at e
      obtain ⟨c, hc⟩ := Option.isSome_iff_exists.mp hk
      cases e
      obtain ⟨a, kvs, rfl, h1, h2⟩ := hx.dict hl
      have ek := kdOf_eq hc
      subst ek
      have ry : RD K mg F (kD c) y := hy.mono hl (fun xs z => by cases c <;> cases z) (fun xs z => by cases c <;> cases z) (fun xs z => by cases c <;> cases z)
      refine ⟨a, valV kvs c, rfl, .inl ⟨kvs, c, .inl h1, rd_kV c ry, rfl⟩, ?_⟩
      exact h2.look c
    · rw [if_neg hk] at e
      cases e
  | dicT ds =>
    simp only [lookD] at e
    by_cases hk : (ktOf k).isSome = true
    · rw [if_pos hk] at e
      obtain ⟨c, hc⟩ := Option.isSome_iff_exists.mp hk
      cases e
      obtain ⟨a, kvs, rfl, h1, h2⟩ := hx.dicT hl
      have ek := ktOf_eq hc
      subst ek
      have ry : RD K mg F (tD c) y := hy.mono hl (fun xs z => by cases z) (fun xs z => by cases z) (fun xs z => by cases z)
      obtain ⟨b, rfl, hb, _⟩ := rd_tV c ry
      refine ⟨a, valV kvs c, rfl, .inr ⟨kvs, c, b, .inl h1, rfl, hl _ _ hb, rfl⟩, ?_⟩
      exact h2.look c
    · rw [if_neg hk] at e
      cases e
  | _ => cases e
end VS

set_option Elab.async false
set_option linter.all false
set_option maxRecDepth 100000
set_option maxHeartbeats 4000000
namespace VS
open PySem L2 PyProof.Rows
variable [TabT]

/-! ### data as PyData; == -/
mutual
def toPy : D → PyData
  | .non => .none
  | .bl b => .bool b
  | .int i => .int i
  | .str s => .str ⟨s.toArray⟩
  | .tup xs => .tuple (toPys xs)
  | .lst xs => .list (toPys xs)
  | .dict _ => .none
  | .dicT _ => .none
  | .set _ => .none
  | .fn _ => .none
  | .ty _ => .none
  | .obj _ _ => .none
def toPys : List D → List PyData
  | [] => []
  | x :: xs => toPy x :: toPys xs
end
/-- plain data, no deeper than n -/
def dpt : Nat → D → Bool
  | _, .non => true
  | _, .bl _ => true
  | _, .int _ => true
  | _, .str _ => true
  | n + 1, .tup xs => xs.all (dpt n)
  | n + 1, .lst xs => xs.all (dpt n)
  | _, _ => false
mutual
def beq : D → D → Bool
  | .non, .non => true
  | .bl a, .bl b => a == b
  | .bl a, .int j => (if a then 1 else 0) == j
  | .int i, .bl b => i == (if b then 1 else 0)
  | .int i, .int j => i == j
  | .str s, .str t => s == t
  | .lst xs, .lst ys => beqs xs ys
  | .tup xs, .tup ys => beqs xs ys
  | _, _ => false
def beqs : List D → List D → Bool
  | [], [] => true
  | x :: xs, y :: ys => beq x y && beqs xs ys
  | _, _ => false
end
theorem toPys_len : ∀ xs : List D, (toPys xs).length = xs.length
  | [] => by simp [toPys]
  | x :: xs => by simp [toPys, toPys_len xs]
section
variable {K : PySem.W.Frag} {mg : Str → Option Value} {F H : Hp}
mutual
theorem RD.dp (h : Same F H) : ∀ (n : Nat) (d : D) (v : V), RD K mg F d v → dpt n d = true → Dp K H v (toPy d)
  | _, .non, v, r, _ => by simp only [RD] at r; subst r; simp only [toPy]; exact .non
  | _, .bl b, v, r, _ => by simp only [RD] at r; subst r; simp only [toPy]; exact .bl b
  | _, .int i, v, r, _ => by simp only [RD] at r; subst r; simp only [toPy]; exact .int i
  | _, .str s, v, r, _ => by simp only [RD] at r; rw [r.1]; simp only [toPy]; exact .str _
  | n + 1, .tup xs, v, r, e => by
    simp only [RD] at r
    obtain ⟨a, vs, rfl, h1, h2⟩ := r
    simp only [toPy]
    exact .tup (sqT_mono h h1) (RDs.dp h n xs vs h2 (by simpa only [dpt] using e))
  | n + 1, .lst xs, v, r, e => by
    simp only [RD] at r
    obtain ⟨a, vs, rfl, h1, h2⟩ := r
    simp only [toPy]
    exact .lst (h.seq h1) (RDs.dp h n xs vs h2 (by simpa only [dpt] using e))
  | 0, .tup xs, v, r, e => by simp [dpt] at e
  | 0, .lst xs, v, r, e => by simp [dpt] at e
  | n, .dict _, v, r, e => by cases n <;> simp [dpt] at e
  | n, .dicT _, v, r, e => by cases n <;> simp [dpt] at e
  | n, .set _, v, r, e => by cases n <;> simp [dpt] at e
  | n, .fn _, v, r, e => by cases n <;> simp [dpt] at e
  | n, .ty _, v, r, e => by cases n <;> simp [dpt] at e
  | n, .obj _ _, v, r, e => by cases n <;> simp [dpt] at e
theorem RDs.dp (h : Same F H) : ∀ (n : Nat) (ds : List D) (vs : List V), RDs K mg F ds vs → ds.all (dpt n) = true → DpAll K H vs (toPys ds)
  | n, [], vs, r, _ => by simp only [RDs] at r; subst r; simp only [toPys]; exact .nil
  | n, d :: ds, vs, r, e => by
    simp only [RDs] at r
    obtain ⟨v, q, rfl, h1, h2⟩ := r
    simp only [List.all_cons, Bool.and_eq_true] at e
    simp only [toPys]
    exact .cons (RD.dp h n d v h1 e.1) (RDs.dp h n ds q h2 e.2)
end
mutual
theorem RD.lay : ∀ (n : Nat) (d : D) (v : V), RD K mg F d v → dpt n d = true → (toPy d).canLay0 = true ∧ (toPy d).depth ≤ n
  | _, .non, v, r, _ => by simp only [toPy]; exact ⟨by simp only [PyData.canLay0], by simp [PyData.depth]⟩
  | _, .bl b, v, r, _ => by simp only [toPy]; exact ⟨by simp only [PyData.canLay0], by simp [PyData.depth]⟩
  | _, .int i, v, r, _ => by simp only [toPy]; exact ⟨by simp only [PyData.canLay0], by simp [PyData.depth]⟩
  | _, .str s, v, r, _ => by
    simp only [RD] at r
    simp only [toPy]
    refine ⟨?_, by simp [PyData.depth]⟩
    simp only [PyData.canLay0, PyData.strOk]
    have := r.2.2
    simpa using this
  | n + 1, .tup xs, v, r, e => by
    simp only [RD] at r
    obtain ⟨a, vs, rfl, h1, h2⟩ := r
    have := RDs.lay n xs vs h2 (by simpa only [dpt] using e)
    simp only [toPy, PyData.canLay0, PyData.depth]
    exact ⟨this.1, by omega⟩
  | n + 1, .lst xs, v, r, e => by
    simp only [RD] at r
    obtain ⟨a, vs, rfl, h1, h2⟩ := r
    have := RDs.lay n xs vs h2 (by simpa only [dpt] using e)
    simp only [toPy, PyData.canLay0, PyData.depth]
    exact ⟨this.1, by omega⟩
  | 0, .tup xs, v, r, e => by simp [dpt] at e
  | 0, .lst xs, v, r, e => by simp [dpt] at e
  | n, .dict _, v, r, e => by cases n <;> simp [dpt] at e
  | n, .dicT _, v, r, e => by cases n <;> simp [dpt] at e
  | n, .set _, v, r, e => by cases n <;> simp [dpt] at e
  | n, .fn _, v, r, e => by cases n <;> simp [dpt] at e
  | n, .ty _, v, r, e => by cases n <;> simp [dpt] at e
  | n, .obj _ _, v, r, e => by cases n <;> simp [dpt] at e
theorem RDs.lay : ∀ (n : Nat) (ds : List D) (vs : List V), RDs K mg F ds vs → ds.all (dpt n) = true → PyData.canLayAll0 (toPys ds) = true ∧ PyData.depthAll (toPys ds) ≤ n
  | n, [], vs, r, _ => by simp only [toPys]; exact ⟨by simp only [PyData.canLayAll0], by simp [PyData.depthAll]⟩
  | n, d :: ds, vs, r, e => by
    simp only [RDs] at r
    obtain ⟨v, q, rfl, h1, h2⟩ := r
    simp only [List.all_cons, Bool.and_eq_true] at e
    have a := RD.lay n d v h1 e.1
    have b := RDs.lay n ds q h2 e.2
    simp only [toPys, PyData.canLayAll0, PyData.depthAll, a.1, b.1, Bool.and_self]
    exact ⟨trivial, by omega⟩
end
theorem RP.dp {n : Nat} {d : D} {v : V} (h : Same F H) (r : RP K mg F H d v) (e : dpt n d = true) (hn : n ≤ 64) : Dp K H v (toPy d) ∧ SeqAt.shaped (toPy d) = true := by
  have fin : ∀ F', Same F' H → RD K mg F' d v → Dp K H v (toPy d) ∧ SeqAt.shaped (toPy d) = true := fun F' h' r' => by
    have a := RD.lay n d v r' e
    refine ⟨RD.dp h' n d v r' e, ?_⟩
    unfold SeqAt.shaped
    rw [a.1, Bool.true_and, decide_eq_true (Nat.le_trans a.2 hn)]
  rcases r with r | ⟨a, rfl, r⟩
  · exact fin F h r
  · exact fin _ (plus_le h) r.frozen
end
theorem arr_beq (s t : List Nat) : ((⟨s.toArray⟩ : Str) == ⟨t.toArray⟩) = (s == t) := by
  rw [Bool.beq_eq_decide_eq, Bool.beq_eq_decide_eq]
  congr 1
  simp
mutual
theorem eqv_beq : ∀ (n m : Nat) (d e : D), dpt n d = true → dpt m e = true → PyData.eqv (toPy d) (toPy e) = beq d e
  | n, m, .non, e, h1, h2 => by cases e <;> cases m <;> simp [dpt] at h2 <;> simp only [toPy, PyData.eqv, beq]
  | n, m, .bl _, e, h1, h2 => by cases e <;> cases m <;> simp [dpt] at h2 <;> simp only [toPy, PyData.eqv, beq]
  | n, m, .int _, e, h1, h2 => by cases e <;> cases m <;> simp [dpt] at h2 <;> simp only [toPy, PyData.eqv, beq]
  | n, m, .str _, e, h1, h2 => by cases e <;> cases m <;> simp [dpt] at h2 <;> simp only [toPy, PyData.eqv, beq, arr_beq]
  | n, m, .tup xs, e, h1, h2 => by
    cases n with
    | zero => simp [dpt] at h1
    | succ n =>
      cases e with
      | tup ys =>
        cases m with
        | zero => simp [dpt] at h2
        | succ m =>
          simp only [toPy, PyData.eqv, beq]
          exact eqv_beqs n m xs ys (by simpa only [dpt] using h1) (by simpa only [dpt] using h2)
      | _ => cases m <;> simp [dpt] at h2 <;> simp only [toPy, PyData.eqv, beq]
  | n, m, .lst xs, e, h1, h2 => by
    cases n with
    | zero => simp [dpt] at h1
    | succ n =>
      cases e with
      | lst ys =>
        cases m with
        | zero => simp [dpt] at h2
        | succ m =>
          simp only [toPy, PyData.eqv, beq]
          exact eqv_beqs n m xs ys (by simpa only [dpt] using h1) (by simpa only [dpt] using h2)
      | _ => cases m <;> simp [dpt] at h2 <;> simp only [toPy, PyData.eqv, beq]
  | n, m, .dict _, e, h1, h2 => by cases n <;> simp [dpt] at h1
  | n, m, .dicT _, e, h1, h2 => by cases n <;> simp [dpt] at h1
  | n, m, .set _, e, h1, h2 => by cases n <;> simp [dpt] at h1
  | n, m, .fn _, e, h1, h2 => by cases n <;> simp [dpt] at h1
  | n, m, .ty _, e, h1, h2 => by cases n <;> simp [dpt] at h1
  | n, m, .obj _ _, e, h1, h2 => by cases n <;> simp [dpt] at h1
theorem eqv_beqs : ∀ (n m : Nat) (ds es : List D), ds.all (dpt n) = true → es.all (dpt m) = true → PyData.eqvAll (toPys ds) (toPys es) = beqs ds es
  | n, m, [], es, h1, h2 => by cases es <;> simp only [toPys, PyData.eqvAll, beqs]
  | n, m, d :: ds, es, h1, h2 => by
    cases es with
    | nil => simp only [toPys, PyData.eqvAll, beqs]
    | cons e es =>
      simp only [List.all_cons, Bool.and_eq_true] at h1 h2
      simp only [toPys, PyData.eqvAll, beqs]
      rw [eqv_beq n m d e h1.1 h2.1, eqv_beqs n m ds es h1.2 h2.2]
end
def eqD (d e : D) : Option Bool := if dpt 60 d = true ∧ dpt 60 e = true then some (beq d e) else none
def neD (d e : D) : Option Bool := if dpt 60 d = true ∧ dpt 60 e = true then some (!beq d e) else none
/-- a comparison by data -/
def OpC (X : Cx) (f : Value → Value → Sem Value) (g : D → D → Option Bool) : Prop := ∃ r, OpR X f r ∧ OpB X.K X.mg r g
section
variable {X : Cx}
theorem opc_or {f : Value → Value → Sem Value} {g g1 g2 : D → D → Option Bool} (h1 : OpC X f g1) (h2 : OpC X f g2) (h : ∀ d e r, g d e = some r → g1 d e = some r ∨ g2 d e = some r) : OpC X f g := by
  obtain ⟨r1, a1, b1⟩ := h1
  obtain ⟨r2, a2, b2⟩ := h2
  refine ⟨_, a1.or a2, fun F H x y d e res Q hl rx ry hg k => ?_⟩
  rcases h d e res hg with z | z
  · exact .inl (b1 F H x y d e res Q hl rx ry z k)
  · exact .inr (b2 F H x y d e res Q hl rx ry z k)
theorem opc_imp {f : Value → Value → Sem Value} {g g1 : D → D → Option Bool} (h1 : OpC X f g1) (h : ∀ d e r, g d e = some r → g1 d e = some r) : OpC X f g := by
  obtain ⟨r1, a1, b1⟩ := h1
  exact ⟨r1, a1, fun F H x y d e res Q hl rx ry hg k => b1 F H x y d e res Q hl rx ry (h d e res hg) k⟩
theorem oc_eq (hu : X.A.units + 64 < cLine) : OpC X (compareOp .Eq) eqD := by
  refine ⟨_, op_eqD hu, fun F H x y d e res Q hl rx ry hg k => ?_⟩
  unfold eqD at hg
  by_cases z : dpt 60 d = true ∧ dpt 60 e = true
  · rw [if_pos z] at hg
    cases hg
    obtain ⟨a1, a2⟩ := rx.dp hl z.1 (by decide)
    obtain ⟨b1, b2⟩ := ry.dp hl z.2 (by decide)
    exact ⟨_, _, a1, b1, a2, b2, by rw [eqv_beq 60 60 d e z.1 z.2]; exact k⟩
  · rw [if_neg z] at hg; cases hg
theorem oc_ne (hu : X.A.units + 64 < cLine) : OpC X (compareOp .NotEq) neD := by
  refine ⟨_, op_neD hu, fun F H x y d e res Q hl rx ry hg k => ?_⟩
  unfold neD at hg
  by_cases z : dpt 60 d = true ∧ dpt 60 e = true
  · rw [if_pos z] at hg
    cases hg
    obtain ⟨a1, a2⟩ := rx.dp hl z.1 (by decide)
    obtain ⟨b1, b2⟩ := ry.dp hl z.2 (by decide)
    exact ⟨_, _, a1, b1, a2, b2, by rw [eqv_beq 60 60 d e z.1 z.2]; exact k⟩
  · rw [if_neg z] at hg; cases hg
/-! ### < <= > >= -/
def cII (f : Int → Int → Bool) : D → D → Option Bool
  | .int i, .int j => some (f i j)
  | _, _ => none
theorem opc_int {f : Value → Value → Sem Value} {g : Int → Int → Bool} (h : OpR X f (rI0 fun i j => .bl (g i j))) : OpC X f (cII g) := by
  refine ⟨_, h, fun F H x y d e res Q hl rx ry hg k => ?_⟩
  cases d <;> cases e <;> simp only [cII] at hg <;> first
    | cases hg; done
    | (cases hg; exact ⟨_, _, rx.int, ry.int, k⟩)
def cSS (f : List Nat → List Nat → Bool) : D → D → Option Bool
  | .str i, .str j => some (f i j)
  | _, _ => none
theorem opc_str {f : Value → Value → Sem Value} {g : List Nat → List Nat → Bool} (h : OpR X f (fun x y H Q => ∃ i j, x = .str i ∧ y = .str j ∧ Q (.bl (g i.cps.toList j.cps.toList)) H)) : OpC X f (cSS g) := by
  refine ⟨_, h, fun F H x y d e res Q hl rx ry hg k => ?_⟩
  cases d <;> cases e <;> simp only [cSS] at hg <;> first
    | cases hg; done
    | (cases hg; exact ⟨_, _, rx.str.1, ry.str.1, by simpa using k⟩)
/-- tuples of ints -/
def intsOf : List D → Option (List Int)
  | [] => some []
  | .int i :: r => (intsOf r).map (i :: ·)
  | _ => none
theorem intsOf_map : ∀ {ds : List D} {ns : List Int}, intsOf ds = some ns → ds = ns.map D.int
  | [], ns, h => by simp only [intsOf] at h; cases h; rfl
  | d :: r, ns, h => by
    cases d <;> simp only [intsOf] at h <;> first
      | cases h; done
      | (obtain ⟨ms, h1, rfl⟩ := omap h
         rw [intsOf_map h1]; rfl)
omit [TabT] in
theorem intsOf_of (ns : List Int) : intsOf (ns.map D.int) = some ns := by
  induction ns with
  | nil => rfl
  | cons n ns ih => simp only [List.map_cons, intsOf, ih, Option.map_some]
def cTT : D → D → Option Bool
  | .tup xs, .tup ys => (intsOf xs).bind fun ns => (intsOf ys).map fun ms => HT.lexLt ns ms
  | _, _ => none
theorem opc_ltT (hu : X.A.units < cLine) : OpC X (compareOp .Lt) cTT := by
  refine ⟨_, op_ltT hu, fun F H x y d e res Q hl rx ry hg k => ?_⟩
  cases d <;> cases e <;> simp only [cTT] at hg <;> first
    | cases hg; done
    | (obtain ⟨ns, h1, hg⟩ := obind hg
       obtain ⟨ms, h2, hg⟩ := omap hg
       obtain ⟨a, vs, rfl, h3, h4⟩ := rx.tup hl
       obtain ⟨b, ws, rfl, h5, h6⟩ := ry.tup hl
       rw [intsOf_map h1] at h4
       rw [intsOf_map h2] at h6
       rw [h4.ints] at h3
       rw [h6.ints] at h5
       exact ⟨_, _, ns, ms, rfl, rfl, h3, h5, by rw [hg]; exact k⟩)
def ltD : D → D → Option Bool
  | .int i, .int j => some (decide (i < j))
  | .str s, .str t => some (decide (s < t))
  | .tup xs, .tup ys => (intsOf xs).bind fun ns => (intsOf ys).map fun ms => HT.lexLt ns ms
  | _, _ => none
def leD : D → D → Option Bool
  | .int i, .int j => some (decide (i ≤ j))
  | .str s, .str t => some (!decide (t < s))
  | _, _ => none
def gtD : D → D → Option Bool
  | .int i, .int j => some (decide (j < i))
  | .str s, .str t => some (decide (t < s))
  | _, _ => none
def geD : D → D → Option Bool
  | .int i, .int j => some (decide (j ≤ i))
  | .str s, .str t => some (!decide (s < t))
  | _, _ => none
theorem oc_lt (hu : X.A.units < cLine) : OpC X (compareOp .Lt) ltD := by
  refine opc_or (opc_or (opc_int op_lt) (opc_str (g := fun s t => decide (s < t)) op_lt_str) (g := fun d e => (cII (fun i j => decide (i < j)) d e).or (cSS (fun s t => decide (s < t)) d e)) fun d e r h => ?_) (opc_ltT hu) fun d e r h => ?_
  · cases q : cII (fun i j => decide (i < j)) d e <;> simp_all
  · cases d <;> cases e <;> simp only [ltD] at h <;> first
      | cases h; done
      | simp_all [cII, cSS, cTT]
theorem oc_le : OpC X (compareOp .LtE) leD := by
  refine opc_or (opc_int op_le) (opc_str (g := fun s t => !decide (t < s)) op_le_str) fun d e r h => ?_
  cases d <;> cases e <;> simp only [leD] at h <;> first
    | cases h; done
    | simp_all [cII, cSS]
theorem oc_gt : OpC X (compareOp .Gt) gtD := by
  refine opc_or (opc_int op_gt) (opc_str (g := fun s t => decide (t < s)) op_gt_str) fun d e r h => ?_
  cases d <;> cases e <;> simp only [gtD] at h <;> first
    | cases h; done
    | simp_all [cII, cSS]
theorem oc_ge : OpC X (compareOp .GtE) geD := by
  refine opc_or (opc_int op_ge) (opc_str (g := fun s t => !decide (s < t)) op_ge_str) fun d e r h => ?_
  cases d <;> cases e <;> simp only [geD] at h <;> first
    | cases h; done
    | simp_all [cII, cSS]
/-! ### is -/
def isD : D → D → Option Bool
  | .bl a, .bl b => some (decide (a = b))
  | .non, .non => some true
  | .bl _, .non => some false
  | .int _, .non => some false
  | .str _, .non => some false
  | .tup _, .non => some false
  | .lst _, .non => some false
  | .dict _, .non => some false
  | .dicT _, .non => some false
  | .fn _, .non => some false
  | _, _ => none
def notD (g : D → D → Option Bool) : D → D → Option Bool := fun d e => (g d e).map (!·)
theorem RP.nonIff {K : PySem.W.Frag} {mg : Str → Option Value} {F H : Hp} {d : D} {v : V} {b : Bool} (r : RP K mg F H d v) (h : isD d .non = some b) : decide (v = .non) = b := by
  rcases r with r | ⟨a, rfl, r⟩
  · cases d <;> simp only [isD] at h <;> first
      | (cases h; done)
      | (cases h
         simp only [RD] at r
         first
           | (rw [r]; rfl)
           | (rw [r.1]; rfl)
           | (obtain ⟨a, vs, rfl, _⟩ := r; rfl)
           | (obtain ⟨a, rfl, _⟩ := r; rfl))
  · obtain ⟨_, r⟩ := r
    cases d <;> simp only at r <;> simp only [isD] at h <;> cases h <;> rfl
theorem oc_is : OpC X (compareOp .Is) isD := by
  refine ⟨_, op_isN.or op_isBl, fun F H x y d e res Q hl rx ry hg k => ?_⟩
  cases e with
  | non => exact .inl ⟨ry.non, by rw [rx.nonIff hg]; exact k⟩
  | bl b =>
    cases d <;> simp only [isD] at hg <;> first
      | cases hg; done
      | (cases hg; exact .inr ⟨_, _, rx.bl, ry.bl, k⟩)
  | _ => cases d <;> simp only [isD] at hg <;> cases hg
theorem oc_isNot : OpC X (compareOp .IsNot) (notD isD) := by
  refine ⟨_, op_notN.or op_notBl, fun F H x y d e res Q hl rx ry hg k => ?_⟩
  obtain ⟨b, hg', rfl⟩ := omap hg; clear hg; have hg := hg'
  cases e with
  | non => exact .inl ⟨ry.non, by rw [rx.nonIff hg]; exact k⟩
  | bl b =>
    cases d <;> simp only [isD] at hg <;> first
      | cases hg; done
      | (cases hg; exact .inr ⟨_, _, rx.bl, ry.bl, k⟩)
  | _ => cases d <;> simp only [isD] at hg <;> cases hg
/-! ### in -/
def flatD : D → Bool
  | .non => true
  | .bl _ => true
  | .int _ => true
  | .str _ => true
  | _ => false
def inD : D → D → Option Bool
  | .str [c], .str t => some (decide (c ∈ t))
  | d, .lst ds => if dpt 60 d = true ∧ dpt 60 (.lst ds) = true then some (ds.any fun z => beq z d) else none
  | d, .tup ds => if flatD d = true ∧ ds.all flatD = true then some (ds.any fun z => beq z d) else none
  | d, .dict ds => (lookD (.dict ds) d).map (·.isSome)
  | d, .dicT ds => (lookD (.dicT ds) d).map (·.isSome)
  | _, _ => none
def isDi : D → Bool
  | .dict _ => true
  | .dicT _ => true
  | _ => false
theorem op_dIn {X : Cx} (hu : X.A.units + 65 < cLine) : OpR X (compareOp .In) (fun x y H Q => ∃ a o, y = .ref a ∧ DGet H a x o ∧ Q (.bl o.isSome) H) := by
  intro pins s σ H x y v u Q I rx ry h
  obtain ⟨a, o, rfl, g, q⟩ := h
  obtain rfl : u = Value.ref a := ry
  exact d_in (by omega) I g rx fun s3 I3 => ⟨.bl o.isSome, H, I3, rfl, q⟩
theorem op_dNotIn {X : Cx} (hu : X.A.units + 65 < cLine) : OpR X (compareOp .NotIn) (fun x y H Q => ∃ a o, y = .ref a ∧ DGet H a x o ∧ Q (.bl (!o.isSome)) H) := by
  intro pins s σ H x y v u Q I rx ry h
  obtain ⟨a, o, rfl, g, q⟩ := h
  obtain rfl : u = Value.ref a := ry
  exact d_notIn (by omega) I g rx fun s3 I3 => ⟨.bl (!o.isSome), H, I3, rfl, q⟩
theorem LkR.isSome {K : PySem.W.Frag} {mg : Str → Option Value} {F : Hp} {r : Option D} {o : Option V} (h : LkR K mg F r o) : o.isSome = r.isSome := by
  cases r with
  | none => rw [show o = none from h]; rfl
  | some z => obtain ⟨v, rfl, _⟩ := h; rfl
theorem any_beq (d : D) (n : Nat) (hd : dpt n d = true) : ∀ (ds : List D) (m : Nat), ds.all (dpt m) = true → ((toPys ds).any fun z => PyData.eqv z (toPy d)) = ds.any fun z => beq z d
  | [], m, _ => by simp [toPys]
  | x :: xs, m, h => by
    simp only [List.all_cons, Bool.and_eq_true] at h
    simp only [toPys, List.any_cons]
    rw [eqv_beq m n x d h.1 hd, any_beq d n hd xs m h.2]
theorem flat_V {K : PySem.W.Frag} {mg : Str → Option Value} {F : Hp} {d : D} {v : V} (r : RD K mg F d v) (h : flatD d = true) : flatV v = true := by
  cases d <;> simp only [flatD] at h <;> simp only [RD] at r <;> first
    | (cases h; done)
    | (rw [r]; rfl)
    | (rw [r.1]; rfl)
theorem eqV_beq {K : PySem.W.Frag} {mg : Str → Option Value} {F : Hp} {d e : D} {v u : V} (r : RD K mg F d v) (s : RD K mg F e u) (h : flatD d = true) (g : flatD e = true) : eqV v u = beq d e := by
  cases d <;> simp only [flatD] at h <;> simp only [RD] at r <;> cases e <;> simp only [flatD] at g <;> simp only [RD] at s <;> first
    | (cases h; done)
    | (cases g; done)
    | (first | rw [r.1] | rw [r]) <;> (first | rw [s.1] | rw [s]) <;> simp only [eqV, beq, arr_beq]
theorem inV_beq {K : PySem.W.Frag} {mg : Str → Option Value} {F : Hp} {d : D} {v : V} (r : RD K mg F d v) (h : flatD d = true) : ∀ {ds : List D} {vs : List V}, RDs K mg F ds vs → ds.all flatD = true → vs.all flatV = true ∧ inV v vs = ds.any fun z => beq z d
  | [], vs, q, _ => by simp only [RDs] at q; subst q; exact ⟨rfl, rfl⟩
  | e :: ds, vs, q, g => by
    simp only [RDs] at q
    obtain ⟨u, w, rfl, h1, h2⟩ := q
    simp only [List.all_cons, Bool.and_eq_true] at g
    obtain ⟨i1, i2⟩ := inV_beq r h h2 g.2
    refine ⟨by simp only [List.all_cons, flat_V h1 g.1, i1, Bool.and_self], ?_⟩
    unfold inV at i2 ⊢
    rw [List.any_cons, List.any_cons, i2, eqV_beq h1 r g.1 h]
theorem RP.flat {K : PySem.W.Frag} {mg : Str → Option Value} {F H : Hp} {d : D} {v : V} (r : RP K mg F H d v) (h : flatD d = true) : RD K mg F d v := by
  rcases r with r | ⟨a, _, _, r⟩
  · exact r
  · cases d <;> simp only at r <;> simp [flatD] at h
theorem in_cases {d e : D} {b : Bool} (h : inD d e = some b) : (∃ c t, d = .str [c] ∧ e = .str t ∧ b = decide (c ∈ t)) ∨
    (∃ ds, e = .lst ds ∧ dpt 60 d = true ∧ dpt 60 (.lst ds) = true ∧ b = ds.any fun z => beq z d) ∨ (∃ ds, e = .tup ds ∧ flatD d = true ∧ ds.all flatD = true ∧ b = ds.any fun z => beq z d) ∨ ∃ r, lookD e d = some r ∧ b = r.isSome := by
  unfold inD at h
  split at h
  · exact .inl ⟨_, _, rfl, rfl, (Option.some.inj h).symm⟩
  · split at h
    · rename_i ds z
      exact .inr (.inl ⟨ds, rfl, z.1, z.2, (Option.some.inj h).symm⟩)
    · cases h
  · split at h
    · rename_i ds z
      exact .inr (.inr (.inl ⟨ds, rfl, z.1, z.2, (Option.some.inj h).symm⟩))
    · cases h
  · obtain ⟨r, h1, h2⟩ := omap h
    exact .inr (.inr (.inr ⟨r, h1, h2.symm⟩))
  · obtain ⟨r, h1, h2⟩ := omap h
    exact .inr (.inr (.inr ⟨r, h1, h2.symm⟩))
  · cases h
theorem oc_in (hu : X.A.units + 65 < cLine) : OpC X (compareOp .In) inD := by
  refine ⟨_, op_in_sign.or ((op_inD hu).or (op_in_seq.or (op_dIn hu))), fun F H x y d e res Q hl rx ry hg k => ?_⟩
  rcases in_cases hg with ⟨c, t, rfl, rfl, rfl⟩ | ⟨ds, rfl, z1, z2, rfl⟩ | ⟨ds, rfl, z1, z2, rfl⟩ | ⟨r, z1, rfl⟩
  · exact .inl ⟨c, _, rx.str.1, ry.str.1, by simpa using k⟩
  · obtain ⟨a1, a2⟩ := rx.dp hl z1 (by decide)
    obtain ⟨b1, b2⟩ := ry.dp hl z2 (by decide)
    simp only [toPy] at b1 b2
    exact .inr (.inl ⟨_, _, a1, b1, a2, b2, by rw [any_beq d 60 z1 ds 59 (by simpa only [dpt] using z2)]; exact k⟩)
  · obtain ⟨a, vs, rfl, h1, h2⟩ := ry.tup hl
    obtain ⟨i1, i2⟩ := inV_beq (rx.flat z1) z1 h2 z2
    exact .inr (.inr (.inl ⟨a, vs, rfl, .inr h1, flat_V (rx.flat z1) z1, i1, by rw [i2]; exact k⟩))
  · obtain ⟨a, o, rfl, g, h4⟩ := lookD_ok hl ry rx z1
    exact .inr (.inr (.inr ⟨a, o, rfl, g, by rw [h4.isSome]; exact k⟩))
theorem oc_notIn (hu : X.A.units + 65 < cLine) : OpC X (compareOp .NotIn) (notD inD) := by
  refine ⟨_, op_notIn_sign.or ((op_notInD hu).or (op_notIn_seq.or (op_dNotIn hu))), fun F H x y d e res Q hl rx ry hg k => ?_⟩
  obtain ⟨b, hg', rfl⟩ := omap hg; clear hg; have hg := hg'
  rcases in_cases hg with ⟨c, t, rfl, rfl, rfl⟩ | ⟨ds, rfl, z1, z2, rfl⟩ | ⟨ds, rfl, z1, z2, rfl⟩ | ⟨r, z1, rfl⟩
  · exact .inl ⟨c, _, rx.str.1, ry.str.1, by simpa using k⟩
  · obtain ⟨a1, a2⟩ := rx.dp hl z1 (by decide)
    obtain ⟨b1, b2⟩ := ry.dp hl z2 (by decide)
    simp only [toPy] at b1 b2
    exact .inr (.inl ⟨_, _, a1, b1, a2, b2, by rw [any_beq d 60 z1 ds 59 (by simpa only [dpt] using z2)]; exact k⟩)
  · obtain ⟨a, vs, rfl, h1, h2⟩ := ry.tup hl
    obtain ⟨i1, i2⟩ := inV_beq (rx.flat z1) z1 h2 z2
    exact .inr (.inr (.inl ⟨a, vs, rfl, .inr h1, flat_V (rx.flat z1) z1, i1, by rw [i2]; exact k⟩))
  · obtain ⟨a, o, rfl, g, h4⟩ := lookD_ok hl ry rx z1
    exact .inr (.inr (.inr ⟨a, o, rfl, g, by rw [h4.isSome]; exact k⟩))
variable {a b c : Expr} {pos : Pos} {ma mb mc : M}
theorem vt_op {op : CmpOp} {g : D → D → Option Bool} (h : OpC X (compareOp op) g) (ha : VE X a ma) (hb : VE X b mb) (hm : behindInMarks op b = false := by first | exact nomark _ (by decide) (by decide) | rfl) : VT X (.Compare a [op] [b] pos) (mCmp g ma mb) := by
  obtain ⟨r, h1, h2⟩ := h
  exact vt_cmp h1 h2 ha hb hm
theorem ve_opc {op : CmpOp} {g : D → D → Option Bool} (h : OpC X (compareOp op) g) (ha : VE X a ma) (hb : VE X b mb) (hm : behindInMarks op b = false := by first | exact nomark _ (by decide) (by decide) | rfl) : VE X (.Compare a [op] [b] pos) (mOfB (mCmp g ma mb)) := by
  obtain ⟨r, h1, h2⟩ := h
  exact ve_cmp h1 h2 ha hb hm
/-! ### a op b op' c -/
def mChain (g g' : D → D → Option Bool) (a b c : M) : MB := fun Γ =>
  (a Γ).bind fun p => (b p.2).bind fun q => (peek q.2 p.1).bind fun x => (peek q.2 q.1).bind fun y => (g x y).bind fun k =>
    if k = true then (c q.2).bind fun r => (peek r.2 q.1).bind fun y' => (peek r.2 r.1).bind fun z => (g' y' z).map fun k' => (k', r.2) else some (false, q.2)
theorem chain_run {r r' : R2} {g g' : D → D → Option Bool} (hv : OpB X.K X.mg r g) (hv' : OpB X.K X.mg r' g') {σ : L2.St} {H : Hp} {Q : V → Hp → Prop} {ρ : List Addr} {O : Addr → Prop} {Γ Γ' : VEnv} {F : Hp} {k : Bool} (R : Rep X.K X.mg ρ O Γ σ H F)
    (e : mChain g g' ma mb mc Γ = some (k, Γ')) (h : ∀ H' F', Stp X.K X.mg ρ O Γ' σ H F H' F' → Cells Γ Γ' → Q (.bl k) H') : tChain r r' (tV X.K X.mg ma) (tV X.K X.mg mb) (tV X.K X.mg mc) σ H Q := by
  obtain ⟨⟨ra, Γ1⟩, e1, e⟩ := obind e
  obtain ⟨⟨rb, Γ2⟩, e2, e⟩ := obind e
  obtain ⟨dx, e3, e⟩ := obind e
  obtain ⟨dy, e4, e⟩ := obind e
  obtain ⟨k1, e5, e⟩ := obind e
  refine seq2 R e1 e2 fun x y H' F' s c rx ry => ?_
  have ry' := ry.weakO orO_l
  refine hv F' H' x y dx dy k1 _ s.rep.le (peek_ok s.rep rx e3) (peek_ok s.rep ry' e4) e5 ⟨k1, rfl, ?_⟩
  cases k1 with
  | false => cases e; exact iteF (h H' F' s c)
  | true =>
    refine iteT ?_
    obtain ⟨⟨rc, Γ3⟩, e6, e⟩ := obind e
    obtain ⟨dy', e7, e⟩ := obind e
    obtain ⟨dz, e8, e⟩ := obind e
    obtain ⟨k2, e9, e'⟩ := omap e
    cases e'
    refine tV_run (s.rep.pend ry') e6 fun z H2 F2 s2 c2 rz => ?_
    refine hv' F2 H2 y z dy' dz k _ s2.rep.le (peek_ok (s2.rep.weakO orO_l) (ry'.later s.rep s2.rep s2.fs s2.op c2) e7) (peek_ok s2.rep rz e8) e9 ?_
    exact h H2 F2 (s.trans (s2.weakO orO_l)) (c.trans c2)
theorem vt_chain {op op' : CmpOp} {g g' : D → D → Option Bool} (h : OpC X (compareOp op) g) (h' : OpC X (compareOp op') g') (ha : VE X a ma) (hb : VE X b mb) (hc : VE X c mc) (hm : lastMarks [op, op'] [b, c] = false := by with_unfolding_all rfl) :
    VT X (.Compare a [op, op'] [b, c] pos) (mChain g g' ma mb mc) := by
  obtain ⟨r, h1, h2⟩ := h
  obtain ⟨r', h1', h2'⟩ := h'
  refine pt_of (pt_chain h1 h1' ha hb hc hm) fun σ H Q h => ?_
  obtain ⟨ρ, O, Γ, F, res, Γ', R, e, k⟩ := h
  exact chain_run h2 h2' R e fun H' F' s c => ⟨res, rfl, k H' F' s c⟩
theorem ve_chain {op op' : CmpOp} {g g' : D → D → Option Bool} (h : OpC X (compareOp op) g) (h' : OpC X (compareOp op') g') (ha : VE X a ma) (hb : VE X b mb) (hc : VE X c mc) (hm : lastMarks [op, op'] [b, c] = false := by with_unfolding_all rfl) :
    VE X (.Compare a [op, op'] [b, c] pos) (mOfB (mChain g g' ma mb mc)) := by
  obtain ⟨r, h1, h2⟩ := h
  obtain ⟨r', h1', h2'⟩ := h'
  refine pe_of (pe_chain h1 h1' ha hb hc hm) fun σ H Q h => ?_
  obtain ⟨ρ, O, Γ, F, res, Γ', R, e, k⟩ := h
  obtain ⟨⟨b1, Γ1⟩, e9, e0⟩ := omap e
  cases e0
  exact chain_run h2 h2' R e9 fun H' F' s c => k _ H' F' s c (by simp only [RepEV, RD])
end
end VS

set_option Elab.async false
set_option linter.all false
set_option maxRecDepth 100000
set_option maxHeartbeats 4000000
namespace VS
open PySem L2 PyProof.Rows
variable [TabT]

/-! ### lists of arguments -/
def frL : List EV → List V → Addr → Prop
  | r :: rs, v :: vs => orO (frs r v) (frL rs vs)
  | _, _ => fun _ => False
def mNil : ML := fun Γ => some ([], Γ)
def mCons (m : M) (ml : ML) : ML := fun Γ => (m Γ).bind fun p => (ml p.2).map fun q => (p.1 :: q.1, q.2)
section
variable {K : PySem.W.Frag} {mg : Str → Option Value} {ρ : List Addr} {O O' : Addr → Prop} {Γ Γ' : VEnv} {σ σ' : L2.St} {H F H' F' : Hp} {r : EV} {v : V} {d : D} {a : Addr}
theorem Rep.pendL (R : Rep K mg ρ O Γ σ H F) : ∀ {rs : List EV} {vs : List V} {O1 : Addr → Prop}, RepL K mg ρ Γ σ H F O1 rs vs → Rep K mg ρ (orO O (frL rs vs)) Γ σ H F := by
  intro rs
  induction rs generalizing R O with
  | nil => intro vs O1 h; exact { R with prot := fun a z => z.elim (R.prot a) fun q => by cases vs <;> exact q.elim, pt := fun a z => z.elim (R.pt a) fun q => by cases vs <;> exact q.elim }
  | cons r rs ih =>
    intro vs O1 h
    simp only [RepL] at h
    obtain ⟨v, ws, rfl, h1, h2⟩ := h
    have h1' : RepEV K mg ρ (fun _ => False) Γ σ H F r v := by
      cases r with
      | fresh d => obtain ⟨p, e1, e2, _, e4⟩ := h1; exact ⟨p, e1, e2, fun z => z, e4⟩
      | _ => exact h1
    have R1 : Rep K mg ρ (orO O (frs r v)) Γ σ H F := by
      have Rp := (R.weakO (O' := fun _ => False) fun _ q => q.elim).pend h1'
      exact { R with prot := fun a z => z.elim (R.prot a) fun z => Rp.prot a (.inr z), pt := fun a z => z.elim (R.pt a) fun z => Rp.pt a (.inr z) }
    have R2 := ih R1 h2
    exact R2.weakO fun a z => by
      rcases z with z | z | z
      · exact .inl (.inl z)
      · exact .inl (.inr z)
      · exact .inr z
theorem RepL.later : ∀ {rs : List EV} {vs : List V} {O1 : Addr → Prop}, RepL K mg ρ Γ σ H F O1 rs vs → Rep K mg ρ (orO O' (frL rs vs)) Γ' σ H' F' → Same F F' → (∀ a, frL rs vs a → H' a = H a) → Cells Γ Γ' → RepL K mg ρ Γ' σ H' F' O1 rs vs := by
  intro rs
  induction rs generalizing O' with
  | nil => intro vs O1 h _ _ _ _; exact h
  | cons r rs ih =>
    intro vs O1 h R' hf ho hc
    simp only [RepL] at h ⊢
    obtain ⟨v, ws, rfl, h1, h2⟩ := h
    refine ⟨v, ws, rfl, ?_, ih (O' := O') h2 (R'.weakO fun a z => ?_) hf (fun a z => ho a (.inr z)) hc⟩
    · cases r with
      | val d => exact RD.mono hf _ _ h1
      | fresh d =>
        obtain ⟨p, e1, e2, e3, e4⟩ := h1
        have hp : frL (.fresh d :: rs) (v :: ws) p := .inl e1
        obtain ⟨q1, q2, q3⟩ := R'.prot p (.inr hp)
        exact ⟨p, e1, e2.stay hf q1 (ho p hp), e3, q3⟩
      | slot i => exact ⟨h1.1, trivial⟩
      | par k => exact h1
    · rcases z with z | z
      · exact .inl z
      · exact .inr (.inr z)
theorem tL_run {m : ML} {rs : List EV} {Q : List V → Hp → Prop} (R : Rep K mg ρ O Γ σ H F) (e : m Γ = some (rs, Γ'))
    (k : ∀ vs H' F', Stp K mg ρ O Γ' σ H F H' F' → Cells Γ Γ' → RepL K mg ρ Γ' σ H' F' O rs vs → Q vs H') : tL K mg m σ H Q := ⟨ρ, O, Γ, F, rs, Γ', R, e, k⟩
def peekL (Γ : VEnv) : List EV → Option (List D)
  | [] => some []
  | r :: rs => (peek Γ r).bind fun d => (peekL Γ rs).map fun ds => d :: ds
def RPs (K : PySem.W.Frag) (mg : Str → Option Value) (F H : Hp) : List D → List V → Prop
  | [], vs => vs = []
  | d :: ds, vs => ∃ v ws, vs = v :: ws ∧ RP K mg F H d v ∧ RPs K mg F H ds ws
theorem peekL_ok (R : Rep K mg ρ O' Γ σ H F) : ∀ {rs : List EV} {vs : List V} {ds : List D} {O : Addr → Prop}, RepL K mg ρ Γ σ H F O rs vs → peekL Γ rs = some ds → RPs K mg F H ds vs := by
  intro rs
  induction rs with
  | nil => intro vs ds O h e; simp only [RepL] at h; simp only [peekL] at e; cases e; simp only [RPs]; exact h
  | cons r rs ih =>
    intro vs ds O h e
    simp only [RepL] at h
    obtain ⟨v, ws, rfl, h1, h2⟩ := h
    simp only [peekL] at e
    obtain ⟨d, e1, e⟩ := obind e
    obtain ⟨es, e2, e3⟩ := omap e
    subst e3
    simp only [RPs]
    refine ⟨v, ws, rfl, ?_, ih h2 e2⟩
    have h1' : RepEV K mg ρ (fun _ => False) Γ σ H F r v := by
      cases r with
      | fresh d => obtain ⟨p, q1, q2, _, q4⟩ := h1; exact ⟨p, q1, q2, fun z => z, q4⟩
      | _ => exact h1
    exact peek_ok (R.weakO fun _ q => q.elim) h1' e1
def freezeL : List EV → VEnv → Option (List D × VEnv)
  | [], Γ => some ([], Γ)
  | r :: rs, Γ => (freeze r Γ).bind fun p => (freezeL rs p.2).map fun q => (p.1 :: q.1, q.2)
theorem frL_out : ∀ {rs : List EV} {vs : List V} {O : Addr → Prop}, RepL K mg ρ Γ σ H F O rs vs → ∀ p, frL rs vs p → ¬ O p := by
  intro rs
  induction rs with
  | nil => intro vs O h p z; cases vs <;> exact z.elim
  | cons r rs ih =>
    intro vs O h p z hp
    simp only [RepL] at h
    obtain ⟨v, ws, rfl, h1, h2⟩ := h
    rcases z with z | z
    · cases r with
      | fresh d =>
        obtain ⟨p', e1, e2, e3, _⟩ := h1
        have z' : v = .ref p := z
        rw [e1] at z'; cases z'
        exact e3 hp
      | val d => exact z.elim
      | slot i => exact z.elim
      | par k => exact z.elim
    · exact ih h2 p z (.inl hp)
theorem freezeL_ok : ∀ {rs : List EV} {vs : List V} {ds : List D} {Γ : VEnv} {F : Hp}, Rep K mg ρ O Γ σ H F → RepL K mg ρ Γ σ H F O rs vs → freezeL rs Γ = some (ds, Γ') → ∃ F', Rep K mg ρ O Γ' σ H F' ∧ Same F F' ∧ RDs K mg F' ds vs ∧ Cells Γ Γ' := by
  intro rs
  induction rs with
  | nil =>
    intro vs ds Γ F R h e
    simp only [RepL] at h
    simp only [freezeL] at e
    cases e
    exact ⟨F, R, Same.refl _, by simp only [RDs]; exact h, Cells.refl⟩
  | cons r rs ih =>
    intro vs ds Γ F R h e
    simp only [RepL] at h
    obtain ⟨v, ws, rfl, h1, h2⟩ := h
    simp only [freezeL] at e
    obtain ⟨⟨d, Γ1⟩, e1, e⟩ := obind e
    obtain ⟨⟨es, Γ2⟩, e2, e3⟩ := omap e
    cases e3
    have R1 : Rep K mg ρ (orO O (frL rs ws)) Γ σ H F := R.pendL h2
    have h1' : RepEV K mg ρ (orO O (frL rs ws)) Γ σ H F r v := by
      cases r with
      | fresh d =>
        obtain ⟨p, q1, q2, q3, q4⟩ := h1
        refine ⟨p, q1, q2, fun z => ?_, q4⟩
        rcases z with z | z
        · exact q3 z
        · exact frL_out h2 p z (.inr q1)
      | _ => exact h1
    obtain ⟨F1, R1', s1, rd, c1⟩ := freeze_ok R1 h1' e1
    have h2' : RepL K mg ρ Γ1 σ H F1 O rs ws := by
      have := RepL.later (O' := O) h2 R1' s1 (fun _ _ => rfl) c1
      clear ih e2
      -- weaken the bound on addresses
      have wk : ∀ {rs : List EV} {ws : List V} {O1 O2 : Addr → Prop}, (∀ a, O2 a → O1 a) → RepL K mg ρ Γ1 σ H F1 O1 rs ws → RepL K mg ρ Γ1 σ H F1 O2 rs ws := by
        intro rs
        induction rs with
        | nil => intro ws O1 O2 _ h; exact h
        | cons r rs ih =>
          intro ws O1 O2 hO h
          simp only [RepL] at h ⊢
          obtain ⟨v, us, rfl, a1, a2⟩ := h
          refine ⟨v, us, rfl, a1.weakO hO, ih (fun a z => ?_) a2⟩
          rcases z with z | z
          · exact .inl (hO a z)
          · exact .inr z
      exact wk (fun a z => .inl z) this
    obtain ⟨F2, R2, s2, rds, c2⟩ := ih (R1'.weakO fun a z => .inl z) h2' e2
    refine ⟨F2, R2, s1.trans s2, ?_, c1.trans c2⟩
    simp only [RDs]
    exact ⟨v, ws, rfl, RD.mono s2 _ _ rd, rds⟩
end
section
variable {X : Cx} {e : Expr} {es : List Expr} {m : M} {ml : ML} {pos : Pos}
theorem va_nil : VA X [] mNil := by
  refine pa_of pa_nil fun σ H Q h => ?_
  obtain ⟨ρ, O, Γ, F, rs, Γ', R, e, k⟩ := h
  cases e
  exact k [] H F (Stp.refl R) Cells.refl (by simp only [RepL])
theorem va_cons (ha : VE X e m) (hr : VA X es ml) (hs : starEach (e :: es) X.env = (false, eval e X.env) :: starEach es X.env := by rfl) : VA X (e :: es) (mCons m ml) := by
  refine pa_of (pa_cons ha hr hs) fun σ H Q h => ?_
  obtain ⟨ρ, O, Γ, F, rs, Γ', R, e, k⟩ := h
  obtain ⟨⟨r, Γ1⟩, e1, e⟩ := obind e
  obtain ⟨⟨rs', Γ2⟩, e2, e3⟩ := omap e
  cases e3
  refine tV_run R e1 fun v H1 F1 s1 c1 r1 => ?_
  refine tL_run (s1.rep.pend r1) e2 fun vs H2 F2 s2 c2 r2 => ?_
  refine k (v :: vs) H2 F2 (s1.trans (s2.weakO orO_l)) (c1.trans c2) ?_
  simp only [RepL]
  exact ⟨v, vs, rfl, r1.later s1.rep s2.rep s2.fs s2.op c2, r2⟩
/-! ### displays -/
def mList (ml : ML) : M := fun Γ => (ml Γ).bind fun p => (freezeL p.1 p.2).bind fun q => if q.1.length ≤ sizeLine then some (.fresh (.lst q.1), q.2) else none
def mTup (ml : ML) : M := fun Γ => (ml Γ).bind fun p => (freezeL p.1 p.2).bind fun q => if q.1.length ≤ sizeLine then some (.val (.tup q.1), q.2) else none
theorem ve_list (h : VA X es ml) : VE X (.List es pos) (mList ml) := by
  refine pe_of (pe_lst h) fun σ H Q h => ?_
  obtain ⟨ρ, O, Γ, F, r, Γ', R, e, k⟩ := h
  obtain ⟨⟨rs, Γ1⟩, e1, e⟩ := obind e
  obtain ⟨⟨ds, Γ2⟩, e2, e⟩ := obind e
  refine tL_run R e1 fun vs H1 F1 s1 c1 r1 => ?_
  obtain ⟨F2, R2, s2, rd, c2⟩ := freezeL_ok s1.rep r1 e2
  split at e
  · rename_i hz
    cases e
    have s12 : Stp X.K X.mg ρ O Γ2 σ H F H1 F2 := ⟨R2, s1.fs.trans s2, s1.op⟩
    refine ⟨by rw [← rd.length]; exact hz, fun p hn => ?_⟩
    exact gq_list R2.le (fun v H3 F3 g hr => k v H3 F3 (s12.trans (Stp.grow R2 g)) (c1.trans c2) (res_ev R2 g hr)) rd p hn
  · cases e
theorem ve_tup {x1} (h : VA X es ml) : VE X (.Tuple es x1 pos) (mTup ml) := by
  refine pe_of (pe_tup h) fun σ H Q h => ?_
  obtain ⟨ρ, O, Γ, F, r, Γ', R, e, k⟩ := h
  obtain ⟨⟨rs, Γ1⟩, e1, e⟩ := obind e
  obtain ⟨⟨ds, Γ2⟩, e2, e⟩ := obind e
  refine tL_run R e1 fun vs H1 F1 s1 c1 r1 => ?_
  obtain ⟨F2, R2, s2, rd, c2⟩ := freezeL_ok s1.rep r1 e2
  split at e
  · rename_i hz
    cases e
    have s12 : Stp X.K X.mg ρ O Γ2 σ H F H1 F2 := ⟨R2, s1.fs.trans s2, s1.op⟩
    refine ⟨by rw [← rd.length]; exact hz, fun p hn => ?_⟩
    exact gq_tup R2.le (fun v H3 F3 g hr => k v H3 F3 (s12.trans (Stp.grow R2 g)) (c1.trans c2) (res_ev R2 g hr)) rd p hn
  · cases e
/-! ### calls of what only reads -/
def CallV (K : PySem.W.Frag) (mg : Str → Option Value) (r : List V → Hp → VK → Prop) (g : List D → Option EV) : Prop :=
  ∀ (F H : Hp) (xs : List V) (ds : List D) (res : EV) (Q : VK), Same F H → RPs K mg F H ds xs → g ds = some res → GQ K mg F H res Q → r xs H Q
def CallX (X : Cx) (f : Value) (g : List D → Option EV) : Prop := ∃ r, CallR X f r ∧ CallV X.K X.mg r g
def mCallB (g : List D → Option EV) (ml : ML) : M := fun Γ => (ml Γ).bind fun p => (peekL p.2 p.1).bind fun ds => (g ds).map fun r => (r, p.2)
theorem callB_run {r : List V → Hp → VK → Prop} {g : List D → Option EV} (hv : CallV X.K X.mg r g) {σ : L2.St} {H : Hp} {Q : VK} (h : tV X.K X.mg (mCallB g ml) σ H Q) : tCB r (tL X.K X.mg ml) σ H Q := by
  obtain ⟨ρ, O, Γ, F, res, Γ', R, e, k⟩ := h
  obtain ⟨⟨rs, Γ1⟩, e1, e⟩ := obind e
  obtain ⟨ds, e2, e⟩ := obind e
  obtain ⟨res', e3, e4⟩ := omap e
  cases e4
  refine tL_run R e1 fun vs H1 F1 s1 c1 r1 => ?_
  exact hv F1 H1 vs ds res Q s1.rep.le (peekL_ok s1.rep r1 e2) e3 fun v H2 F2 g hr => k v H2 F2 (s1.trans (Stp.grow s1.rep g)) c1 (res_ev s1.rep g hr)
theorem ve_callB {id : String} {g : List D → Option EV} {x : Str} {p : Pos} (hc : CallX X (.builtin id) g) (hm : X.mg x = none) (ha : VA X (e :: es) ml) (hv : bootBuiltins x = some (.builtin id) := by decide +kernel) (hg : Gl X x := by rfl) (hn : x ≠ "__name__" := by decide)
    (hdb : (x == ("__debug__" : Str)) = false := by decide) (he : starEach (e :: es) X.env = (false, eval e X.env) :: starEach es X.env := by rfl) (hpl : (backTo pos (starEach es X.env)).any (·.1) = false := by rfl) : VE X (.Call (.Name x p) (e :: es) [] pos) (mCallB g ml) := by
  obtain ⟨r, h1, h2⟩ := hc
  exact pe_of (pe_callB h1 hg hm hv ha hn hdb he hpl) fun σ H Q h => callB_run h2 h
theorem ve_callTy {T : String} {g : List D → Option EV} {x : Str} {p : Pos} (hc : CallX X (.type T) g) (hm : X.mg x = none) (ha : VA X (e :: es) ml) (hv : bootBuiltins x = some (.type T) := by decide +kernel) (hg : Gl X x := by rfl) (hn : x ≠ "__name__" := by decide)
    (hdb : (x == ("__debug__" : Str)) = false := by decide) (he : starEach (e :: es) X.env = (false, eval e X.env) :: starEach es X.env := by rfl) (hpl : (backTo pos (starEach es X.env)).any (·.1) = false := by rfl) : VE X (.Call (.Name x p) (e :: es) [] pos) (mCallB g ml) := by
  obtain ⟨r, h1, h2⟩ := hc
  exact pe_of (pe_callTy h1 hg hm hv ha hn hdb he hpl) fun σ H Q h => callB_run h2 h
theorem callx_or {f : Value} {g g1 g2 : List D → Option EV} (h1 : CallX X f g1) (h2 : CallX X f g2) (h : ∀ d r, g d = some r → g1 d = some r ∨ g2 d = some r) : CallX X f g := by
  obtain ⟨r1, a1, b1⟩ := h1
  obtain ⟨r2, a2, b2⟩ := h2
  refine ⟨_, a1.or a2, fun F H xs ds res Q hl rx hg k => ?_⟩
  rcases h ds res hg with z | z
  · exact .inl (b1 F H xs ds res Q hl rx z k)
  · exact .inr (b2 F H xs ds res Q hl rx z k)
theorem RPs.one {K : PySem.W.Frag} {mg : Str → Option Value} {F H : Hp} {d : D} {vs : List V} (h : RPs K mg F H [d] vs) : ∃ v, vs = [v] ∧ RP K mg F H d v := by
  simp only [RPs] at h
  obtain ⟨v, ws, rfl, h, rfl⟩ := h
  exact ⟨v, rfl, h⟩
theorem RPs.two {K : PySem.W.Frag} {mg : Str → Option Value} {F H : Hp} {d e : D} {vs : List V} (h : RPs K mg F H [d, e] vs) : ∃ v w, vs = [v, w] ∧ RP K mg F H d v ∧ RP K mg F H e w := by
  simp only [RPs] at h
  obtain ⟨v, ws, rfl, h, u, us, rfl, h', rfl⟩ := h
  exact ⟨v, u, rfl, h, h'⟩
def lenD : List D → Option EV
  | [.str s] => some (.val (.int s.length))
  | [.lst xs] => some (.val (.int xs.length))
  | [.tup xs] => some (.val (.int xs.length))
  | [.dict xs] => some (.val (.int xs.length))
  | [.dicT xs] => some (.val (.int xs.length))
  | _ => none
theorem cx_len : CallX X (.builtin "len") lenD := by
  refine ⟨_, call_len.or (call_lenD.or call_len_dT), fun F H xs ds res Q hl rx hg k => ?_⟩
  unfold lenD at hg
  split at hg
  · rename_i s
    cases hg
    obtain ⟨v, rfl, h⟩ := rx.one
    obtain ⟨rfl, ok⟩ := h.str
    exact .inl ⟨_, s.length, rfl, ⟨by simpa [Str.length] using ok.1, by simp [Str.length]⟩, gq_val hl k (by simp only [RD])⟩
  · rename_i s
    cases hg
    obtain ⟨v, rfl, h⟩ := rx.one
    obtain ⟨a, vs, rfl, h1, h2⟩ := h.lst hl
    exact .inl ⟨_, s.length, rfl, .inl ⟨vs, h1, h2.length⟩, gq_val hl k (by simp only [RD])⟩
  · rename_i s
    cases hg
    obtain ⟨v, rfl, h⟩ := rx.one
    obtain ⟨a, vs, rfl, h1, h2⟩ := h.tup hl
    exact .inl ⟨_, s.length, rfl, .inr ⟨vs, h1, h2.length⟩, gq_val hl k (by simp only [RD])⟩
  · rename_i s
    cases hg
    obtain ⟨v, rfl, h⟩ := rx.one
    obtain ⟨a, vs, rfl, h1, h2⟩ := h.dict hl
    exact .inr (.inl ⟨a, vs, rfl, h1, gq_val hl k (by simp only [RD]; rw [h2.len])⟩)
  · rename_i s
    cases hg
    obtain ⟨v, rfl, h⟩ := rx.one
    obtain ⟨a, vs, rfl, h1, h2⟩ := h.dicT hl
    exact .inr (.inr ⟨a, vs, rfl, h1, gq_val hl k (by simp only [RD]; rw [h2.len])⟩)
  · cases hg
def absD : List D → Option EV
  | [.int i] => some (.val (.int (if i < 0 then -i else i)))
  | _ => none
theorem cx_abs : CallX X (.builtin "abs") absD := by
  refine ⟨_, call_abs, fun F H xs ds res Q hl rx hg k => ?_⟩
  unfold absD at hg
  split at hg
  · cases hg
    obtain ⟨v, rfl, h⟩ := rx.one
    exact ⟨_, by rw [h.int], gq_val hl k (by simp only [RD])⟩
  · cases hg
def intD : List D → Option EV
  | [.int i] => some (.val (.int i))
  | [.bl b] => some (.val (.int (if b then 1 else 0)))
  | _ => none
theorem cx_int : CallX X (.type "int") intD := by
  refine ⟨_, call_int1, fun F H xs ds res Q hl rx hg k => ?_⟩
  unfold intD at hg
  split at hg
  · cases hg
    obtain ⟨v, rfl, h⟩ := rx.one
    exact .inl ⟨_, by rw [h.int], gq_val hl k (by simp only [RD])⟩
  · cases hg
    obtain ⟨v, rfl, h⟩ := rx.one
    exact .inr ⟨_, by rw [h.bl], gq_val hl k (by simp only [RD])⟩
  · cases hg
/-- max and min of two ints; of a list of ints -/
def maxI : List Int → Int
  | [] => 0
  | x :: xs => xs.foldl (fun a b => if a < b then b else a) x
def minI : List Int → Int
  | [] => 0
  | x :: xs => xs.foldl (fun a b => if b < a then b else a) x
theorem foldmax (xs : List Int) : ∀ a : Int, (xs.foldl (fun a b => if a < b then b else a) a ∈ a :: xs) ∧ (∀ y ∈ a :: xs, y ≤ xs.foldl (fun a b => if a < b then b else a) a) := by
  induction xs with
  | nil => intro a; simp
  | cons b xs ih =>
    intro a
    rw [List.foldl_cons]
    by_cases h : a < b
    · rw [if_pos h]
      obtain ⟨i1, i2⟩ := ih b
      refine ⟨List.mem_cons_of_mem _ i1, fun y hy => ?_⟩
      rcases List.mem_cons.mp hy with rfl | hy
      · have := i2 b (List.mem_cons_self); omega
      · exact i2 y hy
    · rw [if_neg h]
      obtain ⟨i1, i2⟩ := ih a
      refine ⟨?_, fun y hy => ?_⟩
      · rcases List.mem_cons.mp i1 with z | z
        · rw [z]; exact List.mem_cons_self
        · exact List.mem_cons_of_mem _ (List.mem_cons_of_mem _ z)
      · rcases List.mem_cons.mp hy with rfl | hy
        · exact i2 y List.mem_cons_self
        · rcases List.mem_cons.mp hy with rfl | hy
          · have := i2 a (List.mem_cons_self); omega
          · exact i2 y (List.mem_cons_of_mem _ hy)
theorem foldmin (xs : List Int) : ∀ a : Int, (xs.foldl (fun a b => if b < a then b else a) a ∈ a :: xs) ∧ (∀ y ∈ a :: xs, xs.foldl (fun a b => if b < a then b else a) a ≤ y) := by
  induction xs with
  | nil => intro a; simp
  | cons b xs ih =>
    intro a
    rw [List.foldl_cons]
    by_cases h : b < a
    · rw [if_pos h]
      obtain ⟨i1, i2⟩ := ih b
      refine ⟨List.mem_cons_of_mem _ i1, fun y hy => ?_⟩
      rcases List.mem_cons.mp hy with rfl | hy
      · have := i2 b (List.mem_cons_self); omega
      · exact i2 y hy
    · rw [if_neg h]
      obtain ⟨i1, i2⟩ := ih a
      refine ⟨?_, fun y hy => ?_⟩
      · rcases List.mem_cons.mp i1 with z | z
        · rw [z]; exact List.mem_cons_self
        · exact List.mem_cons_of_mem _ (List.mem_cons_of_mem _ z)
      · rcases List.mem_cons.mp hy with rfl | hy
        · exact i2 y List.mem_cons_self
        · rcases List.mem_cons.mp hy with rfl | hy
          · have := i2 a (List.mem_cons_self); omega
          · exact i2 y (List.mem_cons_of_mem _ hy)
theorem maxI_of {ns : List Int} {m : Int} (h : m ∈ ns) (h2 : ∀ y ∈ ns, y ≤ m) : m = maxI ns := by
  cases ns with
  | nil => cases h
  | cons x xs =>
    obtain ⟨i1, i2⟩ := foldmax xs x
    have a := h2 _ i1
    have b := i2 m h
    have e : maxI (x :: xs) = xs.foldl (fun a b => if a < b then b else a) x := rfl
    rw [e]
    omega
theorem minI_of {ns : List Int} {m : Int} (h : m ∈ ns) (h2 : ∀ y ∈ ns, m ≤ y) : m = minI ns := by
  cases ns with
  | nil => cases h
  | cons x xs =>
    obtain ⟨i1, i2⟩ := foldmin xs x
    have a := h2 _ i1
    have b := i2 m h
    have e : minI (x :: xs) = xs.foldl (fun a b => if b < a then b else a) x := rfl
    rw [e]
    omega
theorem maxI_mem {ns : List Int} (h : ns ≠ []) : maxI ns ∈ ns ∧ ∀ y ∈ ns, y ≤ maxI ns := by
  cases ns with
  | nil => exact absurd rfl h
  | cons x xs => exact foldmax xs x
theorem minI_mem {ns : List Int} (h : ns ≠ []) : minI ns ∈ ns ∧ ∀ y ∈ ns, minI ns ≤ y := by
  cases ns with
  | nil => exact absurd rfl h
  | cons x xs => exact foldmin xs x
def maxD : List D → Option EV
  | [.int i, .int j] => some (.val (.int (if j > i then j else i)))
  | [.lst xs] => (intsOf xs).bind fun ns => if ns ≠ [] then some (.val (.int (maxI ns))) else none
  | _ => none
def minD : List D → Option EV
  | [.int i, .int j] => some (.val (.int (if j < i then j else i)))
  | [.lst xs] => (intsOf xs).bind fun ns => if ns ≠ [] then some (.val (.int (minI ns))) else none
  | _ => none
theorem RP.ints {K : PySem.W.Frag} {mg : Str → Option Value} {F H : Hp} {ds : List D} {ns : List Int} {v : V} (hl : Same F H) (h : RP K mg F H (.lst ds) v) (e : intsOf ds = some ns) : ∃ a, v = .ref a ∧ SqL K H a (ns.map V.int) := by
  obtain ⟨a, vs, rfl, h1, h2⟩ := h.lst hl
  rw [intsOf_map e] at h2
  rw [h2.ints] at h1
  exact ⟨a, rfl, h1⟩
theorem cx_max (hc : X.calm = true) : CallX X (.builtin "max") maxD := by
  refine ⟨_, (call_max2 hc).or (cr_max hc), fun F H xs ds res Q hl rx hg k => ?_⟩
  unfold maxD at hg
  split at hg
  · cases hg
    obtain ⟨v, w, rfl, h, h'⟩ := rx.two
    exact .inl ⟨_, _, by rw [h.int, h'.int], gq_val hl k (by simp only [RD])⟩
  · obtain ⟨ns, e1, hg⟩ := obind hg
    split at hg
    · rename_i hne
      cases hg
      obtain ⟨v, rfl, h⟩ := rx.one
      obtain ⟨a, rfl, h1⟩ := h.ints hl e1
      refine .inr ⟨a, ns, rfl, h1, List.length_pos_iff.mpr hne, fun m hm hy => ?_⟩
      rw [maxI_of hm hy]
      exact gq_val hl k (by simp only [RD])
    · cases hg
  · cases hg
theorem cx_min (hc : X.calm = true) : CallX X (.builtin "min") minD := by
  refine ⟨_, (call_min2 hc).or (cr_min hc), fun F H xs ds res Q hl rx hg k => ?_⟩
  unfold minD at hg
  split at hg
  · cases hg
    obtain ⟨v, w, rfl, h, h'⟩ := rx.two
    exact .inl ⟨_, _, by rw [h.int, h'.int], gq_val hl k (by simp only [RD])⟩
  · obtain ⟨ns, e1, hg⟩ := obind hg
    split at hg
    · rename_i hne
      cases hg
      obtain ⟨v, rfl, h⟩ := rx.one
      obtain ⟨a, rfl, h1⟩ := h.ints hl e1
      refine .inr ⟨a, ns, rfl, h1, List.length_pos_iff.mpr hne, fun m hm hy => ?_⟩
      rw [minI_of hm hy]
      exact gq_val hl k (by simp only [RD])
    · cases hg
  · cases hg
def sumD : List D → Option EV
  | [.lst xs] => (intsOf xs).map fun ns => .val (.int ns.sum)
  | _ => none
theorem cx_sum (hc : X.calm = true) : CallX X (.builtin "sum") sumD := by
  refine ⟨_, cr_sum hc, fun F H xs ds res Q hl rx hg k => ?_⟩
  unfold sumD at hg
  split at hg
  · obtain ⟨ns, e1, e2⟩ := omap hg
    subst e2
    obtain ⟨v, rfl, h⟩ := rx.one
    obtain ⟨a, rfl, h1⟩ := h.ints hl e1
    exact ⟨a, ns, rfl, h1, gq_val hl k (by simp only [RD])⟩
  · cases hg
def blsOf : List D → Option (List Bool)
  | [] => some []
  | .bl i :: r => (blsOf r).map (i :: ·)
  | _ => none
theorem blsOf_map : ∀ {ds : List D} {ns : List Bool}, blsOf ds = some ns → ds = ns.map D.bl
  | [], ns, h => by simp only [blsOf] at h; cases h; rfl
  | d :: r, ns, h => by
    cases d <;> simp only [blsOf] at h <;> first
      | cases h; done
      | (obtain ⟨ms, h1, rfl⟩ := omap h
         rw [blsOf_map h1]; rfl)
omit [TabT] in
theorem blsOf_of (ns : List Bool) : blsOf (ns.map D.bl) = some ns := by
  induction ns with
  | nil => rfl
  | cons n ns ih => simp only [List.map_cons, blsOf, ih, Option.map_some]
theorem RP.bls {K : PySem.W.Frag} {mg : Str → Option Value} {F H : Hp} {ds : List D} {ns : List Bool} {v : V} (hl : Same F H) (h : RP K mg F H (.lst ds) v) (e : blsOf ds = some ns) : ∃ a, v = .ref a ∧ SqL K H a (ns.map V.bl) := by
  obtain ⟨a, vs, rfl, h1, h2⟩ := h.lst hl
  rw [blsOf_map e] at h2
  rw [h2.bls] at h1
  exact ⟨a, rfl, h1⟩
def allD : List D → Option EV
  | [.lst xs] => (blsOf xs).map fun ns => .val (.bl (ns.all id))
  | _ => none
def anyD : List D → Option EV
  | [.lst xs] => (blsOf xs).map fun ns => .val (.bl (ns.any id))
  | _ => none
theorem cx_all (hc : X.calm = true) : CallX X (.builtin "all") allD := by
  refine ⟨_, cr_all hc, fun F H xs ds res Q hl rx hg k => ?_⟩
  unfold allD at hg
  split at hg
  · obtain ⟨ns, e1, e2⟩ := omap hg
    subst e2
    obtain ⟨v, rfl, h⟩ := rx.one
    obtain ⟨a, rfl, h1⟩ := h.bls hl e1
    exact ⟨a, ns, rfl, h1, gq_val hl k (by simp only [RD])⟩
  · cases hg
theorem cx_any (hc : X.calm = true) : CallX X (.builtin "any") anyD := by
  refine ⟨_, cr_any hc, fun F H xs ds res Q hl rx hg k => ?_⟩
  unfold anyD at hg
  split at hg
  · obtain ⟨ns, e1, e2⟩ := omap hg
    subst e2
    obtain ⟨v, rfl, h⟩ := rx.one
    obtain ⟨a, rfl, h1⟩ := h.bls hl e1
    exact ⟨a, ns, rfl, h1, gq_val hl k (by simp only [RD])⟩
  · cases hg
/-- tuple(x), list(x) of a list or a tuple -/
def tupleD : List D → Option EV
  | [.lst xs] => some (.val (.tup xs))
  | [.tup xs] => some (.val (.tup xs))
  | _ => none
theorem cx_tuple : CallX X (.type "tuple") tupleD := by
  refine ⟨_, call_tuple_of, fun F H xs ds res Q hl rx hg k => ?_⟩
  unfold tupleD at hg
  split at hg
  · cases hg
    obtain ⟨v, rfl, h⟩ := rx.one
    obtain ⟨a, vs, rfl, h1, h2⟩ := h.lst hl
    exact ⟨a, vs, rfl, .inl ⟨h1, gq_tup hl k h2⟩⟩
  · cases hg
    obtain ⟨v, rfl, h⟩ := rx.one
    obtain ⟨a, vs, rfl, h1, h2⟩ := h.tupF
    exact ⟨a, vs, rfl, .inr ⟨sqT_mono hl h1, gq_val hl k (by simp only [RD]; exact ⟨a, vs, rfl, h1, h2⟩)⟩⟩
  · cases hg
def listD : List D → Option EV
  | [.lst xs] => some (.fresh (.lst xs))
  | [.tup xs] => some (.fresh (.lst xs))
  | _ => none
theorem cx_list : CallX X (.type "list") listD := by
  refine ⟨_, call_list_of, fun F H xs ds res Q hl rx hg k => ?_⟩
  unfold listD at hg
  split at hg
  · cases hg
    obtain ⟨v, rfl, h⟩ := rx.one
    obtain ⟨a, vs, rfl, h1, h2⟩ := h.lst hl
    exact ⟨a, vs, rfl, .inl h1, gq_list hl k h2⟩
  · cases hg
    obtain ⟨v, rfl, h⟩ := rx.one
    obtain ⟨a, vs, rfl, h1, h2⟩ := h.tup hl
    exact ⟨a, vs, rfl, .inr h1, gq_list hl k h2⟩
  · cases hg
/-! ### isinstance -/
def tyOf : D → Option String
  | .non => some "NoneType"
  | .bl _ => some "bool"
  | .int _ => some "int"
  | .str _ => some "str"
  | .tup _ => some "tuple"
  | .lst _ => some "list"
  | .dict _ => some "dict"
  | .dicT _ => some "dict"
  | _ => none
def isiD : List D → Option EV
  | [d, .ty n] => (tyOf d).bind fun t => if n ∈ ["int", "bool", "str", "list", "tuple", "dict"] then some (.val (.bl (t == n || (t == "bool" && n == "int")))) else none
  | _ => none
theorem tyX_of {K : PySem.W.Frag} {mg : Str → Option Value} {F H : Hp} {d : D} {v : V} {t : String} (hl : Same F H) (r : RP K mg F H d v) (h : tyOf d = some t) : TyX K H v (.type t) := by
  cases d <;> simp only [tyOf] at h <;> first
    | (cases h; done)
    | (cases h; rw [r.non]; exact .base .non)
    | (cases h; rw [r.bl]; exact .base (.bl _))
    | (cases h; rw [r.int]; exact .base (.int _))
    | (cases h; rw [r.str.1]; exact .base (.str _))
    | (cases h
       obtain ⟨a, vs, rfl, h1, h2⟩ := r.tup hl
       rcases h1 with (h1 | ⟨o, h1⟩) | ⟨o, its, n, e1, e2, _⟩
       · exact .base (.tup h1)
       · exact .fTuple h1
       · exact .kTuple e1 e2)
    | (cases h
       obtain ⟨a, vs, rfl, h1, h2⟩ := r.lst hl
       rcases h1 with (h1 | ⟨o, h1⟩) | ⟨o, its, n, e1, e2, _⟩
       · exact .base (.lst h1)
       · exact .base (.frz h1)
       · exact .kList e1 e2)
    | (cases h
       rcases r with r | ⟨a, rfl, _, r⟩
       · simp only [RD] at r
         obtain ⟨a, kvs, rfl, e, _⟩ := r
         first
           | exact .base (.dK (hl _ _ e))
           | exact .base (.dT (hl _ _ e))
       · obtain ⟨kvs, e, _⟩ := r
         first
           | exact .base (.dK e)
           | exact .base (.dT e))
theorem kits : (["NoneType", "bool", "int", "str", "tuple", "list", "dict"].all fun t => ["int", "bool", "str", "list", "tuple", "dict"].all fun n => kitB t n == some (t == n || (t == "bool" && n == "int"))) = true := by decide +kernel
theorem tyOf_mem {d : D} {t : String} (h : tyOf d = some t) : t ∈ ["NoneType", "bool", "int", "str", "tuple", "list", "dict"] := by
  cases d <;> simp only [tyOf] at h <;> cases h <;> simp
theorem RP.ty {K : PySem.W.Frag} {mg : Str → Option Value} {F H : Hp} {n : String} {v : V} (r : RP K mg F H (.ty n) v) : v = .ty n := by
  rcases r with r | ⟨a, _, _, r⟩
  · simpa only [RD] using r
  · simp only at r
theorem cx_isi : CallX X (.builtin "isinstance") isiD := by
  refine ⟨_, call_isi, fun F H xs ds res Q hl rx hg k => ?_⟩
  unfold isiD at hg
  split at hg
  · rename_i d n
    obtain ⟨t, e1, hg⟩ := obind hg
    split at hg
    · rename_i hn
      cases hg
      obtain ⟨v, w, rfl, h, h'⟩ := rx.two
      have q := List.all_eq_true.mp (List.all_eq_true.mp kits t (tyOf_mem e1)) n hn
      have q' : kitB t n = some (t == n || (t == "bool" && n == "int")) := by simpa using q
      exact ⟨v, w, .type t, .type n, _, rfl, by rw [h'.ty]; exact .ty n, tyX_of hl h e1, kit_ty q', gq_val hl k (by simp only [RD])⟩
    · cases hg
  · cases hg
/-- a built-in class as a value -/
theorem ve_ty {x : Str} {p : Pos} (n : String) (hm : X.mg x = none) (hv : bootBuiltins x = some (.type n) := by decide +kernel) (hg : Gl X x := by rfl) (hn : x ≠ "__name__" := by decide) (hdb : (x == ("__debug__" : Str)) = false := by decide) : VE X (.Name x p) (mC (.ty n)) :=
  ve_const (v := .ty n) (pe_bltn hg hm hv rfl hn hdb) fun F => by simp only [RD]
/-! ### a[b] -/
def ixD : D → D → Option EV
  | .lst xs, .int i => (atI xs i).map .val
  | .tup xs, .int i => (atI xs i).map .val
  | .str s, .int i => (atI s i).map fun c => .val (.str [c])
  | .dict kvs, k => (lookD (.dict kvs) k).bind fun o => o.map .val
  | .dicT kvs, k => (lookD (.dicT kvs) k).bind fun o => o.map .val
  | _, _ => none
def rIxD : R2 := fun x y H Q => ∃ a v, x = .ref a ∧ DGet H a y (some v) ∧ Q v H
theorem ix_dict {X : Cx} (hu : X.A.units + 65 < cLine) : IxR X rIxD := by
  intro value slice pins s σ H x y v u Q I rx ry h hs
  obtain ⟨a, w, rfl, g, q⟩ := h
  obtain rfl : v = Value.ref a := rx
  have hT := dict_typeIs I g
  unfold subscriptTail
  refine wpAny_bind ?_
  rw [getitemInPython_of_ne hT.not_modules]
  refine wpAny_bind (wpAny_specialOf hT PySem.F.slot_dict_getitem.lookup ?_)
  have fin : wpAny (model X.prog X.w) X.A (subscripted slice false (.ref a) u) (fun r s₃ => wpAny (model X.prog X.w) X.A (letTemporaryGo value (.ref a) r >>= fun _ => pure r) (EP X pins σ Q) X.xe s₃) X.xe s := by
    rw [hs]
    refine wpAny_operating (d_getItem (by omega) I g ry fun w' s3 I3 rw' => ?_)
    exact wpAny_bind (wpAny_letTemporaryGo (wpAny_pure ⟨w, H, I3, rw', q⟩))
  first
    | exact wpAny_pure (wpAny_bind fin)
    | exact wpAny_bind (wpAny_pure (wpAny_bind fin))
    | exact wpAny_bind fin
theorem atI_RDs {K : PySem.W.Frag} {mg : Str → Option Value} {F : Hp} {ds : List D} {vs : List V} {i : Int} {d : D} (h : RDs K mg F ds vs) (e : atI ds i = some d) : ∃ v, atI vs i = some v ∧ RD K mg F d v := by
  unfold atI at e ⊢
  obtain ⟨j, e1, e2⟩ := obind e
  rw [← h.length, e1]
  obtain ⟨v, h1, h2⟩ := h.get e2
  exact ⟨v, h1, h2⟩
theorem atI_mem {α : Type} {xs : List α} {i : Int} {c : α} (h : atI xs i = some c) : c ∈ xs := by
  unfold atI at h
  obtain ⟨j, _, e⟩ := obind h
  exact List.mem_of_getElem? e
theorem ve_ix {a b : Expr} {ma mb : M} (hu : X.A.units + 65 < cLine) (ha : VE X a ma) (hb : VE X b mb) (hs : PlainIx b := by intro _ _; rfl) : VE X (.Subscript a b pos) (mBin ixD ma mb) := by
  refine pe_of (pe_ix (ix_seq.or (ix_dict hu)) ha hb hs) fun σ H Q h => ?_
  obtain ⟨ρ, O, Γ, F, res, Γ', R, e, k⟩ := h
  obtain ⟨⟨ra, Γ1⟩, e1, e⟩ := obind e
  obtain ⟨⟨rb, Γ2⟩, e2, e⟩ := obind e
  obtain ⟨dx, e3, e⟩ := obind e
  obtain ⟨dy, e4, e⟩ := obind e
  obtain ⟨res', e5, e6⟩ := omap e
  cases e6
  refine seq2 R e1 e2 fun x y H' F' s c rx ry => ?_
  have px := peek_ok s.rep rx e3
  have py := peek_ok s.rep (ry.weakO orO_l) e4
  have kk : GQ X.K X.mg F' H' res Q := fun v H2 F2 g hr => k v H2 F2 (s.trans (Stp.grow s.rep g)) c (res_ev s.rep g hr)
  unfold ixD at e5
  split at e5
  · obtain ⟨d, e7, rfl⟩ := omap e5
    obtain ⟨a, vs, rfl, h1, h2⟩ := px.lst s.rep.le
    obtain ⟨v, h3, h4⟩ := atI_RDs h2 e7
    exact .inl (.inl ⟨a, vs, _, v, rfl, py.int, h1, h3, gq_val s.rep.le kk h4⟩)
  · obtain ⟨d, e7, rfl⟩ := omap e5
    obtain ⟨a, vs, rfl, h1, h2⟩ := px.tup s.rep.le
    obtain ⟨v, h3, h4⟩ := atI_RDs h2 e7
    exact .inl (.inr (.inl ⟨a, vs, _, v, rfl, py.int, h1, h3, gq_val s.rep.le kk h4⟩))
  · obtain ⟨d, e7, rfl⟩ := omap e5
    obtain ⟨rfl, ok⟩ := px.str
    refine .inl (.inr (.inr ⟨_, _, d, rfl, py.int, by simpa [Str.length] using ok.1, by simpa using e7, gq_val s.rep.le kk ?_⟩))
    simp only [RD]
    refine ⟨trivial, by show 1 ≤ sizeLine; decide, fun c hc => ?_⟩
    have : c = d := by simpa using hc
    rw [this]
    exact ok.2 d (atI_mem e7)
  · obtain ⟨o, e7, e8⟩ := obind e5
    obtain ⟨z, rfl, rfl⟩ := omap e8
    obtain ⟨a, w, rfl, g, v, rfl, h4⟩ := lookD_ok s.rep.le px py e7
    exact .inr ⟨a, v, rfl, g, gq_val s.rep.le kk h4⟩
  · obtain ⟨o, e7, e8⟩ := obind e5
    obtain ⟨z, rfl, rfl⟩ := omap e8
    obtain ⟨a, w, rfl, g, v, rfl, h4⟩ := lookD_ok s.rep.le px py e7
    exact .inr ⟨a, v, rfl, g, gq_val s.rep.le kk h4⟩
  · cases e5
/-! ### slices -/
def mPN : VEnv → Option (Option Int × VEnv) := fun Γ => some (none, Γ)
def mPS (m : M) : VEnv → Option (Option Int × VEnv) := fun Γ => (m Γ).bind fun p => match p.1 with
  | .val (.int i) => some (some i, p.2)
  | _ => none
def tP (K : PySem.W.Frag) (mg : Str → Option Value) (m : VEnv → Option (Option Int × VEnv)) : TO := fun σ H Q => ∃ ρ O Γ F r Γ', Rep K mg ρ O Γ σ H F ∧ m Γ = some (r, Γ') ∧
  ∀ H' F', Stp K mg ρ O Γ' σ H F H' F' → Cells Γ Γ' → Q r H'
abbrev VO (X : Cx) (e : Option Expr) (m : VEnv → Option (Option Int × VEnv)) : Prop := PO X e (tP X.K X.mg m)
theorem vo_none : VO X none mPN := ⟨fun pins s σ H Q I h => by
  obtain ⟨ρ, O, Γ, F, r, Γ', R, e, k⟩ := h
  cases e
  exact po_none.run pins s σ H Q I (k H F (Stp.refl R) Cells.refl)⟩
theorem vo_some (h : VE X e m) : VO X (some e) (mPS m) := ⟨fun pins s σ H Q I hh => by
  obtain ⟨ρ, O, Γ, F, r, Γ', R, e, k⟩ := hh
  obtain ⟨⟨q, Γ1⟩, e1, e⟩ := obind e
  refine (po_some h).run pins s σ H Q I (tV_run R e1 fun v H1 F1 s1 c1 r1 => ?_)
  cases q with
  | val d =>
    cases d with
    | int i =>
      cases e
      have : v = .int i := by simpa only [RepEV, RD] using r1
      exact ⟨i, this, k H1 F1 s1 c1⟩
    | _ => cases e
  | _ => cases e⟩
def cutL {α : Type} (xs : List α) (lo hi : Option Int) : List α := (xs.drop (HT.sIx xs.length 0 lo)).take (HT.sIx xs.length xs.length hi - HT.sIx xs.length 0 lo)
def slD (d : D) (lo hi : Option Int) : Option EV := match d with
  | .lst xs => some (.fresh (.lst (cutL xs lo hi)))
  | .tup xs => some (.val (.tup (cutL xs lo hi)))
  | .str s => some (.val (.str (cutL s lo hi)))
  | _ => none
def mSl (m : M) (lo hi : VEnv → Option (Option Int × VEnv)) : M := fun Γ => (m Γ).bind fun p => (lo p.2).bind fun l => (hi l.2).bind fun u => (peek u.2 p.1).bind fun d => (slD d l.1 u.1).map fun r => (r, u.2)
theorem RDs.cut {K : PySem.W.Frag} {mg : Str → Option Value} {F : Hp} {ds : List D} {vs : List V} (h : RDs K mg F ds vs) (lo hi : Option Int) : RDs K mg F (cutL ds lo hi) (cutV vs lo hi) := by
  unfold cutL cutV
  rw [h.length]
  exact (h.drop _).take _
theorem cutL_whole {α : Type} {xs : List α} {lo hi : Option Int} (h : HT.sIx xs.length 0 lo = 0 ∧ HT.sIx xs.length xs.length hi = xs.length) : cutL xs lo hi = xs := by
  unfold cutL
  rw [h.1, h.2]
  simp
theorem cutS_eq (s : List Nat) (lo hi : Option Int) : cutS ⟨s.toArray⟩ lo hi = ⟨(cutL s lo hi).toArray⟩ := by
  unfold cutS cutL
  simp [Str.length]
theorem OkS.cut {s : List Nat} (h : OkS s) (lo hi : Option Int) : OkS (cutL s lo hi) := by
  unfold cutL
  refine ⟨?_, fun c hc => h.2 c (List.mem_of_mem_drop (List.mem_of_mem_take hc))⟩
  have := h.1
  simp only [List.length_take, List.length_drop]
  omega
theorem SlR.or3 {r1 r2 r3 : V → Option Int → Option Int → Hp → VK → Prop} (h1 : SlR X r1) (h2 : SlR X r2) (h3 : SlR X r3) : SlR X (fun x lo hi H Q => r1 x lo hi H Q ∨ r2 x lo hi H Q ∨ r3 x lo hi H Q) := h1.or (h2.or h3)
theorem ve_slice {lo hi : Option Expr} {ml mh : VEnv → Option (Option Int × VEnv)} {p2 : Pos} (he : VE X e m) (hl : VO X lo ml) (hu : VO X hi mh) : VE X (.Subscript e (.Slice lo hi none p2) pos) (mSl m ml mh) := by
  refine pe_of (pe_slice (SlR.or3 sl_list sl_tupA sl_str) he hl hu) fun σ H Q h => ?_
  obtain ⟨ρ, O, Γ, F, res, Γ', R, e, k⟩ := h
  obtain ⟨⟨r, Γ1⟩, e1, e⟩ := obind e
  obtain ⟨⟨l, Γ2⟩, e2, e⟩ := obind e
  obtain ⟨⟨u, Γ3⟩, e3, e⟩ := obind e
  obtain ⟨d, e4, e⟩ := obind e
  obtain ⟨res', e5, e6⟩ := omap e
  cases e6
  refine tV_run R e1 fun v H1 F1 s1 c1 r1 => ?_
  refine ⟨ρ, orO O (frs r v), Γ1, F1, l, Γ2, s1.rep.pend r1, e2, fun H2 F2 s2 c2 => ?_⟩
  refine ⟨ρ, orO O (frs r v), Γ2, F2, u, Γ3, s2.rep, e3, fun H3 F3 s3 c3 => ?_⟩
  have s23 := s2.trans s3
  have r3 := r1.later s1.rep s23.rep s23.fs s23.op (c2.trans c3)
  have s : Stp X.K X.mg ρ O Γ3 σ H F H3 F3 := s1.trans (s23.weakO orO_l)
  have kk : GQ X.K X.mg F3 H3 res Q := fun v H2 F2 g hr => k v H2 F2 (s.trans (Stp.grow s.rep g)) (c1.trans (c2.trans c3)) (res_ev s.rep g hr)
  have px := peek_ok s.rep r3 e4
  cases d with
  | lst xs =>
    simp only [slD] at e5
    cases e5
    obtain ⟨a, vs, rfl, h1, h2⟩ := px.lst s.rep.le
    exact .inl ⟨a, vs, rfl, h1, gq_list s.rep.le kk (h2.cut l u)⟩
  | tup xs =>
    simp only [slD] at e5
    cases e5
    obtain ⟨a, vs, rfl, h1, h2⟩ := px.tupF
    refine .inr (.inl ⟨a, vs, rfl, sqT_mono s.rep.le h1, fun hw => ?_, fun _ => gq_tup s.rep.le kk (h2.cut l u)⟩)
    have ew : cutL xs l u = xs := cutL_whole (by rw [h2.length]; exact hw)
    have kk' : GQ X.K X.mg F3 H3 (.val (.tup xs)) Q := by
      have := kk
      simp only [ew] at this
      exact this
    exact gq_val s.rep.le kk' (by simp only [RD]; exact ⟨a, vs, rfl, h1, h2⟩)
  | str s' =>
    simp only [slD] at e5
    cases e5
    obtain ⟨rfl, ok⟩ := px.str
    refine .inr (.inr ⟨_, rfl, by simpa [Str.length] using ok.1, ?_⟩)
    rw [cutS_eq]
    exact gq_val s.rep.le kk (by simp only [RD]; exact ⟨trivial, ok.cut l u⟩)
  | _ => simp only [slD] at e5; cases e5
/-- xs[::-1] of a list -/
def mRev (m : M) : M := fun Γ => (m Γ).bind fun p => (peek p.2 p.1).bind fun d => match d with
  | .lst xs => some (.fresh (.lst xs.reverse), p.2)
  | _ => none
theorem ve_revL {k : Nat} {p1 p2 p3 : Pos} (he : VE X e m) : VE X (.Subscript e (.Slice none none (some (.UnaryOp .USub (.Constant (.int 1) k p1) p2)) p3) pos) (mRev m) := by
  refine pe_of (pe_revL he) fun σ H Q h => ?_
  obtain ⟨ρ, O, Γ, F, res, Γ', R, e, kk⟩ := h
  obtain ⟨⟨r, Γ1⟩, e1, e⟩ := obind e
  obtain ⟨d, e2, e⟩ := obind e
  refine tV_run R e1 fun v H1 F1 s1 c1 r1 => ?_
  have px := peek_ok s1.rep r1 e2
  cases d with
  | lst xs =>
    cases e
    obtain ⟨a, vs, rfl, h1, h2⟩ := px.lst s1.rep.le
    exact ⟨a, vs, rfl, h1, gq_list s1.rep.le (fun v H2 F2 g hr => kk v H2 F2 (s1.trans (Stp.grow s1.rep g)) c1 (res_ev s1.rep g hr)) h2.rev⟩
  | _ => cases e
/-! ### unary minus -/
def negD : D → Option EV
  | .int i => some (.val (.int (-i)))
  | _ => none
def mUn (g : D → Option EV) (m : M) : M := fun Γ => (m Γ).bind fun p => (peek p.2 p.1).bind fun d => (g d).map fun r => (r, p.2)
theorem ve_neg (he : VE X e m) : VE X (.UnaryOp .USub e pos) (mUn negD m) := by
  refine pe_of (pe_un un_neg he) fun σ H Q h => ?_
  obtain ⟨ρ, O, Γ, F, res, Γ', R, e, kk⟩ := h
  obtain ⟨⟨r, Γ1⟩, e1, e⟩ := obind e
  obtain ⟨d, e2, e⟩ := obind e
  obtain ⟨res', e3, e4⟩ := omap e
  cases e4
  refine tV_run R e1 fun v H1 F1 s1 c1 r1 => ?_
  have px := peek_ok s1.rep r1 e2
  cases d <;> simp only [negD] at e3 <;> cases e3
  exact ⟨_, px.int, gq_val s1.rep.le (fun v H2 F2 g hr => kk v H2 F2 (s1.trans (Stp.grow s1.rep g)) c1 (res_ev s1.rep g hr)) (by simp only [RD])⟩
/-! ### methods that only read -/
def MtV (K : PySem.W.Frag) (mg : Str → Option Value) (r : V → List V → Hp → VK → Prop) (g : D → List D → Option EV) : Prop :=
  ∀ (F H : Hp) (x : V) (xs : List V) (d : D) (ds : List D) (res : EV) (Q : VK), Same F H → RP K mg F H d x → RPs K mg F H ds xs → g d ds = some res → GQ K mg F H res Q → r x xs H Q
def MtX (X : Cx) (id : String) (g : D → List D → Option EV) : Prop := ∃ r, MtR X id r ∧ MtV X.K X.mg r g
def tyM : String → D → Bool
  | "str", .str _ => true
  | "list", .lst _ => true
  | _, _ => false
def mMeth (T : String) (g : D → List D → Option EV) (mo : M) (ml : ML) : M := fun Γ => (mo Γ).bind fun p => (peek p.2 p.1).bind fun d0 => if tyM T d0 = true then
  (ml p.2).bind fun q => (peek q.2 p.1).bind fun d => (peekL q.2 q.1).bind fun ds => (g d ds).map fun r => (r, q.2) else none
theorem tyM_V {T : String} {K : PySem.W.Frag} {mg : Str → Option Value} {F H : Hp} {d : D} {v : V} (hl : Same F H) (h : RP K mg F H d v) (e : tyM T d = true) : tyV K T v H := by
  unfold tyM at e
  split at e
  · rw [h.str.1]; rfl
  · obtain ⟨a, vs, rfl, h1, _⟩ := h.lst hl; exact .inl ⟨rfl, vs, h1⟩
  · cases e
theorem ve_meth {T id : String} {name : Str} {g : D → List D → Option EV} {o : Expr} {mo : M} {apos : Pos} (hm : MtX X id g) (pa : PlainAttrs T) (slot : Slot T name id) (hty : typeOf (.builtin id) = pure (.type "method_descriptor")) (ho : VE X o mo) (ha : VA X (e :: es) ml)
    (hbase : attributeBase o name X.env (eval o X.env) = eval o X.env := by rfl)
    (hfew : ((backTo pos (starEach (e :: es) X.env)).all (fun x => !x.1) && (backToKw pos (keywordEach [] X.env)).all (fun x => x.1.isSome)
      && decide ((e :: es).length + ([] : List Keyword).length + (if ([] : List Keyword).isEmpty then 0 else 1) < 30)) = true := by rfl)
    (hline : (apos.endLine == pos.line) = true := by rfl) (hs : starEach (e :: es) X.env = (false, eval e X.env) :: starEach es X.env := by rfl) (hplain : (backTo pos (starEach es X.env)).any (·.1) = false := by rfl) :
    VE X (.Call (.Attribute o name apos) (e :: es) [] pos) (mMeth T g mo ml) := by
  obtain ⟨r, h1, h2⟩ := hm
  refine pe_of (pe_bm pa slot hty h1 ho ha hbase hfew hline hs hplain) fun σ H Q h => ?_
  obtain ⟨ρ, O, Γ, F, res, Γ', R, e, k⟩ := h
  obtain ⟨⟨r, Γ1⟩, e1, e⟩ := obind e
  obtain ⟨d0, e2, e⟩ := obind e
  split at e
  · rename_i hT
    obtain ⟨⟨rs, Γ2⟩, e3, e⟩ := obind e
    obtain ⟨d, e4, e⟩ := obind e
    obtain ⟨ds, e5, e⟩ := obind e
    obtain ⟨res', e6, e7⟩ := omap e
    cases e7
    refine tV_run R e1 fun v H1 F1 s1 c1 r1 => ?_
    refine ⟨tyM_V s1.rep.le (peek_ok s1.rep r1 e2) hT, ?_⟩
    refine tL_run (s1.rep.pend r1) e3 fun vs H2 F2 s2 c2 r2 => ?_
    have r1' := r1.later s1.rep s2.rep s2.fs s2.op c2
    have s : Stp X.K X.mg ρ O Γ2 σ H F H2 F2 := s1.trans (s2.weakO orO_l)
    exact h2 F2 H2 v vs d ds res Q s.rep.le (peek_ok s.rep r1' e4) (peekL_ok s2.rep r2 e5) e6 fun v H3 F3 g hr => k v H3 F3 (s.trans (Stp.grow s.rep g)) (c1.trans c2) (res_ev s.rep g hr)
  · cases e
end
end VS

set_option Elab.async false
set_option linter.all false
set_option maxRecDepth 100000
set_option maxHeartbeats 4000000
namespace VS
open PySem L2 PyProof.Rows
variable [TabT]

section
variable {K : PySem.W.Frag} {mg : Str → Option Value} {ρ : List Addr} {O O' : Addr → Prop} {Γ Γ' Γ1 : VEnv} {σ σ' σ1 : L2.St} {H F H' F' H1 F1 : Hp} {r : EV} {v : V} {d : D} {a : Addr} {D : Ends} {fl : Fl} {W : WX}
theorem FlK.from (s : Stp K mg ρ O Γ1 σ1 H F H1 F1) (h : FlK K mg W ρ O Γ' H F D fl) : FlK K mg W ρ O Γ' H1 F1 D fl := by
  cases fl with
  | nx => exact fun σ' H' F' s' => h σ' H' F' (s.trans s')
  | brk => exact fun σ' H' F' s' => h σ' H' F' (s.trans s')
  | cont => exact fun σ' H' F' s' => h σ' H' F' (s.trans s')
  | ret r => exact fun v σ' H' F' s' => h v σ' H' F' (s.trans s')
  | exc x => exact fun C σ' H' F' hm s' => h C σ' H' F' hm (s.trans s')
theorem tS_run {m : MS} (R : Rep K mg ρ O Γ σ H F) (e : m Γ = some (fl, Γ')) (k : FlK K mg W ρ O Γ' H F D fl) : tS K mg W m D σ H := ⟨ρ, O, Γ, F, fl, Γ', R, e, k⟩
end
/-! ### statements -/
def mSeq (a b : MS) : MS := fun Γ => (a Γ).bind fun p => match p.1 with
  | .nx => b p.2
  | fl => some (fl, p.2)
def mNext : MS := fun Γ => some (.nx, Γ)
def mDrop (m : M) : MS := fun Γ => (m Γ).map fun p => (.nx, p.2)
def mRet (m : M) : MS := fun Γ => (m Γ).map fun p => (.ret p.1, p.2)
def mRetN : MS := fun Γ => some (.ret (.val .non), Γ)
def mIfS (t : MB) (a b : MS) : MS := fun Γ => (t Γ).bind fun p => if p.1 = true then a p.2 else b p.2
def mAsg (m : M) (g : MG) : MS := fun Γ => (m Γ).bind fun p => (g p.1 p.2).map fun Γ' => (.nx, Γ')
def mBrk : MS := fun Γ => some (.brk, Γ)
def mCont : MS := fun Γ => some (.cont, Γ)
def mNever : MS := fun _ => none
section
variable {X : Cx} {e : Expr} {st : Stmt} {sts : List Stmt} {m : M} {ms mt : MS} {t : MB} {g : MG} {ws : List Nat} {pos : Pos}
theorem vs_nil : VSs X [] mNext := by
  intro W tk
  refine pss_of pss_nil fun D σ H h => ?_
  obtain ⟨ρ, O, Γ, F, fl, Γ', R, e, k⟩ := h
  cases e
  exact k σ H F (Stp.refl R)
theorem vs_one (h : VSt X st ms) : VSs X [st] ms := fun W tk => pss_one (h W tk)
theorem vs_cons (h1 : VSt X st ms) (h2 : VSs X sts mt) : VSs X (st :: sts) (mSeq ms mt) := by
  intro W tk
  refine pss_of (pss_cons (h1 W tk) (h2 W tk)) fun D σ H h => ?_
  obtain ⟨ρ, O, Γ, F, fl, Γ', R, e, k⟩ := h
  obtain ⟨⟨f1, Γ1⟩, e1, e⟩ := obind e
  cases f1 with
  | nx =>
    refine tS_run R e1 ?_
    intro σ1 H1 F1 s1
    exact tS_run s1.rep e (k.from s1)
  | brk => cases e; exact tS_run R e1 k
  | cont => cases e; exact tS_run R e1 k
  | ret r => cases e; exact tS_run R e1 k
  | exc x => cases e; exact tS_run R e1 k
theorem vs_expr (h : VE X e m) (hs : swapsWith e none pos.line X.env = pure false := by rfl) : VSt X (.Expr e pos) (mDrop m) := by
  intro W tk
  refine ps_of (ps_expr h hs) fun D σ H h => ?_
  obtain ⟨ρ, O, Γ, F, fl, Γ', R, e, k⟩ := h
  obtain ⟨⟨r, Γ1⟩, e1, e2⟩ := omap e
  cases e2
  exact tV_run R e1 fun v H1 F1 s1 c1 r1 => k σ H1 F1 s1
theorem vs_doc {x j pos'} : VSt X (.Expr (.Constant (.str x) j pos) pos') mNext := by
  intro W tk
  refine ps_of ps_doc fun D σ H h => ?_
  obtain ⟨ρ, O, Γ, F, fl, Γ', R, e, k⟩ := h
  cases e
  exact k σ H F (Stp.refl R)
theorem vs_ret (h : VE X e m) : VSt X (.Return (some e) pos) (mRet m) := by
  intro W tk
  refine ps_of (ps_ret h) fun D σ H h => ?_
  obtain ⟨ρ, O, Γ, F, fl, Γ', R, e, k⟩ := h
  obtain ⟨⟨r, Γ1⟩, e1, e2⟩ := omap e
  cases e2
  exact tV_run R e1 fun v H1 F1 s1 c1 r1 => k v σ H1 F1 s1 r1
theorem vs_retN : VSt X (.Return none pos) mRetN := by
  intro W tk
  refine ps_of ps_retN fun D σ H h => ?_
  obtain ⟨ρ, O, Γ, F, fl, Γ', R, e, k⟩ := h
  cases e
  exact k .non σ H F (Stp.refl R) (by simp only [RepEV, RD])
theorem vs_if {c : Expr} {a b : List Stmt} (hc : VT X c t) (ha : VSs X a ms) (hb : VSs X b mt) : VSt X (.If c a b pos) (mIfS t ms mt) := by
  intro W tk
  refine ps_of (ps_if hc (ha W tk) (hb W tk)) fun D σ H h => ?_
  obtain ⟨ρ, O, Γ, F, fl, Γ', R, e, k⟩ := h
  obtain ⟨⟨b1, Γ1⟩, e1, e⟩ := obind e
  refine tB_run R e1 fun H1 F1 s1 c1 => ?_
  cases b1 with
  | true => exact iteT (tS_run s1.rep e (k.from s1))
  | false => exact iteF (tS_run s1.rep e (k.from s1))
theorem vs_pass : VSt X (.Pass pos) mNext := by
  intro W tk
  refine ps_of ps_pass fun D σ H h => ?_
  obtain ⟨ρ, O, Γ, F, fl, Γ', R, e, k⟩ := h
  cases e
  exact k σ H F (Stp.refl R)
theorem vs_break : VSt X (.Break pos) mBrk := by
  intro W tk
  refine ps_of ps_break fun D σ H h => ?_
  obtain ⟨ρ, O, Γ, F, fl, Γ', R, e, k⟩ := h
  cases e
  exact k σ H F (Stp.refl R)
theorem vs_continue : VSt X (.Continue pos) mCont := by
  intro W tk
  refine ps_of ps_continue fun D σ H h => ?_
  obtain ⟨ρ, O, Γ, F, fl, Γ', R, e, k⟩ := h
  cases e
  exact k σ H F (Stp.refl R)
/-- a statement that is not come to -/
theorem vs_never : VSt X st mNever := by
  intro W tk
  refine ps_of ps_never fun D σ H h => ?_
  obtain ⟨ρ, O, Γ, F, fl, Γ', R, e, k⟩ := h
  cases e
/-! ### targets -/
theorem tG_run {K : PySem.W.Frag} {mg : Str → Option Value} {ρ : List Addr} {O : Addr → Prop} {Γ Γ' : VEnv} {σ : L2.St} {H F : Hp} {r : EV} {v : V} {Q : L2.St → Hp → Prop} (R : Rep K mg ρ O Γ σ H F) (rv : RepEV K mg ρ O Γ σ H F r v) (e : g r Γ = some Γ')
    (k : ∀ σ' H' F', Stp K mg ρ O Γ' σ' H F H' F' → (∀ us : List Nat, (∀ i ∈ ws, i ∈ us) → wipe σ' us = wipe σ us) → Q σ' H') : tG K mg ws g v σ H Q := ⟨ρ, O, Γ, F, r, Γ', R, rv, e, k⟩
theorem wipe_at {σ : L2.St} {i : Nat} : ∀ {us : List Nat}, (wipe σ us)[i]? = if i ∈ us ∧ i < σ.length then some none else σ[i]?
  | [] => by simp [wipe]
  | u :: us => by
    simp only [wipe]
    by_cases e : i = u
    · subst e
      by_cases hl : i < σ.length
      · rw [List.getElem?_set_self (by rw [wipe_length]; exact hl), if_pos ⟨List.mem_cons_self, hl⟩]
      · rw [if_neg fun z => hl z.2, List.getElem?_eq_none_iff.mpr (by simp [wipe_length]; omega), List.getElem?_eq_none_iff.mpr (by omega)]
    · rw [List.getElem?_set_ne (Ne.symm e), wipe_at (us := us)]
      simp [e]
theorem wipe_set {σ : L2.St} {i : Nat} {x : Option V} {us : List Nat} (h : i ∈ us) : wipe (σ.set i x) us = wipe σ us := by
  apply List.ext_getElem?
  intro j
  rw [wipe_at, wipe_at, List.length_set]
  by_cases e : j = i
  · subst e
    by_cases hl : j < σ.length
    · rw [if_pos ⟨h, hl⟩, if_pos ⟨h, hl⟩]
    · rw [if_neg fun z => hl z.2, if_neg fun z => hl z.2, List.getElem?_eq_none_iff.mpr (by simp; omega), List.getElem?_eq_none_iff.mpr (by omega)]
  · rw [List.getElem?_set_ne (Ne.symm e)]
theorem vg_name (i : Nat) {x : Str} (hN : X.N.Nodup) (hi : X.N[i]? = some x := by rfl) (hx : Loc X.env.scope x := by first | exact Or.inl rfl | exact Or.inr rfl) (hf : X.fn x = true ∨ X.env.scope.names.lookup x = some .local := by first | exact .inl rfl | exact .inr rfl) : VG X (.Name x pos) [i] (asgn i) := by
  refine pg_of (pg_name hN hi hx hf) fun v σ H Q h => ?_
  obtain ⟨ρ, O, Γ, F, r, Γ', R, rv, e, k⟩ := h
  obtain ⟨F', R', s⟩ := asgn_ok R rv e
  exact k _ H F' ⟨R', s, fun _ _ => rfl⟩ fun us hu => wipe_set (hu i List.mem_cons_self)
theorem vs_asg {tg : Expr} (he : VE X e m) (hg : VG X tg ws g) (hs : swapsWithSole [tg] e pos.line X.env = pure false := by rfl) (hw : swappedStores [tg] e X.env = pure none := by rfl)
    (h1 : (assignEach [tg] X.env).map (·.2) = [assign tg X.env] := by rfl) : VSt X (.Assign [tg] e pos) (mAsg m g) := by
  intro W tk
  refine ps_of (ps_asg he hg hs hw h1) fun D σ H h => ?_
  obtain ⟨ρ, O, Γ, F, fl, Γ', R, e, k⟩ := h
  obtain ⟨⟨r, Γ1⟩, e1, e⟩ := obind e
  obtain ⟨Γ2, e2, e3⟩ := omap e
  cases e3
  exact tV_run R e1 fun v H1 F1 s1 c1 r1 => tG_run s1.rep r1 e2 fun σ' H2 F2 s2 _ => k σ' H2 F2 (s1.trans s2)
def mgSeq : List MG → List D → VEnv → Option VEnv
  | [], [], Γ => some Γ
  | g :: gs, d :: ds, Γ => (g (.val d) Γ).bind fun Γ' => mgSeq gs ds Γ'
  | _, _, _ => none
def mgTup (gs : List MG) : MG := fun r Γ => (freeze r Γ).bind fun p => match p.1 with
  | .tup ds => mgSeq gs ds p.2
  | .lst ds => mgSeq gs ds p.2
  | _ => none
/-- several targets, with data -/
def tGs (K : PySem.W.Frag) (mg : Str → Option Value) (ws : List Nat) (gs : List MG) : TGs := fun vs σ H Q => ∃ ρ O Γ F ds Γ', Rep K mg ρ O Γ σ H F ∧ RDs K mg F ds vs ∧ mgSeq gs ds Γ = some Γ' ∧
  ∀ σ' H' F', Stp K mg ρ O Γ' σ' H F H' F' → (∀ us : List Nat, (∀ i ∈ ws, i ∈ us) → wipe σ' us = wipe σ us) → Q σ' H'
abbrev VGs (X : Cx) (es : List Expr) (ws : List Nat) (gs : List MG) : Prop := PGs X es (tGs X.K X.mg ws gs)
theorem pgs_of {es : List Expr} {t t' : TGs} (h : PGs X es t) (f : ∀ v σ H Q, t' v σ H Q → t v σ H Q) : PGs X es t' := ⟨fun pins s σ H v u Q I r z => h.run pins s σ H v u Q I r (f v σ H Q z)⟩
theorem vgs_nil : VGs X [] [] [] := by
  refine pgs_of pgs_nil fun vs σ H Q h => ?_
  obtain ⟨ρ, O, Γ, F, ds, Γ', R, rd, e, k⟩ := h
  cases ds with
  | nil => cases e; simp only [RDs] at rd; exact ⟨rd, k σ H F (Stp.refl R) fun _ _ => rfl⟩
  | cons d ds => cases e
theorem vgs_cons {es : List Expr} {gs : List MG} {ws2 : List Nat} (h1 : VG X e ws g) (h2 : VGs X es ws2 gs) (hs : (assignEach (e :: es) X.env).map (·.2) = assign e X.env :: (assignEach es X.env).map (·.2) := by rfl) : VGs X (e :: es) (ws ++ ws2) (g :: gs) := by
  refine pgs_of (pgs_cons h1 h2 hs) fun vs σ H Q h => ?_
  obtain ⟨ρ, O, Γ, F, ds, Γ', R, rd, e, k⟩ := h
  cases ds with
  | nil => cases e
  | cons d ds =>
    simp only [mgSeq] at e
    obtain ⟨Γ1, e1, e2⟩ := obind e
    simp only [RDs] at rd
    obtain ⟨v, ws, rfl, h1, h2⟩ := rd
    exact ⟨v, ws, rfl, tG_run (r := .val d) R h1 e1 fun σ1 H1 F1 s1 w1 => ⟨ρ, O, Γ1, F1, ds, Γ', s1.rep, RDs.mono s1.fs _ _ h2, e2, fun σ2 H2 F2 s2 w2 => k σ2 H2 F2 (s1.trans s2) fun us hu => (w2 us fun i hi => hu i (List.mem_append_right _ hi)).trans (w1 us fun i hi => hu i (List.mem_append_left _ hi))⟩⟩
theorem PG.or {tg : Expr} {t t' : TG} (h : PG X tg t) (h' : PG X tg t') : PG X tg (fun v σ H Q => t v σ H Q ∨ t' v σ H Q) := ⟨fun pins s σ H v u Q I r z => z.elim (h.run pins s σ H v u Q I r) (h'.run pins s σ H v u Q I r)⟩
theorem mgSeq_len : ∀ {gs : List MG} {ds : List D} {Γ Γ' : VEnv}, mgSeq gs ds Γ = some Γ' → ds.length = gs.length
  | [], [], _, _, _ => rfl
  | g :: gs, d :: ds, Γ, Γ', e => by
    simp only [mgSeq] at e
    obtain ⟨Γ1, _, e2⟩ := obind e
    simp only [List.length_cons, mgSeq_len e2]
  | [], d :: ds, _, _, e => by simp only [mgSeq] at e; cases e
  | g :: gs, [], _, _, e => by simp only [mgSeq] at e; cases e
theorem vg_tup {es : List Expr} {k : Nat} {gs : List MG} (hc : X.calm = true) (h : VGs X es ws gs) (hn : (assignEach es X.env).length = gs.length := by rfl) (hst : (assignEach es X.env).findIdx? (·.1) = none := by rfl) : VG X (.Tuple es k pos) ws (mgTup gs) := by
  refine pg_of (PG.or (pg_tup hc h hn hst) (pg_unl hc h hn hst)) fun v σ H Q h => ?_
  obtain ⟨ρ, O, Γ, F, r, Γ', R, rv, e, kk⟩ := h
  obtain ⟨⟨d, Γ1⟩, e1, e⟩ := obind e
  obtain ⟨F1, R1, s1, rd, _⟩ := freeze_ok R rv e1
  have st : Stp X.K X.mg ρ O Γ1 σ H F H F1 := ⟨R1, s1, fun _ _ => rfl⟩
  cases d with
  | tup ds =>
    simp only [RD] at rd
    obtain ⟨a, vs, rfl, h1, h2⟩ := rd
    exact .inl ⟨a, vs, rfl, sqT_mono R1.le h1, by rw [← h2.length, mgSeq_len e], ρ, O, Γ1, F1, ds, Γ', R1, h2, e, fun σ2 H2 F2 s2 => kk σ2 H2 F2 (st.trans s2)⟩
  | lst ds =>
    simp only [RD] at rd
    obtain ⟨a, vs, rfl, h1, h2⟩ := rd
    exact .inr ⟨a, vs, rfl, R1.le.seq h1, by rw [← h2.length, mgSeq_len e], ρ, O, Γ1, F1, ds, Γ', R1, h2, e, fun σ2 H2 F2 s2 => kk σ2 H2 F2 (st.trans s2)⟩
  | _ => cases e
/-- o[i] = value, a list -/
def setAt (d : D) (r : EV) (c i : D) (Γ : VEnv) : Option VEnv := match c, i with
  | .lst xs, .int k => (ixN xs.length k).map fun j => putC Γ (.lst (xs.set j d)) r
  | .dict kvs, k => if (kdOf k).isSome = true ∧ kvs.length < sizeLine then some (putC Γ (.dict (putD kvs k d)) r) else none
  | .dicT kvs, k => if (ktOf k).isSome = true ∧ kvs.length < sizeLine then some (putC Γ (.dicT (putD kvs k d)) r) else none
  | _, _ => none
def mgSub (mo mi : M) : MG := fun r Γ => (mo Γ).bind fun p => (mi p.2).bind fun q => (freeze r q.2).bind fun z => (content z.2 p.1).bind fun c => (peek z.2 q.1).bind fun i => setAt z.1 p.1 c i z.2
theorem pset_or {X : Cx} {t t' : TSet} (h : PSet X t) (h' : PSet X t') : PSet X (fun o i v H Q => t o i v H Q ∨ t' o i v H Q) := by
  intro pins s σ H o i v ov iv u Q I ro ri rv q
  rcases q with q | q
  · exact h pins s σ H o i v ov iv u Q I ro ri rv q
  · exact h' pins s σ H o i v ov iv u Q I ro ri rv q
theorem vg_sub {o i : Expr} {mo mi : M} (hu : X.A.units + 65 < cLine) (ho : VE X o mo) (hi : VE X i mi)
    (ha : ∀ v, assign (.Subscript o i pos) X.env v = (do
      let ov ← holding [v] (eval o X.env)
      let iv ← holding [v, ov] (eval i X.env)
      standAt pos
      holding [v, ov, iv] (setItem ov iv v)
      release [v, ov, iv] []) := by intro _; rfl) : VG X (.Subscript o i pos) [] (mgSub mo mi) := by
  refine pg_of (pg_sub ho hi (pset_or set_list (set_dict (by omega))) ha) fun v σ H Q h => ?_
  obtain ⟨ρ, O, Γ, F, r, Γ', R, rv, e, kk⟩ := h
  obtain ⟨⟨ro, Γ1⟩, e1, e⟩ := obind e
  obtain ⟨⟨ri, Γ2⟩, e2, e⟩ := obind e
  obtain ⟨⟨d, Γ3⟩, e3, e⟩ := obind e
  obtain ⟨c, e4, e⟩ := obind e
  obtain ⟨di, e5, e⟩ := obind e
  refine tV_run (R.pend rv) e1 fun x H1 F1 s1 c1 r1 => ?_
  have rv1 := rv.later R s1.rep s1.fs s1.op c1
  refine tV_run (s1.rep.pend r1) e2 fun y H2 F2 s2 c2 r2 => ?_
  have r1' := r1.later s1.rep s2.rep s2.fs s2.op c2
  have s2' : Stp X.K X.mg ρ (orO O (frs r v)) Γ2 σ H1 F1 H2 F2 := s2.weakO orO_l
  have rv2 := rv1.later (s1.rep.weakO orO_l) s2'.rep s2'.fs s2'.op c2
  have s12 : Stp X.K X.mg ρ O Γ2 σ H F H2 F2 := (s1.weakO orO_l).trans (s2'.weakO orO_l)
  obtain ⟨F3, R3, s3, rd, c3⟩ := freeze_ok s12.rep rv2 e3
  have st3 : Stp X.K X.mg ρ O Γ3 σ H F H2 F3 := s12.trans ⟨R3, s3, fun _ _ => rfl⟩
  -- the object that is written
  have ro3 : RepEV X.K X.mg ρ (fun _ => False) Γ3 σ H2 F3 ro x := by
    cases ro with
    | val d => simp only [content] at e4; cases e4
    | fresh d => simp only [content] at e4; cases e4
    | slot i => exact ⟨r1'.1, trivial⟩
    | par k => exact r1'
  obtain ⟨a, rfl, ho, hm⟩ := mut_ok (R3.weakO fun _ z => z.elim) ro3 e4
  have pi : RP X.K X.mg F3 H2 di y := by
    have ri3 : RepEV X.K X.mg ρ (fun _ => False) Γ3 σ H2 F3 ri y ∨ ∃ d, ri = .fresh d ∧ OwnAt X.K X.mg F2 H2 (match y with | .ref p => p | _ => 0) d := by
      cases ri with
      | val d => exact .inl (RD.mono s3 _ _ r2)
      | fresh d =>
        obtain ⟨p, rfl, q2, _⟩ := r2
        exact .inr ⟨d, rfl, q2⟩
      | slot i => exact .inl ⟨r2.1, trivial⟩
      | par k => exact .inl r2
    rcases ri3 with ri3 | ⟨d', rfl, q2⟩
    · exact peek_ok (R3.weakO fun _ z => z.elim) ri3 e5
    · simp only [peek] at e5
      cases e5
      exfalso
      clear kk
      cases c <;> cases di <;> simp only [setAt] at e <;> first
        | cases e; done
        | (exact absurd q2.2 (by simp); done)
        | (split at e
           · rename_i hz
             simp [kdOf, ktOf] at hz
           · cases e)
  have hm2 := mut_ok R3 (O := O) (d := c) (r := ro) (v := .ref a) (by
    cases ro with
    | val d => simp only [content] at e4; cases e4
    | fresh d => simp only [content] at e4; cases e4
    | slot i => exact ro3
    | par k => exact ro3) e4
  obtain ⟨a', q0, _, hm'⟩ := hm2
  cases q0
  cases c with
  | lst xs =>
    cases di with
    | int k =>
      obtain ⟨j, e6, e7⟩ := omap e
      obtain ⟨_, vs, h1, h2⟩ := id ho
      refine .inl ⟨a, vs, k, j, rfl, pi.int, h1, by rw [← h2.length]; exact e6, ?_⟩
      obtain ⟨R4, op4⟩ := hm' (upd H2 a (.lst (vs.set j v))) (.lst (xs.set j d)) (fun b hb => upd_ne hb) ⟨ho.1, _, upd_same, RDs.set j h2 rd⟩
      rw [← e7] at kk
      exact kk σ _ F3 (st3.trans ⟨R4, Same.refl _, op4⟩) fun _ _ => rfl
    | _ => cases e
  | dict kvs =>
    simp only [setAt] at e
    by_cases hz : (kdOf di).isSome = true ∧ kvs.length < sizeLine
    · rw [if_pos hz] at e
      cases e
      obtain ⟨c, hc⟩ := Option.isSome_iff_exists.mp hz.1
      have ek := kdOf_eq hc
      subst ek
      have ry : RD X.K X.mg F3 (kD c) y := pi.mono R3.le (fun xs z => by cases c <;> cases z) (fun xs z => by cases c <;> cases z) (fun xs z => by cases c <;> cases z)
      obtain ⟨_, vs, h1, h2⟩ := id ho
      refine .inr ⟨a, _, rfl, .inl ⟨vs, c, h1, rd_kV c ry, by rw [← h2.len]; exact hz.2, rfl⟩, ?_⟩
      obtain ⟨R4, op4⟩ := hm' (upd H2 a (.dK (putK vs c v))) (.dict (putD kvs (kD c) d)) (fun b hb => upd_ne hb) ⟨ho.1, _, upd_same, h2.put c (rd_keyOk c ry) rd⟩
      exact kk σ _ F3 (st3.trans ⟨R4, Same.refl _, op4⟩) fun _ _ => rfl
    · rw [if_neg hz] at e
      cases e
  | dicT kvs =>
    simp only [setAt] at e
    by_cases hz : (ktOf di).isSome = true ∧ kvs.length < sizeLine
    · rw [if_pos hz] at e
      cases e
      obtain ⟨c, hc⟩ := Option.isSome_iff_exists.mp hz.1
      have ek := ktOf_eq hc
      subst ek
      have ry : RD X.K X.mg F3 (tD c) y := pi.mono R3.le (fun xs z => by cases z) (fun xs z => by cases z) (fun xs z => by cases z)
      obtain ⟨b, rfl, hb, hok⟩ := rd_tV c ry
      obtain ⟨_, vs, h1, h2⟩ := id ho
      refine .inr ⟨a, _, rfl, .inr ⟨vs, c, b, h1, rfl, R3.le _ _ hb, by rw [← h2.len]; exact hz.2, rfl⟩, ?_⟩
      obtain ⟨R4, op4⟩ := hm' (upd H2 a (.dT (putK vs c v))) (.dicT (putD kvs (tD c) d)) (fun b hb => upd_ne hb) ⟨ho.1, _, upd_same, h2.put c hok rd⟩
      exact kk σ _ F3 (st3.trans ⟨R4, Same.refl _, op4⟩) fun _ _ => rfl
    · rw [if_neg hz] at e
      cases e
  | _ => cases e
/-! ### name op= value -/
def mAug (g : D → D → Option EV) (i : Nat) (m : M) : MS := fun Γ => (mVar i Γ).bind fun p => (m p.2).bind fun q => (peek q.2 p.1).bind fun x => (peek q.2 q.1).bind fun y => (g x y).bind fun r => (asgn i r q.2).map fun Γ' => (.nx, Γ')
theorem vs_aug {op : Operator} {f : D → D → Option EV} (i : Nat) {x : Str} {pos' : Pos} (ho : OpX X (inplaceOp op) f) (hN : X.N.Nodup) (he : VE X e m) (hi : X.N[i]? = some x := by rfl) (hx : Loc X.env.scope x := by first | exact Or.inl rfl | exact Or.inr rfl)
    (hf : X.fn x = true ∨ X.env.scope.names.lookup x = some .local := by first | exact .inl rfl | exact .inr rfl) : VSt X (.AugAssign (.Name x pos') op e pos) (mAug f i m) := by
  obtain ⟨r, h1, h2⟩ := ho
  intro W tk
  refine ps_of (ps_aug hN hi hx he (ti := r) (fun pins s σ H x y v u Q I rx ry h => h1 pins s σ H x y v u Q I rx ry h) hf) fun D σ H h => ?_
  obtain ⟨ρ, O, Γ, F, fl, Γ', R, e, k⟩ := h
  obtain ⟨⟨rx, Γ0⟩, e0, e⟩ := obind e
  obtain ⟨⟨ry, Γ1⟩, e1, e⟩ := obind e
  obtain ⟨dx, e2, e⟩ := obind e
  obtain ⟨dy, e3, e⟩ := obind e
  obtain ⟨res, e4, e⟩ := obind e
  obtain ⟨Γ2, e5, e6⟩ := omap e
  cases e6
  have hv : ∃ v, σ[i]? = some (some v) ∧ RepEV X.K X.mg ρ O Γ σ H F rx v ∧ Γ0 = Γ := by
    simp only [mVar] at e0
    cases q : Γ.sl[i]? with
    | none => rw [q] at e0; cases e0
    | some c =>
      rw [q] at e0
      cases c with
      | un => cases e0
      | val d => cases e0; obtain ⟨v, h1, h2⟩ := R.vl i d q; exact ⟨v, h1, h2, rfl⟩
      | own d => cases e0; obtain ⟨a, h1, h2⟩ := R.ow i d q; exact ⟨_, h1, ⟨h1, trivial⟩, rfl⟩
      | par j => cases e0; obtain ⟨a, h1, h2⟩ := R.pr i j q; exact ⟨_, h2, ⟨a, h1, rfl⟩, rfl⟩
  obtain ⟨v, hv1, hv2, rfl⟩ := hv
  refine ⟨v, hv1, tV_run (R.pend hv2) e1 fun y H1 F1 s1 c1 r1 => ?_⟩
  have hv3 := hv2.later R s1.rep s1.fs s1.op c1
  have s1' : Stp X.K X.mg ρ O Γ1 σ H F H1 F1 := s1.weakO orO_l
  refine h2 F1 H1 v y dx dy res _ s1'.rep.le (peek_ok s1'.rep hv3 e2) (peek_ok s1.rep r1 e3) e4 fun z H2 F2 g hr => ?_
  have R2 := s1'.rep.grow g
  obtain ⟨F3, R3, s3⟩ := asgn_ok R2 (res_ev s1'.rep g hr) e5
  exact k _ H2 F3 (s1'.trans ((Stp.grow s1'.rep g).trans ⟨R3, s3, fun _ _ => rfl⟩))
theorem ox_iadd : OpX X (inplaceOp .Add) (fun d e => match d, e with
    | .int i, .int j => some (.val (.int (i + j)))
    | .str s, .str t => if s.length + t.length ≤ sizeLine then some (.val (.str (s ++ t))) else none
    | _, _ => none) := by
  refine opx_or (opx_int0 iop_add) (opx_addS iop_add_str) fun d e r h => ?_
  cases d <;> cases e <;> simp only at h <;> first
    | (cases h; done)
    | simp_all [gII, gSS]
theorem ox_isub : OpX X (inplaceOp .Sub) (gII (fun _ _ => true) fun i j => i - j) := opx_int0 iop_sub
end
end VS

set_option Elab.async false
set_option linter.all false
set_option maxRecDepth 100000
set_option maxHeartbeats 4000000
/-! ### enumerate(tuple), enumerate(text) -/
namespace VSE2
open PySem PySem.Spec PyProof.Rows L2
/-- what stands under S at each turn, each item in a new pair -/
def IteG (S : Hp → List V → Prop) : It :=
  ⟨fun i H => ∃ (xs : List V) (x : V), S H xs ∧ xs[i]? = some x, fun i H v H' => ∃ T x, v = .ref T ∧ H T = none ∧ H' = upd H T (.tup [.int (i : Nat), x]) ∧ ∀ xs, S H xs → xs[i]? = some x, fun i H => ∃ xs : List V, S H xs ∧ xs.length = i⟩
theorem turn_enumG {P : Program} {w : World} {K : PySem.W.Frag} {elts : List Expr} {kk : Nat} {tpos : Pos} {S : Hp → List V → Prop} (e it : Addr) (IsIt : Nat → Heap → Prop)
    (hit0 : ∀ i h, IsIt i h → ∃ o, h.get? it = some o ∧ (∀ v, o.data ≠ .cell v) ∧ o.cls ≠ .type "enumerate") (hk0 : ∀ i h h', IsIt i h → (∀ o, h.get? it = some o → h'.get? it = some o) → IsIt i h')
    (src : ∀ (X : Cx), X.prog = P → X.w = w → X.K = K → X.calm = true → ∀ (pins : List (Addr × Obj)) (s : Shared) (σ : L2.St) (H : Hp) (xs : List V) (i : Nat), Inv X pins σ H s → S H xs → IsIt i s.heap → (∃ o, s.heap.get? e = some o ∧ o.cls = .type "enumerate") →
      ∃ (fp : List Addr) (Pv : Nat → Value → Prop) (Stt : Nat → Heap → Prop), Draws P w X.A.in1 it fp xs.length Pv Stt ∧ e ∉ fp ∧ (∀ j, Stt j s.heap → True) ∧ Stt i s.heap ∧ (∀ j h, Stt j h → IsIt j h) ∧ ∀ j v x, Pv j v → xs[j]? = some x → RelV x v)
    (inj : ∀ (X : Cx), X.K = K → ∀ (pins : List (Addr × Obj)) (s : Shared) (σ : L2.St) (H : Hp) (xs ys : List V), Inv X pins σ H s → S H xs → S H ys → xs = ys) :
    Turn P w K (.Tuple elts kk tpos) (IteG S) [e, it] e (fun i h => (∃ old, IsEnum h e it ((i : Nat) : Int) old) ∧ IsIt i h ∧ e ≠ it) where
  mem := by simp
  obj := fun i h st b hb => by
    obtain ⟨⟨old, he⟩, hi, _⟩ := st
    obtain ⟨o, ho, hd, _⟩ := hit0 i h hi
    have e' : b = e ∨ b = it := by simpa using hb
    rcases e' with z | z
    · rw [z]; exact ⟨_, he, fun v q => nomatch q⟩
    · rw [z]; exact ⟨o, ho, hd⟩
  keep := fun i h h' st k => let ⟨⟨old, he⟩, hi, hne⟩ := st; ⟨⟨old, k e (by simp) _ he⟩, hk0 i h h' hi fun o q => k it (by simp) o q, hne⟩
  item := by
    intro X hP hw hK hc i pins s σ H E I hf st hg
    obtain ⟨⟨old, he⟩, hit, hne⟩ := st
    obtain ⟨xs, x, hq, hx⟩ := hg
    obtain ⟨fp, Pv, Stt, D, hef, _, hst, hto, hrel⟩ := src X hP hw hK hc pins s σ H xs i I hq hit ⟨_, he, rfl⟩
    have hinj := inj X hK
    subst hP hw hK
    have hlt : i < xs.length := (List.getElem?_eq_some_iff.mp hx).1
    have hel : e < s.heap.objs.size := Heap.lt_size he
    have hil : it < s.heap.objs.size := by obtain ⟨_, q, _⟩ := hit0 i _ hit; exact Heap.lt_size q
    refine wpAny_pyNext_enum_itemD D he hst hlt hne hef fun u h' tk hu ho hst' hT hsz hk => ?_
    have ru : RelV x u := hrel i u x hu hx
    refine ⟨_, rfl, wpAny_letOwnedTupleGo_enum (s := { s with heap := h', toks := tk + 1 }) ho fun h'' he' sb => ?_⟩
    have hT2 : h''.get? s.heap.objs.size = some { cls := .type "tuple", data := .seq #[.int i tk, u] } := (sb.2 _ (Nat.ne_of_gt hel)).trans hT
    have new : ObjOk X.prog X.w (upd H s.heap.objs.size (.tup [.int (i : Nat), x])) h'' s.heap.objs.size (.tup [.int (i : Nat), x]) :=
      ⟨by show 2 ≤ sizeLine; decide, [.int i tk, u], .cons ⟨_, rfl⟩ (.cons ru .nil), ⟨_, hT2, rfl, _, rfl⟩⟩
    have I1 : Inv X pins σ (upd H s.heap.objs.size (.tup [.int (i : Nat), x])) { s with heap := h'', toks := tk + 1 } :=
      I.turnedNew (ch := [e, it]) (fun b ob hb q => (sb.2 b (fun z => hb (by simp [z]))).trans (hk b ob (fun z => hb (by simp [z])) (fun z => hb (by simp [z])) q)) hf (Nat.le_refl _) new
    refine ⟨.ref s.heap.objs.size, _, I1, rfl, ⟨_, x, rfl, I.hok.fresh (Nat.le_refl _), rfl, fun ys hy => by rw [hinj pins s σ H ys xs I hy hq]; exact hx⟩, ⟨⟨u, ?_⟩, hk0 _ _ _ (hto _ _ hst') fun o q => (sb.2 it (Ne.symm hne)).trans q, hne⟩, fun b hb => ?_⟩
    · have e1 : ((i + 1 : Nat) : Int) = (i : Int) + 1 := by omega
      rw [e1]; exact he'
    · have hb' : b < s.heap.objs.size := by
        have e' : b = e ∨ b = it := by simpa using hb
        rcases e' with z | z
        · rw [z]; exact hel
        · rw [z]; exact hil
      rw [upd_ne (Nat.ne_of_lt hb')]
      exact (hf b hb).1
  done := by
    intro X hP hw hK hc i pins s σ H E I hf st hg
    obtain ⟨⟨old, he⟩, hit, hne⟩ := st
    obtain ⟨xs, hq, rfl⟩ := hg
    obtain ⟨fp, Pv, Stt, D, hef, _, hst, hto, hrel⟩ := src X hP hw hK hc pins s σ H xs xs.length I hq hit ⟨_, he, rfl⟩
    subst hP hw hK
    obtain ⟨f0, f1, f2, f3, f4, f5⟩ := hf it (by simp)
    exact wpAny_pyNext_enum_endD D he hst fun h' eb => ⟨rfl, I.turned (t' := s.toks) (fun b o hb q => eb b o hb q) f0 f1 f3 f4 f5⟩
  self := fun A i s Q E st h => let ⟨⟨_, he⟩, _⟩ := st; wpAny_pyIter_enum he h
/-! the two kinds -/
theorem meets_enumerate_newT (l : Addr) (items : Array Value) (o : Obj) (hc : o.cls = .type "tuple") (n : Nat) (hd : o.data = .seq items n) :
    Meets (Builtin.«enumerate.__new__» ⟨[.type "enumerate", .ref l], []⟩) (fun _ R s => s.heap.get? l = some o ∧
      R (.ok (.ret (.ref (s.heap.push { cls := .type "tuple_iterator", data := .fields #[.ref l, .int 0 0] }).objs.size)))
        { s with heap := (s.heap.push { cls := .type "tuple_iterator", data := .fields #[.ref l, .int 0 0] }).push { cls := .type "enumerate", data := .fields #[.none, .bool false, .ref s.heap.objs.size, rawInt 0, .none, .none] } }) :=
  .of_wp fun prog w A R s h => by
    obtain ⟨hp, g, d, tk, os⟩ := s; obtain ⟨hl, h⟩ := h
    obtain ⟨ocls, odict, odata, oslots⟩ := o
    simp only at hc hd
    subst hc hd
    have hsub := sub_enumerate
    have hL : Heap.IsTuple (Shared.heap ⟨hp, g, d, tk, os⟩) l items := ⟨_, hl, rfl, n, rfl⟩
    wp_walk using AutoSeq1.wpAny_loadPart' hl
    refine wpAny_stack_any fun st => wpAny_pure ?_
    split
    · rename_i c _ _ _ _ _
      cases (c == Value.type "enumerate")
      · wp_walk using AutoSeq1.wpAny_loadPart' hl, wpAny_pyIter_tuple hL
        exact ⟨_, rfl, h⟩
      · wp_walk using AutoSeq1.wpAny_loadPart' hl, wpAny_pyIter_tuple hL
        exact ⟨_, rfl, h⟩
    · wp_walk using AutoSeq1.wpAny_loadPart' hl, wpAny_pyIter_tuple hL
      exact ⟨_, rfl, h⟩
section
variable {prog : Program} {w : World} {A : Around} {E : Value → Shared → Prop} {s : Shared}
theorem call_enumerate_tuple {l : Addr} {items : Array Value} {Q : Value → Shared → Prop} (hL : s.heap.IsTuple l items)
    (h : ∀ h', IsEnum h' (s.heap.objs.size + 1) s.heap.objs.size 0 .none → h'.IsTupleIter s.heap.objs.size l 0 → h'.objs.size = s.heap.objs.size + 2 →
      (∀ b o, s.heap.get? b = some o → h'.get? b = some o) → Q (.ref (s.heap.objs.size + 1)) { s with heap := h' }) :
    wpAny (model prog w) A (call (.type "enumerate") [.ref l]) Q E s := by
  obtain ⟨o, hl, hc, n, hd⟩ := hL
  refine callType_new F.called_enumerate (by decide) (F.typeCall_enumerate_1 _) (F.newCall_enumerate_1 _) (fun obj => F.args_object_init_2 obj _) F.entry_enumerate_new
    (meets_enumerate_newT l items o hc n hd) ⟨hl, ?_⟩
  have hz : (s.heap.push { cls := .type "tuple_iterator", data := .fields #[.ref l, .int 0 0] }).objs.size = s.heap.objs.size + 1 := Heap.size_push ..
  show _ ∧ _
  rw [hz]
  have he : IsEnum ((s.heap.push { cls := .type "tuple_iterator", data := .fields #[.ref l, .int 0 0] }).push
      { cls := .type "enumerate", data := .fields #[.none, .bool false, .ref s.heap.objs.size, rawInt 0, .none, .none] }) (s.heap.objs.size + 1) s.heap.objs.size 0 .none := by
    have := Heap.get?_push_size (s.heap.push { cls := .type "tuple_iterator", data := .fields #[.ref l, .int 0 0] })
      (o := { cls := .type "enumerate", data := .fields #[.none, .bool false, .ref s.heap.objs.size, rawInt 0, .none, .none] }) rfl
    rw [hz] at this; exact this
  refine ⟨⟨_, he, rfl⟩, h _ he ⟨_, Heap.get?_push_of_some _ (Heap.get?_push_size _ rfl), rfl, rfl⟩ (by rw [Heap.size_push, hz]) fun b o x => Heap.get?_push_of_some _ (Heap.get?_push_of_some _ x)⟩
end
def seqV (z : Str) : List V := z.cps.toList.map fun c => V.str ⟨#[c]⟩
theorem turn_enumT {P : Program} {w : World} {K : PySem.W.Frag} {elts : List Expr} {kk : Nat} {tpos : Pos} (a e it : Addr) :
    Turn P w K (.Tuple elts kk tpos) (IteG fun H xs => SqT K H a xs) [e, it] e (fun i h => (∃ old, IsEnum h e it ((i : Nat) : Int) old) ∧ h.IsTupleIter it a i ∧ e ≠ it) := by
  refine turn_enumG e it (fun i h => h.IsTupleIter it a i) (fun i h ⟨o, ho, hc, hd⟩ => ⟨o, ho, fun v q => (by rw [hd] at q; cases q), fun q => (by rw [hc] at q; injection q with q; exact absurd q (by decide))⟩)
    (fun i h h' ⟨o, ho, hc, hd⟩ k => ⟨o, k o ho, hc, hd⟩) (fun X hP hw hK hc pins s σ H xs i I hq hit he => ?_) fun X hK pins s σ H xs ys I h1 h2 => ?_
  · subst hP hw hK
    obtain ⟨its, rv, ⟨o, ho, hcl, n, hd⟩, hz⟩ := I.tuple hq
    obtain ⟨oi, hoi, hci, hdi⟩ := id hit
    obtain ⟨oe, hoe, hce⟩ := he
    have hne : a ≠ it := by
      rintro rfl
      rw [ho] at hoi
      rw [Option.some.inj hoi, hci] at hcl
      injection hcl with q
      exact absurd q (by decide)
    have hne2 : e ≠ it := by
      rintro rfl
      rw [hoe] at hoi
      rw [Option.some.inj hoi, hci] at hce
      injection hce with q
      exact absurd q (by decide)
    have hne3 : e ≠ a := by
      rintro rfl
      rw [hoe] at ho
      rw [Option.some.inj ho, hcl] at hce
      injection hce with q
      exact absurd q (by decide)
    have D := Draws.tuple (prog := X.prog) (w := X.w) (A := X.A.in1) (show X.A.handled = none from I.ok.hd hc) it a hne its.toArray
    have hsz : its.toArray.size = xs.length := by rw [List.size_toArray]; exact rv.length.symm
    rw [hsz] at D
    refine ⟨_, _, _, D, by simp [hne2, hne3], fun _ _ => trivial, ⟨hit, o, ho, hcl, n, hd⟩, fun j h st => st.1, fun j v x hv hx => ?_⟩
    obtain ⟨u, hu, ru⟩ := rv.get hx
    have hv' : its[j]? = some v := by simpa using hv
    rw [hu] at hv'
    cases hv'
    exact ru
  · exact I.tuple_inj (hK ▸ h1) (hK ▸ h2)
theorem turn_enumS {P : Program} {w : World} {K : PySem.W.Frag} {elts : List Expr} {kk : Nat} {tpos : Pos} (z : Str) (t : Tok) (e it : Addr) :
    Turn P w K (.Tuple elts kk tpos) (IteG fun _ xs => xs = seqV z) [e, it] e (fun i h => (∃ old, IsEnum h e it ((i : Nat) : Int) old) ∧ h.IsStrIter it (strIterType z) z t i ∧ e ≠ it) := by
  have hty : strIterType z = "str_ascii_iterator" ∨ strIterType z = "str_iterator" := by
    unfold strIterType
    split
    · exact .inl rfl
    · exact .inr rfl
  have hcl : ∀ c : Value, c = .type (strIterType z) → c ≠ .type "enumerate" := fun c hc q => by
    rw [hc] at q
    injection q with q
    rcases hty with h | h <;> (rw [h] at q; exact absurd q (by decide))
  refine turn_enumG e it (fun i h => h.IsStrIter it (strIterType z) z t i) (fun i h ⟨o, ho, hc, hd⟩ => ⟨o, ho, fun v q => (by rw [hd] at q; cases q), hcl _ hc⟩)
    (fun i h h' ⟨o, ho, hc, hd⟩ k => ⟨o, k o ho, hc, hd⟩) (fun X hP hw hK hc pins s σ H xs i I hq hit he => ?_) fun X hK pins s σ H xs ys I h1 h2 => h1.trans h2.symm
  subst hP hw hK hq
  obtain ⟨oi, hoi, hci, hdi⟩ := id hit
  obtain ⟨oe, hoe, hce⟩ := he
  have hne2 : e ≠ it := by
    rintro rfl
    rw [hoe] at hoi
    rw [Option.some.inj hoi] at hce
    exact hcl _ hci hce
  have D := Draws.text (prog := X.prog) (w := X.w) (A := X.A.in1) (show X.A.handled = none from I.ok.hd hc) it z t
  have hsz : z.cps.size = (seqV z).length := by simp [seqV]
  rw [hsz] at D
  refine ⟨_, _, _, D, by simp [hne2], fun _ _ => trivial, hit, fun j h st => st, fun j v x hv hx => ?_⟩
  obtain ⟨c, u, h1, rfl⟩ := hv
  unfold seqV at hx
  rw [List.getElem?_map, Array.getElem?_toList, h1] at hx
  cases hx
  exact ⟨u, rfl⟩
section
variable {X : Cx} {e : Expr} {ta : TA} {p pos tpos : Pos} {elts : List Expr} {kk : Nat}
def iEnumT (K : PySem.W.Frag) (ta : TA) : TI := fun σ H R => ta σ H fun vs H1 => (∃ a xs, vs = [.ref a] ∧ SqT K H1 a xs ∧ R (IteG fun H xs => SqT K H a xs) H1) ∨ ∃ z : Str, vs = [.str z] ∧ R (IteG fun _ xs => xs = seqV z) H1
theorem pi_enumT (hg : Gl X "enumerate") (hm : X.mg "enumerate" = none) (ha : PA X [e] ta) (hs : starEach [e] X.env = [(false, eval e X.env)] := by rfl) :
    PI X (.Tuple elts kk tpos) (.Call (.Name "enumerate" p) [e] [] pos) (iEnumT X.K ta) := by
  refine ⟨fun pins s σ H R I h => ?_⟩
  refine Call_ (ld_blt I hg hm boot_enumerate (PyProof.Rows.callWith_type1 (thn (ha.run pos pins s σ H _ I h) fun us s1 ⟨vs, H1, I1, r1, q1⟩ => ?_) hs rfl))
  have fpk : ∀ {h' : Heap} (I2 : Inv X pins σ H1 { s1 with heap := h' }), ∀ b ∈ [s1.heap.objs.size + 1, s1.heap.objs.size], FpOk X pins H1 b := fun I2 b hb => by
    have e' : b = s1.heap.objs.size + 1 ∨ b = s1.heap.objs.size := by simpa using hb
    have hle : s1.heap.objs.size ≤ b := by
      rcases e' with z | z
      · rw [z]; exact Nat.le_add_right _ _
      · rw [z]; exact Nat.le_refl _
    exact I1.fpOk hle (I1.hok.fresh hle)
  rcases q1 with ⟨a, xs, rfl, hq, q⟩ | ⟨z, rfl, q⟩
  · rw [Vals.ref1 r1]
    obtain ⟨its, rv, p', hz⟩ := I1.tuple hq
    refine call_enumerate_tuple (let ⟨o, a1, a2, a3⟩ := p'; ⟨o, a1, a2, a3⟩) fun h' he hit hsz hk => wpAny_pyIter_enum he ?_
    have I2 : Inv X pins σ H1 { s1 with heap := h' } := I1.kept (t' := s1.toks) hk
    exact ⟨s1.heap.objs.size + 1, [s1.heap.objs.size + 1, s1.heap.objs.size], _, _, H1, rfl, I2, turn_enumT a (s1.heap.objs.size + 1) s1.heap.objs.size, ⟨⟨.none, he⟩, hit, Nat.succ_ne_self _⟩, fpk I2, q⟩
  · obtain ⟨u, rfl, t, rfl⟩ := vals1 r1
    refine call_enumerate_str fun h' he hit hsz hk => wpAny_pyIter_enum he ?_
    have I2 : Inv X pins σ H1 { s1 with heap := h' } := I1.kept (t' := s1.toks) hk
    exact ⟨s1.heap.objs.size + 1, [s1.heap.objs.size + 1, s1.heap.objs.size], _, _, H1, rfl, I2, turn_enumS z t (s1.heap.objs.size + 1) s1.heap.objs.size, ⟨⟨.none, he⟩, hit, Nat.succ_ne_self _⟩, fpk I2, q⟩
end
end VSE2

set_option Elab.async false
set_option linter.all false
set_option maxRecDepth 100000
set_option maxHeartbeats 4000000
namespace VS
open PySem L2 PyProof.Rows RZ
variable [TabT]

/-! ### what a loop walks, as data -/
structure WalkD (K : PySem.W.Frag) (mg : Str → Option Value) (J : It) (F0 : Hp) (ds : List D) : Prop where
  goes : ∀ i H, i < ds.length → Same F0 H → J.go i H
  stops : ∀ H, Same F0 H → J.stop ds.length H
  yields : ∀ i H x H' F, i < ds.length → J.yld i H x H' → Same F0 F → Same F H → ∃ F' d, ds[i]? = some d ∧ Grow F H F' H' ∧ RD K mg F' d x
abbrev MI := VEnv → Option (List D × VEnv)
def tI (K : PySem.W.Frag) (mg : Str → Option Value) (m : MI) : TI := fun σ H R => ∃ ρ O Γ F ds Γ', Rep K mg ρ O Γ σ H F ∧ m Γ = some (ds, Γ') ∧
  ∀ J H' F', Stp K mg ρ O Γ' σ H F H' F' → Cells Γ Γ' → WalkD K mg J F' ds → R J H'
abbrev VI (X : Cx) (tg iter : Expr) (m : MI) : Prop := PI X tg iter (tI X.K X.mg m)
theorem pi_of {X : Cx} {tg iter : Expr} {t t' : TI} (h : PI X tg iter t) (f : ∀ σ H R, t' σ H R → t σ H R) : PI X tg iter t' := ⟨fun pins s σ H R I z => h.run pins s σ H R I (f σ H R z)⟩
theorem PI.or {X : Cx} {tg iter : Expr} {t t' : TI} (h : PI X tg iter t) (h' : PI X tg iter t') : PI X tg iter (fun σ H R => t σ H R ∨ t' σ H R) := ⟨fun pins s σ H R I z => z.elim (h.run pins s σ H R I) (h'.run pins s σ H R I)⟩
section
variable {K : PySem.W.Frag} {mg : Str → Option Value} {F H : Hp} {a b : Addr} {vs ws : List V} {ds es : List D}
theorem lt_of_get {α : Type} {l : List α} {i : Nat} {x : α} (h : l[i]? = some x) : i < l.length := (List.getElem?_eq_some_iff.mp h).1
theorem get_of_lt {α : Type} {l : List α} {i : Nat} (h : i < l.length) : ∃ x, l[i]? = some x := ⟨l[i], List.getElem?_eq_getElem h⟩
theorem wd_list (h1 : SqL K F a vs) (h2 : RDs K mg F ds vs) : WalkD K mg (Itl K a) F ds where
  goes := fun i H hi hs => by
    obtain ⟨x, hx⟩ := get_of_lt (show i < vs.length by rw [← h2.length]; exact hi)
    exact ⟨vs, x, hs.seq h1, hx⟩
  stops := fun H hs => ⟨vs, hs.seq h1, by rw [h2.length]; exact Nat.le_refl _⟩
  yields := fun i H x H' F' hi hy hf hs => by
    obtain ⟨rfl, hx⟩ := hy
    obtain ⟨d, hd⟩ := get_of_lt hi
    obtain ⟨v, e1, e2⟩ := h2.get hd
    have := hx vs ((hf.trans hs).seq h1)
    rw [e1] at this; cases this
    exact ⟨F', d, hd, Grow.refl hs, RD.mono hf _ _ e2⟩
theorem wd_tup (h1 : F a = some (.tup vs)) (h2 : RDs K mg F ds vs) : WalkD K mg (Itt K a) F ds where
  goes := fun i H hi hs => by
    obtain ⟨x, hx⟩ := get_of_lt (show i < vs.length by rw [← h2.length]; exact hi)
    exact ⟨vs, x, sqT_mono hs h1, hx⟩
  stops := fun H hs => ⟨vs, sqT_mono hs h1, by rw [h2.length]; exact Nat.le_refl _⟩
  yields := fun i H x H' F' hi hy hf hs => by
    obtain ⟨rfl, hx⟩ := hy
    obtain ⟨d, hd⟩ := get_of_lt hi
    obtain ⟨v, e1, e2⟩ := h2.get hd
    have := hx vs (sqT_mono (hf.trans hs) h1)
    rw [e1] at this; cases this
    exact ⟨F', d, hd, Grow.refl hs, RD.mono hf _ _ e2⟩
def rangeD (lo : Int) (n : Nat) : List D := (List.range n).map fun i => .int (lo + (i : Nat))
def rangeDC (lo c : Int) (n : Nat) : List D := (List.range n).map fun i => .int (lo + (i : Nat) * c)
theorem wd_range {lo : Int} {n : Nat} : WalkD K mg (Itr lo n) F (rangeD lo n) where
  goes := fun i H hi hs => show i < n by simpa [rangeD] using hi
  stops := fun H hs => by simp [rangeD, Itr]
  yields := fun i H x H' F' hi hy hf hs => by
    obtain ⟨rfl, rfl⟩ := hy
    have hi' : i < n := by simpa [rangeD] using hi
    exact ⟨F', .int (lo + (i : Nat)), by simp [rangeD, hi'], Grow.refl hs, by simp only [RD]⟩
theorem wd_rangeC {lo c : Int} {n : Nat} : WalkD K mg (Itc lo c n) F (rangeDC lo c n) where
  goes := fun i H hi hs => show i < n by simpa [rangeDC] using hi
  stops := fun H hs => by simp [rangeDC, Itc]
  yields := fun i H x H' F' hi hy hf hs => by
    obtain ⟨rfl, rfl⟩ := hy
    have hi' : i < n := by simpa [rangeDC] using hi
    exact ⟨F', .int (lo + (i : Nat) * c), by simp [rangeDC, hi'], Grow.refl hs, by simp only [RD]⟩
def signsD (s : List Nat) : List D := s.map fun c => .str [c]
theorem wd_str {s : List Nat} (ok : OkS s) : WalkD K mg (Its ⟨s.toArray⟩) F (signsD s) where
  goes := fun i H hi hs => by simpa [signsD, Its] using hi
  stops := fun H hs => by simp [signsD, Its]
  yields := fun i H x H' F' hi hy hf hs => by
    obtain ⟨rfl, c, hc, rfl⟩ := hy
    have hc' : s[i]? = some c := by simpa using hc
    refine ⟨F', .str [c], by simp [signsD, hc'], Grow.refl hs, ?_⟩
    simp only [RD]
    refine ⟨trivial, by show 1 ≤ sizeLine; decide, fun c' hc'' => ?_⟩
    have : c' = c := by simpa using hc''
    rw [this]
    exact ok.2 c (List.mem_of_getElem? hc')
/-- pairs, new ones -/
def enumD (ds : List D) : List D := ds.mapIdx fun i d => .tup [.int (i : Nat), d]
theorem enumD_get {i : Nat} {d : D} (h : ds[i]? = some d) : (enumD ds)[i]? = some (.tup [.int (i : Nat), d]) := by simp [enumD, h]
theorem enumD_len : (enumD ds).length = ds.length := by simp [enumD]
theorem pair_rd {F' : Hp} {T : Addr} {x y : V} {d e : D} (hs : Same F' H) (hT : H T = none) (h1 : RD K mg F' d x) (h2 : RD K mg F' e y) : ∃ F2, Grow F' H F2 (upd H T (.tup [x, y])) ∧ RD K mg F2 (.tup [d, e]) (.ref T) := by
  have g : Grow F' H (upd F' T (.tup [x, y])) (upd H T (.tup [x, y])) := grow_frz hs hT
  refine ⟨_, g, ?_⟩
  simp only [RD]
  exact ⟨T, [x, y], rfl, upd_same, by simp only [RDs]; exact ⟨x, [y], rfl, RD.mono g.fs _ _ h1, y, [], rfl, RD.mono g.fs _ _ h2, rfl⟩⟩
theorem wd_enum (h1 : SqL K F a vs) (h2 : RDs K mg F ds vs) : WalkD K mg (Ite K a) F (enumD ds) where
  goes := fun i H hi hs => by
    obtain ⟨x, hx⟩ := get_of_lt (show i < vs.length by rw [← h2.length, ← enumD_len]; exact hi)
    exact ⟨vs, x, hs.seq h1, hx⟩
  stops := fun H hs => ⟨vs, hs.seq h1, by rw [enumD_len, h2.length]; exact Nat.le_refl _⟩
  yields := fun i H x H' F' hi hy hf hs => by
    obtain ⟨T, y, rfl, hT, rfl, hx⟩ := hy
    obtain ⟨d, hd⟩ := get_of_lt (show i < ds.length by rw [← enumD_len]; exact hi)
    obtain ⟨v, e1, e2⟩ := h2.get hd
    have := hx vs ((hf.trans hs).seq h1)
    rw [e1] at this; cases this
    obtain ⟨F2, g, rd⟩ := pair_rd (K := K) (mg := mg) (x := .int (i : Nat)) (d := .int (i : Nat)) hs hT (by simp only [RD]) (RD.mono hf _ _ e2)
    exact ⟨F2, _, enumD_get hd, g, rd⟩
theorem wd_enumG {S : Hp → List V → Prop} (hm : ∀ H, Same F H → S H vs) (h2 : RDs K mg F ds vs) : WalkD K mg (VSE2.IteG S) F (enumD ds) where
  goes := fun i H hi hs => by
    rw [enumD_len] at hi
    obtain ⟨x, hx⟩ := get_of_lt (show i < vs.length by rw [← h2.length]; exact hi)
    exact ⟨vs, x, hm H hs, hx⟩
  stops := fun H hs => ⟨vs, hm H hs, by rw [enumD_len, h2.length]⟩
  yields := fun i H x H' F' hi hy hf hs => by
    rw [enumD_len] at hi
    obtain ⟨T, x, rfl, hT, rfl, hx⟩ := hy
    obtain ⟨d, hd⟩ := get_of_lt hi
    obtain ⟨v, e1, e2⟩ := h2.get hd
    have := hx vs (hm H (hf.trans hs))
    rw [e1] at this; cases this
    obtain ⟨F2, g, r⟩ := pair_rd (K := K) (mg := mg) (x := .int (i : Nat)) (d := .int (i : Nat)) hs hT (by simp only [RD]) (RD.mono hf _ _ e2)
    exact ⟨F2, _, enumD_get hd, g, r⟩
theorem rds_signs {s : List Nat} (ok : OkS s) : RDs K mg F (signsD s) (VSE2.seqV ⟨s.toArray⟩) := by
  unfold signsD VSE2.seqV
  simp only
  obtain ⟨hl, ok⟩ := ok
  clear hl
  induction s with
  | nil => simp only [List.map_nil, RDs]
  | cons c s ih =>
    simp only [List.map_cons, RDs]
    refine ⟨_, _, rfl, ?_, ih fun c' h => ok c' (List.mem_cons_of_mem _ h)⟩
    simp only [RD]
    refine ⟨trivial, by show 1 ≤ sizeLine; decide, fun c' h => ?_⟩
    rw [List.mem_singleton.mp h]
    exact ok c List.mem_cons_self
def zipD (ds es : List D) : List D := (ds.zip es).map fun p => .tup [p.1, p.2]
theorem wd_zipL (h1 : SqL K F a vs) (h2 : RDs K mg F ds vs) (g1 : SqL K F b ws) (g2 : RDs K mg F es ws) : WalkD K mg (Itz K a b) F (zipD ds es) where
  goes := fun i H hi hs => by
    have hl : i < ds.length ∧ i < es.length := by
      have : i < min ds.length es.length := by simpa [zipD] using hi
      omega
    obtain ⟨x, hx⟩ := get_of_lt (show i < vs.length by rw [← h2.length]; exact hl.1)
    obtain ⟨y, hy⟩ := get_of_lt (show i < ws.length by rw [← g2.length]; exact hl.2)
    exact ⟨vs, ws, x, y, hs.seq h1, hs.seq g1, hx, hy⟩
  stops := fun H hs => ⟨vs, ws, hs.seq h1, hs.seq g1, by simp only [zipD, List.length_map, List.length_zip, ← h2.length, ← g2.length]; omega⟩
  yields := fun i H x H' F' hi hy hf hs => by
    obtain ⟨T, x1, y1, rfl, hT, rfl, hx, hy⟩ := hy
    have hl : i < ds.length ∧ i < es.length := by
      have : i < min ds.length es.length := by simpa [zipD] using hi
      omega
    obtain ⟨d, hd⟩ := get_of_lt hl.1
    obtain ⟨e, he⟩ := get_of_lt hl.2
    obtain ⟨v, e1, e2⟩ := h2.get hd
    obtain ⟨w, e3, e4⟩ := g2.get he
    have q1 := hx vs ((hf.trans hs).seq h1)
    have q2 := hy ws ((hf.trans hs).seq g1)
    rw [e1] at q1; cases q1
    rw [e3] at q2; cases q2
    obtain ⟨F2, g, rd⟩ := pair_rd (K := K) (mg := mg) hs hT (RD.mono hf _ _ e2) (RD.mono hf _ _ e4)
    exact ⟨F2, .tup [d, e], by simp only [zipD, List.getElem?_map, List.getElem?_zip_eq_some (z := (d, e)) |>.mpr ⟨hd, he⟩, Option.map_some], g, rd⟩
theorem wd_zipT (h1 : F a = some (.tup vs)) (h2 : RDs K mg F ds vs) (g1 : F b = some (.tup ws)) (g2 : RDs K mg F es ws) : WalkD K mg (ItzT K a b) F (zipD ds es) where
  goes := fun i H hi hs => by
    have hl : i < ds.length ∧ i < es.length := by
      have : i < min ds.length es.length := by simpa [zipD] using hi
      omega
    obtain ⟨x, hx⟩ := get_of_lt (show i < vs.length by rw [← h2.length]; exact hl.1)
    obtain ⟨y, hy⟩ := get_of_lt (show i < ws.length by rw [← g2.length]; exact hl.2)
    exact ⟨vs, ws, x, y, sqT_mono hs h1, sqT_mono hs g1, hx, hy⟩
  stops := fun H hs => ⟨vs, ws, sqT_mono hs h1, sqT_mono hs g1, by simp only [zipD, List.length_map, List.length_zip, ← h2.length, ← g2.length]; omega⟩
  yields := fun i H x H' F' hi hy hf hs => by
    obtain ⟨T, x1, y1, rfl, hT, rfl, hx, hy⟩ := hy
    have hl : i < ds.length ∧ i < es.length := by
      have : i < min ds.length es.length := by simpa [zipD] using hi
      omega
    obtain ⟨d, hd⟩ := get_of_lt hl.1
    obtain ⟨e, he⟩ := get_of_lt hl.2
    obtain ⟨v, e1, e2⟩ := h2.get hd
    obtain ⟨w, e3, e4⟩ := g2.get he
    have q1 := hx vs (sqT_mono (hf.trans hs) h1)
    have q2 := hy ws (sqT_mono (hf.trans hs) g1)
    rw [e1] at q1; cases q1
    rw [e3] at q2; cases q2
    obtain ⟨F2, g, rd⟩ := pair_rd (K := K) (mg := mg) hs hT (RD.mono hf _ _ e2) (RD.mono hf _ _ e4)
    exact ⟨F2, .tup [d, e], by simp only [zipD, List.getElem?_map, List.getElem?_zip_eq_some (z := (d, e)) |>.mpr ⟨hd, he⟩, Option.map_some], g, rd⟩
end
/-! ### the iterables -/
def miSeq (m : M) : MI := fun Γ => (m Γ).bind fun p => (freeze p.1 p.2).bind fun q => match q.1 with
  | .lst xs => some (xs, q.2)
  | .tup xs => some (xs, q.2)
  | .str s => some (signsD s, q.2)
  | _ => none
def okR (i : Int) : Bool := decide (i.natAbs / 4611686018427387904 = 0)
def miR1 (ml : ML) : MI := fun Γ => (ml Γ).bind fun p => match p.1 with
  | [.val (.int j)] => if okR j = true then some (rangeD 0 j.toNat, p.2) else none
  | _ => none
def miR2 (ml : ML) : MI := fun Γ => (ml Γ).bind fun p => match p.1 with
  | [.val (.int i), .val (.int j)] => if okR i = true ∧ okR j = true then some (rangeD i (j - i).toNat, p.2) else none
  | _ => none
def miR3 (ml : ML) : MI := fun Γ => (ml Γ).bind fun p => match p.1 with
  | [.val (.int i), .val (.int j), .val (.int c)] => if c = -1 ∧ okR i = true ∧ okR j = true then some (rangeDC i (-1) (i - j).toNat, p.2) else none
  | _ => none
def miEnum (ml : ML) : MI := fun Γ => (ml Γ).bind fun p => (freezeL p.1 p.2).bind fun q => match q.1 with
  | [.lst xs] => some (enumD xs, q.2)
  | [.tup xs] => some (enumD xs, q.2)
  | [.str s] => some (enumD (signsD s), q.2)
  | _ => none
def miZip (ml : ML) : MI := fun Γ => (ml Γ).bind fun p => (freezeL p.1 p.2).bind fun q => match q.1 with
  | [.lst xs, .lst ys] => some (zipD xs ys, q.2)
  | [.tup xs, .tup ys] => some (zipD xs ys, q.2)
  | _ => none
section
variable {X : Cx} {e tg : Expr} {es : List Expr} {m : M} {ml : ML} {p pos : Pos}
theorem vi_seq (he : VE X e m) : VI X tg e (miSeq m) := by
  refine pi_of (PI.or (pi_list he) (PI.or (pi_tup he) (pi_str he))) fun σ H R h => ?_
  obtain ⟨ρ, O, Γ, F, ds, Γ', Rp, e, k⟩ := h
  obtain ⟨⟨r, Γ1⟩, e1, e⟩ := obind e
  obtain ⟨⟨d, Γ2⟩, e2, e⟩ := obind e
  cases d with
  | lst xs =>
    cases e
    refine .inl (tV_run Rp e1 fun v H1 F1 s1 c1 r1 => ?_)
    obtain ⟨F2, R2, s2, rd, c2⟩ := freeze_ok s1.rep r1 e2
    simp only [RD] at rd
    obtain ⟨a, vs, rfl, h1, h2⟩ := rd
    exact ⟨a, rfl, ⟨vs, R2.le.seq h1⟩, k _ H1 F2 ⟨R2, s1.fs.trans s2, s1.op⟩ (c1.trans c2) (wd_list h1 h2)⟩
  | tup xs =>
    cases e
    refine .inr (.inl (tV_run Rp e1 fun v H1 F1 s1 c1 r1 => ?_))
    obtain ⟨F2, R2, s2, rd, c2⟩ := freeze_ok s1.rep r1 e2
    simp only [RD] at rd
    obtain ⟨a, vs, rfl, h1, h2⟩ := rd
    exact ⟨a, rfl, ⟨vs, sqT_mono R2.le h1⟩, k _ H1 F2 ⟨R2, s1.fs.trans s2, s1.op⟩ (c1.trans c2) (wd_tup h1 h2)⟩
  | str s =>
    cases e
    refine .inr (.inr (tV_run Rp e1 fun v H1 F1 s1 c1 r1 => ?_))
    obtain ⟨F2, R2, s2, rd, c2⟩ := freeze_ok s1.rep r1 e2
    simp only [RD] at rd
    obtain ⟨rfl, ok⟩ := rd
    exact ⟨_, rfl, k _ H1 F2 ⟨R2, s1.fs.trans s2, s1.op⟩ (c1.trans c2) (wd_str ok)⟩
  | _ => cases e
theorem okR_of {i : Int} (h : okR i = true) : -(2 ^ 62) ≤ i ∧ i < 2 ^ 62 := by
  simp only [okR, decide_eq_true_eq] at h
  rw [Nat.div_eq_zero_iff] at h
  have h3 : i.natAbs < 4611686018427387904 := by
    rcases h with h | h
    · cases h
    · exact h
  have e : (2 ^ 62 : Int) = 4611686018427387904 := by decide
  rw [e]
  omega
theorem repL_int1 {K : PySem.W.Frag} {mg : Str → Option Value} {ρ : List Addr} {O : Addr → Prop} {Γ : VEnv} {σ : L2.St} {H F : Hp} {i : Int} {rs : List EV} {vs : List V} (h : RepL K mg ρ Γ σ H F O (.val (.int i) :: rs) vs) : ∃ ws O', vs = .int i :: ws ∧ RepL K mg ρ Γ σ H F O' rs ws := by
  simp only [RepL, RepEV, RD] at h
  obtain ⟨v, ws, rfl, rfl, h⟩ := h
  exact ⟨ws, _, rfl, h⟩
theorem vi_range1 {a : Expr} (hm : X.mg "range" = none) (ha : VA X [a] ml) (hg : Gl X "range" := by rfl) (hs : starEach [a] X.env = [(false, eval a X.env)] := by rfl) : VI X tg (.Call (.Name "range" p) [a] [] pos) (miR1 ml) := by
  refine pi_of (pi_range1 hg hm ha hs) fun σ H R h => ?_
  obtain ⟨ρ, O, Γ, F, ds, Γ', Rp, e, k⟩ := h
  obtain ⟨⟨rs, Γ1⟩, e1, e⟩ := obind e
  refine tL_run Rp e1 fun vs H1 F1 s1 c1 r1 => ?_
  split at e
  · rename_i j hj
    simp only at hj
    subst hj
    split at e
    · rename_i hok
      cases e
      obtain ⟨ws, O', rfl, h⟩ := repL_int1 r1
      simp only [RepL] at h
      subst h
      exact ⟨j, rfl, (okR_of hok).1, (okR_of hok).2, k _ H1 F1 s1 c1 wd_range⟩
    · cases e
  · cases e
theorem vi_range2 {a b : Expr} (hm : X.mg "range" = none) (ha : VA X [a, b] ml) (hg : Gl X "range" := by rfl) (hs : starEach [a, b] X.env = [(false, eval a X.env), (false, eval b X.env)] := by rfl) (hs2 : starEach [b] X.env = [(false, eval b X.env)] := by rfl) : VI X tg (.Call (.Name "range" p) [a, b] [] pos) (miR2 ml) := by
  refine pi_of (pi_range2 hg hm ha hs hs2) fun σ H R h => ?_
  obtain ⟨ρ, O, Γ, F, ds, Γ', Rp, e, k⟩ := h
  obtain ⟨⟨rs, Γ1⟩, e1, e⟩ := obind e
  refine tL_run Rp e1 fun vs H1 F1 s1 c1 r1 => ?_
  split at e
  · rename_i i j hj
    simp only at hj
    subst hj
    split at e
    · rename_i hok
      cases e
      obtain ⟨ws, O', rfl, h⟩ := repL_int1 r1
      obtain ⟨ws2, O2', rfl, h2⟩ := repL_int1 h
      simp only [RepL] at h2
      subst h2
      exact ⟨i, j, rfl, ⟨(okR_of hok.1).1, (okR_of hok.1).2, (okR_of hok.2).1, (okR_of hok.2).2⟩, k _ H1 F1 s1 c1 wd_range⟩
    · cases e
  · cases e
theorem vi_range3 {a b c : Expr} (hm : X.mg "range" = none) (ha : VA X [a, b, c] ml) (hg : Gl X "range" := by rfl) (hs : starEach [a, b, c] X.env = (false, eval a X.env) :: starEach [b, c] X.env := by rfl) (hpl : (backTo pos (starEach [b, c] X.env)).any (·.1) = false := by rfl) : VI X tg (.Call (.Name "range" p) [a, b, c] [] pos) (miR3 ml) := by
  refine pi_of (pi_range3 hg hm ha hs hpl) fun σ H R h => ?_
  obtain ⟨ρ, O, Γ, F, ds, Γ', Rp, e, k⟩ := h
  obtain ⟨⟨rs, Γ1⟩, e1, e⟩ := obind e
  refine tL_run Rp e1 fun vs H1 F1 s1 c1 r1 => ?_
  split at e
  · rename_i i j c hj
    simp only at hj
    subst hj
    split at e
    · rename_i hok
      obtain ⟨rfl, hok⟩ := hok
      cases e
      obtain ⟨ws, O', rfl, h⟩ := repL_int1 r1
      obtain ⟨ws2, O2', rfl, h2⟩ := repL_int1 h
      obtain ⟨ws3, O3', rfl, h3⟩ := repL_int1 h2
      simp only [RepL] at h3
      subst h3
      exact ⟨i, j, -1, _, rfl, RgC.neg (okR_of hok.1).1 (okR_of hok.1).2 (okR_of hok.2).1 (okR_of hok.2).2, k _ H1 F1 s1 c1 wd_rangeC⟩
    · cases e
  · cases e
theorem vi_enum {elts : List Expr} {kk : Nat} {tpos : Pos} (hm : X.mg "enumerate" = none) (ha : VA X [e] ml) (hg : Gl X "enumerate" := by rfl) (hs : starEach [e] X.env = [(false, eval e X.env)] := by rfl) : VI X (.Tuple elts kk tpos) (.Call (.Name "enumerate" p) [e] [] pos) (miEnum ml) := by
  refine pi_of (PI.or (pi_enum hg hm ha hs) (VSE2.pi_enumT hg hm ha hs)) fun σ H R h => ?_
  obtain ⟨ρ, O, Γ, F, ds, Γ', Rp, e, k⟩ := h
  obtain ⟨⟨rs, Γ1⟩, e1, e⟩ := obind e
  obtain ⟨⟨fs, Γ2⟩, e2, e⟩ := obind e
  split at e
  · rename_i xs hj
    simp only at hj
    subst hj
    cases e
    refine .inl (tL_run Rp e1 fun vs H1 F1 s1 c1 r1 => ?_)
    obtain ⟨F2, R2, s2, rd, c2⟩ := freezeL_ok s1.rep r1 e2
    simp only [RDs, RD] at rd
    obtain ⟨v, r, rfl, ⟨a, ws, rfl, h1, h2⟩, rfl⟩ := rd
    exact ⟨a, ws, rfl, R2.le.seq h1, k _ H1 F2 ⟨R2, s1.fs.trans s2, s1.op⟩ (c1.trans c2) (wd_enum h1 h2)⟩
  · rename_i xs hj
    simp only at hj
    subst hj
    cases e
    refine .inr (tL_run Rp e1 fun vs H1 F1 s1 c1 r1 => ?_)
    obtain ⟨F2, R2, s2, rd, c2⟩ := freezeL_ok s1.rep r1 e2
    simp only [RDs, RD] at rd
    obtain ⟨v, r, rfl, ⟨a, ws, rfl, h1, h2⟩, rfl⟩ := rd
    exact .inl ⟨a, ws, rfl, sqT_mono R2.le h1, k _ H1 F2 ⟨R2, s1.fs.trans s2, s1.op⟩ (c1.trans c2) (wd_enumG (fun H hs => sqT_mono hs h1) h2)⟩
  · rename_i xs hj
    simp only at hj
    subst hj
    cases e
    refine .inr (tL_run Rp e1 fun vs H1 F1 s1 c1 r1 => ?_)
    obtain ⟨F2, R2, s2, rd, c2⟩ := freezeL_ok s1.rep r1 e2
    simp only [RDs, RD] at rd
    obtain ⟨v, r, rfl, ⟨rfl, ok⟩, rfl⟩ := rd
    exact .inr ⟨_, rfl, k _ H1 F2 ⟨R2, s1.fs.trans s2, s1.op⟩ (c1.trans c2) (wd_enumG (fun H hs => rfl) (rds_signs ok))⟩
  · cases e
theorem vi_zip {e2 : Expr} {elts : List Expr} {kk : Nat} {tpos : Pos} (hm : X.mg "zip" = none) (ha : VA X [e, e2] ml) (hg : Gl X "zip" := by rfl) (hs : starEach [e, e2] X.env = (false, eval e X.env) :: starEach [e2] X.env := by rfl) (hpl : (backTo pos (starEach [e2] X.env)).any (·.1) = false := by rfl) :
    VI X (.Tuple elts kk tpos) (.Call (.Name "zip" p) [e, e2] [] pos) (miZip ml) := by
  refine pi_of (pi_zipA hg hm ha hs hpl) fun σ H R h => ?_
  obtain ⟨ρ, O, Γ, F, ds, Γ', Rp, e, k⟩ := h
  obtain ⟨⟨rs, Γ1⟩, e1, e⟩ := obind e
  obtain ⟨⟨fs, Γ2⟩, e2, e⟩ := obind e
  refine tL_run Rp e1 fun vs H1 F1 s1 c1 r1 => ?_
  obtain ⟨F2, R2, s2, rd, c2⟩ := freezeL_ok s1.rep r1 e2
  split at e
  · rename_i xs ys hj
    simp only at hj
    subst hj
    cases e
    simp only [RDs, RD] at rd
    obtain ⟨v, r, rfl, ⟨a, ws, rfl, h1, h2⟩, u, q, rfl, ⟨b, us, rfl, h3, h4⟩, rfl⟩ := rd
    exact ⟨a, b, ws, us, rfl, .inl ⟨R2.le.seq h1, R2.le.seq h3, k _ H1 F2 ⟨R2, s1.fs.trans s2, s1.op⟩ (c1.trans c2) (wd_zipL h1 h2 h3 h4)⟩⟩
  · rename_i xs ys hj
    simp only at hj
    subst hj
    cases e
    simp only [RDs, RD] at rd
    obtain ⟨v, r, rfl, ⟨a, ws, rfl, h1, h2⟩, u, q, rfl, ⟨b, us, rfl, h3, h4⟩, rfl⟩ := rd
    exact ⟨a, b, ws, us, rfl, .inr ⟨sqT_mono R2.le h1, sqT_mono R2.le h3, k _ H1 F2 ⟨R2, s1.fs.trans s2, s1.op⟩ (c1.trans c2) (wd_zipT h1 h2 h3 h4)⟩⟩
  · cases e
end
/-! ### for, while -/
def forD (g : MG) (body : MS) : List D → VEnv → Option (Fl × VEnv)
  | [], Γ => some (.nx, Γ)
  | d :: ds, Γ => (g (.val d) Γ).bind fun Γ1 => (body Γ1).bind fun p => match p.1 with
    | .nx => forD g body ds p.2
    | .cont => forD g body ds p.2
    | .brk => some (.nx, p.2)
    | .ret r => some (.ret r, p.2)
    | .exc x => some (.exc x, p.2)
def mFor (mi : MI) (g : MG) (body : MS) : MS := fun Γ => (mi Γ).bind fun p => forD g body p.1 p.2
def whileD (t : MB) (body : MS) : Nat → VEnv → Option (Fl × VEnv)
  | 0, _ => none
  | n + 1, Γ => (t Γ).bind fun p => if p.1 = true then (body p.2).bind fun q => match q.1 with
      | .nx => whileD t body n q.2
      | .cont => whileD t body n q.2
      | .brk => some (.nx, q.2)
      | .ret r => some (.ret r, q.2)
      | .exc x => some (.exc x, q.2) else some (.nx, p.2)
def mWhile (n : Nat) (t : MB) (body : MS) : MS := whileD t body n
section
variable {X : Cx} {tg iter : Expr} {body : List Stmt} {mi : MI} {g : MG} {ws : List Nat} {mb : MS} {pos : Pos}
theorem vs_for (hp : PassesOwn (model X.prog X.w) X.A X.env X.xe) (hc : X.calm = true) (hi : VI X tg iter mi) (hg : VG X tg ws g) (hb : VSs X body mb)
    (hs : ∀ x, foldedSetIterable iter X.env x = pure x := by intro _; rfl) : VSt X (.For tg iter body [] pos) (mFor mi g mb) := by
  intro W tk
  refine ps_of (ps_for hp hc hi hg (hb W tk) hs) fun D σ H h => ?_
  obtain ⟨ρ, O, Γ, F, fl, Γ', R, e, k⟩ := h
  obtain ⟨⟨ds, Γ1⟩, e1, e⟩ := obind e
  refine ⟨ρ, O, Γ, F, ds, Γ1, R, e1, fun J H1 F1 s1 c1 w => ?_⟩
  refine ⟨fun i m σ' H' => m = ds.length - i ∧ i ≤ ds.length ∧ ∃ Γi Fi, Stp X.K X.mg ρ O Γi σ' H F H' Fi ∧ Same F1 Fi ∧ forD g mb (ds.drop i) Γi = some (fl, Γ'), ⟨_, rfl, Nat.zero_le _, Γ1, F1, s1, Same.refl _, by simpa using e⟩, fun i m σ' H' hW => ?_⟩
  obtain ⟨rfl, hi, Γi, Fi, si, hf, ei⟩ := hW
  have hsame : Same F1 H' := hf.trans si.rep.le
  by_cases hlt : i < ds.length
  · refine .inr ⟨w.goes i H' hlt hsame, fun σ2 H2 => ∃ Γ2 F2, Stp X.K X.mg ρ O Γ2 σ2 H F H2 F2 ∧ Same F1 F2 ∧ forD g mb (ds.drop (i + 1)) Γ2 = some (fl, Γ'), fun σ2 H2 hN => ?_, fun x H2 hy => ?_⟩
    · obtain ⟨Γ2, F2, h1, h2, h3⟩ := hN
      exact ⟨ds.length - (i + 1), by omega, rfl, by omega, Γ2, F2, h1, h2, h3⟩
    · obtain ⟨F2, d, hd, gr, rd⟩ := w.yields i H' x H2 Fi hlt hy hf si.rep.le
      have edrop : ds.drop i = d :: ds.drop (i + 1) := by
        rw [List.drop_eq_getElem_cons hlt]
        congr 1
        rw [List.getElem?_eq_getElem hlt] at hd
        exact Option.some.inj hd
      rw [edrop] at ei
      simp only [forD] at ei
      obtain ⟨Γ2, e2, ei⟩ := obind ei
      obtain ⟨⟨f3, Γ3⟩, e3, ei⟩ := obind ei
      have s2 := si.trans (Stp.grow si.rep gr)
      refine tG_run (r := .val d) s2.rep rd e2 fun σ3 H3 F3 s3 _ => ?_
      have s23 := s2.trans s3
      refine tS_run s23.rep e3 ?_
      have hf3 : Same F1 F3 := (hf.trans gr.fs).trans s3.fs
      cases f3 with
      | nx => exact fun σ4 H4 F4 s4 => ⟨Γ3, F4, s23.trans s4, hf3.trans s4.fs, ei⟩
      | cont => exact fun σ4 H4 F4 s4 => ⟨Γ3, F4, s23.trans s4, hf3.trans s4.fs, ei⟩
      | brk => cases ei; exact fun σ4 H4 F4 s4 => k σ4 H4 F4 (s23.trans s4)
      | ret r => cases ei; exact fun v σ4 H4 F4 s4 hr => k v σ4 H4 F4 (s23.trans s4) hr
      | exc x => cases ei; exact fun C σ4 H4 F4 hm s4 => k C σ4 H4 F4 hm (s23.trans s4)
  · have hi' : i = ds.length := by omega
    subst hi'
    refine .inl ⟨w.stops H' hsame, ?_⟩
    rw [List.drop_length] at ei
    cases ei
    exact k σ' H' Fi si
theorem vs_while {c : Expr} {t : MB} (n : Nat) (hp : PassesOwn (model X.prog X.w) X.A X.env X.xe) (hc : VT X c t) (hb : VSs X body mb) : VSt X (.While c body [] pos) (mWhile n t mb) := by
  intro W tk
  refine ps_of (ps_while hp hc (hb W tk)) fun D σ H h => ?_
  obtain ⟨ρ, O, Γ, F, fl, Γ', R, e, k⟩ := h
  refine ⟨fun m σ' H' => ∃ Γi Fi, Stp X.K X.mg ρ O Γi σ' H F H' Fi ∧ whileD t mb m Γi = some (fl, Γ'), ⟨n, Γ, F, Stp.refl R, e⟩, fun m σ' H' hW => ?_⟩
  obtain ⟨Γi, Fi, si, ei⟩ := hW
  cases m with
  | zero => cases ei
  | succ m =>
    simp only [whileD] at ei
    obtain ⟨⟨b1, Γ1⟩, e1, ei⟩ := obind ei
    refine tB_run si.rep e1 fun H1 F1 s1 c1 => ?_
    have s01 := si.trans s1
    cases b1 with
    | false =>
      refine iteF ?_
      cases ei
      exact k σ' H1 F1 s01
    | true =>
      refine iteT ⟨fun σ2 H2 => ∃ Γ2 F2, Stp X.K X.mg ρ O Γ2 σ2 H F H2 F2 ∧ whileD t mb m Γ2 = some (fl, Γ'), fun σ2 H2 hN => ⟨m, by omega, hN⟩, ?_⟩
      obtain ⟨⟨f3, Γ3⟩, e3, ei⟩ := obind ei
      refine tS_run s01.rep e3 ?_
      cases f3 with
      | nx => exact fun σ4 H4 F4 s4 => ⟨Γ3, F4, s01.trans s4, ei⟩
      | cont => exact fun σ4 H4 F4 s4 => ⟨Γ3, F4, s01.trans s4, ei⟩
      | brk => cases ei; exact fun σ4 H4 F4 s4 => k σ4 H4 F4 (s01.trans s4)
      | ret r => cases ei; exact fun v σ4 H4 F4 s4 hr => k v σ4 H4 F4 (s01.trans s4) hr
      | exc x => cases ei; exact fun C σ4 H4 F4 hm s4 => k C σ4 H4 F4 hm (s01.trans s4)
end
end VS

set_option Elab.async false
set_option linter.all false
set_option maxRecDepth 100000
set_option maxHeartbeats 4000000
namespace VS
open PySem L2 PyProof.Rows
variable [TabT]

/-! ### list comprehensions -/
def wipeE (Γ : VEnv) : List Nat → VEnv
  | [] => Γ
  | v :: vs => setCell (wipeE Γ vs) v .un
/-- the slots vs as they were ahead of the comprehension -/
def backE (Γ Γe : VEnv) : List Nat → VEnv
  | [] => Γe
  | v :: vs => match Γ.sl[v]? with
    | some c => setCell (backE Γ Γe vs) v c
    | none => backE Γ Γe vs
def okW (Γ : VEnv) (vs : List Nat) : Bool := vs.all fun i => match Γ.sl[i]? with
  | some (.own _) => false
  | _ => true
def lcD (vs : List Nat) (g : MG) (tt : MB) (m : M) : List D → List D → VEnv → Option (List D × VEnv)
  | [], acc, Γ => some (acc, Γ)
  | d :: ds, acc, Γ => (g (.val d) Γ).bind fun Γ1 => (tt Γ1).bind fun p => if p.1 = true then
      (m p.2).bind fun q => (freeze q.1 q.2).bind fun z => if acc.length < sizeLine then lcD vs g tt m ds (acc ++ [z.1]) (wipeE z.2 vs) else none
    else lcD vs g tt m ds acc (wipeE p.2 vs)
def mLc (vs : List Nat) (mi : MI) (g : MG) (tt : MB) (m : M) : M := fun Γ => (mi Γ).bind fun p => if okW p.2 vs = true then
  (lcD vs g tt m p.1 [] (wipeE p.2 vs)).map fun q => (.fresh (.lst q.1), backE p.2 q.2 vs) else none
def mYes : MB := fun Γ => some (true, Γ)
section
variable {K : PySem.W.Frag} {mg : Str → Option Value} {ρ : List Addr} {O O' : Addr → Prop} {Γ Γ' Γ1 Γe : VEnv} {σ σ' : L2.St} {H F H' F' H1 F1 : Hp} {a : Addr} {d : D} {vs : List Nat}
theorem Rep.wiped (R : Rep K mg ρ O Γ σ H F) : ∀ vs : List Nat, Rep K mg ρ O (wipeE Γ vs) (wipe σ vs) H F
  | [] => R
  | v :: vs => (Rep.wiped R vs).setCell (c := .un) (x := none) trivial
theorem wipeE_len : ∀ vs : List Nat, (wipeE Γ vs).sl.length = Γ.sl.length
  | [] => rfl
  | v :: vs => by simp [wipeE, setCell, wipeE_len vs]
theorem backE_st : ∀ vs : List Nat, (backE Γ Γe vs).st = Γe.st
  | [] => rfl
  | v :: vs => by
    simp only [backE]
    split
    · exact backE_st vs
    · exact backE_st vs
theorem backE_len : ∀ vs : List Nat, (backE Γ Γe vs).sl.length = Γe.sl.length
  | [] => rfl
  | v :: vs => by
    simp only [backE]
    split
    · simp [setCell, backE_len vs]
    · exact backE_len vs
theorem backE_at {i : Nat} (hl : Γ.sl.length = Γe.sl.length) : ∀ vs : List Nat, (backE Γ Γe vs).sl[i]? = if i ∈ vs then Γ.sl[i]? else Γe.sl[i]?
  | [] => by simp [backE]
  | v :: vs => by
    simp only [backE]
    have ih := backE_at (i := i) hl vs
    cases q : Γ.sl[v]? with
    | none =>
      simp only
      rw [ih]
      by_cases e : i = v
      · subst e
        have h1 : Γ.sl.length ≤ i := List.getElem?_eq_none_iff.mp q
        by_cases e2 : i ∈ vs
        · simp [e2]
        · simp only [e2, if_false, List.mem_cons_self, if_true, q]
          exact List.getElem?_eq_none_iff.mpr (by omega)
      · simp [e]
    | some c =>
      simp only [setCell]
      by_cases e : i = v
      · subst e
        have h1 := lt_of_get q
        rw [List.getElem?_set_self (by rw [backE_len]; omega)]
        simp [q]
      · rw [List.getElem?_set_ne (Ne.symm e), ih]
        simp [e]
/-- behind the comprehension the slots are as they were -/
theorem Rep.back (R : Rep K mg ρ O Γ σ H F) (R' : Rep K mg ρ O Γe (wipe σ vs) H' F') (hf : Same F F') (ok : okW Γ vs = true) : Rep K mg ρ O (backE Γ Γe vs) σ H' F' := by
  have hl : Γ.sl.length = Γe.sl.length := by
    have a := R.len
    have b := R'.len
    rw [wipe_length] at b
    omega
  have out : ∀ {i : Nat}, i ∉ vs → (wipe σ vs)[i]? = σ[i]? := fun h => wipe_out h
  have noown : ∀ {i : Nat} {d : D}, i ∈ vs → Γ.sl[i]? ≠ some (Cell.own d) := fun {i d} h z => by
    have := List.all_eq_true.mp ok i h
    rw [z] at this
    simp at this
  have loc : ∀ l b, LocAt ρ (backE Γ Γe vs) σ l b → LocAt ρ Γe (wipe σ vs) l b := by
    intro l b h
    cases l with
    | inl i =>
      obtain ⟨⟨d, e⟩, h1⟩ := h
      rw [backE_at hl] at e
      by_cases hi : i ∈ vs
      · rw [if_pos hi] at e; exact absurd e (noown hi)
      · rw [if_neg hi] at e; exact ⟨⟨d, e⟩, by rw [out hi]; exact h1⟩
    | inr k => obtain ⟨⟨d, e⟩, h1⟩ := h; rw [backE_st] at e; exact ⟨⟨d, e⟩, h1⟩
  refine ⟨R'.le, by rw [backE_len, ← hl]; exact R.len, fun i d e => ?_, fun i d e => ?_, fun i k e => ?_, by rw [backE_st]; exact R'.plen, fun k d e => ?_, fun k d e => ?_, fun l l' b h1 h2 => R'.inj l l' b (loc l b h1) (loc l' b h2), fun b hb => ?_, R'.tb, R'.nt, R'.pt⟩
  · rw [backE_at hl] at e
    by_cases hi : i ∈ vs
    · rw [if_pos hi] at e
      obtain ⟨v, h1, h2⟩ := R.vl i d e
      exact ⟨v, h1, RD.mono hf _ _ h2⟩
    · rw [if_neg hi] at e
      obtain ⟨v, h1, h2⟩ := R'.vl i d e
      exact ⟨v, by rw [← out hi]; exact h1, h2⟩
  · rw [backE_at hl] at e
    by_cases hi : i ∈ vs
    · rw [if_pos hi] at e; exact absurd e (noown hi)
    · rw [if_neg hi] at e
      obtain ⟨v, h1, h2⟩ := R'.ow i d e
      exact ⟨v, by rw [← out hi]; exact h1, h2⟩
  · rw [backE_at hl] at e
    by_cases hi : i ∈ vs
    · rw [if_pos hi] at e
      exact R.pr i k e
    · rw [if_neg hi] at e
      obtain ⟨v, h1, h2⟩ := R'.pr i k e
      exact ⟨v, h1, by rw [← out hi]; exact h2⟩
  · rw [backE_st] at e; exact R'.sow k d e
  · rw [backE_st] at e; exact R'.sfz k d e
  · obtain ⟨h1, h2, h3⟩ := R'.prot b hb
    exact ⟨h1, h2, fun l z => h3 l (loc l b z)⟩
/-- a protected object is written -/
theorem Rep.updO (R : Rep K mg ρ O Γ σ H F) (ha : O a) (hh : ∀ b, b ≠ a → H' b = H b) (hn : H' a ≠ none) (ht : ∀ ps, H' a ≠ some (.tbl ps)) (hL : ∃ xs, H a = some (.lst xs)) : Rep K mg ρ O Γ σ H' F := by
  obtain ⟨f1, f2, f3⟩ := R.prot a ha
  have ow : ∀ {b : Addr} {d : D}, (∃ l, LocAt ρ Γ σ l b) → OwnAt K mg F H b d → OwnAt K mg F H' b d := fun {b d} hl h => h.stay (Same.refl _) h.1 (hh b fun z => by obtain ⟨l, hl⟩ := hl; rw [z] at hl; exact f3 l hl)
  refine ⟨fun b o e => ?_, R.len, R.vl, fun i d e => ?_, R.pr, R.plen, fun k d e => ?_, R.sfz, R.inj, fun b hb => ?_, tabs_but R.tb hh (fun ps q => by obtain ⟨xs, h⟩ := hL; rw [h] at q; cases q) (fun x q => by obtain ⟨xs, h⟩ := hL; rw [h] at q; cases q), R.nt, fun b hb ps => (by
      by_cases e : b = a
      · rw [e]; exact ht ps
      · rw [hh b e]; exact R.pt b hb ps)⟩
  · rw [hh b fun z => by rw [z, f1] at e; cases e]; exact R.le b o e
  · obtain ⟨b, h1, h2⟩ := R.ow i d e; exact ⟨b, h1, ow ⟨.inl i, ⟨d, e⟩, h1⟩ h2⟩
  · obtain ⟨b, h1, h2⟩ := R.sow k d e; exact ⟨b, h1, ow ⟨.inr k, ⟨d, e⟩, h1⟩ h2⟩
  · obtain ⟨h1, h2, h3⟩ := R.prot b hb
    refine ⟨h1, ?_, h3⟩
    by_cases e : b = a
    · rw [e]; exact hn
    · rw [hh b e]; exact h2
theorem Rep.addO (R : Rep K mg ρ O Γ σ H F) (h1 : F a = none) (h2 : H a ≠ none) (h4 : ∀ ps, H a ≠ some (.tbl ps)) (h3 : ∀ l, ¬ LocAt ρ Γ σ l a) : Rep K mg ρ (orO O (· = a)) Γ σ H F := by
  refine { R with prot := fun b hb => ?_, pt := fun b hb => hb.elim (R.pt b) fun z => by subst z; exact h4 }
  rcases hb with hb | hb
  · exact R.prot b hb
  · subst hb; exact ⟨h1, h2, h3⟩
end
section
variable {X : Cx} {e tg iter elt : Expr} {es ifs : List Expr} {m : M} {mi : MI} {g : MG} {ws : List Nat} {tt : MB} {pos : Pos}
abbrev VTs (X : Cx) (ifs : List Expr) (m : MB) : Prop := PTs X ifs (tB X.K X.mg m)
theorem pts_of {t t' : TT} (h : PTs X ifs t) (f : ∀ σ H Q, t' σ H Q → t σ H Q) : PTs X ifs t' := ⟨fun pins s σ H Q I z => h.run pins s σ H Q I (f σ H Q z)⟩
theorem vts_nil : VTs X [] mYes := by
  refine pts_of pts_nil fun σ H Q h => ?_
  obtain ⟨ρ, O, Γ, F, b, Γ', R, e, k⟩ := h
  cases e
  exact k H F (Stp.refl R) Cells.refl
theorem vts_one {c : Expr} {t : MB} (h : VT X c t) : VTs X [c] t := pts_one h
theorem wipe_wipe {σ : L2.St} {vs : List Nat} : wipe (wipe σ vs) vs = wipe σ vs := by
  apply List.ext_getElem?
  intro j
  rw [wipe_at, wipe_length]
  by_cases hj : j ∈ vs ∧ j < σ.length
  · rw [if_pos hj, wipe_at, if_pos hj]
  · rw [if_neg hj]
theorem ve_lc {scope : Scope} {own : List (Str × Nat)} (hc : X.calm = true) (hN : X.N.Nodup) (hi : VI X tg iter mi) (ok : BlkOk X.N X.env.scope scope own) (hw : ∀ i ∈ ws, i ∈ own.map (·.2))
    (hg : ∀ (s : Shared) (H : Hp) (C : Addr) (cl : List (Str × Addr)) (fp : List Addr), VG (X.blk s H scope (compEnvC scope cl C X.env) fp) tg ws g)
    (ht : ∀ (s : Shared) (H : Hp) (C : Addr) (cl : List (Str × Addr)) (fp : List Addr), VTs (X.blk s H scope (compEnvC scope cl C X.env) fp) ifs tt)
    (he : ∀ (s : Shared) (H : Hp) (C : Addr) (cl : List (Str × Addr)) (fp : List Addr), VE (X.blk s H scope (compEnvC scope cl C X.env) fp) elt m) (hs : ∀ x, foldedSetIterable iter X.env x = pure x := by intro _; rfl) :
    PE X (.ListComp elt [⟨tg, iter, ifs, 0⟩] scope pos) (tV X.K X.mg (mLc (own.map (·.2)) mi g tt m)) ∧
    ∀ σ H Q, tV X.K X.mg (mLc (own.map (·.2)) mi g tt m) σ H Q → tLc (tI X.K X.mg mi) (tG X.K X.mg ws g) (tB X.K X.mg tt) (tV X.K X.mg m) (own.map (·.2)) σ H Q := by
  have main : ∀ σ H Q, tV X.K X.mg (mLc (own.map (·.2)) mi g tt m) σ H Q → tLc (tI X.K X.mg mi) (tG X.K X.mg ws g) (tB X.K X.mg tt) (tV X.K X.mg m) (own.map (·.2)) σ H Q := by
    intro σ H Q h
    generalize own.map (·.2) = vs at *
    obtain ⟨ρ, O, Γ, F, r, Γ', R, e, k⟩ := h
    obtain ⟨⟨ds, Γ1⟩, e1, e⟩ := obind e
    split at e
    · rename_i hok
      obtain ⟨⟨res, Γe⟩, e2, e3⟩ := omap e
      cases e3
      refine ⟨ρ, O, Γ, F, ds, Γ1, R, e1, fun J H1 F1 s1 c1 w => ?_⟩
      intro D hD
      have hFD : F1 D = none := same_none s1.rep.le hD
      have nO : ¬ O D := fun z => (s1.rep.prot D z).2.1 hD
      -- the start
      have R0 : Rep X.K X.mg ρ (orO O (· = D)) Γ1 σ (upd H1 D (.lst [])) F1 :=
        (s1.rep.grow (grow_own s1.rep.le hD)).addO hFD (by rw [upd_same]; exact fun z => nomatch z) (fun ps => by rw [upd_same]; exact fun z => nomatch z) fun l z => z.there s1.rep hD
      have ho0 : ∀ a, O a → upd H1 D (.lst []) a = H a := fun a ha => by rw [upd_ne (fun (z : a = D) => nO (z ▸ ha))]; exact s1.op a ha
      refine ⟨fun i n H' => n = ds.length - i ∧ i ≤ ds.length ∧ ∃ Γi Fi acc accV, Rep X.K X.mg ρ (orO O (· = D)) Γi (wipe σ vs) H' Fi ∧ Same F1 Fi ∧ (∀ a, O a → H' a = H a) ∧ H' D = some (.lst accV) ∧ RDs X.K X.mg Fi acc accV ∧
          lcD vs g tt m (ds.drop i) acc Γi = some (res, Γe),
        ⟨_, rfl, Nat.zero_le _, wipeE Γ1 vs, F1, [], [], R0.wiped vs, Same.refl _, ho0, upd_same, by simp only [RDs], by simpa using e2⟩, fun i n H' hW => ?_⟩
      obtain ⟨rfl, hi, Γi, Fi, acc, accV, Ri, hfi, hoi, hDi, hai, ei⟩ := hW
      have hsame : Same F1 H' := hfi.trans Ri.le
      by_cases hlt : i < ds.length
      · refine .inr ⟨w.goes i H' hlt hsame, fun H2 => ∃ Γ2 F2 acc2 accV2, Rep X.K X.mg ρ (orO O (· = D)) Γ2 (wipe σ vs) H2 F2 ∧ Same F1 F2 ∧ (∀ a, O a → H2 a = H a) ∧ H2 D = some (.lst accV2) ∧ RDs X.K X.mg F2 acc2 accV2 ∧
            lcD vs g tt m (ds.drop (i + 1)) acc2 Γ2 = some (res, Γe), fun H2 hN => ?_, fun x H2 hy => ?_⟩
        · obtain ⟨Γ2, F2, acc2, accV2, h1, h2, h3, h4, h5, h6⟩ := hN
          exact ⟨ds.length - (i + 1), by omega, rfl, by omega, Γ2, F2, acc2, accV2, h1, h2, h3, h4, h5, h6⟩
        · obtain ⟨F2, d, hd, gr, rd⟩ := w.yields i H' x H2 Fi hlt hy hfi Ri.le
          have edrop : ds.drop i = d :: ds.drop (i + 1) := by
            rw [List.drop_eq_getElem_cons hlt]
            congr 1
            rw [List.getElem?_eq_getElem hlt] at hd
            exact Option.some.inj hd
          rw [edrop] at ei
          simp only [lcD] at ei
          obtain ⟨Γ2, e4, ei⟩ := obind ei
          obtain ⟨⟨b5, Γ3⟩, e5, ei⟩ := obind ei
          have R2 := Ri.grow gr
          refine tG_run (r := .val d) R2 rd e4 fun σ3 H3 F3 s3 hw3 => ?_
          have hw3' : wipe σ3 vs = wipe σ vs := (hw3 vs hw).trans wipe_wipe
          refine ⟨hw3', ?_⟩
          refine tB_run s3.rep e5 fun H4 F4 s4 c4 => ?_
          have s34 := s3.trans s4
          have hf4 : Same F1 F4 := (hfi.trans gr.fs).trans s34.fs
          have ho4 : ∀ a, O a → H4 a = H a := fun a ha => ((s34.op a (.inl ha)).trans (Ri.opres gr.hs a (.inl ha))).trans (hoi a ha)
          have hD4 : H4 D = some (.lst accV) := ((s34.op D (.inr rfl)).trans (Ri.opres gr.hs D (.inr rfl))).trans hDi
          have ha4 : RDs X.K X.mg F4 acc accV := RDs.mono (gr.fs.trans s34.fs) _ _ hai
          cases b5 with
          | false =>
            refine iteF ⟨wipeE Γ3 vs, F4, acc, accV, ?_, hf4, ho4, hD4, ha4, ei⟩
            have := s4.rep.wiped vs
            rw [hw3'] at this
            exact this
          | true =>
            refine iteT ?_
            obtain ⟨⟨r6, Γ4⟩, e6, ei⟩ := obind ei
            obtain ⟨⟨d7, Γ5⟩, e7, ei⟩ := obind ei
            split at ei
            · rename_i hz
              refine tV_run s4.rep e6 fun y H5 F5 s5 c5 r5 => ?_
              obtain ⟨F6, R6, s6, rd6, c6⟩ := freeze_ok s5.rep r5 e7
              have hD5 : H5 D = some (.lst accV) := (s5.op D (.inr rfl)).trans hD4
              have ha6 : RDs X.K X.mg F6 acc accV := RDs.mono (s5.fs.trans s6) _ _ ha4
              refine ⟨accV, hD5, by rw [← ha6.length]; exact hz, wipeE Γ5 vs, F6, acc ++ [d7], accV ++ [y], ?_, (hf4.trans s5.fs).trans s6, fun a ha => ?_, upd_same, ha6.append (by simp only [RDs]; exact ⟨y, [], rfl, rd6, rfl⟩), ei⟩
              · have := (R6.updO (a := D) (.inr rfl) (H' := upd H5 D (.lst (accV ++ [y]))) (fun b hb => upd_ne hb) (by rw [upd_same]; exact fun z => nomatch z) (fun ps => by rw [upd_same]; exact fun z => nomatch z) ⟨_, hD5⟩).wiped vs
                rw [hw3'] at this
                exact this
              · rw [upd_ne (fun (z : a = D) => nO (z ▸ ha)), s5.op a (.inl ha)]
                exact ho4 a ha
            · cases ei
      · have hi' : i = ds.length := by omega
        subst hi'
        refine .inl ⟨w.stops H' hsame, ?_⟩
        rw [List.drop_length] at ei
        cases ei
        have Rb : Rep X.K X.mg ρ (orO O (· = D)) (backE Γ1 Γe vs) σ H' Fi := by
          have R1' : Rep X.K X.mg ρ (orO O (· = D)) Γ1 σ (upd H1 D (.lst [])) F1 := R0
          exact R1'.back Ri hfi hok
        have hloc : ∀ l, ¬ LocAt ρ (backE Γ1 Γe vs) σ l D := (Rb.prot D (.inr rfl)).2.2
        have hFi : Fi D = none := (Rb.prot D (.inr rfl)).1
        refine k (.ref D) H' Fi ⟨Rb.weakO fun a z => .inl z, s1.fs.trans hfi, hoi⟩ trivial ⟨D, rfl, ⟨hFi, accV, hDi, hai⟩, nO, hloc⟩
    · cases e
  exact ⟨pe_of (pe_lc hc hN hi ok hg ht he hs) main, main⟩
end
end VS

set_option Elab.async false
set_option linter.all false
set_option maxRecDepth 100000
set_option maxHeartbeats 4000000
namespace VS
open PySem L2 PyProof.Rows
variable [TabT]

section
variable {X : Cx} {e tg iter elt : Expr} {es ifs : List Expr} {m : M} {mi : MI} {g : MG} {ws : List Nat} {tt : MB} {pos : Pos}
/-- y = [..], y a plain local, on one line -/
theorem vs_setLc {i : Nat} {y : Str} {py spos : Pos} {scope : Scope} {own : List (Str × Nat)} (hc : X.calm = true) (hN : X.N.Nodup) (hi : VI X tg iter mi) (ok : BlkOk X.N X.env.scope scope own) (hw : ∀ i ∈ ws, i ∈ own.map (·.2))
    (hg : ∀ (s : Shared) (H : Hp) (C : Addr) (cl : List (Str × Addr)) (fp : List Addr), VG (X.blk s H scope (compEnvC scope cl C X.env) fp) tg ws g)
    (ht : ∀ (s : Shared) (H : Hp) (C : Addr) (cl : List (Str × Addr)) (fp : List Addr), VTs (X.blk s H scope (compEnvC scope cl C X.env) fp) ifs tt)
    (he : ∀ (s : Shared) (H : Hp) (C : Addr) (cl : List (Str × Addr)) (fp : List Addr), VE (X.blk s H scope (compEnvC scope cl C X.env) fp) elt m)
    (hy : X.N[i]? = some y := by rfl) (hyl : X.env.scope.names.lookup y = some .local := by rfl) (hsw : swapsWith (.ListComp elt [⟨tg, iter, ifs, 0⟩] scope pos) (some (.Name y py)) spos.line X.env = pure true := by exact sw_true rfl rfl rfl (by decide +kernel)) (hs : ∀ x, foldedSetIterable iter X.env x = pure x := by intro _; rfl) :
    VSt X (.Assign [.Name y py] (.ListComp elt [⟨tg, iter, ifs, 0⟩] scope pos) spos) (mAsg (mLc (own.map (·.2)) mi g tt m) (asgn i)) := by
  intro W tk
  refine ps_of (ps_setLc (g := tG X.K X.mg ws g) (tt := tB X.K X.mg tt) (te := tV X.K X.mg m) hc hN hy hyl hsw hi ok hg ht he hs) fun D σ H h => ?_
  obtain ⟨ρ, O, Γ, F, fl, Γ', R, e, k⟩ := h
  obtain ⟨⟨r, Γ1⟩, e1, e⟩ := obind e
  obtain ⟨Γ2, e2, e3⟩ := omap e
  cases e3
  refine (ve_lc (pos := pos) hc hN hi ok hw hg ht he hs).2 σ H _ (tV_run R e1 fun v H1 F1 s1 c1 r1 => ?_)
  obtain ⟨F2, R2, s2⟩ := asgn_ok s1.rep r1 e2
  exact k _ H1 F2 (s1.trans ⟨R2, s2, fun _ _ => rfl⟩)
end
/-! ### methods that write their list -/
/-- the arguments are frozen, the list is written; the answer is data -/
def MutV (K : PySem.W.Frag) (mg : Str → Option Value) (r : V → List V → Hp → VK → Prop) (g : List D → List D → Option (D × List D)) : Prop :=
  ∀ (F H : Hp) (a : Addr) (xs : List V) (cs ds : List D) (res : D) (cs' : List D) (Q : VK), Same F H → OwnAt K mg F H a (.lst cs) → RDs K mg F ds xs → g cs ds = some (res, cs') →
    (∀ v H', (∀ b, b ≠ a → H' b = H b) → OwnAt K mg F H' a (.lst cs') → RD K mg F res v → Q v H') → r (.ref a) xs H Q
def MutX (X : Cx) (id : String) (g : List D → List D → Option (D × List D)) : Prop := ∃ r, MtR X id r ∧ MutV X.K X.mg r g
def mMut (g : List D → List D → Option (D × List D)) (mo : M) (ml : ML) : M := fun Γ => (mo Γ).bind fun p => (content p.2 p.1).bind fun c0 => match c0 with
  | .lst _ => (ml p.2).bind fun q => (freezeL q.1 q.2).bind fun z => (content z.2 p.1).bind fun c => match c with
    | .lst cs => (g cs z.1).map fun w => (.val w.1, putC z.2 (.lst w.2) p.1)
    | _ => none
  | _ => none
section
variable {X : Cx} {e o : Expr} {es : List Expr} {mo : M} {ml : ML} {pos apos : Pos} {name : Str}
theorem content_later {K : PySem.W.Frag} {mg : Str → Option Value} {ρ : List Addr} {O : Addr → Prop} {Γ Γ' : VEnv} {σ : L2.St} {H F : Hp} {r : EV} {v : V} {d : D} (h : RepEV K mg ρ O Γ σ H F r v) (e : content Γ' r = some d) (hc : Cells Γ Γ') {H' F' : Hp} {O' : Addr → Prop} : RepEV K mg ρ O' Γ' σ H' F' r v := by
  cases r with
  | val d => cases e
  | fresh d => cases e
  | slot i => exact ⟨h.1, trivial⟩
  | par k => exact h
theorem mut_run {r : V → List V → Hp → VK → Prop} {g : List D → List D → Option (D × List D)} (hv : MutV X.K X.mg r g) {σ : L2.St} {H : Hp} {Q : VK} (h : tV X.K X.mg (mMut g mo ml) σ H Q) : tBM X.K "list" r (tV X.K X.mg mo) (tL X.K X.mg ml) σ H Q := by
  obtain ⟨ρ, O, Γ, F, res, Γ', R, e, k⟩ := h
  obtain ⟨⟨ro, Γ1⟩, e1, e⟩ := obind e
  obtain ⟨c0, e2, e⟩ := obind e
  cases c0 with
  | lst cs0 =>
    obtain ⟨⟨rs, Γ2⟩, e3, e⟩ := obind e
    obtain ⟨⟨ds, Γ3⟩, e4, e⟩ := obind e
    obtain ⟨c, e5, e⟩ := obind e
    cases c with
    | lst cs =>
      obtain ⟨⟨d, cs'⟩, e6, e7⟩ := omap e
      cases e7
      refine tV_run R e1 fun v H1 F1 s1 c1 r1 => ?_
      obtain ⟨a, rfl, ho, _⟩ := mut_ok s1.rep r1 e2
      obtain ⟨_, vs0, h1, _⟩ := id ho
      refine ⟨.inl ⟨rfl, vs0, .inl (.inl h1)⟩, ?_⟩
      refine tL_run s1.rep e3 fun vs H2 F2 s2 c2 r2 => ?_
      obtain ⟨F3, R3, s3, rd, c3⟩ := freezeL_ok s2.rep r2 e4
      have st : Stp X.K X.mg ρ O Γ3 σ H F H2 F3 := (s1.trans s2).trans ⟨R3, s3, fun _ _ => rfl⟩
      have ro3 : RepEV X.K X.mg ρ O Γ3 σ H2 F3 ro (.ref a) := content_later r1 e5 (c2.trans c3)
      obtain ⟨a', q0, ho3, hm⟩ := mut_ok R3 ro3 e5
      cases q0
      refine hv F3 H2 a vs cs ds d cs' Q R3.le ho3 rd e6 fun v H3 hh how rv => ?_
      obtain ⟨R4, op4⟩ := hm H3 _ hh how
      exact k v H3 F3 (st.trans ⟨R4, Same.refl _, op4⟩) trivial rv
    | _ => cases e
  | _ => cases e
theorem ve_mut {id : String} {g : List D → List D → Option (D × List D)} (hm : MutX X id g) (slot : Slot "list" name id) (hty : typeOf (.builtin id) = pure (.type "method_descriptor")) (ho : VE X o mo) (ha : VA X (e :: es) ml)
    (hbase : attributeBase o name X.env (eval o X.env) = eval o X.env := by rfl)
    (hfew : ((backTo pos (starEach (e :: es) X.env)).all (fun x => !x.1) && (backToKw pos (keywordEach [] X.env)).all (fun x => x.1.isSome)
      && decide ((e :: es).length + ([] : List Keyword).length + (if ([] : List Keyword).isEmpty then 0 else 1) < 30)) = true := by rfl)
    (hline : (apos.endLine == pos.line) = true := by rfl) (hs : starEach (e :: es) X.env = (false, eval e X.env) :: starEach es X.env := by rfl) (hplain : (backTo pos (starEach es X.env)).any (·.1) = false := by rfl) :
    VE X (.Call (.Attribute o name apos) (e :: es) [] pos) (mMut g mo ml) := by
  obtain ⟨r, h1, h2⟩ := hm
  exact pe_of (pe_bm PySem.F.plainAttrs_list slot hty h1 ho ha hbase hfew hline hs hplain) fun σ H Q h => mut_run h2 h
theorem ve_mut0 {id : String} {g : List D → List D → Option (D × List D)} (hm : MutX X id g) (slot : Slot "list" name id) (hty : typeOf (.builtin id) = pure (.type "method_descriptor")) (ho : VE X o mo)
    (hbase : attributeBase o name X.env (eval o X.env) = eval o X.env := by rfl) (hline : (apos.endLine == pos.line) = true := by rfl) :
    VE X (.Call (.Attribute o name apos) [] [] pos) (mMut g mo mNil) := by
  obtain ⟨r, h1, h2⟩ := hm
  refine pe_of (pe_bm0 PySem.F.plainAttrs_list slot hty h1 ho hbase hline) fun σ H Q h => ?_
  obtain h := mut_run h2 h
  refine (?_ : ∀ t, tBM X.K "list" r (tV X.K X.mg mo) t σ H Q → (∀ σ H Q, t σ H Q → Q [] H) → tBM0 X.K "list" r (tV X.K X.mg mo) σ H Q) _ h fun σ H Q ht => ?_
  · intro t ht h0
    obtain ⟨ρ, O, Γ, F, rr, Γ', R, e, k⟩ := ht
    exact ⟨ρ, O, Γ, F, rr, Γ', R, e, fun v H' F' s c rv => ⟨(k v H' F' s c rv).1, h0 _ _ _ (k v H' F' s c rv).2⟩⟩
  · obtain ⟨ρ, O, Γ, F, rs, Γ', R, e, k⟩ := ht
    cases e
    exact k [] H F (Stp.refl R) Cells.refl (by simp only [RepL])
variable {K : PySem.W.Frag} {mg : Str → Option Value}
def gAppend : List D → List D → Option (D × List D)
  | cs, [d] => if cs.length < sizeLine then some (.non, cs ++ [d]) else none
  | _, _ => none
theorem OwnAt.put {F H : Hp} {a : Addr} {d : D} {cs : List D} {vs : List V} (h : OwnAt K mg F H a d) (rd : RDs K mg F cs vs) : OwnAt K mg F (upd H a (.lst vs)) a (.lst cs) := ⟨h.1, vs, upd_same, rd⟩
theorem mx_append : MutX X "list.append" gAppend := by
  refine ⟨_, mt_append, fun F H a xs cs ds res cs' Q hl ho rd hg k => ?_⟩
  obtain ⟨_, vs, h1, h2⟩ := id ho
  unfold gAppend at hg
  split at hg
  · split at hg
    · rename_i d hz
      cases hg
      simp only [RDs] at rd
      obtain ⟨v, r, rfl, hv, rfl⟩ := rd
      exact ⟨a, vs, v, rfl, rfl, h1, by rw [← h2.length]; exact hz, k _ _ (fun b hb => upd_ne hb) (ho.put (h2.append (by simp only [RDs]; exact ⟨v, [], rfl, hv, rfl⟩))) (by simp only [RD])⟩
    · cases hg
  · cases hg
def gPop : List D → List D → Option (D × List D)
  | cs, [] => (cs[cs.length - 1]?).map fun d => (d, cs.dropLast)
  | _, _ => none
theorem RDs.dropLast {F : Hp} {cs : List D} {vs : List V} (h : RDs K mg F cs vs) : RDs K mg F cs.dropLast vs.dropLast := by
  rw [List.dropLast_eq_take, List.dropLast_eq_take, h.length]
  exact h.take _
theorem mx_pop : MutX X "list.pop" gPop := by
  refine ⟨_, mt_pop, fun F H a xs cs ds res cs' Q hl ho rd hg k => ?_⟩
  obtain ⟨_, vs, h1, h2⟩ := id ho
  unfold gPop at hg
  split at hg
  · obtain ⟨d, e1, e2⟩ := omap hg
    cases e2
    simp only [RDs] at rd
    subst rd
    obtain ⟨v, e3, hv⟩ := h2.get e1
    exact ⟨a, vs, v, rfl, rfl, h1, by rw [← h2.length]; exact e3, k _ _ (fun b hb => upd_ne hb) (ho.put h2.dropLast) hv⟩
  · cases hg
theorem sm62 {i : Int} (h : i.natAbs / 4611686018427387904 = 0) : -(2 ^ 63) ≤ i ∧ i < 2 ^ 63 := by
  rw [Nat.div_eq_zero_iff] at h
  have h3 : i.natAbs < 4611686018427387904 := by
    rcases h with h | h
    · cases h
    · exact h
  have e : (2 ^ 63 : Int) = 9223372036854775808 := by decide
  rw [e]
  omega
def gPopAt : List D → List D → Option (D × List D)
  | cs, [.int i] => if i.natAbs / 4611686018427387904 = 0 then (seqIndex? i cs.length).bind fun k => (cs[k]?).map fun d => (d, cs.eraseIdx k) else none
  | _, _ => none
theorem RDs.eraseIdx {F : Hp} : ∀ {cs : List D} {vs : List V} (k : Nat), RDs K mg F cs vs → RDs K mg F (cs.eraseIdx k) (vs.eraseIdx k)
  | [], vs, k, h => by simp only [RDs] at h; subst h; simp [RDs]
  | c :: cs, vs, 0, h => by
    simp only [RDs] at h
    obtain ⟨v, r, rfl, _, h⟩ := h
    simpa using h
  | c :: cs, vs, k + 1, h => by
    simp only [RDs] at h
    obtain ⟨v, r, rfl, h1, h⟩ := h
    simp only [List.eraseIdx_cons_succ, RDs]
    exact ⟨v, _, rfl, h1, RDs.eraseIdx k h⟩
theorem mx_popAt : MutX X "list.pop" gPopAt := by
  refine ⟨_, mt_popAt, fun F H a xs cs ds res cs' Q hl ho rd hg k => ?_⟩
  obtain ⟨_, vs, h1, h2⟩ := id ho
  unfold gPopAt at hg
  split at hg
  · rename_i i
    split at hg
    · rename_i hi
      have hi : -(2 ^ 63) ≤ i ∧ i < 2 ^ 63 := sm62 hi
      obtain ⟨j, e1, hg⟩ := obind hg
      obtain ⟨d, e2, e3⟩ := omap hg
      cases e3
      simp only [RDs, RD] at rd
      obtain ⟨v, r, rfl, rfl, rfl⟩ := rd
      obtain ⟨v, e4, hv⟩ := h2.get e2
      exact ⟨a, vs, i, j, v, rfl, rfl, h1, hi.1, hi.2, by rw [← h2.length]; exact e1, e4, k _ _ (fun b hb => upd_ne hb) (ho.put (h2.eraseIdx j)) hv⟩
    · cases hg
  · cases hg
def gReverse : List D → List D → Option (D × List D)
  | cs, [] => some (.non, cs.reverse)
  | _, _ => none
theorem mx_reverse : MutX X "list.reverse" gReverse := by
  refine ⟨_, mt_reverse, fun F H a xs cs ds res cs' Q hl ho rd hg k => ?_⟩
  obtain ⟨_, vs, h1, h2⟩ := id ho
  unfold gReverse at hg
  split at hg
  · cases hg
    simp only [RDs] at rd
    subst rd
    exact ⟨a, vs, rfl, rfl, h1, k _ _ (fun b hb => upd_ne hb) (ho.put h2.rev) (by simp only [RD])⟩
  · cases hg
def gClear : List D → List D → Option (D × List D)
  | _, [] => some (.non, [])
  | _, _ => none
theorem mx_clear : MutX X "list.clear" gClear := by
  refine ⟨_, mt_clear, fun F H a xs cs ds res cs' Q hl ho rd hg k => ?_⟩
  obtain ⟨_, vs, h1, h2⟩ := id ho
  unfold gClear at hg
  split at hg
  · cases hg
    simp only [RDs] at rd
    subst rd
    exact ⟨a, vs, rfl, rfl, h1, k _ _ (fun b hb => upd_ne hb) (ho.put (by simp only [RDs])) (by simp only [RD])⟩
  · cases hg
end
end VS

set_option Elab.async false
set_option linter.all false
set_option maxRecDepth 100000
set_option maxHeartbeats 4000000
/-! ### what a def keeps, where no repr is under way -/
namespace VS
open PySem L2 PyProof.Rows
variable [TabT]

/-- room, and no guard among what runs -/
structure RoomG (k : Nat) (A : Around) : Prop extends Room k A where
  gd : TabT.gd = true → A.guards = some []
theorem RoomG.mono {j k : Nat} {A : Around} (r : RoomG k A) (h : j ≤ k) : RoomG j A := ⟨r.toRoom.mono h, r.gd⟩
theorem RoomG.deeper {k : Nat} {A : Around} (r : RoomG (k + 1) A) (env : PySem.Env) : RoomG k (A.deeper env) := ⟨r.toRoom.deeper env, r.gd⟩
/-- the promise sp of the def at f, exceptions as the hand layer has them -/
structure FnG (P : Program) (w : World) (K : PySem.W.Frag) (mg : Str → Option Value) (base : Heap) (k : Nat) (f : Addr) (fd : FuncData) (ps : List Str) (sp : Sp) : Prop where
  len : ∀ (vs : List V) (H : Hp) (Q : VK) (E : XK), sp vs H Q E → vs.length = ps.length
  run : ∀ (A : Around) (outer : List PySem.Env) (s : Shared) (H : Hp) (args : Args) (us : List Value) (vs : List V) (Q : VK) (E : XK), RoomG k A → Env0 P w K mg base A outer s H → BindsTo s fd args (ps.zip us) → Vals vs us → sp vs H Q E →
    codeAny (model P w) A (.call (.ref f) args) (CR (L2.CX P w) outer P w H s Q E) s
section
variable {P : Program} {w : World} {K : PySem.W.Frag} {mg : Str → Option Value} {base : Heap}
theorem FnG.mono {j k : Nat} {f : Addr} {fd : FuncData} {ps : List Str} {sp : Sp} (F : FnG P w K mg base j f fd ps sp) (h : j ≤ k) : FnG P w K mg base k f fd ps sp :=
  ⟨F.len, fun A outer s H args us vs Q E hr => F.run A outer s H args us vs Q E (hr.mono h)⟩
theorem FnG.imp {k : Nat} {f : Addr} {fd : FuncData} {ps : List Str} {sp sp' : Sp} (F : FnG P w K mg base k f fd ps sp) (h : ∀ vs H Q E, sp' vs H Q E → sp vs H Q E) : FnG P w K mg base k f fd ps sp' :=
  ⟨fun vs H Q E q => F.len vs H Q E (h _ _ _ _ q), fun A outer s H args us vs Q E hr e0 hb hv hs => F.run A outer s H args us vs Q E hr e0 hb hv (h _ _ _ _ hs)⟩
/-- a def by its body -/
theorem fn_ofG {x qual : Str} {st : Stmt} {f : Addr} {fd : FuncData} {N ps : List Str} {k : Nat} {sp : Sp} (F : Fun K x qual st f fd) (S : FnScope N ps (defScope st)) (len : ∀ vs H Q E, sp vs H Q E → vs.length = ps.length)
    (hbody : ∀ (cdv : Value) (A : Around) (outer : List PySem.Env) (s : Shared) (H : Hp) (vs : List V) (Q : VK) (E : XK), PySem.W.codeIn K cdv qual = true → (∃ oc od kV doc pm an ct osl, K.lookup f = some ⟨oc, od, .func (PySem.W.fnOf x qual (defArgs st) (defBody st) (defScope st) .none kV doc pm an cdv ct), osl⟩) → RoomG k (A.deeper (envOfC qual (defScope st) s.heap.objs.size f cdv)) → sp vs H Q E →
      ∃ t, PSs (cxOf (L2.CX P w) P w K mg base N qual (defScope st) f cdv A outer s H E) (defBody st) t ∧ t { nx := fun _ H' => Q .non H', rt := Q } (L2.start N vs) H) : FnG P w K mg base (k + 1) f fd ps sp := by
  obtain ⟨oc, od, kV, doc, pm, an, cdv, ct, osl, rfl, lk, hcd⟩ := F.ex
  refine ⟨len, fun A outer s H args us vs Q E hr e0 hb hv hs => ?_⟩
  exact LamX.run_ofS lk hcd S hr.toRoom e0 hb hv (len _ _ _ _ hs) fun _ => hbody cdv A outer s H vs Q E hcd ⟨_, _, _, _, _, _, _, _, lk⟩ (hr.deeper _) hs
end
section
variable {X : Cx} {k : Nat} {f : Addr} {fd : FuncData} {ps : List Str} {sp : Sp} {E : L2.St → XK} {x : Str} {p pos : Pos} {e : Expr} {es : List Expr} {t : TA}
theorem passE0 (X : Cx) (σ : L2.St) : PassesAt (L2.CX X.prog X.w) X σ E0 := fun _ _ _ _ _ _ h => by
  obtain ⟨_, _, _, _, _, _, _, _, _, _, _, _, z⟩ := h
  exact z.elim
/-- the def runs, called from the body X -/
theorem run_fnG {pins : List (Addr × Obj)} {σ : L2.St} {H : Hp} {s : Shared} {Q : VK} {us : List Value} {vs : List V} (F : FnG X.prog X.w X.K X.mg X.base k f fd ps sp) (hr : RoomG k X.A) (hb : L2.Binds X.K fd ps []) (hx : PassesAt (L2.CX X.prog X.w) X σ (E σ))
    (I : Inv X pins σ H s) (rv : Vals vs us) (h : sp vs H Q (E σ)) : wpAny (model X.prog X.w) X.A (call (.ref f) us) (EP X pins σ Q) X.xe s := by
  have hl := F.len _ _ _ _ h
  rw [rv.length] at hl
  have bb := hb s us I.kIn (by simpa using hl)
  simp only [List.append_nil] at bb
  have core := F.run X.A X.stack s H ⟨us, []⟩ us vs Q (E σ) hr I.env0 bb rv h
  refine wpAny_call (codeAny_mono core fun res s2 hres => ?_)
  match res, hres with
  | .error z, hres => exact hx pins H s z s2 I hres
  | .ok (.ret u), hres => exact I.after hres
  | .ok .next, hres => exact (show False from hres).elim
  | .ok .brk, hres => exact (show False from hres).elim
  | .ok .cont, hres => exact (show False from hres).elim
/-- f(e, ..) -/
theorem pe_callG (F : FnG X.prog X.w X.K X.mg X.base k f fd ps sp) (hr : RoomG k X.A) (hg : Gl X x) (hm : X.mg x = some (.ref f)) (hk : PySem.W.keepIn X.K (.ref f) = true) (hb : L2.Binds X.K fd ps []) (hx : ∀ σ, PassesAt (L2.CX X.prog X.w) X σ (E σ))
    (ha : PA X (e :: es) t) (hdb : (x == ("__debug__" : Str)) = false := by decide) (he : starEach (e :: es) X.env = (false, eval e X.env) :: starEach es X.env := by rfl) (hpl : (backTo pos (starEach es X.env)).any (·.1) = false := by rfl) :
    PE X (.Call (.Name x p) (e :: es) [] pos) (tCallS sp E t) := ⟨fun pins s σ H Q I h => wpAny_Call_Name_kw (ld_glob I hg hm
  (PySem.W.callWith_K (h₀ := X.base) I.ok.mod.kin hk (thn (ha.run pos pins s σ H _ I h) fun us s1 ⟨vs, H1, I1, rv, q⟩ => ⟨I1.kIn, run_fnG F hr hb (hx σ) I1 rv q⟩) he hpl) hdb)⟩
end
end VS

set_option Elab.async false
set_option linter.all false
set_option maxRecDepth 100000
set_option maxHeartbeats 4000000
namespace VS
open PySem L2 PyProof.Rows
variable [TabT]

/-! ### extend -/
def ownOf (Γ : VEnv) : EV → Option D
  | .fresh d => some d
  | r => content Γ r
def mExt (mo m : M) : M := fun Γ => (mo Γ).bind fun p => (content p.2 p.1).bind fun c0 => match c0 with
  | .lst _ => (m p.2).bind fun q => (ownOf q.2 q.1).bind fun z => (content q.2 p.1).bind fun c => match c, z with
    | .lst cs, .lst ds => if cs.length + ds.length ≤ sizeLine then some (.val .non, putC q.2 (.lst (cs ++ ds)) p.1) else none
    | _, _ => none
  | _ => none
section
variable {X : Cx} {e o : Expr} {mo m : M} {pos apos : Pos}
theorem ownOf_ok {K : PySem.W.Frag} {mg : Str → Option Value} {ρ : List Addr} {O : Addr → Prop} {Γ : VEnv} {σ : L2.St} {H F : Hp} {r : EV} {v : V} {d : D} (R : Rep K mg ρ O Γ σ H F) (h : RepEV K mg ρ O Γ σ H F r v) (e : ownOf Γ r = some d) : ∃ a, v = .ref a ∧ OwnAt K mg F H a d := by
  cases r with
  | val d => cases e
  | fresh d => cases e; obtain ⟨p, h1, h2, _⟩ := h; exact ⟨p, h1, h2⟩
  | slot i => obtain ⟨a, h1, h2, _⟩ := mut_ok R h e; exact ⟨a, h1, h2⟩
  | par i => obtain ⟨a, h1, h2, _⟩ := mut_ok R h e; exact ⟨a, h1, h2⟩
theorem ve_extend (ho : VE X o mo) (he : VE X e m)
    (hbase : attributeBase o "extend" X.env (eval o X.env) = eval o X.env := by rfl)
    (hfew : ((backTo pos (starEach [e] X.env)).all (fun x => !x.1) && (backToKw pos (keywordEach [] X.env)).all (fun x => x.1.isSome)
      && decide ([e].length + ([] : List Keyword).length + (if ([] : List Keyword).isEmpty then 0 else 1) < 30)) = true := by rfl)
    (hline : (apos.endLine == pos.line) = true := by rfl) (hs : starEach [e] X.env = (false, eval e X.env) :: starEach [] X.env := by rfl) (hplain : (backTo pos (starEach [] X.env)).any (·.1) = false := by rfl) :
    VE X (.Call (.Attribute o "extend" apos) [e] [] pos) (mExt mo m) := by
  refine pe_of (pe_bm PySem.F.plainAttrs_list PySem.F.slot_list_extend PySem.F.type_list_extend mt_extend ho (va_cons he va_nil hs) hbase hfew hline hs hplain) fun σ H Q h => ?_
  obtain ⟨ρ, O, Γ, F, res, Γ', R, e, k⟩ := h
  obtain ⟨⟨ro, Γ1⟩, e1, e⟩ := obind e
  obtain ⟨c0, e2, e⟩ := obind e
  cases c0 with
  | lst cs0 =>
    obtain ⟨⟨r, Γ2⟩, e3, e⟩ := obind e
    obtain ⟨z, e4, e⟩ := obind e
    obtain ⟨c, e5, e⟩ := obind e
    cases c with
    | lst cs =>
      cases z with
      | lst ds =>
        simp only at e
        split at e
        · rename_i hz
          cases e
          refine tV_run R e1 fun v H1 F1 s1 c1 r1 => ?_
          obtain ⟨a, rfl, ho, _⟩ := mut_ok s1.rep r1 e2
          obtain ⟨_, vs0, h1, _⟩ := id ho
          refine ⟨.inl ⟨rfl, vs0, .inl (.inl h1)⟩, ?_⟩
          have em : mCons m mNil Γ1 = some ([r], Γ2) := by simp only [mCons, e3, Option.bind_some, mNil, Option.map_some]
          refine tL_run s1.rep em fun vs H2 F2 s2 c2 r2 => ?_
          simp only [RepL] at r2
          obtain ⟨v2, ws, rfl, r2, rfl⟩ := r2
          have st : Stp X.K X.mg ρ O Γ2 σ H F H2 F2 := s1.trans s2
          have ro3 : RepEV X.K X.mg ρ O Γ2 σ H2 F2 ro (.ref a) := content_later r1 e5 c2
          obtain ⟨a', q0, ho3, hm⟩ := mut_ok st.rep ro3 e5
          cases q0
          obtain ⟨b, rfl, hb⟩ := ownOf_ok st.rep r2 e4
          obtain ⟨_, vs1, g1, g2⟩ := id ho3
          obtain ⟨_, vs2, g3, g4⟩ := id hb
          refine ⟨a, b, vs1, vs2, rfl, rfl, g1, g3, by rw [← g2.length, ← g4.length]; exact hz, ?_⟩
          obtain ⟨R4, op4⟩ := hm (upd H2 a (.lst (vs1 ++ vs2))) (.lst (cs ++ ds)) (fun b hb => upd_ne hb) (ho3.put (g2.append g4))
          exact k .non _ F2 (st.trans ⟨R4, Same.refl _, op4⟩) trivial (by simp only [RepEV, RD])
        · cases e
      | _ => cases e
    | _ => cases e
  | _ => cases e
end
/-! ### defs -/
abbrev Sem' := List Cell → List SC → Option (EV × List SC)
/-- what is raised: the class by its name in the module -/
abbrev SemX := List Cell → List SC → Option (Str × List SC)
def noX : SemX := fun _ _ => none
/-- the promise of a def with n parameters that answers as f says, raises as g says -/
def spX (K : PySem.W.Frag) (mg : Str → Option Value) (n : Nat) (f : Sem') (g : SemX) : Sp := fun vs H Q E => vs.length = n ∧ ∃ cells ρ F O st, Rep K mg ρ O ⟨cells, st⟩ (vs.map some) H F ∧
  ((∃ r st', f cells st = some (r, st') ∧ ∀ v H' F', Stp K mg ρ O ⟨[], st'⟩ [] H F H' F' → RepEV K mg ρ O ⟨[], st'⟩ [] H' F' r v → Q v H') ∨
   ∃ x st', g cells st = some (x, st') ∧ ∀ C H' F', mg x = some (.ref C) → Stp K mg ρ O ⟨[], st'⟩ [] H F H' F' → E (.ref C) none H')
abbrev spV (K : PySem.W.Frag) (mg : Str → Option Value) (n : Nat) (f : Sem') : Sp := spX K mg n f noX
theorem spV_spX {K : PySem.W.Frag} {mg : Str → Option Value} {n : Nat} {f : Sem'} {g : SemX} (vs : List V) (H : Hp) (Q : VK) (E : XK) (h : spV K mg n f vs H Q E) : spX K mg n f g vs H Q E := by
  obtain ⟨hl, cells, ρ, F, O, st, R, h⟩ := h
  rcases h with h | ⟨x, st', e, _⟩
  · exact ⟨hl, cells, ρ, F, O, st, R, .inl h⟩
  · cases e
def retEV (r : EV) (Γ : VEnv) : Option (EV × List SC) := match r with
  | .val d => some (.val d, Γ.st)
  | .fresh d => some (.fresh d, Γ.st)
  | .slot i => match Γ.sl[i]? with
    | some (.own d) => some (.fresh d, Γ.st)
    | some (.val d) => some (.val d, Γ.st)
    | _ => none
  | .par k => some (.par k, Γ.st)
/-- a body with p parameters and n slots as a def -/
def defOf (p n : Nat) (m : MS) : Sem' := fun cells st => if cells.length = p then (m ⟨cells ++ List.replicate (n - p) .un, st⟩).bind fun q => match q.1 with
  | .ret r => retEV r q.2
  | .nx => some (.val .non, q.2.st)
  | _ => none else none
def excOf (p n : Nat) (m : MS) : SemX := fun cells st => if cells.length = p then (m ⟨cells ++ List.replicate (n - p) .un, st⟩).bind fun q => match q.1 with
  | .exc x => some (x, q.2.st)
  | _ => none else none
section
variable {K : PySem.W.Frag} {mg : Str → Option Value} {ρ : List Addr} {O O' : Addr → Prop} {Γ Γ' : VEnv} {σ σ' : L2.St} {H F H' F' : Hp} {r : EV} {v : V} {d : D} {a : Addr}
/-- the slots are given up -/
theorem Rep.drop (R : Rep K mg ρ O Γ σ H F) : Rep K mg ρ O ⟨[], Γ.st⟩ [] H F where
  le := R.le
  len := rfl
  vl := fun i d e => by simp at e
  ow := fun i d e => by simp at e
  pr := fun i k e => by simp at e
  plen := R.plen
  sow := R.sow
  sfz := R.sfz
  inj := fun l l' b h1 h2 => by
    have f : ∀ l, LocAt ρ ⟨[], Γ.st⟩ [] l b → LocAt ρ Γ σ l b := fun l h => by
      cases l with
      | inl i => obtain ⟨⟨d, e⟩, _⟩ := h; simp at e
      | inr k => exact h
    exact R.inj l l' b (f l h1) (f l' h2)
  prot := fun b hb => ⟨(R.prot b hb).1, (R.prot b hb).2.1, fun l h => by
    cases l with
    | inl i => obtain ⟨⟨d, e⟩, _⟩ := h; simp at e
    | inr k => exact (R.prot b hb).2.2 (.inr k) h⟩
  tb := R.tb
  nt := R.nt
  pt := R.pt
theorem locDrop {l : Nat ⊕ Nat} (h : LocAt ρ ⟨[], Γ.st⟩ [] l a) : LocAt ρ Γ σ l a := by
  cases l with
  | inl i => obtain ⟨⟨d, e⟩, _⟩ := h; simp at e
  | inr k => exact h
theorem retEV_ok {st : List SC} {r' : EV} (R : Rep K mg ρ O Γ σ H F) (h : RepEV K mg ρ O Γ σ H F r v) (e : retEV r Γ = some (r', st)) : st = Γ.st ∧ RepEV K mg ρ O ⟨[], st⟩ [] H F r' v := by
  cases r with
  | val d => cases e; exact ⟨rfl, h⟩
  | fresh d => cases e; obtain ⟨p, h1, h2, h3, h4⟩ := h; exact ⟨rfl, p, h1, h2, h3, fun l z => h4 l (locDrop z)⟩
  | slot i =>
    simp only [retEV] at e
    cases q : Γ.sl[i]? with
    | none => rw [q] at e; cases e
    | some c =>
      rw [q] at e
      cases c with
      | own d =>
        cases e
        obtain ⟨a, h1, h2⟩ := R.ow i d q
        have e0 := h.1
        rw [h1] at e0; cases e0
        have la : LocAt ρ Γ σ (.inl i) a := ⟨⟨d, q⟩, h1⟩
        refine ⟨rfl, a, rfl, h2, fun z => (R.prot a z).2.2 (.inl i) la, fun l z => ?_⟩
        have := R.inj l (.inl i) a (locDrop z) la
        subst this
        obtain ⟨⟨d, e⟩, _⟩ := z
        simp at e
      | val d => cases e; obtain ⟨a, h1, h2⟩ := R.vl i d q; have e0 := h.1; rw [h1] at e0; cases e0; exact ⟨rfl, h2⟩
      | un => cases e
      | par k => cases e
  | par k => cases e; exact ⟨rfl, h⟩
theorem rep_start {cells : List Cell} {st : List SC} {vs : List V} {N : List Str} (R : Rep K mg ρ O ⟨cells, st⟩ (vs.map some) H F) (hl : vs.length ≤ N.length) : Rep K mg ρ O ⟨cells ++ List.replicate (N.length - cells.length) .un, st⟩ (L2.start N vs) H F := by
  have hc : cells.length = vs.length := by have := R.len; simpa using this.symm
  have gc : ∀ {i : Nat} {c : Cell}, (cells ++ List.replicate (N.length - cells.length) .un)[i]? = some c → c ≠ .un → cells[i]? = some c ∧ i < vs.length := by
    intro i c h hn
    by_cases hi : i < cells.length
    · rw [List.getElem?_append_left hi] at h; exact ⟨h, by omega⟩
    · rw [List.getElem?_append_right (by omega)] at h
      have := List.getElem?_replicate (n := N.length - cells.length) (a := Cell.un) (i := i - cells.length)
      rw [h] at this
      split at this
      · exact absurd (Option.some.inj this) hn
      · cases this
  have gs : ∀ {i : Nat}, i < vs.length → (L2.start N vs)[i]? = (vs.map some)[i]? := fun hi => by
    unfold L2.start
    rw [List.getElem?_append_left (by simpa using hi)]
  have loc : ∀ l b, LocAt ρ ⟨cells ++ List.replicate (N.length - cells.length) .un, st⟩ (L2.start N vs) l b → LocAt ρ ⟨cells, st⟩ (vs.map some) l b := by
    intro l b h
    cases l with
    | inl i =>
      obtain ⟨⟨d, e⟩, h1⟩ := h
      obtain ⟨e1, e2⟩ := gc e (fun z => nomatch z)
      exact ⟨⟨d, e1⟩, by rw [← gs e2]; exact h1⟩
    | inr k => exact h
  refine ⟨R.le, by simp [L2.start]; omega, fun i d e => ?_, fun i d e => ?_, fun i k e => ?_, R.plen, R.sow, R.sfz, fun l l' b h1 h2 => R.inj l l' b (loc l b h1) (loc l' b h2), fun b hb => ⟨(R.prot b hb).1, (R.prot b hb).2.1, fun l z => (R.prot b hb).2.2 l (loc l b z)⟩, R.tb, R.nt, R.pt⟩
  · obtain ⟨e1, e2⟩ := gc e (fun z => nomatch z)
    obtain ⟨v, h1, h2⟩ := R.vl i d e1
    exact ⟨v, by rw [gs e2]; exact h1, h2⟩
  · obtain ⟨e1, e2⟩ := gc e (fun z => nomatch z)
    obtain ⟨v, h1, h2⟩ := R.ow i d e1
    exact ⟨v, by rw [gs e2]; exact h1, h2⟩
  · obtain ⟨e1, e2⟩ := gc e (fun z => nomatch z)
    obtain ⟨v, h1, h2⟩ := R.pr i k e1
    exact ⟨v, h1, by rw [gs e2]; exact h2⟩
end
section
variable {P : Program} {w : World} {K : PySem.W.Frag} {mg : Str → Option Value} {base : Heap}
/-- a def of the text does what its mirror says -/
theorem fn_okX {x qual : Str} {st : Stmt} {f : Addr} {fd : FuncData} {N ps : List Str} {k : Nat} {m : MS} (F : Fun K x qual st f fd) (S : FnScope N ps (defScope st))
    (hb : ∀ (cdv : Value) (A : Around) (outer : List PySem.Env) (s : Shared) (H : Hp) (E : XK), PySem.W.codeIn K cdv qual = true → (∃ oc od kV doc pm an ct osl, K.lookup f = some ⟨oc, od, .func (PySem.W.fnOf x qual (defArgs st) (defBody st) (defScope st) .none kV doc pm an cdv ct), osl⟩) → RoomG k (A.deeper (envOfC qual (defScope st) s.heap.objs.size f cdv)) →
      PassesOwn (model P w) (A.deeper (envOfC qual (defScope st) s.heap.objs.size f cdv)) (envOfC qual (defScope st) s.heap.objs.size f cdv) (cxOf (L2.CX P w) P w K mg base N qual (defScope st) f cdv A outer s H E).xe →
      VSs (cxOf (L2.CX P w) P w K mg base N qual (defScope st) f cdv A outer s H E) (defBody st) m)
    (hps : ps.length ≤ N.length := by decide) : FnG P w K mg base (k + 1) f fd ps (spX K mg ps.length (defOf ps.length N.length m) (excOf ps.length N.length m)) := by
  refine fn_ofG F S (fun vs H Q E h => h.1) fun cdv A outer s H vs Q E hcd hlk hr h => ?_
  obtain ⟨hl, cells, ρ, F, O, st0, R, h⟩ := h
  refine ⟨_, hb cdv A outer s H E hcd hlk hr (passes_of rfl) (fun cls d _ H => E cls d H) (takes_of rfl rfl rfl rfl), ?_⟩
  have R' := rep_start (N := N) R (by rw [hl]; exact hps)
  rcases h with ⟨r, st', e, k⟩ | ⟨x, st', e, k⟩
  · unfold defOf at e
    split at e
    case isFalse => cases e
    rename_i hcl
    obtain ⟨⟨fl, Γ'⟩, e1, e⟩ := obind e
    rw [← hcl] at e1
    refine tS_run R' e1 ?_
    cases fl with
    | nx =>
      cases e
      exact fun σ' H' F' s' => k .non H' F' ⟨s'.rep.drop, s'.fs, s'.op⟩ (by simp only [RepEV, RD])
    | ret r0 =>
      intro v σ' H' F' s' hr'
      obtain ⟨rfl, h2⟩ := retEV_ok s'.rep hr' e
      exact k v H' F' ⟨s'.rep.drop, s'.fs, s'.op⟩ h2
    | brk => cases e
    | cont => cases e
    | exc x => cases e
  · unfold excOf at e
    split at e
    case isFalse => cases e
    rename_i hcl
    obtain ⟨⟨fl, Γ'⟩, e1, e⟩ := obind e
    rw [← hcl] at e1
    refine tS_run R' e1 ?_
    cases fl with
    | exc x =>
      cases e
      exact fun C σ' H' F' hm s' => k C H' F' hm ⟨s'.rep.drop, s'.fs, s'.op⟩
    | nx => cases e
    | ret r0 => cases e
    | brk => cases e
    | cont => cases e
/-- .. where nothing is told of what it raises -/
theorem fn_ok {x qual : Str} {st : Stmt} {f : Addr} {fd : FuncData} {N ps : List Str} {k : Nat} {m : MS} (F : Fun K x qual st f fd) (S : FnScope N ps (defScope st))
    (hb : ∀ (cdv : Value) (A : Around) (outer : List PySem.Env) (s : Shared) (H : Hp) (E : XK), RoomG k (A.deeper (envOfC qual (defScope st) s.heap.objs.size f cdv)) →
      PassesOwn (model P w) (A.deeper (envOfC qual (defScope st) s.heap.objs.size f cdv)) (envOfC qual (defScope st) s.heap.objs.size f cdv) (cxOf (L2.CX P w) P w K mg base N qual (defScope st) f cdv A outer s H E).xe →
      VSs (cxOf (L2.CX P w) P w K mg base N qual (defScope st) f cdv A outer s H E) (defBody st) m)
    (hps : ps.length ≤ N.length := by decide) : FnG P w K mg base (k + 1) f fd ps (spV K mg ps.length (defOf ps.length N.length m)) :=
  (fn_okX F S (fun cdv A outer s H E _ _ => hb cdv A outer s H E) hps).imp spV_spX
end
/-! ### calls -/
def passA (b : Bool) (r : EV) (Γ : VEnv) : Option (Cell × VEnv) := match r with
  | .val d => some (.val d, Γ)
  | .fresh d => some (.own d, Γ)
  | .slot i => if b = true then match Γ.sl[i]? with
      | some (.own d) => some (.par Γ.st.length, ⟨Γ.sl.set i (.par Γ.st.length), Γ.st ++ [.own d]⟩)
      | some (.val d) => some (.val d, Γ)
      | some (.par k) => some (.par k, Γ)
      | _ => none
    else (freeze (.slot i) Γ).map fun p => (.val p.1, p.2)
  | .par k => if b = true then some (.par k, Γ) else (freeze (.par k) Γ).map fun p => (.val p.1, p.2)
def passL : List Bool → List EV → VEnv → Option (List Cell × VEnv)
  | _, [], Γ => some ([], Γ)
  | bs, r :: rs, Γ => (passA (bs.headD false) r Γ).bind fun p => (passL bs.tail rs p.2).map fun q => (p.1 :: q.1, q.2)
/-- what was lent comes back -/
def unlend (n : Nat) (st : List SC) : Cell → Cell
  | .par k => if k < n then .par k else match st[k]? with
    | some (.own d) => .own d
    | some (.frz d) => .val d
    | none => .un
  | c => c
def mCall (bs : List Bool) (f : Sem') (ml : ML) : M := fun Γ => (ml Γ).bind fun p => (passL bs p.1 p.2).bind fun q => (f q.1 q.2.st).bind fun z =>
  match z.1 with
  | .val d => some (.val d, ⟨q.2.sl.map (unlend p.2.st.length z.2), z.2.take p.2.st.length⟩)
  | .fresh d => some (.fresh d, ⟨q.2.sl.map (unlend p.2.st.length z.2), z.2.take p.2.st.length⟩)
  | .par k => if k < p.2.st.length then some (.par k, ⟨q.2.sl.map (unlend p.2.st.length z.2), z.2.take p.2.st.length⟩) else none
  | _ => none
end VS

set_option Elab.async false
set_option linter.all false
set_option maxRecDepth 100000
set_option maxHeartbeats 4000000
namespace VS
open PySem L2 PyProof.Rows
variable [TabT]

section
variable {K : PySem.W.Frag} {mg : Str → Option Value} {ρ : List Addr} {O O' : Addr → Prop} {Γ Γ' : VEnv} {σ σ' : L2.St} {H F H' F' : Hp} {r : EV} {v : V} {d : D} {a : Addr}
/-- a cell of the callee, seen by the caller -/
def CellR (K : PySem.W.Frag) (mg : Str → Option Value) (ρ : List Addr) (Γ : VEnv) (σ : L2.St) (H F : Hp) (O : Addr → Prop) : Cell → V → Prop
  | .un, _ => False
  | .val d, v => RD K mg F d v
  | .own d, v => ∃ p, v = .ref p ∧ OwnAt K mg F H p d ∧ ¬ O p ∧ ∀ l, ¬ LocAt ρ Γ σ l p
  | .par k, v => ∃ a, ρ[k]? = some a ∧ v = .ref a
def ownC (c : Cell) (v : V) : Addr → Prop := fun a => match c with
  | .own _ => v = .ref a
  | _ => False
def CellsL (K : PySem.W.Frag) (mg : Str → Option Value) (ρ : List Addr) (Γ : VEnv) (σ : L2.St) (H F : Hp) : (Addr → Prop) → List Cell → List V → Prop
  | _, [], vs => vs = []
  | O, c :: cs, vs => ∃ v ws, vs = v :: ws ∧ CellR K mg ρ Γ σ H F O c v ∧ CellsL K mg ρ Γ σ H F (orO O (ownC c v)) cs ws
/-- an own object is lent: it stands in the store -/
theorem Rep.lend {i : Nat} (R : Rep K mg ρ O Γ σ H F) (q : Γ.sl[i]? = some (Cell.own d)) (hs : σ[i]? = some (some (V.ref a))) : Rep K mg (ρ ++ [a]) O ⟨Γ.sl.set i (.par Γ.st.length), Γ.st ++ [.own d]⟩ σ H F := by
  obtain ⟨a', h1, h2⟩ := R.ow i d q
  rw [hs] at h1; cases h1
  have la : LocAt ρ Γ σ (.inl i) a := ⟨⟨d, q⟩, hs⟩
  have hpl := R.plen
  have gp : ∀ {k : Nat} {b : Addr}, (ρ ++ [a])[k]? = some b → (k < ρ.length ∧ ρ[k]? = some b) ∨ (k = ρ.length ∧ b = a) := fun {k b} h => by
    by_cases hk : k < ρ.length
    · rw [List.getElem?_append_left hk] at h; exact .inl ⟨hk, h⟩
    · rw [List.getElem?_append_right (by omega)] at h
      have := lt_of_get h
      have e : k = ρ.length := by simp at this; omega
      subst e
      simp at h
      exact .inr ⟨rfl, h.symm⟩
  have gst : ∀ {k : Nat} {c : SC}, (Γ.st ++ [SC.own d])[k]? = some c → (k < Γ.st.length ∧ Γ.st[k]? = some c) ∨ (k = Γ.st.length ∧ c = .own d) := fun {k c} h => by
    by_cases hk : k < Γ.st.length
    · rw [List.getElem?_append_left hk] at h; exact .inl ⟨hk, h⟩
    · rw [List.getElem?_append_right (by omega)] at h
      have := lt_of_get h
      have e : k = Γ.st.length := by simp at this; omega
      subst e
      simp at h
      exact .inr ⟨rfl, h.symm⟩
  have ap : ∀ {k : Nat} {b : Addr}, ρ[k]? = some b → (ρ ++ [a])[k]? = some b := fun h => by rw [List.getElem?_append_left (lt_of_get h)]; exact h
  have loc : ∀ l b, LocAt (ρ ++ [a]) ⟨Γ.sl.set i (.par Γ.st.length), Γ.st ++ [.own d]⟩ σ l b → (LocAt ρ Γ σ l b ∧ l ≠ .inl i) ∨ (l = .inr Γ.st.length ∧ b = a) := by
    intro l b h
    cases l with
    | inl j =>
      obtain ⟨⟨d', e⟩, h1⟩ := h
      rcases gset e with ⟨_, z, _⟩ | ⟨hne, e⟩
      · cases z
      · exact .inl ⟨⟨⟨d', e⟩, h1⟩, fun z => hne (by injection z)⟩
    | inr k =>
      obtain ⟨⟨d', e⟩, h1⟩ := h
      rcases gst e with ⟨hk, e⟩ | ⟨rfl, _⟩
      · rcases gp h1 with ⟨_, h1⟩ | ⟨e2, _⟩
        · exact .inl ⟨⟨⟨d', e⟩, h1⟩, fun z => nomatch z⟩
        · omega
      · rcases gp h1 with ⟨e2, _⟩ | ⟨_, e3⟩
        · omega
        · exact .inr ⟨rfl, e3⟩
  refine ⟨R.le, by rw [R.len]; simp, fun j d' e => ?_, fun j d' e => ?_, fun j k e => ?_, by simp [hpl], fun k d' e => ?_, fun k d' e => ?_, fun l l' b h1 h2 => ?_, fun b hb => ?_, R.tb, R.nt, R.pt⟩
  · rcases gset e with ⟨_, z, _⟩ | ⟨_, e⟩
    · cases z
    · exact R.vl j d' e
  · rcases gset e with ⟨_, z, _⟩ | ⟨_, e⟩
    · cases z
    · exact R.ow j d' e
  · rcases gset e with ⟨rfl, z, _⟩ | ⟨_, e⟩
    · cases z
      exact ⟨a, by rw [← hpl]; simp, hs⟩
    · obtain ⟨b, h3, h4⟩ := R.pr j k e
      exact ⟨b, ap h3, h4⟩
  · rcases gst e with ⟨_, e⟩ | ⟨rfl, z⟩
    · obtain ⟨b, h3, h4⟩ := R.sow k d' e; exact ⟨b, ap h3, h4⟩
    · cases z; exact ⟨a, by rw [← hpl]; simp, h2⟩
  · rcases gst e with ⟨_, e⟩ | ⟨_, z⟩
    · obtain ⟨b, h3, h4⟩ := R.sfz k d' e; exact ⟨b, ap h3, h4⟩
    · cases z
  · rcases loc l b h1 with ⟨a1, n1⟩ | ⟨e1, rfl⟩
    · rcases loc l' b h2 with ⟨a2, n2⟩ | ⟨e2, rfl⟩
      · exact R.inj l l' b a1 a2
      · exact absurd (R.inj l (.inl i) b a1 la) n1
    · rcases loc l' b h2 with ⟨a2, n2⟩ | ⟨e2, _⟩
      · exact absurd (R.inj l' (.inl i) b a2 la) n2
      · rw [e1, e2]
  · obtain ⟨h3, h4, h5⟩ := R.prot b hb
    refine ⟨h3, h4, fun l z => ?_⟩
    rcases loc l b z with ⟨z, _⟩ | ⟨_, rfl⟩
    · exact h5 l z
    · exact h5 _ la
/-- how the caller's slots look while something is lent: n the length of the store ahead -/
structure Lent (n : Nat) (Γ : VEnv) : Prop where
  le : n ≤ Γ.st.length
  inj : ∀ (i j k : Nat), n ≤ k → Γ.sl[i]? = some (Cell.par k) → Γ.sl[j]? = some (Cell.par k) → i = j
theorem freeze_st {r : EV} {Γ Γ' : VEnv} {d : D} (h : freeze r Γ = some (d, Γ')) : Γ'.st.length = Γ.st.length ∧ ∀ (i k : Nat), Γ'.sl[i]? = some (Cell.par k) → Γ.sl[i]? = some (Cell.par k) := by
  cases r with
  | val d' => cases h; exact ⟨rfl, fun _ _ z => z⟩
  | fresh d' => cases h; exact ⟨rfl, fun _ _ z => z⟩
  | slot i =>
    simp only [freeze] at h
    cases q : Γ.sl[i]? with
    | none => rw [q] at h; cases h
    | some c =>
      rw [q] at h
      cases c with
      | own d' =>
        cases h
        refine ⟨rfl, fun j k z => ?_⟩
        rcases gset z with ⟨_, z, _⟩ | ⟨_, z⟩
        · cases z
        · exact z
      | val d' => cases h; exact ⟨rfl, fun _ _ z => z⟩
      | un => cases h
      | par k => cases h
  | par k =>
    simp only [freeze] at h
    cases q : Γ.st[k]? with
    | none => rw [q] at h; cases h
    | some c =>
      rw [q] at h
      cases c with
      | own d' => cases h; exact ⟨by simp, fun _ _ z => z⟩
      | frz d' => cases h; exact ⟨rfl, fun _ _ z => z⟩
theorem Rep.lent0 (R : Rep K mg ρ O Γ σ H F) : Lent Γ.st.length Γ := ⟨Nat.le_refl _, fun i j k hk h1 _ => by
  obtain ⟨a, h3, _⟩ := R.pr i k h1
  have := lt_of_get h3
  have := R.plen
  omega⟩
theorem passA_ok {b : Bool} {c : Cell} {n : Nat} (R : Rep K mg ρ O Γ σ H F) (h : RepEV K mg ρ O Γ σ H F r v) (e : passA b r Γ = some (c, Γ')) (L : Lent n Γ) :
    ∃ ρ1 F', Rep K mg (ρ ++ ρ1) O Γ' σ H F' ∧ Same F F' ∧ CellR K mg (ρ ++ ρ1) Γ' σ H F' O c v ∧ Lent n Γ' ∧ (∀ a, ownC c v a → frs r v a) := by
  have fz : ∀ {r : EV} {p : D × VEnv}, freeze r Γ = some p → RepEV K mg ρ O Γ σ H F r v → ∃ ρ1 F', Rep K mg (ρ ++ ρ1) O p.2 σ H F' ∧ Same F F' ∧ CellR K mg (ρ ++ ρ1) p.2 σ H F' O (.val p.1) v ∧ Lent n p.2 := by
    intro r p e h
    obtain ⟨d, Γ'⟩ := p
    obtain ⟨F', R', s, rd, _⟩ := freeze_ok R h e
    obtain ⟨l1, l2⟩ := freeze_st e
    exact ⟨[], F', by rw [List.append_nil]; exact R', s, rd, by rw [l1]; exact L.le, fun i j k hk z1 z2 => L.inj i j k hk (l2 i k z1) (l2 j k z2)⟩
  cases r with
  | val d => cases e; exact ⟨[], F, by rw [List.append_nil]; exact R, Same.refl _, h, L, fun a z => z.elim⟩
  | fresh d => cases e; obtain ⟨p, h1, h2, h3, h4⟩ := h; exact ⟨[], F, by rw [List.append_nil]; exact R, Same.refl _, ⟨p, h1, h2, h3, by rw [List.append_nil]; exact h4⟩, L, fun a z => z⟩
  | slot i =>
    simp only [passA] at e
    split at e
    · cases q : Γ.sl[i]? with
      | none => rw [q] at e; cases e
      | some c0 =>
        rw [q] at e
        cases c0 with
        | own d =>
          cases e
          obtain ⟨a, h1, h2⟩ := R.ow i d q
          have h0 := h.1
          rw [h1] at h0; cases h0
          refine ⟨[a], F, R.lend q h1, Same.refl _, ⟨a, by rw [← R.plen]; simp, rfl⟩, ⟨by simp; have := L.le; omega, fun i1 j1 k hk z1 z2 => ?_⟩, fun a z => z.elim⟩
          rcases gset z1 with ⟨x1, y1, _⟩ | ⟨hn1, y1⟩
          · rcases gset z2 with ⟨x2, _, _⟩ | ⟨_, y2⟩
            · rw [x1, x2]
            · cases y1
              obtain ⟨a2, h3, _⟩ := R.pr _ _ y2
              have := lt_of_get h3
              have := R.plen
              omega
          · rcases gset z2 with ⟨x2, y2, _⟩ | ⟨_, y2⟩
            · cases y2
              obtain ⟨a2, h3, _⟩ := R.pr _ _ y1
              have := lt_of_get h3
              have := R.plen
              omega
            · exact L.inj i1 j1 k hk y1 y2
        | val d => cases e; obtain ⟨a, h1, h2⟩ := R.vl i d q; have h0 := h.1; rw [h1] at h0; cases h0; exact ⟨[], F, by rw [List.append_nil]; exact R, Same.refl _, h2, L, fun a z => z.elim⟩
        | par k => cases e; obtain ⟨a, h1, h2⟩ := R.pr i k q; have h0 := h.1; rw [h2] at h0; cases h0; exact ⟨[], F, by rw [List.append_nil]; exact R, Same.refl _, ⟨a, by rw [List.append_nil]; exact h1, rfl⟩, L, fun a z => z.elim⟩
        | un => cases e
    · obtain ⟨p, e1, e2⟩ := omap e
      cases e2
      obtain ⟨ρ1, F', h1, h2, h3, h4⟩ := fz e1 h
      exact ⟨ρ1, F', h1, h2, h3, h4, fun a z => z.elim⟩
  | par k =>
    simp only [passA] at e
    split at e
    · cases e; obtain ⟨a, h1, h2⟩ := h; exact ⟨[], F, by rw [List.append_nil]; exact R, Same.refl _, ⟨a, by rw [List.append_nil]; exact h1, h2⟩, L, fun a z => z.elim⟩
    · obtain ⟨p, e1, e2⟩ := omap e
      cases e2
      obtain ⟨ρ1, F', h1, h2, h3, h4⟩ := fz e1 h
      exact ⟨ρ1, F', h1, h2, h3, h4, fun a z => z.elim⟩
theorem CellR.later {c : Cell} {ρ1 : List Addr} (h : CellR K mg ρ Γ σ H F O c v) (R' : Rep K mg (ρ ++ ρ1) O' Γ' σ H F') (hO : ∀ a, ownC c v a → O' a) (hf : Same F F') : CellR K mg (ρ ++ ρ1) Γ' σ H F' O c v := by
  cases c with
  | un => exact h
  | val d => exact RD.mono hf _ _ h
  | own d =>
    obtain ⟨p, h1, h2, h3, h4⟩ := h
    obtain ⟨q1, q2, q3⟩ := R'.prot p (hO p h1)
    exact ⟨p, h1, h2.stay hf q1 rfl, h3, q3⟩
  | par k => obtain ⟨a, h1, h2⟩ := h; exact ⟨a, by rw [List.getElem?_append_left (lt_of_get h1)]; exact h1, h2⟩
theorem RepL.weak : ∀ {rs : List EV} {ws : List V} {O1 O2 : Addr → Prop}, (∀ a, O2 a → O1 a) → RepL K mg ρ Γ σ H F O1 rs ws → RepL K mg ρ Γ σ H F O2 rs ws := by
  intro rs
  induction rs with
  | nil => intro ws O1 O2 _ h; exact h
  | cons r rs ih =>
    intro ws O1 O2 hO h
    simp only [RepL] at h ⊢
    obtain ⟨v, us, rfl, a1, a2⟩ := h
    refine ⟨v, us, rfl, a1.weakO hO, ih (fun a z => ?_) a2⟩
    rcases z with z | z
    · exact .inl (hO a z)
    · exact .inr z
theorem RepL.ext {ρ1 : List Addr} : ∀ {rs : List EV} {ws : List V} {O1 : Addr → Prop}, RepL K mg ρ Γ σ H F O1 rs ws → Rep K mg (ρ ++ ρ1) (orO O' (frL rs ws)) Γ' σ H F' → Same F F' → RepL K mg (ρ ++ ρ1) Γ' σ H F' O1 rs ws := by
  intro rs
  induction rs generalizing O' with
  | nil => intro ws O1 h _ _; exact h
  | cons r rs ih =>
    intro ws O1 h R' hf
    simp only [RepL] at h ⊢
    obtain ⟨v, us, rfl, a1, a2⟩ := h
    refine ⟨v, us, rfl, ?_, ih (O' := O') a2 (R'.weakO fun a z => ?_) hf⟩
    · cases r with
      | val d => exact RD.mono hf _ _ a1
      | fresh d =>
        obtain ⟨p, e1, e2, e3, e4⟩ := a1
        have hp : frL (.fresh d :: rs) (v :: us) p := .inl e1
        obtain ⟨q1, q2, q3⟩ := R'.prot p (.inr hp)
        exact ⟨p, e1, e2.stay hf q1 rfl, e3, q3⟩
      | slot i => exact a1
      | par k => obtain ⟨a, h1, h2⟩ := a1; exact ⟨a, by rw [List.getElem?_append_left (lt_of_get h1)]; exact h1, h2⟩
    · rcases z with z | z
      · exact .inl z
      · exact .inr (.inr z)
theorem passL_ok {n : Nat} : ∀ {rs : List EV} {bs : List Bool} {vs : List V} {cells : List Cell} {Γ : VEnv} {F : Hp} {ρ : List Addr} {O : Addr → Prop}, Rep K mg ρ O Γ σ H F → RepL K mg ρ Γ σ H F O rs vs → passL bs rs Γ = some (cells, Γ') → Lent n Γ →
    ∃ ρ1 F', Rep K mg (ρ ++ ρ1) O Γ' σ H F' ∧ Same F F' ∧ CellsL K mg (ρ ++ ρ1) Γ' σ H F' O cells vs ∧ Lent n Γ' := by
  intro rs
  induction rs with
  | nil =>
    intro bs vs cells Γ F ρ O R h e L
    simp only [RepL] at h
    simp only [passL] at e
    cases e
    exact ⟨[], F, by rw [List.append_nil]; exact R, Same.refl _, by simp only [CellsL]; exact h, L⟩
  | cons r rs ih =>
    intro bs vs cells Γ F ρ O R h e L
    simp only [RepL] at h
    obtain ⟨v, ws, rfl, h1, h2⟩ := h
    simp only [passL] at e
    obtain ⟨⟨c, Γ1⟩, e1, e⟩ := obind e
    obtain ⟨⟨cs, Γ2⟩, e2, e3⟩ := omap e
    cases e3
    have R1 : Rep K mg ρ (orO O (frL rs ws)) Γ σ H F := R.pendL h2
    have h1' : RepEV K mg ρ (orO O (frL rs ws)) Γ σ H F r v := by
      cases r with
      | fresh d =>
        obtain ⟨p, q1, q2, q3, q4⟩ := h1
        refine ⟨p, q1, q2, fun z => ?_, q4⟩
        rcases z with z | z
        · exact q3 z
        · exact frL_out h2 p z (.inr q1)
      | _ => exact h1
    obtain ⟨ρ1, F1, R2, s1, cr, L1, ow⟩ := passA_ok R1 h1' e1 L
    -- the cell's own object is protected from here on
    have R3 : Rep K mg (ρ ++ ρ1) (orO (orO O (ownC c v)) (frL rs ws)) Γ1 σ H F1 := by
      refine { R2 with prot := fun a z => ?_, pt := fun a z => ?_ }
      case refine_2 =>
        rcases z with (z | z) | z
        · exact R2.pt a (.inl z)
        · cases c with
          | own d =>
            obtain ⟨p, q1, q2, q3, q4⟩ := cr
            have z' : v = .ref a := z
            rw [q1] at z'; cases z'
            exact q2.notbl
          | _ => exact z.elim
        · exact R2.pt a (.inr z)
      rcases z with (z | z) | z
      · exact R2.prot a (.inl z)
      · cases c with
        | own d =>
          obtain ⟨p, q1, q2, q3, q4⟩ := cr
          have z' : v = .ref a := z
          rw [q1] at z'; cases z'
          exact ⟨q2.1, q2.there, q4⟩
        | _ => exact z.elim
      · exact R2.prot a (.inr z)
    have h2' : RepL K mg (ρ ++ ρ1) Γ1 σ H F1 (orO O (ownC c v)) rs ws := by
      have := RepL.ext (O' := O) h2 R2 s1
      exact this.weak fun a z => by
        rcases z with z | z
        · exact .inl z
        · exact .inr (ow a z)
    obtain ⟨ρ2, F2, R4, s2, cl, L2⟩ := ih (R3.weakO fun a z => .inl z) h2' e2 L1
    refine ⟨ρ1 ++ ρ2, F2, by rw [← List.append_assoc]; exact R4.weakO fun a z => .inl z, s1.trans s2, ?_, L2⟩
    simp only [CellsL]
    rw [← List.append_assoc]
    refine ⟨v, ws, rfl, ?_, cl⟩
    have cr' : CellR K mg (ρ ++ ρ1) Γ1 σ H F1 O c v := by
      cases c with
      | own d => obtain ⟨p, q1, q2, q3, q4⟩ := cr; exact ⟨p, q1, q2, fun z => q3 (.inl z), q4⟩
      | _ => exact cr
    exact cr'.later R4 (fun a z => .inr z) s2
end
end VS

set_option Elab.async false
set_option linter.all false
set_option maxRecDepth 100000
set_option maxHeartbeats 4000000
namespace VS
open PySem L2 PyProof.Rows
variable [TabT]

section
variable {K : PySem.W.Frag} {mg : Str → Option Value} {ρ : List Addr} {O O' : Addr → Prop} {Γ Γ' : VEnv} {σ σ' : L2.St} {H F H' F' : Hp} {r : EV} {v : V} {d : D} {a : Addr}
/-- the caller's own slots -/
def ownS (Γ : VEnv) (σ : L2.St) : Addr → Prop := fun a => ∃ i : Nat, (∃ d, Γ.sl[i]? = some (Cell.own d)) ∧ σ[i]? = some (some (V.ref a))
theorem CellsL.len : ∀ {cs : List Cell} {vs : List V} {O : Addr → Prop}, CellsL K mg ρ Γ σ H F O cs vs → cs.length = vs.length
  | [], vs, O, h => by simp only [CellsL] at h; rw [h]; rfl
  | c :: cs, vs, O, h => by
    simp only [CellsL] at h
    obtain ⟨v, ws, rfl, _, h⟩ := h
    simp only [List.length_cons, CellsL.len h]
theorem CellsL.get : ∀ {cs : List Cell} {vs : List V} {O : Addr → Prop} {i : Nat} {c : Cell}, CellsL K mg ρ Γ σ H F O cs vs → cs[i]? = some c → ∃ v O1, vs[i]? = some v ∧ CellR K mg ρ Γ σ H F O1 c v ∧ ∀ a, O a → O1 a
  | [], vs, O, i, c, h, e => by simp at e
  | c0 :: cs, vs, O, 0, c, h, e => by
    simp only [CellsL] at h
    obtain ⟨v, ws, rfl, h1, h2⟩ := h
    simp at e; subst e
    exact ⟨v, O, rfl, h1, fun _ z => z⟩
  | c0 :: cs, vs, O, i + 1, c, h, e => by
    simp only [CellsL] at h
    obtain ⟨v, ws, rfl, h1, h2⟩ := h
    obtain ⟨u, O1, q1, q2, q3⟩ := CellsL.get (i := i) h2 (by simpa using e)
    exact ⟨u, O1, by simpa using q1, q2, fun a z => q3 a (.inl z)⟩
/-- two own cells stand apart -/
theorem CellsL.apart : ∀ {cs : List Cell} {vs : List V} {O : Addr → Prop} {i j : Nat} {d e : D} {a : Addr}, CellsL K mg ρ Γ σ H F O cs vs → cs[i]? = some (Cell.own d) → cs[j]? = some (Cell.own e) → vs[i]? = some (V.ref a) → vs[j]? = some (V.ref a) → i = j
  | [], vs, O, i, j, d, e, a, h, e1, _, _, _ => by simp at e1
  | c0 :: cs, vs, O, 0, 0, d, e, a, h, e1, e2, e3, e4 => rfl
  | c0 :: cs, vs, O, 0, j + 1, d, e, a, h, e1, e2, e3, e4 => by
    simp only [CellsL] at h
    obtain ⟨v, ws, rfl, h1, h2⟩ := h
    simp at e1 e3
    subst e1
    subst e3
    obtain ⟨u, O1, q1, q2, q3⟩ := h2.get (i := j) (by simpa using e2)
    obtain ⟨p, z1, z2, z3, z4⟩ := q2
    have : u = .ref a := by
      have e4' : ws[j]? = some (V.ref a) := by simpa using e4
      rw [q1] at e4'; exact Option.some.inj e4'
    rw [this] at z1; cases z1
    exact absurd (q3 a (.inr rfl)) z3
  | c0 :: cs, vs, O, i + 1, 0, d, e, a, h, e1, e2, e3, e4 => by
    simp only [CellsL] at h
    obtain ⟨v, ws, rfl, h1, h2⟩ := h
    simp at e2 e4
    subst e2
    subst e4
    obtain ⟨u, O1, q1, q2, q3⟩ := h2.get (i := i) (by simpa using e1)
    obtain ⟨p, z1, z2, z3, z4⟩ := q2
    have : u = .ref a := by
      have e4' : ws[i]? = some (V.ref a) := by simpa using e3
      rw [q1] at e4'; exact Option.some.inj e4'
    rw [this] at z1; cases z1
    exact absurd (q3 a (.inr rfl)) z3
  | c0 :: cs, vs, O, i + 1, j + 1, d, e, a, h, e1, e2, e3, e4 => by
    simp only [CellsL] at h
    obtain ⟨v, ws, rfl, h1, h2⟩ := h
    rw [CellsL.apart (i := i) (j := j) h2 (by simpa using e1) (by simpa using e2) (by simpa using e3) (by simpa using e4)]
/-- the callee's view at its entry -/
theorem rep_callee {cells : List Cell} {vs : List V} (R : Rep K mg ρ O Γ σ H F) (h : CellsL K mg ρ Γ σ H F O cells vs) : Rep K mg ρ (orO O (ownS Γ σ)) ⟨cells, Γ.st⟩ (vs.map some) H F := by
  have gv : ∀ {i : Nat} {v : V}, vs[i]? = some v → (vs.map some)[i]? = some (some v) := fun h => by simp [h]
  have vg : ∀ {i : Nat} {v : V}, (vs.map some)[i]? = some (some v) → vs[i]? = some v := fun h => by simpa using h
  refine ⟨R.le, by simp [h.len], fun i d e => ?_, fun i d e => ?_, fun i k e => ?_, R.plen, R.sow, R.sfz, fun l l' b h1 h2 => ?_, fun b hb => ?_, R.tb, R.nt, fun b hb => ?_⟩
  · obtain ⟨v, O1, q1, q2, _⟩ := h.get e; exact ⟨v, gv q1, q2⟩
  · obtain ⟨v, O1, q1, ⟨p, rfl, z2, z3, z4⟩, _⟩ := h.get e; exact ⟨p, gv q1, z2⟩
  · obtain ⟨v, O1, q1, ⟨p, z1, rfl⟩, _⟩ := h.get e; exact ⟨p, z1, gv q1⟩
  · cases l with
    | inl i =>
      obtain ⟨⟨d, e⟩, e1⟩ := h1
      obtain ⟨v, O1, q1, ⟨p, rfl, z2, z3, z4⟩, _⟩ := h.get e
      have e1' := vg e1
      rw [q1] at e1'; cases e1'
      cases l' with
      | inl j =>
        obtain ⟨⟨d', e'⟩, e2⟩ := h2
        rw [h.apart e e' q1 (vg e2)]
      | inr k => exact absurd (show LocAt ρ Γ σ (.inr k) b from h2) (z4 (.inr k))
    | inr k =>
      cases l' with
      | inl j =>
        obtain ⟨⟨d, e⟩, e1⟩ := h2
        obtain ⟨v, O1, q1, ⟨p, rfl, z2, z3, z4⟩, _⟩ := h.get e
        have e1' := vg e1
        rw [q1] at e1'; cases e1'
        exact absurd (show LocAt ρ Γ σ (.inr k) b from h1) (z4 (.inr k))
      | inr k' => exact R.inj (.inr k) (.inr k') b h1 h2
  · have out : F b = none ∧ H b ≠ none ∧ (∀ k, ¬ LocAt ρ Γ σ (.inr k) b) ∧ (O b ∨ ∃ i, LocAt ρ Γ σ (.inl i) b) := by
      rcases hb with hb | ⟨i, hb⟩
      · exact ⟨(R.prot b hb).1, (R.prot b hb).2.1, fun k => (R.prot b hb).2.2 _, .inl hb⟩
      · have lb : LocAt ρ Γ σ (.inl i) b := hb
        obtain ⟨⟨d, e⟩, e1⟩ := hb
        obtain ⟨a, h1, h2⟩ := R.ow i d e
        rw [e1] at h1; cases h1
        exact ⟨h2.1, h2.there, (fun k z => by cases R.inj _ _ b lb z), .inr ⟨i, lb⟩⟩
    refine ⟨out.1, out.2.1, fun l hl => ?_⟩
    cases l with
    | inr k => exact out.2.2.1 k hl
    | inl i =>
      obtain ⟨⟨d, e⟩, e1⟩ := hl
      obtain ⟨v, O1, q1, ⟨p, rfl, z2, z3, z4⟩, z5⟩ := h.get e
      have e1' := vg e1
      rw [q1] at e1'; cases e1'
      rcases out.2.2.2 with z | ⟨j, z⟩
      · exact z3 (z5 b z)
      · exact z4 _ z
  · rcases hb with hb | ⟨i, ⟨d, e⟩, e1⟩
    · exact R.pt b hb
    · obtain ⟨a, h1, h2⟩ := R.ow i d e
      rw [e1] at h1; cases h1
      exact h2.notbl
/-- behind the call: what was lent is back -/
theorem rep_back {n : Nat} {st' : List SC} (R : Rep K mg ρ O Γ σ H F) (L : Lent n Γ) (s : Stp K mg ρ (orO O (ownS Γ σ)) ⟨[], st'⟩ [] H F H' F') : Rep K mg (ρ.take n) O ⟨Γ.sl.map (unlend n st'), st'.take n⟩ σ H' F' ∧
    (∀ l b, LocAt (ρ.take n) ⟨Γ.sl.map (unlend n st'), st'.take n⟩ σ l b → LocAt ρ ⟨[], st'⟩ [] (.inr (match l with | .inl _ => 0 | .inr k => k)) b ∨ (∃ k, LocAt ρ ⟨[], st'⟩ [] (.inr k) b) ∨ ownS Γ σ b) := by
  have R' := s.rep
  have hpl : ρ.length = st'.length := R'.plen
  have hpl0 := R.plen
  have gs : ∀ {i : Nat} {c : Cell}, (Γ.sl.map (unlend n st'))[i]? = some c → ∃ c0, Γ.sl[i]? = some c0 ∧ unlend n st' c0 = c := fun {i c} h => by
    rw [List.getElem?_map] at h
    obtain ⟨c0, h1, h2⟩ := omap h
    exact ⟨c0, h1, h2⟩
  have tk : ∀ {α : Type} {l : List α} {k : Nat} {x : α}, (l.take n)[k]? = some x → k < n ∧ l[k]? = some x := fun {α l k x} h => by
    rw [List.getElem?_take] at h
    split at h
    · exact ⟨by assumption, h⟩
    · cases h
  have kt : ∀ {α : Type} {l : List α} {k : Nat} {x : α}, k < n → l[k]? = some x → (l.take n)[k]? = some x := fun hk h => by rw [List.getElem?_take, if_pos hk]; exact h
  -- a lent slot
  have lent : ∀ {i : Nat} {c0 : Cell} {d : D}, Γ.sl[i]? = some c0 → unlend n st' c0 = .own d → (c0 = .own d ∧ ∃ a, σ[i]? = some (some (V.ref a)) ∧ OwnAt K mg F H a d) ∨ ∃ k a, n ≤ k ∧ c0 = .par k ∧ st'[k]? = some (SC.own d) ∧ ρ[k]? = some a ∧ σ[i]? = some (some (V.ref a)) := by
    intro i c0 d h e
    cases c0 with
    | un => cases e
    | val d' => cases e
    | own d' => cases e; exact .inl ⟨rfl, R.ow i d h⟩
    | par k =>
      simp only [unlend] at e
      split at e
      · cases e
      · obtain ⟨a, h1, h2⟩ := R.pr i k h
        cases q : st'[k]? with
        | none => rw [q] at e; cases e
        | some c =>
          rw [q] at e
          cases c with
          | own d' => cases e; exact .inr ⟨k, a, by omega, rfl, q, h1, h2⟩
          | frz d' => cases e
  have loc : ∀ l b, LocAt (ρ.take n) ⟨Γ.sl.map (unlend n st'), st'.take n⟩ σ l b → (∃ i, l = .inl i ∧ LocAt ρ Γ σ (.inl i) b) ∨ (∃ i k, l = .inl i ∧ n ≤ k ∧ Γ.sl[i]? = some (Cell.par k) ∧ LocAt ρ ⟨[], st'⟩ [] (.inr k) b) ∨ ∃ k, l = .inr k ∧ k < n ∧ LocAt ρ ⟨[], st'⟩ [] (.inr k) b := by
    intro l b h
    cases l with
    | inl i =>
      obtain ⟨⟨d, e⟩, e1⟩ := h
      obtain ⟨c0, h1, h2⟩ := gs e
      rcases lent h1 h2 with ⟨rfl, _⟩ | ⟨k, a, hk, rfl, q1, q2, q3⟩
      · exact .inl ⟨i, rfl, ⟨d, h1⟩, e1⟩
      · rw [q3] at e1; cases e1
        exact .inr (.inl ⟨i, k, rfl, hk, h1, ⟨d, q1⟩, q2⟩)
    | inr k =>
      obtain ⟨⟨d, e⟩, e1⟩ := h
      obtain ⟨hk, e⟩ := tk e
      exact .inr (.inr ⟨k, rfl, hk, ⟨d, e⟩, (tk e1).2⟩)
  have oS : ∀ {i : Nat} {b : Addr}, LocAt ρ Γ σ (.inl i) b → orO O (ownS Γ σ) b := fun {i b} h => .inr ⟨i, h⟩
  refine ⟨⟨R'.le, by rw [R.len]; simp, fun i d e => ?_, fun i d e => ?_, fun i k e => ?_, by simp only [List.length_take]; omega, fun k d e => ?_, fun k d e => ?_, fun l l' b h1 h2 => ?_, fun b hb => ?_, R'.tb, R'.nt, fun b hb => R'.pt b (.inl hb)⟩, fun l b h => ?_⟩
  · obtain ⟨c0, h1, h2⟩ := gs e
    cases c0 with
    | un => cases h2
    | val d' => cases h2; obtain ⟨v, h3, h4⟩ := R.vl i d h1; exact ⟨v, h3, RD.mono s.fs _ _ h4⟩
    | own d' => cases h2
    | par k =>
      simp only [unlend] at h2
      split at h2
      · cases h2
      · obtain ⟨a, h3, h4⟩ := R.pr i k h1
        cases q : st'[k]? with
        | none => rw [q] at h2; cases h2
        | some c =>
          rw [q] at h2
          cases c with
          | own d' => cases h2
          | frz d' => cases h2; obtain ⟨a', h5, h6⟩ := R'.sfz k d q; rw [h3] at h5; cases h5; exact ⟨_, h4, h6⟩
  · obtain ⟨c0, h1, h2⟩ := gs e
    rcases lent h1 h2 with ⟨rfl, a, h3, h4⟩ | ⟨k, a, hk, rfl, q1, q2, q3⟩
    · have ho : orO O (ownS Γ σ) a := .inr ⟨i, ⟨d, h1⟩, h3⟩
      exact ⟨a, h3, h4.stay s.fs (R'.prot a ho).1 (s.op a ho)⟩
    · obtain ⟨a', h5, h6⟩ := R'.sow k d q1
      rw [q2] at h5; cases h5
      exact ⟨a, q3, h6⟩
  · obtain ⟨c0, h1, h2⟩ := gs e
    cases c0 with
    | un => cases h2
    | val d' => cases h2
    | own d' => cases h2
    | par k' =>
      simp only [unlend] at h2
      split at h2
      · rename_i hk
        cases h2
        obtain ⟨a, h3, h4⟩ := R.pr i k h1
        exact ⟨a, kt hk h3, h4⟩
      · cases q : st'[k']? with
        | none => rw [q] at h2; cases h2
        | some c => rw [q] at h2; cases c <;> cases h2
  · obtain ⟨hk, e⟩ := tk e
    obtain ⟨a, h1, h2⟩ := R'.sow k d e
    exact ⟨a, kt hk h1, h2⟩
  · obtain ⟨hk, e⟩ := tk e
    obtain ⟨a, h1, h2⟩ := R'.sfz k d e
    exact ⟨a, kt hk h1, h2⟩
  · have pr : ∀ {i : Nat} {k : Nat}, LocAt ρ Γ σ (.inl i) b → LocAt ρ ⟨[], st'⟩ [] (.inr k) b → False := fun h1 h2 => (R'.prot b (oS h1)).2.2 _ h2
    rcases loc l b h1 with ⟨i, rfl, a1⟩ | ⟨i, k, rfl, hk, p1, a1⟩ | ⟨k, rfl, hk, a1⟩
    · rcases loc l' b h2 with ⟨i', rfl, a2⟩ | ⟨i', k', rfl, hk', p2, a2⟩ | ⟨k', rfl, hk', a2⟩
      · exact R.inj _ _ b a1 a2
      · exact (pr a1 a2).elim
      · exact (pr a1 a2).elim
    · rcases loc l' b h2 with ⟨i', rfl, a2⟩ | ⟨i', k', rfl, hk', p2, a2⟩ | ⟨k', rfl, hk', a2⟩
      · exact (pr a2 a1).elim
      · have e : k = k' := by injection R'.inj _ _ b a1 a2
        subst e
        rw [L.inj i i' k hk p1 p2]
      · have e : k = k' := by injection R'.inj _ _ b a1 a2
        omega
    · rcases loc l' b h2 with ⟨i', rfl, a2⟩ | ⟨i', k', rfl, hk', p2, a2⟩ | ⟨k', rfl, hk', a2⟩
      · exact (pr a2 a1).elim
      · have e : k = k' := by injection R'.inj _ _ b a1 a2
        omega
      · have e : k = k' := by injection R'.inj _ _ b a1 a2
        rw [e]
  · have hb' : orO O (ownS Γ σ) b := .inl hb
    obtain ⟨h1, h2, h3⟩ := R'.prot b hb'
    refine ⟨h1, h2, fun l hl => ?_⟩
    rcases loc l b hl with ⟨i, rfl, a1⟩ | ⟨i, k, rfl, hk, p1, a1⟩ | ⟨k, rfl, hk, a1⟩
    · exact (R.prot b hb).2.2 _ a1
    · exact h3 _ a1
    · exact h3 _ a1
  · rcases loc l b h with ⟨i, rfl, a1⟩ | ⟨i, k, rfl, hk, p1, a1⟩ | ⟨k, rfl, hk, a1⟩
    · exact .inr (.inr ⟨i, a1⟩)
    · exact .inr (.inl ⟨k, a1⟩)
    · exact .inl a1
end
section
variable {X : Cx} {e : Expr} {es : List Expr} {ml : ML} {pos : Pos}
theorem call_run {bs : List Bool} {n : Nat} {f : Sem'} (hf : ∀ cells st r, f cells st = some r → cells.length = n) {g : SemX} {E : L2.St → XK} {σ : L2.St} {H : Hp} {Q : VK} (h : tV X.K X.mg (mCall bs f ml) σ H Q) : tCallS (spX X.K X.mg n f g) E (tL X.K X.mg ml) σ H Q := by
  obtain ⟨ρ, O, Γ, F, res, Γ', R, e, k⟩ := h
  obtain ⟨⟨rs, Γ1⟩, e1, e⟩ := obind e
  obtain ⟨⟨cells, Γ2⟩, e2, e⟩ := obind e
  obtain ⟨⟨z, st'⟩, e3, e⟩ := obind e
  refine tL_run R e1 fun vs H1 F1 s1 c1 r1 => ?_
  obtain ⟨ρ1, F2, R2, s2, cl, L⟩ := passL_ok s1.rep r1 e2 s1.rep.lent0
  have hn := hf _ _ _ e3
  refine ⟨by rw [← cl.len]; exact hn, cells, ρ ++ ρ1, F2, orO O (ownS Γ2 σ), Γ2.st, ?_, .inl ⟨z, st', e3, fun v H' F' s rv => ?_⟩⟩
  · exact rep_callee R2 cl
  · obtain ⟨Rb, lb⟩ := rep_back R2 L s
    have hρ : (ρ ++ ρ1).take Γ1.st.length = ρ := by rw [← s1.rep.plen]; simp
    rw [hρ] at Rb lb
    have st : Stp X.K X.mg ρ O ⟨Γ2.sl.map (unlend Γ1.st.length st'), st'.take Γ1.st.length⟩ σ H F H' F' := s1.trans ⟨Rb, s2.trans s.fs, fun a ha => s.op a (.inl ha)⟩
    cases z with
    | val d => cases e; exact k v H' F' st trivial rv
    | fresh d =>
      cases e
      obtain ⟨p, h1, h2, h3, h4⟩ := rv
      refine k v H' F' st trivial ⟨p, h1, h2, fun z => h3 (.inl z), fun l hl => ?_⟩
      rcases lb l p hl with z | ⟨j, z⟩ | z
      · exact h4 _ z
      · exact h4 _ z
      · exact h3 (.inr z)
    | slot i => cases e
    | par j =>
      simp only at e
      split at e
      · rename_i hj
        cases e
        obtain ⟨p, h1, h2⟩ := rv
        refine k v H' F' st trivial ⟨p, ?_, h2⟩
        rw [← hρ, List.getElem?_take, if_pos hj]
        exact h1
      · cases e
/-- f(e, ..) -/
theorem ve_call {f0 : Addr} {fd : FuncData} {ps : List Str} {x : Str} {p : Pos} {k n : Nat} {f : Sem'} (bs : List Bool) {g : SemX} (F : FnG X.prog X.w X.K X.mg X.base k f0 fd ps (spX X.K X.mg n f g)) (hf : ∀ cells st r, f cells st = some r → cells.length = n) (hr : RoomG k X.A) (hm : X.mg x = some (.ref f0)) (hk : PySem.W.keepIn X.K (.ref f0) = true)
    (hb : Binds X.K fd ps []) (ha : VA X (e :: es) ml) (hg : Gl X x := by rfl) (hdb : (x == ("__debug__" : Str)) = false := by decide) (he : starEach (e :: es) X.env = (false, eval e X.env) :: starEach es X.env := by rfl) (hpl : (backTo pos (starEach es X.env)).any (·.1) = false := by rfl) :
    VE X (.Call (.Name x p) (e :: es) [] pos) (mCall bs f ml) := by
  exact pe_of (pe_callG (E := fun _ => E0) F hr hg hm hk hb (passE0 X) ha hdb he hpl) fun σ H Q h => call_run hf h
end
theorem defOf_len {p n : Nat} {m : MS} (cells : List Cell) (st : List SC) (r : EV × List SC) (h : defOf p n m cells st = some r) : cells.length = p := by
  unfold defOf at h
  split at h
  · assumption
  · cases h
theorem excOf_len {p n : Nat} {m : MS} (cells : List Cell) (st : List SC) (r : Str × List SC) (h : excOf p n m cells st = some r) : cells.length = p := by
  unfold excOf at h
  split at h
  · assumption
  · cases h
end VS

set_option Elab.async false
set_option linter.all false
set_option maxRecDepth 100000
set_option maxHeartbeats 4000000
namespace VS
open PySem L2 PyProof.Rows
variable [TabT]

/-! ### a def of the module, ready to be called -/
/-- it answers as f says, raises as g says -/
def GX (P : Program) (w : World) (K : PySem.W.Frag) (mg : Str → Option Value) (base : Heap) (x : Str) (k p : Nat) (f : Sem') (g : SemX) : Prop :=
  ∃ f0 fd ps, FnG P w K mg base k f0 fd ps (spX K mg p f g) ∧ mg x = some (.ref f0) ∧ PySem.W.keepIn K (.ref f0) = true ∧ Binds K fd ps [] ∧ (∀ cells st r, f cells st = some r → cells.length = p) ∧ ∀ cells st r, g cells st = some r → cells.length = p
abbrev GF (P : Program) (w : World) (K : PySem.W.Frag) (mg : Str → Option Value) (base : Heap) (x : Str) (k p : Nat) (f : Sem') : Prop := ∃ g, GX P w K mg base x k p f g
theorem GX.gf {P : Program} {w : World} {K : PySem.W.Frag} {mg : Str → Option Value} {base : Heap} {x : Str} {k p : Nat} {f : Sem'} {g : SemX} (h : GX P w K mg base x k p f g) : GF P w K mg base x k p f := ⟨g, h⟩
theorem gf_of {P : Program} {w : World} {K : PySem.W.Frag} {mg : Str → Option Value} {base : Heap} {x : Str} {k : Nat} {f0 : Addr} {fd : FuncData} {ps N : List Str} {m : MS} (F : FnG P w K mg base k f0 fd ps (spV K mg ps.length (defOf ps.length N.length m))) (hm : mg x = some (.ref f0))
    (hk : PySem.W.keepIn K (.ref f0) = true) (hb : Binds K fd ps []) : GF P w K mg base x k ps.length (defOf ps.length N.length m) := ⟨noX, f0, fd, ps, F, hm, hk, hb, defOf_len, fun _ _ _ e => nomatch e⟩
theorem gx_of {P : Program} {w : World} {K : PySem.W.Frag} {mg : Str → Option Value} {base : Heap} {x : Str} {k : Nat} {f0 : Addr} {fd : FuncData} {ps N : List Str} {m : MS} (F : FnG P w K mg base k f0 fd ps (spX K mg ps.length (defOf ps.length N.length m) (excOf ps.length N.length m))) (hm : mg x = some (.ref f0))
    (hk : PySem.W.keepIn K (.ref f0) = true) (hb : Binds K fd ps []) : GX P w K mg base x k ps.length (defOf ps.length N.length m) (excOf ps.length N.length m) := ⟨f0, fd, ps, F, hm, hk, hb, defOf_len, excOf_len⟩
section
variable {X : Cx} {e : Expr} {es : List Expr} {ml : ML} {pos : Pos}
theorem ve_callG {x : Str} {p : Pos} {k j n : Nat} {f : Sem'} (bs : List Bool) (G : GF X.prog X.w X.K X.mg X.base x k n f) (hr : RoomG j X.A) (ha : VA X (e :: es) ml) (hj : k ≤ j := by decide) (hg : Gl X x := by rfl) (hdb : (x == ("__debug__" : Str)) = false := by decide)
    (he : starEach (e :: es) X.env = (false, eval e X.env) :: starEach es X.env := by rfl) (hpl : (backTo pos (starEach es X.env)).any (·.1) = false := by rfl) :
    VE X (.Call (.Name x p) (e :: es) [] pos) (mCall bs f ml) := by
  obtain ⟨g, f0, fd, ps, F, hm, hk, hb, hl, _⟩ := G
  exact ve_call bs F hl (hr.mono hj) hm hk hb ha hg hdb he hpl
end
theorem units64 {k : Nat} {A : Around} (r : RoomG k A) : A.units + 64 < cLine := r.units
theorem units65 {k : Nat} {A : Around} (r : RoomG k A) : A.units + 65 < cLine := by
  have := r.un
  omega
/-! ### [..] * n -/
def mRepL (a b : M) : M := fun Γ => (a Γ).bind fun p => (b p.2).bind fun q => match p.1, q.1 with
  | .fresh (.lst xs), .val (.int k) => if k.natAbs / 4611686018427387904 = 0 ∧ xs.length * k.toNat ≤ sizeLine then some (.fresh (.lst (List.replicate k.toNat xs).flatten), q.2) else none
  | _, _ => none
theorem ve_repL {X : Cx} {a b : Expr} {ma mb : M} {pos : Pos} (ha : VE X a ma) (hb : VE X b mb) : VE X (.BinOp a .Mult b pos) (mRepL ma mb) := by
  refine pe_of (pe_op op_rep ha hb) fun σ H Q h => ?_
  obtain ⟨ρ, O, Γ, F, res, Γ', R, e, k⟩ := h
  obtain ⟨⟨ra, Γ1⟩, e1, e⟩ := obind e
  obtain ⟨⟨rb, Γ2⟩, e2, e⟩ := obind e
  refine seq2 R e1 e2 fun x y H' F' s c rx ry => ?_
  split at e
  · rename_i xs i h1 h2
    simp only at h1 h2
    subst h1 h2
    split at e
    · rename_i hz
      cases e
      obtain ⟨p, rfl, ⟨hn, vs, g1, g2⟩, _⟩ := rx
      have hy : y = .int i := by simpa only [RepEV, RD] using ry
      refine ⟨p, i, vs, rfl, hy, g1, (sm62 hz.1).1, (sm62 hz.1).2, by rw [← g2.length]; exact hz.2, ?_⟩
      exact gq_list s.rep.le (fun v H2 F2 g hr => k v H2 F2 (s.trans (Stp.grow s.rep g)) c (res_ev s.rep g hr)) (g2.rep _)
    · cases e
  · cases e
/-! ### the law -/
def spLaw (K : PySem.W.Frag) : Sp := fun vs H Q _ => ∃ (a : Addr) (ns : List Int), vs = [.ref a] ∧ LamX.Tabs TabT.T H ∧ SqL K H a (ns.map V.int) ∧ ns.length ≤ 63 ∧ (∀ z ∈ ns, Builtin.Int.intBits z ≤ 1048576) ∧ ∀ H', Q (.bl true) H'
theorem rds_ints {K : PySem.W.Frag} {mg : Str → Option Value} {F : Hp} : ∀ ns : List Int, RDs K mg F (ns.map D.int) (ns.map V.int)
  | [] => by simp [RDs]
  | n :: ns => by simp only [List.map_cons, RDs, RD]; exact ⟨_, _, rfl, rfl, rds_ints ns⟩
/-- the heap without the tables -/
def noTbl (H : Hp) : Hp := fun a => match H a with
  | some (.tbl _) => none
  | o => o
omit [TabT] in
theorem noTbl_le (H : Hp) : Same (noTbl H) H := fun a o e => by
  unfold noTbl at e
  split at e
  · cases e
  · exact e
omit [TabT] in
theorem noTbl_no (H : Hp) (a : Addr) (ps : Array Value) : noTbl H a ≠ some (.tbl ps) := fun e => by
  unfold noTbl at e
  split at e
  · cases e
  · rename_i h; exact h _ e
omit [TabT] in
theorem noTbl_at {H : Hp} {a : Addr} {o : HO} (h : H a = some o) (n : ∀ ps, o ≠ .tbl ps) : noTbl H a = some o := by
  unfold noTbl
  split
  · rename_i e; rw [h] at e; exact absurd (Option.some.inj e) (n _)
  · exact h
omit [TabT] in
theorem noTbl_sq {K : PySem.W.Frag} {H : Hp} {a : Addr} {vs : List V} (h : SqL K H a vs) : SqL K (noTbl H) a vs := by
  rcases h with (h | ⟨o, h⟩) | h
  · exact .inl (.inl (noTbl_at h fun ps z => by cases z))
  · exact .inl (.inr ⟨o, noTbl_at h fun ps z => by cases z⟩)
  · exact .inr h
/-- what is to be shown of the law's mirror -/
def LawOk (f : Sem') : Prop := ∀ ns : List Int, ns.length ≤ 63 → (∀ z ∈ ns, Builtin.Int.intBits z ≤ 1048576) → ∃ st, f [.val (.lst (ns.map D.int))] [] = some (.val (.bl true), st)
theorem law_imp {P : Program} {w : World} {K : PySem.W.Frag} {mg : Str → Option Value} {base : Heap} {k : Nat} {f0 : Addr} {fd : FuncData} {ps : List Str} {f : Sem'} (F : FnG P w K mg base k f0 fd ps (spV K mg 1 f)) (h : LawOk f) : FnG P w K mg base k f0 fd ps (spLaw K) := by
  refine F.imp fun vs H Q E hh => ?_
  obtain ⟨a, ns, rfl, hT, hS, h1, h2, hq⟩ := hh
  obtain ⟨st, e⟩ := h ns h1 h2
  refine ⟨rfl, [.val (.lst (ns.map D.int))], [], noTbl H, fun _ => False, [], ⟨noTbl_le H, rfl, fun i d e => ?_, fun i d e => ?_, fun i k e => ?_, rfl, fun k d e => ?_, fun k d e => ?_, fun l l' b hl _ => ?_, fun b hb => hb.elim, hT, noTbl_no H, fun b hb => hb.elim⟩, .inl ⟨_, st, e, fun v H' F' s rv => ?_⟩⟩
  · cases i with
    | zero =>
      simp at e
      subst e
      refine ⟨_, rfl, ?_⟩
      simp only [RD]
      exact ⟨a, _, rfl, noTbl_sq hS, rds_ints ns⟩
    | succ i => simp at e
  · cases i <;> simp at e
  · cases i <;> simp at e
  · simp at e
  · simp at e
  · cases l with
    | inl i => obtain ⟨⟨d, e⟩, _⟩ := hl; cases i <;> simp at e
    | inr i => obtain ⟨⟨d, e⟩, _⟩ := hl; simp at e
  · have : v = .bl true := by simpa only [RepEV, RD] using rv
    rw [this]
    exact hq H'
end VS

set_option Elab.async false
set_option linter.all false
set_option maxRecDepth 100000
set_option maxHeartbeats 4000000
/-! ### the end of a law's row, for promises kept where no repr is under way -/
namespace VS
open PySem PySem.Spec PyProof.Rows L2
variable [TabT]

/-- the heap as it is told at the law's call: the script locked, the tables empty -/
def hLaw (s : Shared) (K : PySem.W.Frag) (a : Addr) (vs : List Value) (ns : List Int) (ts : List Addr) : Hp := fun b =>
  if b ∈ ts then some (.tbl #[]) else if b = a ∧ K.lookup a = none then some (.frz { cls := .type "list", data := .seq vs.toArray } (.lst (ns.map V.int))) else none
section
variable {P : Program} {w : World} {K : PySem.W.Frag} {mg mb : Str → Option Value} {k : Nat} {fa a : Addr} {cs : List (Addr × Addr)} {fd : FuncData} {x : Str} {sp : Sp} {s : Shared} {vs : List Value} {ns : List Int} {ts : List Addr} {b : Addr} {o : Obj}
theorem hLaw_t (h : b ∈ ts) : hLaw s K a vs ns ts b = some (.tbl #[]) := by unfold hLaw; rw [if_pos h]
theorem hLaw_cases (u : HO) (h : hLaw s K a vs ns ts b = some u) : (b ∈ ts ∧ u = .tbl #[]) ∨ (b = a ∧ K.lookup a = none ∧ u = .frz { cls := .type "list", data := .seq vs.toArray } (.lst (ns.map V.int))) := by
  unfold hLaw at h
  split at h
  · rename_i hm; exact .inl ⟨hm, (Option.some.inj h).symm⟩
  · split at h
    · rename_i hz; exact .inr ⟨hz.1, hz.2, (Option.some.inj h).symm⟩
    · cases h
/-- what is neither the script nor a table is not told -/
theorem hLaw_other (hs : s.heap.get? b = some o) (ha : s.heap.get? a = some { cls := .type "list", data := .seq vs.toArray }) (ht : ∀ c ∈ ts, s.heap.get? c = some { cls := .none, data := .fields #[] })
    (n1 : ∀ its n, o.data ≠ .seq its n) (n2 : o.data ≠ .fields #[]) : hLaw s K a vs ns ts b = none := by
  cases q : hLaw s K a vs ns ts b with
  | none => rfl
  | some u =>
    rcases hLaw_cases u q with ⟨hm, _⟩ | ⟨rfl, _, _⟩
    · have z := ht b hm; rw [hs] at z; cases z; exact absurd rfl n2
    · rw [hs] at ha; cases ha; exact absurd rfl (n1 _ _)
theorem law_callG (KX : K.In s.heap) (hns : s.heap.Ns mainGlobals mg) (hbn : s.heap.Ns builtinsNs mb) (hbb : ∀ x : Str, x ≠ "__name__" → mb x = bootBuiltins x) (hlim : s.heap.NoLimit) (hg : s.gens = #[])
    (hT : ∀ p ∈ cs, s.heap.get? p.2 = some { cls := .none, data := .fields #[] }) (nT : ∀ p ∈ cs, K.lookup p.2 = none) (C : ∀ p ∈ cs, PySem.W.CodeHd s.heap p.1 p.2)
    (hbm : ∃ (bm : Addr) (ob : Obj), mg "__builtins__" = some (.ref bm) ∧ bm ≠ builtinsNs ∧ s.heap.get? bm = some ob ∧ ob.cls = .type "module" ∧ ob.dict = some builtinsNs ∧ ob.data = .plain)
    (ha : s.heap.get? a = some { cls := .type "list", data := .seq vs.toArray }) (hi : IntsAre vs ns) (hl : ns.length ≤ sizeLine) (hr : Room k callerA)
    (F : ∀ base : Heap, K.In base → base.Ns mainGlobals mg → (∀ p ∈ cs, LamX.TabB base mg p.1 p.2) → FnG P w K mg base k fa fd [x] sp) (hbind : ∀ (s : Shared) (u : Value), BindsTo s fd ⟨[u], []⟩ [(x, u)])
    (hsp : ∀ H : Hp, (∀ p ∈ cs, H p.2 = some (.tbl #[])) → SqL K H a (ns.map V.int) → sp [.ref a] H (fun v _ => v = .bl true) fun _ _ _ => False) :
    codeAny (model P w) callerA (.call (.ref fa) ⟨[.ref a], []⟩) (fun r s' => r = .ok (.ret (.bool true)) ∧ OldK s.heap s'.heap ∧ s'.os = s.os ∧ AllBare s'.gens) s := by
  have hT' : ∀ c ∈ cs.map (·.2), s.heap.get? c = some { cls := .none, data := .fields #[] } := by
    intro c hc
    obtain ⟨p, hp, rfl⟩ := List.mem_map.mp hc
    exact hT p hp
  have mem : ∀ p ∈ cs, p.2 ∈ cs.map (·.2) := fun p hp => List.mem_map_of_mem hp
  have hat : a ∉ cs.map (·.2) := fun z => by
    have e := hT' a z
    rw [ha] at e
    injection e with e
    injection e with _ _ e
    cases e
  let H := hLaw s K a vs ns (cs.map (·.2))
  have other : ∀ {b : Addr} {o : Obj}, s.heap.get? b = some o → (∀ its n, o.data ≠ .seq its n) → o.data ≠ .fields #[] → H b = none := fun hs n1 n2 => hLaw_other hs ha hT' n1 n2
  have up : ∀ {b : Addr} {o : Obj}, s.heap.get? b = some o → H b = none → (hidT s.heap H).get? b = some o := fun e n => hidT_get e n
  have hSq : SqL K H a (ns.map V.int) := by
    cases q : K.lookup a with
    | none => exact .inl (.inr ⟨_, (if_neg hat).trans (if_pos ⟨rfl, q⟩)⟩)
    | some o =>
      have e := KX a o q
      rw [ha] at e
      cases e
      exact .inr ⟨_, vs.toArray, _, q, rfl, rfl, rfl, by rw [List.size_toArray, hi.length]; exact hl, by simpa using vals_ints hi⟩
  have hok : HOk P w H s.heap := fun b u e => by
    rcases hLaw_cases u e with ⟨hm, rfl⟩ | ⟨rfl, _, rfl⟩
    · exact hT' b hm
    · exact ⟨ha, by rw [List.length_map]; exact hl, vs, _, vals_ints hi, ha⟩
  have dictless : ∀ {b : Addr} {o : Obj} {es : Array DictEntry} {ep : Nat}, s.heap.get? b = some o → o.data = .dict es ep → H b = none := fun e d => other e (fun _ _ z => by rw [d] at z; cases z) (fun z => by rw [d] at z; cases z)
  have nsUp : ∀ {b : Addr} {m : Str → Option Value}, s.heap.Ns b m → (hidT s.heap H).Ns b m := fun ⟨o, es, ep, e, d, r⟩ => ⟨o, es, ep, up e (dictless e d), d, r⟩
  have KB : K.In (hidT s.heap H) := by
    intro b o e
    refine up (KX b o e) ?_
    cases q : H b with
    | none => rfl
    | some u =>
      rcases hLaw_cases u q with ⟨hm, _⟩ | ⟨rfl, hn, _⟩
      · obtain ⟨p, hp, rfl⟩ := List.mem_map.mp hm
        rw [nT p hp] at e; cases e
      · rw [hn] at e; cases e
  have MB : L2.Mod K mg (hidT s.heap H) := by
    obtain ⟨mc, l1, l2⟩ := hlim
    exact ⟨KB, nsUp hns, ⟨mb, nsUp hbn, hbb⟩, mc, nsUp l1, l2⟩
  have notG : ∀ {b : Addr} {o : Obj}, s.heap.get? b = some o → (∀ es ep, o.data ≠ .dict es ep) → b ≠ mainGlobals := fun e n z => by
    obtain ⟨o', es, ep, e', hd, _⟩ := hns
    rw [z, e'] at e; cases e
    exact n _ _ hd
  have TBs : ∀ p ∈ cs, LamX.TabB (hidT s.heap H) mg p.1 p.2 := fun p hp => by
    constructor
    · obtain ⟨o, us, file, tf, flags, tg, inF, text, tt, e1, r1, r2, r3, rest⟩ := C p hp
      refine ⟨o, us, file, tf, flags, tg, inF, text, tt, up e1 (other e1 (fun _ _ z => ?_) fun z => ?_), r1, r2, r3, rest⟩
      · rw [r2] at z; cases z
      · rw [r2] at z
        injection z with z
        rw [z] at r3
        simp at r3
    · obtain ⟨bm, ob, b1, b2, b3, b4, b5, b6⟩ := hbm
      refine ⟨bm, ob, b1, b2, notG b3 (fun _ _ z => by rw [b6] at z; cases z), fun z => ?_, up b3 (other b3 (fun _ _ z => by rw [b6] at z; cases z) fun z => by rw [b6] at z; cases z), b4, b5, b6⟩
      have e := hT p hp
      rw [← z, b3] at e
      injection e with e
      rw [e] at b6
      cases b6
    · exact (notG (hT p hp) fun _ _ z => by cases z).symm
  have e0 : Env0 P w K mg (hidT s.heap H) callerA [] s H := ⟨rfl, MB, fun b o e => of_hidT e, Nat.le_of_eq (hidT_size _ _), trivial, fun b hb => absurd hb List.not_mem_nil, hok, .of_eq hg⟩
  have core := (F _ KB (nsUp hns) TBs).run callerA [] s H ⟨[.ref a], []⟩ [.ref a] [.ref a] _ _ ⟨hr, fun _ => rfl⟩ e0 (hbind s (.ref a)) (.cons rfl .nil) (hsp H (fun p hp => hLaw_t (mem p hp)) hSq)
  refine codeAny_mono core fun r s' h => ?_
  match r, h with
  | .error e, h => obtain ⟨_, _, _, _, _, _, _, _, _, _, _, _, z⟩ := (show L2.CX P w [] H s (fun _ _ _ => False) e s' from h); exact z.elim
  | .ok .next, h => exact (show False from h).elim
  | .ok .brk, h => exact (show False from h).elim
  | .ok .cont, h => exact (show False from h).elim
  | .ok (.ret u), h =>
    obtain ⟨v, H', os, bare, un, hok', rv, rfl⟩ := (show CE [] P w H s (fun v _ => v = .bl true) u s' from h)
    obtain rfl : u = Value.bool true := rv
    have stay : ∀ b o, b ∉ cs.map (·.2) → s.heap.get? b = some o → s'.heap.get? b = some o := fun b o nb e => by
      cases q : H b with
      | none => exact un.keep b o e q (fun z => absurd z List.not_mem_nil) (by simp)
      | some u =>
        rcases hLaw_cases u q with ⟨hm, _⟩ | ⟨rfl, _, rfl⟩
        · exact absurd hm nb
        · have e2 := (hok' b _ (un.frzs b _ _ q)).1
          rw [ha] at e; cases e
          exact e2
    have wide : ∀ p ∈ cs, ∃ more : Array Value, s'.heap.get? p.2 = some { cls := .none, data := .fields more } := fun p hp => by
      obtain ⟨more, z⟩ := un.tbls p.2 #[] (hLaw_t (mem p hp))
      exact ⟨_, hok' p.2 _ z⟩
    refine ⟨rfl, ⟨fun b o e => ?_, fun b o e => ?_⟩, os, bare⟩
    · by_cases hm : b ∈ cs.map (·.2)
      · obtain ⟨p, hp, rfl⟩ := List.mem_map.mp hm
        obtain ⟨more, z⟩ := wide p hp
        rw [hT p hp] at e; cases e
        exact .inr (.inl ⟨((C p hp).tab (hT p hp)).isCodeTable, rfl, #[], more, rfl, by rw [Array.empty_append]; exact z⟩)
      · exact .inl (stay b o hm e)
    · by_cases hm : b ∈ cs.map (·.2)
      · obtain ⟨p, hp, rfl⟩ := List.mem_map.mp hm
        obtain ⟨more, z⟩ := wide p hp
        exact ⟨_, z⟩
      · exact ⟨o, stay b o hm e⟩
end
omit [TabT] in
/-- the end over the head that k_head leaves: no tables -/
theorem walk (gd : Bool) {l : PySem.W.OpenLaw} {q : Program} {loose : List Str} {XP : (Str → Option Value) → Heap → Prop} {YP : World → Heap → Prop} {d : DefRec} {K : Params → PySem.W.Frag} (k : Nat) (hr : Room k callerA) (hn : l.most = some 63) (hdf : d.params.defaults = [])
    (hY : ∀ (w : World) (h : Heap), YP w h → (K w.params).In h)
    (F : ∀ (w : World) (mg : Str → Option Value) (fa : Addr) (h : Heap), (K w.params).In h → h.Ns mainGlobals mg → mg d.name = some (.ref fa) →
      ∃ fd : FuncData, (∀ (s : Shared) (u : Value), BindsTo s fd ⟨[u], []⟩ [("script", u)]) ∧ ∀ base : Heap, (K w.params).In base → base.Ns mainGlobals mg → @FnG ⟨[], gd⟩ l.prog w (K w.params) mg base k fa fd ["script"] (@spLaw ⟨[], gd⟩ (K w.params))) :
    PySem.W.WalkO q loose XP YP l.row.toRowW d [] (fun f vs => PySem.call f vs) := by
  refine Att.attach_callB hn hdf fun w s₀ s₁ mg mb fa o pm cd doc a vs ns G Y ho hd hcd hmg hobj hints hlen hbits hg => ?_
  have KX := hY w _ Y
  obtain ⟨fd, hb, hF⟩ := F w mg fa _ KX G.T.g hmg
  letI : TabT := ⟨[], gd⟩
  refine law_callG (cs := []) KX G.T.g G.T.b G.T.builtins G.T.nolimit hg (fun p hp => absurd hp List.not_mem_nil) (fun p hp => absurd hp List.not_mem_nil) (fun p hp => absurd hp List.not_mem_nil) G.T.bmain hobj hints (Nat.le_trans hlen (by decide)) hr (fun base h1 h2 _ => hF base h1 h2) hb fun H _ hS => ?_
  exact ⟨a, ns, rfl, fun p hp => absurd hp List.not_mem_nil, hS, hlen, hbits, fun _ => rfl⟩
omit [TabT] in
/-- the end over a head of facts, with tables -/
theorem walkX (gd : Bool) {l : PySem.W.OpenLaw} {q : Program} {loose : List Str} {XP : (Str → Option Value) → Heap → Prop} {d : DefRec} {n : Nat} {fa : List He.Fa} {fn : List He.DefD} {ts : List He.Tab} {tf : List He.Defn} {ex : PySem.W.Frag → Bool} (k : Nat) (hr : Room k callerA) (hn : l.most = some 63) (hdf : d.params.defaults = [])
    (F : ∀ (w : World) (mg : Str → Option Value) (f0 : Addr) (h : Heap) (K : PySem.W.Frag), K.In h → He.SaysX fa fn ts tf ex w h K → h.Ns mainGlobals mg → mg d.name = some (.ref f0) →
      ∃ (fd : FuncData) (T : List (Addr × Str)), (∀ p ∈ T, ∃ z ∈ tf, p.1 = (He.cT K z).2) ∧ (∀ (s : Shared) (u : Value), BindsTo s fd ⟨[u], []⟩ [("script", u)]) ∧
        ∀ base : Heap, K.In base → base.Ns mainGlobals mg → (∀ z ∈ tf, LamX.TabB base mg (He.cT K z).1 (He.cT K z).2) → @FnG ⟨T, gd⟩ l.prog w K mg base k f0 fd ["script"] (@spLaw ⟨T, gd⟩ K)) :
    PySem.W.WalkO q loose XP (He.hookX n fa fn ts tf ex).says l.row.toRowW d [] (fun f vs => PySem.call f vs) := by
  refine Att.attach_callB hn hdf fun w s₀ s₁ mg mb f0 o pm cd doc a vs ns G Y ho hd hcd hmg hobj hints hlen hbits hg => ?_
  obtain ⟨K, KX, c⟩ := Y
  obtain ⟨fd, T, hT, hb, hF⟩ := F w mg f0 _ K KX c G.T.g hmg
  have tr : ∀ p ∈ tf.map (He.cT K), ∃ z ∈ tf, p = He.cT K z := fun p hp => by obtain ⟨z, h1, h2⟩ := List.mem_map.mp hp; exact ⟨z, h1, h2.symm⟩
  letI : TabT := ⟨T, gd⟩
  refine law_callG (cs := tf.map (He.cT K)) KX G.T.g G.T.b G.T.builtins G.T.nolimit hg ?_ ?_ ?_ G.T.bmain hobj hints (Nat.le_trans hlen (by decide)) hr (fun base h1 h2 h3 => hF base h1 h2 fun z hz => h3 _ (List.mem_map_of_mem hz)) hb fun H hH hS => ?_
  · intro p hp; obtain ⟨z, hz, rfl⟩ := tr p hp; exact c.empty z hz
  · intro p hp; obtain ⟨z, hz, rfl⟩ := tr p hp; exact c.out z hz
  · intro p hp; obtain ⟨z, hz, rfl⟩ := tr p hp; exact PySem.W.codeHd_of_K KX (c.hd z hz)
  · exact ⟨a, ns, rfl, fun p hp => by obtain ⟨z, hz, e⟩ := hT p hp; rw [e]; exact LamX.TabS.nil (hH _ (List.mem_map_of_mem hz)), hS, hlen, hbits, fun _ => rfl⟩
end VS

set_option Elab.async false
set_option linter.all false
set_option maxRecDepth 100000
set_option maxHeartbeats 4000000
namespace VS
open PySem L2 PyProof.Rows
variable [TabT]

/-! ### a value is frozen at once -/
def mFrz (m : M) : M := fun Γ => (m Γ).bind fun p => (freeze p.1 p.2).map fun q => (.val q.1, q.2)
section
variable {X : Cx} {e : Expr} {es : List Expr} {m : M} {ml : ML} {pos : Pos}
theorem ve_frz (h : VE X e m) : VE X e (mFrz m) := by
  refine pe_of h fun σ H Q h => ?_
  obtain ⟨ρ, O, Γ, F, r, Γ', R, e, k⟩ := h
  obtain ⟨⟨r1, Γ1⟩, e1, e⟩ := obind e
  obtain ⟨⟨d, Γ2⟩, e2, e3⟩ := omap e
  cases e3
  refine tV_run R e1 fun v H1 F1 s1 c1 r1 => ?_
  obtain ⟨F2, R2, s2, rd, c2⟩ := freeze_ok s1.rep r1 e2
  exact k v H1 F2 (s1.trans ⟨R2, s2, fun _ _ => rfl⟩) trivial rd
/-! ### a, b = x, y -/
def mPar (i j : Nat) (ml : ML) : MS := fun Γ => (ml Γ).bind fun p => (freezeL p.1 p.2).bind fun q => match q.1 with
  | [d, e] => some (.nx, setCell (setCell q.2 i (.val d)) j (.val e))
  | _ => none
def mPar3 (i j l : Nat) (ml : ML) : MS := fun Γ => (ml Γ).bind fun p => (freezeL p.1 p.2).bind fun q => match q.1 with
  | [d, e, f] => some (.nx, setCell (setCell (setCell q.2 i (.val d)) j (.val e)) l (.val f))
  | _ => none
theorem vs_par {i j : Nat} {x y : Str} {a b : Expr} {px py pt : Pos} {kt k2 pt2} (hc : X.calm = true) (hN : X.N.Nodup) (ha : VA X [a, b] ml) (hi : X.N[i]? = some x := by rfl) (hj : X.N[j]? = some y := by rfl) (hij : i ≠ j := by decide)
    (hx : X.env.scope.names.lookup x = some .local := by rfl) (hy : X.env.scope.names.lookup y = some .local := by rfl)
    (hw : swappedStores [.Tuple [.Name x px, .Name y py] kt pt] (.Tuple [a, b] k2 pt2) X.env = pure (some [x, y]) := by rfl)
    (hs : swapsWithSole [.Tuple [.Name x px, .Name y py] kt pt] (.Tuple [a, b] k2 pt2) pos.line X.env = pure false := by rfl) :
    VSt X (.Assign [.Tuple [.Name x px, .Name y py] kt pt] (.Tuple [a, b] k2 pt2) pos) (mPar i j ml) := by
  intro W tk
  refine ps_of (ps_par hc hN hi hj hij hx hy ha hw hs) fun D σ H h => ?_
  obtain ⟨ρ, O, Γ, F, fl, Γ', R, e, k⟩ := h
  obtain ⟨⟨rs, Γ1⟩, e1, e⟩ := obind e
  obtain ⟨⟨ds, Γ2⟩, e2, e⟩ := obind e
  refine tL_run R e1 fun vs H1 F1 s1 c1 r1 => ?_
  obtain ⟨F2, R2, s2, rd, _⟩ := freezeL_ok s1.rep r1 e2
  simp only at e
  split at e
  · cases e
    simp only [RDs] at rd
    obtain ⟨v, _, rfl, h1, w, _, rfl, h2, rfl⟩ := rd
    refine ⟨v, w, rfl, ?_⟩
    have R3 := R2.setCell (i := i) (c := .val _) (x := some v) ⟨v, rfl, h1⟩
    have R4 := R3.setCell (i := j) (c := .val _) (x := some w) ⟨w, rfl, h2⟩
    exact k _ H1 F2 ⟨R4, s1.fs.trans s2, s1.op⟩
  · cases e
theorem vs_par3 {i j l : Nat} {x y z : Str} {a b c : Expr} {px py pz pt : Pos} {kt k2 pt2} (hc : X.calm = true) (hN : X.N.Nodup) (ha : VA X [a, b, c] ml) (hi : X.N[i]? = some x := by rfl) (hj : X.N[j]? = some y := by rfl) (hl : X.N[l]? = some z := by rfl)
    (hij : i ≠ j := by decide) (hil : i ≠ l := by decide) (hjl : j ≠ l := by decide)
    (hx : X.env.scope.names.lookup x = some .local := by rfl) (hy : X.env.scope.names.lookup y = some .local := by rfl) (hz : X.env.scope.names.lookup z = some .local := by rfl)
    (hw : swappedStores [.Tuple [.Name x px, .Name y py, .Name z pz] kt pt] (.Tuple [a, b, c] k2 pt2) X.env = pure (some [x, y, z]) := by rfl)
    (hs : swapsWithSole [.Tuple [.Name x px, .Name y py, .Name z pz] kt pt] (.Tuple [a, b, c] k2 pt2) pos.line X.env = pure false := by rfl) :
    VSt X (.Assign [.Tuple [.Name x px, .Name y py, .Name z pz] kt pt] (.Tuple [a, b, c] k2 pt2) pos) (mPar3 i j l ml) := by
  intro W tk
  refine ps_of (ps_par3 hc hN hi hj hl hij hil hjl hx hy hz ha hw hs) fun D σ H h => ?_
  obtain ⟨ρ, O, Γ, F, fl, Γ', R, e, k⟩ := h
  obtain ⟨⟨rs, Γ1⟩, e1, e⟩ := obind e
  obtain ⟨⟨ds, Γ2⟩, e2, e⟩ := obind e
  refine tL_run R e1 fun vs H1 F1 s1 c1 r1 => ?_
  obtain ⟨F2, R2, s2, rd, _⟩ := freezeL_ok s1.rep r1 e2
  simp only at e
  split at e
  · cases e
    simp only [RDs] at rd
    obtain ⟨v, _, rfl, h1, w, _, rfl, h2, u, _, rfl, h3, rfl⟩ := rd
    refine ⟨v, w, u, rfl, ?_⟩
    have R3 := R2.setCell (i := i) (c := .val _) (x := some v) ⟨v, rfl, h1⟩
    have R4 := R3.setCell (i := j) (c := .val _) (x := some w) ⟨w, rfl, h2⟩
    have R5 := R4.setCell (i := l) (c := .val _) (x := some u) ⟨u, rfl, h3⟩
    exact k _ H1 F2 ⟨R5, s1.fs.trans s2, s1.op⟩
  · cases e
end
/-! ### two clauses -/
def lc2D (vs vs1 : List Nat) (g : MG) (tt : MB) (mi1 : MI) (g1 : MG) (tt1 : MB) (m : M) : List D → List D → VEnv → Option (List D × VEnv)
  | [], acc, Γ => some (acc, Γ)
  | d :: ds, acc, Γ => (g (.val d) Γ).bind fun Γ1 => (tt Γ1).bind fun p => if p.1 = true then
      (mi1 p.2).bind fun q => (lcD vs1 g1 tt1 m q.1 acc (wipeE q.2 vs1)).bind fun z => lc2D vs vs1 g tt mi1 g1 tt1 m ds z.1 (wipeE z.2 vs)
    else lc2D vs vs1 g tt mi1 g1 tt1 m ds acc (wipeE p.2 vs)
def mLc2 (vs vs1 : List Nat) (mi : MI) (g : MG) (tt : MB) (mi1 : MI) (g1 : MG) (tt1 : MB) (m : M) : M := fun Γ => (mi Γ).bind fun p => if okW p.2 vs = true then
  (lc2D vs vs1 g tt mi1 g1 tt1 m p.1 [] (wipeE p.2 vs)).map fun q => (.fresh (.lst q.1), backE p.2 q.2 vs) else none
theorem wipe_sub {σ : L2.St} {vs ws : List Nat} (h : ∀ i ∈ ws, i ∈ vs) : wipe (wipe σ ws) vs = wipe σ vs := by
  apply List.ext_getElem?
  intro j
  rw [wipe_at, wipe_length, wipe_at (us := vs)]
  by_cases hj : j ∈ vs ∧ j < σ.length
  · rw [if_pos hj, if_pos hj]
  · rw [if_neg hj, if_neg hj, wipe_at]
    by_cases hw : j ∈ ws ∧ j < σ.length
    · exact absurd ⟨h j hw.1, hw.2⟩ hj
    · rw [if_neg hw]
section
variable {X : Cx} {e tg iter tg1 iter1 elt : Expr} {es ifs ifs1 : List Expr} {m : M} {mi mi1 : MI} {g g1 : MG} {ws ws1 : List Nat} {tt tt1 : MB} {pos : Pos}
/-- one clause's turns -/
theorem lc_turns {K : PySem.W.Frag} {mg : Str → Option Value} {ρ : List Addr} {O : Addr → Prop} {Γ Γe : VEnv} {σ : L2.St} {H F : Hp} {J : It} {ds acc : List D} {accV : List V} {Da : Addr} {vs : List Nat} {res : List D} {Nx : Hp → Prop} (hw : ∀ i ∈ ws, i ∈ vs) (nO : ¬ O Da)
    (w : WalkD K mg J F ds) (R : Rep K mg ρ (orO O (· = Da)) Γ (wipe σ vs) H F) (hD : H Da = some (.lst accV)) (ha : RDs K mg F acc accV) (e : lcD vs g tt m ds acc Γ = some (res, Γe))
    (k : ∀ H' F' accV', Rep K mg ρ (orO O (· = Da)) Γe (wipe σ vs) H' F' → Same F F' → (∀ a, O a → H' a = H a) → H' Da = some (.lst accV') → RDs K mg F' res accV' → Nx H') :
    ∃ W : Nat → Nat → Hp → Prop, (∃ m, W 0 m H) ∧ ∀ i n H', W i n H' → (J.stop i H' ∧ Nx H') ∨ (J.go i H' ∧ ∃ N2 : Hp → Prop, (∀ H'', N2 H'' → ∃ n', n' < n ∧ W (i + 1) n' H'') ∧
      ∀ x H'', J.yld i H' x H'' → tG K mg ws g x (wipe σ vs) H'' fun σ3 H5 => wipe σ3 vs = wipe σ vs ∧ tB K mg tt σ3 H5 fun b H6 =>
        if b = true then tV K mg m σ3 H6 fun y H7 => ∃ acc, H7 Da = some (.lst acc) ∧ acc.length < sizeLine ∧ N2 (upd H7 Da (.lst (acc ++ [y]))) else N2 H6) := by
  refine ⟨fun i n H' => n = ds.length - i ∧ i ≤ ds.length ∧ ∃ Γi Fi acc accV, Rep K mg ρ (orO O (· = Da)) Γi (wipe σ vs) H' Fi ∧ Same F Fi ∧ (∀ a, O a → H' a = H a) ∧ H' Da = some (.lst accV) ∧ RDs K mg Fi acc accV ∧
      lcD vs g tt m (ds.drop i) acc Γi = some (res, Γe), ⟨_, rfl, Nat.zero_le _, Γ, F, acc, accV, R, Same.refl _, fun _ _ => rfl, hD, ha, by simpa using e⟩, fun i n H' hW => ?_⟩
  obtain ⟨rfl, hi, Γi, Fi, acc, accV, Ri, hfi, hoi, hDi, hai, ei⟩ := hW
  have hsame : Same F H' := hfi.trans Ri.le
  by_cases hlt : i < ds.length
  · refine .inr ⟨w.goes i H' hlt hsame, fun H2 => ∃ Γ2 F2 acc2 accV2, Rep K mg ρ (orO O (· = Da)) Γ2 (wipe σ vs) H2 F2 ∧ Same F F2 ∧ (∀ a, O a → H2 a = H a) ∧ H2 Da = some (.lst accV2) ∧ RDs K mg F2 acc2 accV2 ∧
        lcD vs g tt m (ds.drop (i + 1)) acc2 Γ2 = some (res, Γe), fun H2 hN => ?_, fun x H2 hy => ?_⟩
    · obtain ⟨Γ2, F2, acc2, accV2, h1, h2, h3, h4, h5, h6⟩ := hN
      exact ⟨ds.length - (i + 1), by omega, rfl, by omega, Γ2, F2, acc2, accV2, h1, h2, h3, h4, h5, h6⟩
    · obtain ⟨F2, d, hd, gr, rd⟩ := w.yields i H' x H2 Fi hlt hy hfi Ri.le
      have edrop : ds.drop i = d :: ds.drop (i + 1) := by
        rw [List.drop_eq_getElem_cons hlt]
        congr 1
        rw [List.getElem?_eq_getElem hlt] at hd
        exact Option.some.inj hd
      rw [edrop] at ei
      simp only [lcD] at ei
      obtain ⟨Γ2, e4, ei⟩ := obind ei
      obtain ⟨⟨b5, Γ3⟩, e5, ei⟩ := obind ei
      have R2 := Ri.grow gr
      refine tG_run (r := .val d) R2 rd e4 fun σ3 H3 F3 s3 hw3 => ?_
      have hw3' : wipe σ3 vs = wipe σ vs := (hw3 vs hw).trans wipe_wipe
      refine ⟨hw3', ?_⟩
      refine tB_run s3.rep e5 fun H4 F4 s4 c4 => ?_
      have s34 := s3.trans s4
      have hf4 : Same F F4 := (hfi.trans gr.fs).trans s34.fs
      have ho4 : ∀ a, O a → H4 a = H a := fun a ha => ((s34.op a (.inl ha)).trans (Ri.opres gr.hs a (.inl ha))).trans (hoi a ha)
      have hD4 : H4 Da = some (.lst accV) := ((s34.op Da (.inr rfl)).trans (Ri.opres gr.hs Da (.inr rfl))).trans hDi
      have ha4 : RDs K mg F4 acc accV := RDs.mono (gr.fs.trans s34.fs) _ _ hai
      cases b5 with
      | false =>
        refine iteF ⟨wipeE Γ3 vs, F4, acc, accV, ?_, hf4, ho4, hD4, ha4, ei⟩
        have := s4.rep.wiped vs
        rw [hw3'] at this
        exact this
      | true =>
        refine iteT ?_
        obtain ⟨⟨r6, Γ4⟩, e6, ei⟩ := obind ei
        obtain ⟨⟨d7, Γ5⟩, e7, ei⟩ := obind ei
        split at ei
        · rename_i hz
          refine tV_run s4.rep e6 fun y H5 F5 s5 c5 r5 => ?_
          obtain ⟨F6, R6, s6, rd6, c6⟩ := freeze_ok s5.rep r5 e7
          have hD5 : H5 Da = some (.lst accV) := (s5.op Da (.inr rfl)).trans hD4
          have ha6 : RDs K mg F6 acc accV := RDs.mono (s5.fs.trans s6) _ _ ha4
          refine ⟨accV, hD5, by rw [← ha6.length]; exact hz, wipeE Γ5 vs, F6, acc ++ [d7], accV ++ [y], ?_, (hf4.trans s5.fs).trans s6, fun a ha => ?_, upd_same, ha6.append (by simp only [RDs]; exact ⟨y, [], rfl, rd6, rfl⟩), ei⟩
          · have := (R6.updO (a := Da) (.inr rfl) (H' := upd H5 Da (.lst (accV ++ [y]))) (fun b hb => upd_ne hb) (by rw [upd_same]; exact fun z => nomatch z) (fun ps => by rw [upd_same]; exact fun z => nomatch z) ⟨_, hD5⟩).wiped vs
            rw [hw3'] at this
            exact this
          · rw [upd_ne (fun (z : a = Da) => nO (z ▸ ha)), s5.op a (.inl ha)]
            exact ho4 a ha
        · cases ei
  · have hi' : i = ds.length := by omega
    subst hi'
    refine .inl ⟨w.stops H' hsame, ?_⟩
    rw [List.drop_length] at ei
    cases ei
    exact k H' Fi accV Ri hfi hoi hDi hai
theorem ve_lc2 {scope : Scope} {own : List (Str × Nat)} {vs1 : List Nat} (hc : X.calm = true) (hN : X.N.Nodup) (hi : VI X tg iter mi) (ok : BlkOk X.N X.env.scope scope own) (hv : ∀ i ∈ vs1, i ∈ own.map (·.2)) (hw : ∀ i ∈ ws, i ∈ own.map (·.2)) (hw1 : ∀ i ∈ ws1, i ∈ vs1)
    (hg : ∀ (s : Shared) (H : Hp) (C : Addr) (cl : List (Str × Addr)) (fp : List Addr), VG (X.blk s H scope (compEnvC scope cl C X.env) fp) tg ws g)
    (ht : ∀ (s : Shared) (H : Hp) (C : Addr) (cl : List (Str × Addr)) (fp : List Addr), VTs (X.blk s H scope (compEnvC scope cl C X.env) fp) ifs tt)
    (hi1 : ∀ (s : Shared) (H : Hp) (C : Addr) (cl : List (Str × Addr)) (fp : List Addr), VI (X.blk s H scope (compEnvC scope cl C X.env) fp) tg1 iter1 mi1)
    (hg1 : ∀ (s : Shared) (H : Hp) (C : Addr) (cl : List (Str × Addr)) (fp : List Addr), VG (X.blk s H scope (compEnvC scope cl C X.env) fp) tg1 ws1 g1)
    (ht1 : ∀ (s : Shared) (H : Hp) (C : Addr) (cl : List (Str × Addr)) (fp : List Addr), VTs (X.blk s H scope (compEnvC scope cl C X.env) fp) ifs1 tt1)
    (he : ∀ (s : Shared) (H : Hp) (C : Addr) (cl : List (Str × Addr)) (fp : List Addr), VE (X.blk s H scope (compEnvC scope cl C X.env) fp) elt m) (hs : ∀ x, foldedSetIterable iter X.env x = pure x := by intro _; rfl) (hs1 : ∀ env x, foldedSetIterable iter1 env x = pure x := by intro _ _; rfl) :
    VE X (.ListComp elt [⟨tg, iter, ifs, 0⟩, ⟨tg1, iter1, ifs1, 0⟩] scope pos) (mLc2 (own.map (·.2)) vs1 mi g tt mi1 g1 tt1 m) ∧
    ∀ σ H Q, tV X.K X.mg (mLc2 (own.map (·.2)) vs1 mi g tt mi1 g1 tt1 m) σ H Q → tLc2 (tI X.K X.mg mi) (tG X.K X.mg ws g) (tB X.K X.mg tt) (tI X.K X.mg mi1) (tG X.K X.mg ws1 g1) (tB X.K X.mg tt1) (tV X.K X.mg m) (own.map (·.2)) vs1 σ H Q := by
  have main : ∀ σ H Q, tV X.K X.mg (mLc2 (own.map (·.2)) vs1 mi g tt mi1 g1 tt1 m) σ H Q → tLc2 (tI X.K X.mg mi) (tG X.K X.mg ws g) (tB X.K X.mg tt) (tI X.K X.mg mi1) (tG X.K X.mg ws1 g1) (tB X.K X.mg tt1) (tV X.K X.mg m) (own.map (·.2)) vs1 σ H Q := by
    intro σ H Q h
    generalize own.map (·.2) = vs at *
    obtain ⟨ρ, O, Γ, F, r, Γ', R, e, k⟩ := h
    obtain ⟨⟨ds, Γ1⟩, e1, e⟩ := obind e
    split at e
    · rename_i hok
      obtain ⟨⟨res, Γe⟩, e2, e3⟩ := omap e
      cases e3
      refine ⟨ρ, O, Γ, F, ds, Γ1, R, e1, fun J H1 F1 s1 c1 w => ?_⟩
      intro D hD
      have hFD : F1 D = none := same_none s1.rep.le hD
      have nO : ¬ O D := fun z => (s1.rep.prot D z).2.1 hD
      have R0 : Rep X.K X.mg ρ (orO O (· = D)) Γ1 σ (upd H1 D (.lst [])) F1 :=
        (s1.rep.grow (grow_own s1.rep.le hD)).addO hFD (by rw [upd_same]; exact fun z => nomatch z) (fun ps => by rw [upd_same]; exact fun z => nomatch z) fun l z => z.there s1.rep hD
      have ho0 : ∀ a, O a → upd H1 D (.lst []) a = H a := fun a ha => by rw [upd_ne (fun (z : a = D) => nO (z ▸ ha))]; exact s1.op a ha
      refine ⟨fun i n H' => n = ds.length - i ∧ i ≤ ds.length ∧ ∃ Γi Fi acc accV, Rep X.K X.mg ρ (orO O (· = D)) Γi (wipe σ vs) H' Fi ∧ Same F1 Fi ∧ (∀ a, O a → H' a = H a) ∧ H' D = some (.lst accV) ∧ RDs X.K X.mg Fi acc accV ∧
          lc2D vs vs1 g tt mi1 g1 tt1 m (ds.drop i) acc Γi = some (res, Γe), ⟨_, rfl, Nat.zero_le _, wipeE Γ1 vs, F1, [], [], R0.wiped vs, Same.refl _, ho0, upd_same, by simp only [RDs], by simpa using e2⟩, fun i n H' hW => ?_⟩
      obtain ⟨rfl, hi, Γi, Fi, acc, accV, Ri, hfi, hoi, hDi, hai, ei⟩ := hW
      have hsame : Same F1 H' := hfi.trans Ri.le
      by_cases hlt : i < ds.length
      · refine .inr ⟨w.goes i H' hlt hsame, fun H2 => ∃ Γ2 F2 acc2 accV2, Rep X.K X.mg ρ (orO O (· = D)) Γ2 (wipe σ vs) H2 F2 ∧ Same F1 F2 ∧ (∀ a, O a → H2 a = H a) ∧ H2 D = some (.lst accV2) ∧ RDs X.K X.mg F2 acc2 accV2 ∧
            lc2D vs vs1 g tt mi1 g1 tt1 m (ds.drop (i + 1)) acc2 Γ2 = some (res, Γe), fun H2 hN => ?_, fun x H2 hy => ?_⟩
        · obtain ⟨Γ2, F2, acc2, accV2, h1, h2, h3, h4, h5, h6⟩ := hN
          exact ⟨ds.length - (i + 1), by omega, rfl, by omega, Γ2, F2, acc2, accV2, h1, h2, h3, h4, h5, h6⟩
        · obtain ⟨F2, d, hd, gr, rd⟩ := w.yields i H' x H2 Fi hlt hy hfi Ri.le
          have edrop : ds.drop i = d :: ds.drop (i + 1) := by
            rw [List.drop_eq_getElem_cons hlt]
            congr 1
            rw [List.getElem?_eq_getElem hlt] at hd
            exact Option.some.inj hd
          rw [edrop] at ei
          simp only [lc2D] at ei
          obtain ⟨Γ2, e4, ei⟩ := obind ei
          obtain ⟨⟨b5, Γ3⟩, e5, ei⟩ := obind ei
          have R2 := Ri.grow gr
          refine tG_run (r := .val d) R2 rd e4 fun σ3 H3 F3 s3 hw3 => ?_
          have hw3' : wipe σ3 vs = wipe σ vs := (hw3 vs hw).trans wipe_wipe
          refine ⟨hw3', ?_⟩
          refine tB_run s3.rep e5 fun H4 F4 s4 c4 => ?_
          have s34 := s3.trans s4
          have hf4 : Same F1 F4 := (hfi.trans gr.fs).trans s34.fs
          have ho4 : ∀ a, O a → H4 a = H a := fun a ha => ((s34.op a (.inl ha)).trans (Ri.opres gr.hs a (.inl ha))).trans (hoi a ha)
          have hD4 : H4 D = some (.lst accV) := ((s34.op D (.inr rfl)).trans (Ri.opres gr.hs D (.inr rfl))).trans hDi
          have ha4 : RDs X.K X.mg F4 acc accV := RDs.mono (gr.fs.trans s34.fs) _ _ hai
          cases b5 with
          | false =>
            refine iteF ⟨wipeE Γ3 vs, F4, acc, accV, ?_, hf4, ho4, hD4, ha4, ei⟩
            have := s4.rep.wiped vs
            rw [hw3'] at this
            exact this
          | true =>
            refine iteT ?_
            obtain ⟨⟨es6, Γ4⟩, e6, ei⟩ := obind ei
            obtain ⟨⟨acc7, Γ5⟩, e7, ei⟩ := obind ei
            refine ⟨ρ, orO O (· = D), Γ3, F4, es6, Γ4, s4.rep, e6, fun J1 H5 F5 s5 c5 w5 => ?_⟩
            have hD5 : H5 D = some (.lst accV) := (s5.op D (.inr rfl)).trans hD4
            have ha5 : RDs X.K X.mg F5 acc accV := RDs.mono s5.fs _ _ ha4
            refine lc_turns hw1 nO w5 (s5.rep.wiped vs1) hD5 ha5 e7 fun H6 F6 accV' R6 s6 o6 hD6 ha6 => ?_
            refine ⟨wipeE Γ5 vs, F6, acc7, accV', ?_, (hf4.trans s5.fs).trans s6, fun a ha => ((o6 a ha).trans (s5.op a (.inl ha))).trans (ho4 a ha), hD6, ha6, ei⟩
            have := R6.wiped vs
            rw [wipe_sub hv, hw3'] at this
            exact this
      · have hi' : i = ds.length := by omega
        subst hi'
        refine .inl ⟨w.stops H' hsame, ?_⟩
        rw [List.drop_length] at ei
        cases ei
        have Rb : Rep X.K X.mg ρ (orO O (· = D)) (backE Γ1 Γe vs) σ H' Fi := by
          have R1' : Rep X.K X.mg ρ (orO O (· = D)) Γ1 σ (upd H1 D (.lst [])) F1 := R0
          exact R1'.back Ri hfi hok
        have hloc : ∀ l, ¬ LocAt ρ (backE Γ1 Γe vs) σ l D := (Rb.prot D (.inr rfl)).2.2
        have hFi : Fi D = none := (Rb.prot D (.inr rfl)).1
        refine k (.ref D) H' Fi ⟨Rb.weakO fun a z => .inl z, s1.fs.trans hfi, hoi⟩ trivial ⟨D, rfl, ⟨hFi, accV, hDi, hai⟩, nO, hloc⟩
    · cases e
  exact ⟨pe_of (pe_lc2 hc hN hi ok hv hg ht hi1 hg1 ht1 he hs hs1) main, main⟩
theorem vs_setLc2 {i : Nat} {y : Str} {py spos : Pos} {scope : Scope} {own : List (Str × Nat)} {vs1 : List Nat} (hc : X.calm = true) (hN : X.N.Nodup) (hi : VI X tg iter mi) (ok : BlkOk X.N X.env.scope scope own) (hv : ∀ i ∈ vs1, i ∈ own.map (·.2)) (hw : ∀ i ∈ ws, i ∈ own.map (·.2)) (hw1 : ∀ i ∈ ws1, i ∈ vs1)
    (hg : ∀ (s : Shared) (H : Hp) (C : Addr) (cl : List (Str × Addr)) (fp : List Addr), VG (X.blk s H scope (compEnvC scope cl C X.env) fp) tg ws g)
    (ht : ∀ (s : Shared) (H : Hp) (C : Addr) (cl : List (Str × Addr)) (fp : List Addr), VTs (X.blk s H scope (compEnvC scope cl C X.env) fp) ifs tt)
    (hi1 : ∀ (s : Shared) (H : Hp) (C : Addr) (cl : List (Str × Addr)) (fp : List Addr), VI (X.blk s H scope (compEnvC scope cl C X.env) fp) tg1 iter1 mi1)
    (hg1 : ∀ (s : Shared) (H : Hp) (C : Addr) (cl : List (Str × Addr)) (fp : List Addr), VG (X.blk s H scope (compEnvC scope cl C X.env) fp) tg1 ws1 g1)
    (ht1 : ∀ (s : Shared) (H : Hp) (C : Addr) (cl : List (Str × Addr)) (fp : List Addr), VTs (X.blk s H scope (compEnvC scope cl C X.env) fp) ifs1 tt1)
    (he : ∀ (s : Shared) (H : Hp) (C : Addr) (cl : List (Str × Addr)) (fp : List Addr), VE (X.blk s H scope (compEnvC scope cl C X.env) fp) elt m)
    (hy : X.N[i]? = some y := by rfl) (hyl : X.env.scope.names.lookup y = some .local := by rfl) (hsw : swapsWith (.ListComp elt [⟨tg, iter, ifs, 0⟩, ⟨tg1, iter1, ifs1, 0⟩] scope pos) (some (.Name y py)) spos.line X.env = pure true := by exact sw_true rfl rfl rfl (by decide +kernel))
    (hs : ∀ x, foldedSetIterable iter X.env x = pure x := by intro _; rfl) (hs1 : ∀ env x, foldedSetIterable iter1 env x = pure x := by intro _ _; rfl) (hgi : ∀ r Γ, g1 r Γ = g1 r Γ := by intros; rfl) :
    VSt X (.Assign [.Name y py] (.ListComp elt [⟨tg, iter, ifs, 0⟩, ⟨tg1, iter1, ifs1, 0⟩] scope pos) spos) (mAsg (mLc2 (own.map (·.2)) vs1 mi g tt mi1 g1 tt1 m) (asgn i)) := by
  intro W tk
  refine ps_of (ps_setLc2 (g := tG X.K X.mg ws g) (tt := tB X.K X.mg tt) (wi1 := tI X.K X.mg mi1) (g1 := tG X.K X.mg ws1 g1) (tt1 := tB X.K X.mg tt1) (te := tV X.K X.mg m) (vs1 := vs1) hc hN hy hyl hsw hi ok hv hg ht hi1 hg1 ht1 he hs hs1) fun D σ H h => ?_
  obtain ⟨ρ, O, Γ, F, fl, Γ', R, e, k⟩ := h
  obtain ⟨⟨r, Γ1⟩, e1, e⟩ := obind e
  obtain ⟨Γ2, e2, e3⟩ := omap e
  cases e3
  refine (ve_lc2 (pos := pos) hc hN hi ok hv hw hw1 hg ht hi1 hg1 ht1 he hs hs1).2 σ H _ (tV_run R e1 fun v H1 F1 s1 c1 r1 => ?_)
  obtain ⟨F2, R2, s2⟩ := asgn_ok s1.rep r1 e2
  exact k _ H1 F2 (s1.trans ⟨R2, s2, fun _ _ => rfl⟩)
end
end VS

set_option Elab.async false
set_option linter.all false
set_option maxRecDepth 100000
set_option maxHeartbeats 4000000
/-! ### [::-1] of lists, tuples, texts -/
namespace VSH
open PySem PyProof.Rows HT
section
variable {prog : Program} {w : World} {A : Around} {E : Value → Shared → Prop} {s : Shared}
theorem pick_rev (xs : Array Value) : ((List.range xs.size).filterMap fun (m : Nat) => xs[(((xs.size : Int) - 1) + (m : Int) * (-1)).toNat]?).toArray = xs.toList.reverse.toArray := by
  congr 1
  have e : (List.range xs.size).filterMap (fun (m : Nat) => xs[(((xs.size : Int) - 1) + (m : Int) * (-1)).toNat]?) = ((List.range xs.size).map (fun k => xs.size - 1 - k)).filterMap (xs[·]?) := by
    rw [List.filterMap_map]
    have : ∀ l : List Nat, (∀ m ∈ l, m < xs.size) → l.filterMap (fun (m : Nat) => xs[(((xs.size : Int) - 1) + (m : Int) * (-1)).toNat]?) = l.filterMap ((xs[·]?) ∘ fun k => xs.size - 1 - k) := by
      intro l
      induction l with
      | nil => intro _; rfl
      | cons m l ih =>
        intro hm
        have h1 := hm m List.mem_cons_self
        have e1 : (((xs.size : Int) - 1) + (m : Int) * (-1)).toNat = xs.size - 1 - m := by omega
        simp only [List.filterMap_cons, Function.comp_apply, e1]
        rw [ih fun k hk => hm k (List.mem_cons_of_mem _ hk)]
    exact this _ fun m hm => List.mem_range.mp hm
  rw [e, PySem.W.krv_range, List.filterMap_reverse, PySem.W.krv_all]
theorem getItem_tuple_rev {t sl : Addr} {items : Array Value} {tk : Tok} {Q : Value → Shared → Prop} (ht : IsTup s.heap t items) (hs : s.heap.IsSliceOf sl .none .none (.int (-1) tk))
    (h : Q (.ref s.heap.objs.size) { s with heap := s.heap.push { cls := .type "tuple", data := .seq items.toList.reverse.toArray } })
    (hsz : items.size ≤ sizeLine) : wpAny (model prog w) A (getItem (.ref t) (.ref sl)) Q E s := by
  have htake : sizeOk (.seq items.toList.reverse.toArray) := by
    show (items.toList.reverse).toArray.size ≤ sizeLine
    simpa using hsz
  obtain ⟨os, hos, hcs, hds⟩ := id hs
  have hTs : s.TypeIs (.ref sl) "slice" := ⟨os, hos, hcs⟩
  unfold getItem
  try with_reducible refine wpAny_holding ?_
  first | refine wpAny_bind (wpAny_pure ?_) | skip
  refine wpAny_bind (wpAny_sequenceKey ht.typeIs (by decide) ?_)
  refine wpAny_bind (wpAny_callSpecial?_slot (name := Str.ofString "__getitem__") ht.typeIs PyProof.Rows.slot_tuple_getitem
    (wpAny_call_entry PyProof.Rows.slot_tuple_getitem ht.typeIs entry_tuple_getitem ?_ (args_tuple_getitem _ _)))
  show wpAny _ _ (Builtin.Tuple.tupleItemsOf (.ref t) >>= _) _ _ s
  refine wpAny_bind (tupleItemsOf_ ht ?_)
  refine wpAny_bind (wpAny_typeOf hTs ?_)
  rw [if_pos (by decide)]
  have ap : ∀ {A : Around} {E : Value → Shared → Prop} {Q : Int × Int × Nat → Shared → Prop}, Q (((items.size : Int) - 1), -1, items.size) s → wpAny (model prog w) A (Builtin.Slice.sliceApplied (.ref sl) (pure (items.size : Int))) Q E s := by
    intro A E Q h
    unfold Builtin.Slice.sliceApplied Builtin.Slice.sliceFields
    refine wpAny_bind (wpAny_bind (wpAny_field hos hds (x := .none) rfl (wpAny_bind (wpAny_field hos hds (x := .none) rfl (wpAny_bind (wpAny_field hos hds (x := .int (-1) tk) rfl (wpAny_pure ?_)))))))
    refine wpAny_bind (slicePart_int ?_)
    show wpAny _ _ (if ((-1 : Int) == 0) = true then _ else _) _ _ s
    rw [if_neg (by decide)]
    refine wpAny_bind (slicePart_none (wpAny_bind (slicePart_none (wpAny_bind (wpAny_pure ?_)))))
    show wpAny _ _ (pure ((items.size : Int) - 1, (-1 : Int), Builtin.Slice.slicePlaces ((items.size : Int) - 1) (-1) (-1))) _ _ s
    have e : Builtin.Slice.slicePlaces ((items.size : Int) - 1) (-1) (-1) = items.size := by
      unfold Builtin.Slice.slicePlaces
      have h1 : ¬ ((-1 : Int) > 0) := by omega
      have h2 : (- -1 : Int) = 1 := by decide
      simp only [h1, if_false, h2, Int.ediv_one]
      split <;> omega
    rw [e]
    exact wpAny_pure h
  refine wpAny_bind (ap ?_)
  show wpAny _ _ (if (((items.size : Int) - 1) == 0 && (-1 : Int) == 1 && items.size == items.size) = true then _ else _) _ _ s
  rw [if_neg (by simp), pick_rev]
  first
    | exact wpAny_bind (m := Builtin.Tuple.tupleExact _) (wpAny_newObj_type (wpAny_pure ⟨_, rfl, wpAny_pure h⟩) htake)
    | exact wpAny_bind (m := Builtin.Tuple.tupleExact _) (wpAny_newObj_type (wpAny_bind (wpAny_pure (wpAny_pure ⟨_, rfl, wpAny_pure h⟩))) htake)
    | exact wpAny_bind (wpAny_bind (m := Builtin.Tuple.tupleExact _) (wpAny_newObj_type (wpAny_pure (wpAny_pure ⟨_, rfl, wpAny_pure h⟩)) htake))
    | exact wpAny_bind (wpAny_bind (m := Builtin.Tuple.tupleExact _) (wpAny_newObj_type (wpAny_pure ⟨_, rfl, wpAny_pure h⟩) htake))
theorem str_rev_ix (n : Nat) : Builtin.Str.strSliceIndices none none (-1) n = (List.range n).reverse := by
  unfold Builtin.Str.strSliceIndices
  show sliceRange ((n : Int) - 1) (-1) (-1) = _
  rw [PySem.W.krv_sliceRange, PySem.W.krv_range]
end
end VSH
namespace VS
open PySem L2 PyProof.Rows
variable [TabT]
def tRevA (K : PySem.W.Frag) (te : TE) : TE := fun σ H Q => te σ H fun x H1 => (∃ a xs, x = .ref a ∧ SqL K H1 a xs ∧ ∀ p, H1 p = none → Q (.ref p) (upd H1 p (.lst xs.reverse))) ∨
  (∃ a xs, x = .ref a ∧ SqT K H1 a xs ∧ ∀ p, H1 p = none → Q (.ref p) (upd H1 p (.tup xs.reverse))) ∨ ∃ z : Str, x = .str z ∧ z.length ≤ sizeLine ∧ Q (.str ⟨z.cps.toList.reverse.toArray⟩) H1
theorem pe_revA {X : Cx} {e : Expr} {te : TE} {k : Nat} {p1 p2 p3 pos : Pos} (he : PE X e te) : PE X (.Subscript e (.Slice none none (some (.UnaryOp .USub (.Constant (.int 1) k p1) p2)) p3) pos) (tRevA X.K te) := by
  refine ⟨fun pins s σ H Q I h => ?_⟩
  refine Subscript_ (thn (he.run pins s σ H _ I h) fun v s1 ⟨x, H1, I1, r1, q1⟩ => ?_)
  have hst : PO X (some (.UnaryOp .USub (.Constant (.int 1) k p1) p2)) (tPart (tUn (rU fun i => .int (-i)) (tC (.int 1)))) := po_some (pe_un un_neg pe_int)
  refine wpAny_Slice (thn (po_none.run pins s1 σ H1 (fun o H2 => o = none ∧ H2 = H1) I1 ⟨rfl, rfl⟩) fun vl s2 ⟨l, H2, I2, pl, el, e2⟩ => ?_)
  subst el e2
  refine thn (po_none.run pins s2 σ H2 (fun o H3 => o = none ∧ H3 = H2) I2 ⟨rfl, rfl⟩) fun vu s3 ⟨u, H3, I3, pu, eu, e3⟩ => ?_
  subst eu e3
  refine thn (hst.run pins s3 σ H3 (fun o H4 => o = some (-1) ∧ H4 = H3) I3 ⟨1, rfl, -1, rfl, rfl, rfl⟩) fun vs s4 ⟨o, H4, I4, ps, eo, e4⟩ => ?_
  subst eo e4
  have I5 : Inv X pins σ H4 { s4 with heap := s4.heap.push { cls := .type "slice", data := .fields #[vl, vu, vs] } } := I4.kept (t' := s4.toks) fun b ob q => Heap.get?_push_of_some _ q
  show wpAny (model X.prog X.w) X.A (subscriptTail e (.Slice none none (some (.UnaryOp .USub (.Constant (.int 1) k p1) p2)) p3) v (.ref s4.heap.objs.size)) (EP X pins σ Q) X.xe { s4 with heap := s4.heap.push { cls := .type "slice", data := .fields #[vl, vu, vs] } }
  rcases q1 with ⟨a, xs, ex, hx, q⟩ | ⟨a, xs, ex, hx, q⟩ | ⟨z, ex, hz, q⟩
  · subst ex
    cases r1
    obtain ⟨its, r, ht, hz⟩ := I5.list hx
    have hlen := r.length
    refine tail_any (ops := [.ref a, .ref s4.heap.objs.size]) ht.isList.typeIs (PySem.slot_list_getitem.lookup) ?_ (by with_unfolding_all rfl)
    refine wpAny_getItem_list_slice ht.isList (Heap.IsSliceOf.new _ vl vu vs) pl pu ps (by decide) ?_ (by rw [List.size_toArray]; omega)
    rw [PySem.W.krv_pick]
    refine ⟨.ref _, _, I5.laid (t' := s4.toks) (o := .lst xs.reverse) (fun b ob q => Heap.get?_push_of_some _ q) (Nat.le_refl _) ?_, rfl, q _ (I5.hok.fresh (Nat.le_refl _))⟩
    exact ⟨by rw [List.length_reverse]; exact hz, _, 0, r.reverse, Heap.get?_push_size _ rfl⟩
  · subst ex
    cases r1
    obtain ⟨its, r, ht, hz⟩ := I5.tuple hx
    have hlen := r.length
    cases pl
    cases pu
    cases ps with
    | int i tk =>
      refine tail_any (ops := [.ref a, .ref s4.heap.objs.size]) ht.typeIs (PyProof.Rows.slot_tuple_getitem.lookup) ?_ (by with_unfolding_all rfl)
      refine VSH.getItem_tuple_rev ht (Heap.IsSliceOf.new _ _ _ _) ?_ (by rw [List.size_toArray]; omega)
      refine ⟨.ref _, _, I5.laid (t' := s4.toks) (o := .tup xs.reverse) (fun b ob q => Heap.get?_push_of_some _ q) (Nat.le_refl _) ?_, rfl, q _ (I5.hok.fresh (Nat.le_refl _))⟩
      exact ⟨by rw [List.length_reverse]; exact hz, _, r.reverse, IsTup.new _ _⟩
  · subst ex
    obtain ⟨t, rfl⟩ := r1
    obtain ⟨l, rfl, hl⟩ := IsPart.raw pl
    obtain ⟨u, rfl, hu⟩ := IsPart.raw pu
    obtain ⟨w, rfl, hw⟩ := IsPart.raw ps
    refine tail_any (ops := [.str z t, .ref s4.heap.objs.size]) (typeIs_str _ _ _) (PySem.F.slot_str_getitem.lookup) ?_ (by with_unfolding_all rfl)
    refine wpAny_getItem_str_slice (l := l) (u := u) (st := w) (Heap.IsSliceOf.new _ _ _ _) (by rw [hw]; rfl) ?_
    unfold sliceMade slicePicked
    rw [hl, hu, hw]
    show Made.post (if ((-1 : Int) == 1 && (Builtin.Str.strSliceIndices none none (-1) z.length).length == z.length) = true then Made.val (.str z t)
      else Made.str ⟨((Builtin.Str.strSliceIndices none none (-1) z.length).filterMap (z.cps[·]?)).toArray⟩) (EP X pins σ Q) _
    rw [if_neg (by simp), VSH.str_rev_ix, List.filterMap_reverse]
    have : (List.range z.length).filterMap (z.cps[·]?) = z.cps.toList := PySem.W.krv_all z.cps
    rw [this]
    exact ⟨by simpa [Str.length] using hz, .str _, H4, I5.tok _, ⟨_, rfl⟩, q⟩
def revD : D → Option EV
  | .lst xs => some (.fresh (.lst xs.reverse))
  | .tup xs => some (.val (.tup xs.reverse))
  | .str s => some (.val (.str s.reverse))
  | _ => none
theorem ve_rev {X : Cx} {e : Expr} {m : M} {k : Nat} {p1 p2 p3 pos : Pos} (he : VE X e m) : VE X (.Subscript e (.Slice none none (some (.UnaryOp .USub (.Constant (.int 1) k p1) p2)) p3) pos) (mUn revD m) := by
  refine pe_of (pe_revA he) fun σ H Q h => ?_
  obtain ⟨ρ, O, Γ, F, res, Γ', R, e, kk⟩ := h
  obtain ⟨⟨r, Γ1⟩, e1, e⟩ := obind e
  obtain ⟨d, e2, e⟩ := obind e
  obtain ⟨r', e3, e4⟩ := omap e
  cases e4
  refine tV_run R e1 fun v H1 F1 s1 c1 r1 => ?_
  have px := peek_ok s1.rep r1 e2
  have kq : GQ X.K X.mg F1 H1 res Q := fun v H2 F2 g hr => kk v H2 F2 (s1.trans (Stp.grow s1.rep g)) c1 (res_ev s1.rep g hr)
  cases d with
  | lst xs =>
    cases e3
    obtain ⟨a, vs, rfl, h1, h2⟩ := px.lst s1.rep.le
    exact .inl ⟨a, vs, rfl, h1, gq_list s1.rep.le kq h2.rev⟩
  | tup xs =>
    cases e3
    obtain ⟨a, vs, rfl, h1, h2⟩ := px.tup s1.rep.le
    exact .inr (.inl ⟨a, vs, rfl, h1, gq_tup s1.rep.le kq h2.rev⟩)
  | str s =>
    cases e3
    obtain ⟨rfl, ok⟩ := px.str
    refine .inr (.inr ⟨_, rfl, by simpa [Str.length] using ok.1, gq_val s1.rep.le kq ?_⟩)
    simp only [RD]
    exact ⟨trivial, by simpa using ok.1, fun c hc => ok.2 c (List.mem_reverse.mp hc)⟩
  | _ => cases e3
/-! ### methods of texts -/
section
variable {X : Cx}
def g1S (f : List Nat → List Nat → D) : D → List D → Option EV
  | .str s, [.str t] => some (.val (f s t))
  | _, _ => none
theorem mx_1S {id : String} {g : Str → Str → V} {f : List Nat → List Nat → D} (h : MtR X id (fun x xs H Q => ∃ a b, x = .str a ∧ xs = [.str b] ∧ Q (g a b) H))
    (hf : ∀ s t F, OkS s → OkS t → RD X.K X.mg F (f s t) (g ⟨s.toArray⟩ ⟨t.toArray⟩)) : MtX X id (g1S f) := by
  refine ⟨_, h, fun F H x xs d ds res Q hl px pxs e k => ?_⟩
  unfold g1S at e
  split at e
  · cases e
    obtain ⟨rfl, ok⟩ := px.str
    obtain ⟨v, rfl, pv⟩ := pxs.one
    obtain ⟨rfl, ok2⟩ := pv.str
    exact ⟨_, _, rfl, rfl, gq_val hl k (hf _ _ F ok ok2)⟩
  · cases e
def startsS (s t : List Nat) : Bool := t.isPrefixOf s
def endsS (s t : List Nat) : Bool := t.isSuffixOf s
def countS (s t : List Nat) : Int := Txt.count ⟨s.toArray⟩ ⟨t.toArray⟩
def findS (s t : List Nat) : Int := Txt.find ⟨s.toArray⟩ ⟨t.toArray⟩
theorem subAt_iff (s t : List Nat) (i : Nat) : Builtin.Str.subAt ⟨s.toArray⟩ ⟨t.toArray⟩ i = ((s.drop i).take t.length == t) := by
  unfold Builtin.Str.subAt
  show ((s.toArray.extract i (i + t.toArray.size)) == t.toArray) = _
  rw [Bool.eq_iff_iff, beq_iff_eq, beq_iff_eq]
  constructor
  · intro h
    have := congrArg Array.toList h
    simpa [Array.toList_extract, List.extract_eq_drop_take] using this
  · intro h
    apply Array.ext'
    simpa [Array.toList_extract, List.extract_eq_drop_take] using h
theorem startsS_eq (s t : List Nat) : Txt.startswith ⟨s.toArray⟩ ⟨t.toArray⟩ = startsS s t := by
  unfold Txt.startswith startsS
  rw [subAt_iff, Bool.eq_iff_iff]
  simp only [Str.length, List.size_toArray, Nat.zero_add, Bool.and_eq_true, decide_eq_true_eq, List.drop_zero, beq_iff_eq, List.isPrefixOf_iff_prefix]
  constructor
  · rintro ⟨_, h⟩; rw [← h]; exact List.take_prefix _ _
  · intro h; exact ⟨h.length_le, (List.prefix_iff_eq_take.mp h).symm⟩
theorem endsS_eq (s t : List Nat) : Txt.endswith ⟨s.toArray⟩ ⟨t.toArray⟩ = endsS s t := by
  unfold Txt.endswith endsS
  rw [subAt_iff, Bool.eq_iff_iff]
  simp only [Str.length, List.size_toArray, Nat.zero_add, Bool.and_eq_true, decide_eq_true_eq, beq_iff_eq, List.isSuffixOf_iff_suffix]
  constructor
  · rintro ⟨hl, h⟩
    have e : (s.drop (s.length - t.length)).length = t.length := by rw [List.length_drop]; omega
    rw [List.take_of_length_le (by omega)] at h
    rw [← h]; exact List.drop_suffix _ _
  · intro h
    refine ⟨h.length_le, ?_⟩
    have e := List.suffix_iff_eq_drop.mp h
    have e2 : (s.drop (s.length - t.length)).length = t.length := by rw [List.length_drop]; have := h.length_le; omega
    rw [List.take_of_length_le (by omega)]
    exact e.symm
theorem mx_startswith : MtX X "str.startswith" (g1S fun s t => .bl (startsS s t)) := mx_1S mt_startswith fun s t F _ _ => by simp only [RD]; rw [startsS_eq]
theorem mx_endswith : MtX X "str.endswith" (g1S fun s t => .bl (endsS s t)) := mx_1S mt_endswith fun s t F _ _ => by simp only [RD]; rw [endsS_eq]
theorem mx_count : MtX X "str.count" (g1S fun s t => .int (countS s t)) := mx_1S mt_count fun s t F _ _ => by simp only [RD, countS]
theorem mx_find : MtX X "str.find" (g1S fun s t => .int (findS s t)) := mx_1S mt_find fun s t F _ _ => by simp only [RD, findS]
/-! join -/
def strsOf : List D → Option (List (List Nat))
  | [] => some []
  | .str s :: ds => (strsOf ds).map fun r => s :: r
  | _ => none
theorem strsOf_map : ∀ {ds : List D} {ns : List (List Nat)}, strsOf ds = some ns → ds = ns.map D.str
  | [], ns, e => by simp only [strsOf] at e; cases e; rfl
  | d :: ds, ns, e => by
    cases d with
    | str s =>
      simp only [strsOf] at e
      obtain ⟨r, e1, e2⟩ := omap e
      subst e2
      rw [strsOf_map e1]; rfl
    | _ => simp only [strsOf] at e; cases e
omit [TabT] in
theorem strsOf_of : ∀ ns : List (List Nat), strsOf (ns.map D.str) = some ns
  | [] => rfl
  | n :: ns => by simp [strsOf, strsOf_of ns]
def joinL (sep : List Nat) : List (List Nat) → List Nat
  | [] => []
  | [x] => x
  | x :: y :: r => x ++ sep ++ joinL sep (y :: r)
def joinD : D → List D → Option EV
  | .str s, [.lst ds] => (strsOf ds).bind fun ns => if (ns.map (·.length)).sum + ns.length * s.length ≤ 16777216 then some (.val (.str (joinL s ns))) else none
  | .str s, [.tup ds] => (strsOf ds).bind fun ns => if (ns.map (·.length)).sum + ns.length * s.length ≤ 16777216 then some (.val (.str (joinL s ns))) else none
  | _, _ => none
theorem joinL_len (sep : List Nat) : ∀ ns : List (List Nat), (joinL sep ns).length ≤ (ns.map (·.length)).sum + ns.length * sep.length
  | [] => by simp [joinL]
  | [x] => by simp [joinL]
  | x :: y :: r => by
    have := joinL_len sep (y :: r)
    simp only [joinL, List.length_append, List.map_cons, List.sum_cons, List.length_cons, Nat.add_mul, Nat.one_mul] at this ⊢
    omega
theorem joinL_mem (sep : List Nat) (P : Nat → Prop) (hs : ∀ c ∈ sep, P c) : ∀ ns : List (List Nat), (∀ s ∈ ns, ∀ c ∈ s, P c) → ∀ c ∈ joinL sep ns, P c
  | [], _, c, hc => by simp [joinL] at hc
  | [x], h, c, hc => h x (by simp) c (by simpa [joinL] using hc)
  | x :: y :: r, h, c, hc => by
    simp only [joinL, List.mem_append] at hc
    rcases hc with (hc | hc) | hc
    · exact h x (by simp) c hc
    · exact hs c hc
    · exact joinL_mem sep P hs (y :: r) (fun s hs => h s (List.mem_cons_of_mem _ hs)) c hc
theorem join_eq (sep : List Nat) : ∀ ns : List (List Nat), Str.join ⟨sep.toArray⟩ (ns.map fun s => ⟨s.toArray⟩) = ⟨(joinL sep ns).toArray⟩
  | [] => rfl
  | [x] => rfl
  | x :: y :: r => by
    have := join_eq sep (y :: r)
    simp only [List.map_cons] at this ⊢
    simp only [Str.join, joinL]
    rw [this, str_app, str_app]
theorem RDs.strs {K : PySem.W.Frag} {mg : Str → Option Value} {F : Hp} : ∀ {ns : List (List Nat)} {vs : List V}, RDs K mg F (ns.map D.str) vs → vs = (ns.map fun s => (⟨s.toArray⟩ : Str)).map V.str ∧ ∀ s ∈ ns, OkS s
  | [], vs, h => by simp only [List.map_nil, RDs] at h; subst h; simp
  | n :: ns, vs, h => by
    simp only [List.map_cons, RDs, RD] at h
    obtain ⟨v, r, rfl, ⟨rfl, ok⟩, h⟩ := h
    obtain ⟨rfl, h2⟩ := RDs.strs h
    refine ⟨rfl, fun s hs => ?_⟩
    rcases List.mem_cons.mp hs with rfl | hs
    · exact ok
    · exact h2 s hs
theorem mx_join : MtX X "str.join" joinD := by
  refine ⟨_, mt_join, fun F H x xs d ds res Q hl px pxs e k => ?_⟩
  have main : ∀ {s : List Nat} {ns : List (List Nat)} {a : Addr} {vs : List V}, OkS s → (SqL X.K H a vs ∨ SqT X.K H a vs) → RDs X.K X.mg F (ns.map D.str) vs → (ns.map (·.length)).sum + ns.length * s.length ≤ 16777216 → res = .val (.str (joinL s ns)) →
      ∃ (b : Str) (p : Addr), ∃ ys : List Str, V.str ⟨s.toArray⟩ = .str b ∧ [V.ref a] = [.ref p] ∧ (SqL X.K H p (ys.map V.str) ∨ SqT X.K H p (ys.map V.str)) ∧ (ys.map (·.length)).sum + ys.length * b.length ≤ 16777216 ∧ Q (.str (Txt.join b ys)) H := by
    intro s ns a vs ok hq rd hz er
    obtain ⟨rfl, oks⟩ := rd.strs
    refine ⟨_, a, ns.map fun s => ⟨s.toArray⟩, rfl, rfl, hq, ?_, ?_⟩
    · simpa [Str.length, Function.comp_def] using hz
    · subst er
      refine gq_val hl k ?_
      simp only [RD]
      refine ⟨?_, ?_, joinL_mem s _ ok.2 ns fun t ht => (oks t ht).2⟩
      · rw [← join_eq]; exact congrArg V.str (PySem.StrLaws.glued_eq_join _ _)
      · have := joinL_len s ns
        show _ ≤ sizeLine
        exact Nat.le_trans (Nat.le_trans this hz) (by decide)
  unfold joinD at e
  split at e
  · obtain ⟨ns, e1, e⟩ := obind e
    split at e
    · rename_i hz
      cases e
      have := strsOf_map e1
      subst this
      obtain ⟨rfl, ok⟩ := px.str
      obtain ⟨v, rfl, pv⟩ := pxs.one
      obtain ⟨a, vs, rfl, h1, h2⟩ := pv.lst hl
      exact main ok (.inl h1) h2 hz rfl
    · cases e
  · obtain ⟨ns, e1, e⟩ := obind e
    split at e
    · rename_i hz
      cases e
      have := strsOf_map e1
      subst this
      obtain ⟨rfl, ok⟩ := px.str
      obtain ⟨v, rfl, pv⟩ := pxs.one
      obtain ⟨a, vs, rfl, h1, h2⟩ := pv.tup hl
      exact main ok (.inr h1) h2 hz rfl
    · cases e
  · cases e
end
end VS

set_option Elab.async false
set_option linter.all false
set_option maxRecDepth 100000
set_option maxHeartbeats 4000000
namespace VS
open PySem L2 PyProof.Rows
variable [TabT]

omit [TabT] in
instance (s : List Nat) : Decidable (OkS s) := inferInstanceAs (Decidable (s.length ≤ sizeLine ∧ ∀ c ∈ s, c < 1114112))
/-- y = e, the list frozen at once -/
theorem vs_asgF {X : Cx} {st : Stmt} {m : M} {i : Nat} (h : VSt X st (mAsg m (asgn i))) : VSt X st (mAsg (mFrz m) (asgn i)) := by
  intro W tk
  refine ps_of (h W tk) fun D σ H h => ?_
  obtain ⟨ρ, O, Γ, F, fl, Γ', R, e, k⟩ := h
  obtain ⟨⟨r0, Γ0⟩, e0, e⟩ := obind e
  obtain ⟨Γ9, e9, e8⟩ := omap e
  cases e8
  obtain ⟨⟨r1, Γ1⟩, e1, e2⟩ := obind e0
  obtain ⟨⟨d, Γ2⟩, e3, e4⟩ := omap e2
  cases e4
  simp only [asgn] at e9
  cases e9
  cases r1 with
  | val d1 =>
    simp only [freeze] at e3
    cases e3
    exact ⟨ρ, O, Γ, F, .nx, _, R, by simp only [mAsg, e1, Option.bind_some, asgn, Option.map_some], k⟩
  | fresh d1 =>
    simp only [freeze] at e3
    cases e3
    refine ⟨ρ, O, Γ, F, .nx, setCell Γ1 i (.own d), R, by simp only [mAsg, e1, Option.bind_some, asgn, Option.map_some], fun σ' H' F' s => ?_⟩
    by_cases hi : i < Γ1.sl.length
    · have hg : (setCell Γ1 i (.own d)).sl[i]? = some (Cell.own d) := by simp [setCell, hi]
      obtain ⟨a, h1, h2⟩ := s.rep.ow i d hg
      have rv : RepEV X.K X.mg ρ O (setCell Γ1 i (.own d)) σ' H' F' (.slot i) (.ref a) := ⟨h1, trivial⟩
      have ef : freeze (.slot i) (setCell Γ1 i (.own d)) = some (d, setCell Γ1 i (.val d)) := by
        have hg' : (Γ1.sl.set i (Cell.own d))[i]? = some (Cell.own d) := hg
        simp only [freeze, setCell, List.set_set]
        rw [hg']
      obtain ⟨F2, R2, s2, _, _⟩ := freeze_ok s.rep rv ef
      exact k σ' H' F2 ⟨R2, s.fs.trans s2, s.op⟩
    · have e5 : setCell Γ1 i (.own d) = setCell Γ1 i (.val d) := by
        simp only [setCell]
        rw [List.set_eq_of_length_le (by omega), List.set_eq_of_length_le (by omega)]
      rw [e5] at s
      exact k σ' H' F' s
  | slot j =>
    refine ⟨ρ, O, Γ, F, .nx, setCell Γ2 i (.val d), R, by simp only [mAsg, e1, Option.bind_some, asgn, e3, Option.map_some], k⟩
  | par j =>
    refine ⟨ρ, O, Γ, F, .nx, setCell Γ1 i (.par j), R, by simp only [mAsg, e1, Option.bind_some, asgn, Option.map_some], fun σ' H' F' s => ?_⟩
    have hst : ∃ c, Γ1.st[j]? = some c := by
      simp only [freeze] at e3
      cases q : Γ1.st[j]? with
      | none => rw [q] at e3; cases e3
      | some c => exact ⟨c, rfl⟩
    obtain ⟨c, hc⟩ := hst
    have hj := s.rep.plen
    have hjl : j < ρ.length := by rw [hj]; exact lt_of_get hc
    have rv : RepEV X.K X.mg ρ O (setCell Γ1 i (.par j)) σ' H' F' (.par j) (.ref ρ[j]) := ⟨ρ[j], List.getElem?_eq_getElem hjl, rfl⟩
    have ef : freeze (.par j) (setCell Γ1 i (.par j)) = some (d, setCell Γ2 i (.par j)) := by
      simp only [freeze, setCell] at e3 ⊢
      rw [hc] at e3 ⊢
      cases c with
      | own d' => cases e3; rfl
      | frz d' => cases e3; rfl
    obtain ⟨F2, R2, s2, rd, _⟩ := freeze_ok s.rep rv ef
    by_cases hi : i < Γ1.sl.length
    · have hi2 : i < (setCell Γ2 i (.par j)).sl.length := by
        have := R2.len
        have := s.rep.len
        simp [setCell] at *
        omega
      have hg : (setCell Γ2 i (.par j)).sl[i]? = some (Cell.par j) := by
        have : i < Γ2.sl.length := by simpa [setCell] using hi2
        simp [setCell, this]
      obtain ⟨a, h1, h2⟩ := R2.pr i j hg
      rw [List.getElem?_eq_getElem hjl] at h1
      cases h1
      have R3 := R2.setCell (i := i) (c := .val d) (x := some (.ref ρ[j])) ⟨_, rfl, rd⟩
      have es : σ'.set i (some (V.ref ρ[j])) = σ' := by
        apply List.ext_getElem?
        intro n
        by_cases hn : n = i
        · subst hn; rw [List.getElem?_set_self (lt_of_get h2), h2]
        · rw [List.getElem?_set_ne (Ne.symm hn)]
      rw [es] at R3
      have e6 : setCell (setCell Γ2 i (.par j)) i (.val d) = setCell Γ2 i (.val d) := by simp only [setCell, List.set_set]
      rw [e6] at R3
      exact k σ' H' F2 ⟨R3, s.fs.trans s2, s.op⟩
    · have e5 : setCell Γ2 i (.par j) = setCell Γ2 i (.val d) := by
        have h1 := s.rep.len
        have h2 := R2.len
        simp only [setCell, List.length_set] at h1 h2 ⊢
        rw [List.set_eq_of_length_le (by omega), List.set_eq_of_length_le (by omega)]
      rw [e5] at R2
      exact k σ' H' F2 ⟨R2, s.fs.trans s2, s.op⟩
section
variable {X : Cx} {e tg iter tg1 iter1 elt : Expr} {es ifs ifs1 : List Expr} {m : M} {mi mi1 : MI} {g g1 : MG} {ws ws1 : List Nat} {tt tt1 : MB} {pos : Pos}
theorem ve_lcE {scope : Scope} {own : List (Str × Nat)} (hc : X.calm = true) (hN : X.N.Nodup) (hi : VI X tg iter mi) (ok : BlkOk X.N X.env.scope scope own) (hw : ∀ i ∈ ws, i ∈ own.map (·.2))
    (hg : ∀ (s : Shared) (H : Hp) (C : Addr) (cl : List (Str × Addr)) (fp : List Addr), VG (X.blk s H scope (compEnvC scope cl C X.env) fp) tg ws g)
    (ht : ∀ (s : Shared) (H : Hp) (C : Addr) (cl : List (Str × Addr)) (fp : List Addr), VTs (X.blk s H scope (compEnvC scope cl C X.env) fp) ifs tt)
    (he : ∀ (s : Shared) (H : Hp) (C : Addr) (cl : List (Str × Addr)) (fp : List Addr), VE (X.blk s H scope (compEnvC scope cl C X.env) fp) elt m) (hs : ∀ x, foldedSetIterable iter X.env x = pure x := by intro _; rfl) :
    VE X (.ListComp elt [⟨tg, iter, ifs, 0⟩] scope pos) (mLc (own.map (·.2)) mi g tt m) := (ve_lc hc hN hi ok hw hg ht he hs).1
theorem ve_lc2E {scope : Scope} {own : List (Str × Nat)} {vs1 : List Nat} (hc : X.calm = true) (hN : X.N.Nodup) (hi : VI X tg iter mi) (ok : BlkOk X.N X.env.scope scope own) (hv : ∀ i ∈ vs1, i ∈ own.map (·.2)) (hw : ∀ i ∈ ws, i ∈ own.map (·.2)) (hw1 : ∀ i ∈ ws1, i ∈ vs1)
    (hg : ∀ (s : Shared) (H : Hp) (C : Addr) (cl : List (Str × Addr)) (fp : List Addr), VG (X.blk s H scope (compEnvC scope cl C X.env) fp) tg ws g)
    (ht : ∀ (s : Shared) (H : Hp) (C : Addr) (cl : List (Str × Addr)) (fp : List Addr), VTs (X.blk s H scope (compEnvC scope cl C X.env) fp) ifs tt)
    (hi1 : ∀ (s : Shared) (H : Hp) (C : Addr) (cl : List (Str × Addr)) (fp : List Addr), VI (X.blk s H scope (compEnvC scope cl C X.env) fp) tg1 iter1 mi1)
    (hg1 : ∀ (s : Shared) (H : Hp) (C : Addr) (cl : List (Str × Addr)) (fp : List Addr), VG (X.blk s H scope (compEnvC scope cl C X.env) fp) tg1 ws1 g1)
    (ht1 : ∀ (s : Shared) (H : Hp) (C : Addr) (cl : List (Str × Addr)) (fp : List Addr), VTs (X.blk s H scope (compEnvC scope cl C X.env) fp) ifs1 tt1)
    (he : ∀ (s : Shared) (H : Hp) (C : Addr) (cl : List (Str × Addr)) (fp : List Addr), VE (X.blk s H scope (compEnvC scope cl C X.env) fp) elt m) (hs : ∀ x, foldedSetIterable iter X.env x = pure x := by intro _; rfl) (hs1 : ∀ env x, foldedSetIterable iter1 env x = pure x := by intro _ _; rfl) :
    VE X (.ListComp elt [⟨tg, iter, ifs, 0⟩, ⟨tg1, iter1, ifs1, 0⟩] scope pos) (mLc2 (own.map (·.2)) vs1 mi g tt mi1 g1 tt1 m) := (ve_lc2 hc hN hi ok hv hw hw1 hg ht hi1 hg1 ht1 he hs hs1).1
end
end VS

set_option Elab.async false
set_option linter.all false
set_option maxRecDepth 100000
set_option maxHeartbeats 4000000
/-! ### one step of a mirror after the other, for simp: nothing is looked at under a binder -/
namespace VS
open PySem L2 PyProof.Rows
local instance : TabT := ⟨[], false⟩

section
variable {α : Type} {sl : List Cell} {st st' : List SC} {Γ : VEnv} {i j k n : Nat} {d e f x y : D} {ds xs cs : List D} {r s : EV} {rs : List EV} {c : Bool} {a b m mo : M} {t t1 t2 : MB} {ml : ML} {ms ms2 : MS} {g : MG} {T : String}
/-! cells -/
def rdC (i : Nat) (o : Option Cell) (Γ : VEnv) : Option (EV × VEnv) := match o with
  | some (.val d) => some (.val d, Γ)
  | some (.own _) => some (.slot i, Γ)
  | some (.par k) => some (.par k, Γ)
  | _ => none
@[simp] theorem mVar_e : mVar i ⟨sl, st⟩ = rdC i sl[i]? ⟨sl, st⟩ := rfl
@[simp] theorem rdC_v : rdC i (some (.val d)) Γ = some (.val d, Γ) := rfl
@[simp] theorem rdC_o : rdC i (some (.own d)) Γ = some (.slot i, Γ) := rfl
@[simp] theorem rdC_p : rdC i (some (.par k)) Γ = some (.par k, Γ) := rfl
@[simp] theorem mC_e : mC d Γ = some (.val d, Γ) := rfl
def fzS (i : Nat) (o : Option Cell) (Γ : VEnv) : Option (D × VEnv) := match o with
  | some (.own d) => some (d, ⟨Γ.sl.set i (.val d), Γ.st⟩)
  | some (.val d) => some (d, Γ)
  | _ => none
def fzP (k : Nat) (o : Option SC) (Γ : VEnv) : Option (D × VEnv) := match o with
  | some (.own d) => some (d, ⟨Γ.sl, Γ.st.set k (.frz d)⟩)
  | some (.frz d) => some (d, Γ)
  | _ => none
@[simp] theorem freeze_v : freeze (.val d) Γ = some (d, Γ) := rfl
@[simp] theorem freeze_f : freeze (.fresh d) Γ = some (d, Γ) := rfl
@[simp] theorem freeze_s : freeze (.slot i) ⟨sl, st⟩ = fzS i sl[i]? ⟨sl, st⟩ := rfl
@[simp] theorem freeze_p : freeze (.par k) ⟨sl, st⟩ = fzP k st[k]? ⟨sl, st⟩ := rfl
@[simp] theorem fzS_o : fzS i (some (.own d)) ⟨sl, st⟩ = some (d, ⟨sl.set i (.val d), st⟩) := rfl
@[simp] theorem fzS_v : fzS i (some (.val d)) Γ = some (d, Γ) := rfl
@[simp] theorem fzP_o : fzP k (some (.own d)) ⟨sl, st⟩ = some (d, ⟨sl, st.set k (.frz d)⟩) := rfl
@[simp] theorem fzP_f : fzP k (some (.frz d)) Γ = some (d, Γ) := rfl
def pkS (o : Option Cell) : Option D := match o with
  | some (.own d) => some d
  | some (.val d) => some d
  | _ => none
def pkP (o : Option SC) : Option D := match o with
  | some (.own d) => some d
  | some (.frz d) => some d
  | _ => none
@[simp] theorem peek_v : peek Γ (.val d) = some d := rfl
@[simp] theorem peek_f : peek Γ (.fresh d) = some d := rfl
@[simp] theorem peek_s : peek ⟨sl, st⟩ (.slot i) = pkS sl[i]? := rfl
@[simp] theorem peek_p : peek ⟨sl, st⟩ (.par k) = pkP st[k]? := rfl
@[simp] theorem pkS_o : pkS (some (.own d)) = some d := rfl
@[simp] theorem pkS_v : pkS (some (.val d)) = some d := rfl
@[simp] theorem pkP_o : pkP (some (.own d)) = some d := rfl
@[simp] theorem pkP_f : pkP (some (.frz d)) = some d := rfl
def ctS (o : Option Cell) : Option D := match o with
  | some (.own d) => some d
  | _ => none
def ctP (o : Option SC) : Option D := match o with
  | some (.own d) => some d
  | _ => none
@[simp] theorem content_s : content ⟨sl, st⟩ (.slot i) = ctS sl[i]? := rfl
@[simp] theorem content_p : content ⟨sl, st⟩ (.par k) = ctP st[k]? := rfl
@[simp] theorem ctS_o : ctS (some (.own d)) = some d := rfl
@[simp] theorem ctP_o : ctP (some (.own d)) = some d := rfl
@[simp] theorem putC_s : putC ⟨sl, st⟩ d (.slot i) = ⟨sl.set i (.own d), st⟩ := rfl
@[simp] theorem putC_p : putC ⟨sl, st⟩ d (.par k) = ⟨sl, st.set k (.own d)⟩ := rfl
@[simp] theorem setCell_e {c : Cell} : setCell ⟨sl, st⟩ i c = ⟨sl.set i c, st⟩ := rfl
def as1 (i : Nat) (o : Option (D × VEnv)) : Option VEnv := o.map fun p => setCell p.2 i (.val p.1)
@[simp] theorem asgn_v : asgn i (.val d) ⟨sl, st⟩ = some ⟨sl.set i (.val d), st⟩ := rfl
@[simp] theorem asgn_f : asgn i (.fresh d) ⟨sl, st⟩ = some ⟨sl.set i (.own d), st⟩ := rfl
@[simp] theorem asgn_p : asgn i (.par k) ⟨sl, st⟩ = some ⟨sl.set i (.par k), st⟩ := rfl
@[simp] theorem asgn_s : asgn i (.slot j) Γ = as1 i (freeze (.slot j) Γ) := rfl
@[simp] theorem as1_s : as1 i (some (d, Γ)) = some (setCell Γ i (.val d)) := rfl
/-! results -/
def bn4 {α : Type} (o : Option α) (Γ : VEnv) : Option (α × VEnv) := o.map fun r => (r, Γ)
@[simp] theorem bn4_s {v : α} : bn4 (some v) Γ = some (v, Γ) := rfl
def frz2 (o : Option (D × VEnv)) : Option (EV × VEnv) := o.map fun q => (.val q.1, q.2)
def frz1 (o : Option (EV × VEnv)) : Option (EV × VEnv) := o.bind fun p => frz2 (freeze p.1 p.2)
@[simp] theorem mFrz_e : mFrz m Γ = frz1 (m Γ) := rfl
@[simp] theorem frz1_s : frz1 (some (r, Γ)) = frz2 (freeze r Γ) := rfl
@[simp] theorem frz2_s : frz2 (some (d, Γ)) = some (.val d, Γ) := rfl
/-! two-place -/
def bn3 {α : Type} (h : D → D → Option α) (ox oy : Option D) (Γ : VEnv) : Option (α × VEnv) := ox.bind fun x => oy.bind fun y => bn4 (h x y) Γ
def bn2 {α : Type} (h : D → D → Option α) (r : EV) (o : Option (EV × VEnv)) : Option (α × VEnv) := o.bind fun q => bn3 h (peek q.2 r) (peek q.2 q.1) q.2
def bn1 {α : Type} (h : D → D → Option α) (b : M) (o : Option (EV × VEnv)) : Option (α × VEnv) := o.bind fun p => bn2 h p.1 (b p.2)
@[simp] theorem mBin_e {h : D → D → Option EV} : mBin h a b Γ = bn1 h b (a Γ) := rfl
@[simp] theorem mCmp_e {h : D → D → Option Bool} : mCmp h a b Γ = bn1 h b (a Γ) := rfl
@[simp] theorem bn1_s {h : D → D → Option α} : bn1 h b (some (r, Γ)) = bn2 h r (b Γ) := rfl
@[simp] theorem bn2_s {h : D → D → Option α} : bn2 h r (some (s, Γ)) = bn3 h (peek Γ r) (peek Γ s) Γ := rfl
@[simp] theorem bn3_s {h : D → D → Option α} : bn3 h (some x) (some y) Γ = bn4 (h x y) Γ := rfl
def ch3 (h : D → D → Option Bool) (s : EV) (o : Option (EV × VEnv)) : Option (Bool × VEnv) := o.bind fun r => (peek r.2 s).bind fun y => (peek r.2 r.1).bind fun z => bn4 (h y z) r.2
def ch2 (h h' : D → D → Option Bool) (c : M) (s : EV) (Γ : VEnv) (o : Option Bool) : Option (Bool × VEnv) := o.bind fun k => if k = true then ch3 h' s (c Γ) else some (false, Γ)
def ch1 (h h' : D → D → Option Bool) (c : M) (r : EV) (o : Option (EV × VEnv)) : Option (Bool × VEnv) := o.bind fun q => (peek q.2 r).bind fun x => (peek q.2 q.1).bind fun y => ch2 h h' c q.1 q.2 (h x y)
def ch0 (h h' : D → D → Option Bool) (b c : M) (o : Option (EV × VEnv)) : Option (Bool × VEnv) := o.bind fun p => ch1 h h' c p.1 (b p.2)
@[simp] theorem mChain_e {h h' : D → D → Option Bool} {c : M} : mChain h h' a b c Γ = ch0 h h' b c (a Γ) := rfl
@[simp] theorem ch0_s {h h' : D → D → Option Bool} {c : M} : ch0 h h' b c (some (r, Γ)) = ch1 h h' c r (b Γ) := rfl
theorem ch1_of {h h' : D → D → Option Bool} {c : M} (hx : peek Γ r = some x) (hy : peek Γ s = some y) : ch1 h h' c r (some (s, Γ)) = ch2 h h' c s Γ (h x y) := by
  simp only [ch1, Option.bind_some, hx, hy]
@[simp] theorem ch1_s {h h' : D → D → Option Bool} {c : M} : ch1 h h' c (.val x) (some (.val y, Γ)) = ch2 h h' c (.val y) Γ (h x y) := rfl
@[simp] theorem ch2_s {h h' : D → D → Option Bool} {c : M} {k : Bool} : ch2 h h' c s Γ (some k) = if k = true then ch3 h' s (c Γ) else some (false, Γ) := rfl
@[simp] theorem ch3_s {h' : D → D → Option Bool} : ch3 h' (.val y) (some (.val x, Γ)) = bn4 (h' y x) Γ := rfl
/-! truths -/
def ofb (o : Option (Bool × VEnv)) : Option (EV × VEnv) := o.map fun p => (.val (.bl p.1), p.2)
@[simp] theorem mOfB_e : mOfB t Γ = ofb (t Γ) := rfl
@[simp] theorem ofb_s : ofb (some (c, Γ)) = some (.val (.bl c), Γ) := rfl
def tst (o : Option (EV × VEnv)) : Option (Bool × VEnv) := o.bind fun p => match p.1 with
  | .val (.bl b) => some (b, p.2)
  | _ => none
@[simp] theorem mTest_e : mTest m Γ = tst (m Γ) := rfl
@[simp] theorem tst_s : tst (some (.val (.bl c), Γ)) = some (c, Γ) := rfl
def and1 (b : MB) (o : Option (Bool × VEnv)) : Option (Bool × VEnv) := o.bind fun p => if p.1 = true then b p.2 else some (false, p.2)
def or1 (b : MB) (o : Option (Bool × VEnv)) : Option (Bool × VEnv) := o.bind fun p => if p.1 = true then some (true, p.2) else b p.2
def not1 (o : Option (Bool × VEnv)) : Option (Bool × VEnv) := o.map fun p => (!p.1, p.2)
def if1 {α : Type} (a b : VEnv → Option α) (o : Option (Bool × VEnv)) : Option α := o.bind fun p => if p.1 = true then a p.2 else b p.2
@[simp] theorem mAnd_e : mAnd t1 t2 Γ = and1 t2 (t1 Γ) := rfl
@[simp] theorem mOr_e : mOr t1 t2 Γ = or1 t2 (t1 Γ) := rfl
@[simp] theorem mNot_e : mNot t Γ = not1 (t Γ) := rfl
@[simp] theorem mIf_e : mIf t a b Γ = if1 a b (t Γ) := rfl
@[simp] theorem mIfS_e : mIfS t ms ms2 Γ = if1 ms ms2 (t Γ) := rfl
@[simp] theorem and1_s : and1 t (some (c, Γ)) = if c = true then t Γ else some (false, Γ) := rfl
@[simp] theorem or1_s : or1 t (some (c, Γ)) = if c = true then some (true, Γ) else t Γ := rfl
@[simp] theorem not1_s : not1 (some (c, Γ)) = some (!c, Γ) := rfl
@[simp] theorem if1_s {p q : VEnv → Option α} : if1 p q (some (c, Γ)) = if c = true then p Γ else q Γ := rfl
/-! lists of arguments -/
def cn2 (r : EV) (o : Option (List EV × VEnv)) : Option (List EV × VEnv) := o.map fun q => (r :: q.1, q.2)
def cn1 (ml : ML) (o : Option (EV × VEnv)) : Option (List EV × VEnv) := o.bind fun p => cn2 p.1 (ml p.2)
@[simp] theorem mNil_e : mNil Γ = some ([], Γ) := rfl
@[simp] theorem mCons_e : mCons m ml Γ = cn1 ml (m Γ) := rfl
@[simp] theorem cn1_s : cn1 ml (some (r, Γ)) = cn2 r (ml Γ) := rfl
@[simp] theorem cn2_s : cn2 r (some (rs, Γ)) = some (r :: rs, Γ) := rfl
def pl1 (o : Option D) (p : Option (List D)) : Option (List D) := o.bind fun d => p.map fun ds => d :: ds
@[simp] theorem peekL_n : peekL Γ [] = some [] := rfl
@[simp] theorem peekL_c : peekL Γ (r :: rs) = pl1 (peek Γ r) (peekL Γ rs) := rfl
@[simp] theorem pl1_s : pl1 (some d) (some ds) = some (d :: ds) := rfl
def fl2 (d : D) (o : Option (List D × VEnv)) : Option (List D × VEnv) := o.map fun q => (d :: q.1, q.2)
def fl1 (rs : List EV) (o : Option (D × VEnv)) : Option (List D × VEnv) := o.bind fun p => fl2 p.1 (freezeL rs p.2)
@[simp] theorem freezeL_n : freezeL [] Γ = some ([], Γ) := rfl
@[simp] theorem freezeL_c : freezeL (r :: rs) Γ = fl1 rs (freeze r Γ) := rfl
@[simp] theorem fl1_s : fl1 rs (some (d, Γ)) = fl2 d (freezeL rs Γ) := rfl
@[simp] theorem fl2_s : fl2 d (some (ds, Γ)) = some (d :: ds, Γ) := rfl
def ls2 (o : Option (List D × VEnv)) : Option (EV × VEnv) := o.bind fun q => if q.1.length ≤ sizeLine then some (.fresh (.lst q.1), q.2) else none
def ls1 (o : Option (List EV × VEnv)) : Option (EV × VEnv) := o.bind fun p => ls2 (freezeL p.1 p.2)
@[simp] theorem mList_e : mList ml Γ = ls1 (ml Γ) := rfl
@[simp] theorem ls1_s : ls1 (some (rs, Γ)) = ls2 (freezeL rs Γ) := rfl
@[simp] theorem ls2_s : ls2 (some (ds, Γ)) = if ds.length ≤ sizeLine then some (.fresh (.lst ds), Γ) else none := rfl
def tp2 (o : Option (List D × VEnv)) : Option (EV × VEnv) := o.bind fun q => if q.1.length ≤ sizeLine then some (.val (.tup q.1), q.2) else none
def tp1 (o : Option (List EV × VEnv)) : Option (EV × VEnv) := o.bind fun p => tp2 (freezeL p.1 p.2)
@[simp] theorem mTup_e : mTup ml Γ = tp1 (ml Γ) := rfl
@[simp] theorem tp1_s : tp1 (some (rs, Γ)) = tp2 (freezeL rs Γ) := rfl
@[simp] theorem tp2_s : tp2 (some (ds, Γ)) = if ds.length ≤ sizeLine then some (.val (.tup ds), Γ) else none := rfl
/-! calls -/
def cb2 (h : List D → Option EV) (o : Option (List D)) (Γ : VEnv) : Option (EV × VEnv) := o.bind fun ds => bn4 (h ds) Γ
def cb1 (h : List D → Option EV) (o : Option (List EV × VEnv)) : Option (EV × VEnv) := o.bind fun p => cb2 h (peekL p.2 p.1) p.2
@[simp] theorem mCallB_e {h : List D → Option EV} : mCallB h ml Γ = cb1 h (ml Γ) := rfl
@[simp] theorem cb1_s {h : List D → Option EV} : cb1 h (some (rs, Γ)) = cb2 h (peekL Γ rs) Γ := rfl
@[simp] theorem cb2_s {h : List D → Option EV} : cb2 h (some ds) Γ = bn4 (h ds) Γ := rfl
def cl3 (n : Nat) (Γ : VEnv) (o : Option (EV × List SC)) : Option (EV × VEnv) := o.bind fun z => match z.1 with
  | .val d => some (.val d, ⟨Γ.sl.map (unlend n z.2), z.2.take n⟩)
  | .fresh d => some (.fresh d, ⟨Γ.sl.map (unlend n z.2), z.2.take n⟩)
  | .par k => if k < n then some (.par k, ⟨Γ.sl.map (unlend n z.2), z.2.take n⟩) else none
  | _ => none
def cl2 (f : Sem') (n : Nat) (o : Option (List Cell × VEnv)) : Option (EV × VEnv) := o.bind fun q => cl3 n q.2 (f q.1 q.2.st)
def cl1 (bs : List Bool) (f : Sem') (o : Option (List EV × VEnv)) : Option (EV × VEnv) := o.bind fun p => cl2 f p.2.st.length (passL bs p.1 p.2)
@[simp] theorem mCall_e {bs : List Bool} {f : Sem'} : mCall bs f ml Γ = cl1 bs f (ml Γ) := rfl
@[simp] theorem cl1_s {bs : List Bool} {f : Sem'} : cl1 bs f (some (rs, ⟨sl, st⟩)) = cl2 f st.length (passL bs rs ⟨sl, st⟩) := rfl
@[simp] theorem cl2_s {f : Sem'} {cells : List Cell} : cl2 f n (some (cells, ⟨sl, st⟩)) = cl3 n ⟨sl, st⟩ (f cells st) := rfl
@[simp] theorem cl3_v : cl3 n ⟨sl, st⟩ (some (.val d, st')) = some (.val d, ⟨sl.map (unlend n st'), st'.take n⟩) := rfl
@[simp] theorem cl3_f : cl3 n ⟨sl, st⟩ (some (.fresh d, st')) = some (.fresh d, ⟨sl.map (unlend n st'), st'.take n⟩) := rfl
@[simp] theorem cl3_p : cl3 n ⟨sl, st⟩ (some (.par k, st')) = if k < n then some (.par k, ⟨sl.map (unlend n st'), st'.take n⟩) else none := rfl
def pa2 (o : Option (D × VEnv)) : Option (Cell × VEnv) := o.map fun p => (.val p.1, p.2)
def pa1 (i : Nat) (o : Option Cell) (Γ : VEnv) : Option (Cell × VEnv) := match o with
  | some (.own d) => some (.par Γ.st.length, ⟨Γ.sl.set i (.par Γ.st.length), Γ.st ++ [.own d]⟩)
  | some (.val d) => some (.val d, Γ)
  | some (.par k) => some (.par k, Γ)
  | _ => none
@[simp] theorem passA_v : passA c (.val d) Γ = some (.val d, Γ) := rfl
@[simp] theorem passA_f : passA c (.fresh d) Γ = some (.own d, Γ) := rfl
@[simp] theorem passA_st : passA true (.slot i) ⟨sl, st⟩ = pa1 i sl[i]? ⟨sl, st⟩ := rfl
@[simp] theorem passA_sf : passA false (.slot i) Γ = pa2 (freeze (.slot i) Γ) := rfl
@[simp] theorem passA_pt : passA true (.par k) Γ = some (.par k, Γ) := rfl
@[simp] theorem passA_pf : passA false (.par k) Γ = pa2 (freeze (.par k) Γ) := rfl
@[simp] theorem pa2_s : pa2 (some (d, Γ)) = some (.val d, Γ) := rfl
@[simp] theorem pa1_o : pa1 i (some (.own d)) ⟨sl, st⟩ = some (.par st.length, ⟨sl.set i (.par st.length), st ++ [.own d]⟩) := rfl
@[simp] theorem pa1_v : pa1 i (some (.val d)) Γ = some (.val d, Γ) := rfl
@[simp] theorem pa1_p : pa1 i (some (.par k)) Γ = some (.par k, Γ) := rfl
def ps2 (c : Cell) (o : Option (List Cell × VEnv)) : Option (List Cell × VEnv) := o.map fun q => (c :: q.1, q.2)
def ps1 (bs : List Bool) (rs : List EV) (o : Option (Cell × VEnv)) : Option (List Cell × VEnv) := o.bind fun p => ps2 p.1 (passL bs rs p.2)
@[simp] theorem passL_n {bs : List Bool} : passL bs [] Γ = some ([], Γ) := by cases bs <;> rfl
@[simp] theorem passL_c {u : Bool} {bs : List Bool} : passL (u :: bs) (r :: rs) Γ = ps1 bs rs (passA u r Γ) := rfl
@[simp] theorem ps1_s {bs : List Bool} {c : Cell} : ps1 bs rs (some (c, Γ)) = ps2 c (passL bs rs Γ) := rfl
@[simp] theorem ps2_s {c : Cell} {cells : List Cell} : ps2 c (some (cells, Γ)) = some (c :: cells, Γ) := rfl
def rt1 (o : Option Cell) (st : List SC) : Option (EV × List SC) := match o with
  | some (.own d) => some (.fresh d, st)
  | some (.val d) => some (.val d, st)
  | _ => none
@[simp] theorem retEV_v : retEV (.val d) ⟨sl, st⟩ = some (.val d, st) := rfl
@[simp] theorem retEV_f : retEV (.fresh d) ⟨sl, st⟩ = some (.fresh d, st) := rfl
@[simp] theorem retEV_p : retEV (.par k) ⟨sl, st⟩ = some (.par k, st) := rfl
@[simp] theorem retEV_s : retEV (.slot i) ⟨sl, st⟩ = rt1 sl[i]? st := rfl
@[simp] theorem rt1_o : rt1 (some (.own d)) st = some (.fresh d, st) := rfl
@[simp] theorem rt1_v : rt1 (some (.val d)) st = some (.val d, st) := rfl
def df1 (o : Option (Fl × VEnv)) : Option (EV × List SC) := o.bind fun q => match q.1 with
  | .ret r => retEV r q.2
  | .nx => some (.val .non, q.2.st)
  | _ => none
theorem defOf_e {p : Nat} {cells : List Cell} : defOf p n ms cells st = if cells.length = p then df1 (ms ⟨cells ++ List.replicate (n - p) .un, st⟩) else none := rfl
@[simp] theorem df1_r : df1 (some (.ret r, Γ)) = retEV r Γ := rfl
@[simp] theorem df1_n : df1 (some (.nx, ⟨sl, st⟩)) = some (.val .non, st) := rfl
/-! places, slices -/
def pp1 (o : Option (EV × VEnv)) : Option (Option Int × VEnv) := o.bind fun p => match p.1 with
  | .val (.int i) => some (some i, p.2)
  | _ => none
@[simp] theorem mPN_e : mPN Γ = some (none, Γ) := rfl
@[simp] theorem mPS_e : mPS m Γ = pp1 (m Γ) := rfl
@[simp] theorem pp1_s {z : Int} : pp1 (some (.val (.int z), Γ)) = some (some z, Γ) := rfl
abbrev MO := VEnv → Option (Option Int × VEnv)
def sl4 (o : Option D) (l u : Option Int) (Γ : VEnv) : Option (EV × VEnv) := o.bind fun d => bn4 (slD d l u) Γ
def sl3 (r : EV) (l : Option Int) (o : Option (Option Int × VEnv)) : Option (EV × VEnv) := o.bind fun u => sl4 (peek u.2 r) l u.1 u.2
def sl2 (hi : MO) (r : EV) (o : Option (Option Int × VEnv)) : Option (EV × VEnv) := o.bind fun l => sl3 r l.1 (hi l.2)
def sl1 (lo hi : MO) (o : Option (EV × VEnv)) : Option (EV × VEnv) := o.bind fun p => sl2 hi p.1 (lo p.2)
@[simp] theorem mSl_e {lo hi : MO} : mSl m lo hi Γ = sl1 lo hi (m Γ) := rfl
@[simp] theorem sl1_s {lo hi : MO} : sl1 lo hi (some (r, Γ)) = sl2 hi r (lo Γ) := rfl
@[simp] theorem sl2_s {hi : MO} {l : Option Int} : sl2 hi r (some (l, Γ)) = sl3 r l (hi Γ) := rfl
@[simp] theorem sl3_s {l u : Option Int} : sl3 r l (some (u, Γ)) = sl4 (peek Γ r) l u Γ := rfl
@[simp] theorem sl4_s {l u : Option Int} : sl4 (some d) l u Γ = bn4 (slD d l u) Γ := rfl
@[simp] theorem slD_l {l u : Option Int} : slD (.lst xs) l u = some (.fresh (.lst (cutL xs l u))) := rfl
@[simp] theorem slD_t {l u : Option Int} : slD (.tup xs) l u = some (.val (.tup (cutL xs l u))) := rfl
@[simp] theorem slD_s {l u : Option Int} {w : List Nat} : slD (.str w) l u = some (.val (.str (cutL w l u))) := rfl
def un2 (h : D → Option EV) (o : Option D) (Γ : VEnv) : Option (EV × VEnv) := o.bind fun d => bn4 (h d) Γ
def un1 (h : D → Option EV) (o : Option (EV × VEnv)) : Option (EV × VEnv) := o.bind fun p => un2 h (peek p.2 p.1) p.2
@[simp] theorem mUn_e {h : D → Option EV} : mUn h m Γ = un1 h (m Γ) := rfl
@[simp] theorem un1_s {h : D → Option EV} : un1 h (some (r, Γ)) = un2 h (peek Γ r) Γ := rfl
@[simp] theorem un2_s {h : D → Option EV} : un2 h (some d) Γ = bn4 (h d) Γ := rfl
/-! methods -/
def mt4 (h : D → List D → Option EV) (o : Option D) (p : Option (List D)) (Γ : VEnv) : Option (EV × VEnv) := o.bind fun d => p.bind fun ds => bn4 (h d ds) Γ
def mt3 (h : D → List D → Option EV) (r : EV) (o : Option (List EV × VEnv)) : Option (EV × VEnv) := o.bind fun q => mt4 h (peek q.2 r) (peekL q.2 q.1) q.2
def mt2 (T : String) (h : D → List D → Option EV) (ml : ML) (r : EV) (Γ : VEnv) (o : Option D) : Option (EV × VEnv) := o.bind fun d0 => if tyM T d0 = true then mt3 h r (ml Γ) else none
def mt1 (T : String) (h : D → List D → Option EV) (ml : ML) (o : Option (EV × VEnv)) : Option (EV × VEnv) := o.bind fun p => mt2 T h ml p.1 p.2 (peek p.2 p.1)
@[simp] theorem mMeth_e {h : D → List D → Option EV} : mMeth T h mo ml Γ = mt1 T h ml (mo Γ) := rfl
@[simp] theorem mt1_s {h : D → List D → Option EV} : mt1 T h ml (some (r, Γ)) = mt2 T h ml r Γ (peek Γ r) := rfl
@[simp] theorem mt2_s {h : D → List D → Option EV} {w : List Nat} : mt2 "str" h ml r Γ (some (.str w)) = mt3 h r (ml Γ) := rfl
@[simp] theorem mt2_l {h : D → List D → Option EV} : mt2 "list" h ml r Γ (some (.lst xs)) = mt3 h r (ml Γ) := rfl
@[simp] theorem mt3_s {h : D → List D → Option EV} : mt3 h r (some (rs, Γ)) = mt4 h (peek Γ r) (peekL Γ rs) Γ := rfl
@[simp] theorem mt4_s {h : D → List D → Option EV} : mt4 h (some d) (some ds) Γ = bn4 (h d ds) Γ := rfl
abbrev MUT := List D → List D → Option (D × List D)
def mu6 (r : EV) (o : Option (D × List D)) (Γ : VEnv) : Option (EV × VEnv) := o.map fun w => (.val w.1, putC Γ (.lst w.2) r)
def mu5 (h : MUT) (r : EV) (ds : List D) (o : Option D) (Γ : VEnv) : Option (EV × VEnv) := o.bind fun c => match c with
  | .lst cs => mu6 r (h cs ds) Γ
  | _ => none
def mu4 (h : MUT) (r : EV) (o : Option (List D × VEnv)) : Option (EV × VEnv) := o.bind fun z => mu5 h r z.1 (content z.2 r) z.2
def mu3 (h : MUT) (r : EV) (o : Option (List EV × VEnv)) : Option (EV × VEnv) := o.bind fun q => mu4 h r (freezeL q.1 q.2)
def mu2 (h : MUT) (ml : ML) (r : EV) (Γ : VEnv) (o : Option D) : Option (EV × VEnv) := o.bind fun c0 => match c0 with
  | .lst _ => mu3 h r (ml Γ)
  | _ => none
def mu1 (h : MUT) (ml : ML) (o : Option (EV × VEnv)) : Option (EV × VEnv) := o.bind fun p => mu2 h ml p.1 p.2 (content p.2 p.1)
@[simp] theorem mMut_e {h : MUT} : mMut h mo ml Γ = mu1 h ml (mo Γ) := rfl
@[simp] theorem mu1_s {h : MUT} : mu1 h ml (some (r, Γ)) = mu2 h ml r Γ (content Γ r) := rfl
@[simp] theorem mu2_s {h : MUT} : mu2 h ml r Γ (some (.lst xs)) = mu3 h r (ml Γ) := rfl
@[simp] theorem mu3_s {h : MUT} : mu3 h r (some (rs, Γ)) = mu4 h r (freezeL rs Γ) := rfl
@[simp] theorem mu4_s {h : MUT} : mu4 h r (some (ds, Γ)) = mu5 h r ds (content Γ r) Γ := rfl
@[simp] theorem mu5_s {h : MUT} : mu5 h r ds (some (.lst cs)) Γ = mu6 r (h cs ds) Γ := rfl
@[simp] theorem mu6_s : mu6 r (some (d, cs)) Γ = some (.val d, putC Γ (.lst cs) r) := rfl
@[simp] theorem ownOf_f : ownOf Γ (.fresh d) = some d := rfl
@[simp] theorem ownOf_s : ownOf Γ (.slot i) = content Γ (.slot i) := rfl
@[simp] theorem ownOf_p : ownOf Γ (.par k) = content Γ (.par k) := rfl
def ex4 (r : EV) (o p : Option D) (Γ : VEnv) : Option (EV × VEnv) := o.bind fun z => p.bind fun c => match c, z with
  | .lst cs, .lst ds => if cs.length + ds.length ≤ sizeLine then some (.val .non, putC Γ (.lst (cs ++ ds)) r) else none
  | _, _ => none
def ex3 (r : EV) (o : Option (EV × VEnv)) : Option (EV × VEnv) := o.bind fun q => ex4 r (ownOf q.2 q.1) (content q.2 r) q.2
def ex2 (m : M) (r : EV) (Γ : VEnv) (o : Option D) : Option (EV × VEnv) := o.bind fun c0 => match c0 with
  | .lst _ => ex3 r (m Γ)
  | _ => none
def ex1 (m : M) (o : Option (EV × VEnv)) : Option (EV × VEnv) := o.bind fun p => ex2 m p.1 p.2 (content p.2 p.1)
@[simp] theorem mExt_e : mExt mo m Γ = ex1 m (mo Γ) := rfl
@[simp] theorem ex1_s : ex1 m (some (r, Γ)) = ex2 m r Γ (content Γ r) := rfl
@[simp] theorem ex2_s : ex2 m r Γ (some (.lst xs)) = ex3 r (m Γ) := rfl
@[simp] theorem ex3_s : ex3 r (some (s, Γ)) = ex4 r (ownOf Γ s) (content Γ r) Γ := rfl
@[simp] theorem ex4_s : ex4 r (some (.lst ds)) (some (.lst cs)) Γ = if cs.length + ds.length ≤ sizeLine then some (.val .non, putC Γ (.lst (cs ++ ds)) r) else none := rfl
/-! statements -/
def sq (b : MS) (o : Option (Fl × VEnv)) : Option (Fl × VEnv) := o.bind fun p => match p.1 with
  | .nx => b p.2
  | fl => some (fl, p.2)
@[simp] theorem mSeq_e : mSeq ms ms2 Γ = sq ms2 (ms Γ) := rfl
@[simp] theorem sq_n : sq ms (some (.nx, Γ)) = ms Γ := rfl
@[simp] theorem sq_r : sq ms (some (.ret r, Γ)) = some (.ret r, Γ) := rfl
@[simp] theorem sq_b : sq ms (some (.brk, Γ)) = some (.brk, Γ) := rfl
@[simp] theorem sq_c : sq ms (some (.cont, Γ)) = some (.cont, Γ) := rfl
@[simp] theorem mNext_e : mNext Γ = some (.nx, Γ) := rfl
@[simp] theorem mBrk_e : mBrk Γ = some (.brk, Γ) := rfl
@[simp] theorem mCont_e : mCont Γ = some (.cont, Γ) := rfl
@[simp] theorem mRetN_e : mRetN Γ = some (.ret (.val .non), Γ) := rfl
def dr1 (o : Option (EV × VEnv)) : Option (Fl × VEnv) := o.map fun p => (.nx, p.2)
def re1 (o : Option (EV × VEnv)) : Option (Fl × VEnv) := o.map fun p => (.ret p.1, p.2)
@[simp] theorem mDrop_e : mDrop m Γ = dr1 (m Γ) := rfl
@[simp] theorem mRet_e : mRet m Γ = re1 (m Γ) := rfl
@[simp] theorem dr1_s : dr1 (some (r, Γ)) = some (.nx, Γ) := rfl
@[simp] theorem re1_s : re1 (some (r, Γ)) = some (.ret r, Γ) := rfl
def ag2 (o : Option VEnv) : Option (Fl × VEnv) := o.map fun Γ => (.nx, Γ)
def ag1 (g : MG) (o : Option (EV × VEnv)) : Option (Fl × VEnv) := o.bind fun p => ag2 (g p.1 p.2)
@[simp] theorem mAsg_e : mAsg m g Γ = ag1 g (m Γ) := rfl
@[simp] theorem ag1_s : ag1 g (some (r, Γ)) = ag2 (g r Γ) := rfl
@[simp] theorem ag2_s : ag2 (some Γ) = some (.nx, Γ) := rfl
def gq1 (gs : List MG) (ds : List D) (o : Option VEnv) : Option VEnv := o.bind fun Γ => mgSeq gs ds Γ
@[simp] theorem mgSeq_n : mgSeq [] [] Γ = some Γ := rfl
@[simp] theorem mgSeq_c {gs : List MG} : mgSeq (g :: gs) (d :: ds) Γ = gq1 gs ds (g (.val d) Γ) := rfl
@[simp] theorem gq1_s {gs : List MG} : gq1 gs ds (some Γ) = mgSeq gs ds Γ := rfl
def gt1 (gs : List MG) (o : Option (D × VEnv)) : Option VEnv := o.bind fun p => match p.1 with
  | .tup ds => mgSeq gs ds p.2
  | .lst ds => mgSeq gs ds p.2
  | _ => none
@[simp] theorem mgTup_e {gs : List MG} : mgTup gs r Γ = gt1 gs (freeze r Γ) := rfl
@[simp] theorem gt1_t {gs : List MG} : gt1 gs (some (.tup ds, Γ)) = mgSeq gs ds Γ := rfl
@[simp] theorem gt1_l {gs : List MG} : gt1 gs (some (.lst ds, Γ)) = mgSeq gs ds Γ := rfl
def gs5 (d : D) (r : EV) (xs : List D) (o : Option Nat) (Γ : VEnv) : Option VEnv := o.map fun j => putC Γ (.lst (xs.set j d)) r
def gs4 (d : D) (r : EV) (o p : Option D) (Γ : VEnv) : Option VEnv := o.bind fun c => p.bind fun i => setAt d r c i Γ
def gs3 (r i : EV) (o : Option (D × VEnv)) : Option VEnv := o.bind fun z => gs4 z.1 r (content z.2 r) (peek z.2 i) z.2
def gs2 (v r : EV) (o : Option (EV × VEnv)) : Option VEnv := o.bind fun q => gs3 r q.1 (freeze v q.2)
def gs1 (mi : M) (v : EV) (o : Option (EV × VEnv)) : Option VEnv := o.bind fun p => gs2 v p.1 (mi p.2)
@[simp] theorem mgSub_e : mgSub mo m r Γ = gs1 m r (mo Γ) := rfl
@[simp] theorem gs1_s : gs1 m r (some (s, Γ)) = gs2 r s (m Γ) := rfl
@[simp] theorem gs2_s {v : EV} : gs2 v r (some (s, Γ)) = gs3 r s (freeze v Γ) := rfl
@[simp] theorem gs3_s : gs3 r s (some (d, Γ)) = gs4 d r (content Γ r) (peek Γ s) Γ := rfl
@[simp] theorem gs4_s {z : Int} : gs4 d r (some (.lst xs)) (some (.int z)) Γ = gs5 d r xs (ixN xs.length z) Γ := rfl
@[simp] theorem gs5_s : gs5 d r xs (some j) Γ = some (putC Γ (.lst (xs.set j d)) r) := rfl
def au5 (o : Option VEnv) : Option (Fl × VEnv) := o.map fun Γ => (.nx, Γ)
def au4 (i : Nat) (o : Option EV) (Γ : VEnv) : Option (Fl × VEnv) := o.bind fun r => au5 (asgn i r Γ)
def au3 (h : D → D → Option EV) (i : Nat) (o p : Option D) (Γ : VEnv) : Option (Fl × VEnv) := o.bind fun x => p.bind fun y => au4 i (h x y) Γ
def au2 (h : D → D → Option EV) (i : Nat) (r : EV) (o : Option (EV × VEnv)) : Option (Fl × VEnv) := o.bind fun q => au3 h i (peek q.2 r) (peek q.2 q.1) q.2
def au1 (h : D → D → Option EV) (i : Nat) (m : M) (o : Option (EV × VEnv)) : Option (Fl × VEnv) := o.bind fun p => au2 h i p.1 (m p.2)
@[simp] theorem mAug_e {h : D → D → Option EV} : mAug h i m Γ = au1 h i m (mVar i Γ) := rfl
@[simp] theorem au1_s {h : D → D → Option EV} : au1 h i m (some (r, Γ)) = au2 h i r (m Γ) := rfl
@[simp] theorem au2_s {h : D → D → Option EV} : au2 h i r (some (s, Γ)) = au3 h i (peek Γ r) (peek Γ s) Γ := rfl
@[simp] theorem au3_s {h : D → D → Option EV} : au3 h i (some x) (some y) Γ = au4 i (h x y) Γ := rfl
@[simp] theorem au4_s : au4 i (some r) Γ = au5 (asgn i r Γ) := rfl
@[simp] theorem au5_s : au5 (some Γ) = some (.nx, Γ) := rfl
def pr2 (i j : Nat) (o : Option (List D × VEnv)) : Option (Fl × VEnv) := o.bind fun q => match q.1 with
  | [d, e] => some (.nx, setCell (setCell q.2 i (.val d)) j (.val e))
  | _ => none
def pr1 (i j : Nat) (o : Option (List EV × VEnv)) : Option (Fl × VEnv) := o.bind fun p => pr2 i j (freezeL p.1 p.2)
@[simp] theorem mPar_e : mPar i j ml Γ = pr1 i j (ml Γ) := rfl
@[simp] theorem pr1_s : pr1 i j (some (rs, Γ)) = pr2 i j (freezeL rs Γ) := rfl
@[simp] theorem pr2_s : pr2 i j (some ([d, e], Γ)) = some (.nx, setCell (setCell Γ i (.val d)) j (.val e)) := rfl
def pt2 (i j l : Nat) (o : Option (List D × VEnv)) : Option (Fl × VEnv) := o.bind fun q => match q.1 with
  | [d, e, f] => some (.nx, setCell (setCell (setCell q.2 i (.val d)) j (.val e)) l (.val f))
  | _ => none
def pt1 (i j l : Nat) (o : Option (List EV × VEnv)) : Option (Fl × VEnv) := o.bind fun p => pt2 i j l (freezeL p.1 p.2)
@[simp] theorem mPar3_e : mPar3 i j k ml Γ = pt1 i j k (ml Γ) := rfl
@[simp] theorem pt1_s : pt1 i j k (some (rs, Γ)) = pt2 i j k (freezeL rs Γ) := rfl
@[simp] theorem pt2_s : pt2 i j k (some ([d, e, f], Γ)) = some (.nx, setCell (setCell (setCell Γ i (.val d)) j (.val e)) k (.val f)) := rfl
/-! walks -/
def ms2' (o : Option (D × VEnv)) : Option (List D × VEnv) := o.bind fun q => match q.1 with
  | .lst xs => some (xs, q.2)
  | .tup xs => some (xs, q.2)
  | .str s => some (signsD s, q.2)
  | _ => none
def ms1' (o : Option (EV × VEnv)) : Option (List D × VEnv) := o.bind fun p => ms2' (freeze p.1 p.2)
@[simp] theorem miSeq_e : miSeq m Γ = ms1' (m Γ) := rfl
@[simp] theorem ms1_s : ms1' (some (r, Γ)) = ms2' (freeze r Γ) := rfl
@[simp] theorem ms2_l : ms2' (some (.lst xs, Γ)) = some (xs, Γ) := rfl
@[simp] theorem ms2_t : ms2' (some (.tup xs, Γ)) = some (xs, Γ) := rfl
@[simp] theorem ms2_s {w : List Nat} : ms2' (some (.str w, Γ)) = some (signsD w, Γ) := rfl
def me2 (o : Option (List D × VEnv)) : Option (List D × VEnv) := o.bind fun q => match q.1 with
  | [.lst xs] => some (enumD xs, q.2)
  | [.tup xs] => some (enumD xs, q.2)
  | [.str s] => some (enumD (signsD s), q.2)
  | _ => none
def me1 (o : Option (List EV × VEnv)) : Option (List D × VEnv) := o.bind fun p => me2 (freezeL p.1 p.2)
@[simp] theorem miEnum_e : miEnum ml Γ = me1 (ml Γ) := rfl
@[simp] theorem me1_s : me1 (some (rs, Γ)) = me2 (freezeL rs Γ) := rfl
@[simp] theorem me2_s : me2 (some ([.lst xs], Γ)) = some (enumD xs, Γ) := rfl
def mz2 (o : Option (List D × VEnv)) : Option (List D × VEnv) := o.bind fun q => match q.1 with
  | [.lst xs, .lst ys] => some (zipD xs ys, q.2)
  | [.tup xs, .tup ys] => some (zipD xs ys, q.2)
  | _ => none
def mz1 (o : Option (List EV × VEnv)) : Option (List D × VEnv) := o.bind fun p => mz2 (freezeL p.1 p.2)
@[simp] theorem miZip_e : miZip ml Γ = mz1 (ml Γ) := rfl
@[simp] theorem mz1_s : mz1 (some (rs, Γ)) = mz2 (freezeL rs Γ) := rfl
@[simp] theorem mz2_l : mz2 (some ([.lst xs, .lst cs], Γ)) = some (zipD xs cs, Γ) := rfl
@[simp] theorem mz2_t : mz2 (some ([.tup xs, .tup cs], Γ)) = some (zipD xs cs, Γ) := rfl
def rp2 (r : EV) (o : Option (EV × VEnv)) : Option (EV × VEnv) := o.bind fun q => match r, q.1 with
  | .fresh (.lst xs), .val (.int k) => if k.natAbs / 4611686018427387904 = 0 ∧ xs.length * k.toNat ≤ sizeLine then some (.fresh (.lst (List.replicate k.toNat xs).flatten), q.2) else none
  | _, _ => none
def rp1 (b : M) (o : Option (EV × VEnv)) : Option (EV × VEnv) := o.bind fun p => rp2 p.1 (b p.2)
@[simp] theorem mRepL_e : mRepL a b Γ = rp1 b (a Γ) := rfl
@[simp] theorem rp1_s : rp1 b (some (r, Γ)) = rp2 r (b Γ) := rfl
@[simp] theorem rp2_s {z : Int} : rp2 (.fresh (.lst xs)) (some (.val (.int z), Γ)) = if z.natAbs / 4611686018427387904 = 0 ∧ xs.length * z.toNat ≤ sizeLine then some (.fresh (.lst (List.replicate z.toNat xs).flatten), Γ) else none := rfl
/-! comprehensions -/
@[simp] theorem mYes_e : mYes Γ = some (true, Γ) := rfl
@[simp] theorem wipeE_n : wipeE Γ [] = Γ := rfl
@[simp] theorem wipeE_c {v : Nat} {vs : List Nat} : wipeE Γ (v :: vs) = setCell (wipeE Γ vs) v .un := rfl
def ok1 (o : Option Cell) : Bool := match o with
  | some (.own _) => false
  | _ => true
@[simp] theorem okW_n : okW Γ [] = true := rfl
@[simp] theorem okW_c {v : Nat} {vs : List Nat} : okW ⟨sl, st⟩ (v :: vs) = (ok1 sl[v]? && okW ⟨sl, st⟩ vs) := rfl
@[simp] theorem ok1_u : ok1 (some .un) = true := rfl
@[simp] theorem ok1_v : ok1 (some (.val d)) = true := rfl
@[simp] theorem ok1_p : ok1 (some (.par k)) = true := rfl
@[simp] theorem ok1_n : ok1 none = true := rfl
/-- one turn: what is put to the list, if any -/
def tu4 (vs : List Nat) (o : Option (D × VEnv)) : Option (Option D × VEnv) := o.map fun z => (some z.1, wipeE z.2 vs)
def tu3 (vs : List Nat) (o : Option (EV × VEnv)) : Option (Option D × VEnv) := o.bind fun q => tu4 vs (freeze q.1 q.2)
def tu2 (vs : List Nat) (m : M) (o : Option (Bool × VEnv)) : Option (Option D × VEnv) := o.bind fun p => if p.1 = true then tu3 vs (m p.2) else some (none, wipeE p.2 vs)
def tu1 (vs : List Nat) (tt : MB) (m : M) (o : Option VEnv) : Option (Option D × VEnv) := o.bind fun Γ => tu2 vs m (tt Γ)
def turn (vs : List Nat) (g : MG) (tt : MB) (m : M) (d : D) (Γ : VEnv) : Option (Option D × VEnv) := tu1 vs tt m (g (.val d) Γ)
@[simp] theorem turn_e {vs : List Nat} : turn vs g t m d Γ = tu1 vs t m (g (.val d) Γ) := rfl
@[simp] theorem tu1_s {vs : List Nat} : tu1 vs t m (some Γ) = tu2 vs m (t Γ) := rfl
@[simp] theorem tu2_s {vs : List Nat} : tu2 vs m (some (c, Γ)) = if c = true then tu3 vs (m Γ) else some (none, wipeE Γ vs) := rfl
@[simp] theorem tu3_s {vs : List Nat} : tu3 vs (some (r, Γ)) = tu4 vs (freeze r Γ) := rfl
@[simp] theorem tu4_s {vs : List Nat} : tu4 vs (some (d, Γ)) = some (some d, wipeE Γ vs) := rfl
end
/-! operations on data -/
section
variable {i j : Int} {s t : List Nat} {xs ys : List D} {c k : Bool} {d e : D}
@[simp] theorem addD_i : addD (.int i) (.int j) = some (.val (.int (i + j))) := rfl
@[simp] theorem addD_b : addD (.int i) (.bl c) = some (.val (.int (i + if c then 1 else 0))) := rfl
@[simp] theorem addD_s : addD (.str s) (.str t) = if s.length + t.length ≤ sizeLine then some (.val (.str (s ++ t))) else none := rfl
@[simp] theorem addD_l : addD (.lst xs) (.lst ys) = if xs.length + ys.length ≤ sizeLine then some (.fresh (.lst (xs ++ ys))) else none := rfl
@[simp] theorem addD_t : addD (.tup xs) (.tup ys) = if xs.length + ys.length ≤ sizeLine then some (.val (.tup (xs ++ ys))) else none := rfl
@[simp] theorem subD_i : subD (.int i) (.int j) = some (.val (.int (i - j))) := rfl
@[simp] theorem mulD_i : mulD (.int i) (.int j) = if mulOk i j = true then some (.val (.int (i * j))) else none := rfl
@[simp] theorem mulD_s : mulD (.str s) (.int j) = if j ≤ 1000 ∧ -1000 ≤ j ∧ s.length ≤ 1000 then some (.val (.str (List.replicate j.toNat s).flatten)) else none := rfl
@[simp] theorem mulD_t : mulD (.tup xs) (.int j) = if xs ≠ [] ∧ 2 ≤ j ∧ j ≤ 1000 ∧ xs.length ≤ 1000 then some (.val (.tup (List.replicate j.toNat xs).flatten)) else none := rfl
@[simp] theorem fdivD_i : fdivD (.int i) (.int j) = if 0 < j ∧ j.natAbs.log2 < 9000 then some (.val (.int (i / j))) else none := rfl
@[simp] theorem modD_i : modD (.int i) (.int j) = if 0 < j then some (.val (.int (i % j))) else none := rfl
@[simp] theorem powD_i : powD (.int i) (.int j) = if powOk i j = true then some (.val (.int (i ^ j.toNat))) else none := rfl
@[simp] theorem negD_i : negD (.int i) = some (.val (.int (-i))) := rfl
@[simp] theorem revD_l : revD (.lst xs) = some (.fresh (.lst xs.reverse)) := rfl
@[simp] theorem revD_t : revD (.tup xs) = some (.val (.tup xs.reverse)) := rfl
@[simp] theorem revD_s : revD (.str s) = some (.val (.str s.reverse)) := rfl
@[simp] theorem ltD_i : ltD (.int i) (.int j) = some (decide (i < j)) := rfl
@[simp] theorem leD_i : leD (.int i) (.int j) = some (decide (i ≤ j)) := rfl
@[simp] theorem gtD_i : gtD (.int i) (.int j) = some (decide (j < i)) := rfl
@[simp] theorem geD_i : geD (.int i) (.int j) = some (decide (j ≤ i)) := rfl
@[simp] theorem ltD_s : ltD (.str s) (.str t) = some (decide (s < t)) := rfl
@[simp] theorem leD_s : leD (.str s) (.str t) = some (!decide (t < s)) := rfl
@[simp] theorem gtD_s : gtD (.str s) (.str t) = some (decide (t < s)) := rfl
@[simp] theorem geD_s : geD (.str s) (.str t) = some (!decide (s < t)) := rfl
@[simp] theorem isD_b : isD (.bl c) (.bl k) = some (decide (c = k)) := rfl
@[simp] theorem isD_n : isD .non .non = some true := rfl
@[simp] theorem isD_bn : isD (.bl c) .non = some false := rfl
@[simp] theorem isD_in : isD (.int i) .non = some false := rfl
@[simp] theorem isD_sn : isD (.str s) .non = some false := rfl
@[simp] theorem isD_tn : isD (.tup xs) .non = some false := rfl
@[simp] theorem isD_ln : isD (.lst xs) .non = some false := rfl
def nt1 (o : Option Bool) : Option Bool := o.map (!·)
@[simp] theorem notD_e {g : D → D → Option Bool} : notD g d e = nt1 (g d e) := rfl
@[simp] theorem nt1_s : nt1 (some c) = some (!c) := rfl
@[simp] theorem lenD_s : lenD [.str s] = some (.val (.int s.length)) := rfl
@[simp] theorem lenD_l : lenD [.lst xs] = some (.val (.int xs.length)) := rfl
@[simp] theorem lenD_t : lenD [.tup xs] = some (.val (.int xs.length)) := rfl
@[simp] theorem absD_i : absD [.int i] = some (.val (.int (if i < 0 then -i else i))) := rfl
@[simp] theorem intD_i : intD [.int i] = some (.val (.int i)) := rfl
@[simp] theorem intD_b : intD [.bl c] = some (.val (.int (if c then 1 else 0))) := rfl
@[simp] theorem maxD_2 : maxD [.int i, .int j] = some (.val (.int (if j > i then j else i))) := rfl
@[simp] theorem minD_2 : minD [.int i, .int j] = some (.val (.int (if j < i then j else i))) := rfl
theorem maxD_l {ns : List Int} (h : intsOf xs = some ns) (hn : ns ≠ []) : maxD [.lst xs] = some (.val (.int (maxI ns))) := by
  simp only [maxD, h, Option.bind_some, if_pos hn]
theorem minD_l {ns : List Int} (h : intsOf xs = some ns) (hn : ns ≠ []) : minD [.lst xs] = some (.val (.int (minI ns))) := by
  simp only [minD, h, Option.bind_some, if_pos hn]
@[simp] theorem maxD_m {ns : List Int} (hn : ns ≠ []) : maxD [.lst (ns.map D.int)] = some (.val (.int (maxI ns))) := maxD_l (intsOf_of ns) hn
@[simp] theorem minD_m {ns : List Int} (hn : ns ≠ []) : minD [.lst (ns.map D.int)] = some (.val (.int (minI ns))) := minD_l (intsOf_of ns) hn
theorem sumD_l {ns : List Int} (h : intsOf xs = some ns) : sumD [.lst xs] = some (.val (.int ns.sum)) := by
  simp only [sumD, h, Option.map_some]
@[simp] theorem sumD_m {ns : List Int} : sumD [.lst (ns.map D.int)] = some (.val (.int ns.sum)) := sumD_l (intsOf_of ns)
theorem allD_l {bs : List Bool} (h : blsOf xs = some bs) : allD [.lst xs] = some (.val (.bl (bs.all id))) := by
  simp only [allD, h, Option.map_some]
theorem anyD_l {bs : List Bool} (h : blsOf xs = some bs) : anyD [.lst xs] = some (.val (.bl (bs.any id))) := by
  simp only [anyD, h, Option.map_some]
@[simp] theorem tupleD_l : tupleD [.lst xs] = some (.val (.tup xs)) := rfl
@[simp] theorem listD_l : listD [.lst xs] = some (.fresh (.lst xs)) := rfl
@[simp] theorem listD_t : listD [.tup xs] = some (.fresh (.lst xs)) := rfl
@[simp] theorem tupleD_t : tupleD [.tup xs] = some (.val (.tup xs)) := rfl
theorem isi_e {n : String} {u : String} (h : tyOf d = some u) : isiD [d, .ty n] = if n ∈ ["int", "bool", "str", "list", "tuple", "dict"] then some (.val (.bl (u == n || (u == "bool" && n == "int")))) else none := by
  simp only [isiD, h, Option.bind_some]
@[simp] theorem isi_i {n : String} : isiD [.int i, .ty n] = if n ∈ ["int", "bool", "str", "list", "tuple", "dict"] then some (.val (.bl ("int" == n || ("int" == "bool" && n == "int")))) else none := rfl
@[simp] theorem isi_b {n : String} : isiD [.bl c, .ty n] = if n ∈ ["int", "bool", "str", "list", "tuple", "dict"] then some (.val (.bl ("bool" == n || ("bool" == "bool" && n == "int")))) else none := rfl
@[simp] theorem isi_s {n : String} : isiD [.str s, .ty n] = if n ∈ ["int", "bool", "str", "list", "tuple", "dict"] then some (.val (.bl ("str" == n || ("str" == "bool" && n == "int")))) else none := rfl
@[simp] theorem isi_l {n : String} : isiD [.lst xs, .ty n] = if n ∈ ["int", "bool", "str", "list", "tuple", "dict"] then some (.val (.bl ("list" == n || ("list" == "bool" && n == "int")))) else none := rfl
@[simp] theorem isi_t {n : String} : isiD [.tup xs, .ty n] = if n ∈ ["int", "bool", "str", "list", "tuple", "dict"] then some (.val (.bl ("tuple" == n || ("tuple" == "bool" && n == "int")))) else none := rfl
@[simp] theorem isi_n {n : String} : isiD [.non, .ty n] = if n ∈ ["int", "bool", "str", "list", "tuple", "dict"] then some (.val (.bl ("NoneType" == n || ("NoneType" == "bool" && n == "int")))) else none := rfl
def ix1 (o : Option D) : Option EV := o.map .val
def ix2 (o : Option Nat) : Option EV := o.map fun c => .val (.str [c])
@[simp] theorem ixD_l : ixD (.lst xs) (.int i) = ix1 (atI xs i) := rfl
@[simp] theorem ixD_t : ixD (.tup xs) (.int i) = ix1 (atI xs i) := rfl
@[simp] theorem ixD_s : ixD (.str s) (.int i) = ix2 (atI s i) := rfl
@[simp] theorem ix1_s : ix1 (some d) = some (.val d) := rfl
@[simp] theorem ix2_s {c : Nat} : ix2 (some c) = some (.val (.str [c])) := rfl
@[simp] theorem g1S_s {f : List Nat → List Nat → D} : g1S f (.str s) [.str t] = some (.val (f s t)) := rfl
@[simp] theorem inD_s {c : Nat} : inD (.str [c]) (.str t) = some (decide (c ∈ t)) := rfl
@[simp] theorem gAppend_s : gAppend xs [d] = if xs.length < sizeLine then some (.non, xs ++ [d]) else none := rfl
def gp1 (cs : List D) (o : Option D) : Option (D × List D) := o.map fun d => (d, cs)
@[simp] theorem gPop_s : gPop xs [] = gp1 xs.dropLast xs[xs.length - 1]? := rfl
@[simp] theorem gp1_s : gp1 xs (some d) = some (d, xs) := rfl
@[simp] theorem gReverse_s : gReverse xs [] = some (.non, xs.reverse) := rfl
@[simp] theorem gClear_s : gClear xs [] = some (.non, []) := rfl
end
end VS

set_option Elab.async false
set_option linter.all false
set_option maxRecDepth 100000
set_option maxHeartbeats 4000000
/-! ### plain reasoning over mirrors -/
namespace VS
open PySem L2 PyProof.Rows
local instance : TabT := ⟨[], false⟩

/-- a cell that holds a value, or nothing -/
def cel : Option D → Cell
  | none => .un
  | some d => .val d
@[simp] theorem unlend_val (n : Nat) (st : List SC) (d : D) : unlend n st (.val d) = .val d := rfl
@[simp] theorem unlend_un (n : Nat) (st : List SC) : unlend n st .un = .un := rfl
@[simp] theorem unlend_own (n : Nat) (st : List SC) (d : D) : unlend n st (.own d) = .own d := rfl
@[simp] theorem unlend_cel (n : Nat) (st : List SC) (o : Option D) : unlend n st (cel o) = cel o := by cases o <;> rfl
@[simp] theorem unlend_par (n : Nat) (st : List SC) (k : Nat) : unlend n st (.par k) = if k < n then .par k else match st[k]? with
    | some (.own d) => .own d
    | some (.frz d) => .val d
    | none => .un := rfl
/-- a cell that holds an own object, or nothing -/
def oce : Option D → Cell
  | none => .un
  | some d => .own d
@[simp] theorem unlend_oce (n : Nat) (st : List SC) (o : Option D) : unlend n st (oce o) = oce o := by cases o <;> rfl
@[simp] theorem oce_some (d : D) : oce (some d) = .own d := rfl
@[simp] theorem oce_none : oce none = .un := rfl
@[simp] theorem cel_some (d : D) : cel (some d) = .val d := rfl
@[simp] theorem cel_none : cel none = .un := rfl
/-! small facts for the store -/
theorem st_at (st : List SC) (x : SC) : (st ++ [x])[st.length]? = some x := by simp
@[simp] theorem st_take (st : List SC) (x : SC) : (st ++ [x]).take st.length = st := by simp
@[simp] theorem st_set (st : List SC) (x y : SC) : (st ++ [x]).set st.length y = st ++ [y] := by simp
@[simp] theorem intsOf_map' (ns : List Int) : intsOf (ns.map D.int) = some ns := intsOf_of ns
@[simp] theorem strsOf_map' (ns : List (List Nat)) : strsOf (ns.map D.str) = some ns := strsOf_of ns
theorem intsOf_mapf {α : Type} (f : α → Int) (xs : List α) : intsOf (xs.map fun x => D.int (f x)) = some (xs.map f) := by
  have := intsOf_of (xs.map f)
  rwa [List.map_map] at this
theorem strsOf_mapf {α : Type} (f : α → List Nat) (xs : List α) : strsOf (xs.map fun x => D.str (f x)) = some (xs.map f) := by
  have := strsOf_of (xs.map f)
  rwa [List.map_map] at this
theorem blsOf_mapf {α : Type} (f : α → Bool) : ∀ xs : List α, blsOf (xs.map fun x => D.bl (f x)) = some (xs.map f)
  | [] => rfl
  | x :: xs => by simp only [List.map_cons, blsOf, blsOf_mapf f xs, Option.map_some]
@[simp] theorem sumD_f {α : Type} (f : α → Int) (l : List α) : sumD [.lst (l.map fun x => D.int (f x))] = some (.val (.int (l.map f).sum)) := sumD_l (intsOf_mapf f l)
@[simp] theorem maxD_f {α : Type} (f : α → Int) (l : List α) (h : l ≠ []) : maxD [.lst (l.map fun x => D.int (f x))] = some (.val (.int (maxI (l.map f)))) := maxD_l (intsOf_mapf f l) (by simpa using h)
@[simp] theorem minD_f {α : Type} (f : α → Int) (l : List α) (h : l ≠ []) : minD [.lst (l.map fun x => D.int (f x))] = some (.val (.int (minI (l.map f)))) := minD_l (intsOf_mapf f l) (by simpa using h)
@[simp] theorem allD_f {α : Type} (f : α → Bool) (l : List α) : allD [.lst (l.map fun x => D.bl (f x))] = some (.val (.bl (l.all f))) := by
  rw [allD_l (blsOf_mapf f l)]
  simp [List.all_map, Function.comp_def]
@[simp] theorem anyD_f {α : Type} (f : α → Bool) (l : List α) : anyD [.lst (l.map fun x => D.bl (f x))] = some (.val (.bl (l.any f))) := by
  rw [anyD_l (blsOf_mapf f l)]
  simp [List.any_map, Function.comp_def]
theorem sizeLine_big : 1000000 ≤ sizeLine := by decide
/-! ### sequences -/
theorem seq_nx {a b : MS} {Γ Γ' : VEnv} {r : Option (Fl × VEnv)} (h : a Γ = some (.nx, Γ')) (h2 : b Γ' = r) : mSeq a b Γ = r := by
  simp only [mSeq, h, Option.bind_some]
  exact h2
theorem seq_ret {a b : MS} {Γ Γ' : VEnv} {v : EV} (h : a Γ = some (.ret v, Γ')) : mSeq a b Γ = some (.ret v, Γ') := by
  simp only [mSeq, h, Option.bind_some]
theorem for_in {mi : MI} {g : MG} {b : MS} {Γ Γ1 : VEnv} {ds : List D} {r : Option (Fl × VEnv)} (h : mi Γ = some (ds, Γ1)) (h2 : forD g b ds Γ1 = r) : mFor mi g b Γ = r := by
  simp only [mFor, h, Option.bind_some]
  exact h2
theorem okR_in {i : Int} (h1 : -1000000 ≤ i) (h2 : i ≤ 1000000) : okR i = true := by
  have a : i.natAbs < 4611686018427387904 := by omega
  exact decide_eq_true (Nat.div_eq_of_lt a)
theorem smallI_of {i : Int} (h1 : -1000000 ≤ i) (h2 : i ≤ 1000000) : smallI i = true := by
  have a : i.natAbs < 18446744073709551616 := by omega
  exact decide_eq_true (Nat.div_eq_of_lt a)
theorem mulOk_small {i j : Int} (h1 : -1000000 ≤ i) (h2 : i ≤ 1000000) : mulOk i j = true := by
  unfold mulOk
  rw [smallI_of h1 h2]
  rfl
theorem mulOk_l {i j : Int} (h : smallI i = true) : mulOk i j = true := by
  unfold mulOk
  rw [h]
  rfl
theorem mulOk_r {i j : Int} (h : smallI j = true) : mulOk i j = true := by
  unfold mulOk
  rw [h, Bool.or_true]
  rfl
theorem miR1_eq {ml : ML} {Γ Γ1 : VEnv} {j : Int} (h : ml Γ = some ([.val (.int j)], Γ1)) (hj : okR j = true) : miR1 ml Γ = some (rangeD 0 j.toNat, Γ1) := by
  unfold miR1
  rw [h]
  exact if_pos hj
theorem miR2_eq {ml : ML} {Γ Γ1 : VEnv} {i j : Int} (h : ml Γ = some ([.val (.int i), .val (.int j)], Γ1)) (hi : okR i = true) (hj : okR j = true) : miR2 ml Γ = some (rangeD i (j - i).toNat, Γ1) := by
  unfold miR2
  rw [h]
  exact if_pos ⟨hi, hj⟩
theorem miR3_eq {ml : ML} {Γ Γ1 : VEnv} {i j : Int} (h : ml Γ = some ([.val (.int i), .val (.int j), .val (.int (-1))], Γ1)) (hi : okR i = true) (hj : okR j = true) : miR3 ml Γ = some (rangeDC i (-1) (i - j).toNat, Γ1) := by
  unfold miR3
  rw [h]
  exact if_pos ⟨rfl, hi, hj⟩
/-- range(n), range(a, b) of small numbers -/
theorem miR1_n {ml : ML} {Γ Γ1 : VEnv} {j : Int} (n : Nat) (h : ml Γ = some ([.val (.int j)], Γ1)) (hj : j = n) (hn : n ≤ 1000000) : miR1 ml Γ = some (rangeD 0 n, Γ1) := by
  have := miR1_eq h (okR_in (by omega) (by omega))
  rw [this]
  congr 2
  subst hj
  rfl
theorem miR2_n {ml : ML} {Γ Γ1 : VEnv} {i j : Int} (n : Nat) (h : ml Γ = some ([.val (.int i), .val (.int j)], Γ1)) (hj : (j - i).toNat = n) (h1 : -1000000 ≤ i) (h2 : i ≤ 1000000) (h3 : -1000000 ≤ j) (h4 : j ≤ 1000000) : miR2 ml Γ = some (rangeD i n, Γ1) := by
  rw [miR2_eq h (okR_in h1 h2) (okR_in h3 h4), hj]
theorem asg_in {m : M} {g : MG} {Γ Γ1 Γ2 : VEnv} {r : EV} (h : m Γ = some (r, Γ1)) (h2 : g r Γ1 = some Γ2) : mAsg m g Γ = some (.nx, Γ2) := by
  simp only [mAsg, h, Option.bind_some, h2, Option.map_some]
theorem if_in {t : MB} {a b : MS} {Γ Γ1 : VEnv} {c : Bool} {r : Option (Fl × VEnv)} (h : t Γ = some (c, Γ1)) (h2 : (if c = true then a Γ1 else b Γ1) = r) : mIfS t a b Γ = r := by
  simp only [mIfS, h, Option.bind_some]
  exact h2
theorem ret_in {m : M} {Γ Γ1 : VEnv} {r : EV} (h : m Γ = some (r, Γ1)) : mRet m Γ = some (.ret r, Γ1) := by
  simp only [mRet, h, Option.map_some]
theorem def_ret {p n : Nat} {m : MS} {cells : List Cell} {st st' : List SC} {Γ' : VEnv} {v r : EV} (hl : cells.length = p := by rfl) (h : m ⟨cells ++ List.replicate (n - p) .un, st⟩ = some (.ret v, Γ')) (h2 : retEV v Γ' = some (r, st')) : defOf p n m cells st = some (r, st') := by
  simp only [defOf, hl, if_true, h, Option.bind_some, h2]
theorem def_val {p n : Nat} {m : MS} {cells : List Cell} {st st' : List SC} {d : D} (hl : cells.length = p) (h : ∃ sl, m ⟨cells ++ List.replicate (n - p) .un, st⟩ = some (.ret (.val d), ⟨sl, st'⟩)) : defOf p n m cells st = some (.val d, st') := by
  obtain ⟨sl, h⟩ := h
  exact def_ret hl h rfl
theorem def_nx {p n : Nat} {m : MS} {cells : List Cell} {st : List SC} {Γ' : VEnv} (hl : cells.length = p := by rfl) (h : m ⟨cells ++ List.replicate (n - p) .un, st⟩ = some (.nx, Γ')) : defOf p n m cells st = some (.val .non, Γ'.st) := by
  simp only [defOf, hl, if_true, h, Option.bind_some]
/-! ### for -/
theorem forD_inv {g : MG} {b : MS} (S : Nat → VEnv → Prop) (ds : List D) (h : ∀ i (hi : i < ds.length) Γ, S i Γ → ∃ Γ1 Γ2, g (.val ds[i]) Γ = some Γ1 ∧ (b Γ1 = some (.nx, Γ2) ∨ b Γ1 = some (.cont, Γ2)) ∧ S (i + 1) Γ2) {Γ : VEnv} (h0 : S 0 Γ) :
    ∃ Γ', forD g b ds Γ = some (.nx, Γ') ∧ S ds.length Γ' := by
  have : ∀ k (i : Nat) Γ, ds.length - i = k → i ≤ ds.length → S i Γ → ∃ Γ', forD g b (ds.drop i) Γ = some (.nx, Γ') ∧ S ds.length Γ' := by
    intro k
    induction k with
    | zero =>
      intro i Γ hk hi hs
      have e : i = ds.length := by omega
      subst e
      rw [List.drop_length]
      exact ⟨Γ, rfl, hs⟩
    | succ k ih =>
      intro i Γ hk hi hs
      have hlt : i < ds.length := by omega
      obtain ⟨Γ1, Γ2, h1, h2, h3⟩ := h i hlt Γ hs
      obtain ⟨Γ', h4, h5⟩ := ih (i + 1) Γ2 (by omega) hlt h3
      refine ⟨Γ', ?_, h5⟩
      rw [List.drop_eq_getElem_cons hlt]
      simp only [forD, h1, Option.bind_some]
      rcases h2 with h2 | h2 <;> (rw [h2]; exact h4)
  have := this _ 0 Γ rfl (Nat.zero_le _) h0
  simpa using this
/-- each turn goes on, or one gives an answer -/
theorem forD_all {g : MG} {b : MS} (S : VEnv → Prop) (R : VEnv → Prop) (r : EV) (ds : List D) (good : Nat → Bool)
    (h1 : ∀ i (hi : i < ds.length) Γ, S Γ → good i = true → ∃ Γ1 Γ2, g (.val ds[i]) Γ = some Γ1 ∧ b Γ1 = some (.nx, Γ2) ∧ S Γ2)
    (h2 : ∀ i (hi : i < ds.length) Γ, S Γ → good i = false → ∃ Γ1 Γ2, g (.val ds[i]) Γ = some Γ1 ∧ b Γ1 = some (.ret r, Γ2) ∧ R Γ2) {Γ : VEnv} (h0 : S Γ) :
    ((List.range ds.length).all good = true ∧ ∃ Γ', forD g b ds Γ = some (.nx, Γ') ∧ S Γ') ∨ ((List.range ds.length).all good = false ∧ ∃ Γ', forD g b ds Γ = some (.ret r, Γ') ∧ R Γ') := by
  have : ∀ k (i : Nat) Γ, ds.length - i = k → i ≤ ds.length → S Γ → ((∀ j, i ≤ j → j < ds.length → good j = true) ∧ ∃ Γ', forD g b (ds.drop i) Γ = some (.nx, Γ') ∧ S Γ') ∨ ((∃ j, i ≤ j ∧ j < ds.length ∧ good j = false) ∧ ∃ Γ', forD g b (ds.drop i) Γ = some (.ret r, Γ') ∧ R Γ') := by
    intro k
    induction k with
    | zero =>
      intro i Γ hk hi hs
      have e : i = ds.length := by omega
      subst e
      rw [List.drop_length]
      exact .inl ⟨fun j h1 h2 => by omega, Γ, rfl, hs⟩
    | succ k ih =>
      intro i Γ hk hi hs
      have hlt : i < ds.length := by omega
      rw [List.drop_eq_getElem_cons hlt]
      cases hg : good i with
      | true =>
        obtain ⟨Γ1, Γ2, e1, e2, e3⟩ := h1 i hlt Γ hs hg
        simp only [forD, e1, Option.bind_some, e2]
        rcases ih (i + 1) Γ2 (by omega) hlt e3 with ⟨a, q⟩ | ⟨⟨j, a1, a2, a3⟩, q⟩
        · refine .inl ⟨fun j h3 h4 => ?_, q⟩
          by_cases e : j = i
          · rw [e]; exact hg
          · exact a j (by omega) h4
        · exact .inr ⟨⟨j, by omega, a2, a3⟩, q⟩
      | false =>
        obtain ⟨Γ1, Γ2, e1, e2, e3⟩ := h2 i hlt Γ hs hg
        simp only [forD, e1, Option.bind_some, e2]
        exact .inr ⟨⟨i, Nat.le_refl _, hlt, hg⟩, Γ2, rfl, e3⟩
  rcases this _ 0 Γ rfl (Nat.zero_le _) h0 with ⟨a, q⟩ | ⟨⟨j, a1, a2, a3⟩, q⟩
  · rw [List.drop_zero] at q
    exact .inl ⟨by rw [List.all_eq_true]; intro j hj; exact a j (Nat.zero_le _) (List.mem_range.mp hj), q⟩
  · rw [List.drop_zero] at q
    refine .inr ⟨?_, q⟩
    rw [List.all_eq_false]
    exact ⟨j, List.mem_range.mpr a2, by rw [a3]; decide⟩
theorem forD_good {g : MG} {b : MS} (S : VEnv → Prop) (r : EV) (ds : List D) (good : Nat → Bool)
    (h : ∀ i (hi : i < ds.length) Γ, S Γ → ∃ Γ1 Γ2, g (.val ds[i]) Γ = some Γ1 ∧ b Γ1 = some (if good i = true then .nx else .ret r, Γ2) ∧ S Γ2) {Γ : VEnv} (h0 : S Γ) :
    ∃ Γ', forD g b ds Γ = some (if (List.range ds.length).all good = true then .nx else .ret r, Γ') ∧ S Γ' := by
  rcases forD_all (g := g) (b := b) S S r ds good (fun i hi Γ hs hg => by
      obtain ⟨Γ1, Γ2, e1, e2, e3⟩ := h i hi Γ hs
      rw [if_pos hg] at e2
      exact ⟨Γ1, Γ2, e1, e2, e3⟩) (fun i hi Γ hs hg => by
      obtain ⟨Γ1, Γ2, e1, e2, e3⟩ := h i hi Γ hs
      rw [if_neg (by rw [hg]; decide)] at e2
      exact ⟨Γ1, Γ2, e1, e2, e3⟩) h0 with ⟨a, Γ', e, q⟩ | ⟨a, Γ', e, q⟩
  · exact ⟨Γ', by rw [if_pos a]; exact e, q⟩
  · exact ⟨Γ', by rw [if_neg (by rw [a]; decide)]; exact e, q⟩
@[simp] theorem rangeD_length (lo : Int) (n : Nat) : (rangeD lo n).length = n := by simp [rangeD]
@[simp] theorem rangeD_get (lo : Int) (n i : Nat) (h : i < (rangeD lo n).length) : (rangeD lo n)[i] = .int (lo + (i : Nat)) := by simp [rangeD]
@[simp] theorem signsD_length (s : List Nat) : (signsD s).length = s.length := by simp [signsD]
@[simp] theorem signsD_get (s : List Nat) (i : Nat) (h : i < (signsD s).length) : (signsD s)[i] = .str [s[i]'(by simpa using h)] := by simp [signsD]
@[simp] theorem enumD_length (ds : List D) : (enumD ds).length = ds.length := by simp [enumD]
@[simp] theorem enumD_getE (ds : List D) (i : Nat) (h : i < (enumD ds).length) : (enumD ds)[i] = .tup [.int (i : Nat), ds[i]'(by simpa using h)] := by simp [enumD]
/-! ### while -/
theorem whileD_inv {t : MB} {b : MS} (S : Nat → VEnv → Prop) (h : ∀ k Γ, S k Γ → (∃ Γ1, t Γ = some (false, Γ1) ∧ S 0 Γ1) ∨ ∃ Γ1 Γ2 k', t Γ = some (true, Γ1) ∧ (b Γ1 = some (.nx, Γ2) ∨ b Γ1 = some (.cont, Γ2)) ∧ k' < k ∧ S k' Γ2) : ∀ (n k : Nat) (Γ : VEnv), k < n → S k Γ → ∃ k' Γ1 Γ', S k' Γ1 ∧ t Γ1 = some (false, Γ') ∧ S 0 Γ' ∧ whileD t b n Γ = some (.nx, Γ')
  | 0, k, Γ, hk, _ => by omega
  | n + 1, k, Γ, hk, hs => by
    rcases h k Γ hs with ⟨Γ1, e1, e2⟩ | ⟨Γ1, Γ2, k', e1, e2, e3, e4⟩
    · exact ⟨k, Γ, Γ1, hs, e1, e2, by simp [whileD, e1]⟩
    · obtain ⟨k2, G1, G', a1, a2, a3, a4⟩ := whileD_inv S h n k' Γ2 (by omega) e4
      refine ⟨k2, G1, G', a1, a2, a3, ?_⟩
      rcases e2 with e2 | e2 <;> simp [whileD, e1, e2, a4]
/-! ### comprehensions -/
theorem lcD_turn {vs : List Nat} {g : MG} {tt : MB} {m : M} {d : D} {ds acc : List D} {Γ : VEnv} (hl : acc.length < sizeLine) : lcD vs g tt m (d :: ds) acc Γ = (turn vs g tt m d Γ).bind fun p => match p.1 with
    | some x => lcD vs g tt m ds (acc ++ [x]) p.2
    | none => lcD vs g tt m ds acc p.2 := by
  simp only [lcD, turn, tu1, tu2, tu3, tu4]
  cases g (.val d) Γ with
  | none => rfl
  | some Γ1 =>
    simp only [Option.bind_some]
    cases tt Γ1 with
    | none => rfl
    | some p =>
      simp only [Option.bind_some]
      split
      · cases m p.2 with
        | none => rfl
        | some q =>
          simp only [Option.bind_some]
          cases freeze q.1 q.2 with
          | none => rfl
          | some z => simp only [Option.bind_some, Option.map_some, if_pos hl]
      · rfl
theorem lcD_map {α : Type} {vs : List Nat} {g : MG} {tt : MB} {m : M} {Γ : VEnv} (f : α → D) (b : α → Bool) (h : α → D) : ∀ (xs : List α) (acc : List D), (∀ x ∈ xs, turn vs g tt m (f x) Γ = some (if b x = true then some (h x) else none, Γ)) → acc.length + xs.length ≤ sizeLine →
    lcD vs g tt m (xs.map f) acc Γ = some (acc ++ (xs.filter b).map h, Γ)
  | [], acc, _, _ => by simp [lcD]
  | x :: xs, acc, hh, hl => by
    simp only [List.length_cons] at hl
    rw [List.map_cons, lcD_turn (by omega), hh x List.mem_cons_self]
    simp only [Option.bind_some]
    by_cases hb : b x = true
    · simp only [if_pos hb]
      rw [lcD_map f b h xs _ (fun y hy => hh y (List.mem_cons_of_mem _ hy)) (by simp; omega)]
      simp [List.filter_cons, hb]
    · simp only [if_neg hb]
      rw [lcD_map f b h xs _ (fun y hy => hh y (List.mem_cons_of_mem _ hy)) (by omega)]
      simp [List.filter_cons, hb]
theorem wipeE_at {Γ : VEnv} {i : Nat} : ∀ vs : List Nat, (wipeE Γ vs).sl[i]? = if i ∈ vs ∧ i < Γ.sl.length then some .un else Γ.sl[i]?
  | [] => by simp [wipeE]
  | v :: vs => by
    simp only [wipeE, setCell]
    by_cases e : i = v
    · subst e
      by_cases hl : i < Γ.sl.length
      · rw [List.getElem?_set_self (by rw [wipeE_len]; exact hl), if_pos ⟨List.mem_cons_self, hl⟩]
      · rw [List.getElem?_eq_none_iff.mpr (by simp [wipeE_len]; omega), if_neg fun z => hl z.2, List.getElem?_eq_none_iff.mpr (by omega)]
    · rw [List.getElem?_set_ne (Ne.symm e), wipeE_at vs]
      simp [e]
theorem wipeE_st {Γ : VEnv} : ∀ vs : List Nat, (wipeE Γ vs).st = Γ.st
  | [] => rfl
  | v :: vs => by simp only [wipeE, setCell]; exact wipeE_st vs
theorem back_wipe (Γ : VEnv) (vs : List Nat) : backE Γ (wipeE Γ vs) vs = Γ := by
  have h1 : (backE Γ (wipeE Γ vs) vs).st = Γ.st := by rw [backE_st, wipeE_st]
  have h2 : (backE Γ (wipeE Γ vs) vs).sl = Γ.sl := by
    apply List.ext_getElem?
    intro i
    rw [backE_at (by rw [wipeE_len]), wipeE_at]
    by_cases hi : i ∈ vs
    · rw [if_pos hi]
    · rw [if_neg hi, if_neg fun z => hi z.1]
  cases Γ
  generalize backE _ _ _ = G at h1 h2
  cases G
  simp only at h1 h2
  subst h1 h2
  rfl
theorem mLc_map {α : Type} {vs : List Nat} {mi : MI} {g : MG} {tt : MB} {m : M} {Γ Γ1 : VEnv} (f : α → D) (xs : List α) (b : α → Bool) (h : α → D) (hi : mi Γ = some (xs.map f, Γ1)) (ok : okW Γ1 vs = true) (hl : xs.length ≤ sizeLine)
    (hh : ∀ x ∈ xs, turn vs g tt m (f x) (wipeE Γ1 vs) = some (if b x = true then some (h x) else none, wipeE Γ1 vs)) : mLc vs mi g tt m Γ = some (.fresh (.lst ((xs.filter b).map h)), Γ1) := by
  simp only [mLc, hi, Option.bind_some, if_pos ok]
  rw [lcD_map f b h xs [] hh (by simpa using hl)]
  simp only [Option.map_some, List.nil_append, back_wipe]
/-- no test -/
theorem mLc_all {α : Type} {vs : List Nat} {mi : MI} {g : MG} {tt : MB} {m : M} {Γ Γ1 : VEnv} (f : α → D) (xs : List α) (h : α → D) (hi : mi Γ = some (xs.map f, Γ1)) (ok : okW Γ1 vs = true) (hl : xs.length ≤ sizeLine)
    (hh : ∀ x ∈ xs, turn vs g tt m (f x) (wipeE Γ1 vs) = some (some (h x), wipeE Γ1 vs)) : mLc vs mi g tt m Γ = some (.fresh (.lst (xs.map h)), Γ1) := by
  have := mLc_map f xs (fun _ => true) h hi ok hl (by simpa using hh)
  rwa [List.filter_eq_self.mpr (fun _ _ => rfl)] at this
theorem mLc_map0 {α : Type} {vs : List Nat} {mi : MI} {g : MG} {tt : MB} {m : M} {Γ : VEnv} (f : α → D) (xs : List α) (b : α → Bool) (h : α → D) (hi : mi Γ = some (xs.map f, Γ)) (ok : okW Γ vs = true) (hl : xs.length ≤ sizeLine)
    (hh : ∀ x ∈ xs, turn vs g tt m (f x) (wipeE Γ vs) = some (if b x = true then some (h x) else none, wipeE Γ vs)) : mLc vs mi g tt m Γ = some (.fresh (.lst ((xs.filter b).map h)), Γ) := mLc_map f xs b h hi ok hl hh
theorem mLc_all0 {α : Type} {vs : List Nat} {mi : MI} {g : MG} {tt : MB} {m : M} {Γ : VEnv} (f : α → D) (xs : List α) (h : α → D) (hi : mi Γ = some (xs.map f, Γ)) (ok : okW Γ vs = true) (hl : xs.length ≤ sizeLine)
    (hh : ∀ x ∈ xs, turn vs g tt m (f x) (wipeE Γ vs) = some (some (h x), wipeE Γ vs)) : mLc vs mi g tt m Γ = some (.fresh (.lst (xs.map h)), Γ) := mLc_all f xs h hi ok hl hh
theorem lc2D_map {α β : Type} {vs vs1 : List Nat} {g : MG} {tt : MB} {mi1 : MI} {g1 : MG} {tt1 : MB} {m : M} {Γ : VEnv} (f : α → D) (f1 : β → D) (ys : α → List β) (b1 : α → β → Bool) (h1 : α → β → D) : ∀ (xs : List α) (acc : List D),
    (∀ x ∈ xs, ∃ Γ1 Γ2 Γ3, g (.val (f x)) Γ = some Γ1 ∧ tt Γ1 = some (true, Γ2) ∧ mi1 Γ2 = some ((ys x).map f1, Γ3) ∧ (∀ y ∈ ys x, turn vs1 g1 tt1 m (f1 y) (wipeE Γ3 vs1) = some (if b1 x y = true then some (h1 x y) else none, wipeE Γ3 vs1)) ∧ wipeE (wipeE Γ3 vs1) vs = Γ) →
    acc.length + (xs.flatMap ys).length ≤ sizeLine → lc2D vs vs1 g tt mi1 g1 tt1 m (xs.map f) acc Γ = some (acc ++ xs.flatMap (fun x => ((ys x).filter (b1 x)).map (h1 x)), Γ)
  | [], acc, _, _ => by simp [lc2D]
  | x :: xs, acc, hh, hl => by
    obtain ⟨Γ1, Γ2, Γ3, e1, e2, e3, e4, e5⟩ := hh x List.mem_cons_self
    rw [List.flatMap_cons, List.length_append] at hl
    simp only [List.map_cons, lc2D, e1, Option.bind_some, e2, if_true, e3]
    rw [lcD_map f1 (b1 x) (h1 x) (ys x) acc e4 (by omega)]
    simp only [Option.bind_some, e5]
    rw [lc2D_map f f1 ys b1 h1 xs _ (fun y hy => hh y (List.mem_cons_of_mem _ hy))]
    · simp [List.flatMap_cons]
    · have := List.length_filter_le (b1 x) (ys x)
      simp only [List.length_append, List.length_map]
      omega
theorem mLc2_map {α β : Type} {vs vs1 : List Nat} {mi : MI} {g : MG} {tt : MB} {mi1 : MI} {g1 : MG} {tt1 : MB} {m : M} {Γ Γ1 : VEnv} (f : α → D) (xs : List α) (f1 : β → D) (ys : α → List β) (b1 : α → β → Bool) (h1 : α → β → D) (hi : mi Γ = some (xs.map f, Γ1)) (ok : okW Γ1 vs = true) (hl : (xs.flatMap ys).length ≤ sizeLine)
    (hh : ∀ x ∈ xs, ∃ Γ2 Γ3 Γ4, g (.val (f x)) (wipeE Γ1 vs) = some Γ2 ∧ tt Γ2 = some (true, Γ3) ∧ mi1 Γ3 = some ((ys x).map f1, Γ4) ∧ (∀ y ∈ ys x, turn vs1 g1 tt1 m (f1 y) (wipeE Γ4 vs1) = some (if b1 x y = true then some (h1 x y) else none, wipeE Γ4 vs1)) ∧ wipeE (wipeE Γ4 vs1) vs = wipeE Γ1 vs) :
    mLc2 vs vs1 mi g tt mi1 g1 tt1 m Γ = some (.fresh (.lst (xs.flatMap (fun x => ((ys x).filter (b1 x)).map (h1 x)))), Γ1) := by
  simp only [mLc2, hi, Option.bind_some, if_pos ok]
  rw [lc2D_map f f1 ys b1 h1 xs [] hh (by simpa using hl)]
  simp only [Option.map_some, List.nil_append, back_wipe]
/-! places, slices, == -/
theorem atI_nn {α : Type} (xs : List α) (i : Int) (h : 0 ≤ i) : atI xs i = xs[i.toNat]? := by
  unfold atI ixN
  rw [if_pos h]
  split
  · rfl
  · rename_i hn
    rw [List.getElem?_eq_none_iff.mpr (by omega)]
    rfl
@[simp] theorem atN {α : Type} (xs : List α) (i : Nat) : atI xs (i : Int) = xs[i]? := by rw [atI_nn _ _ (by omega)]; simp
@[simp] theorem atI_0 {α : Type} (xs : List α) : atI xs 0 = xs[0]? := atN xs 0
@[simp] theorem atI_1 {α : Type} (xs : List α) : atI xs 1 = xs[1]? := atN xs 1
@[simp] theorem atI_2 {α : Type} (xs : List α) : atI xs 2 = xs[2]? := atN xs 2
theorem atLast {α : Type} (xs : List α) : atI xs (-1) = xs.getLast? := by
  unfold atI ixN
  rw [if_neg (by decide), List.getLast?_eq_getElem?]
  split
  · simp only [Option.bind_some]
    congr 1
    omega
  · rw [List.getElem?_eq_none_iff.mpr (by omega)]
    rfl
@[simp] theorem cutL_ab {α : Type} (xs : List α) (a b : Nat) : cutL xs (some (a : Int)) (some (b : Int)) = (xs.drop a).take (b - a) := by
  unfold cutL
  rw [HT.sIx_nat, HT.sIx_nat]
  apply List.ext_getElem?
  intro i
  simp only [List.getElem?_take, List.getElem?_drop]
  split <;> split
  · congr 1; omega
  · rw [List.getElem?_eq_none_iff.mpr (by omega)]
  · rw [List.getElem?_eq_none_iff.mpr (by omega)]
  · rfl
@[simp] theorem cutL_b {α : Type} (xs : List α) (b : Nat) : cutL xs none (some (b : Int)) = xs.take b := by
  unfold cutL
  rw [HT.sIx_nat, HT.sIx_none, List.drop_zero, Nat.sub_zero]
  apply List.ext_getElem?
  intro i
  simp only [List.getElem?_take]
  split <;> split
  · rfl
  · omega
  · rw [List.getElem?_eq_none_iff.mpr (by omega)]
  · rfl
@[simp] theorem cutL_a {α : Type} (xs : List α) (a : Nat) : cutL xs (some (a : Int)) none = xs.drop a := by
  unfold cutL
  rw [HT.sIx_nat, HT.sIx_none]
  apply List.ext_getElem?
  intro i
  simp only [List.getElem?_take, List.getElem?_drop]
  split
  · congr 1; omega
  · rw [List.getElem?_eq_none_iff.mpr (by omega)]
@[simp] theorem cutL_0 {α : Type} (xs : List α) : cutL xs none none = xs := by
  unfold cutL
  simp [HT.sIx_none]
@[simp] theorem dpt_int (n : Nat) (i : Int) : dpt n (.int i) = true := by cases n <;> rfl
@[simp] theorem dpt_str (n : Nat) (i : List Nat) : dpt n (.str i) = true := by cases n <;> rfl
@[simp] theorem dpt_bl (n : Nat) (i : Bool) : dpt n (.bl i) = true := by cases n <;> rfl
@[simp] theorem dpt_non (n : Nat) : dpt n .non = true := by cases n <;> rfl
theorem dpt_lst (n : Nat) (xs : List D) : dpt (n + 1) (.lst xs) = xs.all (dpt n) := rfl
theorem dpt_tup (n : Nat) (xs : List D) : dpt (n + 1) (.tup xs) = xs.all (dpt n) := rfl
@[simp] theorem eqD_int (i j : Int) : eqD (.int i) (.int j) = some (i == j) := by simp [eqD, beq]
@[simp] theorem neD_int (i j : Int) : neD (.int i) (.int j) = some (i != j) := by simp [neD, beq, bne]
@[simp] theorem eqD_str (i j : List Nat) : eqD (.str i) (.str j) = some (i == j) := by simp [eqD, beq]
@[simp] theorem neD_str (i j : List Nat) : neD (.str i) (.str j) = some (i != j) := by simp [neD, beq, bne]
@[simp] theorem eqD_bl (i j : Bool) : eqD (.bl i) (.bl j) = some (i == j) := by simp [eqD, beq]
@[simp] theorem neD_bl (i j : Bool) : neD (.bl i) (.bl j) = some (i != j) := by simp [neD, beq, bne]
theorem all_dpt {α : Type} (n : Nat) (f : α → D) (h : ∀ x, dpt n (f x) = true) (xs : List α) : (xs.map f).all (dpt n) = true := by
  rw [List.all_eq_true]
  intro d hd
  obtain ⟨x, _, rfl⟩ := List.mem_map.mp hd
  exact h x
theorem beqs_map {α : Type} [BEq α] (f : α → D) (h : ∀ x y, beq (f x) (f y) = (x == y)) : ∀ xs ys : List α, beqs (xs.map f) (ys.map f) = (xs == ys)
  | [], [] => rfl
  | [], _ :: _ => rfl
  | _ :: _, [] => rfl
  | x :: xs, y :: ys => by
    simp only [List.map_cons, beqs, h, beqs_map f h xs ys]
    rfl
theorem eqL {α : Type} [BEq α] (f : α → D) (hd : ∀ x, dpt 59 (f x) = true) (h : ∀ x y, beq (f x) (f y) = (x == y)) (xs ys : List α) : eqD (.lst (xs.map f)) (.lst (ys.map f)) = some (xs == ys) := by
  unfold eqD
  rw [if_pos ⟨all_dpt 59 f hd xs, all_dpt 59 f hd ys⟩]
  simp only [beq, beqs_map f h]
theorem eqT {α : Type} [BEq α] (f : α → D) (hd : ∀ x, dpt 59 (f x) = true) (h : ∀ x y, beq (f x) (f y) = (x == y)) (xs ys : List α) : eqD (.tup (xs.map f)) (.tup (ys.map f)) = some (xs == ys) := by
  unfold eqD
  rw [if_pos ⟨all_dpt 59 f hd xs, all_dpt 59 f hd ys⟩]
  simp only [beq, beqs_map f h]
theorem neL {α : Type} [BEq α] (f : α → D) (hd : ∀ x, dpt 59 (f x) = true) (h : ∀ x y, beq (f x) (f y) = (x == y)) (xs ys : List α) : neD (.lst (xs.map f)) (.lst (ys.map f)) = some (!(xs == ys)) := by
  unfold neD
  rw [if_pos ⟨all_dpt 59 f hd xs, all_dpt 59 f hd ys⟩]
  simp only [beq, beqs_map f h]
theorem neT {α : Type} [BEq α] (f : α → D) (hd : ∀ x, dpt 59 (f x) = true) (h : ∀ x y, beq (f x) (f y) = (x == y)) (xs ys : List α) : neD (.tup (xs.map f)) (.tup (ys.map f)) = some (!(xs == ys)) := by
  unfold neD
  rw [if_pos ⟨all_dpt 59 f hd xs, all_dpt 59 f hd ys⟩]
  simp only [beq, beqs_map f h]
@[simp] theorem eqL_str (xs ys : List (List Nat)) : eqD (.lst (xs.map .str)) (.lst (ys.map .str)) = some (xs == ys) := eqL D.str (fun _ => by simp) (fun _ _ => by simp [beq]) xs ys
@[simp] theorem eqT_str (xs ys : List (List Nat)) : eqD (.tup (xs.map .str)) (.tup (ys.map .str)) = some (xs == ys) := eqT D.str (fun _ => by simp) (fun _ _ => by simp [beq]) xs ys
@[simp] theorem neL_str (xs ys : List (List Nat)) : neD (.lst (xs.map .str)) (.lst (ys.map .str)) = some (!(xs == ys)) := neL D.str (fun _ => by simp) (fun _ _ => by simp [beq]) xs ys
@[simp] theorem neT_str (xs ys : List (List Nat)) : neD (.tup (xs.map .str)) (.tup (ys.map .str)) = some (!(xs == ys)) := neT D.str (fun _ => by simp) (fun _ _ => by simp [beq]) xs ys
@[simp] theorem eqL_int (xs ys : List Int) : eqD (.lst (xs.map .int)) (.lst (ys.map .int)) = some (xs == ys) := eqL D.int (fun _ => by simp) (fun _ _ => by simp [beq]) xs ys
@[simp] theorem eqT_int (xs ys : List Int) : eqD (.tup (xs.map .int)) (.tup (ys.map .int)) = some (xs == ys) := eqT D.int (fun _ => by simp) (fun _ _ => by simp [beq]) xs ys
@[simp] theorem neL_int (xs ys : List Int) : neD (.lst (xs.map .int)) (.lst (ys.map .int)) = some (!(xs == ys)) := neL D.int (fun _ => by simp) (fun _ _ => by simp [beq]) xs ys
@[simp] theorem neT_int (xs ys : List Int) : neD (.tup (xs.map .int)) (.tup (ys.map .int)) = some (!(xs == ys)) := neT D.int (fun _ => by simp) (fun _ _ => by simp [beq]) xs ys
/-! join -/
theorem joinD_lst (s : List Nat) (ns : List (List Nat)) (h : (ns.map (·.length)).sum + ns.length * s.length ≤ 16777216) : joinD (.str s) [.lst (ns.map D.str)] = some (.val (.str (joinL s ns))) := by
  have e : joinD (.str s) [.lst (ns.map D.str)] = (strsOf (ns.map D.str)).bind fun ns => if (ns.map (·.length)).sum + ns.length * s.length ≤ 16777216 then some (.val (.str (joinL s ns))) else none := rfl
  rw [e, strsOf_of, Option.bind_some, if_pos h]
theorem joinL_chars : ∀ w : List Nat, joinL [] (w.map fun c => [c]) = w
  | [] => rfl
  | [x] => rfl
  | x :: y :: r => by
    have := joinL_chars (y :: r)
    simp only [List.map_cons] at this ⊢
    simp [joinL, this]
theorem sum_ones {α : Type} : ∀ xs : List α, (xs.map fun _ => 1).sum = xs.length
  | [] => rfl
  | x :: xs => by simp only [List.map_cons, List.sum_cons, List.length_cons, sum_ones xs]; omega
theorem joinD_chars {α : Type} (f : α → Nat) (xs : List α) (h : xs.length ≤ 16777216) : joinD (.str []) [.lst (xs.map fun x => D.str [f x])] = some (.val (.str (xs.map f))) := by
  have e : (xs.map fun x => D.str [f x]) = ((xs.map f).map fun c => [c]).map D.str := by simp [Function.comp_def]
  rw [e, joinD_lst, joinL_chars]
  have : (((xs.map f).map fun c => [c]).map (·.length)) = xs.map fun _ => 1 := by simp [Function.comp_def]
  rw [this, sum_ones]
  simpa using h
/-! texts of one letter -/
theorem occ1 (s : List Nat) (c : Nat) : ∀ (l : List Nat) (acc : Array Nat) (free limit : Nat), (∀ i ∈ l, free ≤ i) → l.Pairwise (· < ·) → acc.size + l.length ≤ limit →
    (forIn (m := Id) l (acc, free) (PySem.StrLaws.occBody ⟨s.toArray⟩ ⟨#[c]⟩ s.length limit)).run.fst.size = acc.size + (l.filter fun i => s[i]? == some c).length := by
  intro l
  induction l with
  | nil => intro acc free limit _ _ _; rfl
  | cons i l ih =>
    intro acc free limit hf hp hs
    rw [List.pairwise_cons] at hp
    have hfi := hf i List.mem_cons_self
    simp only [List.length_cons] at hs
    have key : (((acc, free).fst.size < limit ∧ (acc, free).snd ≤ i) ∧ i + (⟨#[c]⟩ : Str).length ≤ s.length) ∧ Builtin.Str.subAt ⟨s.toArray⟩ ⟨#[c]⟩ i = true ↔ (s[i]? == some c) = true := by
      have h1 := PySem.StrLaws.subAt_one ⟨s.toArray⟩ c i
      have h1' : (i + (⟨#[c]⟩ : Str).length ≤ s.length ∧ Builtin.Str.subAt ⟨s.toArray⟩ ⟨#[c]⟩ i = true) ↔ s[i]? = some c := by
        simpa [Str.length] using h1
      rw [beq_iff_eq, ← h1']
      constructor
      · rintro ⟨⟨⟨_, _⟩, a⟩, b⟩; exact ⟨a, b⟩
      · rintro ⟨a, b⟩; exact ⟨⟨⟨by show acc.size < limit; omega, hfi⟩, a⟩, b⟩
    rw [List.forIn_cons]
    by_cases hc : (s[i]? == some c) = true
    · have e1 : PySem.StrLaws.occBody ⟨s.toArray⟩ ⟨#[c]⟩ s.length limit i (acc, free) = (pure (ForInStep.yield (acc.push i, i + 1)) : Id _) := by
        unfold PySem.StrLaws.occBody
        simp only [Bool.and_eq_true, decide_eq_true_eq]
        rw [if_pos (key.mpr hc)]
        rfl
      rw [e1]
      simp only [pure_bind]
      rw [ih _ _ limit (fun j hj => hp.1 j hj) hp.2 (by simp; omega)]
      simp [List.filter_cons, hc]
      omega
    · have e1 : PySem.StrLaws.occBody ⟨s.toArray⟩ ⟨#[c]⟩ s.length limit i (acc, free) = (pure (ForInStep.yield (acc, free)) : Id _) := by
        unfold PySem.StrLaws.occBody
        simp only [Bool.and_eq_true, decide_eq_true_eq]
        rw [if_neg fun z => hc (key.mp z)]
      rw [e1]
      simp only [pure_bind]
      rw [ih _ _ limit (fun j hj => hf j (List.mem_cons_of_mem _ hj)) hp.2 (by omega)]
      simp [List.filter_cons, hc]
theorem filter_range (s : List Nat) (c : Nat) : ((List.range' 0 (s.length + 1)).filter fun i => s[i]? == some c).length = s.count c := by
  have : ∀ (s : List Nat) (k : Nat) , ((List.range' k (s.length + 1)).filter fun i => s[i - k]? == some c).length = s.count c := by
    intro s
    induction s with
    | nil => intro k; simp [List.range']
    | cons x s ih =>
      intro k
      rw [List.length_cons, List.range'_succ, List.filter_cons]
      have e : (List.range' (k + 1) (s.length + 1)).filter (fun i => (x :: s)[i - k]? == some c) = (List.range' (k + 1) (s.length + 1)).filter fun i => s[i - (k + 1)]? == some c := by
        apply List.filter_congr
        intro i hi
        have := List.mem_range'_1.mp hi
        obtain ⟨j, rfl⟩ : ∃ j, i = k + 1 + j := ⟨i - (k + 1), by omega⟩
        rw [show k + 1 + j - k = j + 1 by omega, show k + 1 + j - (k + 1) = j by omega, List.getElem?_cons_succ]
      rw [e]
      simp only [Nat.sub_self, List.getElem?_cons_zero]
      rw [List.count_cons]
      by_cases h : x = c
      · subst h; simp [ih (k + 1)]
      · simp [h, ih (k + 1)]
  simpa using this s 0
theorem countS_one (s : List Nat) (c : Nat) : countS s [c] = (s.count c : Nat) := by
  unfold countS Txt.count
  rw [PySem.StrLaws.occ_eq]
  rw [Array.length_toList]
  have := occ1 s c (List.range' 0 (s.length + 1 - 0)) #[] 0 (s.length + 1) (by simp) List.pairwise_lt_range' (by simp)
  rw [Nat.sub_zero, filter_range] at this
  simp only [Str.length, List.size_toArray, Nat.sub_zero]
  rw [show ((⟨[c].toArray⟩ : Str)) = ⟨#[c]⟩ from rfl]
  rw [this]
  simp
end VS

set_option Elab.async false
set_option linter.all false
set_option maxRecDepth 100000
set_option maxHeartbeats 4000000
/-! ### the typed layer: what a mirror computes, as a plain function -/
namespace VS
open PySem L2 PyProof.Rows
local instance : TabT := ⟨[], false⟩

/-! encoders -/
abbrev eN : Unit → D := fun _ => .non
abbrev eA : D → D := fun d => d
abbrev eL {α : Type} (e : α → D) : List α → D := fun l => .lst (l.map e)
abbrev eT {α : Type} (e : α → D) : List α → D := fun l => .tup (l.map e)
abbrev eP0 : Unit → D := fun _ => .tup []
abbrev eP1 {α : Type} (e : α → D) : α → D := fun a => .tup [e a]
abbrev eP2 {α β : Type} (e : α → D) (f : β → D) : α × β → D := fun p => .tup [e p.1, f p.2]
abbrev eP3 {α β γ : Type} (e : α → D) (f : β → D) (g : γ → D) : α × β × γ → D := fun p => .tup [e p.1, f p.2.1, g p.2.2]
abbrev eP4 {α β γ δ : Type} (e : α → D) (f : β → D) (g : γ → D) (h : δ → D) : α × β × γ × δ → D := fun p => .tup [e p.1, f p.2.1, g p.2.2.1, h p.2.2.2]
abbrev eP5 {α β γ δ ε : Type} (e : α → D) (f : β → D) (g : γ → D) (h : δ → D) (i : ε → D) : α × β × γ × δ × ε → D := fun p => .tup [e p.1, f p.2.1, g p.2.2.1, h p.2.2.2.1, i p.2.2.2.2]
def eO {α : Type} (e : α → D) : Option α → D
  | none => .non
  | some a => e a

/-- a cell of which nothing is known but that it is no loan -/
inductive Qc where
  | un | val (d : D) | own (d : D)
def q2c : Qc → Cell
  | .un => .un
  | .val d => .val d
  | .own d => .own d
theorem unlend_q2c (n : Nat) (st : List SC) (q : Qc) : unlend n st (q2c q) = q2c q := by cases q <;> rfl
/-- no cell is a loan above n -/
def NL (n : Nat) (cs : List Cell) : Prop := ∀ st, cs.map (unlend n st) = cs
theorem nl_0 {n : Nat} : NL n [] := fun _ => rfl
theorem nl_v {n : Nat} {d : D} {cs : List Cell} (h : NL n cs) : NL n (.val d :: cs) := fun st => by rw [List.map_cons, h st]; rfl
theorem nl_o {n : Nat} {d : D} {cs : List Cell} (h : NL n cs) : NL n (.own d :: cs) := fun st => by rw [List.map_cons, h st]; rfl
theorem nl_u {n : Nat} {cs : List Cell} (h : NL n cs) : NL n (.un :: cs) := fun st => by rw [List.map_cons, h st]; rfl
theorem nl_q {n : Nat} {q : Qc} {cs : List Cell} (h : NL n cs) : NL n (q2c q :: cs) := fun st => by rw [List.map_cons, h st, unlend_q2c]
theorem nl_p {n k : Nat} {cs : List Cell} (hk : k < n) (h : NL n cs) : NL n (.par k :: cs) := fun st => by
  rw [List.map_cons, h st]
  simp only [unlend, if_pos hk]
theorem nl_eq {n : Nat} {cs : List Cell} (h : NL n cs) (st : List SC) : cs.map (unlend n st) = cs := h st

/-- an object of the store -/
def put (st : List SC) (k : Nat) (d : D) : List SC := st.set k (.own d)
@[simp] theorem put_put (st : List SC) (k : Nat) (d e : D) : put (put st k d) k e = put st k e := by simp [put]
@[simp] theorem put_len (st : List SC) (k : Nat) (d : D) : (put st k d).length = st.length := by simp [put]
theorem put_at {st : List SC} {k : Nat} {d : D} (hk : k < st.length) : (put st k d)[k]? = some (.own d) := by simp [put, hk]
theorem put_same {st : List SC} {k : Nat} {d : D} (h : st[k]? = some (.own d)) : put st k d = st := by
  obtain ⟨hk, h⟩ := List.getElem?_eq_some_iff.mp h
  unfold put
  rw [← h]
  exact List.set_getElem_self _
theorem st_put (st : List SC) (d e : D) : put (st ++ [.own d]) st.length e = st ++ [.own e] := by simp [put]
theorem st_put0 (st : List SC) (d : D) : put (st ++ [.own d]) st.length d = st ++ [.own d] := by simp [put]

/-! ### expressions -/
section
variable {Γ Γ1 Γ2 Γ3 Γ4 : VEnv} {i j k n : Nat} {d e x y z : D} {r ra rb rc : EV} {a b m mo : M} {c c1 c2 : Bool} {t t1 t2 : MB} {ml : ML} {rs : List EV} {ds : List D}
theorem q_var (h : Γ.sl[i]? = some (.val d)) : mVar i Γ = some (.val d, Γ) := by unfold mVar; rw [h]
theorem q_varO (h : Γ.sl[i]? = some (.own d)) : mVar i Γ = some (.slot i, Γ) := by unfold mVar; rw [h]
theorem q_varP (h : Γ.sl[i]? = some (.par k)) : mVar i Γ = some (.par k, Γ) := by unfold mVar; rw [h]
theorem q_c : mC d Γ = some (.val d, Γ) := rfl
theorem q_bin {g : D → D → Option EV} (h1 : a Γ = some (ra, Γ1)) (h2 : b Γ1 = some (rb, Γ2)) (h3 : peek Γ2 ra = some x) (h4 : peek Γ2 rb = some y) (h5 : g x y = some r) : mBin g a b Γ = some (r, Γ2) := by
  simp only [mBin, h1, h2, h3, h4, h5, Option.bind_some, Option.map_some]
theorem q_cmp {g : D → D → Option Bool} (h1 : a Γ = some (ra, Γ1)) (h2 : b Γ1 = some (rb, Γ2)) (h3 : peek Γ2 ra = some x) (h4 : peek Γ2 rb = some y) (h5 : g x y = some c) : mCmp g a b Γ = some (c, Γ2) := by
  simp only [mCmp, h1, h2, h3, h4, h5, Option.bind_some, Option.map_some]
theorem q_chain {g g' : D → D → Option Bool} {cc : M} (h1 : a Γ = some (ra, Γ1)) (h2 : b Γ1 = some (rb, Γ2)) (h3 : peek Γ2 ra = some x) (h4 : peek Γ2 rb = some y) (h5 : g x y = some c1)
    (h6 : cc Γ2 = some (rc, Γ2)) (h7 : peek Γ2 rc = some z) (h8 : g' y z = some c2) : mChain g g' a b cc Γ = some (c1 && c2, Γ2) := by
  simp only [mChain, h1, h2, h3, h4, h5, Option.bind_some]
  cases c1
  · rfl
  · simp only [if_true, h6, h4, h7, h8, Option.bind_some, Option.map_some, Bool.true_and]
theorem q_ofB (h : t Γ = some (c, Γ1)) : mOfB t Γ = some (.val (.bl c), Γ1) := by simp only [mOfB, h, Option.map_some]
theorem q_test (h : m Γ = some (.val (.bl c), Γ1)) : mTest m Γ = some (c, Γ1) := by simp only [mTest, h, Option.bind_some]
theorem q_not (h : t Γ = some (c, Γ1)) : mNot t Γ = some (!c, Γ1) := by simp only [mNot, h, Option.map_some]
theorem q_and (h1 : t1 Γ = some (c1, Γ1)) (h2 : c1 = true → t2 Γ1 = some (c2, Γ1)) : mAnd t1 t2 Γ = some (c1 && c2, Γ1) := by
  simp only [mAnd, h1, Option.bind_some]
  cases c1
  · rfl
  · simp only [if_true, h2 rfl, Bool.true_and]
theorem q_or (h1 : t1 Γ = some (c1, Γ1)) (h2 : c1 = false → t2 Γ1 = some (c2, Γ1)) : mOr t1 t2 Γ = some (c1 || c2, Γ1) := by
  simp only [mOr, h1, Option.bind_some]
  cases c1
  · simp only [Bool.false_eq_true, if_false, h2 rfl, Bool.false_or]
  · rfl
/-- the second one may fail, or change things -/
theorem q_andP {α : Type} {o : Option α} {f v : α} {B : α → Bool} {G : α → VEnv} (h1 : t1 Γ = some (c1, Γ1)) (hv : (if c1 = true then o else some f) = some v) (h2 : ∀ v, c1 = true → o = some v → t2 Γ1 = some (B v, G v)) (h3 : B f = false ∧ G f = Γ1) : mAnd t1 t2 Γ = some (B v, G v) := by
  simp only [mAnd, h1, Option.bind_some]
  cases c1
  · cases hv
    rw [h3.1, h3.2]
    rfl
  · rw [if_pos rfl] at hv
    simp only [if_true, h2 v rfl hv]
theorem q_orP {α : Type} {o : Option α} {f v : α} {B : α → Bool} {G : α → VEnv} (h1 : t1 Γ = some (c1, Γ1)) (hv : (if c1 = true then some f else o) = some v) (h2 : ∀ v, c1 = false → o = some v → t2 Γ1 = some (B v, G v)) (h3 : B f = true ∧ G f = Γ1) : mOr t1 t2 Γ = some (B v, G v) := by
  simp only [mOr, h1, Option.bind_some]
  cases c1
  · rw [if_neg (by decide)] at hv
    simp only [Bool.false_eq_true, if_false, h2 v rfl hv]
  · cases hv
    rw [h3.1, h3.2]
    rfl
theorem q_if (h1 : t Γ = some (c, Γ1)) (h2 : c = true → a Γ1 = some (ra, Γ2)) (h3 : c = false → b Γ1 = some (ra, Γ2)) : mIf t a b Γ = some (ra, Γ2) := by
  simp only [mIf, h1, Option.bind_some]
  cases c
  · exact h3 rfl
  · exact h2 rfl
theorem q_ifv {α : Type} {e : α → D} {u v : α} (h1 : t Γ = some (c, Γ1)) (h2 : c = true → a Γ1 = some (.val (e u), Γ1)) (h3 : c = false → b Γ1 = some (.val (e v), Γ1)) : mIf t a b Γ = some (.val (e (if c = true then u else v)), Γ1) := by
  simp only [mIf, h1, Option.bind_some]
  cases c
  · exact h3 rfl
  · exact h2 rfl
theorem q_ifP {α : Type} {oa ob : Option α} {v : α} {R : α → EV} {G : α → VEnv} (h1 : t Γ = some (c, Γ1)) (hv : (if c = true then oa else ob) = some v) (h2 : ∀ v, c = true → oa = some v → a Γ1 = some (R v, G v)) (h3 : ∀ v, c = false → ob = some v → b Γ1 = some (R v, G v)) : mIf t a b Γ = some (R v, G v) := by
  simp only [mIf, h1, Option.bind_some]
  cases c
  · exact h3 v rfl (by simpa using hv)
  · exact h2 v rfl (by simpa using hv)
theorem q_frz (h1 : m Γ = some (r, Γ1)) (h2 : freeze r Γ1 = some (d, Γ2)) : mFrz m Γ = some (.val d, Γ2) := by simp only [mFrz, h1, Option.bind_some, h2, Option.map_some]
theorem q_nil : mNil Γ = some ([], Γ) := rfl
theorem q_cons (h1 : m Γ = some (r, Γ1)) (h2 : ml Γ1 = some (rs, Γ2)) : mCons m ml Γ = some (r :: rs, Γ2) := by simp only [mCons, h1, h2, Option.bind_some, Option.map_some]
theorem q_callB {g : List D → Option EV} (h1 : ml Γ = some (rs, Γ1)) (h2 : peekL Γ1 rs = some ds) (h3 : g ds = some r) : mCallB g ml Γ = some (r, Γ1) := by simp only [mCallB, h1, h2, h3, Option.bind_some, Option.map_some]
theorem q_list (h1 : ml Γ = some (rs, Γ1)) (h2 : freezeL rs Γ1 = some (ds, Γ2)) (h3 : ds.length ≤ sizeLine) : mList ml Γ = some (.fresh (.lst ds), Γ2) := by simp only [mList, h1, h2, Option.bind_some, if_pos h3]
theorem q_tup (h1 : ml Γ = some (rs, Γ1)) (h2 : freezeL rs Γ1 = some (ds, Γ2)) (h3 : ds.length ≤ sizeLine) : mTup ml Γ = some (.val (.tup ds), Γ2) := by simp only [mTup, h1, h2, Option.bind_some, if_pos h3]
theorem q_un {g : D → Option EV} (h1 : m Γ = some (ra, Γ1)) (h2 : peek Γ1 ra = some x) (h3 : g x = some r) : mUn g m Γ = some (r, Γ1) := by simp only [mUn, h1, h2, h3, Option.bind_some, Option.map_some]
theorem q_pN : mPN Γ = some (none, Γ) := rfl
theorem q_pS {i : Int} (h : m Γ = some (.val (.int i), Γ1)) : mPS m Γ = some (some i, Γ1) := by simp only [mPS, h, Option.bind_some]
theorem q_sl {lo hi : VEnv → Option (Option Int × VEnv)} {l u : Option Int} (h1 : m Γ = some (ra, Γ1)) (h2 : lo Γ1 = some (l, Γ2)) (h3 : hi Γ2 = some (u, Γ3)) (h4 : peek Γ3 ra = some x) (h5 : slD x l u = some r) : mSl m lo hi Γ = some (r, Γ3) := by
  simp only [mSl, h1, h2, h3, h4, h5, Option.bind_some, Option.map_some]
theorem q_meth {T : String} {g : D → List D → Option EV} (h1 : mo Γ = some (ra, Γ1)) (h2 : peek Γ1 ra = some x) (h3 : tyM T x = true) (h4 : ml Γ1 = some (rs, Γ2)) (h5 : peek Γ2 ra = some y) (h6 : peekL Γ2 rs = some ds) (h7 : g y ds = some r) : mMeth T g mo ml Γ = some (r, Γ2) := by
  simp only [mMeth, h1, h2, h3, h4, h5, h6, h7, Option.bind_some, if_true, Option.map_some]
theorem q_repL {xs : List D} {k : Int} (h1 : a Γ = some (.fresh (.lst xs), Γ1)) (h2 : b Γ1 = some (.val (.int k), Γ2)) (h3 : k.natAbs / 4611686018427387904 = 0 ∧ xs.length * k.toNat ≤ sizeLine) : mRepL a b Γ = some (.fresh (.lst (List.replicate k.toNat xs).flatten), Γ2) := by
  simp only [mRepL, h1, h2, Option.bind_some, if_pos h3]
/-! calls -/
theorem q_call {bs : List Bool} {f : Sem'} {cs : List Cell} (h1 : ml Γ = some (rs, Γ1)) (h2 : passL bs rs Γ1 = some (cs, Γ1)) (h3 : f cs Γ1.st = some (.val d, Γ1.st)) (hn : NL Γ1.st.length Γ1.sl) : mCall bs f ml Γ = some (.val d, Γ1) := by
  simp only [mCall, h1, h2, h3, Option.bind_some, nl_eq hn, List.take_length]
theorem q_callF {bs : List Bool} {f : Sem'} {cs : List Cell} (h1 : ml Γ = some (rs, Γ1)) (h2 : passL bs rs Γ1 = some (cs, Γ1)) (h3 : f cs Γ1.st = some (.fresh d, Γ1.st)) (hn : NL Γ1.st.length Γ1.sl) : mCall bs f ml Γ = some (.fresh d, Γ1) := by
  simp only [mCall, h1, h2, h3, Option.bind_some, nl_eq hn, List.take_length]
/-- one own object is lent -/
theorem q_callO {bs : List Bool} {f : Sem'} {cs : List Cell} {sl : List Cell} {st : List SC} {rr : EV} (hr : (∃ d, rr = .val d) ∨ ∃ d, rr = .fresh d) (h1 : ml Γ = some (rs, ⟨sl, st⟩)) (h2 : passL bs rs ⟨sl, st⟩ = some (cs, ⟨sl.set i (.par st.length), st ++ [.own x]⟩))
    (h3 : f cs (put (st ++ [.own x]) st.length x) = some (rr, put (st ++ [.own x]) st.length y)) (hn : NL st.length sl) (hi : i < sl.length) : mCall bs f ml Γ = some (rr, ⟨sl.set i (.own y), st⟩) := by
  rw [st_put0, st_put] at h3
  simp only [mCall, h1, h2, h3, Option.bind_some]
  have e : (sl.set i (.par st.length)).map (unlend st.length (st ++ [.own y])) = sl.set i (.own y) := by
    rw [List.map_set, nl_eq hn]
    congr 1
    simp [unlend]
  have e2 : (st ++ [SC.own y]).take st.length = st := by simp
  rcases hr with ⟨d, rfl⟩ | ⟨d, rfl⟩ <;> simp only [e, e2]
/-- an object of the caller's caller is handed on -/
theorem q_callP {bs : List Bool} {f : Sem'} {cs : List Cell} {sl : List Cell} {st : List SC} {rr : EV} (hr : (∃ d, rr = .val d) ∨ ∃ d, rr = .fresh d) (h1 : ml Γ = some (rs, ⟨sl, put st k x⟩)) (h2 : passL bs rs ⟨sl, put st k x⟩ = some (cs, ⟨sl, put st k x⟩))
    (h3 : f cs (put st k x) = some (rr, put st k y)) (hn : NL st.length sl) : mCall bs f ml Γ = some (rr, ⟨sl, put st k y⟩) := by
  have e2 : (put st k y).take st.length = put st k y := List.take_of_length_le (by simp)
  rcases hr with ⟨d, rfl⟩ | ⟨d, rfl⟩ <;> simp only [mCall, h1, h2, h3, Option.bind_some, put_len, nl_eq hn, e2]
/-! own lists are written -/
theorem q_mut {g : List D → List D → Option (D × List D)} {xs cs : List D} {o : D × List D} (h1 : mo Γ = some (ra, Γ1)) (h2 : content Γ1 ra = some (.lst xs)) (h3 : ml Γ1 = some (rs, Γ2)) (h4 : freezeL rs Γ2 = some (ds, Γ3)) (h5 : content Γ3 ra = some (.lst cs)) (h6 : g cs ds = some o) (h7 : putC Γ3 (.lst o.2) ra = Γ4) : mMut g mo ml Γ = some (.val o.1, Γ4) := by
  simp only [mMut, h1, h2, h3, h4, h5, h6, h7, Option.bind_some, Option.map_some]
theorem q_ext {xs cs zs : List D} (h1 : mo Γ = some (ra, Γ1)) (h2 : content Γ1 ra = some (.lst xs)) (h3 : m Γ1 = some (rb, Γ2)) (h4 : ownOf Γ2 rb = some (.lst zs)) (h5 : content Γ2 ra = some (.lst cs)) (h6 : cs.length + zs.length ≤ sizeLine) : mExt mo m Γ = some (.val .non, putC Γ2 (.lst (cs ++ zs)) ra) := by
  simp only [mExt, h1, h2, h3, h4, h5, Option.bind_some, if_pos h6]
/-! what is walked -/
theorem q_iseq {ds : List D} (h1 : m Γ = some (r, Γ1)) (h2 : freeze r Γ1 = some (.lst ds, Γ2)) : miSeq m Γ = some (ds, Γ2) := by simp only [miSeq, h1, h2, Option.bind_some]
theorem q_iseqT {ds : List D} (h1 : m Γ = some (r, Γ1)) (h2 : freeze r Γ1 = some (.tup ds, Γ2)) : miSeq m Γ = some (ds, Γ2) := by simp only [miSeq, h1, h2, Option.bind_some]
theorem q_iseqS {s : List Nat} (h1 : m Γ = some (r, Γ1)) (h2 : freeze r Γ1 = some (.str s, Γ2)) : miSeq m Γ = some (signsD s, Γ2) := by simp only [miSeq, h1, h2, Option.bind_some]
theorem q_ienum {ds xs : List D} (h1 : ml Γ = some (rs, Γ1)) (h2 : freezeL rs Γ1 = some ([.lst xs], Γ2)) : miEnum ml Γ = some (enumD xs, Γ2) := by simp only [miEnum, h1, h2, Option.bind_some]
theorem q_izip {xs ys : List D} (h1 : ml Γ = some (rs, Γ1)) (h2 : freezeL rs Γ1 = some ([.lst xs, .lst ys], Γ2)) : miZip ml Γ = some (zipD xs ys, Γ2) := by simp only [miZip, h1, h2, Option.bind_some]
theorem q_izipT {xs ys : List D} (h1 : ml Γ = some (rs, Γ1)) (h2 : freezeL rs Γ1 = some ([.tup xs, .tup ys], Γ2)) : miZip ml Γ = some (zipD xs ys, Γ2) := by simp only [miZip, h1, h2, Option.bind_some]
end

/-! ### operations that may fail -/
section
variable {α : Type}
def catT (s t : List α) : Option (List α) := if s.length + t.length ≤ sizeLine then some (s ++ t) else none
def mulT (i j : Int) : Option Int := if mulOk i j = true then some (i * j) else none
def fdivT (i j : Int) : Option Int := if 0 < j ∧ j.natAbs.log2 < 9000 then some (i / j) else none
def modT (i j : Int) : Option Int := if 0 < j then some (i % j) else none
def powT (i j : Int) : Option Int := if powOk i j = true then some (i ^ j.toNat) else none
def repST (s : List Nat) (j : Int) : Option (List Nat) := if j ≤ 1000 ∧ -1000 ≤ j ∧ s.length ≤ 1000 then some (List.replicate j.toNat s).flatten else none
def repLT (xs : List α) (k : Int) : Option (List α) := if k.natAbs / 4611686018427387904 = 0 ∧ xs.length * k.toNat ≤ sizeLine then some (List.replicate k.toNat xs).flatten else none
def pushT (xs : List α) (x : α) : Option (List α) := if xs.length < sizeLine then some (xs ++ [x]) else none
def extT (xs ys : List α) : Option (List α) := if xs.length + ys.length ≤ sizeLine then some (xs ++ ys) else none
def setT (xs : List α) (i : Int) (x : α) : Option (List α) := (ixN xs.length i).map fun j => xs.set j x
def popT (xs : List α) : Option (α × List α) := (xs[xs.length - 1]?).map fun x => (x, xs.dropLast)
def popAtT (xs : List α) (i : Int) : Option (α × List α) := if i.natAbs / 4611686018427387904 = 0 then (seqIndex? i xs.length).bind fun k => (xs[k]?).map fun x => (x, xs.eraseIdx k) else none
def maxT (xs : List Int) : Option Int := if xs ≠ [] then some (maxI xs) else none
def minT (xs : List Int) : Option Int := if xs ≠ [] then some (minI xs) else none
def joinT (s : List Nat) (ns : List (List Nat)) : Option (List Nat) := if (ns.map (·.length)).sum + ns.length * s.length ≤ 16777216 then some (joinL s ns) else none
def range1T (j : Int) : Option (List Int) := if okR j = true then some ((List.range j.toNat).map fun i => 0 + ((i : Nat) : Int)) else none
def range2T (i j : Int) : Option (List Int) := if okR i = true ∧ okR j = true then some ((List.range (j - i).toNat).map fun k => i + ((k : Nat) : Int)) else none
def range3T (i j : Int) : Option (List Int) := if okR i = true ∧ okR j = true then some ((List.range (i - j).toNat).map fun k => i + ((k : Nat) : Int) * (-1)) else none
def signsT (s : List Nat) : List (List Nat) := s.map fun c => [c]
def enumT (xs : List α) : List (Int × α) := xs.mapIdx fun i x => ((i : Int), x)
def chT (s : List Nat) (i : Int) : Option (List Nat) := (atI s i).map fun c => [c]
@[reducible] def lett {α β : Type} (a : α) (f : α → β) : β := f a

variable {s t u : List Nat} {i j k : Int}
theorem bnd {β : Type} {o : Option α} {f : α → Option β} {r : β} (h : o.bind f = some r) : ∃ a, o = some a ∧ f a = some r := Option.bind_eq_some_iff.mp h
theorem som {a b : α} (h : some a = some b) : a = b := Option.some.inj h
theorem if_some {c : Prop} [Decidable c] {a b : α} (h : (if c then some a else none) = some b) : c ∧ a = b := by
  by_cases hc : c
  · rw [if_pos hc] at h; exact ⟨hc, Option.some.inj h⟩
  · rw [if_neg hc] at h; cases h
theorem ifo {c : Bool} {a b : Option α} {r : α} (h : (if c = true then a else b) = some r) : (c = true ∧ a = some r) ∨ (c = false ∧ b = some r) := by
  cases c
  · exact .inr ⟨rfl, by simpa using h⟩
  · exact .inl ⟨rfl, by simpa using h⟩

theorem o_catS (h : catT s t = some u) : addD (.str s) (.str t) = some (.val (.str u)) := by
  obtain ⟨h1, rfl⟩ := if_some h
  simp only [addD, if_pos h1]
theorem o_catL {e : α → D} {xs ys zs : List α} (h : catT xs ys = some zs) : addD (eL e xs) (eL e ys) = some (.fresh (eL e zs)) := by
  obtain ⟨h1, rfl⟩ := if_some h
  simp only [addD, eL, List.length_map, if_pos h1, List.map_append]
theorem o_catT {e : α → D} {xs ys zs : List α} (h : catT xs ys = some zs) : addD (eT e xs) (eT e ys) = some (.val (eT e zs)) := by
  obtain ⟨h1, rfl⟩ := if_some h
  simp only [addD, eT, List.length_map, if_pos h1, List.map_append]
theorem o_mul (h : mulT i j = some k) : mulD (.int i) (.int j) = some (.val (.int k)) := by
  obtain ⟨h1, rfl⟩ := if_some h
  simp only [mulD, if_pos h1]
theorem o_fdiv (h : fdivT i j = some k) : fdivD (.int i) (.int j) = some (.val (.int k)) := by
  obtain ⟨h1, rfl⟩ := if_some h
  simp only [fdivD, if_pos h1]
theorem o_mod (h : modT i j = some k) : modD (.int i) (.int j) = some (.val (.int k)) := by
  obtain ⟨h1, rfl⟩ := if_some h
  simp only [modD, if_pos h1]
theorem o_pow (h : powT i j = some k) : powD (.int i) (.int j) = some (.val (.int k)) := by
  obtain ⟨h1, rfl⟩ := if_some h
  simp only [powD, if_pos h1]
theorem o_repS (h : repST s j = some u) : mulD (.str s) (.int j) = some (.val (.str u)) := by
  obtain ⟨h1, rfl⟩ := if_some h
  simp only [mulD, if_pos h1]
theorem flat_repl (e : α → D) (xs : List α) : ∀ n : Nat, (List.replicate n (xs.map e)).flatten = ((List.replicate n xs).flatten).map e
  | 0 => rfl
  | n + 1 => by simp only [List.replicate_succ, List.flatten_cons, List.map_append, flat_repl e xs n]
theorem q_repLT {e : α → D} {xs zs : List α} {a b : M} {Γ Γ1 Γ2 : VEnv} (h1 : a Γ = some (.fresh (eL e xs), Γ1)) (h2 : b Γ1 = some (.val (.int k), Γ2)) (h : repLT xs k = some zs) : mRepL a b Γ = some (.fresh (eL e zs), Γ2) := by
  obtain ⟨h3, rfl⟩ := if_some h
  rw [q_repL h1 h2 (by rw [List.length_map]; exact h3), flat_repl]
theorem o_ixL {e : α → D} {xs : List α} {x : α} (h : atI xs i = some x) : ixD (eL e xs) (.int i) = some (.val (e x)) := by
  have : atI (xs.map e) i = some (e x) := by
    unfold atI at h ⊢
    rw [List.length_map]
    obtain ⟨n, h1, h2⟩ := bnd h
    rw [h1, Option.bind_some, List.getElem?_map, h2]
    rfl
  simp only [ixD, this, Option.map_some]
theorem o_ixT {e : α → D} {xs : List α} {x : α} (h : atI xs i = some x) : ixD (eT e xs) (.int i) = some (.val (e x)) := by
  have : atI (xs.map e) i = some (e x) := by
    unfold atI at h ⊢
    rw [List.length_map]
    obtain ⟨n, h1, h2⟩ := bnd h
    rw [h1, Option.bind_some, List.getElem?_map, h2]
    rfl
  simp only [ixD, this, Option.map_some]
theorem o_ixS (h : chT s i = some u) : ixD (.str s) (.int i) = some (.val (.str u)) := by
  unfold chT at h
  simp only [ixD]
  cases q : atI s i with
  | none => rw [q] at h; cases h
  | some c => rw [q] at h; cases h; rfl
theorem o_push {e : α → D} {xs zs : List α} {x : α} (h : pushT xs x = some zs) : gAppend (xs.map e) [e x] = some (.non, zs.map e) := by
  obtain ⟨h1, rfl⟩ := if_some h
  simp only [gAppend, List.length_map, if_pos h1, List.map_append, List.map_cons, List.map_nil]
theorem map_dropLast' (e : α → D) : ∀ xs : List α, (xs.map e).dropLast = (xs.dropLast).map e := fun xs => by rw [List.map_dropLast]
theorem o_pop {e : α → D} {xs : List α} {o : α × List α} (h : popT xs = some o) : gPop (xs.map e) [] = some (e o.1, o.2.map e) := by
  unfold popT at h
  cases q : xs[xs.length - 1]? with
  | none => rw [q] at h; cases h
  | some c => rw [q] at h; cases h; simp only [gPop, List.length_map, List.getElem?_map, q, Option.map_some, map_dropLast']
theorem eraseIdx_map' {β : Type} (e : α → β) : ∀ (xs : List α) (n : Nat), (xs.map e).eraseIdx n = (xs.eraseIdx n).map e
  | [], n => by simp
  | x :: xs, 0 => rfl
  | x :: xs, n + 1 => by simp only [List.map_cons, List.eraseIdx_cons_succ, eraseIdx_map' e xs n]
theorem o_popAt {e : α → D} {xs : List α} {o : α × List α} (h : popAtT xs i = some o) : gPopAt (xs.map e) [.int i] = some (e o.1, o.2.map e) := by
  unfold popAtT at h
  by_cases h1 : i.natAbs / 4611686018427387904 = 0
  · rw [if_pos h1] at h
    obtain ⟨n, h2, h3⟩ := bnd h
    simp only [gPopAt, if_pos h1, List.length_map, h2, Option.bind_some, List.getElem?_map]
    cases q : xs[n]? with
    | none => rw [q] at h3; cases h3
    | some c => rw [q] at h3; cases h3; simp only [Option.map_some, eraseIdx_map']
  · rw [if_neg h1] at h; cases h
theorem o_rev {e : α → D} {xs : List α} : gReverse (xs.map e) [] = some (.non, xs.reverse.map e) := by simp only [gReverse, List.map_reverse]
theorem o_clear {e : α → D} {xs : List α} : gClear (xs.map e) [] = some (.non, ([] : List α).map e) := rfl
theorem q_extT {e : α → D} {xs ys zs : List α} {mo m : M} {Γ Γ1 Γ2 Γ3 : VEnv} {ra rb : EV} (h1 : mo Γ = some (ra, Γ1)) (h2 : content Γ1 ra = some (eL e xs)) (h3 : m Γ1 = some (rb, Γ2)) (h4 : ownOf Γ2 rb = some (eL e ys)) (h5 : content Γ2 ra = some (eL e xs)) (h6 : extT xs ys = some zs) (h8 : putC Γ2 (eL e zs) ra = Γ3) : mExt mo m Γ = some (.val .non, Γ3) := by
  obtain ⟨h7, rfl⟩ := if_some h6
  rw [q_ext h1 h2 h3 h4 h5 (by simpa using h7), ← List.map_append, h8]
theorem o_max {xs : List Int} (h : maxT xs = some k) : maxD [eL D.int xs] = some (.val (.int k)) := by
  obtain ⟨h1, rfl⟩ := if_some h
  exact maxD_l (intsOf_of xs) h1
theorem o_min {xs : List Int} (h : minT xs = some k) : minD [eL D.int xs] = some (.val (.int k)) := by
  obtain ⟨h1, rfl⟩ := if_some h
  exact minD_l (intsOf_of xs) h1
theorem o_sum {xs : List Int} : sumD [eL D.int xs] = some (.val (.int xs.sum)) := sumD_l (intsOf_of xs)
theorem o_all {xs : List Bool} : allD [eL D.bl xs] = some (.val (.bl (xs.all id))) := allD_l (by have := blsOf_mapf id xs; simpa using this)
theorem o_any {xs : List Bool} : anyD [eL D.bl xs] = some (.val (.bl (xs.any id))) := anyD_l (by have := blsOf_mapf id xs; simpa using this)
theorem o_join {ns : List (List Nat)} (h : joinT s ns = some u) : joinD (.str s) [eL D.str ns] = some (.val (.str u)) := by
  obtain ⟨h1, rfl⟩ := if_some h
  exact joinD_lst s ns h1
theorem o_lenL {e : α → D} {xs : List α} : lenD [eL e xs] = some (.val (.int (xs.length : Nat))) := by simp only [lenD, List.length_map]
theorem o_lenT {e : α → D} {xs : List α} : lenD [eT e xs] = some (.val (.int (xs.length : Nat))) := by simp only [lenD, List.length_map]
theorem cutL_map {β : Type} (e : α → β) (xs : List α) (lo hi : Option Int) : cutL (xs.map e) lo hi = (cutL xs lo hi).map e := by
  unfold cutL
  rw [List.length_map, List.map_take, List.map_drop]
theorem o_slL {e : α → D} {xs : List α} {lo hi : Option Int} : slD (eL e xs) lo hi = some (.fresh (eL e (cutL xs lo hi))) := by simp only [slD, cutL_map]
theorem o_slT {e : α → D} {xs : List α} {lo hi : Option Int} : slD (eT e xs) lo hi = some (.val (eT e (cutL xs lo hi))) := by simp only [slD, cutL_map]
theorem o_slS {lo hi : Option Int} : slD (.str s) lo hi = some (.val (.str (cutL s lo hi))) := rfl
theorem o_revL {e : α → D} {xs : List α} : revD (eL e xs) = some (.fresh (eL e xs.reverse)) := by simp [revD]
theorem o_revT {e : α → D} {xs : List α} : revD (eT e xs) = some (.val (eT e xs.reverse)) := by simp [revD]
theorem o_revS : revD (.str s) = some (.val (.str s.reverse)) := rfl
theorem i_range1 {ml : ML} {Γ Γ1 : VEnv} {l : List Int} (h1 : ml Γ = some ([.val (.int j)], Γ1)) (h : range1T j = some l) : miR1 ml Γ = some (l.map D.int, Γ1) := by
  obtain ⟨h2, rfl⟩ := if_some h
  simp only [miR1, h1, Option.bind_some, if_pos h2, rangeD, List.map_map, Function.comp_def]
theorem i_range2 {ml : ML} {Γ Γ1 : VEnv} {l : List Int} (h1 : ml Γ = some ([.val (.int i), .val (.int j)], Γ1)) (h : range2T i j = some l) : miR2 ml Γ = some (l.map D.int, Γ1) := by
  obtain ⟨h2, rfl⟩ := if_some h
  simp only [miR2, h1, Option.bind_some, if_pos h2, rangeD, List.map_map, Function.comp_def]
theorem i_range3 {ml : ML} {Γ Γ1 : VEnv} {l : List Int} (h1 : ml Γ = some ([.val (.int i), .val (.int j), .val (.int (-1))], Γ1)) (h : range3T i j = some l) : miR3 ml Γ = some (l.map D.int, Γ1) := by
  obtain ⟨h2, rfl⟩ := if_some h
  unfold miR3
  rw [h1, Option.bind_some]
  show (if (-1 : Int) = -1 ∧ okR i = true ∧ okR j = true then _ else _) = _
  rw [if_pos ⟨rfl, h2⟩]
  simp only [rangeDC, List.map_map, Function.comp_def]
theorem signs_e (s : List Nat) : signsD s = (signsT s).map D.str := by simp [signsD, signsT]
theorem enum_e (e : α → D) (xs : List α) : enumD (xs.map e) = (enumT xs).map (eP2 D.int e) := by
  unfold enumD enumT
  apply List.ext_getElem?
  intro i
  simp only [List.getElem?_mapIdx, List.getElem?_map, Option.map_map]
  rfl
theorem zip_e {β : Type} (e : α → D) (f : β → D) (xs : List α) (ys : List β) : zipD (xs.map e) (ys.map f) = (xs.zip ys).map (eP2 e f) := by
  unfold zipD
  rw [List.zip_map, List.map_map]
  rfl
theorem i_seqS {m : M} {Γ Γ1 Γ2 : VEnv} {r : EV} (h1 : m Γ = some (r, Γ1)) (h2 : freeze r Γ1 = some (.str s, Γ2)) : miSeq m Γ = some ((signsT s).map D.str, Γ2) := by rw [q_iseqS h1 h2, signs_e]
theorem i_enum {e : α → D} {xs : List α} {ml : ML} {rs : List EV} {Γ Γ1 Γ2 : VEnv} (h1 : ml Γ = some (rs, Γ1)) (h2 : freezeL rs Γ1 = some ([eL e xs], Γ2)) : miEnum ml Γ = some ((enumT xs).map (eP2 D.int e), Γ2) := by rw [q_ienum (ds := []) h1 h2, enum_e]
theorem i_zip {β : Type} {e : α → D} {f : β → D} {xs : List α} {ys : List β} {ml : ML} {rs : List EV} {Γ Γ1 Γ2 : VEnv} (h1 : ml Γ = some (rs, Γ1)) (h2 : freezeL rs Γ1 = some ([eL e xs, eL f ys], Γ2)) : miZip ml Γ = some ((xs.zip ys).map (eP2 e f), Γ2) := by rw [q_izip h1 h2, zip_e]
theorem i_zipT {β : Type} {e : α → D} {f : β → D} {xs : List α} {ys : List β} {ml : ML} {rs : List EV} {Γ Γ1 Γ2 : VEnv} (h1 : ml Γ = some (rs, Γ1)) (h2 : freezeL rs Γ1 = some ([eT e xs, eT f ys], Γ2)) : miZip ml Γ = some ((xs.zip ys).map (eP2 e f), Γ2) := by rw [q_izipT h1 h2, zip_e]
end
end VS

set_option Elab.async false
set_option linter.all false
set_option maxRecDepth 100000
set_option maxHeartbeats 4000000
/-! ### statements, loops, comprehensions, defs of the typed layer -/
namespace VS
open PySem L2 PyProof.Rows
local instance : TabT := ⟨[], false⟩

def Post (o : Option (Fl × VEnv)) (φ : Fl × VEnv → Prop) : Prop := ∃ p, o = some p ∧ φ p
section
variable {Γ Γ1 Γ2 Γ3 : VEnv} {i j l k n : Nat} {d e f x y z : D} {r ra rb rc : EV} {m mo : M} {c : Bool} {t : MB} {ml : ML} {rs : List EV} {a b s : MS} {φ ψ : Fl × VEnv → Prop} {g : MG} {fl : Fl}
theorem po_assoc {s1 s2 s3 : MS} (h : Post (mSeq s1 (mSeq s2 s3) Γ) φ) : Post (mSeq (mSeq s1 s2) s3 Γ) φ := by
  have e : mSeq (mSeq s1 s2) s3 Γ = mSeq s1 (mSeq s2 s3) Γ := by
    unfold mSeq
    cases s1 Γ with
    | none => rfl
    | some p =>
      obtain ⟨fl, Γ'⟩ := p
      cases fl <;> rfl
  rw [e]
  exact h
theorem po_bare (h : Post (mSeq s mNext Γ) φ) : Post (s Γ) φ := by
  have e : mSeq s mNext Γ = s Γ := by
    unfold mSeq
    cases s Γ with
    | none => rfl
    | some p =>
      obtain ⟨fl, Γ'⟩ := p
      cases fl <;> rfl
  rw [← e]
  exact h
theorem po_next (h : Post (b Γ) φ) : Post (mSeq mNext b Γ) φ := h
theorem po_end (h : φ (.nx, Γ)) : Post (mNext Γ) φ := ⟨_, rfl, h⟩
theorem po_nx (h1 : s Γ = some (.nx, Γ1)) (h : Post (b Γ1) φ) : Post (mSeq s b Γ) φ := by
  unfold Post mSeq
  rw [h1]
  exact h
theorem po_out {v : EV} (h1 : s Γ = some (.ret v, Γ1)) (h : φ (.ret v, Γ1)) : Post (mSeq s b Γ) φ := by
  unfold Post mSeq
  rw [h1]
  exact ⟨_, rfl, h⟩
theorem po_asg (h1 : m Γ = some (r, Γ1)) (h2 : g r Γ1 = some Γ2) (h : Post (b Γ2) φ) : Post (mSeq (mAsg m g) b Γ) φ := po_nx (asg_in h1 h2) h
theorem po_drop (h1 : m Γ = some (r, Γ1)) (h : Post (b Γ1) φ) : Post (mSeq (mDrop m) b Γ) φ := po_nx (by simp only [mDrop, h1, Option.map_some]) h
theorem po_ret (h1 : m Γ = some (r, Γ1)) (h : φ (.ret r, Γ1)) : Post (mSeq (mRet m) b Γ) φ := po_out (ret_in h1) h
theorem po_retN (h : φ (.ret (.val .non), Γ)) : Post (mSeq mRetN b Γ) φ := po_out rfl h
theorem po_brk (h : φ (.brk, Γ)) : Post (mSeq mBrk b Γ) φ := ⟨_, rfl, h⟩
theorem po_cont (h : φ (.cont, Γ)) : Post (mSeq mCont b Γ) φ := ⟨_, rfl, h⟩
theorem po_ifT (h1 : t Γ = some (true, Γ1)) (h : Post (mSeq a s Γ1) φ) : Post (mSeq (mIfS t a b) s Γ) φ := by
  have e : mSeq (mIfS t a b) s Γ = mSeq a s Γ1 := by simp only [mSeq, mIfS, h1, Option.bind_some, if_true]
  rw [e]; exact h
theorem po_ifF (h1 : t Γ = some (false, Γ1)) (h : Post (mSeq b s Γ1) φ) : Post (mSeq (mIfS t a b) s Γ) φ := by
  have e : mSeq (mIfS t a b) s Γ = mSeq b s Γ1 := by simp only [mSeq, mIfS, h1, Option.bind_some, Bool.false_eq_true, if_false]
  rw [e]; exact h
theorem pj_ifT (h1 : t Γ = some (true, Γ1)) (h : Post (a Γ1) φ) : Post (mIfS t a b Γ) φ := by
  have e : mIfS t a b Γ = a Γ1 := by simp only [mIfS, h1, Option.bind_some, if_true]
  rw [e]; exact h
theorem pj_ifF (h1 : t Γ = some (false, Γ1)) (h : Post (b Γ1) φ) : Post (mIfS t a b Γ) φ := by
  have e : mIfS t a b Γ = b Γ1 := by simp only [mIfS, h1, Option.bind_some, Bool.false_eq_true, if_false]
  rw [e]; exact h
theorem po_par (h1 : ml Γ = some (rs, Γ1)) (h2 : freezeL rs Γ1 = some ([d, e], Γ2)) (h3 : setCell (setCell Γ2 i (.val d)) j (.val e) = Γ3) (h : Post (b Γ3) φ) : Post (mSeq (mPar i j ml) b Γ) φ :=
  po_nx (by simp only [mPar, h1, h2, h3, Option.bind_some]) h
theorem po_par3 (h1 : ml Γ = some (rs, Γ1)) (h2 : freezeL rs Γ1 = some ([d, e, f], Γ2)) (h3 : setCell (setCell (setCell Γ2 i (.val d)) j (.val e)) l (.val f) = Γ3) (h : Post (b Γ3) φ) : Post (mSeq (mPar3 i j l ml) b Γ) φ :=
  po_nx (by simp only [mPar3, h1, h2, h3, Option.bind_some]) h
theorem po_aug {gg : D → D → Option EV} (h0 : mVar i Γ = some (ra, Γ)) (h1 : m Γ = some (rb, Γ1)) (h2 : peek Γ1 ra = some x) (h3 : peek Γ1 rb = some y) (h4 : gg x y = some r) (h5 : asgn i r Γ1 = some Γ2) (h : Post (b Γ2) φ) : Post (mSeq (mAug gg i m) b Γ) φ :=
  po_nx (by simp only [mAug, h0, h1, h2, h3, h4, h5, Option.bind_some, Option.map_some]) h
theorem post_mono {o : Option (Fl × VEnv)} (h : Post o φ) (hh : ∀ p, φ p → ψ p) : Post o ψ := let ⟨p, h1, h2⟩ := h; ⟨p, h1, hh p h2⟩
end

/-- what a def gives back -/
def RetQ (fr : Bool) (d : D) (st : List SC) (p : Fl × VEnv) : Prop := ∃ v Γ', p = (.ret v, Γ') ∧ retEV v Γ' = some (if fr = true then .fresh d else .val d, st)
def RetN (d : D) (st : List SC) (p : Fl × VEnv) : Prop := (∃ v Γ', p = (.ret v, Γ') ∧ retEV v Γ' = some (.val d, st)) ∨ (d = .non ∧ ∃ Γ', p = (.nx, Γ') ∧ Γ'.st = st)
theorem retQ_out {fr : Bool} {d : D} {st : List SC} {p : Fl × VEnv} (h : RetQ fr d st p) : ∃ v Γ', p = (.ret v, Γ') := let ⟨v, Γ', h1, _⟩ := h; ⟨v, Γ', h1⟩
theorem def_post {p n : Nat} {m : MS} {cells : List Cell} {st st' : List SC} {d : D} (hl : cells.length = p) (h : Post (m ⟨cells ++ List.replicate (n - p) .un, st⟩) (RetQ false d st')) : defOf p n m cells st = some (.val d, st') := by
  obtain ⟨q, h1, v, Γ', rfl, h2⟩ := h
  exact def_ret hl h1 h2
theorem def_postF {p n : Nat} {m : MS} {cells : List Cell} {st st' : List SC} {d : D} (hl : cells.length = p) (h : Post (m ⟨cells ++ List.replicate (n - p) .un, st⟩) (RetQ true d st')) : defOf p n m cells st = some (.fresh d, st') := by
  obtain ⟨q, h1, v, Γ', rfl, h2⟩ := h
  exact def_ret hl h1 h2
theorem def_postN {p n : Nat} {m : MS} {cells : List Cell} {st st' : List SC} {d : D} (hl : cells.length = p) (h : Post (m ⟨cells ++ List.replicate (n - p) .un, st⟩) (RetN d st')) : defOf p n m cells st = some (.val d, st') := by
  obtain ⟨q, h1, h2⟩ := h
  rcases h2 with ⟨v, Γ', rfl, h2⟩ | ⟨rfl, Γ', rfl, rfl⟩
  · exact def_ret hl h1 h2
  · exact def_nx hl h1

/-! ### loops -/
inductive FlT (S R : Type) where
  | nx (s : S) | brk (s : S) | ret (r : R)
section
variable {S R α : Type}
def forS (f : S → α → Option S) : List α → S → Option S
  | [], s => some s
  | x :: xs, s => (f s x).bind fun s => forS f xs s
def forR (f : S → α → Option (FlT S R)) : List α → S → Option (FlT S R)
  | [], s => some (.nx s)
  | x :: xs, s => (f s x).bind fun o => match o with
    | .nx s => forR f xs s
    | .brk s => some (.nx s)
    | .ret r => some (.ret r)
def whileS (t : S → Option Bool) (f : S → Option S) : Nat → S → Option S
  | 0, _ => none
  | n + 1, s => (t s).bind fun c => if c = true then (f s).bind fun s => whileS t f n s else some s
def whileR (t : S → Option Bool) (f : S → Option (FlT S R)) : Nat → S → Option (FlT S R)
  | 0, _ => none
  | n + 1, s => (t s).bind fun c => if c = true then (f s).bind fun o => match o with
    | .nx s => whileR t f n s
    | .brk s => some (.nx s)
    | .ret r => some (.ret r) else some (.nx s)
def NxQ (P : VEnv → Prop) (p : Fl × VEnv) : Prop := (p.1 = .nx ∨ p.1 = .cont) ∧ P p.2
def BodyQ (P : S → VEnv → Prop) (Q : R → Fl × VEnv → Prop) (o : FlT S R) (p : Fl × VEnv) : Prop := match o with
  | .nx s => (p.1 = .nx ∨ p.1 = .cont) ∧ P s p.2
  | .brk s => p.1 = .brk ∧ P s p.2
  | .ret r => Q r p
def LoopQ (P : S → VEnv → Prop) (Q : R → Fl × VEnv → Prop) (o : FlT S R) (p : Fl × VEnv) : Prop := match o with
  | .nx s => p.1 = .nx ∧ P s p.2
  | .brk _ => False
  | .ret r => Q r p
theorem forS_ok {g : MG} {b : MS} {e : α → D} {f : S → α → Option S} (P : S → VEnv → Prop)
    (H : ∀ s x s' Γ, f s x = some s' → P s Γ → ∃ Γ1, g (.val (e x)) Γ = some Γ1 ∧ Post (b Γ1) (NxQ (P s'))) :
    ∀ {xs : List α} {s s' : S} {Γ : VEnv}, forS f xs s = some s' → P s Γ → ∃ Γ', forD g b (xs.map e) Γ = some (.nx, Γ') ∧ P s' Γ'
  | [], s, s', Γ, h, hp => by cases h; exact ⟨Γ, rfl, hp⟩
  | x :: xs, s, s', Γ, h, hp => by
    obtain ⟨s1, h1, h2⟩ := bnd h
    obtain ⟨Γ1, h3, p, h4, h5, h6⟩ := H s x s1 Γ h1 hp
    obtain ⟨Γ', h7, h8⟩ := forS_ok P H h2 h6
    refine ⟨Γ', ?_, h8⟩
    simp only [List.map_cons, forD, h3, h4, Option.bind_some]
    rcases h5 with h5 | h5 <;> (rw [h5]; exact h7)
theorem forR_ok {g : MG} {b : MS} {e : α → D} {f : S → α → Option (FlT S R)} (P : S → VEnv → Prop) {Q : R → Fl × VEnv → Prop} (hQ : ∀ r p, Q r p → ∃ v Γ', p = (.ret v, Γ'))
    (H : ∀ s x o Γ, f s x = some o → P s Γ → ∃ Γ1, g (.val (e x)) Γ = some Γ1 ∧ Post (b Γ1) (BodyQ P Q o)) :
    ∀ {xs : List α} {s : S} {o : FlT S R} {Γ : VEnv}, forR f xs s = some o → P s Γ → ∃ p, forD g b (xs.map e) Γ = some p ∧ LoopQ P Q o p
  | [], s, o, Γ, h, hp => by cases h; exact ⟨_, rfl, rfl, hp⟩
  | x :: xs, s, o, Γ, h, hp => by
    obtain ⟨o1, h1, h2⟩ := bnd h
    obtain ⟨Γ1, h3, p, h4, h5⟩ := H s x o1 Γ h1 hp
    simp only [List.map_cons, forD, h3, h4, Option.bind_some]
    cases o1 with
    | nx s1 =>
      obtain ⟨h5, h6⟩ := h5
      obtain ⟨Γ', h7, h8⟩ := forR_ok P hQ H h2 h6
      refine ⟨Γ', ?_, h8⟩
      rcases h5 with h5 | h5 <;> (rw [h5]; exact h7)
    | brk s1 =>
      cases h2
      obtain ⟨h5, h6⟩ := h5
      rw [h5]
      exact ⟨_, rfl, rfl, h6⟩
    | ret r =>
      cases h2
      obtain ⟨v, Γ', rfl⟩ := hQ r p h5
      exact ⟨_, rfl, h5⟩
theorem whileS_ok {t : MB} {b : MS} {tt : S → Option Bool} {f : S → Option S} (P : S → VEnv → Prop)
    (T : ∀ s c Γ, tt s = some c → P s Γ → t Γ = some (c, Γ))
    (H : ∀ s s' Γ, f s = some s' → P s Γ → Post (b Γ) (NxQ (P s'))) :
    ∀ {n : Nat} {s s' : S} {Γ : VEnv}, whileS tt f n s = some s' → P s Γ → ∃ Γ', whileD t b n Γ = some (.nx, Γ') ∧ P s' Γ'
  | 0, s, s', Γ, h, hp => nomatch h
  | n + 1, s, s', Γ, h, hp => by
    obtain ⟨c, h1, h2⟩ := bnd h
    have h3 := T s c Γ h1 hp
    simp only [whileD, h3, Option.bind_some]
    cases c with
    | false => cases h2; exact ⟨Γ, rfl, hp⟩
    | true =>
      rw [if_pos rfl] at h2
      obtain ⟨s1, h4, h5⟩ := bnd h2
      obtain ⟨p, h6, h7, h8⟩ := H s s1 Γ h4 hp
      obtain ⟨Γ', h9, h10⟩ := whileS_ok P T H h5 h8
      refine ⟨Γ', ?_, h10⟩
      simp only [if_true, h6, Option.bind_some]
      rcases h7 with h7 | h7 <;> (rw [h7]; exact h9)
theorem whileR_ok {t : MB} {b : MS} {tt : S → Option Bool} {f : S → Option (FlT S R)} (P : S → VEnv → Prop) {Q : R → Fl × VEnv → Prop} (hQ : ∀ r p, Q r p → ∃ v Γ', p = (.ret v, Γ'))
    (T : ∀ s c Γ, tt s = some c → P s Γ → t Γ = some (c, Γ))
    (H : ∀ s o Γ, f s = some o → P s Γ → Post (b Γ) (BodyQ P Q o)) :
    ∀ {n : Nat} {s : S} {o : FlT S R} {Γ : VEnv}, whileR tt f n s = some o → P s Γ → ∃ p, whileD t b n Γ = some p ∧ LoopQ P Q o p
  | 0, s, o, Γ, h, hp => nomatch h
  | n + 1, s, o, Γ, h, hp => by
    obtain ⟨c, h1, h2⟩ := bnd h
    have h3 := T s c Γ h1 hp
    simp only [whileD, h3, Option.bind_some]
    cases c with
    | false => cases h2; exact ⟨_, rfl, rfl, hp⟩
    | true =>
      rw [if_pos rfl] at h2
      obtain ⟨o1, h4, h5⟩ := bnd h2
      obtain ⟨p, h6, h7⟩ := H s o1 Γ h4 hp
      simp only [if_true, h6, Option.bind_some]
      cases o1 with
      | nx s1 =>
        obtain ⟨h7, h8⟩ := h7
        obtain ⟨p', h9, h10⟩ := whileR_ok P hQ T H h5 h8
        refine ⟨p', ?_, h10⟩
        rcases h7 with h7 | h7 <;> (rw [h7]; exact h9)
      | brk s1 =>
        cases h5
        obtain ⟨h7, h8⟩ := h7
        rw [h7]
        exact ⟨_, rfl, rfl, h8⟩
      | ret r =>
        cases h5
        obtain ⟨v, Γ', rfl⟩ := hQ r p h7
        exact ⟨_, rfl, h7⟩
theorem po_for {mi : MI} {g : MG} {b s : MS} {Γ Γ1 Γ2 : VEnv} {ds : List D} {φ : Fl × VEnv → Prop} (h1 : mi Γ = some (ds, Γ1)) (h2 : forD g b ds Γ1 = some (.nx, Γ2)) (h : Post (s Γ2) φ) : Post (mSeq (mFor mi g b) s Γ) φ := po_nx (for_in h1 h2) h
theorem po_forX {mi : MI} {g : MG} {b s : MS} {Γ Γ1 Γ2 : VEnv} {ds : List D} {v : EV} {φ : Fl × VEnv → Prop} (h1 : mi Γ = some (ds, Γ1)) (h2 : forD g b ds Γ1 = some (.ret v, Γ2)) (h : φ (.ret v, Γ2)) : Post (mSeq (mFor mi g b) s Γ) φ := po_out (for_in h1 h2) h
theorem po_while {n : Nat} {t : MB} {b s : MS} {Γ Γ2 : VEnv} {φ : Fl × VEnv → Prop} (h2 : whileD t b n Γ = some (.nx, Γ2)) (h : Post (s Γ2) φ) : Post (mSeq (mWhile n t b) s Γ) φ := po_nx h2 h
theorem po_whileX {n : Nat} {t : MB} {b s : MS} {Γ Γ2 : VEnv} {v : EV} {φ : Fl × VEnv → Prop} (h2 : whileD t b n Γ = some (.ret v, Γ2)) (h : φ (.ret v, Γ2)) : Post (mSeq (mWhile n t b) s Γ) φ := po_out h2 h
end

/-! ### comprehensions -/
section
variable {α β γ σ : Type}
def mapO (f : α → Option β) : List α → Option (List β)
  | [] => some []
  | x :: xs => (f x).bind fun y => (mapO f xs).map fun ys => y :: ys
def lenOk (ys : List β) : Option (List β) := if ys.length ≤ sizeLine then some ys else none
/-- [f x for x in xs] -/
def lcM (f : α → Option β) (xs : List α) : Option (List β) := (mapO f xs).bind lenOk
/-- with a test -/
def lcT (f : α → Option (Option β)) (xs : List α) : Option (List β) := (mapO f xs).bind fun os => lenOk (os.filterMap id)
/-- two generators -/
def lc2T (t : α → Option Bool) (ys : α → Option (List β)) (f : α → β → Option (Option γ)) (xs : List α) : Option (List γ) :=
  (mapO (fun x => (t x).bind fun c => if c = true then (ys x).bind fun l => (mapO (f x) l).map fun os => os.filterMap id else some []) xs).bind fun ls => lenOk ls.flatten
/-- it changes something -/
def mapS (f : σ → α → Option (β × σ)) : List α → σ → Option (List β × σ)
  | [], s => some ([], s)
  | x :: xs, s => (f s x).bind fun p => (mapS f xs p.2).map fun q => (p.1 :: q.1, q.2)
def lcS (f : σ → α → Option (β × σ)) (xs : List α) (s : σ) : Option (List β × σ) := (mapS f xs s).bind fun q => if q.1.length ≤ sizeLine then some q else none
theorem turn_yes {vs : List Nat} {g : MG} {tt : MB} {m : M} {d z : D} {r : EV} {Γ Γ1 Γ2 Γ3 Γ4 Γ5 : VEnv} (h1 : g (.val d) Γ = some Γ1) (h2 : tt Γ1 = some (true, Γ2)) (h3 : m Γ2 = some (r, Γ3)) (h4 : freeze r Γ3 = some (z, Γ4)) (h5 : wipeE Γ4 vs = Γ5) : turn vs g tt m d Γ = some (some z, Γ5) := by
  simp only [turn, tu1, tu2, tu3, tu4, h1, h2, h3, h4, h5, Option.bind_some, if_true, Option.map_some]
theorem turn_no {vs : List Nat} {g : MG} {tt : MB} {m : M} {d : D} {Γ Γ1 Γ2 Γ5 : VEnv} (h1 : g (.val d) Γ = some Γ1) (h2 : tt Γ1 = some (false, Γ2)) (h5 : wipeE Γ2 vs = Γ5) : turn vs g tt m d Γ = some (none, Γ5) := by
  simp only [turn, tu1, tu2, h1, h2, h5, Option.bind_some, Bool.false_eq_true, if_false]
theorem lcD_mapO {vs : List Nat} {g : MG} {tt : MB} {m : M} {Γ : VEnv} {e : α → D} {e' : β → D} {f : α → Option (Option β)} (H : ∀ x o, f x = some o → turn vs g tt m (e x) Γ = some (o.map e', Γ)) :
    ∀ {xs : List α} {os : List (Option β)} {acc : List D}, mapO f xs = some os → acc.length + (os.filterMap id).length ≤ sizeLine → lcD vs g tt m (xs.map e) acc Γ = some (acc ++ (os.filterMap id).map e', Γ)
  | [], os, acc, h, _ => by cases h; simp [lcD]
  | x :: xs, os, acc, h, hl => by
    obtain ⟨o, h1, h2⟩ := bnd h
    cases q : mapO f xs with
    | none => rw [q] at h2; cases h2
    | some os' =>
      rw [q] at h2
      cases h2
      cases o with
      | none =>
        simp only [List.filterMap_cons, id] at hl ⊢
        have h3 := H x none h1
        rw [List.map_cons]
        have : lcD vs g tt m (e x :: xs.map e) acc Γ = lcD vs g tt m (xs.map e) acc Γ := by
          simp only [turn, tu1, tu2, tu3, tu4] at h3
          simp only [lcD]
          cases q1 : g (.val (e x)) Γ with
          | none => rw [q1] at h3; cases h3
          | some Γ1 =>
            rw [q1] at h3
            simp only [Option.bind_some] at h3 ⊢
            cases q2 : tt Γ1 with
            | none => rw [q2] at h3; cases h3
            | some p =>
              rw [q2] at h3
              simp only [Option.bind_some] at h3 ⊢
              by_cases hc : p.1 = true
              · rw [if_pos hc] at h3
                exfalso
                cases q3 : m p.2 with
                | none => rw [q3] at h3; cases h3
                | some r =>
                  rw [q3] at h3
                  simp only [Option.bind_some] at h3
                  cases q4 : freeze r.1 r.2 with
                  | none => rw [q4] at h3; cases h3
                  | some w => rw [q4] at h3; cases h3
              · rw [if_neg hc] at h3 ⊢
                injection h3 with h3
                injection h3 with _ h3
                rw [h3]
        rw [this]
        exact lcD_mapO H q hl
      | some y =>
        simp only [List.filterMap_cons, id, List.length_cons] at hl ⊢
        have h3 := H x (some y) h1
        rw [List.map_cons, lcD_turn (by omega), h3]
        simp only [Option.bind_some, Option.map_some]
        rw [lcD_mapO H q (by simp; omega)]
        simp
theorem lenOk_some {ys zs : List β} (h : lenOk ys = some zs) : ys.length ≤ sizeLine ∧ ys = zs := if_some h
theorem mapO_some (f : α → Option β) : ∀ {xs : List α} {ys : List β}, mapO f xs = some ys → mapO (fun x => (f x).map some) xs = some (ys.map some)
  | [], ys, h => by cases h; rfl
  | x :: xs, ys, h => by
    obtain ⟨y, h1, h2⟩ := bnd h
    cases q : mapO f xs with
    | none => rw [q] at h2; cases h2
    | some l =>
      rw [q] at h2
      cases h2
      simp only [mapO, h1, Option.map_some, Option.bind_some, mapO_some f q, List.map_cons]
theorem filterMap_some' : ∀ ys : List β, (ys.map some).filterMap id = ys
  | [] => rfl
  | y :: ys => by simp only [List.map_cons, List.filterMap_cons, id, filterMap_some' ys]
theorem q_lcT {vs : List Nat} {mi : MI} {g : MG} {tt : MB} {m : M} {Γ Γ1 : VEnv} {xs : List α} {ys : List β} (e : α → D) (e' : β → D) {f : α → Option (Option β)} (hi : mi Γ = some (xs.map e, Γ1)) (ok : okW Γ1 vs = true)
    (H : ∀ x o, f x = some o → turn vs g tt m (e x) (wipeE Γ1 vs) = some (o.map e', wipeE Γ1 vs)) (h : lcT f xs = some ys) : mLc vs mi g tt m Γ = some (.fresh (eL e' ys), Γ1) := by
  obtain ⟨os, h1, h2⟩ := bnd h
  obtain ⟨h3, rfl⟩ := lenOk_some h2
  simp only [mLc, hi, Option.bind_some, if_pos ok]
  rw [lcD_mapO H h1 (by simpa using h3)]
  simp only [Option.map_some, List.nil_append, back_wipe]
theorem q_lcM {vs : List Nat} {mi : MI} {g : MG} {tt : MB} {m : M} {Γ Γ1 : VEnv} {xs : List α} {ys : List β} (e : α → D) (e' : β → D) {f : α → Option β} (hi : mi Γ = some (xs.map e, Γ1)) (ok : okW Γ1 vs = true)
    (H : ∀ x y, f x = some y → turn vs g tt m (e x) (wipeE Γ1 vs) = some (some (e' y), wipeE Γ1 vs)) (h : lcM f xs = some ys) : mLc vs mi g tt m Γ = some (.fresh (eL e' ys), Γ1) := by
  obtain ⟨os, h1, h2⟩ := bnd h
  obtain ⟨h3, rfl⟩ := lenOk_some h2
  refine q_lcT e e' (f := fun x => (f x).map some) hi ok (fun x o h => ?_) ?_
  · cases q : f x with
    | none => rw [q] at h; cases h
    | some y => rw [q] at h; cases h; exact H x y q
  · simp only [lcT, mapO_some f h1, Option.bind_some, filterMap_some', lenOk, if_pos h3]
theorem q_lc2T {vs vs1 : List Nat} {mi : MI} {g : MG} {tt : MB} {mi1 : MI} {g1 : MG} {tt1 : MB} {m : M} {Γ Γ1 : VEnv} {xs : List α} {zs : List γ} (e : α → D) (e1 : β → D) (e' : γ → D) {t : α → Option Bool} {ys : α → Option (List β)} {f : α → β → Option (Option γ)}
    (hi : mi Γ = some (xs.map e, Γ1)) (ok : okW Γ1 vs = true)
    (H : ∀ x c, t x = some c → ∃ Γ2, g (.val (e x)) (wipeE Γ1 vs) = some Γ2 ∧ tt Γ2 = some (c, Γ2) ∧ wipeE Γ2 vs = wipeE Γ1 vs ∧ (c = true → ∀ l, ys x = some l → mi1 Γ2 = some (l.map e1, Γ2) ∧ wipeE (wipeE Γ2 vs1) vs = wipeE Γ1 vs ∧
      ∀ y o, f x y = some o → turn vs1 g1 tt1 m (e1 y) (wipeE Γ2 vs1) = some (o.map e', wipeE Γ2 vs1)))
    (h : lc2T t ys f xs = some zs) : mLc2 vs vs1 mi g tt mi1 g1 tt1 m Γ = some (.fresh (eL e' zs), Γ1) := by
  obtain ⟨ls, h1, h2⟩ := bnd h
  obtain ⟨h3, rfl⟩ := lenOk_some h2
  simp only [mLc2, hi, Option.bind_some, if_pos ok]
  have key : ∀ (xs : List α) (ls : List (List γ)) (acc : List D), mapO (fun x => (t x).bind fun c => if c = true then (ys x).bind fun l => (mapO (f x) l).map fun os => os.filterMap id else some []) xs = some ls → acc.length + ls.flatten.length ≤ sizeLine →
      lc2D vs vs1 g tt mi1 g1 tt1 m (xs.map e) acc (wipeE Γ1 vs) = some (acc ++ ls.flatten.map e', wipeE Γ1 vs) := by
    intro xs
    induction xs with
    | nil => intro ls acc h _; cases h; simp [lc2D]
    | cons x xs ih =>
      intro ls acc h hl
      obtain ⟨l0, h1, h2⟩ := bnd h
      obtain ⟨c, h3, h4⟩ := bnd h1
      cases q : mapO (fun x => (t x).bind fun c => if c = true then (ys x).bind fun l => (mapO (f x) l).map fun os => os.filterMap id else some []) xs with
      | none => rw [q] at h2; cases h2
      | some ls' =>
        rw [q] at h2
        cases h2
        obtain ⟨Γ2, a1, a2, a3, a4⟩ := H x c h3
        rw [List.flatten_cons, List.length_append] at hl
        simp only [List.map_cons, lc2D, a1, a2, Option.bind_some]
        cases c with
        | false =>
          cases h4
          simp only [Bool.false_eq_true, if_false, a3, List.flatten_cons, List.nil_append]
          exact ih ls' acc q (by simpa using hl)
        | true =>
          rw [if_pos rfl] at h4
          obtain ⟨l, h5, h6⟩ := bnd h4
          cases q2 : mapO (f x) l with
          | none => rw [q2] at h6; cases h6
          | some os =>
            rw [q2] at h6
            cases h6
            obtain ⟨b1, b2, b3⟩ := a4 rfl l h5
            simp only [if_true, b1, Option.bind_some]
            replace hl : acc.length + ((os.filterMap id).length + ls'.flatten.length) ≤ sizeLine := hl
            rw [lcD_mapO b3 q2 (by omega)]
            simp only [Option.bind_some, b2]
            rw [ih ls' _ q (by simp only [List.length_append, List.length_map]; omega)]
            simp [List.flatten_cons]
  rw [key xs ls [] h1 (by simpa using h3)]
  simp only [Option.map_some, List.nil_append, back_wipe]
theorem lcD_mapS {vs : List Nat} {g : MG} {tt : MB} {m : M} {G : σ → VEnv} {e : α → D} {e' : β → D} {f : σ → α → Option (β × σ)} (H : ∀ s x p, f s x = some p → turn vs g tt m (e x) (G s) = some (some (e' p.1), G p.2)) :
    ∀ {xs : List α} {s : σ} {q : List β × σ} {acc : List D}, mapS f xs s = some q → acc.length + q.1.length ≤ sizeLine → lcD vs g tt m (xs.map e) acc (G s) = some (acc ++ q.1.map e', G q.2)
  | [], s, q, acc, h, _ => by cases h; simp [lcD]
  | x :: xs, s, q, acc, h, hl => by
    obtain ⟨p, h1, h2⟩ := bnd h
    cases k : mapS f xs p.2 with
    | none => rw [k] at h2; cases h2
    | some w =>
      rw [k] at h2
      cases h2
      simp only [List.length_cons] at hl
      have h3 := H s x p h1
      rw [List.map_cons, lcD_turn (by omega), h3]
      simp only [Option.bind_some]
      rw [lcD_mapS H k (by simp; omega)]
      simp
theorem q_lcS {vs : List Nat} {mi : MI} {g : MG} {tt : MB} {m : M} {Γ Γ1 : VEnv} {xs : List α} {s : σ} {q : List β × σ} (e : α → D) (e' : β → D) {f : σ → α → Option (β × σ)} (G : σ → VEnv) (hi : mi Γ = some (xs.map e, Γ1)) (ok : okW Γ1 vs = true) (hg : wipeE Γ1 vs = G s)
    (H : ∀ s x p, f s x = some p → turn vs g tt m (e x) (G s) = some (some (e' p.1), G p.2)) {Γ2 : VEnv} (hb : backE Γ1 (G q.2) vs = Γ2) (h : lcS f xs s = some q) : mLc vs mi g tt m Γ = some (.fresh (eL e' q.1), Γ2) := by
  obtain ⟨w, h1, h2⟩ := bnd h
  obtain ⟨h3, rfl⟩ := if_some h2
  simp only [mLc, hi, Option.bind_some, if_pos ok, hg]
  rw [lcD_mapS H h1 (by simpa using h3)]
  simp only [Option.map_some, List.nil_append, hb]
end

/-! ### == of data -/
/-- == over an encoder is the equality of the plain values -/
def EqE {α : Type} [BEq α] (n : Nat) (e : α → D) : Prop := (∀ a, dpt n (e a) = true) ∧ ∀ a b, beq (e a) (e b) = (a == b)
section
variable {α β γ δ : Type} [BEq α] [BEq β] [BEq γ] [BEq δ] {n : Nat}
theorem ee_I : EqE n D.int := ⟨fun a => dpt_int n a, fun a b => by simp [beq]⟩
theorem ee_S : EqE n D.str := ⟨fun a => dpt_str n a, fun a b => by simp [beq]⟩
theorem ee_B : EqE n D.bl := ⟨fun a => dpt_bl n a, fun a b => by simp [beq]⟩
theorem ee_N : EqE n eN := ⟨fun a => dpt_non n, fun a b => by simp [beq]⟩
theorem ee_L {e : α → D} (h : EqE n e) : EqE (n + 1) (eL e) := ⟨fun a => all_dpt n e h.1 a, fun a b => by simp only [beq]; exact beqs_map e h.2 a b⟩
theorem ee_T {e : α → D} (h : EqE n e) : EqE (n + 1) (eT e) := ⟨fun a => all_dpt n e h.1 a, fun a b => by simp only [beq]; exact beqs_map e h.2 a b⟩
theorem ee_P0 : EqE (n + 1) eP0 := ⟨fun a => rfl, fun a b => rfl⟩
theorem ee_P1 {e : α → D} (h : EqE n e) : EqE (n + 1) (eP1 e) := ⟨fun a => by simp [eP1, dpt, h.1], fun a b => by simp [eP1, beq, beqs, h.2]⟩
theorem ee_P2 {e : α → D} {f : β → D} (h : EqE n e) (h2 : EqE n f) : EqE (n + 1) (eP2 e f) := ⟨fun a => by simp [eP2, dpt, h.1, h2.1], fun a b => by
  obtain ⟨a1, a2⟩ := a; obtain ⟨b1, b2⟩ := b
  simp only [eP2, beq, beqs, h.2, h2.2, Bool.and_true]; rfl⟩
theorem ee_P3 {e : α → D} {f : β → D} {g : γ → D} (h : EqE n e) (h2 : EqE n f) (h3 : EqE n g) : EqE (n + 1) (eP3 e f g) := ⟨fun a => by simp [eP3, dpt, h.1, h2.1, h3.1], fun a b => by
  obtain ⟨a1, a2, a3⟩ := a; obtain ⟨b1, b2, b3⟩ := b
  simp only [eP3, beq, beqs, h.2, h2.2, h3.2, Bool.and_true]; rfl⟩
theorem ee_P4 {e : α → D} {f : β → D} {g : γ → D} {i : δ → D} (h : EqE n e) (h2 : EqE n f) (h3 : EqE n g) (h4 : EqE n i) : EqE (n + 1) (eP4 e f g i) := ⟨fun a => by simp [eP4, dpt, h.1, h2.1, h3.1, h4.1], fun a b => by
  obtain ⟨a1, a2, a3, a4⟩ := a; obtain ⟨b1, b2, b3, b4⟩ := b
  simp only [eP4, beq, beqs, h.2, h2.2, h3.2, h4.2, Bool.and_true]; rfl⟩
theorem o_eq {e : α → D} (h : EqE 60 e) (a b : α) : eqD (e a) (e b) = some (a == b) := by
  unfold eqD
  rw [if_pos ⟨h.1 a, h.1 b⟩, h.2]
theorem o_ne {e : α → D} (h : EqE 60 e) (a b : α) : neD (e a) (e b) = some (!(a == b)) := by
  unfold neD
  rw [if_pos ⟨h.1 a, h.1 b⟩, h.2]
theorem any_beqE {e : α → D} (h : EqE n e) (a : α) (xs : List α) : (xs.map e).any (fun z => beq z (e a)) = xs.any fun z => z == a := by
  rw [List.any_map]
  congr 1
  funext z
  exact h.2 z a
end
end VS

set_option Elab.async false
set_option linter.all false
set_option maxRecDepth 100000
set_option maxHeartbeats 4000000
/-! ### what the printed proofs name besides -/
namespace VS
open PySem L2 PyProof.Rows
local instance : TabT := ⟨[], false⟩
section
variable {Γ Γ1 Γ2 Γ3 Γ4 : VEnv} {i j k l n : Nat} {d e f x y z : D} {r ra rb : EV} {m mo : M} {c c' : Bool} {t : MB} {ml : ML} {rs : List EV} {st : List SC} {sl : List Cell} {α β : Type}
theorem pk_par (hk : k < st.length) : peek ⟨sl, put st k d⟩ (.par k) = some d := by simp only [peek, put_at hk]
theorem pkl_par (hk : k < st.length) : peekL ⟨sl, put st k d⟩ [.par k] = some [d] := by simp only [peekL, pk_par hk, Option.bind_some, Option.map_some]
theorem pkl2_par (hk : k < st.length) : peekL ⟨sl, put st k d⟩ [.par k, .val e] = some [d, e] := by
  show (peek ⟨sl, put st k d⟩ (.par k)).bind _ = _
  rw [pk_par hk]
  rfl
theorem lt_put (hk : k < st.length) : k < (put st k d).length := by rw [put_len]; exact hk
theorem lt_app (st : List SC) (x : SC) : st.length < (st ++ [x]).length := by simp
theorem lz {γ : Type} {l : List γ} {n : Nat} (h : l.length = n) (hn : Nat.ble n 1000 = true) : l.length ≤ sizeLine := by
  have h1 : n ≤ 1000 := Nat.le_of_ble_eq_true hn
  have h2 := sizeLine_big
  omega
theorem lz1 {γ : Type} {l : List γ} {i n : Nat} (h : l.length = n) (hn : Nat.ble (i + 1) n = true) : i < l.length := by
  have h1 : i + 1 ≤ n := Nat.le_of_ble_eq_true hn
  omega
theorem o_mulL {i j : Int} (h : smallI i = true) : mulD (.int i) (.int j) = some (.val (.int (i * j))) := by simp only [mulD, mulOk_l h, if_true]
theorem o_mulR {i j : Int} (h : smallI j = true) : mulD (.int i) (.int j) = some (.val (.int (i * j))) := by simp only [mulD, mulOk_r h, if_true]
theorem o_fdivL {i j : Int} (h : 0 < j ∧ j.natAbs.log2 < 9000) : fdivD (.int i) (.int j) = some (.val (.int (i / j))) := by simp only [fdivD, if_pos h]
theorem o_modL {i j : Int} (h : 0 < j) : modD (.int i) (.int j) = some (.val (.int (i % j))) := by simp only [modD, if_pos h]
theorem o_not {g : D → D → Option Bool} (h : g x y = some c) : notD g x y = some (!c) := by simp only [notD, h, Option.map_some]
theorem o_isN {e : α → D} (h : ∀ a, isD (e a) .non = some false) : ∀ o : Option α, isD (eO e o) .non = some o.isNone
  | none => rfl
  | some a => h a
def inST (s t : List Nat) : Option Bool := match s with
  | [c] => some (decide (c ∈ t))
  | _ => none
theorem o_inS {s t : List Nat} (h : inST s t = some c) : inD (.str s) (.str t) = some c := by
  unfold inST at h
  split at h
  · exact h
  · cases h
theorem o_inL [BEq α] {e : α → D} (h : EqE 59 e) (a : α) (xs : List α) : inD (e a) (eL e xs) = some (xs.any fun z => z == a) := by
  have h1 : dpt 60 (.lst (xs.map e)) = true := all_dpt 59 e h.1 xs
  have h2 : dpt 60 (e a) = true := by
    have : ∀ (n : Nat) (d : D), dpt n d = true → dpt (n + 1) d = true := by
      intro n
      induction n with
      | zero => intro d hd; cases d <;> simp_all [dpt]
      | succ n ih =>
        intro d hd
        cases d <;> simp only [dpt] at hd ⊢
        · rw [List.all_eq_true] at hd ⊢; exact fun x hx => ih x (hd x hx)
        · rw [List.all_eq_true] at hd ⊢; exact fun x hx => ih x (hd x hx)
        all_goals simp_all [dpt]
    exact this 59 _ (h.1 a)
  have e1 : inD (e a) (.lst (xs.map e)) = if dpt 60 (e a) = true ∧ dpt 60 (.lst (xs.map e)) = true then some ((xs.map e).any fun z => beq z (e a)) else none := by
    unfold inD
    cases e a <;> first | rfl | (split <;> simp_all)
  show inD (e a) (.lst (xs.map e)) = _
  rw [e1, if_pos ⟨h2, h1⟩, any_beqE h]
theorem o_inT [BEq α] {e : α → D} (h : EqE 59 e) (hf : ∀ a, flatD (e a) = true) (a : α) (xs : List α) : inD (e a) (eT e xs) = some (xs.any fun z => z == a) := by
  have e1 : inD (e a) (.tup (xs.map e)) = if flatD (e a) = true ∧ (xs.map e).all flatD = true then some ((xs.map e).any fun z => beq z (e a)) else none := by
    unfold inD
    cases e a <;> first | rfl | (split <;> simp_all)
  show inD (e a) (.tup (xs.map e)) = _
  rw [e1, if_pos ⟨hf a, by rw [List.all_map, List.all_eq_true]; exact fun x _ => hf x⟩, any_beqE h]
theorem tr_t (h : t Γ = some (c, Γ1)) (hc : c = true) : t Γ = some (true, Γ1) := hc ▸ h
theorem tr_f (h : t Γ = some (c, Γ1)) (hc : c = false) : t Γ = some (false, Γ1) := hc ▸ h
theorem q_eqV {f : α → D} {a b : α} (h : m Γ = some (.val (f a), Γ1)) (e : a = b) : m Γ = some (.val (f b), Γ1) := e ▸ h
theorem q_eqF {f : α → D} {a b : α} (h : m Γ = some (.fresh (f a), Γ1)) (e : a = b) : m Γ = some (.fresh (f b), Γ1) := e ▸ h
theorem og_eqV {g : D → D → Option EV} {f : α → D} {a b : α} (h : g x y = some (.val (f a))) (e : a = b) : g x y = some (.val (f b)) := e ▸ h
theorem gs_set {e : α → D} {xs zs : List α} {k : Int} {v : α} {mi : M} (h1 : mo Γ = some (ra, Γ)) (h2 : mi Γ = some (.val (.int k), Γ)) (h5 : content Γ ra = some (eL e xs)) (h6 : setT xs k v = some zs) (h7 : putC Γ (eL e zs) ra = Γ1) : mgSub mo mi (.val (e v)) Γ = some Γ1 := by
  subst h7
  unfold setT at h6
  cases q : ixN xs.length k with
  | none => rw [q] at h6; cases h6
  | some n =>
    rw [q] at h6
    cases h6
    simp only [mgSub, setAt, h1, h2, freeze, h5, peek, Option.bind_some, List.length_map, q, Option.map_some, eL, List.map_set]
theorem ct_par (hk : k < st.length) : content ⟨sl, put st k d⟩ (.par k) = some d := by simp only [content, put_at hk]
theorem putC_par : putC ⟨sl, put st k d⟩ e (.par k) = ⟨sl, put st k e⟩ := by
  show VEnv.mk sl (put (put st k d) k e) = _
  rw [put_put]
theorem gs_setP {e : α → D} {xs zs : List α} {i : Int} {v : α} {mi : M} (hk : k < st.length) (h1 : mo ⟨sl, put st k (eL e xs)⟩ = some (.par k, ⟨sl, put st k (eL e xs)⟩)) (h2 : mi ⟨sl, put st k (eL e xs)⟩ = some (.val (.int i), ⟨sl, put st k (eL e xs)⟩)) (h6 : setT xs i v = some zs) : mgSub mo mi (.val (e v)) ⟨sl, put st k (eL e xs)⟩ = some ⟨sl, put st k (eL e zs)⟩ := by
  rw [gs_set h1 h2 (ct_par hk) h6 putC_par]
theorem q_mutP {g : List D → List D → Option (D × List D)} {cs ds : List D} {o : D × List D} (hk : k < st.length) (h1 : mo ⟨sl, put st k (.lst cs)⟩ = some (.par k, ⟨sl, put st k (.lst cs)⟩)) (h3 : ml ⟨sl, put st k (.lst cs)⟩ = some (rs, ⟨sl, put st k (.lst cs)⟩)) (h4 : freezeL rs ⟨sl, put st k (.lst cs)⟩ = some (ds, ⟨sl, put st k (.lst cs)⟩)) (h6 : g cs ds = some o) (h7 : (⟨sl, put st k (.lst o.2)⟩ : VEnv) = Γ4) :
    mMut g mo ml ⟨sl, put st k (.lst cs)⟩ = some (.val o.1, Γ4) := by
  rw [q_mut h1 (ct_par hk) h3 h4 (ct_par hk) h6 (putC_par.trans h7)]
def isiB (t n : String) : Option Bool := if n ∈ ["int", "bool", "str", "list", "tuple", "dict"] then some (t == n || (t == "bool" && n == "int")) else none
theorem isi_of {t n : String} {b : Bool} (h : tyOf d = some t) (hb : isiB t n = some b) : isiD [d, .ty n] = some (.val (.bl b)) := by
  unfold isiB at hb
  obtain ⟨h1, h2⟩ := if_some hb
  simp only [isiD, h, Option.bind_some, if_pos h1, h2]
def absI (i : Int) : Int := if i < 0 then -i else i
def maxI2 (i j : Int) : Int := if j > i then j else i
def minI2 (i j : Int) : Int := if j < i then j else i
theorem maxI2_eq (i j : Int) : maxI2 i j = max i j := by unfold maxI2; split <;> omega
theorem minI2_eq (i j : Int) : minI2 i j = min i j := by unfold minI2; split <;> omega
theorem absI_eq (i : Int) : absI i = (i.natAbs : Int) := by unfold absI; split <;> omega
def aftR {S R C : Type} (o : FlT S R) (out : R → Option C) (go : S → Option C) : Option C := match o with
  | .nx s => go s
  | .brk _ => none
  | .ret r => out r
theorem aftR_some {S R C : Type} {o : FlT S R} {out : R → Option C} {go : S → Option C} {c : C} (h : aftR o out go = some c) : (∃ r, o = .ret r ∧ out r = some c) ∨ ∃ s, o = .nx s ∧ go s = some c := by
  cases o with
  | nx s => exact .inr ⟨s, rfl, h⟩
  | brk s => cases h
  | ret r => exact .inl ⟨r, rfl, h⟩
theorem i_enumT {e : α → D} {xs : List α} {ml : ML} {rs : List EV} {Γ Γ1 Γ2 : VEnv} (h1 : ml Γ = some (rs, Γ1)) (h2 : freezeL rs Γ1 = some ([eT e xs], Γ2)) : miEnum ml Γ = some ((enumT xs).map (eP2 D.int e), Γ2) := by
  simp only [miEnum, h1, h2, Option.bind_some, eT, ← enum_e]
theorem i_enumS {s : List Nat} {ml : ML} {rs : List EV} {Γ Γ1 Γ2 : VEnv} (h1 : ml Γ = some (rs, Γ1)) (h2 : freezeL rs Γ1 = some ([.str s], Γ2)) : miEnum ml Γ = some ((enumT (signsT s)).map (eP2 D.int D.str), Γ2) := by
  simp only [miEnum, h1, h2, Option.bind_some, ← enum_e, signs_e]
theorem ee_O [BEq α] {e : α → D} {n : Nat} (h : EqE n e) (hn : ∀ a, isD (e a) .non = some false) : EqE n (eO e) := by
  have hb : ∀ d : D, isD d .non = some false → beq .non d = false ∧ beq d .non = false := by
    intro d hd
    cases d <;> simp_all [isD, beq]
  refine ⟨fun o => by cases o with
    | none => exact dpt_non n
    | some a => exact h.1 a, fun a b => ?_⟩
  cases a with
  | none => cases b with
    | none => rfl
    | some b => exact (hb _ (hn b)).1
  | some a => cases b with
    | none => exact (hb _ (hn a)).2
    | some b => exact h.2 a b
end
end VS

set_option Elab.async false
set_option linter.all false
set_option maxRecDepth 100000
set_option maxHeartbeats 4000000
/-! ### list(text), sorted of data that are alike -/
namespace VSH
open PySem PySem.Spec PyProof.Rows L2
section
variable {X : Cx}
theorem cr_listS (hc : X.calm = true) : CallR X (.type "list") (fun xs H Q => ∃ z : Str, xs = [.str z] ∧ z.cps.size ≤ sizeLine ∧ ∀ l, H l = none → Q (.ref l) (upd H l (.lst (z.cps.toList.map fun c => V.str ⟨#[c]⟩)))) := by
  intro pins s σ H xs us Q I r h
  obtain ⟨z, rfl, hz, q⟩ := h
  obtain ⟨u, rfl, rx⟩ := vals1 r
  obtain ⟨t, rfl⟩ := rx
  refine call_list_str (I.ok.hd hc) z t (fun h' tk acc' c' hk hS hacc => ?_) hz
  refine ⟨.ref s.heap.objs.size, upd H s.heap.objs.size (.lst (z.cps.toList.map fun c => V.str ⟨#[c]⟩)), I.laid hk (Nat.le_refl _) (show ObjOk X.prog X.w _ _ _ (.lst (z.cps.toList.map fun c => V.str ⟨#[c]⟩)) from ⟨?_, acc'.toList, c', ?_, ?_⟩), rfl, q _ (I.hok.fresh (Nat.le_refl _))⟩
  · simpa using hz
  · refine vals_of_at (by simp [hacc.1]) fun j x w h1 h2 => ?_
    obtain ⟨c, u, h3, rfl⟩ := hacc.2 j w (by rw [← Array.getElem?_toList]; exact h2)
    rw [List.getElem?_map] at h1
    rw [Array.getElem?_toList, h3] at h1
    cases h1
    exact ⟨u, rfl⟩
  · rw [Array.toArray_toList]; exact hS
/-- sorted(xs): any data that are alike -/
def rSortedG (K : PySem.W.Frag) : List V → Hp → VK → Prop := fun vs H Q => ∃ (a : Addr) (ps : List (PyData × V)), vs = [.ref a] ∧ SqL K H a (ps.map (·.2)) ∧ DpAll K H (ps.map (·.2)) (ps.map (·.1)) ∧ PySem.W.AllAlike (ps.map (·.1)) ∧ PySem.W.Sortable (ps.map (·.1)) ∧ (∀ p ∈ ps, p.1.depth ≤ 60) ∧
  ∀ p, H p = none → Q (.ref p) (upd H p (.lst ((ps.mergeSort (PySem.W.dataLe false (·.1))).map (·.2))))
theorem each_vals {X : Cx} {pins : List (Addr × Obj)} {σ : L2.St} {H : Hp} {s : Shared} (I : Inv X pins σ H s) : ∀ {ps : List (PyData × V)} {its : List Value}, Vals (ps.map (·.2)) its → DpAll X.K H (ps.map (·.2)) (ps.map (·.1)) →
    PySem.W.EachIs (fun u (p : PyData × V) => RelV p.2 u) its ps ∧ PySem.W.EachIs (fun u (p : PyData × V) => ∃ as, Reads s.heap u p.1 as) its ps
  | [], _, h, _ => by cases h; exact ⟨.nil, .nil⟩
  | p :: ps, _, h, hd => by
    cases h with
    | cons h1 h2 =>
      cases hd with
      | cons d1 d2 =>
        obtain ⟨a, b⟩ := each_vals I h2 d2
        exact ⟨.cons h1 a, .cons (Dp.reads I p.1 p.2 _ d1 h1) b⟩
theorem vals_each : ∀ {ps : List (PyData × V)} {out : List Value}, PySem.W.EachIs (fun u (p : PyData × V) => RelV p.2 u) out ps → Vals (ps.map (·.2)) out
  | _, _, .nil => .nil
  | _, _, .cons h r => .cons h (vals_each r)
theorem cr_sortedG (hu : X.A.units + 65 < cLine) : CallR X (.builtin "sorted") (rSortedG X.K) := by
  intro pins s σ H vs us Q I r h
  obtain ⟨a, ps, rfl, hs, hd, hal, hk, hdp, q⟩ := h
  obtain ⟨its, rv, hl, hz⟩ := I.list hs
  rw [Vals.ref1 r]
  obtain ⟨e, er⟩ := each_vals I rv hd
  have hL : ps.length ≤ sizeLine := by rw [List.length_map] at hz; exact hz
  refine PySem.W.sorted_data (R := fun u (p : PyData × V) => RelV p.2 u) (bs := ps) (enc := (·.1)) hl.isList e er hal hk hL (fun b hb => by have := hdp b hb; omega) fun out hlen hout => ?_
  obtain ⟨ep, he'⟩ := PyProof.Rows.sortedAll_at s.heap its out.toArray
  refine ⟨.ref _, upd H (s.heap.objs.size + 1) (.lst ((ps.mergeSort (PySem.W.dataLe false (·.1))).map (·.2))), I.laid (t' := s.toks) (fun _ _ => PyProof.Rows.sortedAll_old) (Nat.le_succ _) ⟨?_, out, ep, vals_each hout, he'⟩, rfl, q _ (I.hok.fresh (Nat.le_succ _))⟩
  rw [List.length_map, List.length_mergeSort]
  exact hL
end
end VSH
namespace VS
open PySem L2 PyProof.Rows
local instance : TabT := ⟨[], false⟩
def sleD (d e : D) : Bool := !PySem.W.dataLt (toPy e) (toPy d)
def tupD : D → Bool
  | .tup (_ :: _) => true
  | _ => false
def plainD : D → Bool
  | .non => false
  | .tup _ => false
  | _ => true
def sortOk (xs : List D) : Bool := xs.all (dpt 60) && (xs.all fun d => xs.all fun e => PySem.W.alike (toPy d) (toPy e)) && (xs.all tupD || xs.all plainD)
def sortedD : List D → Option EV
  | [.lst xs] => if sortOk xs = true then some (.fresh (.lst (xs.mergeSort sleD))) else none
  | _ => none
section
variable {K : PySem.W.Frag} {mg : Str → Option Value} {F H : Hp}
theorem RDs.pairs : ∀ {ds : List D} {vs : List V}, RDs K mg F ds vs → (∀ p ∈ ds.zip vs, RD K mg F p.1 p.2) ∧ ds.length = vs.length
  | [], vs, h => by simp only [RDs] at h; subst h; exact ⟨by simp, rfl⟩
  | d :: ds, vs, h => by
    simp only [RDs] at h
    obtain ⟨v, r, rfl, h1, h2⟩ := h
    obtain ⟨a, b⟩ := RDs.pairs h2
    refine ⟨fun p hp => ?_, by simp [b]⟩
    rw [List.zip_cons_cons, List.mem_cons] at hp
    rcases hp with rfl | hp
    · exact h1
    · exact a p hp
theorem RDs.of_pairs : ∀ {zs : List (D × V)}, (∀ p ∈ zs, RD K mg F p.1 p.2) → RDs K mg F (zs.map (·.1)) (zs.map (·.2))
  | [], _ => by simp only [List.map_nil, RDs]
  | p :: zs, h => by
    simp only [List.map_cons, RDs]
    exact ⟨_, _, rfl, h p List.mem_cons_self, RDs.of_pairs fun q hq => h q (List.mem_cons_of_mem _ hq)⟩
theorem zip_fst {α β : Type} : ∀ {xs : List α} {ys : List β}, xs.length = ys.length → (xs.zip ys).map (·.1) = xs
  | [], [], _ => rfl
  | x :: xs, y :: ys, h => by simp only [List.zip_cons_cons, List.map_cons, zip_fst (xs := xs) (ys := ys) (by simpa using h)]
theorem zip_snd {α β : Type} : ∀ {xs : List α} {ys : List β}, xs.length = ys.length → (xs.zip ys).map (·.2) = ys
  | [], [], _ => rfl
  | x :: xs, y :: ys, h => by simp only [List.zip_cons_cons, List.map_cons, zip_snd (xs := xs) (ys := ys) (by simpa using h)]
theorem toPys_map : ∀ xs : List D, toPys xs = xs.map toPy
  | [] => by simp only [toPys, List.map_nil]
  | x :: xs => by simp only [toPys, List.map_cons, toPys_map xs]
theorem mergeSort_map {α β : Type} (f : α → β) (le : β → β → Bool) (l : List α) : (l.mergeSort fun a b => le (f a) (f b)).map f = (l.map f).mergeSort le :=
  List.map_mergeSort fun a _ b _ => rfl
end
section
variable {X : Cx}
theorem cx_sorted (hu : X.A.units + 65 < cLine) : CallX X (.builtin "sorted") sortedD := by
  refine ⟨_, VSH.cr_sortedG hu, fun F H xs ds res Q hl rx hg k => ?_⟩
  unfold sortedD at hg
  split at hg
  · rename_i zs
    by_cases hc : sortOk zs = true
    · rw [if_pos hc] at hg
      cases hg
      obtain ⟨v, rfl, h⟩ := rx.one
      obtain ⟨a, vs, rfl, h1, h2⟩ := h.lst hl
      unfold sortOk at hc
      simp only [Bool.and_eq_true] at hc
      obtain ⟨⟨c1, c2⟩, c3⟩ := hc
      obtain ⟨hp, hlen⟩ := h2.pairs
      have f1 : (zs.zip vs).map (·.1) = zs := zip_fst hlen
      have f2 : (zs.zip vs).map (·.2) = vs := zip_snd hlen
      have g1 : ((zs.zip vs).map fun p => (toPy p.1, p.2)).map (·.1) = zs.map toPy := by
        rw [List.map_map]
        have : zs.map toPy = ((zs.zip vs).map (·.1)).map toPy := by rw [f1]
        rw [this, List.map_map]
        rfl
      have g2 : ((zs.zip vs).map fun p => (toPy p.1, p.2)).map (·.2) = vs := by
        rw [List.map_map]
        exact f2
      refine ⟨a, (zs.zip vs).map fun p => (toPy p.1, p.2), rfl, by rw [g2]; exact h1, ?_, ?_, ?_, ?_, ?_⟩
      · rw [g1, g2, ← toPys_map]
        exact RDs.dp hl 60 zs vs h2 c1
      · rw [g1]
        intro d hd d' hd'
        obtain ⟨x, hx, rfl⟩ := List.mem_map.mp hd
        obtain ⟨y, hy, rfl⟩ := List.mem_map.mp hd'
        rw [List.all_eq_true] at c2
        have := c2 x hx
        rw [List.all_eq_true] at this
        exact this y hy
      · rw [g1]
        rw [Bool.or_eq_true, List.all_eq_true, List.all_eq_true] at c3
        rcases c3 with c3 | c3
        · left
          intro d hd
          obtain ⟨x, hx, rfl⟩ := List.mem_map.mp hd
          have := c3 x hx
          unfold tupD at this
          split at this
          · rename_i y ys
            exact ⟨toPy y, toPys ys, by simp only [toPy, toPys]⟩
          · cases this
        · right
          intro d hd
          obtain ⟨x, hx, rfl⟩ := List.mem_map.mp hd
          have c4 := c3 x hx
          have c5 : dpt 60 x = true := by rw [List.all_eq_true] at c1; exact c1 x hx
          have h0 : ∀ y : D, dpt 60 y = true → plainD y = true → toPy y ≠ PyData.none ∧ ∀ xs, toPy y ≠ PyData.tuple xs := by
            intro y c5 c4
            cases y <;> first
              | (cases c4; done)
              | (simp [toPy]; done)
              | (exact absurd c5 (by simp [dpt]; done))
          exact h0 x c5 c4
      · intro p hpm
        obtain ⟨x, hx, rfl⟩ := List.mem_map.mp hpm
        have hz : x.1 ∈ zs := by rw [← f1]; exact List.mem_map.mpr ⟨x, hx, rfl⟩
        rw [List.all_eq_true] at c1
        exact (RD.lay 60 x.1 x.2 (hp x hx) (c1 _ hz)).2
      · have key : (((zs.zip vs).map fun p => (toPy p.1, p.2)).mergeSort (PySem.W.dataLe false (·.1))).map (·.2) = ((zs.zip vs).mergeSort fun p q => sleD p.1 q.1).map (·.2) := by
          have e1 : (PySem.W.dataLe false (·.1) : PyData × V → PyData × V → Bool) = fun a b => !PySem.W.dataLt b.1 a.1 := PySem.W.dataLe_eq false _
          rw [e1]
          have e2 := mergeSort_map (fun p : D × V => (toPy p.1, p.2)) (fun a b : PyData × V => !PySem.W.dataLt b.1 a.1) (zs.zip vs)
          rw [← e2, List.map_map]
          rfl
        rw [key]
        have e3 : zs.mergeSort sleD = ((zs.zip vs).mergeSort fun p q => sleD p.1 q.1).map (·.1) := by
          have := mergeSort_map (fun p : D × V => p.1) sleD (zs.zip vs)
          rw [this]
          congr 1
          exact f1.symm
        rw [e3] at k
        exact gq_list hl k (RDs.of_pairs fun p hpm => hp p ((List.mergeSort_perm _ _).mem_iff.mp hpm))
    · rw [if_neg hc] at hg
      cases hg
  · cases hg
def listDS : List D → Option EV
  | [.str s] => if s.length ≤ sizeLine then some (.fresh (.lst (signsD s))) else none
  | _ => none
def listD2 : List D → Option EV
  | [.str s] => if s.length ≤ sizeLine then some (.fresh (.lst (signsD s))) else none
  | xs => listD xs
theorem cx_list2 (hc : X.calm = true) : CallX X (.type "list") listD2 := by
  have h1 : CallX X (.type "list") listDS := by
    refine ⟨_, VSH.cr_listS hc, fun F H xs ds res Q hl rx hg k => ?_⟩
    unfold listDS at hg
    split at hg
    · rename_i s
      obtain ⟨hs, rfl⟩ := if_some hg
      obtain ⟨v, rfl, h⟩ := rx.one
      obtain ⟨rfl, ok⟩ := h.str
      refine ⟨⟨s.toArray⟩, rfl, by simpa using hs, ?_⟩
      refine gq_list hl k ?_
      have : ∀ (l : List Nat), (∀ c ∈ l, c < 1114112) → RDs X.K X.mg F (l.map fun c => D.str [c]) (l.map fun c => V.str ⟨#[c]⟩) := by
        intro l
        induction l with
        | nil => intro _; simp only [List.map_nil, RDs]
        | cons c l ih =>
          intro hl
          simp only [List.map_cons, RDs, RD]
          refine ⟨_, _, rfl, ⟨rfl, ⟨lz (n := 1) rfl rfl, fun x hx => ?_⟩⟩, ih fun x hx => hl x (List.mem_cons_of_mem _ hx)⟩
          rw [List.mem_singleton] at hx
          subst hx
          exact hl x List.mem_cons_self
      exact this s ok.2
    · cases hg
  refine callx_or h1 cx_list fun d r h => ?_
  unfold listD2 at h
  split at h
  · exact .inl h
  · exact .inr h
def iaddD : D → D → Option EV
  | .int i, .int j => some (.val (.int (i + j)))
  | .str s, .str t => if s.length + t.length ≤ sizeLine then some (.val (.str (s ++ t))) else none
  | _, _ => none
theorem ox_iaddD : OpX X (inplaceOp .Add) iaddD := by
  obtain ⟨r, h1, h2⟩ := ox_iadd (X := X)
  refine ⟨r, h1, fun F H x y d e res Q hl rx ry hg k => h2 F H x y d e res Q hl rx ry ?_ k⟩
  cases d <;> cases e <;> exact hg
def isubD : D → D → Option EV
  | .int i, .int j => some (.val (.int (i - j)))
  | _, _ => none
theorem ox_isubD : OpX X (inplaceOp .Sub) isubD := by
  obtain ⟨r, h1, h2⟩ := ox_isub (X := X)
  refine ⟨r, h1, fun F H x y d e res Q hl rx ry hg k => h2 F H x y d e res Q hl rx ry ?_ k⟩
  cases d <;> cases e <;> first | exact hg | (cases hg; done)
end
end VS

set_option Elab.async false
set_option linter.all false
set_option maxRecDepth 100000
set_option maxHeartbeats 4000000
/-! ### sorted, typed; joins -/
namespace VS
open PySem L2 PyProof.Rows
local instance : TabT := ⟨[], false⟩
open PySem.W (dataLt alike keyToks keyToksAll)
/-- < over an encoder is lt of the plain values -/
structure SrtE {α : Type} (n : Nat) (e : α → D) (lt : α → α → Bool) : Prop where
  dp : ∀ a, dpt n (e a) = true
  al : ∀ a b, alike (toPy (e a)) (toPy (e b)) = true
  lt : ∀ a b, dataLt (toPy (e a)) (toPy (e b)) = lt a b
section
variable {α β γ δ : Type} {n : Nat}
def ltB (a b : Bool) : Bool := !a && b
def ltP2 [BEq α] (l1 : α → α → Bool) (l2 : β → β → Bool) (p q : α × β) : Bool := if (p.1 == q.1) = true then l2 p.2 q.2 else l1 p.1 q.1
def ltP3 [BEq α] [BEq β] (l1 : α → α → Bool) (l2 : β → β → Bool) (l3 : γ → γ → Bool) (p q : α × β × γ) : Bool := if (p.1 == q.1) = true then (if (p.2.1 == q.2.1) = true then l3 p.2.2 q.2.2 else l2 p.2.1 q.2.1) else l1 p.1 q.1
def ltL [BEq α] (l : α → α → Bool) : List α → List α → Bool
  | [], [] => false
  | [], _ :: _ => true
  | _ :: _, [] => false
  | a :: as, b :: bs => if (a == b) = true then ltL l as bs else l a b
def sortT (lt : α → α → Bool) (xs : List α) : List α := xs.mergeSort fun a b => !lt b a
theorem srt_I : SrtE n D.int (fun a b => decide (a < b)) := ⟨fun a => dpt_int n a, fun a b => by simp only [toPy, alike], fun a b => by simp only [toPy]; exact PySem.W.dataLt_int a b⟩
theorem srt_S : SrtE n D.str (fun a b => decide (a < b)) := ⟨fun a => dpt_str n a, fun a b => by simp only [toPy, alike], fun a b => by simp only [toPy]; exact (PySem.W.dataLt_str _ _).trans (by simp)⟩
theorem srt_B : SrtE n D.bl ltB := ⟨fun a => dpt_bl n a, fun a b => by simp only [toPy, alike], fun a b => by simp only [toPy]; rw [PySem.W.dataLt_bool]; cases a <;> cases b <;> rfl⟩
theorem eqv_of {e : α → D} [BEq α] (h : EqE n e) (a b : α) : PyData.eqv (toPy (e a)) (toPy (e b)) = (a == b) := (eqv_beq n n _ _ (h.1 a) (h.1 b)).trans (h.2 a b)
theorem lt_irr (d : PyData) : dataLt d d = false := by unfold dataLt; exact lex_irrefl _
theorem lt_nil : lexLt itemOrd (keyToksAll []) (keyToksAll []) = false := lex_irrefl _
theorem srt_P2 [BEq α] [BEq β] {e : α → D} {f : β → D} {l1 : α → α → Bool} {l2 : β → β → Bool} (h1 : SrtE n e l1) (q1 : EqE n e) (h2 : SrtE n f l2) (q2 : EqE n f) : SrtE (n + 1) (eP2 e f) (ltP2 l1 l2) where
  dp := fun a => by simp [eP2, dpt, h1.dp, h2.dp]
  al := fun a b => by simp [eP2, toPy, toPys, alike, PySem.W.alikeAll, h1.al, h2.al]
  lt := fun a b => by
    simp only [eP2, toPy, toPys]
    rw [PySem.W.dataLt_pair (h1.al _ _) (h2.al _ _), eqv_of q1, eqv_of q2, h1.lt, h2.lt]
    unfold ltP2
    by_cases c : (a.1 == b.1) = true
    · rw [if_pos c, if_pos c]
      by_cases c2 : (a.2 == b.2) = true
      · rw [if_pos c2]
        have e1 := eqv_of q2 a.2 b.2
        rw [c2] at e1
        have e2 := (PySem.W.toks_eqv _ _ (h2.al a.2 b.2)).1 e1
        rw [← h2.lt]
        unfold dataLt
        rw [e2]
        exact (lex_irrefl _).symm
      · rw [if_neg c2]
    · rw [if_neg c, if_neg c]
theorem lt_step [BEq α] {e : α → D} {l : α → α → Bool} (h : SrtE n e l) (q : EqE n e) (a b : α) (xs ys : List PyData) : lexLt itemOrd (keyToksAll (toPy (e a) :: xs)) (keyToksAll (toPy (e b) :: ys)) = if (a == b) = true then lexLt itemOrd (keyToksAll xs) (keyToksAll ys) else l a b := by
  rw [PySem.W.dataLt_cons (h.al a b), eqv_of q, h.lt]
theorem lt_last [BEq α] {e : α → D} {l : α → α → Bool} (h : SrtE n e l) (q : EqE n e) (a b : α) : lexLt itemOrd (keyToksAll [toPy (e a)]) (keyToksAll [toPy (e b)]) = l a b := by
  rw [lt_step h q, lt_nil]
  by_cases c : (a == b) = true
  · rw [if_pos c]
    have e1 := eqv_of q a b
    rw [c] at e1
    have e2 := (PySem.W.toks_eqv _ _ (h.al a b)).1 e1
    rw [← h.lt]
    unfold dataLt
    rw [e2]
    exact (lex_irrefl _).symm
  · rw [if_neg c]
theorem srt_P3 [BEq α] [BEq β] [BEq γ] {e : α → D} {f : β → D} {g : γ → D} {l1 : α → α → Bool} {l2 : β → β → Bool} {l3 : γ → γ → Bool} (h1 : SrtE n e l1) (q1 : EqE n e) (h2 : SrtE n f l2) (q2 : EqE n f) (h3 : SrtE n g l3) (q3 : EqE n g) : SrtE (n + 1) (eP3 e f g) (ltP3 l1 l2 l3) where
  dp := fun a => by simp [eP3, dpt, h1.dp, h2.dp, h3.dp]
  al := fun a b => by simp [eP3, toPy, toPys, alike, PySem.W.alikeAll, h1.al, h2.al, h3.al]
  lt := fun a b => by
    simp only [eP3, toPy, toPys]
    rw [PySem.W.dataLt_tuple, lt_step h1 q1, lt_step h2 q2, lt_last h3 q3]
    rfl
theorem al_list {e : α → D} {l : α → α → Bool} (h : SrtE n e l) : ∀ xs ys : List α, PySem.W.alikeAll (toPys (xs.map e)) (toPys (ys.map e)) = true
  | [], ys => by simp only [List.map_nil, toPys, PySem.W.alikeAll]
  | x :: xs, [] => by simp only [List.map_nil, List.map_cons, toPys, PySem.W.alikeAll]
  | x :: xs, y :: ys => by simp only [List.map_cons, toPys, PySem.W.alikeAll, h.al, al_list h xs ys, Bool.and_self]
theorem lt_list [BEq α] {e : α → D} {l : α → α → Bool} (h : SrtE n e l) (q : EqE n e) : ∀ xs ys : List α, lexLt itemOrd (keyToksAll (toPys (xs.map e))) (keyToksAll (toPys (ys.map e))) = ltL l xs ys
  | [], [] => lt_nil
  | [], y :: ys => by
    simp only [List.map_nil, List.map_cons, toPys]
    rfl
  | x :: xs, [] => by
    simp only [List.map_nil, List.map_cons, toPys]
    rfl
  | x :: xs, y :: ys => by
    simp only [List.map_cons, toPys]
    rw [lt_step h q, lt_list h q xs ys]
    rfl
theorem srt_L [BEq α] {e : α → D} {l : α → α → Bool} (h : SrtE n e l) (q : EqE n e) : SrtE (n + 1) (eL e) (ltL l) where
  dp := fun a => all_dpt n e h.dp a
  al := fun a b => by simp only [eL, toPy, alike]; exact al_list h a b
  lt := fun a b => by simp only [eL, toPy]; rw [PySem.W.dataLt_list]; exact lt_list h q a b
theorem srt_T [BEq α] {e : α → D} {l : α → α → Bool} (h : SrtE n e l) (q : EqE n e) : SrtE (n + 1) (eT e) (ltL l) where
  dp := fun a => all_dpt n e h.dp a
  al := fun a b => by simp only [eT, toPy, alike]; exact al_list h a b
  lt := fun a b => by simp only [eT, toPy]; rw [PySem.W.dataLt_tuple]; exact lt_list h q a b
theorem o_sorted {e : α → D} {lt : α → α → Bool} {xs : List α} (h : SrtE 60 e lt) (k : (∀ a, tupD (e a) = true) ∨ ∀ a, plainD (e a) = true) : sortedD [eL e xs] = some (.fresh (eL e (sortT lt xs))) := by
  have c : sortOk (xs.map e) = true := by
    unfold sortOk
    simp only [Bool.and_eq_true, List.all_map, List.all_eq_true, Bool.or_eq_true, Function.comp]
    refine ⟨⟨fun a _ => h.dp a, fun a _ b _ => h.al a b⟩, ?_⟩
    rcases k with k | k
    · exact .inl fun a _ => k a
    · exact .inr fun a _ => k a
  have e2 : (fun a b => sleD (e a) (e b)) = fun a b => !lt b a := by
    funext a b
    unfold sleD
    rw [h.lt]
  simp only [sortedD, eL, if_pos c, sortT]
  rw [← e2, mergeSort_map e sleD xs]
end
section
variable {Γ : VEnv} {s b : MS} {φ ψ : Fl × VEnv → Prop}
theorem po_join (h1 : Post (s Γ) ψ) (h2 : ∀ p, ψ p → ∃ Γ1, p = (.nx, Γ1) ∧ Post (b Γ1) φ) : Post (mSeq s b Γ) φ := by
  obtain ⟨p, h3, h4⟩ := h1
  obtain ⟨Γ1, rfl, h5⟩ := h2 p h4
  exact po_nx h3 h5
def listST (t : List Nat) : Option (List (List Nat)) := if t.length ≤ sizeLine then some (signsT t) else none
theorem o_listS {t : List Nat} {u : List (List Nat)} (h : listST t = some u) : listD2 [.str t] = some (.fresh (eL D.str u)) := by
  obtain ⟨h1, rfl⟩ := if_some h
  simp only [listD2, if_pos h1, signs_e]
end
end VS

set_option Elab.async false
set_option linter.all false
set_option maxRecDepth 100000
set_option maxHeartbeats 4000000
/-! ### plain reasoning over the typed functions -/
namespace VS
open PySem L2 PyProof.Rows
local instance : TabT := ⟨[], false⟩
section
variable {α β γ δ σ S R C : Type}
theorem sz_ok {n : Nat} (h : n ≤ 1000000) : n ≤ sizeLine := by have := sizeLine_big; omega
theorem mapO_eq {f : α → Option β} {g : α → β} : ∀ {xs : List α}, (∀ x ∈ xs, f x = some (g x)) → mapO f xs = some (xs.map g)
  | [], _ => rfl
  | x :: xs, h => by
    have h1 := h x List.mem_cons_self
    have h2 := mapO_eq (xs := xs) fun y hy => h y (List.mem_cons_of_mem _ hy)
    simp only [mapO, h1, h2, Option.bind_some, Option.map_some, List.map_cons]
theorem lenOk_eq {ys : List β} (h : ys.length ≤ 1000000) : lenOk ys = some ys := if_pos (sz_ok h)
theorem lcM_eq {f : α → Option β} {xs : List α} (g : α → β) (h : ∀ x ∈ xs, f x = some (g x)) (hl : xs.length ≤ 1000000) : lcM f xs = some (xs.map g) := by
  unfold lcM
  rw [mapO_eq h, Option.bind_some, lenOk_eq (by simpa using hl)]
theorem lcM_map {f : β → Option γ} {ys : List α} {k : α → β} (g : α → γ) (h : ∀ y ∈ ys, f (k y) = some (g y)) (hl : ys.length ≤ 1000000) : lcM f (ys.map k) = some (ys.map g) := by
  have e : mapO f (ys.map k) = some (ys.map g) := by
    induction ys with
    | nil => rfl
    | cons y ys ih =>
      have h1 := h y List.mem_cons_self
      have h2 := ih (fun z hz => h z (List.mem_cons_of_mem _ hz)) (by simp at hl; omega)
      simp only [List.map_cons, mapO, h1, h2, Option.bind_some, Option.map_some]
  unfold lcM
  rw [e, Option.bind_some, lenOk_eq (by simpa using hl)]
theorem filterMap_opt (p : α → Bool) (g : α → β) : ∀ xs : List α, (xs.map fun x => if p x = true then some (g x) else none).filterMap id = (xs.filter p).map g
  | [] => rfl
  | x :: xs => by
    rw [List.map_cons, List.filterMap_cons, List.filter_cons]
    by_cases h : p x = true
    · simp only [if_pos h, id, filterMap_opt p g xs, List.map_cons]
    · simp only [if_neg h, id, filterMap_opt p g xs]
theorem lcT_eq {f : α → Option (Option β)} {xs : List α} (p : α → Bool) (g : α → β) (h : ∀ x ∈ xs, f x = some (if p x = true then some (g x) else none)) (hl : xs.length ≤ 1000000) : lcT f xs = some ((xs.filter p).map g) := by
  unfold lcT
  rw [mapO_eq h, Option.bind_some, filterMap_opt, lenOk_eq]
  rw [List.length_map]
  exact Nat.le_trans (List.length_filter_le _ _) hl
theorem lcT_map {f : β → Option (Option γ)} {ys : List α} {k : α → β} (p : α → Bool) (g : α → γ) (h : ∀ y ∈ ys, f (k y) = some (if p y = true then some (g y) else none)) (hl : ys.length ≤ 1000000) : lcT f (ys.map k) = some ((ys.filter p).map g) := by
  have e : mapO f (ys.map k) = some (ys.map fun y => if p y = true then some (g y) else none) := by
    clear hl
    induction ys with
    | nil => rfl
    | cons y ys ih =>
      have h1 := h y List.mem_cons_self
      have h2 := ih (fun z hz => h z (List.mem_cons_of_mem _ hz))
      simp only [List.map_cons, mapO, h1, h2, Option.bind_some, Option.map_some]
  unfold lcT
  rw [e, Option.bind_some, filterMap_opt, lenOk_eq]
  rw [List.length_map]
  exact Nat.le_trans (List.length_filter_le _ _) hl
theorem lc2T_eq {t : α → Option Bool} {ys : α → Option (List β)} {f : α → β → Option (Option γ)} {xs : List α} (b : α → Bool) (l : α → List β) (p : α → β → Bool) (g : α → β → γ)
    (ht : ∀ x ∈ xs, t x = some (b x)) (hy : ∀ x ∈ xs, b x = true → ys x = some (l x)) (h : ∀ x ∈ xs, b x = true → ∀ y ∈ l x, f x y = some (if p x y = true then some (g x y) else none))
    (hl : ((xs.filter b).flatMap l).length ≤ 1000000) : lc2T t ys f xs = some ((xs.filter b).flatMap fun x => ((l x).filter (p x)).map (g x)) := by
  have e : mapO (fun x => (t x).bind fun c => if c = true then (ys x).bind fun l => (mapO (f x) l).map fun os => os.filterMap id else some []) xs = some (xs.map fun x => if b x = true then ((l x).filter (p x)).map (g x) else []) := by
    refine mapO_eq fun x hx => ?_
    rw [ht x hx, Option.bind_some]
    by_cases hb : b x = true
    · rw [if_pos hb, if_pos hb, hy x hx hb, Option.bind_some, mapO_eq (h x hx hb), Option.map_some, filterMap_opt]
    · rw [if_neg hb, if_neg hb]
  have e2 : ∀ xs : List α, (xs.map fun x => if b x = true then ((l x).filter (p x)).map (g x) else []).flatten = (xs.filter b).flatMap fun x => ((l x).filter (p x)).map (g x) := by
    intro xs
    induction xs with
    | nil => rfl
    | cons x xs ih =>
      rw [List.map_cons, List.flatten_cons, ih, List.filter_cons]
      by_cases hb : b x = true
      · simp only [if_pos hb, List.flatMap_cons]
      · simp only [if_neg hb, List.nil_append]
  have e3 : ∀ xs : List α, ((xs.flatMap fun x => ((l x).filter (p x)).map (g x))).length ≤ (xs.flatMap l).length := by
    intro xs
    induction xs with
    | nil => simp
    | cons x xs ih =>
      simp only [List.flatMap_cons, List.length_append, List.length_map]
      have := List.length_filter_le (p x) (l x)
      omega
  unfold lc2T
  rw [e, Option.bind_some, e2, lenOk_eq (Nat.le_trans (e3 _) hl)]
theorem mapS_inv {f : σ → α → Option (β × σ)} (I : σ → Prop) (Q : β → Prop) : ∀ {xs : List α} {s : σ}, (∀ s x, x ∈ xs → I s → ∃ y s', f s x = some (y, s') ∧ Q y ∧ I s') → I s → ∃ ys s', mapS f xs s = some (ys, s') ∧ (∀ y ∈ ys, Q y) ∧ ys.length = xs.length ∧ I s'
  | [], s, _, h0 => ⟨[], s, rfl, by simp, rfl, h0⟩
  | x :: xs, s, h, h0 => by
    obtain ⟨y, s1, h1, h2, h3⟩ := h s x List.mem_cons_self h0
    obtain ⟨ys, s2, h4, h5, h6, h7⟩ := mapS_inv I Q (xs := xs) (fun s x hx => h s x (List.mem_cons_of_mem _ hx)) h3
    refine ⟨y :: ys, s2, ?_, ?_, by simp [h6], h7⟩
    · simp only [mapS, h1, h4, Option.bind_some, Option.map_some]
    · intro z hz
      rcases List.mem_cons.mp hz with rfl | hz
      · exact h2
      · exact h5 z hz
theorem lcS_inv {f : σ → α → Option (β × σ)} (I : σ → Prop) (Q : β → Prop) {xs : List α} {s : σ} (h : ∀ s x, x ∈ xs → I s → ∃ y s', f s x = some (y, s') ∧ Q y ∧ I s') (h0 : I s) (hl : xs.length ≤ 1000000) : ∃ ys s', lcS f xs s = some (ys, s') ∧ (∀ y ∈ ys, Q y) ∧ ys.length = xs.length ∧ I s' := by
  obtain ⟨ys, s', h1, h2, h3, h4⟩ := mapS_inv I Q h h0
  refine ⟨ys, s', ?_, h2, h3, h4⟩
  unfold lcS
  rw [h1, Option.bind_some]
  exact if_pos (sz_ok (by rw [h3]; exact hl))
/-! loops -/
theorem forS_inv {f : S → α → Option S} (I : Nat → S → Prop) {xs : List α} (h : ∀ i (hi : i < xs.length) s, I i s → ∃ s', f s xs[i] = some s' ∧ I (i + 1) s') {s : S} (h0 : I 0 s) : ∃ s', forS f xs s = some s' ∧ I xs.length s' := by
  have key : ∀ k i s, xs.length - i = k → i ≤ xs.length → I i s → ∃ s', forS f (xs.drop i) s = some s' ∧ I xs.length s' := by
    intro k
    induction k with
    | zero =>
      intro i s hk hi hs
      have : i = xs.length := by omega
      subst this
      rw [List.drop_length]
      exact ⟨s, rfl, hs⟩
    | succ k ih =>
      intro i s hk hi hs
      have hlt : i < xs.length := by omega
      obtain ⟨s1, h1, h2⟩ := h i hlt s hs
      obtain ⟨s2, h3, h4⟩ := ih (i + 1) s1 (by omega) hlt h2
      refine ⟨s2, ?_, h4⟩
      rw [List.drop_eq_getElem_cons hlt]
      simp only [forS, h1, Option.bind_some, h3]
  simpa using key _ 0 s rfl (Nat.zero_le _) h0
theorem forS_foldl {f : S → α → Option S} (g : S → α → S) : ∀ {xs : List α} {s : S}, (∀ s, ∀ x ∈ xs, f s x = some (g s x)) → forS f xs s = some (xs.foldl g s)
  | [], s, _ => rfl
  | x :: xs, s, h => by
    simp only [forS, h s x List.mem_cons_self, Option.bind_some, List.foldl_cons]
    exact forS_foldl g fun s y hy => h s y (List.mem_cons_of_mem _ hy)
theorem forR_inv {f : S → α → Option (FlT S R)} (I : Nat → S → Prop) {xs : List α} (h : ∀ i (hi : i < xs.length) s, I i s → ∃ s', f s xs[i] = some (.nx s') ∧ I (i + 1) s') {s : S} (h0 : I 0 s) : ∃ s', forR f xs s = some (.nx s') ∧ I xs.length s' := by
  have key : ∀ k i s, xs.length - i = k → i ≤ xs.length → I i s → ∃ s', forR f (xs.drop i) s = some (.nx s') ∧ I xs.length s' := by
    intro k
    induction k with
    | zero =>
      intro i s hk hi hs
      have : i = xs.length := by omega
      subst this
      rw [List.drop_length]
      exact ⟨s, rfl, hs⟩
    | succ k ih =>
      intro i s hk hi hs
      have hlt : i < xs.length := by omega
      obtain ⟨s1, h1, h2⟩ := h i hlt s hs
      obtain ⟨s2, h3, h4⟩ := ih (i + 1) s1 (by omega) hlt h2
      refine ⟨s2, ?_, h4⟩
      rw [List.drop_eq_getElem_cons hlt]
      simp only [forR, h1, Option.bind_some, h3]
  simpa using key _ 0 s rfl (Nat.zero_le _) h0
/-- the first turn that answers; all others leave the state -/
theorem forR_find {f : S → α → Option (FlT S R)} {s : S} (p : α → Bool) (r : α → R) : ∀ {xs : List α}, (∀ x ∈ xs, f s x = some (if p x = true then .ret (r x) else .nx s)) → forR f xs s = some (match xs.find? p with | some x => .ret (r x) | none => .nx s)
  | [], _ => rfl
  | x :: xs, h => by
    have h1 := h x List.mem_cons_self
    by_cases hp : p x = true
    · rw [if_pos hp] at h1
      simp only [forR, h1, Option.bind_some, List.find?_cons, hp]
    · rw [if_neg hp] at h1
      simp only [forR, h1, Option.bind_some, List.find?_cons, hp]
      exact forR_find p r fun y hy => h y (List.mem_cons_of_mem _ hy)
/-- all of them, or an answer that is always the same -/
theorem forR_all {f : S → α → Option (FlT S R)} {s : S} (p : α → Bool) (r : R) {xs : List α} (h : ∀ x ∈ xs, f s x = some (if p x = true then .nx s else .ret r)) : forR f xs s = some (if xs.all p = true then .nx s else .ret r) := by
  rw [forR_find (fun x => !p x) (fun _ => r) (fun x hx => by rw [h x hx]; cases p x <;> rfl)]
  by_cases ha : xs.all p = true
  · rw [if_pos ha]
    have : xs.find? (fun x => !p x) = none := by
      rw [List.find?_eq_none]
      intro x hx
      rw [List.all_eq_true] at ha
      simp [ha x hx]
    rw [this]
  · rw [if_neg ha]
    cases q : xs.find? (fun x => !p x) with
    | none =>
      exfalso
      apply ha
      rw [List.find?_eq_none] at q
      rw [List.all_eq_true]
      intro x hx
      have := q x hx
      simpa using this
    | some x => rfl
theorem whileS_inv {t : S → Option Bool} {f : S → Option S} (I : S → Prop) (m : S → Nat) (h : ∀ s, I s → (t s = some false) ∨ (t s = some true ∧ ∃ s', f s = some s' ∧ I s' ∧ m s' < m s)) : ∀ {n : Nat} {s : S}, m s < n → I s → ∃ s', whileS t f n s = some s' ∧ I s' ∧ t s' = some false
  | 0, s, hn, _ => absurd hn (Nat.not_lt_zero _)
  | n + 1, s, hn, hs => by
    rcases h s hs with h1 | ⟨h1, s1, h2, h3, h4⟩
    · exact ⟨s, by simp [whileS, h1], hs, h1⟩
    · obtain ⟨s', a, b, c⟩ := whileS_inv I m h (n := n) (s := s1) (by omega) h3
      exact ⟨s', by simp [whileS, h1, h2, a], b, c⟩
@[simp] theorem aftR_nx (s : S) (out : R → Option C) (go : S → Option C) : aftR (.nx s) out go = go s := rfl
@[simp] theorem aftR_ret (r : R) (out : R → Option C) (go : S → Option C) : aftR (.ret r : FlT S R) out go = out r := rfl
/-! small operations -/
theorem catT_eq {s t : List α} (h : s.length + t.length ≤ 1000000) : catT s t = some (s ++ t) := if_pos (sz_ok h)
theorem pushT_eq {xs : List α} {x : α} (h : xs.length < 1000000) : pushT xs x = some (xs ++ [x]) := if_pos (by have := sizeLine_big; omega)
theorem extT_eq {s t : List α} (h : s.length + t.length ≤ 1000000) : extT s t = some (s ++ t) := if_pos (sz_ok h)
theorem range1T_eq (n : Nat) (h : n ≤ 1000000) : range1T (n : Int) = some ((List.range n).map fun i => ((i : Nat) : Int)) := by
  unfold range1T
  rw [if_pos (okR_in (by omega) (by omega))]
  simp
theorem range2T_eq {i j : Int} (n : Nat) (hj : (j - i).toNat = n) (h1 : -1000000 ≤ i) (h2 : i ≤ 1000000) (h3 : -1000000 ≤ j) (h4 : j ≤ 1000000) : range2T i j = some ((List.range n).map fun k => i + ((k : Nat) : Int)) := by
  unfold range2T
  rw [if_pos ⟨okR_in h1 h2, okR_in h3 h4⟩, hj]
theorem range3T_eq {i j : Int} (n : Nat) (hj : (i - j).toNat = n) (h1 : -1000000 ≤ i) (h2 : i ≤ 1000000) (h3 : -1000000 ≤ j) (h4 : j ≤ 1000000) : range3T i j = some ((List.range n).map fun k => i + ((k : Nat) : Int) * (-1)) := by
  unfold range3T
  rw [if_pos ⟨okR_in h1 h2, okR_in h3 h4⟩, hj]
theorem mulT_eq {i j : Int} (h : mulOk i j = true) : mulT i j = some (i * j) := if_pos h
theorem mulT_small {i j : Int} (h1 : -1000000 ≤ i) (h2 : i ≤ 1000000) : mulT i j = some (i * j) := if_pos (mulOk_small h1 h2)
theorem modT_eq {i j : Int} (h : 0 < j) : modT i j = some (i % j) := if_pos h
theorem log2_small {j : Int} (h1 : 0 < j) (h2 : j ≤ 1000000) : j.natAbs.log2 < 9000 := by
  have : j.natAbs.log2 < 20 := by
    rw [Nat.log2_lt (by omega)]
    omega
  omega
theorem fdivT_eq {i j : Int} (h1 : 0 < j) (h2 : j ≤ 1000000) : fdivT i j = some (i / j) := if_pos ⟨h1, log2_small h1 h2⟩
theorem maxT_eq {xs : List Int} (h : xs ≠ []) : maxT xs = some (maxI xs) := if_pos h
theorem minT_eq {xs : List Int} (h : xs ≠ []) : minT xs = some (minI xs) := if_pos h
theorem repST_eq {s : List Nat} {j : Int} (h1 : -1000 ≤ j) (h2 : j ≤ 1000) (h3 : s.length ≤ 1000) : repST s j = some (List.replicate j.toNat s).flatten := if_pos ⟨h2, h1, h3⟩
theorem inST_one {c : Nat} {t : List Nat} : inST [c] t = some (decide (c ∈ t)) := rfl
theorem listST_eq {t : List Nat} (h : t.length ≤ 1000000) : listST t = some (signsT t) := if_pos (sz_ok h)
theorem joinT_chars {f : α → Nat} {xs : List α} (h : xs.length ≤ 1000000) : joinT [] (xs.map fun x => [f x]) = some (xs.map f) := by
  have e : (xs.map fun x => [f x]) = (xs.map f).map fun c => [c] := by simp [Function.comp_def]
  unfold joinT
  rw [e, joinL_chars, if_pos]
  have : (((xs.map f).map fun c => [c]).map (·.length)) = xs.map fun _ => 1 := by simp [Function.comp_def]
  rw [this, sum_ones]
  simp
  omega
theorem joinT_signs {s : List Nat} (h : s.length ≤ 1000000) : joinT [] (signsT s) = some s := by
  have := joinT_chars (f := fun c => c) (xs := s) h
  simpa [signsT] using this
@[simp] theorem signsT_len (s : List Nat) : (signsT s).length = s.length := by simp [signsT]
theorem mem_signs {s t : List Nat} : t ∈ signsT s ↔ ∃ c ∈ s, t = [c] := by
  unfold signsT
  rw [List.mem_map]
  constructor
  · rintro ⟨c, h, rfl⟩; exact ⟨c, h, rfl⟩
  · rintro ⟨c, h, rfl⟩; exact ⟨c, h, rfl⟩
theorem chT_nat {s : List Nat} {i : Nat} (h : i < s.length) : chT s (i : Int) = some [s[i]] := by
  unfold chT
  rw [atN, List.getElem?_eq_getElem h]
  rfl
theorem atI_lt {xs : List α} {i : Nat} (h : i < xs.length) : atI xs (i : Int) = some xs[i] := by rw [atN, List.getElem?_eq_getElem h]
theorem atI_in {xs : List α} {i : Int} (h0 : 0 ≤ i) (h : i < xs.length) : ∃ h', atI xs i = some (xs[i.toNat]'h') := by
  have h' : i.toNat < xs.length := by omega
  refine ⟨h', ?_⟩
  rw [atI_nn _ _ h0, List.getElem?_eq_getElem h']
theorem setT_nat {xs : List α} {i : Nat} {x : α} (h : i < xs.length) : setT xs (i : Int) x = some (xs.set i x) := by
  unfold setT ixN
  rw [if_pos (by omega)]
  simp [h]
end
end VS

set_option Elab.async false
set_option linter.all false
set_option maxRecDepth 100000
set_option maxHeartbeats 4000000
/-! ### dict(..) of a list of pairs, of a dict -/
namespace VS
open PySem L2 PyProof.Rows
variable [TabT]
def mergeT (kvs more : List (List Key × V)) : List (List Key × V) := more.foldl (fun acc kv => putK acc kv.1 kv.2) kvs
section
variable {X : Cx}
/-- the pairs behind the addresses -/
theorem pairsT {pins : List (Addr × Obj)} {σ : L2.St} {H : Hp} {s : Shared} (I : Inv X pins σ H s) : ∀ {ps : List Addr} {kvs : List (List Key × V)}, Paired (fun p kv => ∃ b, SqT X.K H p [.ref b, kv.2] ∧ H b = some (.tup (kv.1.map kV))) ps kvs →
    ∃ xs : List (List Key × Addr × Value), KT H kvs xs ∧ xs.length = ps.length ∧ ∀ (j : Nat) (x : List Key × Addr × Value), xs[j]? = some x → ∃ p, ps[j]? = some p ∧ s.heap.IsTuple p #[.ref x.2.1, x.2.2] ∧ IsTupleKey (mixKind X.prog X.w) s.heap x.1 x.2.1
  | _, _, .nil => ⟨[], .nil, rfl, fun j x h => (by simp at h)⟩
  | p :: ps, kv :: kvs, .cons ⟨b, h1, h2⟩ t => by
    obtain ⟨xs, e1, e2, e3⟩ := pairsT I t
    obtain ⟨its, rv, ⟨o, ho, hc, n, hd⟩, _⟩ := I.tuple h1
    obtain ⟨u1, r1, rfl, ru1, rest⟩ : ∃ u1 r1, its = u1 :: r1 ∧ RelV (.ref b) u1 ∧ Vals [kv.2] r1 := by
      cases rv with
      | cons a t => exact ⟨_, _, rfl, a, t⟩
    obtain ⟨u2, rfl, ru2⟩ : ∃ u2, r1 = [u2] ∧ RelV kv.2 u2 := by
      cases rest with
      | cons a t => cases t; exact ⟨_, rfl, a⟩
    cases (show u1 = Value.ref b from ru1)
    refine ⟨(kv.1, b, u2) :: xs, .cons ⟨rfl, h2, ru2⟩ e1, by simp [e2], fun j x hx => ?_⟩
    cases j with
    | zero =>
      simp only [List.getElem?_cons_zero, Option.some.injEq] at hx
      subst hx
      exact ⟨p, rfl, ⟨o, ho, hc, n, hd⟩, key_of I.hok h2⟩
    | succ j =>
      simp only [List.getElem?_cons_succ] at hx ⊢
      exact e3 j x hx
theorem KT.merge {H : Hp} : ∀ {more : List (List Key × V)} {rs : List (List Key × Addr × Value)} {kvs : List (List Key × V)} {xs : List (List Key × Addr × Value)}, KT H more rs → KT H kvs xs → KT H (mergeT kvs more) (storedAllH xs rs)
  | _, _, kvs, xs, .nil, q => q
  | m :: more, r :: rs, kvs, xs, .cons ⟨h1, h2, h3⟩ t, q => by
    show KT H (mergeT (putK kvs m.1 m.2) more) (storedAllH (storedH xs r.1 r.2.1 r.2.2) rs)
    rw [← h1]
    exact KT.merge t (KT.put q m.1 h2 h3)
theorem length_mergeT : ∀ (more kvs : List (List Key × V)), (mergeT kvs more).length ≤ kvs.length + more.length
  | [], kvs => Nat.le_refl _
  | m :: more, kvs => by
    show (mergeT (putK kvs m.1 m.2) more).length ≤ _
    have h1 := length_mergeT more (putK kvs m.1 m.2)
    have h2 := length_putK kvs m.1 m.2
    simp only [List.length_cons]
    omega
theorem call_dictPT (hcalm : X.calm = true) (hu : X.A.units + 65 < cLine) : CallR X (.type "dict") (fun xs H Q => ∃ (a : Addr) (ps : List Addr) (kvs : List (List Key × V)), xs = [.ref a] ∧ SqL X.K H a (ps.map V.ref) ∧
    Paired (fun p kv => ∃ b, SqT X.K H p [.ref b, kv.2] ∧ H b = some (.tup (kv.1.map kV))) ps kvs ∧ ∀ p, H p = none → Q (.ref p) (upd H p (.dT (mergeT [] kvs)))) := by
  intro pins s σ H xs us Q I r h
  obtain ⟨a, ps, kvs, rfl, hq, hp, q⟩ := h
  rw [Vals.ref1 r]
  obtain ⟨its, rv, pl, hz⟩ := I.list hq
  have ei := refs_at rv
  subst ei
  rw [List.length_map] at hz
  obtain ⟨rs, kt, hl, hrs⟩ := pairsT I hp
  obtain ⟨o, n, ho, hc, hd, hdat⟩ := pl
  have hall : ∀ x ∈ rs, IsTupleKey (mixKind X.prog X.w) s.heap x.1 x.2.1 := fun x hx => by
    obtain ⟨j, hj⟩ := List.mem_iff_getElem?.mp hx
    obtain ⟨p, _, _, h3⟩ := hrs j x hj
    exact h3
  have hm : (s.heap.objs.size == sysModules) = false := beq_eq_false_iff_ne.mpr (Nat.ne_of_gt I.big)
  refine call_dict_pairsH (knd := tupleKind (mixKind X.prog X.w)) (ps := rs) (PairArg.list a (ps.map Value.ref).toArray (fun j => ps.getD j 0) (rs.map fun x => (Value.ref x.2.1, x.2.2))) (I.ok.hd hcalm) (show X.A.units + 1 + 1 < cLine by omega) ⟨⟨o, n, ho, hc, hd, hdat⟩, by simp [hl], fun j k v e => ?_⟩
    ⟨by simp, fun i key v e => ?_⟩ (fun h' k x hx => ?_) (by rw [List.length_map, hl]; exact hz) fun h' tk hdd hk => ?_
  · rw [List.getElem?_map] at e
    cases q2 : rs[j]? with
    | none => rw [q2] at e; cases e
    | some x =>
      rw [q2] at e
      cases e
      obtain ⟨p, h1, h2, _⟩ := hrs j x q2
      refine ⟨by simp [List.getD, h1], .inl ?_⟩
      show s.heap.IsTuple (ps.getD j 0) _
      rw [List.getD_eq_getElem?_getD, h1]
      exact h2
  · have e' : (rs.map fun x => (Value.ref x.2.1, x.2.2))[i]? = some (key, v) := e
    rw [List.getElem?_map] at e'
    cases q2 : rs[i]? with
    | none => rw [q2] at e'; cases e'
    | some x =>
      rw [q2] at e'
      cases e'
      exact ⟨x.1, x.2.1, rfl, rfl⟩
  · obtain ⟨o', items, n', ho', r'⟩ := hall x hx
    exact ⟨o', items, n', k _ _ (Nat.ne_of_lt (Heap.lt_size ho')) (by simp) ho', r'⟩
  · have hn : H s.heap.objs.size = none := I.hok.fresh (Nat.le_refl _)
    obtain ⟨o2, es, ep, w1, w2, w3, w4, _, w6⟩ := hdd
    have kt2 : KT (upd H s.heap.objs.size (.dT (mergeT [] kvs))) (mergeT [] kvs) (storedAllH [] rs) := (KT.merge kt .nil).keeps fun b ys e => by
      rw [upd_ne (fun z => by rw [z, hn] at e; cases e)]
      exact e
    refine ⟨.ref s.heap.objs.size, upd H s.heap.objs.size (.dT (mergeT [] kvs)), I.laid (t' := tk) (fun b o e => hk b o (by simp) e) (Nat.le_refl _) (show ObjOk X.prog X.w _ _ _ (.dT (mergeT [] kvs)) from ⟨?_, hm, storedAllH [] rs, kt2, o2, es, ep, w1, w2, w3, w4, w6⟩), rfl, q _ hn⟩
    refine Nat.le_trans (length_mergeT kvs []) ?_
    have := Paired.length kt
    rw [List.length_nil, Nat.zero_add, this, hl]
    exact hz
end
/-! the mirror -/
def pairD : D → Option (D × D)
  | .tup [k, v] => some (k, v)
  | _ => none
def pairsD : List D → Option (List (D × D))
  | [] => some []
  | d :: ds => (pairD d).bind fun p => (pairsD ds).map fun ps => p :: ps
def buildD (kvs : List (D × D)) : List (D × D) := kvs.foldl (fun acc p => putD acc p.1 p.2) []
def dictD : List D → Option EV
  | [.lst ds] => (pairsD ds).bind fun ps => if (ps.all fun p => (kdOf p.1).isSome) = true then some (.fresh (.dict (buildD ps))) else if (ps.all fun p => (ktOf p.1).isSome) = true then some (.fresh (.dicT (buildD ps))) else none
  | [.dict kvs] => some (.fresh (.dict kvs))
  | _ => none
section
variable {K : PySem.W.Frag} {mg : Str → Option Value} {F H : Hp}
theorem pairs_rd : ∀ {ds : List D} {ps : List (D × D)} {vs : List V}, RDs K mg F ds vs → pairsD ds = some ps → ∃ as : List Addr, vs = as.map V.ref ∧ Paired (fun a p => ∃ x y, F a = some (.tup [x, y]) ∧ RD K mg F p.1 x ∧ RD K mg F p.2 y) as ps
  | [], ps, vs, h, e => by
    simp only [RDs] at h
    cases e
    subst h
    exact ⟨[], rfl, .nil⟩
  | d :: ds, ps, vs, h, e => by
    simp only [RDs] at h
    obtain ⟨v, r, rfl, h1, h2⟩ := h
    unfold pairsD at e
    obtain ⟨p, e1, e⟩ := obind e
    obtain ⟨ps', e2, e3⟩ := omap e
    cases e3
    obtain ⟨as, rfl, hp⟩ := pairs_rd h2 e2
    unfold pairD at e1
    split at e1
    · cases e1
      simp only [RD, RDs] at h1
      obtain ⟨a, vs, rfl, g1, x, r1, rfl, g2, y, r2, rfl, g3, rfl⟩ := h1
      exact ⟨a :: as, rfl, .cons ⟨x, y, g1, g2, g3⟩ hp⟩
    · cases e1
theorem keysK : ∀ {as : List Addr} {ps : List (D × D)}, Paired (fun a p => ∃ x y, F a = some (.tup [x, y]) ∧ RD K mg F p.1 x ∧ RD K mg F p.2 y) as ps → (ps.all fun p => (kdOf p.1).isSome) = true →
    ∃ kvs : List (Key × V), Paired (fun p kv => F p = some (.tup [kV kv.1, kv.2])) as kvs ∧ ∀ acc acc', RDk K mg F acc acc' → RDk K mg F (ps.foldl (fun acc p => putD acc p.1 p.2) acc) (mergeK acc' kvs)
  | _, _, .nil, _ => ⟨[], .nil, fun acc acc' h => h⟩
  | a :: as, p :: ps, .cons ⟨x, y, g1, g2, g3⟩ t, hc => by
    rw [List.all_cons, Bool.and_eq_true] at hc
    obtain ⟨kvs, e1, e2⟩ := keysK t hc.2
    obtain ⟨c, hk⟩ := Option.isSome_iff_exists.mp hc.1
    have ek := kdOf_eq hk
    rw [ek] at g2
    have ex := rd_kV c g2
    refine ⟨(c, y) :: kvs, .cons (by rw [← ex]; exact g1) e1, fun acc acc' h => ?_⟩
    show RDk K mg F (ps.foldl _ (putD acc p.1 p.2)) (mergeK (putK acc' c y) kvs)
    rw [ek]
    exact e2 _ _ (h.put c (rd_keyOk c g2) g3)
theorem keysT : ∀ {as : List Addr} {ps : List (D × D)}, Paired (fun a p => ∃ x y, F a = some (.tup [x, y]) ∧ RD K mg F p.1 x ∧ RD K mg F p.2 y) as ps → (ps.all fun p => (ktOf p.1).isSome) = true →
    ∃ kvs : List (List Key × V), Paired (fun p kv => ∃ b, F p = some (.tup [.ref b, kv.2]) ∧ F b = some (.tup (kv.1.map kV))) as kvs ∧ ∀ acc acc', RDt K mg F acc acc' → RDt K mg F (ps.foldl (fun acc p => putD acc p.1 p.2) acc) (mergeT acc' kvs)
  | _, _, .nil, _ => ⟨[], .nil, fun acc acc' h => h⟩
  | a :: as, p :: ps, .cons ⟨x, y, g1, g2, g3⟩ t, hc => by
    rw [List.all_cons, Bool.and_eq_true] at hc
    obtain ⟨kvs, e1, e2⟩ := keysT t hc.2
    obtain ⟨c, hk⟩ := Option.isSome_iff_exists.mp hc.1
    have ek := ktOf_eq hk
    rw [ek] at g2
    obtain ⟨b, rfl, hb, ok⟩ := rd_tV c g2
    refine ⟨(c, y) :: kvs, .cons ⟨b, g1, hb⟩ e1, fun acc acc' h => ?_⟩
    show RDt K mg F (ps.foldl _ (putD acc p.1 p.2)) (mergeT (putK acc' c y) kvs)
    rw [ek]
    exact e2 _ _ (h.put c ok g3)
theorem gq_dict {Q : VK} {kvs : List (Key × V)} {ds : List (D × D)} (h : Same F H) (k : GQ K mg F H (.fresh (.dict ds)) Q) (rd : RDk K mg F ds kvs) : ∀ p, H p = none → Q (.ref p) (upd H p (.dK kvs)) :=
  fun p hn => k _ _ F (grow_own h hn) ⟨p, rfl, hn, same_none h hn, kvs, upd_same, rd⟩
theorem gq_dicT {Q : VK} {kvs : List (List Key × V)} {ds : List (D × D)} (h : Same F H) (k : GQ K mg F H (.fresh (.dicT ds)) Q) (rd : RDt K mg F ds kvs) : ∀ p, H p = none → Q (.ref p) (upd H p (.dT kvs)) :=
  fun p hn => k _ _ F (grow_own h hn) ⟨p, rfl, hn, same_none h hn, kvs, upd_same, rd⟩
end
theorem cx_dict {X : Cx} (hc : X.calm = true) (hu : X.A.units + 65 < cLine) : CallX X (.type "dict") dictD := by
  refine ⟨_, (call_dictP hc).or ((call_dictPT hc hu).or call_dictD), fun F H xs ds res Q hl rx hg k => ?_⟩
  unfold dictD at hg
  split at hg
  · rename_i zs
    obtain ⟨ps, e1, e⟩ := obind hg
    obtain ⟨v, rfl, h⟩ := rx.one
    obtain ⟨a, vs, rfl, h1, h2⟩ := h.lst hl
    obtain ⟨as, rfl, hp⟩ := pairs_rd h2 e1
    split at e
    · rename_i hk
      cases e
      obtain ⟨kvs, g1, g2⟩ := keysK hp hk
      exact .inl ⟨a, as, kvs, rfl, h1, Paired.mapP g1 fun _ _ z => sqT_mono hl z, gq_dict hl k (g2 [] [] (by simp only [RDk]))⟩
    · split at e
      · rename_i hk
        cases e
        obtain ⟨kvs, g1, g2⟩ := keysT hp hk
        exact .inr (.inl ⟨a, as, kvs, rfl, h1, Paired.mapP g1 fun _ _ ⟨b, z1, z2⟩ => ⟨b, sqT_mono hl z1, hl _ _ z2⟩, gq_dicT hl k (g2 [] [] (by simp only [RDt]))⟩)
      · cases e
  · cases hg
    obtain ⟨v, rfl, h⟩ := rx.one
    obtain ⟨a, kvs, rfl, h1, h2⟩ := h.dict hl
    exact .inr (.inr ⟨a, kvs, rfl, .inl h1, gq_dict hl k h2⟩)
  · cases hg
end VS

set_option Elab.async false
set_option linter.all false
set_option maxRecDepth 100000
set_option maxHeartbeats 4000000
/-! ### sets of elements whose search goes by the table: any kind that can hash, be told alike and shows nothing -/
namespace VSet
open PySem PySem.Spec PyProof.Rows L2

/-- a kind of elements that are not looked for one by one -/
structure EK (P : Program) (w : World) (κ : Type) [DecidableEq κ] where
  is : Heap → κ → Value → Prop
  hash : κ → Int
  noscan : ∀ {h k v}, is h k v → v.scannable = false
  inj : ∀ {h x y v}, is h x v → is h y v → x = y
  keep : ∀ {h h' : Heap} {k v}, is h k v → (∀ b o, h.get? b = some o → h'.get? b = some o) → is h' k v
  same : ∀ {h h' : Heap} {k v a} {o : Obj} {es ep t}, is h k v → h.get? a = some o → o.data = .set es ep t → Heap.SameBut a h h' → is h' k v
  hashes : ∀ {A : Around} {E : Value → Shared → Prop} {s : Shared} {k v} {Q : Int → Shared → Prop}, A.units < cLine → is s.heap k v → (∀ t, s.toks ≤ t → Q (hash k) { s with toks := t }) → wpAny (model P w) A (pyHash v) Q E s
  eqs : ∀ {A : Around} {E : Value → Shared → Prop} {s : Shared} {x y u v} {Q : Bool → Shared → Prop}, A.units < cLine → is s.heap x u → is s.heap y v → Q (decide (x = y)) s → wpAny (model P w) A (eqBool u v) Q E s
  self : ∀ {A : Around} {E : Value → Shared → Prop} {s : Shared} {k v} {Q : Bool → Shared → Prop}, is s.heap k v → Q true s → wpAny (model P w) A (isSame v v) Q E s
  unseen : ∀ {A : Around} {E : Value → Shared → Prop} {s : Shared} {k v} {ys : List Value} {Q : Bool → Shared → Prop}, is s.heap k v → (∀ y ∈ ys, ∃ k', is s.heap k' y) → Q false s → wpAny (model P w) A (searchCouldBeSeen v ys) Q E s
  byV : ∀ {A : Around} {E : Value → Shared → Prop} {s : Shared} {k v} {Q : Bool → Shared → Prop}, is s.heap k v → (∀ b, Q b s) → wpAny (model P w) A (hashByValue 8 v) Q E s

section
variable {P : Program} {w : World} {κ : Type} [DecidableEq κ] (G : EK P w κ)
def hs (L : List (κ × Value)) : List Int := L.map fun p => G.hash p.1
def rows (L : List (κ × Value)) : List (Int × Value) := L.map fun p => (G.hash p.1, p.2)
/-- the set at a has the elements of L, in the table's order -/
structure SetE (h : Heap) (a : Addr) (L : List (κ × Value)) (es : Array (Int × Value)) (ep : Nat) (t : SetTable) : Prop where
  ob : ∃ o, h.get? a = some o ∧ o.ExactSet ∧ o.data = .set es ep t
  rw_ : es.toList = rows G L
  tab : TabOk t (hs G L)
  nd : (L.map (·.1)).Nodup
  el : ∀ p ∈ L, G.is h p.1 p.2
  led : w.params.followText "set-order" = true ∨ t.led = true
  room : L.length * 5 < t.mask * 3
  few : L.length < 64
variable {G} {h : Heap} {a : Addr} {L : List (κ × Value)} {es : Array (Int × Value)} {ep : Nat} {t : SetTable}
theorem rows_size (e : es.toList = rows G L) : es.size = L.length := by
  rw [← Array.length_toList, e, rows, List.length_map]
theorem hs_len : (hs G L).length = L.length := by rw [hs, List.length_map]
theorem fits_of {n : Nat} (hd : t.dummies = #[]) (h1 : t.place.size = n) (h2 : n ≤ t.mask) : t.fits n = true := by
  unfold SetTable.fits SetTable.fill
  rw [hd, Bool.and_eq_true, beq_iff_eq, decide_eq_true_eq]
  show t.place.size = n ∧ t.place.size + 0 ≤ t.mask
  omega
theorem SetE.size (R : SetE G h a L es ep t) : es.size = L.length := rows_size R.rw_
theorem SetE.psize (R : SetE G h a L es ep t) : t.place.size = L.length := by rw [R.tab.sz, hs_len]
theorem SetE.fits (R : SetE G h a L es ep t) : t.fits es.size = true := by
  have h1 := R.psize
  have h2 := R.size
  have h3 := R.room
  exact fits_of R.tab.dm (by omega) (by omega)
theorem SetE.at_ (R : SetE G h a L es ep t) {i : Nat} {p : κ × Value} (e : L[i]? = some p) : es[i]? = some (G.hash p.1, p.2) := by
  rw [← Array.getElem?_toList, R.rw_, rows, List.getElem?_map, e]
  rfl
theorem SetE.way_on (R : SetE G h a L es ep t) : ¬ t.gaveWay = true := by
  unfold SetTable.gaveWay
  rw [mask_odd R.tab.mok]
  decide
theorem SetE.keep {h' : Heap} (R : SetE G h a L es ep t) (k : ∀ b o, h.get? b = some o → h'.get? b = some o) : SetE G h' a L es ep t :=
  ⟨let ⟨o, e, r⟩ := R.ob; ⟨o, k _ _ e, r⟩, R.rw_, R.tab, R.nd, fun p hp => G.keep (R.el p hp) k, R.led, R.room, R.few⟩
/-- the set itself is kept, its elements, too -/
theorem SetE.keep2 {h' : Heap} (R : SetE G h a L es ep t) (k : ∀ o, h.get? a = some o → h'.get? a = some o) (kt : ∀ p ∈ L, G.is h' p.1 p.2) : SetE G h' a L es ep t :=
  ⟨let ⟨o, e, r⟩ := R.ob; ⟨o, k _ e, r⟩, R.rw_, R.tab, R.nd, kt, R.led, R.room, R.few⟩
theorem nth_dummy (m : Nat) : ∀ (n : Nat) (p : SetTable.Probe), p.dummy = none → (nth m p n).dummy = none
  | 0, _, e => e
  | n + 1, p, e => nth_dummy m n (adv m p) (by unfold adv; split <;> exact e)
/-- where the search for a hash begins -/
def st0 (t : SetTable) (x : Int) : SetTable.Probe := runAt t.mask (SetTable.bits x % (t.mask + 1)) (SetTable.bits x)
theorem way_st (t : SetTable) (x : Int) (c q : Nat) : (nth t.mask (nth t.mask (st0 t x) c) q).j = way t.mask x (c + q) := congrArg SetTable.Probe.j (nth_add t.mask c (st0 t x) q).symm
end

section
variable {P : Program} {w : World} {A : Around} {E : Value → Shared → Prop} {s : Shared} {κ : Type} [DecidableEq κ] {G : EK P w κ} {a : Addr} {L : List (κ × Value)} {es : Array (Int × Value)} {ep : Nat} {t : SetTable}
/-- the search for k from the c-th step on; no row of k lies ahead of c -/
theorem seek (R : SetE G s.heap a L es ep t) {x : Value} {k : κ} (hx : G.is s.heap k x) (hu : A.units < cLine) {Z : Nat} (hZ : Z < 10 * SetTable.turns t.mask) (hfree : way t.mask (G.hash k) Z ∉ t.place.toList)
    (hbusy : ∀ c, c < Z → way t.mask (G.hash k) c ∈ t.place.toList) {Q : SetFound → Shared → Prop} (yes : k ∈ L.map (·.1) → Q (.there none) s) (no : k ∉ L.map (·.1) → Q (.free (way t.mask (G.hash k) Z) false) s) :
    ∀ (f c : Nat) (at_ : Option SetTable.Probe), at_.getD (t.probeStart (G.hash k)) = nth t.mask (st0 t (G.hash k)) c → c ≤ Z → Z - c < f →
      (∀ (i : Nat) p, L[i]? = some p → p.1 = k → ∃ c', c ≤ c' ∧ c' < Z ∧ t.place.toList[i]? = some (way t.mask (G.hash k) c')) →
      wpAny (model P w) A (setSearchFrom a x (G.hash k) true f at_) Q E s := by
  obtain ⟨o, ho, hex, hd⟩ := R.ob
  intro f
  induction f with
  | zero => exact fun c _ _ _ hf _ => absurd hf (Nat.not_lt_zero _)
  | succ f ih =>
    intro c at_ hat hc hf hrow
    rw [setSearchFrom_succ]
    refine wpAny_bind (wpAny_setState_of ho hd R.fits ?_)
    dsimp only
    refine wp_if_neg R.way_on ?_
    try refine wpAny_bind (wpAny_pure ?_)
    have hh : ∀ (i : Nat) (p : κ × Value), L[i]? = some p → (fun i => (es[i]?.map (·.1)).getD 0) i = G.hash p.1 := fun i p e => by
      show (es[i]?.map (·.1)).getD 0 = _
      rw [R.at_ e]
      rfl
    have wz : ∀ q, (nth t.mask (nth t.mask (st0 t (G.hash k)) c) q).j = way t.mask (G.hash k) (c + q) := way_st t _ c
    have nx : ∀ q, nth t.mask (nth t.mask (st0 t (G.hash k)) c) q = nth t.mask (st0 t (G.hash k)) (c + q) := fun q => (nth_add t.mask c _ q).symm
    -- k stands at no step that was passed
    have passed : ∀ (n i0 : Nat) (p0 : κ × Value), L[i0]? = some p0 → p0.1 = k → (∀ q' i' : Nat, q' < n → t.place.toList[i']? = some (nth t.mask (nth t.mask (st0 t (G.hash k)) c) q').j → (fun i => (es[i]?.map (·.1)).getD 0) i' ≠ G.hash k) →
        ∃ c', c + n ≤ c' ∧ c' < Z ∧ t.place.toList[i0]? = some (way t.mask (G.hash k) c') := fun n i0 p0 e0 k0 hno => by
      obtain ⟨c', b1, b2, b3⟩ := hrow i0 p0 e0 k0
      refine ⟨c', ?_, b2, b3⟩
      rcases Nat.lt_or_ge c' (c + n) with z | z
      · refine absurd ?_ (hno (c' - c) i0 (by omega) (by rw [wz, show c + (c' - c) = c' by omega]; exact b3))
        exact (hh i0 p0 e0).trans (congrArg G.hash k0)
      · exact z
    rcases go_spec t R.tab.ris R.tab.dm (fun i => (es[i]?.map (·.1)).getD 0) (G.hash k) (10 * SetTable.turns t.mask) (Z - c) (nth t.mask (st0 t (G.hash k)) c) (nth_dummy _ c _ rfl) (by omega)
      (fun q hq => by rw [wz]; exact hbusy _ (by omega)) (by rw [wz, show c + (Z - c) = Z by omega]; exact hfree) with ⟨q, i, hq, hi, hhi, hno, hpr⟩ | ⟨hno, hpr⟩
    · have hpr2 : t.probe (fun i => (es[i]?.map (·.1)).getD 0) (G.hash k) (at_.getD (t.probeStart (G.hash k))) = some (.candidate (way t.mask (G.hash k) (c + q)) i (nth t.mask (st0 t (G.hash k)) (c + (q + 1)))) := by
        rw [hat, ← wz, ← nx]
        exact hpr
      rw [hpr2]
      dsimp only
      rw [wz] at hi
      have hil : i < L.length := by
        have h1 := (List.getElem?_eq_some_iff.mp hi).1
        have h2 := R.psize
        rw [Array.length_toList] at h1
        omega
      obtain ⟨p, hp⟩ : ∃ p, L[i]? = some p := ⟨_, List.getElem?_eq_getElem hil⟩
      have hm : p ∈ L := List.mem_of_getElem? hp
      have hpe := R.el p hm
      have hlive : t.slot (way t.mask (G.hash k) (c + q)) = .live i := slot_live R.tab.ris hi
      have rest : wpAny (model P w) A (searchRest a x (G.hash k) true f es t (way t.mask (G.hash k) (c + q)) i (nth t.mask (st0 t (G.hash k)) (c + (q + 1)))) Q E s := by
        unfold searchRest
        rw [R.at_ hp]
        dsimp only
        refine wpAny_bind (wpAny_holding (G.eqs hu hpe hx ?_))
        refine wpAny_bind (wpAny_setState_of ho hd R.fits ?_)
        dsimp only
        by_cases ek : p.1 = k
        · exact wp_if_pos (by simp [ek]) (wpAny_pure (yes (List.mem_map.mpr ⟨p, hm, ek⟩)))
        · refine wp_if_neg (by simp [ek]) ?_
          try refine wpAny_bind (wpAny_pure ?_)
          rw [sameMem]
          dsimp only
          simp only [if_true, hlive, R.at_ hp]
          refine wpAny_bind (G.self hpe (wpAny_bind (wpAny_pure ?_)))
          simp only [if_true]
          refine wp_if_neg (by simp [ek]) ?_
          refine ih (c + (q + 1)) _ rfl (by omega) (by omega) fun i0 p0 e0 k0 => ?_
          obtain ⟨c', b1, b2, b3⟩ := passed q i0 p0 e0 k0 fun q' i' hq' => hno q' i' hq'
          refine ⟨c', ?_, b2, b3⟩
          rcases Nat.lt_or_ge (c + q) c' with y | y
          · omega
          · obtain rfl : c' = c + q := Nat.le_antisymm y b1
            have s1 := slot_live R.tab.ris b3
            rw [hlive] at s1
            injection s1 with s1
            rw [← s1, hp] at e0
            exact absurd ((congrArg Prod.fst (Option.some.inj e0)).trans k0) ek
      by_cases hl : t.led = true
      · refine wp_if_neg (by simp [hl]) ?_
        try refine wpAny_bind (wpAny_pure ?_)
        exact rest
      · refine wp_if_pos (by simp [hl]) ?_
        refine wpAny_bind (G.unseen hx (fun y hy => ?_) ?_)
        · obtain ⟨e, he, rfl⟩ := List.mem_map.mp hy
          have he1 : e ∈ es ∧ e.1 = G.hash k := by simpa using he
          have he2 : e ∈ es.toList := by simpa using he1.1
          rw [R.rw_, rows] at he2
          obtain ⟨p2, hp2, rfl⟩ := List.mem_map.mp he2
          exact ⟨p2.1, R.el p2 hp2⟩
        · refine wp_if_neg (by decide) ?_
          try refine wpAny_bind (wpAny_pure ?_)
          exact rest
    · have hpr2 : t.probe (fun i => (es[i]?.map (·.1)).getD 0) (G.hash k) (at_.getD (t.probeStart (G.hash k))) = some (.empty (way t.mask (G.hash k) Z) none) := by
        have e2 : way t.mask (G.hash k) Z = (nth t.mask (nth t.mask (st0 t (G.hash k)) c) (Z - c)).j := by rw [wz, show c + (Z - c) = Z by omega]
        rw [hat, e2]
        exact hpr
      rw [hpr2]
      dsimp only
      refine wpAny_pure (no fun hm => ?_)
      obtain ⟨p0, h0, k0⟩ := List.mem_map.mp hm
      obtain ⟨i0, e0⟩ := List.mem_iff_getElem?.mp h0
      obtain ⟨c', b1, b2, b3⟩ := hrow i0 p0 e0 k0
      exact hno (c' - c) i0 (by omega) (by rw [wz, show c + (c' - c) = c' by omega]; exact b3) ((hh i0 p0 e0).trans (congrArg G.hash k0))
/-- the search as adding asks for it -/
theorem sought (R : SetE G s.heap a L es ep t) {x : Value} {k : κ} (hx : G.is s.heap k x) (hu : A.units < cLine) {Q : SetFound → Shared → Prop} (yes : k ∈ L.map (·.1) → Q (.there none) s)
    (no : ∀ Z, k ∉ L.map (·.1) → way t.mask (G.hash k) Z ∉ t.place.toList → (∀ c, c < Z → way t.mask (G.hash k) c ∈ t.place.toList) → Q (.free (way t.mask (G.hash k) Z) false) s) :
    wpAny (model P w) A (setSearch a x (G.hash k) true) Q E s := by
  have hroom := R.room
  have hl := hs_len (G := G) (L := L)
  obtain ⟨Z, hZ, hfree, hbusy⟩ := R.tab.first (by omega) (G.hash k)
  have : 10 * SetTable.turns t.mask ≤ 1420 := by
    unfold SetTable.turns
    rcases R.tab.mok with e | e | e <;> omega
  unfold setSearch
  refine seek R hx hu hZ hfree hbusy yes (fun n => no Z n hfree hbusy) 100000 0 none rfl (Nat.zero_le _) (by omega) fun i p hp hk => ?_
  have hi : (hs G L)[i]? = some (G.hash k) := by rw [hs, List.getElem?_map, hp, ← hk]; rfl
  have hil : i < t.place.toList.length := by
    have h1 := (List.getElem?_eq_some_iff.mp hp).1
    have h2 := R.psize
    rw [Array.length_toList]
    omega
  have hj := List.getElem?_eq_getElem hil
  obtain ⟨c, hc, e⟩ := R.tab.before hfree hi hj
  exact ⟨c, Nat.zero_le _, hc, by rw [hj, e]⟩
end

section
variable {P : Program} {w : World} {A : Around} {E : Value → Shared → Prop} {s : Shared} {κ : Type} [DecidableEq κ] {G : EK P w κ} {a : Addr} {L : List (κ × Value)} {es : Array (Int × Value)} {ep : Nat} {t : SetTable}
/-- rows in another order -/
theorem reorder (L : List (κ × Value)) (es : Array (Int × Value)) (order : Array Nat) (hr : es.toList = rows G L) (hp : order.toList.Perm (List.range L.length)) :
    ∃ L2, (order.filterMap (es[·]?)).toList = rows G L2 ∧ L2.Perm L ∧ hs G L2 = order.toList.map fun i => (es.map (·.1)).getD i 0 := by
  have hsz := rows_size hr
  have ent : ∀ (i : Nat) (p : κ × Value), L[i]? = some p → es[i]? = some (G.hash p.1, p.2) := fun i p e => by
    rw [← Array.getElem?_toList, hr, rows, List.getElem?_map, e]
    rfl
  have all : ∀ l : List Nat, (∀ i ∈ l, i < L.length) → l.filterMap (fun i => es[i]?) = rows G (l.filterMap fun i => L[i]?) ∧ hs G (l.filterMap fun i => L[i]?) = l.map fun i => (es.map (·.1)).getD i 0 := by
    intro l
    induction l with
    | nil => exact fun _ => ⟨rfl, rfl⟩
    | cons i l ih =>
      intro hl
      obtain ⟨e1, e2⟩ := ih fun j hj => hl j (List.mem_cons_of_mem _ hj)
      have hil : i < L.length := hl i List.mem_cons_self
      have hi : L[i]? = some L[i] := List.getElem?_eq_getElem hil
      have he := ent i _ hi
      have hz : (es.map (·.1)).getD i 0 = G.hash L[i].1 := by
        have : (es.map (·.1))[i]? = some (G.hash L[i].1) := by rw [Array.getElem?_map, he]; rfl
        rw [Array.getD_eq_getD_getElem?, this]
        rfl
      rw [List.filterMap_cons_some he, List.filterMap_cons_some hi, e1, List.map_cons, hz, ← e2]
      exact ⟨rfl, rfl⟩
  obtain ⟨e1, e2⟩ := all order.toList fun i hi => List.mem_range.mp (hp.mem_iff.mp hi)
  refine ⟨_, by rw [Array.toList_filterMap]; exact e1, ?_, e2⟩
  have h1 := hp.filterMap fun i => L[i]?
  have h2 : ∀ n, n ≤ L.length → (List.range n).filterMap (fun i => L[i]?) = L.take n := by
    intro n
    induction n with
    | zero => intro _; rfl
    | succ n ih =>
      intro hn
      rw [List.range_succ, List.filterMap_append, ih (by omega), List.take_succ, List.getElem?_eq_getElem (show n < L.length by omega), List.filterMap_cons_some (List.getElem?_eq_getElem (show n < L.length by omega))]
      rfl
  rw [h2 _ (Nat.le_refl _), List.take_length] at h1
  exact h1
/-- laid anew in a larger table -/
theorem relay {o : Obj} (ho : s.heap.get? a = some o) (hex : o.ExactSet) (hd : o.data = .set es ep t) (hr : es.toList = rows G L) (hsz : t.place.size = L.length) (hdm : t.dummies = #[]) (hfl : L.length ≤ t.mask) (nd : (L.map (·.1)).Nodup) (el : ∀ p ∈ L, G.is s.heap p.1 p.2)
    (ld : w.params.followText "set-order" = true ∨ t.led = true) (few : L.length < 64) {wanted M : Nat} (hw : SetTable.sizeAbove wanted - 1 = M) (hM : MaskOk M) (hw2 : SetTable.sizeAbove wanted ≤ 128) (hn : L.length * 5 < M * 3) {Q : Unit → Shared → Prop}
    (hQ : ∀ h' L' es' ep' t', Heap.SameBut a s.heap h' → SetE G h' a L' es' ep' t' → L'.Perm L → Q () { s with heap := h' }) : wpAny (model P w) A (setRelay a wanted) Q E s := by
  have hes := rows_size hr
  obtain ⟨t', order, e, hp, T, em, el', _, _⟩ := relaid_ok t (hs := es.map (·.1)) (wanted := wanted) hw hM (by rw [Array.size_map, hes]; omega)
  rw [Array.size_map, hes] at hp
  obtain ⟨L2, r1, r2, r3⟩ := reorder L es order hr hp
  rw [← r3] at T
  have hs2 : (order.filterMap (es[·]?)).size = es.size := by rw [rows_size r1, r2.length_eq, hes]
  rw [setRelay_eq]
  refine wpAny_bind (wpAny_setState_of ho hd (fits_of hdm (by omega) (by omega)) ?_)
  dsimp only
  refine wp_if_neg (by rw [sizeLine_eq]; omega) ?_
  try refine wpAny_bind (wpAny_pure ?_)
  rw [e]
  dsimp only
  refine wpAny_bind ?_
  refine wp_if_neg (by rw [hs2]; simp) ?_
  try refine wpAny_bind (wpAny_pure ?_)
  refine wpAny_pure ?_
  dsimp only
  refine wpAny_storeSet_of ho hd ?_ (by rw [hs2, hes, sizeLine_eq]; omega)
  have sb : Heap.SameBut a s.heap (s.heap.update a (Obj.putSet (order.filterMap (es[·]?)) t')) := Heap.SameBut.update ..
  exact hQ _ L2 _ (ep + 1) t' sb ⟨⟨_, store_at ho hd, hex, rfl⟩, r1, T, (r2.map (·.1)).nodup_iff.mpr nd, fun p q => G.same (el p (r2.mem_iff.mp q)) ho hd sb, by rw [el']; exact ld, by rw [r2.length_eq, em]; exact hn, by rw [r2.length_eq]; exact few⟩ r2
/-- one more is put, or stands there already -/
theorem added (R : SetE G s.heap a L es ep t) {x : Value} {k : κ} (hx : G.is s.heap k x) (hu : A.units < cLine) (hfew : L.length + 1 < 64) {Q : Bool → Shared → Prop}
    (hQ : ∀ b h' L' es' ep' t', Heap.SameBut a s.heap h' → SetE G h' a L' es' ep' t' → (k ∈ L.map (·.1) → L' = L) → (k ∉ L.map (·.1) → L'.Perm ((k, x) :: L)) → Q b { s with heap := h' }) :
    wpAny (model P w) A (setAddHashed a x (G.hash k)) Q E s := by
  obtain ⟨o, ho, hex, hd⟩ := R.ob
  have hes := R.size
  have hroom := R.room
  have hps := R.psize
  unfold setAddHashed
  refine wpAny_holding ?_
  rw [show (100000 : Nat) = 99999 + 1 from rfl, setAddHashedIn_succ]
  refine wpAny_bind (wpAny_setState_of ho hd R.fits ?_)
  dsimp only
  refine wp_if_neg (by simp [byScan, G.noscan hx]) ?_
  try refine wpAny_bind (wpAny_pure ?_)
  refine wpAny_bind (sought R hx hu (fun hm => ?_) fun Z hm hfree hbusy => ?_)
  · exact wpAny_pure (hQ false s.heap L es ep t (Heap.SameBut.refl a s.heap) R (fun _ => rfl) fun z => absurd hm z)
  · dsimp only
    refine wpAny_bind (wpAny_setState_of ho hd R.fits ?_)
    dsimp only
    obtain ⟨q1, q2, q3, q4, q5, q6, q7, q8, q9⟩ := R.tab.put hfree hbusy
    generalize t.put (way t.mask (G.hash k) Z) = pt at q1 q3 q4 q5 q6 q7 q8 q9 ⊢
    obtain ⟨t0, p⟩ := pt
    dsimp only at q1 q3 q4 q5 q6 q7 q8 q9 ⊢
    subst q1
    have two : ∀ b : Bool, ∃ t1 : SetTable, (if b = true then t0 else { t0 with plain := false }) = t1 ∧ TabOk t1 ((hs G L).take (SetTable.below t.place (way t.mask (G.hash k) Z)) ++ G.hash k :: (hs G L).drop (SetTable.below t.place (way t.mask (G.hash k) Z))) ∧ t1.mask = t.mask ∧ t1.led = t.led ∧ t1.fill = t0.fill := fun b => by
      cases b
      · exact ⟨_, rfl, ⟨q3.ris, q3.dm, q3.sz, q3.mok, q3.bd, q3.reach⟩, q4, q5, rfl⟩
      · exact ⟨_, rfl, q3, q4, q5, rfl⟩
    suffices main : ∀ t1 : SetTable, TabOk t1 ((hs G L).take (SetTable.below t.place (way t.mask (G.hash k) Z)) ++ G.hash k :: (hs G L).drop (SetTable.below t.place (way t.mask (G.hash k) Z))) → t1.mask = t.mask → t1.led = t.led → t1.fill = t0.fill →
        wpAny (model P w) A (do
          storeSet a (SetTable.insertAt es (SetTable.below t.place (way t.mask (G.hash k) Z)) (G.hash k, x)) t1
          if (!false && t1.tooFull) = true then do
            setRelay a (SetTable.grown (es.size + 1))
            pure true
          else pure true) Q E s by
      by_cases hp : t0.plain = true
      · refine wp_if_pos hp (wpAny_bind (G.byV hx fun b => ?_))
        obtain ⟨t1, e0, e1, e2, e3, e4⟩ := two b
        rw [e0]
        exact main t1 e1 e2 e3 e4
      · refine wp_if_neg hp (wpAny_bind (wpAny_pure ?_))
        obtain ⟨t1, e0, e1, e2, e3, e4⟩ := two true
        rw [e0]
        exact main t1 e1 e2 e3 e4
    clear q4 q5 q3 two
    intro t1 q3 q4 q5 q9'
    rw [← q9'] at q9
    generalize SetTable.below t.place (way t.mask (G.hash k) Z) = p at q2 q3 ⊢
    have pm := put_perm L p (k, x)
    have rin : (SetTable.insertAt es p (G.hash k, x)).toList = rows G (L.take p ++ (k, x) :: L.drop p) := by
      rw [SetTable.toList_insertAt, R.rw_]
      simp only [rows, List.map_append, List.map_cons, List.map_take, List.map_drop]
    have hin : hs G (L.take p ++ (k, x) :: L.drop p) = (hs G L).take p ++ G.hash k :: (hs G L).drop p := by
      simp only [hs, List.map_append, List.map_cons, List.map_take, List.map_drop]
    rw [← hin] at q3
    generalize L.take p ++ (k, x) :: L.drop p = L1 at pm rin q3
    have hlen : L1.length = L.length + 1 := pm.length_eq
    have nd1 : (L1.map (·.1)).Nodup := (pm.map (·.1)).nodup_iff.mpr (List.nodup_cons.mpr ⟨hm, R.nd⟩)
    have hes1 : (SetTable.insertAt es p (G.hash k, x)).size = L.length + 1 := by rw [rows_size rin, hlen]
    generalize SetTable.insertAt es p (G.hash k, x) = es1 at rin hes1 ⊢
    refine wpAny_bind (wpAny_storeSet_of ho hd ?_ (by rw [hes1, sizeLine_eq]; omega))
    have sb : Heap.SameBut a s.heap (s.heap.update a (Obj.putSet es1 t1)) := Heap.SameBut.update ..
    have ho1 := store_at (es' := es1) (t' := t1) ho hd
    generalize s.heap.update a (Obj.putSet es1 t1) = h1 at sb ho1 ⊢
    have el1 : ∀ p ∈ L1, G.is h1 p.1 p.2 := fun p hp => by
      rcases List.mem_cons.mp (pm.mem_iff.mp hp) with e | hp
      · rw [e]; exact G.same hx ho hd sb
      · exact G.same (R.el p hp) ho hd sb
    have ld1 : w.params.followText "set-order" = true ∨ t1.led = true := by rw [q5]; exact R.led
    have hps1 : t1.place.size = L1.length := by rw [q3.sz, hs_len]
    have hfill : t1.tooFull = decide ((L.length + 1) * 5 ≥ t1.mask * 3) := by
      unfold SetTable.tooFull
      rw [q9, hs_len]
    by_cases hf : t1.tooFull = true
    · first
        | (refine wpAny_bind ?_; refine wp_if_pos (by simp [hf]) ?_)
        | (refine wp_if_pos (by simp [hf]) ?_; refine wpAny_bind ?_)
      rw [hfill, decide_eq_true_eq, q4] at hf
      rw [hes]
      have two : (t.mask = 7 ∧ L.length = 4) ∨ (t.mask = 31 ∧ L.length = 18) := by
        rcases R.tab.mok with e | e | e <;> (rw [e] at hf hroom; omega)
      have go : ∀ M, SetTable.sizeAbove (SetTable.grown (L.length + 1)) - 1 = M → MaskOk M → SetTable.sizeAbove (SetTable.grown (L.length + 1)) ≤ 128 → (L.length + 1) * 5 < M * 3 →
          wpAny (model P w) A (setRelay a (SetTable.grown (L.length + 1))) (fun _ s' => wpAny (model P w) A (pure true) Q E s') E { s with heap := h1 } := fun M g1 g2 g3 g4 => by
        refine relay (s := { s with heap := h1 }) ho1 hex rfl rin hps1 q3.dm (by rw [hlen, q4]; omega) nd1 el1 ld1 (by omega) g1 g2 g3 (by omega) ?_
        intro h2 L2 es2 ep2 t2 sb2 R2 pm2
        exact wpAny_pure (hQ true h2 L2 es2 ep2 t2 (sb.trans sb2) R2 (fun z => absurd z hm) fun _ => pm2.trans pm)
      rcases two with ⟨_, e2⟩ | ⟨_, e2⟩
      · exact go 31 (by rw [e2, size_20]) (.inr (.inl rfl)) (by rw [e2, size_20]; decide) (by omega)
      · exact go 127 (by rw [e2, size_76]) (.inr (.inr rfl)) (by rw [e2, size_76]; decide) (by omega)
    · first
        | refine wp_if_neg (by simp [hf]) ?_
        | (refine wpAny_bind ?_; refine wp_if_neg (by simp [hf]) ?_; refine wpAny_pure ?_)
      rw [hfill, decide_eq_true_eq] at hf
      exact wpAny_pure (hQ true h1 L1 es1 (ep + 1) t1 sb ⟨⟨_, ho1, hex, rfl⟩, rin, q3, nd1, el1, ld1, by omega, by omega⟩ (fun z => absurd z hm) fun _ => pm)
end
end VSet

set_option Elab.async false
set_option linter.all false
set_option maxRecDepth 100000
set_option maxHeartbeats 4000000
namespace VSet
open PySem PySem.Spec PyProof.Rows L2

/-- elements and sets of them: begun, added to, gone through -/
structure AK (P : Program) (w : World) (κ : Type) [DecidableEq κ] where
  is : Heap → κ → Value → Prop
  hash : κ → Int
  inj : ∀ {h x y v}, is h x v → is h y v → x = y
  keep : ∀ {h h' : Heap} {k v}, is h k v → (∀ b o, h.get? b = some o → h'.get? b = some o) → is h' k v
  hashes : ∀ {A : Around} {E : Value → Shared → Prop} {s : Shared} {k v} {Q : Int → Shared → Prop}, A.units < cLine → is s.heap k v → (∀ t, s.toks ≤ t → Q (hash k) { s with toks := t }) → wpAny (model P w) A (pyHash v) Q E s
  St : Heap → Addr → List (κ × Value) → Prop
  begun : ∀ {h : Heap} {a : Addr}, h.get? a = some { cls := .type "set", dict := none, data := .set #[] 0 (.fresh 0 0 (!w.params.followText "set-order")) } → St h a []
  nd : ∀ {h a L}, St h a L → (L.map (·.1)).Nodup
  move : ∀ {h h' a L}, St h a L → (∀ o, h.get? a = some o → h'.get? a = some o) → (∀ p ∈ L, is h' p.1 p.2) → St h' a L
  more : ∀ {A : Around} {E : Value → Shared → Prop} {s : Shared} {a L k v} {Q : Bool → Shared → Prop}, A.units < cLine → St s.heap a L → is s.heap k v → L.length + 1 < 64 →
    (∀ b h' L', Heap.SameBut a s.heap h' → St h' a L' → (k ∈ L.map (·.1) → L' = L) → (k ∉ L.map (·.1) → L'.Perm ((k, v) :: L)) → Q b { s with heap := h' }) → wpAny (model P w) A (setAddHashed a v (hash k)) Q E s
  all : ∀ {h a L}, St h a L → ∃ es ep t, SetAt h a es ep t ∧ t.fits es.size = true ∧ es.size < scanBound ∧ Ris t.place.toList ∧ (w.params.followText "set-order" = true ∨ t.led = true) ∧ (es.toList.map (·.2)).Perm (L.map (·.2))

def EK.ak {P : Program} {w : World} {κ : Type} [DecidableEq κ] (G : EK P w κ) : AK P w κ where
  is := G.is
  hash := G.hash
  inj := G.inj
  keep := G.keep
  hashes := G.hashes
  St := fun h a L => ∃ es ep t, SetE G h a L es ep t
  begun := fun {h a} ho => ⟨#[], 0, _, ⟨_, ho, ⟨rfl, rfl, rfl⟩, rfl⟩, rfl, ⟨List.Pairwise.nil, rfl, rfl, .inl rfl, fun x hx => (by cases hx), fun i h j hi => (by simp [hs] at hi)⟩, List.nodup_nil, fun p hp => (by cases hp), (by
    show _ ∨ (!w.params.followText "set-order") = true
    cases w.params.followText "set-order"
    · exact .inr rfl
    · exact .inl rfl), (by show 0 * 5 < 7 * 3; decide), (by show 0 < 64; decide)⟩
  nd := fun ⟨_, _, _, R⟩ => R.nd
  move := fun ⟨es, ep, t, R⟩ k kt => ⟨es, ep, t, R.keep2 k kt⟩
  more := fun hu ⟨es, ep, t, R⟩ hx hf hQ => added R hx hu hf fun b h' L' es' ep' t' sb R' c1 c2 => hQ b h' L' sb ⟨es', ep', t', R'⟩ c1 c2
  all := fun {h a L} ⟨es, ep, t, R⟩ => by
    have ⟨o, ho, hex, hd⟩ := R.ob
    refine ⟨es, ep, t, ⟨o, ho, hex.1, hd⟩, R.fits, ?_, R.tab.ris, R.led, ?_⟩
    · have h1 := R.size
      have h2 := R.few
      unfold scanBound
      omega
    · rw [R.rw_, rows, List.map_map]
      exact List.Perm.refl _

/-- what the set has of the first i items -/
structure Have {κ : Type} (ks : List (κ × Value)) (i : Nat) (L : List (κ × Value)) : Prop where
  sub : ∀ p ∈ L, p ∈ ks.take i
  all : ∀ p ∈ ks.take i, p.1 ∈ L.map (·.1)
  len : L.length ≤ i
theorem have0 {κ : Type} (ks : List (κ × Value)) : Have ks 0 [] := ⟨fun p h => (by cases h), fun p h => (by simp at h), Nat.le_refl _⟩
theorem have_next {κ : Type} {ks L L' : List (κ × Value)} {i : Nat} {x : κ × Value} (g : Have ks i L) (h : ks[i]? = some x) (c1 : x.1 ∈ L.map (·.1) → L' = L) (c2 : x.1 ∉ L.map (·.1) → L'.Perm (x :: L)) : Have ks (i + 1) L' := by
  have e := take_next h
  by_cases hm : x.1 ∈ L.map (·.1)
  · rw [c1 hm]
    refine ⟨fun p hp => by rw [e]; exact List.mem_append_left _ (g.sub p hp), fun p hp => ?_, Nat.le_succ_of_le g.len⟩
    rw [e, List.mem_append, List.mem_singleton] at hp
    rcases hp with z | z
    · exact g.all p z
    · rw [z]; exact hm
  · have pm := c2 hm
    refine ⟨fun p hp => ?_, fun p hp => ?_, ?_⟩
    · rw [e, List.mem_append, List.mem_singleton]
      rcases List.mem_cons.mp (pm.mem_iff.mp hp) with z | z
      · exact .inr z
      · exact .inl (g.sub p z)
    · rw [(pm.map (·.1)).mem_iff, List.map_cons, List.mem_cons]
      rw [e, List.mem_append, List.mem_singleton] at hp
      rcases hp with z | z
      · exact .inr (g.all p z)
      · exact .inl (by rw [z])
    · rw [pm.length_eq, List.length_cons]
      exact Nat.succ_le_succ g.len

section
variable {P : Program} {w : World} {A : Around} {E : Value → Shared → Prop} {s : Shared} {κ : Type} [DecidableEq κ] (G : AK P w κ)
/-- the loop of set.update -/
theorem upd_loop {I : Addr} {fp wr : List Addr} {GG : Array GenState → Array GenState → Prop} {n : Nat} {Pv : Nat → Value → Prop} {St : Nat → Shared → Prop} {R : Result → Shared → Prop}
    (W : WalksS P w A.in1 I fp wr GG n Pv St) (S : Addr) (hSf : S ∉ fp) (ks : List (κ × Value)) (hn : n = ks.length) (hfew : ks.length < 64) (hval : ∀ i v, Pv i v → ∃ p, ks[i]? = some p ∧ v = p.2)
    (h0 : Heap) (hk : ∀ p ∈ ks, G.is h0 p.1 p.2) (hS0 : h0.get? S = none) (hw0 : ∀ b ∈ wr, h0.get? b = none) (hu : A.in1.units < cLine) :
    ∀ (k i : Nat) (s : Shared), n - i = k → i ≤ n → St i s → (∀ b o, h0.get? b = some o → s.heap.get? b = some o) → (∃ L, G.St s.heap S L ∧ Have ks i L) →
      (∀ s' L, Moved (S :: wr) GG s s' → G.St s'.heap S L → Have ks n L → (∀ b o, h0.get? b = some o → s'.heap.get? b = some o) → R (.ok (.ret .none)) s') →
      codeAny (model P w) A (.builtin "set.update.loop" ⟨[.ref S, .ref I], []⟩) R s := by
  have hSw : S ∉ wr := fun h => hSf (W.sub _ h)
  have wider : ∀ b ∈ wr, b ∈ S :: wr := fun b hb => List.mem_cons_of_mem _ hb
  have still : ∀ {s s' : Shared}, Moved wr GG s s' → (∀ b o, h0.get? b = some o → s.heap.get? b = some o) → ∀ b o, h0.get? b = some o → s'.heap.get? b = some o := fun m q b o e =>
    m.heap b o (fun z => by rw [hw0 b z] at e; cases e) (q b o e)
  have after : ∀ {s s' : Shared} {L : List (κ × Value)} {i : Nat}, Moved wr GG s s' → (∀ b o, h0.get? b = some o → s'.heap.get? b = some o) → G.St s.heap S L → Have ks i L → G.St s'.heap S L := fun m q hS g =>
    G.move hS (fun o e => m.heap S o hSw e) fun p hp => G.keep (hk p (List.mem_of_mem_take (g.sub p hp))) q
  intro k
  induction k with
  | zero =>
    intro i s hk' hi hst hkp ⟨L, hS, g⟩ hR
    obtain rfl : i = n := by omega
    refine codeAny_builtin F.entry_set_update_loop ?_
    rw [Around.under_plainId F.plain_set_update_loop _]
    show wpAny _ A.in1 (pyNext (.ref I) >>= _) _ _ s
    refine wpAny_bind (W.done s _ _ hst fun s' m => ?_)
    exact wpAny_pure (hR s' L (m.mono wider) (after m (still m hkp) hS g) g (still m hkp))
  | succ k ih =>
    intro i s hk' hi hst hkp ⟨L, hS, g⟩ hR
    have hlt : i < n := by omega
    refine codeAny_builtin F.entry_set_update_loop ?_
    rw [Around.under_plainId F.plain_set_update_loop _]
    show wpAny _ A.in1 (pyNext (.ref I) >>= _) _ _ s
    refine wpAny_bind (W.item i s _ _ hlt hst fun v s' hP hst' m => ?_)
    obtain ⟨p, hp, rfl⟩ := hval i v hP
    have q1 := still m hkp
    have hS1 := after m q1 hS g
    have hx : G.is s'.heap p.1 p.2 := G.keep (hk p (List.mem_of_getElem? hp)) q1
    show wpAny _ A.in1 (holding [p.2] (setAdd S p.2) >>= _) _ _ s'
    refine wpAny_bind (wpAny_holding ?_)
    unfold setAdd
    refine wpAny_holding (wpAny_bind (G.hashes hu hx fun tk htk => ?_))
    refine G.more (s := { s' with toks := tk }) hu hS1 hx (by have := g.len; omega) fun b h' L' sb hS2 c1 c2 => ?_
    have q2 : ∀ b o, h0.get? b = some o → h'.get? b = some o := fun b o e => (sb.2 b (fun z => by rw [z, hS0] at e; cases e)).trans (q1 b o e)
    refine wpAny_pure ⟨plainId_quiet F.plain_set_update_loop _, ih (i + 1) { s' with heap := h', toks := tk } (by omega) hlt (W.frame _ s' _ _ hst' htk fun b hb o e => ?_) q2 ⟨L', hS2, have_next g hp c1 c2⟩ fun s'' L2 m2 hS3 g3 q3 => ?_⟩
    · rw [sb.2 b (fun z : b = S => hSf (by rw [← z]; exact hb))]; exact e
    · refine hR s'' L2 (Moved.trans W.gtrans ((m.mono wider).then_heap htk fun b o hb e => ?_) m2) hS3 g3 q3
      rw [sb.2 b (fun z : b = S => hb (by rw [z]; exact List.mem_cons_self))]; exact e

/-- a new set -/
abbrev newSet (w : World) : Obj := { cls := .type "set", dict := none, data := .set #[] 0 (.fresh 0 0 (!w.params.followText "set-order")) }
/-- set(xs), xs a list -/
theorem call_set {l : Addr} {items : Array Value} (ks : List (κ × Value)) {Q : Value → Shared → Prop} (hh : A.handled = none) (hl : s.heap.IsList l items) (hit : items.toList = ks.map (·.2)) (hk : ∀ p ∈ ks, G.is s.heap p.1 p.2) (hfew : ks.length < 64) (hu : A.units + 3 < cLine)
    (h : ∀ (h' : Heap) (tk : Nat) L, G.St h' s.heap.objs.size L → Have ks ks.length L → (∀ b o, s.heap.get? b = some o → h'.get? b = some o) → Q (.ref s.heap.objs.size) { s with heap := h', toks := tk }) :
    wpAny (model P w) A (call (.type "set") [.ref l]) Q E s := by
  have hisz : items.size = ks.length := by rw [← Array.length_toList, hit, List.length_map]
  have nobody : ∀ b, s.heap.objs.size ≤ b → s.heap.get? b = none := fun b hb => by
    cases q : s.heap.get? b with
    | none => rfl
    | some o => exact absurd (Nat.lt_of_lt_of_le (Heap.lt_size q) hb) (Nat.lt_irrefl _)
  have hval : ∀ (i : Nat) (v : Value), items[i]? = some v → ∃ p, ks[i]? = some p ∧ v = p.2 := fun i v hv => by
    rw [← Array.getElem?_toList, hit, List.getElem?_map] at hv
    cases hq : ks[i]? with
    | none => rw [hq] at hv; cases hv
    | some p => rw [hq] at hv; exact ⟨p, rfl, (Option.some.inj hv).symm⟩
  have hS : (s.heap.push (newSet w)).get? s.heap.objs.size = some (newSet w) := Heap.get?_push_size _ rfl
  have hl1 : (s.heap.push (newSet w)).IsList l items := hl.push _
  have hlS : l < s.heap.objs.size := by obtain ⟨o, ho, _⟩ := hl; exact Heap.lt_size ho
  have hz1 : (s.heap.push (newSet w)).objs.size = s.heap.objs.size + 1 := Heap.size_push ..
  obtain ⟨c, tl, hmro⟩ := F.called_set.mro
  have hmade := F.called_set.made
  have hsub := F.called_set.sub
  have h1 := F.called_set.notType
  have h2 := F.called_set.canCreate
  have hct := F.typeCall_set_1 (.ref l)
  have hT : Shared.TypeIs { s with heap := s.heap.push (newSet w) } (.ref s.heap.objs.size) "set" := ⟨_, hS, rfl⟩
  have hli := F.called_set.init.lookup
  have hbi := F.called_set.init.bind (.ref s.heap.objs.size)
  refine wpAny_call (codeAny_of_tree ?_)
  show wpAny _ _ (callAny (.type "set") _) _ _ _
  refine wpAny_pure ⟨Code.quiet_builtin _ (by decide +kernel), codeAny_builtin F.entry_type_call ?_⟩
  rw [Around.under_plain (weight_type_call_type "set" [.ref l] []) rfl]
  repeat (any_goals (first | assumption | wp_step))

  refine codeAny_mono (code_set_led1 (.ref l) (E := E) (Q₁ := fun obj s₁ => obj = .ref s.heap.objs.size ∧ s₁ = { s with heap := s.heap.push (newSet w) }) ⟨rfl, rfl⟩) fun r s₁ hr => ?_
  match r, hr with
  | .error e, hr => exact hr
  | .ok .next, hr => exact hr.elim
  | .ok .brk, hr => exact hr.elim
  | .ok .cont, hr => exact hr.elim
  | .ok (.ret obj), hr =>
    obtain ⟨rfl, rfl⟩ := hr
    repeat (any_goals (first | assumption | wp_step))

    refine codeAny_mono (codeAny_call_builtin (R := wants (fun r s₂ => r = .none ∧ ∃ h' tk L, s₂ = { s with heap := h', toks := tk } ∧ G.St h' s.heap.objs.size L ∧ Have ks ks.length L ∧ ∀ b o, s.heap.get? b = some o → h'.get? b = some o) E)
      F.called_set.init.plain F.entry_set_init (check_set_init_1 hT ?_)) fun r₂ s₂ hr₂ => ?_
    · obtain ⟨ol, hol, hcl, nl, hdl⟩ := hl1
      have hl1 : (s.heap.push (newSet w)).IsList l items := ⟨ol, hol, hcl, nl, hdl⟩
      obtain ⟨ocls, odict, odata, oslots⟩ := ol
      simp only at hcl hdl
      subst hcl; subst hdl
      have hsls := F.sub_list_set
      have hslf := F.sub_list_frozenset
      have hne : (Value.type "list" == Value.type "dict") = false := by decide
      unfold Builtin.«set.__init__» noKeywords Builtin.Frozenset.updateFrom
      generalize hPI : pyIter = PI
      wp_walk
      subst hPI
      refine wpAny_pyIter_list hl1 ?_
      refine wpAny_bind (wpAny_runValue ?_)
      refine upd_loop G ((Walks.list (show A.in1.in1.in1.handled = none by simp [hh]) _ l (Nat.ne_of_lt (Nat.lt_of_lt_of_eq (Nat.lt_succ_of_lt hlS) hz1.symm)) items).toS) s.heap.objs.size (by
          rw [hz1]; simp only [List.mem_cons, List.not_mem_nil, or_false, not_or]
          exact ⟨Nat.ne_of_lt (Nat.lt_succ_self _), Nat.ne_of_gt hlS⟩) ks hisz hfew hval s.heap hk (nobody _ (Nat.le_refl _))
        (fun b hb => nobody b (by rw [List.mem_singleton.mp hb, hz1]; exact Nat.le_succ _)) hu (items.size - 0) 0 _ (by omega) (Nat.zero_le _)
        ⟨⟨_, Heap.get?_push_size _ rfl, rfl, rfl⟩, hl1.push _⟩ (fun b o e => Heap.get?_push_of_some _ (Heap.get?_push_of_some _ e))
        ⟨[], G.begun (Heap.get?_push_of_some _ hS), have0 ks⟩ fun s' L m hS' g' q => ?_
      obtain ⟨h', g2, d', tk', os'⟩ := s'
      obtain rfl : g2 = s.gens := m.gens
      obtain rfl : d' = s.drawn := m.drawn
      obtain rfl : os' = s.os := m.os
      show wpAny _ _ _ _ _ _
      refine wpAny_pure ?_
      show wpAny _ _ (ret Value.none) _ _ _
      rw [hisz] at g'
      exact wpAny_pure ⟨rfl, h', tk', L, rfl, hS', g', q⟩
    · match r₂, hr₂ with
      | .error e, hr₂ => exact hr₂
      | .ok .next, hr₂ => exact hr₂.elim
      | .ok .brk, hr₂ => exact hr₂.elim
      | .ok .cont, hr₂ => exact hr₂.elim
      | .ok (.ret r), hr₂ =>
        obtain ⟨rfl, h', tk, L, rfl, hS', g', k'⟩ := hr₂
        repeat (any_goals (first | assumption | wp_step))
        exact h _ _ _ hS' g' k'
end

/-! ### ints and texts: looked for one by one -/
section
variable {P : Program} {w : World}
def rowK (w : World) (p : Key × Value) : Int × Value := (keyH w p.1, p.2)
structure SetP (P : Program) (w : World) (h : Heap) (a : Addr) (L : List (Key × Value)) (es : Array (Int × Value)) (ep : Nat) (t : SetTable) : Prop where
  ob : ∃ o, h.get? a = some o ∧ o.ExactSet ∧ o.data = .set es ep t
  pm : es.toList.Perm (L.map (rowK w))
  nd : (L.map (·.1)).Nodup
  el : ∀ p ∈ L, keyIs p.1 p.2 = true
  small : L.length < scanBound
  fits : t.fits es.size = true
  ris : Ris t.place.toList
  led : w.params.followText "set-order" = true ∨ t.led = true
theorem SetP.size {h : Heap} {a : Addr} {L : List (Key × Value)} {es : Array (Int × Value)} {ep : Nat} {t : SetTable} (R : SetP P w h a L es ep t) : es.size = L.length := by
  rw [← Array.length_toList, R.pm.length_eq, List.length_map]
theorem keyIs_scan {k : Key} {v : Value} (h : keyIs k v = true) : v.scannable = true := by
  rcases keyIs_shape h with ⟨i, t, _, rfl⟩ | ⟨x, t, _, rfl⟩ <;> rfl
theorem SetP.elems {h : Heap} {a : Addr} {L : List (Key × Value)} {es : Array (Int × Value)} {ep : Nat} {t : SetTable} (R : SetP P w h a L es ep t) : ElemsOf (mixKind P w) es.toList := fun e he => by
  obtain ⟨p, hp, rfl⟩ := List.mem_map.mp (R.pm.mem_iff.mp he)
  exact ⟨⟨p.1, R.el p hp, rfl⟩, keyIs_scan (R.el p hp)⟩
variable {A : Around} {E : Value → Shared → Prop} {s : Shared} {a : Addr} {L : List (Key × Value)} {es : Array (Int × Value)} {ep : Nat} {t : SetTable}
/-- rows laid, perhaps all anew behind that -/
theorem layTail {g : Bool → Sem Unit} (hg : ∀ (b : Bool) (s₁ : Shared) (Q' : Unit → Shared → Prop), Q' () s₁ → wpAny (model P w) A (g b) Q' E s₁) {o : Obj} (ho : s.heap.get? a = some o) (hex : o.ExactSet) (hd : o.data = .set es ep t)
    {es1 : Array (Int × Value)} {t2 : SetTable} {L1 : List (Key × Value)} (pm : es1.toList.Perm (L1.map (rowK w))) (nd : (L1.map (·.1)).Nodup) (el : ∀ p ∈ L1, keyIs p.1 p.2 = true) (small : L1.length < scanBound) (hf : t2.fits es1.size = true) (hr : Ris t2.place.toList)
    (hl : w.params.followText "set-order" = true ∨ t2.led = true) {wasDummy : Bool} {R : Option Bool → Shared → Prop} (hR : ∀ h' es' ep' t', Heap.SameBut a s.heap h' → SetP P w h' a L1 es' ep' t' → R (some true) { s with heap := h' }) :
    wpAny (model P w) A (do
        storeSet a es1 t2
        if (!wasDummy && t2.tooFull) = true then do
            g (relayAll t2 es1 (SetTable.grown es1.size)).2.2
            storeSet a (relayAll t2 es1 (SetTable.grown es1.size)).1 (relayAll t2 es1 (SetTable.grown es1.size)).2.1
            pure (some true)
          else pure (some true)) R E s := by
  have hb : ∀ e : Array (Int × Value), e.toList.Perm (L1.map (rowK w)) → e.size < scanBound := fun e q => by
    rw [← Array.length_toList, q.length_eq, List.length_map]
    exact small
  refine wpAny_bind (wpAny_storeSet_of ho hd ?_ (fits_of_scanBound (hb _ pm)))
  have ho1 := store_at (es' := es1) (t' := t2) ho hd
  have sb1 := Heap.SameBut.update s.heap a (Obj.putSet es1 t2)
  split
  · have q1 := relayAll_perm t2 es1 (SetTable.grown es1.size)
    have q2 := relayAll_fits t2 es1 (SetTable.grown es1.size)
    have q3 := relayAll_ris t2 es1 (SetTable.grown es1.size)
    have q4 := relayAll_led t2 es1 (SetTable.grown es1.size)
    generalize relayAll t2 es1 (SetTable.grown es1.size) = Z at q1 q2 q3 q4 ⊢
    obtain ⟨es2, t3, gave⟩ := Z
    dsimp only at q1 q2 q3 q4 ⊢
    have pm2 := q1.trans pm
    have hsz : es2.size = es1.size := by rw [← Array.length_toList, q1.length_eq, Array.length_toList]
    refine wpAny_bind (hg _ _ _ ?_)
    refine wpAny_bind (wpAny_storeSet_of ho1 rfl ?_ (fits_of_scanBound (hb _ pm2)))
    have ho2 := store_at (es' := es2) (t' := t3) ho1 rfl
    exact wpAny_pure (hR _ es2 _ t3 (sb1.trans (Heap.SameBut.update _ a _)) ⟨⟨_, ho2, hex, rfl⟩, pm2, nd, el, small, q2, q3, hl.imp id fun z => by rw [q4]; exact z⟩)
  · exact wpAny_pure (hR _ es1 _ t2 sb1 ⟨⟨_, ho1, hex, rfl⟩, pm, nd, el, small, hf, hr, hl⟩)
theorem added_scan (R : SetP P w s.heap a L es ep t) {k : Key} {x : Value} (hx : keyIs k x = true) (room : L.length + 1 < 64) {Q : Bool → Shared → Prop}
    (hQ : ∀ b h' L' es' ep' t', Heap.SameBut a s.heap h' → SetP P w h' a L' es' ep' t' → (k ∈ L.map (·.1) → L' = L) → (k ∉ L.map (·.1) → L'.Perm ((k, x) :: L)) → Q b { s with heap := h' }) :
    wpAny (model P w) A (setAddHashed a x (keyH w k)) Q E s := by
  obtain ⟨o, ho, hex, hd⟩ := R.ob
  have hsc : x.scannable = true := keyIs_scan hx
  have hel := R.elems
  have hsz := R.size
  have hb : es.size < scanBound := by rw [hsz]; exact R.small
  have room' : L.length + 1 < scanBound := by unfold scanBound; omega
  have memk : k ∈ L.map (·.1) ↔ ∃ e ∈ es.toList, keyIs k e.2 = true := by
    constructor
    · intro h
      obtain ⟨p, hp, rfl⟩ := List.mem_map.mp h
      exact ⟨rowK w p, R.pm.mem_iff.mpr (List.mem_map_of_mem hp), R.el p hp⟩
    · rintro ⟨e, he, q⟩
      obtain ⟨p, hp, rfl⟩ := List.mem_map.mp (R.pm.mem_iff.mp he)
      have : p.1 = k := (mixKind P w).inj p.2 p.1 k (R.el p hp) q
      exact List.mem_map.mpr ⟨p, hp, this⟩
  unfold setAddHashed setAddHashedIn
  refine wpAny_holding (wpAny_bind (wpAny_setState_of ho hd R.fits ?_))
  dsimp only
  rw [byScan_of hsc hb hel]
  simp only [↓reduceIte]
  unfold setAddByScan
  refine wpAny_bind ?_
  refine wpAny_bind (wpAny_rule ?_)
  refine wpAny_bind (wpAny_setScan_of (knd := mixKind P w) (k := k) hx ho hd R.fits hel ?_)
  cases hfi : List.findIdx? (fun e => (mixKind P w).is k e.2) es.toList with
  | some j =>
    dsimp only
    obtain ⟨hj, pj, _⟩ := List.findIdx?_eq_some_iff_getElem.mp hfi
    have hm : k ∈ L.map (·.1) := memk.mpr ⟨_, List.getElem_mem hj, pj⟩
    exact wpAny_pure (wpAny_pure (hQ false s.heap L es ep t (Heap.SameBut.refl a s.heap) R (fun _ => rfl) fun z => absurd hm z))
  | none =>
    dsimp only
    have hm : k ∉ L.map (·.1) := fun z => by
      obtain ⟨e, he, q⟩ := memk.mp z
      have c : (mixKind P w).is k e.2 = false := List.findIdx?_eq_none_iff.mp hfi e he
      rw [mixKind_is, q] at c
      cases c
    have hgw : ∀ (b : Bool) {s₁ : Shared} {Q' : Unit → Shared → Prop}, Q' () s₁ → wpAny (model P w) A (match b with | true => rule "set.scan.the-table-gave-way" | false => pure ()) Q' E s₁ :=
      fun b s₁ Q' q => by cases b <;> first | exact wpAny_pure q | exact wpAny_rule q
    have pm := layNew_perm t es (keyH w k) x
    have hf1 := layNew_fits t es (keyH w k) x
    have hr1 := layNew_ris t es (keyH w k) x R.ris
    have hl1 := layNew_led t es (keyH w k) x
    generalize layNew t es (keyH w k) x = Z at pm hf1 hr1 hl1 ⊢
    obtain ⟨es1, t1, wasDummy, gave⟩ := Z
    dsimp only at pm hf1 hr1 hl1 ⊢
    rw [Array.toList_push] at pm
    have pc : es1.toList.Perm (((k, x) :: L).map (rowK w)) := (pm.trans (List.perm_append_singleton _ _)).trans (R.pm.cons _)
    have nd1 : (((k, x) :: L).map (·.1)).Nodup := List.nodup_cons.mpr ⟨hm, R.nd⟩
    have el1 : ∀ p ∈ (k, x) :: L, keyIs p.1 p.2 = true := fun p hp => by
      rcases List.mem_cons.mp hp with e | z
      · rw [e]; exact hx
      · exact R.el p z
    have hled : w.params.followText "set-order" = true ∨ t1.led = true := R.led.imp id fun z => by rw [hl1]; exact z
    refine wpAny_bind (hgw _ ?_)
    split
    · refine wpAny_bind ?_
      rw [hashByValue_scannable 8 hsc]
      refine wpAny_pure ?_
      refine layTail ?_ ho hex hd pc nd1 el1 room' ?_ ?_ ?_ ?_
      · intro b s₁ Q' q; cases b <;> first | exact wpAny_pure q | exact wpAny_rule q
      · first | (split <;> first | exact hf1 | exact SetTable.fits_plain_off hf1) | exact hf1
      · first | (split <;> exact hr1) | exact hr1
      · first | (split <;> exact hled) | exact hled
      · intro h' es' ep' t' sb r
        exact wpAny_pure (hQ true h' _ es' ep' t' sb r (fun z => absurd z hm) fun _ => List.Perm.refl _)
    · refine wpAny_bind (wpAny_pure ?_)
      simp only [↓reduceIte]
      refine layTail ?_ ho hex hd pc nd1 el1 room' hf1 hr1 hled ?_
      · intro b s₁ Q' q; cases b <;> first | exact wpAny_pure q | exact wpAny_rule q
      · intro h' es' ep' t' sb r
        exact wpAny_pure (hQ true h' _ es' ep' t' sb r (fun z => absurd z hm) fun _ => List.Perm.refl _)
end
/-- ints and texts -/
def keyAK (P : Program) (w : World) : AK P w Key where
  is := fun _ k v => keyIs k v = true
  hash := keyH w
  inj := fun {h x y v} a b => (mixKind P w).inj v x y a b
  keep := fun e _ => e
  hashes := fun {A E s k v Q} _ hx hq => (mixKind P w).pyHash hx (hq _ (Nat.le_succ _))
  St := fun h a L => ∃ es ep t, SetP P w h a L es ep t
  begun := fun {h a} ho => ⟨#[], 0, _, ⟨_, ho, ⟨rfl, rfl, rfl⟩, rfl⟩, List.Perm.refl _, List.nodup_nil, fun p hp => (by cases hp), (by unfold scanBound; decide), rfl, List.Pairwise.nil, (by
    show _ ∨ (!w.params.followText "set-order") = true
    cases w.params.followText "set-order"
    · exact .inr rfl
    · exact .inl rfl)⟩
  nd := fun ⟨_, _, _, R⟩ => R.nd
  move := fun ⟨es, ep, t, R⟩ k _ => ⟨es, ep, t, ⟨let ⟨o, e, r⟩ := R.ob; ⟨o, k _ e, r⟩, R.pm, R.nd, R.el, R.small, R.fits, R.ris, R.led⟩⟩
  more := fun _ ⟨es, ep, t, R⟩ hx hf hQ => added_scan R hx hf fun b h' L' es' ep' t' sb R' c1 c2 => hQ b h' L' sb ⟨es', ep', t', R'⟩ c1 c2
  all := fun {h a L} ⟨es, ep, t, R⟩ => by
    have ⟨o, ho, hex, hd⟩ := R.ob
    refine ⟨es, ep, t, ⟨o, ho, hex.1, hd⟩, R.fits, by rw [R.size]; exact R.small, R.ris, R.led, ?_⟩
    have := R.pm.map (·.2)
    rw [List.map_map] at this
    exact this
end VSet

set_option Elab.async false
set_option linter.all false
set_option maxRecDepth 100000
set_option maxHeartbeats 4000000
/-! ### tuples of ints and texts as elements; sorted(set(..)), len(set(..)) -/
namespace VSet
open PySem PySem.Spec PyProof.Rows L2
section
variable {P : Program} {w : World} {A : Around} {E : Value → Shared → Prop} {s : Shared}
def isTk (P : Program) (w : World) (h : Heap) (k : List Key) (v : Value) : Prop := ∃ b, v = .ref b ∧ IsTupleKey (mixKind P w) h k b
theorem items_plain {k : List Key} {vs : List Value} (h : ItemsAre (mixKind P w) k vs) : ∀ v ∈ vs, (∃ i t, v = Value.int i t) ∨ ∃ x t, v = Value.str x t := by
  induction h with
  | nil => exact fun v hv => (by cases hv)
  | cons h1 _ ih =>
    intro v hv
    rcases List.mem_cons.mp hv with rfl | hv
    · rcases keyIs_shape h1 with ⟨i, t, _, e⟩ | ⟨x, t, _, e⟩
      · exact .inl ⟨i, t, e⟩
      · exact .inr ⟨x, t, e⟩
    · exact ih v hv
theorem no_class (n : Nat) {v : Value} (h : (∃ i t, v = Value.int i t) ∨ ∃ x t, v = Value.str x t) : ofAClassStatement n v = pure false := by
  rcases h with ⟨i, t, rfl⟩ | ⟨x, t, rfl⟩ <;> cases n <;> rfl
theorem by_value (n : Nat) {v : Value} (h : (∃ i t, v = Value.int i t) ∨ ∃ x t, v = Value.str x t) : ∃ b, hashByValue n v = pure b := by
  rcases h with ⟨i, t, rfl⟩ | ⟨x, t, rfl⟩
  · exact ⟨true, by cases n <;> rfl⟩
  · exact ⟨false, by cases n <;> rfl⟩
theorem no_class_tup {k : List Key} {b : Addr} {Q : Bool → Shared → Prop} (hk : IsTupleKey (mixKind P w) s.heap k b) (h : Q false s) : wpAny (model P w) A (ofAClassStatement 8 (.ref b)) Q E s := by
  have hT := hk.typeIs
  obtain ⟨o, items, n, ho, _, hd, hi⟩ := hk
  unfold ofAClassStatement
  refine wpAny_bind (wpAny_typeOf hT ?_)
  have e : (("tuple" : String) == "tuple") = true := by decide
  simp only [e, if_true, Bool.not_true, Bool.false_eq_true, if_false]
  try refine wpAny_bind (wpAny_pure ?_)
  try simp only [Bool.not_true, Bool.false_eq_true, if_false]
  show wpAny _ _ (seqItems? (.ref b) >>= _) _ _ s
  refine wpAny_bind (wpAny_seqItems ho hd ?_)
  refine wpAny_bind ?_
  show wpAny _ _ (forIn items _ _) _ _ s
  rw [← Array.forIn_toList]
  refine wpAny_forIn_list _ (fun rest r s' => r.1 = none ∧ s' = s ∧ ∀ v ∈ rest, (∃ i t, v = Value.int i t) ∨ ∃ x t, v = Value.str x t) _ ?_ ?_ _ _ ⟨rfl, rfl, items_plain hi⟩
  · rintro v rest r s' ⟨hr, rfl, hall⟩
    rw [no_class _ (hall v List.mem_cons_self)]
    refine wpAny_bind (wpAny_pure ?_)
    simp only [Bool.false_eq_true, if_false]
    exact wpAny_pure ⟨rfl, rfl, fun u hu => hall u (List.mem_cons_of_mem _ hu)⟩
  · rintro ⟨r1, r2⟩ s' ⟨hr, rfl, _⟩
    simp only at hr
    subst hr
    exact wpAny_pure h
theorem by_value_tup {k : List Key} {b : Addr} {Q : Bool → Shared → Prop} (hk : IsTupleKey (mixKind P w) s.heap k b) (h : ∀ c, Q c s) : wpAny (model P w) A (hashByValue 8 (.ref b)) Q E s := by
  have hT := hk.typeIs
  obtain ⟨o, items, n, ho, _, hd, hi⟩ := hk
  unfold hashByValue
  refine wpAny_bind (wpAny_specialOf hT F.slot_tuple_hash.lookup ?_)
  show wpAny _ _ (seqItems? (.ref b) >>= _) _ _ s
  refine wpAny_bind (wpAny_seqItems ho hd ?_)
  refine wpAny_bind ?_
  show wpAny _ _ (forIn items _ _) _ _ s
  rw [← Array.forIn_toList]
  refine wpAny_forIn_list _ (fun rest r s' => s' = s ∧ ∀ v ∈ rest, (∃ i t, v = Value.int i t) ∨ ∃ x t, v = Value.str x t) _ ?_ ?_ _ _ ⟨rfl, items_plain hi⟩
  · rintro v rest r s' ⟨rfl, hall⟩
    obtain ⟨c, e⟩ := by_value 7 (hall v List.mem_cons_self)
    rw [e]
    refine wpAny_bind (wpAny_pure ?_)
    cases c
    · simp only [Bool.not_false, if_true]
      exact wpAny_pure (wpAny_pure (h _))
    · simp only [Bool.not_true, Bool.false_eq_true, if_false]
      exact wpAny_pure ⟨rfl, fun u hu => hall u (List.mem_cons_of_mem _ hu)⟩
  · rintro ⟨r1, r2⟩ s' ⟨rfl, _⟩
    cases r1
    · exact wpAny_pure (h _)
    · exact wpAny_pure (h _)
theorem unseen_tup {k : List Key} {b : Addr} {Q : Bool → Shared → Prop} (hk : IsTupleKey (mixKind P w) s.heap k b) {ys : List Value} (hy : ∀ y ∈ ys, ∃ k', isTk P w s.heap k' y) (h : Q false s) :
    wpAny (model P w) A (searchCouldBeSeen (.ref b) ys) Q E s := by
  unfold searchCouldBeSeen
  refine wpAny_bind ?_
  refine wpAny_forIn_list _ (fun rest r s' => r.1 = none ∧ s' = s ∧ ∀ y ∈ rest, ∃ k', isTk P w s.heap k' y) _ ?_ ?_ _ _ ⟨rfl, rfl, hy⟩
  · rintro v rest r s' ⟨hr, rfl, hall⟩
    obtain ⟨k', c, rfl, hc⟩ := hall v List.mem_cons_self
    have more : ∀ y ∈ rest, ∃ k', isTk P w s'.heap k' y := fun u hu => hall u (List.mem_cons_of_mem _ hu)
    dsimp only
    by_cases hv : (b == c || (carriedByValue (.ref b) && carriedByValue (.ref c))) = true
    · exact wp_if_pos hv (wpAny_pure ⟨rfl, rfl, more⟩)
    · refine wp_if_neg hv ?_
      refine wpAny_bind (wpAny_eqIsQuiet_tuple hk ?_)
      simp only [Bool.not_true, Bool.false_eq_true, if_false]
      refine wpAny_bind (wpAny_eqIsQuiet_tuple hc ?_)
      simp only [Bool.not_true, Bool.false_eq_true, if_false]
      refine wpAny_bind (no_class_tup hk ?_)
      simp only [Bool.false_eq_true, if_false]
      refine wpAny_bind (no_class_tup hc ?_)
      simp only [Bool.false_eq_true, if_false]
      exact wpAny_pure ⟨rfl, rfl, more⟩
  · rintro ⟨r1, r2⟩ s' ⟨hr, rfl, _⟩
    simp only at hr
    subst hr
    exact wpAny_pure h
end
def tupEK (P : Program) (w : World) : EK P w (List Key) where
  is := isTk P w
  hash := tupleKeyHash (mixKind P w)
  noscan := fun ⟨b, e, _⟩ => by subst e; rfl
  inj := fun ⟨b, e1, h1⟩ ⟨c, e2, h2⟩ => by
    subst e1
    injection e2 with e2
    subst e2
    exact h1.inj h2
  keep := fun ⟨b, e, o, items, n, ho, r⟩ k => ⟨b, e, o, items, n, k b o ho, r⟩
  same := fun {h h' k v a o es ep t} ⟨b, e, o', items, n, ho', hc, hd', hi⟩ ho hd sb => by
    have hne : b ≠ a := by
      rintro rfl
      obtain rfl : o' = o := Option.some.inj (ho'.symm.trans ho)
      rw [hd] at hd'
      exact nomatch hd'
    exact ⟨b, e, o', items, n, (sb.2 b hne).trans ho', hc, hd', hi⟩
  hashes := fun {A E s k v Q} hu ⟨b, e, hk⟩ hq => by
    subst e
    exact wpAny_pyHash_tuple hu hk (hq _ (Nat.le_add_right _ _))
  eqs := fun {A E s x y u v Q} hu ⟨b, e, hx⟩ ⟨c, e', hy⟩ hq => by
    subst e e'
    exact wpAny_eqBool_tuple hu hx hy hq
  self := fun {A E s k v Q} ⟨b, e, _⟩ hq => by
    subst e
    exact wpAny_isSame_ref_self hq
  unseen := fun {A E s k v ys Q} ⟨b, e, hk⟩ hy hq => by
    subst e
    exact unseen_tup hk hy hq
  byV := fun {A E s k v Q} ⟨b, e, hk⟩ hq => by
    subst e
    exact by_value_tup hk hq

theorem perm_map_ex {α β : Type} {f : β → α} : ∀ {vs : List α} {L : List β}, vs.Perm (L.map f) → ∃ L1 : List β, vs = L1.map f ∧ L1.Perm L
  | [], L, h => by
    have : L.map f = [] := List.Perm.nil_eq h ▸ rfl
    exact ⟨[], rfl, by rw [List.map_eq_nil_iff.mp this]⟩
  | v :: vs, L, h => by
    obtain ⟨x, hx, e⟩ := List.mem_map.mp (h.mem_iff.mp List.mem_cons_self)
    obtain ⟨A, B, rfl⟩ := List.append_of_mem hx
    have h2 : (v :: vs).Perm (v :: (A ++ B).map f) := h.trans (by
      rw [← e, ← List.map_cons (f := f)]
      exact List.perm_middle.map f)
    obtain ⟨L1, e1, p1⟩ := perm_map_ex h2.cons_inv
    exact ⟨x :: L1, by rw [List.map_cons, e, e1], (p1.cons x).trans List.perm_middle.symm⟩
section
variable {P : Program} {w : World} {A : Around} {E : Value → Shared → Prop} {s : Shared} {κ : Type} [DecidableEq κ] (G : AK P w κ)
/-- sorted(set) -/
theorem call_sorted {a : Addr} {L : List (κ × Value)} {Q : Value → Shared → Prop} (enc : κ → PyData) (rd : ∀ {h k v}, G.is h k v → Reads h v (enc k) []) (R : G.St s.heap a L) (el : ∀ p ∈ L, G.is s.heap p.1 p.2) (hh : A.handled = none)
    (hal : PySem.W.AllAlike (L.map fun p => enc p.1)) (hk : PySem.W.Sortable (L.map fun p => enc p.1)) (hu : ∀ p ∈ L, A.units + 2 + (enc p.1).depth < cLine) (hL : L.length ≤ sizeLine)
    (hQ : ∀ s' p (out : Array Value) (c : Nat) (L1 : List (κ × Value)), (∀ b o, s.heap.get? b = some o → s'.heap.get? b = some o) → s'.gens = s.gens → s'.os = s.os → s.heap.objs.size ≤ p → s'.heap.get? p = some (seqObj "list" out c) → L1.Perm L →
      out.toList = (L1.mergeSort (PySem.W.dataLe false fun p => enc p.1)).map (·.2) → Q (.ref p) s') :
    wpAny (model P w) A (call (.builtin "sorted") [.ref a]) Q E s := by
  obtain ⟨es, ep, t, hS, hf, hb, hr, hl, hp⟩ := G.all R
  refine Calls.call_function_entry kind_sorted plain_sorted entry_sorted (args_sorted1 _) ?_
  unfold Builtin.«sorted»
  refine wpAny_bind (m := checkCount "sorted" 1 1 _) (wpAny_pure ?_)
  refine wpAny_bind (collect_set (A := A.in1) hh hS hf hb hr hl fun s1 vs k1 hz g1 o1 pm => ?_)
  obtain ⟨L1, rfl, pL⟩ := perm_map_ex (pm.trans hp)
  have hL1 : L1.length ≤ sizeLine := by rw [pL.length_eq]; exact hL
  refine wpAny_bind (wpAny_newList ?_ (by rw [List.length_map]; exact hL1))
  have ho : (s1.heap.push (seqObj "list" (L1.map (·.2)).toArray 0)).get? s1.heap.objs.size = some (seqObj "list" (L1.map (·.2)).toArray 0) := Heap.get?_push_size _ rfl
  have pm1 := pL.map fun p => enc p.1
  have each : ∀ l : List (κ × Value), PySem.W.EachIs (fun (v : Value) (b : κ × Value) => v = b.2) (l.map (·.2)) l := fun l => by
    induction l with
    | nil => exact .nil
    | cons p l ih => exact .cons rfl ih
  have reads : ∀ l : List (κ × Value), (∀ p ∈ l, p ∈ L1) → PySem.W.EachIs (fun (v : Value) (b : κ × Value) => ∃ as, Reads (s1.heap.push (seqObj "list" (L1.map (·.2)).toArray 0)) v (enc b.1) as ∧ s1.heap.objs.size ∉ as) (l.map (·.2)) l := fun l hl => by
    induction l with
    | nil => exact .nil
    | cons p l ih => exact .cons ⟨[], rd (G.keep (el p (pL.mem_iff.mp (hl p List.mem_cons_self))) fun b o e => Heap.get?_push_of_some _ (k1 b o e)), by simp⟩ (ih fun q hq => hl q (List.mem_cons_of_mem _ hq))
  refine wpAny_bind (wpAny_holding (PySem.W.list_sort_data (s := { s1 with heap := s1.heap.push (seqObj "list" (L1.map (·.2)).toArray 0) }) (R := fun v (b : κ × Value) => v = b.2) (enc := fun p => enc p.1) ho (each L1) (reads L1 fun _ h => h)
    (fun d hd d' hd' => hal d (pm1.mem_iff.mp hd) d' (pm1.mem_iff.mp hd')) (hk.imp (fun z d hd => z d (pm1.mem_iff.mp hd)) fun z d hd => z d (pm1.mem_iff.mp hd)) hL1 (fun p hp => by
      have := hu p (pL.mem_iff.mp hp)
      show A.units + 1 + 1 + _ < _
      omega) fun out hlen hout => ?_))
  obtain ⟨c, hc⟩ := sortedHeap_at (vs := L1.map (·.2)) (out := out.toArray) ho
  refine wpAny_pure ⟨_, rfl, hQ _ s1.heap.objs.size out.toArray c L1 (fun b u e => ?_) g1 o1 hz hc pL ?_⟩
  · have q := k1 b u e
    have hlt := Heap.lt_size q
    show (sortedHeap (s1.heap.push (seqObj "list" (L1.map (·.2)).toArray 0)) s1.heap.objs.size (L1.map (·.2)) out.toArray).get? b = some u
    rw [sortedHeap_old (Nat.ne_of_lt hlt) (by rw [size_push']; exact Nat.lt_succ_of_lt hlt)]
    exact Heap.get?_push_of_some _ q
  · have fin : ∀ {vs : List Value} {bs : List (κ × Value)}, PySem.W.EachIs (fun v (b : κ × Value) => v = b.2) vs bs → vs = bs.map (·.2) := fun h => by
      induction h with
      | nil => rfl
      | cons h1 _ ih => rw [h1, ih]; rfl
    show out = _
    exact fin hout
end
end VSet

set_option Elab.async false
set_option linter.all false
set_option maxRecDepth 100000
set_option maxHeartbeats 4000000
namespace VSet
open PySem PySem.Spec PyProof.Rows L2
/-- a kind as the walk sees it -/
structure KN (X : Cx) (κ : Type) [DecidableEq κ] where
  G : AK X.prog X.w κ
  enc : κ → PyData
  rd : ∀ {h k v}, G.is h k v → Reads h v (enc k) []
  deep : ∀ k, (enc k).depth ≤ 60
  vis : Hp → κ → V → Prop
  ok : ∀ {pins : List (Addr × Obj)} {σ : L2.St} {H : Hp} {s : Shared} {k : κ} {v : V} {u : Value}, Inv X pins σ H s → vis H k v → RelV v u → G.is s.heap k u
/-- sorted(set(xs)) -/
def rSS {X : Cx} {κ : Type} [DecidableEq κ] (N : KN X κ) : List V → Hp → VK → Prop := fun xs H Q => ∃ (l : Addr) (zs : List (κ × V)), xs = [.ref l] ∧ SqL X.K H l (zs.map (·.2)) ∧ (∀ z ∈ zs, N.vis H z.1 z.2) ∧ zs.length < 64 ∧
  PySem.W.AllAlike (zs.map fun z => N.enc z.1) ∧ PySem.W.Sortable (zs.map fun z => N.enc z.1) ∧
  ∀ (ks : List κ) (zs' : List (κ × V)) (p : Addr), ks.Nodup → (∀ k, k ∈ ks ↔ k ∈ zs.map (·.1)) → zs'.map (·.1) = ks.mergeSort (PySem.W.dataLe false N.enc) → (∀ z ∈ zs', z ∈ zs) → H p = none → Q (.ref p) (upd H p (.lst (zs'.map (·.2))))
section
variable {X : Cx} {κ : Type} [DecidableEq κ] {N : KN X κ} {pins : List (Addr × Obj)} {σ : L2.St} {H : Hp} {s : Shared}
theorem zip_vals {β : Type} : ∀ {zs : List (β × V)} {us : List Value}, Vals (zs.map (·.2)) us → ∃ ks : List (β × Value), us = ks.map (·.2) ∧ ks.map (·.1) = zs.map (·.1) ∧ ∀ p ∈ ks, ∃ z ∈ zs, z.1 = p.1 ∧ RelV z.2 p.2
  | [], _, h => by cases h; exact ⟨[], rfl, rfl, by simp⟩
  | z :: zs, _, h => by
    cases h with
    | cons h1 h2 =>
      rename_i u us
      obtain ⟨ks, e1, e2, e3⟩ := zip_vals h2
      refine ⟨(z.1, u) :: ks, by rw [e1]; rfl, by rw [List.map_cons, e2]; rfl, fun p hp => ?_⟩
      rcases List.mem_cons.mp hp with rfl | hp
      · exact ⟨z, List.mem_cons_self, rfl, h1⟩
      · obtain ⟨z', a, b⟩ := e3 p hp
        exact ⟨z', List.mem_cons_of_mem _ a, b⟩
theorem unzip_vals {β : Type} {zs : List (β × V)} : ∀ {L : List (β × Value)}, (∀ p ∈ L, ∃ z ∈ zs, z.1 = p.1 ∧ RelV z.2 p.2) → ∃ zs' : List (β × V), zs'.map (·.1) = L.map (·.1) ∧ Vals (zs'.map (·.2)) (L.map (·.2)) ∧ ∀ z ∈ zs', z ∈ zs
  | [], _ => ⟨[], rfl, .nil, by simp⟩
  | p :: L, h => by
    obtain ⟨z, hz, e, r⟩ := h p List.mem_cons_self
    obtain ⟨zs', e1, e2, e3⟩ := unzip_vals fun q hq => h q (List.mem_cons_of_mem _ hq)
    refine ⟨z :: zs', by rw [List.map_cons, e1, e]; rfl, .cons r e2, fun y hy => ?_⟩
    rcases List.mem_cons.mp hy with rfl | hy
    · exact hz
    · exact e3 y hy
theorem ss_run (hc : X.calm = true) (hu : X.A.units + 65 < cLine) {xs : List V} {us : List Value} {Q : VK} (I : Inv X pins σ H s) (r : Vals xs us) (h : rSS N xs H Q) :
    wpAny (model X.prog X.w) X.A (call (.type "set") us) (fun u s2 => wpAny (model X.prog X.w) X.A (call (.builtin "sorted") [u]) (EP X pins σ Q) X.xe s2) X.xe s := by
  obtain ⟨l, zs, rfl, hl, hv, hn, hal, hk, q⟩ := h
  obtain ⟨its, rv, pl, hz⟩ := I.list hl
  rw [Vals.ref1 r]
  obtain ⟨ks, e1, e2, e3⟩ := zip_vals rv
  have hks : ∀ p ∈ ks, N.G.is s.heap p.1 p.2 := fun p hp => by
    obtain ⟨z, h1, h2, h3⟩ := e3 p hp
    rw [← h2]
    exact N.ok I (hv z h1) h3
  have hlen : ks.length = zs.length := by
    have := congrArg List.length e2
    simpa using this
  refine call_set N.G ks (I.ok.hd hc) pl.isList (by simpa using e1) hks (by omega) (by omega) fun h' tk L hS hH hkeep => ?_
  have sub : ∀ p ∈ L, p ∈ ks := fun p hp => List.mem_of_mem_take (hH.sub p hp)
  have all : ∀ p ∈ ks, p.1 ∈ L.map (·.1) := fun p hp => hH.all p (by rw [List.take_length]; exact hp)
  have I2 : Inv X pins σ H { s with heap := h', toks := tk } := I.call (ch := []) (Un.kept hkeep) (I.hok.kept hkeep) I.bare fun _ z => nomatch z
  have encs : ∀ p ∈ ks, N.enc p.1 ∈ zs.map fun z => N.enc z.1 := fun p hp => by
    obtain ⟨z, h1, h2, _⟩ := e3 p hp
    exact List.mem_map.mpr ⟨z, h1, by rw [h2]⟩
  have encL : ∀ d ∈ L.map (fun p => N.enc p.1), d ∈ zs.map fun z => N.enc z.1 := fun d hd => by
    obtain ⟨p, hp, rfl⟩ := List.mem_map.mp hd
    exact encs p (sub p hp)
  refine call_sorted N.G (s := { s with heap := h', toks := tk }) N.enc N.rd hS (fun p hp => N.G.keep (hks p (sub p hp)) hkeep) (I.ok.hd hc) (fun d hd d' hd' => hal d (encL d hd) d' (encL d' hd')) (hk.imp (fun z d hd => z d (encL d hd)) fun z d hd => z d (encL d hd))
    (fun p _ => by have := N.deep p.1; omega) (by have := hH.len; rw [sizeLine_eq]; omega) fun s3 p out c L1 k3 g3 o3 hp hget pm hout => ?_
  obtain ⟨zs', f1, f2, f3⟩ := unzip_vals (zs := zs) (L := L1.mergeSort (PySem.W.dataLe false fun p => N.enc p.1)) fun p hp => e3 p (sub p (pm.mem_iff.mp ((List.mergeSort_perm _ _).mem_iff.mp hp)))
  have hnp : H p = none := I2.hok.fresh hp
  have hz' : zs'.length ≤ sizeLine := by
    have a1 := congrArg List.length f1
    rw [List.length_map, List.length_map, List.length_mergeSort, pm.length_eq] at a1
    have := hH.len
    rw [a1, sizeLine_eq]
    omega
  have J : Inv X pins σ (upd H p (.lst (zs'.map (·.2)))) s3 := I2.call' (s' := s3) (ch := []) o3 (Un.laid k3 hp hnp) (I2.hok.laid k3 hp ⟨by rw [List.length_map]; exact hz', out.toList, c, by rw [hout]; exact f2, by simpa using hget⟩) (by rw [g3]; exact I2.bare) fun _ z => nomatch z
  refine ⟨.ref p, _, J, rfl, q (L1.map (·.1)) zs' p ((pm.map (·.1)).nodup_iff.mpr (N.G.nd hS)) (fun k => ?_) ?_ f3 hnp⟩
  · rw [(pm.map (·.1)).mem_iff, ← e2]
    constructor
    · intro h
      obtain ⟨p, hp, rfl⟩ := List.mem_map.mp h
      exact List.mem_map_of_mem (sub p hp)
    · intro h
      obtain ⟨p, hp, rfl⟩ := List.mem_map.mp h
      exact all p hp
  · rw [f1, ← VS.mergeSort_map (fun p : κ × Value => p.1) (PySem.W.dataLe false N.enc) L1]
    rfl
end

section
variable {X : Cx} {e : Expr} {t : TA} {p p2 pos pos2 : Pos} {x y : Str}
/-- sorted(set(e)) for any rule of both calls together -/
theorem pe_nest {f g : Value} {r : List V → Hp → VK → Prop} {idf idg : String}
    (hr : ∀ (pins : List (Addr × Obj)) (s : Shared) (σ : L2.St) (H : Hp) (xs : List V) (us : List Value) (Q : VK), Inv X pins σ H s → Vals xs us → r xs H Q →
      wpAny (model X.prog X.w) X.A (call (.type idg) us) (fun u s2 => wpAny (model X.prog X.w) X.A (call (.builtin idf) [u]) (EP X pins σ Q) X.xe s2) X.xe s)
    (hgx : Gl X x) (hmx : X.mg x = none) (hvx : bootBuiltins x = some (.builtin idf)) (hgy : Gl X y) (hmy : X.mg y = none) (hvy : bootBuiltins y = some (.type idg)) (ha : PA X [e] t)
    (hnx : x ≠ "__name__" := by decide) (hdx : (x == ("__debug__" : Str)) = false := by decide) (hny : y ≠ "__name__" := by decide) (hdy : (y == ("__debug__" : Str)) = false := by decide)
    (he : starEach [e] X.env = (false, eval e X.env) :: starEach [] X.env := by rfl) (hpl : (backTo pos2 (starEach [] X.env)).any (·.1) = false := by rfl)
    (he2 : starEach [.Call (.Name y p2) [e] [] pos2] X.env = (false, eval (.Call (.Name y p2) [e] [] pos2) X.env) :: starEach [] X.env := by rfl) (hpl2 : (backTo pos (starEach [] X.env)).any (·.1) = false := by rfl) :
    PE X (.Call (.Name x p) [.Call (.Name y p2) [e] [] pos2] [] pos) (tCB r t) := by
  refine ⟨fun pins s σ H Q I h => ?_⟩
  refine wpAny_Call_Name_kw (ld_blt I hgx hmx hvx ?_ hnx hdx)
  refine PyProof.Rows.callWith_builtin1 ?_ he2 hpl2
  rw [he2]
  show wpAny _ _ (spliced ((false, eval (.Call (.Name y p2) [e] [] pos2) X.env) :: backTo pos (starEach [] X.env))) _ _ s
  refine Calls.spliced_cons ?_
  refine wpAny_mono (Q := fun u s2 => wpAny (model X.prog X.w) X.A (call (.builtin idf) [u]) (EP X pins σ Q) X.xe s2) ?_ (fun u s2 hq => Calls.spliced_nil hq) fun _ _ z => z
  refine wpAny_Call_Name_kw (ld_blt I hgy hmy hvy ?_ hny hdy)
  exact PyProof.Rows.callWith_type1 (thn (ha.run pos2 pins s σ H _ I h) fun us s1 ⟨vs, H1, I1, r1, q1⟩ => hr pins s1 σ H1 vs us Q I1 r1 q1) he hpl
end
def encK : Key → PyData
  | .inl i => .int i
  | .inr x => .str x
theorem encK_rd {k : Key} {v : Value} {h : Heap} (e : keyIs k v = true) : Reads h v (encK k) [] := by
  rcases keyIs_shape e with ⟨i, t, rfl, rfl⟩ | ⟨x, t, rfl, rfl⟩
  · exact .int i t
  · exact .str x t
theorem items_rd {P : Program} {w : World} {h : Heap} {k : List Key} {vs : List Value} (e : ItemsAre (mixKind P w) k vs) : ReadsAll h vs (k.map encK) [] := by
  induction e with
  | nil => exact .nil
  | cons h1 _ ih => exact .cons (encK_rd h1) ih
theorem encK_depth (k : Key) : (encK k).depth ≤ 1 := by
  cases k <;> simp [encK, PyData.depth]
theorem encKs_depth : ∀ k : List Key, PyData.depthAll (k.map encK) ≤ 1
  | [] => by simp [PyData.depthAll]
  | x :: k => by
    have := encK_depth x
    have := encKs_depth k
    simp only [List.map_cons, PyData.depthAll]
    omega
theorem items_mix {P : Program} {w : World} : ∀ {k : List Key} {us : List Value}, Vals (k.map kV) us → ItemsAre (mixKind P w) k us
  | [], _, .nil => .nil
  | c :: k, _, .cons r t => .cons (kV_is r) (items_mix t)
def keyKN (X : Cx) : KN X Key where
  G := keyAK X.prog X.w
  enc := encK
  rd := fun h => encK_rd h
  deep := fun k => Nat.le_trans (encK_depth k) (by decide)
  vis := fun _ k v => v = kV k
  ok := fun {pins σ H s k v u} _ e r => by
    subst e
    show keyIs k u = true
    exact kV_is (P := X.prog) (w := X.w) r
def tupKN (X : Cx) : KN X (List Key) where
  G := (tupEK X.prog X.w).ak
  enc := fun k => .tuple (k.map encK)
  rd := fun {h k v} ⟨b, e, o, items, n, ho, hc, hd, hi⟩ => by
    subst e
    exact .tuple ho hc hd (items_rd hi)
  deep := fun k => by
    have := encKs_depth k
    simp only [PyData.depth]
    omega
  vis := fun H k v => ∃ b, v = .ref b ∧ SqT X.K H b (k.map kV)
  ok := fun {pins σ H s k v u} I ⟨b, e, h⟩ r => by
    subst e
    cases (show u = Value.ref b from r)
    obtain ⟨its, rv, ⟨o, ho, hc, n, hd⟩, _⟩ := I.tuple h
    exact ⟨b, rfl, o, its.toArray, n, ho, hc, hd, by simpa using items_mix rv⟩
end VSet

set_option Elab.async false
set_option linter.all false
set_option maxRecDepth 100000
set_option maxHeartbeats 4000000
namespace VS
open PySem L2 PyProof.Rows
variable [TabT]
/-! ### mergeSort by the members alone -/
theorem ms_pairwise {α : Type} (le : α → α → Bool) (l : List α) (tr : ∀ a ∈ l, ∀ b ∈ l, ∀ c ∈ l, le a b = true → le b c = true → le a c = true) (to : ∀ a ∈ l, ∀ b ∈ l, (le a b || le b a) = true) : (l.mergeSort le).Pairwise fun a b => le a b = true := by
  have e : (l.attach.mergeSort fun a b => le a.1 b.1).map (·.1) = l.mergeSort le := by
    rw [mergeSort_map (fun a : {x // x ∈ l} => a.1) le, List.attach_map_subtype_val]
  rw [← e, List.pairwise_map]
  exact List.pairwise_mergeSort (le := fun a b : {x // x ∈ l} => le a.1 b.1) (fun a b c => tr a.1 a.2 b.1 b.2 c.1 c.2) (fun a b => to a.1 a.2 b.1 b.2) _
theorem ms_unique {α : Type} (le : α → α → Bool) {l l' : List α} (p : l.Perm l') (tr : ∀ a ∈ l, ∀ b ∈ l, ∀ c ∈ l, le a b = true → le b c = true → le a c = true) (to : ∀ a ∈ l, ∀ b ∈ l, (le a b || le b a) = true)
    (an : ∀ a ∈ l, ∀ b ∈ l, le a b = true → le b a = true → a = b) : l.mergeSort le = l'.mergeSort le := by
  have h1 := ms_pairwise le l tr to
  have h2 := ms_pairwise le l' (fun a ha b hb c hc => tr a (p.mem_iff.mpr ha) b (p.mem_iff.mpr hb) c (p.mem_iff.mpr hc)) fun a ha b hb => to a (p.mem_iff.mpr ha) b (p.mem_iff.mpr hb)
  have q : (l.mergeSort le).Perm (l'.mergeSort le) := (List.mergeSort_perm _ _).trans (p.trans (List.mergeSort_perm _ _).symm)
  exact List.Perm.eq_of_pairwise (fun a b ha hb => an a ((List.mergeSort_perm _ _).mem_iff.mp ha) b (p.mem_iff.mpr ((List.mergeSort_perm _ _).mem_iff.mp hb))) h1 h2 q

/-! ### sorted(set(xs)) -/
def dedupD : List D → List D
  | [] => []
  | d :: ds => if ds.any (sameK d) = true then dedupD ds else d :: dedupD ds
def ord3 (ds : List D) : Bool := ds.all fun a => ds.all fun b => (sleD a b || sleD b a) && (!(sleD a b && sleD b a) || sameK a b) && ds.all fun c => !(sleD a b && sleD b c) || sleD a c
def usOk (ds : List D) : Bool := decide (ds.length < 64) && sortOk ds && (ds.all (fun d => (kdOf d).isSome) || ds.all fun d => (ktOf d).isSome) && ord3 ds
def usortD : List D → Option EV
  | [.lst xs] => if usOk xs = true then some (.fresh (.lst ((dedupD xs).mergeSort sleD))) else none
  | _ => none
section
variable {X : Cx} {κ : Type} [DecidableEq κ] {N : VSet.KN X κ}
def dedupK : List κ → List κ
  | [] => []
  | k :: ks => if k ∈ ks then dedupK ks else k :: dedupK ks
theorem dedupK_mem {k : κ} : ∀ {ks : List κ}, k ∈ dedupK ks ↔ k ∈ ks
  | [] => by simp [dedupK]
  | x :: ks => by
    unfold dedupK
    split
    · rename_i h
      rw [dedupK_mem, List.mem_cons]
      exact ⟨.inr, fun z => z.elim (fun e => e ▸ h) id⟩
    · rw [List.mem_cons, List.mem_cons, dedupK_mem]
theorem dedupK_nodup : ∀ ks : List κ, (dedupK ks).Nodup
  | [] => List.nodup_nil
  | x :: ks => by
    unfold dedupK
    split
    · exact dedupK_nodup ks
    · rename_i h
      exact List.nodup_cons.mpr ⟨fun z => h (dedupK_mem.mp z), dedupK_nodup ks⟩
theorem dedupD_map (f : κ → D) (hf : ∀ k k', sameK (f k) (f k') = decide (k = k')) : ∀ ks : List κ, dedupD (ks.map f) = (dedupK ks).map f
  | [] => rfl
  | k :: ks => by
    have e : (ks.map f).any (sameK (f k)) = decide (k ∈ ks) := by
      rw [List.any_map, Bool.eq_iff_iff, List.any_eq_true, decide_eq_true_eq]
      constructor
      · rintro ⟨x, hx, h⟩
        have : k = x := by simpa [hf] using h
        rw [this]
        exact hx
      · intro h
        exact ⟨k, h, by simp [hf]⟩
    simp only [List.map_cons, dedupD, dedupK, e, decide_eq_true_eq]
    split
    · exact dedupD_map f hf ks
    · rw [dedupD_map f hf ks, List.map_cons]
theorem sortable_of {xs : List D} (c1 : xs.all (dpt 60) = true) (c3 : (xs.all tupD || xs.all plainD) = true) : PySem.W.Sortable (xs.map toPy) := by
  rw [Bool.or_eq_true, List.all_eq_true, List.all_eq_true] at c3
  rcases c3 with c3 | c3
  · left
    intro d hd
    obtain ⟨x, hx, rfl⟩ := List.mem_map.mp hd
    have := c3 x hx
    unfold tupD at this
    split at this
    · rename_i y ys
      exact ⟨toPy y, toPys ys, by simp only [toPy, toPys]⟩
    · cases this
  · right
    intro d hd
    obtain ⟨x, hx, rfl⟩ := List.mem_map.mp hd
    have c4 := c3 x hx
    have c5 : dpt 60 x = true := by rw [List.all_eq_true] at c1; exact c1 x hx
    cases x <;> first
      | (cases c4; done)
      | (simp [toPy]; done)
      | (exact absurd c5 (by simp [dpt]; done))
theorem us_ok (f : κ → D) (hf : ∀ k k', sameK (f k) (f k') = decide (k = k')) (hpy : ∀ k, toPy (f k) = N.enc k) (hvis : ∀ (F H : Hp) k v, Same F H → RD X.K X.mg F (f k) v → N.vis H k v) {F H : Hp} {xs : List V} {ks : List κ} {Q : VK} (hl : Same F H)
    (rx : RPs X.K X.mg F H [.lst (ks.map f)] xs) (hc : usOk (ks.map f) = true) (k : GQ X.K X.mg F H (.fresh (.lst ((dedupD (ks.map f)).mergeSort sleD))) Q) : VSet.rSS N xs H Q := by
  unfold usOk at hc
  simp only [Bool.and_eq_true, decide_eq_true_eq] at hc
  obtain ⟨⟨⟨c0, cs⟩, _⟩, c3⟩ := hc
  unfold sortOk at cs
  simp only [Bool.and_eq_true] at cs
  obtain ⟨⟨c1, c2⟩, c4⟩ := cs
  obtain ⟨v, rfl, h⟩ := rx.one
  obtain ⟨a, vs, rfl, h1, h2⟩ := h.lst hl
  obtain ⟨hp, hlen⟩ := h2.pairs
  rw [List.length_map] at hlen c0
  have f1 : (ks.zip vs).map (·.1) = ks := zip_fst hlen
  have f2 : (ks.zip vs).map (·.2) = vs := zip_snd hlen
  have hq : ∀ z ∈ ks.zip vs, RD X.K X.mg F (f z.1) z.2 := fun z hz => by
    refine hp (f z.1, z.2) ?_
    rw [List.zip_map_left]
    exact List.mem_map.mpr ⟨z, hz, rfl⟩
  have g1 : (ks.zip vs).map (fun z => N.enc z.1) = (ks.map f).map toPy := by
    rw [List.map_map]
    have : (toPy ∘ f) = N.enc := funext hpy
    rw [this]
    conv => rhs; rw [← f1, List.map_map]
    rfl
  refine ⟨a, ks.zip vs, rfl, by rw [f2]; exact h1, fun z hz => hvis F H _ _ hl (hq z hz), ?_, ?_, ?_, ?_⟩
  · rw [List.length_zip]; omega
  · rw [g1]
    intro d hd d' hd'
    obtain ⟨x, hx, rfl⟩ := List.mem_map.mp hd
    obtain ⟨y, hy, rfl⟩ := List.mem_map.mp hd'
    rw [List.all_eq_true] at c2
    have := c2 x hx
    rw [List.all_eq_true] at this
    exact this y hy
  · rw [g1]
    exact sortable_of c1 c4
  · intro ks1 zs' p n1 m1 e1 s1 hn
    rw [f1] at m1
    have le_eq : PySem.W.dataLe false N.enc = fun x y => sleD (f x) (f y) := by
      rw [PySem.W.dataLe_eq]
      funext x y
      simp only [sleD, hpy, cond_false]
    have key : (dedupD (ks.map f)).mergeSort sleD = (zs'.map (·.1)).map f := by
      rw [dedupD_map f hf, e1, le_eq, ← mergeSort_map f sleD]
      congr 1
      have c5 : ∀ a ∈ ks, ∀ b ∈ ks, ((sleD (f a) (f b) || sleD (f b) (f a)) && (!(sleD (f a) (f b) && sleD (f b) (f a)) || sameK (f a) (f b)) && (ks.map f).all fun c => !(sleD (f a) (f b) && sleD (f b) c) || sleD (f a) c) = true := fun a ha b hb => by
        unfold ord3 at c3
        rw [List.all_eq_true] at c3
        have := c3 (f a) (List.mem_map_of_mem ha)
        rw [List.all_eq_true] at this
        exact this (f b) (List.mem_map_of_mem hb)
      refine ms_unique (fun x y => sleD (f x) (f y)) ?_ (fun a ha b hb c hcc x y => ?_) (fun a ha b hb => ?_) fun a ha b hb x y => ?_
      · exact (List.perm_ext_iff_of_nodup (dedupK_nodup ks) n1).mpr fun k => by rw [dedupK_mem, m1]
      · have q := c5 a (dedupK_mem.mp ha) b (dedupK_mem.mp hb)
        rw [Bool.and_eq_true, List.all_eq_true] at q
        have := q.2 (f c) (List.mem_map_of_mem (dedupK_mem.mp hcc))
        rw [x, y] at this
        simpa using this
      · have q := c5 a (dedupK_mem.mp ha) b (dedupK_mem.mp hb)
        rw [Bool.and_eq_true, Bool.and_eq_true] at q
        exact q.1.1
      · have q := c5 a (dedupK_mem.mp ha) b (dedupK_mem.mp hb)
        rw [Bool.and_eq_true, Bool.and_eq_true, x, y] at q
        have := q.1.2
        simpa [hf] using this
    rw [key] at k
    have hz : RDs X.K X.mg F ((zs'.map fun z => (f z.1, z.2)).map (·.1)) ((zs'.map fun z => (f z.1, z.2)).map (·.2)) := RDs.of_pairs fun q hqm => by
      obtain ⟨z, hzm, rfl⟩ := List.mem_map.mp hqm
      exact hq z (s1 z hzm)
    rw [List.map_map, List.map_map] at hz
    refine gq_list hl k ?_ p hn
    rw [List.map_map]
    exact hz

theorem toPy_kD (k : Key) : toPy (kD k) = VSet.encK k := by
  cases k <;> simp [kD, toPy, VSet.encK]
theorem toPys_kD (ks : List Key) : toPys (ks.map kD) = ks.map VSet.encK := by
  rw [toPys_map, List.map_map]
  congr 1
  funext k
  exact toPy_kD k
theorem all_some {α β : Type} (f : α → Option β) : ∀ {l : List α}, (l.all fun a => (f a).isSome) = true → ∃ ks : List β, l.map f = ks.map some
  | [], _ => ⟨[], rfl⟩
  | a :: l, h => by
    rw [List.all_cons, Bool.and_eq_true] at h
    obtain ⟨ks, e⟩ := all_some f h.2
    obtain ⟨b, hb⟩ := Option.isSome_iff_exists.mp h.1
    exact ⟨b :: ks, by rw [List.map_cons, List.map_cons, hb, e]⟩
theorem all_kD {l : List D} (h : (l.all fun d => (kdOf d).isSome) = true) : ∃ ks : List Key, l = ks.map kD := by
  obtain ⟨ks, e⟩ := all_some kdOf h
  refine ⟨ks, ?_⟩
  clear h
  induction l generalizing ks with
  | nil => cases ks with
    | nil => rfl
    | cons k ks => cases e
  | cons a l ih => cases ks with
    | nil => cases e
    | cons k ks =>
      simp only [List.map_cons, List.cons.injEq] at e
      rw [List.map_cons, kdOf_eq e.1, ← ih ks e.2]
theorem all_tD {l : List D} (h : (l.all fun d => (ktOf d).isSome) = true) : ∃ ks : List (List Key), l = ks.map tD := by
  obtain ⟨ks, e⟩ := all_some ktOf h
  refine ⟨ks, ?_⟩
  clear h
  induction l generalizing ks with
  | nil => cases ks with
    | nil => rfl
    | cons k ks => cases e
  | cons a l ih => cases ks with
    | nil => cases e
    | cons k ks =>
      simp only [List.map_cons, List.cons.injEq] at e
      rw [List.map_cons, ktOf_eq e.1, ← ih ks e.2]
/-- sorted(set(e)) -/
theorem ve_usort {X : Cx} {e : Expr} {ml : ML} {p p2 pos pos2 : Pos} (hc : X.calm = true) (hu : X.A.units + 65 < cLine) (ha : VA X [e] ml) (hm1 : X.mg "sorted" = none) (hm2 : X.mg "set" = none) (hg1 : Gl X "sorted" := by rfl) (hg2 : Gl X "set" := by rfl)
    (he : starEach [e] X.env = (false, eval e X.env) :: starEach [] X.env := by rfl) (hpl : (backTo pos2 (starEach [] X.env)).any (·.1) = false := by rfl)
    (he2 : starEach [.Call (.Name "set" p2) [e] [] pos2] X.env = (false, eval (.Call (.Name "set" p2) [e] [] pos2) X.env) :: starEach [] X.env := by rfl) (hpl2 : (backTo pos (starEach [] X.env)).any (·.1) = false := by rfl) :
    VE X (.Call (.Name "sorted" p) [.Call (.Name "set" p2) [e] [] pos2] [] pos) (mCallB usortD ml) := by
  refine pe_of (VSet.pe_nest (idf := "sorted") (idg := "set") (f := .none) (g := .none) (r := fun xs H Q => VSet.rSS (VSet.keyKN X) xs H Q ∨ VSet.rSS (VSet.tupKN X) xs H Q) (fun pins s σ H xs us Q I r h => ?_) hg1 hm1 (by decide +kernel) hg2 hm2 (by decide +kernel) ha (he := he) (hpl := hpl) (he2 := he2) (hpl2 := hpl2)) fun σ H Q h => callB_run ?_ h
  · rcases h with h | h
    · exact VSet.ss_run hc hu I r h
    · exact VSet.ss_run hc hu I r h
  · intro F H xs ds res Q hl rx hg k
    unfold usortD at hg
    split at hg
    · rename_i zs
      by_cases hz : usOk zs = true
      · rw [if_pos hz] at hg
        cases hg
        have hz0 := hz
        unfold usOk at hz
        simp only [Bool.and_eq_true, Bool.or_eq_true] at hz
        rcases hz.1.2 with h | h
        · obtain ⟨ks, rfl⟩ := all_kD h
          exact .inl (us_ok kD sameK_kD toPy_kD (fun F H k v _ h => rd_kV k h) hl rx hz0 k)
        · obtain ⟨ks, rfl⟩ := all_tD h
          refine .inr (us_ok tD sameK_tD (fun k => ?_) (fun F H k v hs h => ?_) hl rx hz0 k)
          · simp only [tD, toPy, toPys_kD]
            rfl
          · simp only [tD, RD] at h
            obtain ⟨b, vs, rfl, h1, h2⟩ := h
            refine ⟨b, rfl, ?_⟩
            rw [← rds_kV h2]
            exact sqT_mono hs h1
      · rw [if_neg hz] at hg
        cases hg
    · cases hg
end
end VS

set_option Elab.async false
set_option linter.all false
set_option maxRecDepth 100000
set_option maxHeartbeats 4000000
/-! ### sorted(set(..)), dicts: typed -/
namespace VS
open PySem L2 PyProof.Rows
local instance : TabT := ⟨[], false⟩
/-- what is encoded is a key: an int or a text; a tuple of these -/
def KeK {α : Type} (e : α → D) : Prop := ∃ kf : α → Key, (∀ a, kdOf (e a) = some (kf a)) ∧ ∀ a b, kf a = kf b → a = b
def KeT {α : Type} (e : α → D) : Prop := ∃ kf : α → List Key, (∀ a, kdOf (e a) = none ∧ ktOf (e a) = some (kf a)) ∧ ∀ a b, kf a = kf b → a = b
section
variable {α β γ : Type}
theorem kk_I : KeK D.int := ⟨fun i => .inl i, fun _ => rfl, fun a b h => by injection h⟩
theorem kk_S : KeK D.str := ⟨fun s => .inr ⟨s.toArray⟩, fun _ => rfl, fun a b h => by
  have h1 : (⟨a.toArray⟩ : Str) = ⟨b.toArray⟩ := Sum.inr.inj h
  have h2 := congrArg (fun s : Str => s.cps.toList) h1
  simpa using h2⟩
theorem kt_P2 {e : α → D} {f : β → D} (h : KeK e) (g : KeK f) : KeT (eP2 e f) := by
  obtain ⟨k1, a1, b1⟩ := h
  obtain ⟨k2, a2, b2⟩ := g
  refine ⟨fun p => [k1 p.1, k2 p.2], fun p => ⟨rfl, by simp [eP2, ktOf, ksOf, a1, a2]⟩, fun p q h => ?_⟩
  simp only [List.cons.injEq, and_true] at h
  exact Prod.ext (b1 _ _ h.1) (b2 _ _ h.2)
theorem kt_P3 {e : α → D} {f : β → D} {g : γ → D} (h : KeK e) (h2 : KeK f) (h3 : KeK g) : KeT (eP3 e f g) := by
  obtain ⟨k1, a1, b1⟩ := h
  obtain ⟨k2, a2, b2⟩ := h2
  obtain ⟨k3, a3, b3⟩ := h3
  refine ⟨fun p => [k1 p.1, k2 p.2.1, k3 p.2.2], fun p => ⟨rfl, by simp [eP3, ktOf, ksOf, a1, a2, a3]⟩, fun p q h => ?_⟩
  simp only [List.cons.injEq, and_true] at h
  exact Prod.ext (b1 _ _ h.1) (Prod.ext (b2 _ _ h.2.1) (b3 _ _ h.2.2))
theorem ksOf_map {e : α → D} {k : α → Key} (h : ∀ a, kdOf (e a) = some (k a)) : ∀ xs : List α, ksOf (xs.map e) = some (xs.map k)
  | [] => rfl
  | x :: xs => by simp only [List.map_cons, ksOf, h, ksOf_map h xs, Option.bind_some, Option.map_some]
theorem map_inj {k : α → Key} (h : ∀ a b, k a = k b → a = b) : ∀ xs ys : List α, xs.map k = ys.map k → xs = ys
  | [], [], _ => rfl
  | [], _ :: _, e => by cases e
  | _ :: _, [], e => by cases e
  | x :: xs, y :: ys, e => by
    simp only [List.map_cons, List.cons.injEq] at e
    rw [h x y e.1, map_inj h xs ys e.2]
theorem kt_T {e : α → D} (h : KeK e) : KeT (eT e) := by
  obtain ⟨k, a, b⟩ := h
  exact ⟨fun xs => xs.map k, fun xs => ⟨rfl, by simp only [eT, ktOf, ksOf_map a]⟩, map_inj b⟩
theorem keK_same [DecidableEq α] {e : α → D} (h : KeK e) (a b : α) : sameK (e a) (e b) = decide (a = b) := by
  obtain ⟨k, h1, h2⟩ := h
  unfold sameK keyOf
  rw [h1, h1]
  simp only [Option.some.injEq, Sum.inl.injEq]
  exact decide_eq_decide.mpr ⟨h2 a b, fun e => by rw [e]⟩
theorem keT_same [DecidableEq α] {e : α → D} (h : KeT e) (a b : α) : sameK (e a) (e b) = decide (a = b) := by
  obtain ⟨k, h1, h2⟩ := h
  unfold sameK keyOf
  rw [(h1 a).1, (h1 b).1, (h1 a).2, (h1 b).2]
  simp only [Option.map_some, Option.some.injEq, Sum.inr.injEq]
  exact decide_eq_decide.mpr ⟨h2 a b, fun e => by rw [e]⟩
theorem keK_some {e : α → D} (h : KeK e) (a : α) : (kdOf (e a)).isSome = true := by
  obtain ⟨k, h1, _⟩ := h
  rw [h1]
  rfl
theorem keT_some {e : α → D} (h : KeT e) (a : α) : (ktOf (e a)).isSome = true := by
  obtain ⟨k, h1, _⟩ := h
  rw [(h1 a).2]
  rfl
theorem keT_none {e : α → D} (h : KeT e) (a : α) : (kdOf (e a)).isSome = false := by
  obtain ⟨k, h1, _⟩ := h
  rw [(h1 a).1]
  rfl
/-! orders -/
structure Lin (lt : α → α → Bool) : Prop where
  as : ∀ a b, lt a b = true → lt b a = false
  tri : ∀ a b, lt a b = false → lt b a = false → a = b
  tr : ∀ a b c, lt b a = false → lt c b = false → lt c a = false
theorem lin_I : Lin fun a b : Int => decide (a < b) where
  as := fun a b h => by simp only [decide_eq_true_eq] at h; simp only [decide_eq_false_iff_not]; omega
  tri := fun a b h g => by simp only [decide_eq_false_iff_not] at h g; omega
  tr := fun a b c h g => by simp only [decide_eq_false_iff_not] at h g ⊢; omega
theorem lin_S : Lin fun a b : List Nat => decide (a < b) where
  as := fun a b h => by simp only [decide_eq_true_eq] at h; simp only [decide_eq_false_iff_not]; exact List.lt_asymm h
  tri := fun a b h g => by simp only [decide_eq_false_iff_not] at h g; exact List.le_antisymm g h
  tr := fun a b c h g => by simp only [decide_eq_false_iff_not] at h g ⊢; exact List.le_trans (show a ≤ b from h) (show b ≤ c from g)
theorem Lin.irr {lt : α → α → Bool} (h : Lin lt) (a : α) : lt a a = false := by
  cases e : lt a a with
  | false => rfl
  | true => have := h.as a a e; rw [e] at this; cases this
theorem lin_P2 [BEq α] [LawfulBEq α] {l1 : α → α → Bool} {l2 : β → β → Bool} (h1 : Lin l1) (h2 : Lin l2) : Lin (ltP2 l1 l2) where
  as := fun a b h => by
    unfold ltP2 at h ⊢
    by_cases e : a.1 = b.1
    · rw [if_pos (beq_iff_eq.mpr e)] at h
      rw [if_pos (beq_iff_eq.mpr e.symm)]
      exact h2.as _ _ h
    · rw [if_neg (fun z => e (beq_iff_eq.mp z))] at h
      rw [if_neg (fun z => e (beq_iff_eq.mp z).symm)]
      exact h1.as _ _ h
  tri := fun a b h g => by
    unfold ltP2 at h g
    by_cases e : a.1 = b.1
    · rw [if_pos (beq_iff_eq.mpr e)] at h
      rw [if_pos (beq_iff_eq.mpr e.symm)] at g
      exact Prod.ext e (h2.tri _ _ h g)
    · rw [if_neg (fun z => e (beq_iff_eq.mp z))] at h
      rw [if_neg (fun z => e (beq_iff_eq.mp z).symm)] at g
      exact absurd (h1.tri _ _ h g) e
  tr := fun a b c h g => by
    unfold ltP2 at h g ⊢
    by_cases e1 : b.1 = a.1
    · rw [if_pos (beq_iff_eq.mpr e1)] at h
      by_cases e2 : c.1 = b.1
      · rw [if_pos (beq_iff_eq.mpr e2)] at g
        rw [if_pos (beq_iff_eq.mpr (e2.trans e1))]
        exact h2.tr _ _ _ h g
      · rw [if_neg (fun z => e2 (beq_iff_eq.mp z))] at g
        rw [if_neg (fun z => e2 ((beq_iff_eq.mp z).trans e1.symm)), ← e1]
        exact g
    · rw [if_neg (fun z => e1 (beq_iff_eq.mp z))] at h
      by_cases e2 : c.1 = b.1
      · rw [if_neg (fun z => e1 (e2.symm.trans (beq_iff_eq.mp z))), e2]
        exact h
      · rw [if_neg (fun z => e2 (beq_iff_eq.mp z))] at g
        by_cases e3 : c.1 = a.1
        · exfalso
          have q : l1 a.1 b.1 = false := by rw [← e3]; exact g
          exact e1 (h1.tri _ _ h q)
        · rw [if_neg (fun z => e3 (beq_iff_eq.mp z))]
          exact h1.tr _ _ _ h g
/-! sorted(set(xs)) -/
def usT [DecidableEq α] (lt : α → α → Bool) (xs : List α) : Option (List α) := if xs.length < 64 then some ((dedupK xs).mergeSort fun a b => !lt b a) else none
theorem o_usort [DecidableEq α] {e : α → D} {lt : α → α → Bool} {xs ys : List α} (hs : usT lt xs = some ys) (h : SrtE 60 e lt) (L : Lin lt) (k : (KeT e ∧ ∀ a, tupD (e a) = true) ∨ (KeK e ∧ ∀ a, plainD (e a) = true)) : usortD [eL e xs] = some (.fresh (eL e ys)) := by
  obtain ⟨hl, rfl⟩ := if_some hs
  have c : sortOk (xs.map e) = true := by
    unfold sortOk
    simp only [Bool.and_eq_true, List.all_map, List.all_eq_true, Bool.or_eq_true, Function.comp]
    refine ⟨⟨fun a _ => h.dp a, fun a _ b _ => h.al a b⟩, ?_⟩
    rcases k with k | k
    · exact .inl fun a _ => k.2 a
    · exact .inr fun a _ => k.2 a
  have e2 : ∀ a b, sleD (e a) (e b) = !lt b a := fun a b => by
    unfold sleD
    rw [h.lt]
  have same : ∀ a b : α, sameK (e a) (e b) = decide (a = b) := by
    rcases k with k | k
    · exact keT_same k.1
    · exact keK_same k.1
  have u : usOk (xs.map e) = true := by
    unfold usOk
    simp only [Bool.and_eq_true, decide_eq_true_eq, List.length_map]
    refine ⟨⟨⟨hl, c⟩, ?_⟩, ?_⟩
    · rw [Bool.or_eq_true, List.all_map, List.all_map, List.all_eq_true, List.all_eq_true]
      rcases k with k | k
      · exact .inr fun a _ => keT_some k.1 a
      · exact .inl fun a _ => keK_some k.1 a
    · unfold ord3
      simp only [List.all_map, List.all_eq_true, Function.comp, e2, same]
      intro a _ b _
      rw [Bool.and_eq_true, Bool.and_eq_true, List.all_eq_true]
      refine ⟨⟨?_, ?_⟩, fun c _ => ?_⟩
      · cases q : lt b a with
        | false => rfl
        | true => rw [L.as _ _ q]; rfl
      · cases q : lt b a with
        | true => rfl
        | false =>
          cases q2 : lt a b with
          | true => rfl
          | false => rw [L.tri _ _ q2 q]; simp
      · show (!((!lt b a) && sleD (e b) (e c)) || sleD (e a) (e c)) = true
        rw [e2, e2]
        cases q : lt b a with
        | true => rfl
        | false =>
          cases q2 : lt c b with
          | true => rfl
          | false => rw [L.tr _ _ _ q q2]; rfl
  simp only [usortD, eL, if_pos u]
  rw [dedupD_map e same, ← mergeSort_map e sleD]
  exact congrArg (fun le => some (EV.fresh (D.lst (List.map e ((dedupK xs).mergeSort le))))) (funext fun a => funext fun b => e2 a b)
/-! dicts -/
def eDK (e : α → D) (f : β → D) (kvs : List (α × β)) : D := .dict (kvs.map fun p => (e p.1, f p.2))
def eDT (e : α → D) (f : β → D) (kvs : List (α × β)) : D := .dicT (kvs.map fun p => (e p.1, f p.2))
def valT [DecidableEq α] (kvs : List (α × β)) (k : α) : Option β := (kvs.find? fun p => decide (p.1 = k)).map (·.2)
def putK' [DecidableEq α] (kvs : List (α × β)) (k : α) (v : β) : List (α × β) := if (kvs.any fun p => decide (p.1 = k)) = true then kvs.map (fun p => if p.1 = k then (p.1, v) else p) else kvs ++ [(k, v)]
def buildT [DecidableEq α] (ps : List (α × β)) : List (α × β) := ps.foldl (fun acc p => putK' acc p.1 p.2) []
theorem valD_map [DecidableEq α] {e : α → D} {f : β → D} (same : ∀ a b : α, sameK (e a) (e b) = decide (a = b)) (k : α) : ∀ kvs : List (α × β), valD (kvs.map fun p => (e p.1, f p.2)) (e k) = (valT kvs k).map f
  | [] => rfl
  | p :: kvs => by
    rw [List.map_cons, valD_cons, same, valD_map same k kvs]
    unfold valT
    rw [List.find?_cons]
    by_cases h : p.1 = k
    · simp [h]
    · simp [h]
theorem putD_map [DecidableEq α] {e : α → D} {f : β → D} (same : ∀ a b : α, sameK (e a) (e b) = decide (a = b)) (k : α) (v : β) (kvs : List (α × β)) : putD (kvs.map fun p => (e p.1, f p.2)) (e k) (f v) = (putK' kvs k v).map fun p => (e p.1, f p.2) := by
  unfold putD putK'
  simp only [List.any_map, Function.comp_def, same]
  split
  · simp only [List.map_map]
    refine List.map_congr_left fun p _ => ?_
    simp only [Function.comp, decide_eq_true_eq]
    by_cases h : p.1 = k
    · simp [h, same]
    · simp [h, same]
  · rw [List.map_append]
    rfl
theorem build_map [DecidableEq α] {e : α → D} {f : β → D} (same : ∀ a b : α, sameK (e a) (e b) = decide (a = b)) (ps : List (α × β)) : buildD (ps.map fun p => (e p.1, f p.2)) = (buildT ps).map fun p => (e p.1, f p.2) := by
  have main : ∀ (ps acc : List (α × β)), (ps.map fun p => (e p.1, f p.2)).foldl (fun acc p => putD acc p.1 p.2) (acc.map fun p => (e p.1, f p.2)) = (ps.foldl (fun acc p => putK' acc p.1 p.2) acc).map fun p => (e p.1, f p.2) := by
    intro ps
    induction ps with
    | nil => intro acc; rfl
    | cons p ps ih =>
      intro acc
      rw [List.map_cons, List.foldl_cons, List.foldl_cons]
      show List.foldl _ (putD _ (e p.1) (f p.2)) _ = _
      rw [putD_map same, ih]
  exact main ps []
theorem pairsD_map {e : α → D} {f : β → D} : ∀ ps : List (α × β), pairsD (ps.map (eP2 e f)) = some (ps.map fun p => (e p.1, f p.2))
  | [] => rfl
  | p :: ps => by simp only [List.map_cons, pairsD, pairD, eP2, Option.bind_some, pairsD_map ps, Option.map_some]
theorem o_dictK [DecidableEq α] {e : α → D} {f : β → D} (h : KeK e) (ps : List (α × β)) : dictD [eL (eP2 e f) ps] = some (.fresh (eDK e f (buildT ps))) := by
  have c : ((ps.map fun p => (e p.1, f p.2)).all fun p => (kdOf p.1).isSome) = true := by
    rw [List.all_map, List.all_eq_true]
    exact fun p _ => keK_some h p.1
  simp only [dictD, eL, pairsD_map, Option.bind_some, if_pos c, build_map (keK_same h), eDK]
def dictTT [DecidableEq α] (ps : List (α × β)) : Option (List (α × β)) := if ps ≠ [] then some (buildT ps) else none
theorem o_dictT [DecidableEq α] {e : α → D} {f : β → D} (h : KeT e) {ps kvs : List (α × β)} (hk : dictTT ps = some kvs) : dictD [eL (eP2 e f) ps] = some (.fresh (eDT e f kvs)) := by
  obtain ⟨hne, rfl⟩ := if_some hk
  have c : ((ps.map fun p => (e p.1, f p.2)).all fun p => (ktOf p.1).isSome) = true := by
    rw [List.all_map, List.all_eq_true]
    exact fun p _ => keT_some h p.1
  have c2 : ¬ ((ps.map fun p => (e p.1, f p.2)).all fun p => (kdOf p.1).isSome) = true := by
    cases ps with
    | nil => exact absurd rfl hne
    | cons p ps =>
      rw [List.map_cons, List.all_cons, keT_none h, Bool.false_and]
      exact Bool.false_ne_true
  simp only [dictD, eL, pairsD_map, Option.bind_some, if_neg c2, if_pos c, build_map (keT_same h), eDT]
theorem o_dictC {e : α → D} {f : β → D} (kvs : List (α × β)) : dictD [eDK e f kvs] = some (.fresh (eDK e f kvs)) := rfl
theorem o_ixK [DecidableEq α] {e : α → D} {f : β → D} (h : KeK e) {kvs : List (α × β)} {k : α} {v : β} (hv : valT kvs k = some v) : ixD (eDK e f kvs) (e k) = some (.val (f v)) := by
  have : ixD (eDK e f kvs) (e k) = (lookD (eDK e f kvs) (e k)).bind fun o => o.map .val := by
    unfold eDK ixD
    cases e k <;> rfl
  rw [this]
  simp only [eDK, lookD, if_pos (keK_some h k), valD_map (keK_same h), hv, Option.bind_some, Option.map_some]
theorem o_ixDT [DecidableEq α] {e : α → D} {f : β → D} (h : KeT e) {kvs : List (α × β)} {k : α} {v : β} (hv : valT kvs k = some v) : ixD (eDT e f kvs) (e k) = some (.val (f v)) := by
  have : ixD (eDT e f kvs) (e k) = (lookD (eDT e f kvs) (e k)).bind fun o => o.map .val := by
    unfold eDT ixD
    cases e k <;> rfl
  rw [this]
  simp only [eDT, lookD, if_pos (keT_some h k), valD_map (keT_same h), hv, Option.bind_some, Option.map_some]
theorem o_inK [DecidableEq α] {e : α → D} {f : β → D} (h : KeK e) (kvs : List (α × β)) (k : α) : inD (e k) (eDK e f kvs) = some (valT kvs k).isSome := by
  have : inD (e k) (eDK e f kvs) = (lookD (eDK e f kvs) (e k)).map (·.isSome) := by
    unfold eDK inD
    cases e k with
    | str s => cases s with
      | nil => rfl
      | cons c s => cases s <;> rfl
    | _ => rfl
  rw [this]
  simp only [eDK, lookD, if_pos (keK_some h k), valD_map (keK_same h), Option.map_some, Option.isSome_map]
theorem o_inDT [DecidableEq α] {e : α → D} {f : β → D} (h : KeT e) (kvs : List (α × β)) (k : α) : inD (e k) (eDT e f kvs) = some (valT kvs k).isSome := by
  have : inD (e k) (eDT e f kvs) = (lookD (eDT e f kvs) (e k)).map (·.isSome) := by
    unfold eDT inD
    cases e k with
    | str s => cases s with
      | nil => rfl
      | cons c s => cases s <;> rfl
    | _ => rfl
  rw [this]
  simp only [eDT, lookD, if_pos (keT_some h k), valD_map (keT_same h), Option.map_some, Option.isSome_map]
theorem o_lenDK {e : α → D} {f : β → D} {kvs : List (α × β)} : lenD [eDK e f kvs] = some (.val (.int (kvs.length : Nat))) := by simp only [lenD, eDK, List.length_map]
theorem o_lenDT {e : α → D} {f : β → D} {kvs : List (α × β)} : lenD [eDT e f kvs] = some (.val (.int (kvs.length : Nat))) := by simp only [lenD, eDT, List.length_map]
end
end VS

set_option Elab.async false
set_option linter.all false
set_option maxRecDepth 100000
set_option maxHeartbeats 4000000
/-! ### an own object is looked at, and is still written afterwards: what is found holds no lists -/
namespace VS
open PySem L2 PyProof.Rows
variable [TabT]
mutual
def lf : D → Bool
  | .non => true
  | .bl _ => true
  | .int _ => true
  | .str _ => true
  | .tup xs => lfs xs
  | _ => false
def lfs : List D → Bool
  | [] => true
  | x :: xs => lf x && lfs xs
end
def lfR : EV → Bool
  | .val d => lf d
  | .fresh (.lst xs) => lfs xs
  | _ => false
def valC : Cell → Cell
  | .own d => .val d
  | c => c
def unC : Cell → Cell
  | .own _ => .un
  | c => c
def keepSl : Nat → List Cell → List Cell
  | _, [] => []
  | 0, c :: cs => valC c :: cs.map unC
  | n + 1, c :: cs => unC c :: keepSl n cs
def noPar : List Cell → Bool
  | [] => true
  | .par _ :: _ => false
  | _ :: cs => noPar cs
def mKeep (i : Nat) (m : M) : M := fun Γ => match Γ.sl[i]? with
  | some (.own d) => if noPar Γ.sl = true then (m ⟨keepSl i Γ.sl, []⟩).bind fun p => if lfR p.1 = true then some (p.1, Γ) else none else m Γ
  | _ => m Γ
theorem keep_get : ∀ (i j : Nat) (sl : List Cell), (keepSl i sl)[j]? = (sl[j]?).map fun c => if j = i then valC c else unC c
  | i, j, [] => by cases i <;> simp [keepSl]
  | 0, 0, c :: cs => by simp [keepSl]
  | 0, j + 1, c :: cs => by simp [keepSl]
  | i + 1, 0, c :: cs => by simp [keepSl]
  | i + 1, j + 1, c :: cs => by
    simp only [keepSl, List.getElem?_cons_succ, keep_get i j cs, Nat.add_right_cancel_iff]
theorem keep_len : ∀ (i : Nat) (sl : List Cell), (keepSl i sl).length = sl.length
  | i, [] => by cases i <;> rfl
  | 0, c :: cs => by simp [keepSl]
  | i + 1, c :: cs => by simp [keepSl, keep_len i cs]
theorem noPar_get : ∀ {sl : List Cell} {j k : Nat}, noPar sl = true → sl[j]? ≠ some (.par k)
  | [], j, k, _, e => by cases j <;> cases e
  | c :: cs, 0, k, h, e => by
    simp only [List.getElem?_cons_zero, Option.some.injEq] at e
    subst e
    simp [noPar] at h
  | c :: cs, j + 1, k, h, e => by
    refine noPar_get (sl := cs) (j := j) (k := k) ?_ (by simpa using e)
    cases c <;> first
      | (simp [noPar] at h; done)
      | exact h
section
variable {K : PySem.W.Frag} {mg : Str → Option Value} {F1 F2 : Hp}
mutual
theorem RD.thaw (ht : ∀ b vs, F1 b = some (.tup vs) → F2 b = some (.tup vs)) : ∀ (d : D) (v : V), lf d = true → RD K mg F1 d v → RD K mg F2 d v
  | .non, v, _, e => by simpa only [RD] using e
  | .bl b, v, _, e => by simpa only [RD] using e
  | .int i, v, _, e => by simpa only [RD] using e
  | .str s, v, _, e => by simpa only [RD] using e
  | .tup ds, v, h, e => by
    simp only [RD] at e ⊢
    obtain ⟨a, vs, e1, e2, e3⟩ := e
    exact ⟨a, vs, e1, ht _ _ e2, RDs.thaw ht ds vs (by simpa only [lf] using h) e3⟩
  | .lst _, v, h, _ => by simp [lf] at h
  | .dict _, v, h, _ => by simp [lf] at h
  | .dicT _, v, h, _ => by simp [lf] at h
  | .set _, v, h, _ => by simp [lf] at h
  | .fn _, v, h, _ => by simp [lf] at h
  | .ty _, v, h, _ => by simp [lf] at h
  | .obj _ _, v, h, _ => by simp [lf] at h
theorem RDs.thaw (ht : ∀ b vs, F1 b = some (.tup vs) → F2 b = some (.tup vs)) : ∀ (ds : List D) (vs : List V), lfs ds = true → RDs K mg F1 ds vs → RDs K mg F2 ds vs
  | [], vs, _, e => by simpa only [RDs] using e
  | d :: ds, vs, h, e => by
    simp only [RDs] at e ⊢
    simp only [lfs, Bool.and_eq_true] at h
    obtain ⟨v, r, e1, e2, e3⟩ := e
    exact ⟨v, r, e1, RD.thaw ht d v h.1 e2, RDs.thaw ht ds r h.2 e3⟩
end
end
/-- the expression is looked at with the object kept -/
theorem ve_keep {X : Cx} {e : Expr} {m : M} (i : Nat) (h : VE X e m) : VE X e (mKeep i m) := by
  refine pe_of h fun σ H Q hq => ?_
  obtain ⟨ρ, O, Γ, F, r, Γ', R, e, k⟩ := hq
  unfold mKeep at e
  split at e
  · rename_i d hi
    by_cases hp : noPar Γ.sl = true
    · rw [if_pos hp] at e
      obtain ⟨⟨r1, Γ1⟩, e1, e2⟩ := obind e
      by_cases hf : lfR r1 = true
      · simp only [hf, if_true] at e2
        cases e2
        obtain ⟨a, hσ, hown⟩ := R.ow i d hi
        have la : LocAt ρ Γ σ (.inl i) a := ⟨⟨d, hi⟩, hσ⟩
        have hFa : F a = none := hown.1
        have key : ∀ l b, LocAt ρ Γ σ l b → F b = none ∧ H b ≠ none := fun l b hl => by
          cases l with
          | inl j =>
            obtain ⟨⟨d', h1⟩, h2⟩ := hl
            obtain ⟨b', q1, q2⟩ := R.ow j d' h1
            rw [h2] at q1
            cases q1
            exact ⟨q2.1, q2.there⟩
          | inr j =>
            obtain ⟨⟨d', h1⟩, h2⟩ := hl
            obtain ⟨b', q1, q2⟩ := R.sow j d' h1
            rw [h2] at q1
            cases q1
            exact ⟨q2.1, q2.there⟩
        have R0 : Rep X.K X.mg [] (fun b => O b ∨ ∃ l, l ≠ Sum.inl i ∧ LocAt ρ Γ σ l b) ⟨keepSl i Γ.sl, []⟩ σ H (plus F H a) := {
          le := plus_le R.le
          len := by rw [keep_len]; exact R.len
          vl := fun j d' h1 => by
            rw [keep_get] at h1
            cases hc : Γ.sl[j]? with
            | none => rw [hc] at h1; cases h1
            | some c =>
              rw [hc] at h1
              simp only [Option.map_some, Option.some.injEq] at h1
              by_cases hj : j = i
              · subst hj
                rw [if_pos rfl] at h1
                rw [hi] at hc
                cases hc
                cases h1
                exact ⟨_, hσ, hown.frozen⟩
              · rw [if_neg hj] at h1
                cases c with
                | val d'' =>
                  cases h1
                  obtain ⟨v, q1, q2⟩ := R.vl j _ hc
                  exact ⟨v, q1, RD.mono (plus_same hFa) _ _ q2⟩
                | own _ => cases h1
                | un => cases h1
                | par _ => cases h1
          ow := fun j d' h1 => by
            rw [keep_get] at h1
            cases hc : Γ.sl[j]? with
            | none => rw [hc] at h1; cases h1
            | some c =>
              rw [hc] at h1
              simp only [Option.map_some, Option.some.injEq] at h1
              split at h1 <;> cases c <;> cases h1
          pr := fun j k' h1 => by
            rw [keep_get] at h1
            cases hc : Γ.sl[j]? with
            | none => rw [hc] at h1; cases h1
            | some c =>
              rw [hc] at h1
              simp only [Option.map_some, Option.some.injEq] at h1
              have : c = .par k' := by split at h1 <;> cases c <;> first | (cases h1; done) | (cases h1; rfl)
              rw [this] at hc
              exact absurd hc (noPar_get hp)
          plen := rfl
          sow := fun j d' h1 => by simp at h1
          sfz := fun j d' h1 => by simp at h1
          inj := fun l l' b h1 _ => by
            exfalso
            cases l with
            | inl j =>
              obtain ⟨⟨d', h1⟩, _⟩ := h1
              rw [keep_get] at h1
              cases hc : Γ.sl[j]? with
              | none => rw [hc] at h1; cases h1
              | some c =>
                rw [hc] at h1
                simp only [Option.map_some, Option.some.injEq] at h1
                split at h1 <;> cases c <;> cases h1
            | inr j =>
              obtain ⟨⟨d', h1⟩, _⟩ := h1
              simp at h1
          tb := R.tb
          nt := fun b ps => by
            by_cases hb : b = a
            · rw [hb]; unfold plus; rw [if_pos rfl]; exact hown.notbl ps
            · rw [plus_ne hb]; exact R.nt b ps
          pt := fun b hb ps => by
            rcases hb with hb | ⟨l, _, hb⟩
            · exact R.pt b hb ps
            · cases l with
              | inl j =>
                obtain ⟨⟨d', h1⟩, h2⟩ := hb
                obtain ⟨b', q1, q2⟩ := R.ow j d' h1
                rw [h2] at q1
                cases q1
                exact q2.notbl ps
              | inr j =>
                obtain ⟨⟨d', h1⟩, h2⟩ := hb
                obtain ⟨b', q1, q2⟩ := R.sow j d' h1
                rw [h2] at q1
                cases q1
                exact q2.notbl ps
          prot := fun b hb => by
            have hba : b ≠ a ∧ F b = none ∧ H b ≠ none := by
              rcases hb with hb | ⟨l, hl, hb⟩
              · obtain ⟨q1, q2, q3⟩ := R.prot b hb
                exact ⟨fun z => q3 _ (z ▸ la), q1, q2⟩
              · exact ⟨fun z => hl (R.inj _ _ _ hb (z ▸ la)), key l b hb⟩
            refine ⟨by rw [plus_ne hba.1]; exact hba.2.1, hba.2.2, fun l hl => ?_⟩
            cases l with
            | inl j =>
              obtain ⟨⟨d', h1⟩, _⟩ := hl
              rw [keep_get] at h1
              cases hc : Γ.sl[j]? with
              | none => rw [hc] at h1; cases h1
              | some c =>
                rw [hc] at h1
                simp only [Option.map_some, Option.some.injEq] at h1
                split at h1 <;> cases c <;> cases h1
            | inr j =>
              obtain ⟨⟨d', h1⟩, _⟩ := hl
              simp at h1 }
        refine tV_run R0 e1 fun v H1 F1 s1 c1 rv => ?_
        have hFf : plus F H a a = H a := by unfold plus; rw [if_pos rfl]
        have hHa : H1 a = H a ∧ F1 a ≠ none ∧ ∀ vs, F1 a ≠ some (.tup vs) := by
          cases q : H a with
          | none => exact absurd q hown.there
          | some o =>
            have h1 : F1 a = some o := s1.fs a o (by rw [hFf, q])
            refine ⟨s1.rep.le a o h1, fun z => (by rw [h1] at z; cases z), fun vs z => ?_⟩
            rw [h1] at z
            obtain ⟨_, ho⟩ := hown
            cases d <;> simp only at ho
            · obtain ⟨w, w1, _⟩ := ho
              rw [q, Option.some.inj z] at w1
              cases w1
            · obtain ⟨w, w1, _⟩ := ho
              rw [q, Option.some.inj z] at w1
              cases w1
            · obtain ⟨w, w1, _⟩ := ho
              rw [q, Option.some.inj z] at w1
              cases w1
        have sF : Same F (fun b => if b = a then none else F1 b) := fun b o q => by
          have hb : b ≠ a := fun z => by rw [z, hFa] at q; cases q
          simp only [if_neg hb]
          exact s1.fs b o (by rw [plus_ne hb]; exact q)
        have sH : Same (fun b => if b = a then none else F1 b) H1 := fun b o q => by
          by_cases hb : b = a
          · simp only [if_pos hb] at q; cases q
          · simp only [if_neg hb] at q
            exact s1.rep.le b o q
        have ht : ∀ b vs, F1 b = some (.tup vs) → (fun b => if b = a then none else F1 b) b = some (HO.tup vs) := fun b vs q => by
          have hb : b ≠ a := fun z => hHa.2.2 vs (z ▸ q)
          simp only [if_neg hb]
          exact q
        have stays : ∀ l b, LocAt ρ Γ σ l b → H1 b = H b ∧ (fun b => if b = a then none else F1 b) b = none := fun l b hl => by
          by_cases hb : b = a
          · subst hb
            exact ⟨hHa.1, by simp⟩
          · have hO : (O b ∨ ∃ l, l ≠ Sum.inl i ∧ LocAt ρ Γ σ l b) := .inr ⟨l, fun z => hb (by
              subst z
              obtain ⟨_, h2⟩ := hl
              rw [hσ] at h2
              cases h2
              rfl), hl⟩
            refine ⟨s1.op b hO, ?_⟩
            simp only [if_neg hb]
            exact (s1.rep.prot b hO).1
        have Rf : Rep X.K X.mg ρ O Γ σ H1 (fun b => if b = a then none else F1 b) := {
          le := sH
          len := R.len
          vl := fun j d' h1 => let ⟨v, q1, q2⟩ := R.vl j d' h1; ⟨v, q1, RD.mono sF _ _ q2⟩
          ow := fun j d' h1 => by
            obtain ⟨b, q1, q2⟩ := R.ow j d' h1
            obtain ⟨z1, z2⟩ := stays (.inl j) b ⟨⟨d', h1⟩, q1⟩
            exact ⟨b, q1, q2.stay sF z2 z1⟩
          pr := R.pr
          plen := R.plen
          sow := fun j d' h1 => by
            obtain ⟨b, q1, q2⟩ := R.sow j d' h1
            obtain ⟨z1, z2⟩ := stays (.inr j) b ⟨⟨d', h1⟩, q1⟩
            exact ⟨b, q1, q2.stay sF z2 z1⟩
          sfz := fun j d' h1 => let ⟨v, q1, q2⟩ := R.sfz j d' h1; ⟨v, q1, RD.mono sF _ _ q2⟩
          inj := R.inj
          tb := s1.rep.tb
          nt := fun b ps q => by
            by_cases hb : b = a
            · simp only [if_pos hb] at q; cases q
            · simp only [if_neg hb] at q; exact s1.rep.nt b ps q
          pt := fun b hb ps => s1.rep.pt b (.inl hb) ps
          prot := fun b hb => by
            obtain ⟨q1, q2, q3⟩ := s1.rep.prot b (.inl hb)
            refine ⟨?_, q2, (R.prot b hb).2.2⟩
            by_cases z : b = a
            · simp [z]
            · simp only [if_neg z]; exact q1 }
        refine k v H1 _ ⟨Rf, sF, fun b hb => s1.op b (.inl hb)⟩ trivial ?_
        cases r with
        | val d' => exact RD.thaw ht d' v hf rv
        | fresh d' =>
          cases d' with
          | lst ds =>
            obtain ⟨p, rfl, ⟨g1, vs, g2, g3⟩, g4, g5⟩ := rv
            have hpa : p ≠ a := fun z => hHa.2.1 (z ▸ g1)
            refine ⟨p, rfl, ⟨by simp only [if_neg hpa]; exact g1, vs, g2, RDs.thaw ht ds vs hf g3⟩, fun z => g4 (.inl z), fun l hl => ?_⟩
            by_cases hz : l = Sum.inl i
            · subst hz
              obtain ⟨_, h2⟩ := hl
              rw [hσ] at h2
              cases h2
              exact hpa rfl
            · exact g4 (.inr ⟨l, hz, hl⟩)
          | _ => cases hf
        | slot _ => cases hf
        | par _ => cases hf
      · simp only [hf] at e2
        cases e2
    · rw [if_neg hp] at e
      exact ⟨ρ, O, Γ, F, r, Γ', R, e, k⟩
  · exact ⟨ρ, O, Γ, F, r, Γ', R, e, k⟩
theorem q_keep {i : Nat} {m : M} {sl : List Cell} {st : List SC} {d : D} {r : EV} {Γ1 : VEnv} (hi : sl[i]? = some (.own d)) (hp : noPar sl = true) (h : m ⟨keepSl i sl, []⟩ = some (r, Γ1)) (hf : lfR r = true) : mKeep i m ⟨sl, st⟩ = some (r, ⟨sl, st⟩) := by
  simp only [mKeep, hi, if_pos hp, h, Option.bind_some, if_pos hf]
theorem q_keepV {i : Nat} {m : M} {sl : List Cell} {st : List SC} {r : EV × VEnv} (hi : ∀ d, sl[i]? ≠ some (.own d)) (h : m ⟨sl, st⟩ = some r) : mKeep i m ⟨sl, st⟩ = some r := by
  cases q : sl[i]? with
  | none => simp only [mKeep, q]; exact h
  | some c => cases c with
    | own d => exact absurd q (hi d)
    | _ => simp only [mKeep, q]; exact h
theorem q_keepP {i : Nat} {m : M} {sl : List Cell} {st : List SC} {r : EV × VEnv} (hp : noPar sl = false) (h : m ⟨sl, st⟩ = some r) : mKeep i m ⟨sl, st⟩ = some r := by
  cases q : sl[i]? with
  | none => simp only [mKeep, q]; exact h
  | some c => cases c with
    | own d => simp only [mKeep, q, hp]; exact h
    | _ => simp only [mKeep, q]; exact h
theorem lfs_map {α : Type} {e : α → D} (h : ∀ a, lf (e a) = true) : ∀ xs : List α, lfs (xs.map e) = true
  | [] => rfl
  | x :: xs => by simp only [List.map_cons, lfs, h, lfs_map h xs, Bool.and_self]
theorem lf_list {α : Type} {e : α → D} (h : ∀ a, lf (e a) = true) (xs : List α) : lfR (.fresh (eL e xs)) = true := lfs_map h xs
end VS

set_option Elab.async false
set_option linter.all false
set_option maxRecDepth 100000
set_option maxHeartbeats 4000000
/-! ### what raises: calls, raise, lambdas that are handed to a def with a try -/
namespace VS
open PySem L2 PyProof.Rows
variable [TabT]

/-- an answer, or the class that is raised -/
abbrev MX := VEnv → Option ((EV ⊕ Str) × VEnv)
def XQ (K : PySem.W.Frag) (mg : Str → Option Value) (ρ : List Addr) (O : Addr → Prop) (Γ' : VEnv) (σ : L2.St) (H F : Hp) (E : XK) (Q : VK) : EV ⊕ Str → Prop
  | .inl r => ∀ v H' F', Stp K mg ρ O Γ' σ H F H' F' → RepEV K mg ρ O Γ' σ H' F' r v → Q v H'
  | .inr x => ∀ C H' F', mg x = some (.ref C) → Stp K mg ρ O Γ' σ H F H' F' → E (.ref C) none H'
def tX (K : PySem.W.Frag) (mg : Str → Option Value) (E : XK) (m : MX) : TE := fun σ H Q => ∃ ρ O Γ F z Γ', Rep K mg ρ O Γ σ H F ∧ m Γ = some (z, Γ') ∧ XQ K mg ρ O Γ' σ H F E Q z
abbrev VX (X : Cx) (e : Expr) (m : MX) : Prop := ∀ E : L2.St → XK, (∀ σ, PassesAt (L2.CX X.prog X.w) X σ (E σ)) → PE X e (fun σ => tX X.K X.mg (E σ) m σ)
def mNo (m : M) : MX := fun Γ => (m Γ).map fun p => (.inl p.1, p.2)
def mRaiseX (bs : List Bool) (g : SemX) (ml : ML) : MX := fun Γ => (ml Γ).bind fun p => (passL bs p.1 p.2).bind fun q => (g q.1 q.2.st).map fun z => (.inr z.1, ⟨q.2.sl.map (unlend p.2.st.length z.2), z.2.take p.2.st.length⟩)
def mCallX (bs : List Bool) (f : Sem') (g : SemX) (ml : ML) : MX := fun Γ => match mCall bs f ml Γ with
  | some p => some (.inl p.1, p.2)
  | none => mRaiseX bs g ml Γ
/-- .. and the answer is frozen -/
def mFrzX (m : MX) : MX := fun Γ => (m Γ).bind fun p => match p.1 with
  | .inl r => (freeze r p.2).map fun z => (.inl (.val z.1), z.2)
  | .inr x => some (.inr x, p.2)
def mDropX (m : MX) : MS := fun Γ => (m Γ).map fun p => match p.1 with
  | .inl _ => (.nx, p.2)
  | .inr x => (.exc x, p.2)
def mRetX (m : MX) : MS := fun Γ => (m Γ).map fun p => match p.1 with
  | .inl r => (.ret r, p.2)
  | .inr x => (.exc x, p.2)
def mAsgX (m : MX) (g : MG) : MS := fun Γ => (m Γ).bind fun p => match p.1 with
  | .inl r => (g r p.2).map fun Γ' => (.nx, Γ')
  | .inr x => some (.exc x, p.2)
def mRaise (x : Str) : MS := fun Γ => some (.exc x, Γ)
/-- f(a, ..): the first argument may raise -/
def mThen (a : MX) (k : EV → M) : MX := fun Γ => (a Γ).bind fun p => match p.1 with
  | .inl r => (k r p.2).map fun q => (.inl q.1, q.2)
  | .inr x => some (.inr x, p.2)
section
variable {X : Cx} {e : Expr} {es : List Expr} {m : M} {mx : MX} {ml : ML} {pos : Pos}
theorem tX_run {K : PySem.W.Frag} {mg : Str → Option Value} {ρ : List Addr} {O : Addr → Prop} {Γ Γ' : VEnv} {σ : L2.St} {H F : Hp} {E : XK} {z : EV ⊕ Str} {Q : VK} (R : Rep K mg ρ O Γ σ H F) (e : mx Γ = some (z, Γ')) (k : XQ K mg ρ O Γ' σ H F E Q z) : tX K mg E mx σ H Q := ⟨ρ, O, Γ, F, z, Γ', R, e, k⟩
theorem vx_of (h : VE X e m) : VX X e (mNo m) := by
  intro E hx
  refine pe_of h fun σ H Q h => ?_
  obtain ⟨ρ, O, Γ, F, z, Γ', R, e, k⟩ := h
  obtain ⟨⟨r, Γ1⟩, e1, e2⟩ := omap e
  cases e2
  exact tV_run R e1 fun v H1 F1 s1 c1 r1 => k v H1 F1 s1 r1
theorem call_runX {bs : List Bool} {n : Nat} {f : Sem'} {g : SemX} (hf : ∀ cells st r, f cells st = some r → cells.length = n) (hg : ∀ cells st r, g cells st = some r → cells.length = n) {E : L2.St → XK} {σ : L2.St} {H : Hp} {Q : VK}
    (h : tX X.K X.mg (E σ) (mCallX bs f g ml) σ H Q) : tCallS (spX X.K X.mg n f g) E (tL X.K X.mg ml) σ H Q := by
  obtain ⟨ρ, O, Γ, F, z, Γ', R, e, k⟩ := h
  unfold mCallX at e
  split at e
  · rename_i p hp
    cases e
    exact call_run hf ⟨ρ, O, Γ, F, p.1, p.2, R, hp, fun v H' F' s _ rv => k v H' F' s rv⟩
  · obtain ⟨⟨rs, Γ1⟩, e1, e⟩ := obind e
    obtain ⟨⟨cells, Γ2⟩, e2, e⟩ := obind e
    obtain ⟨⟨x, st'⟩, e3, e⟩ := omap e
    cases e
    refine tL_run R e1 fun vs H1 F1 s1 c1 r1 => ?_
    obtain ⟨ρ1, F2, R2, s2, cl, L⟩ := passL_ok s1.rep r1 e2 s1.rep.lent0
    have hn := hg _ _ _ e3
    refine ⟨by rw [← cl.len]; exact hn, cells, ρ ++ ρ1, F2, orO O (ownS Γ2 σ), Γ2.st, rep_callee R2 cl, .inr ⟨x, st', e3, fun C H' F' hm s => ?_⟩⟩
    obtain ⟨Rb, _⟩ := rep_back R2 L s
    have hρ : (ρ ++ ρ1).take Γ1.st.length = ρ := by rw [← s1.rep.plen]; simp
    rw [hρ] at Rb
    exact k C H' F' hm (s1.trans ⟨Rb, s2.trans s.fs, fun a ha => s.op a (.inl ha)⟩)
/-- f(e, ..), f may raise -/
theorem vx_call {x : Str} {p : Pos} {k j n : Nat} {f : Sem'} {g : SemX} (bs : List Bool) (G : GX X.prog X.w X.K X.mg X.base x k n f g) (hr : RoomG j X.A) (ha : VA X (e :: es) ml) (hj : k ≤ j := by decide) (hg : Gl X x := by rfl) (hdb : (x == ("__debug__" : Str)) = false := by decide)
    (he : starEach (e :: es) X.env = (false, eval e X.env) :: starEach es X.env := by rfl) (hpl : (backTo pos (starEach es X.env)).any (·.1) = false := by rfl) :
    VX X (.Call (.Name x p) (e :: es) [] pos) (mCallX bs f g ml) := by
  obtain ⟨f0, fd, ps, F, hm, hk, hb, hl, hl2⟩ := G
  intro E hx
  exact pe_of (pe_callG (E := E) F (hr.mono hj) hg hm hk hb hx ha hdb he hpl) fun σ H Q h => call_runX hl hl2 h
theorem vx_frz (h : VX X e mx) : VX X e (mFrzX mx) := by
  intro E hx
  refine pe_of (h E hx) fun σ H Q h => ?_
  obtain ⟨ρ, O, Γ, F, z, Γ', R, e, k⟩ := h
  obtain ⟨⟨w, Γ1⟩, e1, e⟩ := obind e
  refine tX_run R e1 ?_
  cases w with
  | inl r =>
    obtain ⟨⟨d, Γ2⟩, e2, e3⟩ := omap e
    cases e3
    intro v H1 F1 s1 r1
    obtain ⟨F2, R2, s2, rd, _⟩ := freeze_ok s1.rep r1 e2
    exact k v H1 F2 (s1.trans ⟨R2, s2, fun _ _ => rfl⟩) rd
  | inr x => cases e; exact k
theorem sd_E {X : Cx} {W : WX} (tk : Takes X W) : ∀ σ, PassesAt (L2.CX X.prog X.w) X σ (WE W σ) := fun σ => passAt tk σ
theorem vs_exprX (h : VX X e mx) (hs : swapsWith e none pos.line X.env = pure false := by rfl) : VSt X (.Expr e pos) (mDropX mx) := by
  intro W tk
  refine ps_of (ps_expr (h (WE W) (sd_E tk)) hs) fun D σ H h => ?_
  obtain ⟨ρ, O, Γ, F, fl, Γ', R, e, k⟩ := h
  obtain ⟨⟨z, Γ1⟩, e1, e2⟩ := omap e
  cases z with
  | inl r => cases e2; exact tX_run R e1 fun v H1 F1 s1 r1 => k σ H1 F1 s1
  | inr x => cases e2; exact tX_run R e1 fun C H1 F1 hm s1 => k C σ H1 F1 hm s1
theorem vs_retX (h : VX X e mx) : VSt X (.Return (some e) pos) (mRetX mx) := by
  intro W tk
  refine ps_of (ps_ret (h (WE W) (sd_E tk))) fun D σ H h => ?_
  obtain ⟨ρ, O, Γ, F, fl, Γ', R, e, k⟩ := h
  obtain ⟨⟨z, Γ1⟩, e1, e2⟩ := omap e
  cases z with
  | inl r => cases e2; exact tX_run R e1 fun v H1 F1 s1 r1 => k v σ H1 F1 s1 r1
  | inr x => cases e2; exact tX_run R e1 fun C H1 F1 hm s1 => k C σ H1 F1 hm s1
theorem vs_asgX {tg : Expr} {ws : List Nat} {g : MG} (he : VX X e mx) (hg : VG X tg ws g) (hs : swapsWithSole [tg] e pos.line X.env = pure false := by rfl) (hw : swappedStores [tg] e X.env = pure none := by rfl)
    (h1 : (assignEach [tg] X.env).map (·.2) = [assign tg X.env] := by rfl) : VSt X (.Assign [tg] e pos) (mAsgX mx g) := by
  intro W tk
  refine ps_of (ps_asg (he (WE W) (sd_E tk)) hg hs hw h1) fun D σ H h => ?_
  obtain ⟨ρ, O, Γ, F, fl, Γ', R, e, k⟩ := h
  obtain ⟨⟨z, Γ1⟩, e1, e⟩ := obind e
  cases z with
  | inl r =>
    obtain ⟨Γ2, e2, e3⟩ := omap e
    cases e3
    exact tX_run R e1 fun v H1 F1 s1 r1 => tG_run s1.rep r1 e2 fun σ' H2 F2 s2 _ => k σ' H2 F2 (s1.trans s2)
  | inr x => cases e; exact tX_run R e1 fun C H1 F1 hm s1 => k C σ H1 F1 hm s1
/-- an own class over ValueError without an own __init__ -/
structure ExcC (K : PySem.W.Frag) (mg : Str → Option Value) (x : Str) (C : Addr) : Prop where
  mg : mg x = some (.ref C)
  exc : PySem.W.excIn K C He.veBase "ValueError.__new__" = true
  keep : PySem.W.keepIn K (.ref C) = true
  sub : PySem.W.subIn K (.ref C) (.type "BaseException") = some true
  ty : PySem.W.typeIn K (.ref C) = some (.type "type")
theorem vs_raise {x t : Str} {C : Addr} {j} {p p2 pos' : Pos} (c : ExcC X.K X.mg x C) (hc : X.calm = true) (hg : Gl X x := by rfl) (hdb : (x == ("__debug__" : Str)) = false := by decide) :
    VSt X (.Raise (some (.Call (.Name x p) [.Constant (.str t) j p2] [] pos)) none pos') (mRaise x) := by
  intro W tk
  refine ps_of (ps_raise hc tk (pmk_own PySem.F.excBase_ValueError c.exc c.mg c.keep (raises_own c.sub c.ty) hg hdb)) fun D σ H h => ?_
  obtain ⟨ρ, O, Γ, F, fl, Γ', R, e, k⟩ := h
  cases e
  exact k C σ H F c.mg (Stp.refl R)
end
end VS

set_option Elab.async false
set_option linter.all false
set_option maxRecDepth 100000
set_option maxHeartbeats 4000000
/-! ### x(lambda: f(..)), where x is: try: return ('told', call()) / except A: return .. -/
namespace VS
open PySem L2 PyProof.Rows
variable [TabT]

/-- what a clause answers: a text, a pair of texts -/
def hdE : D → TE
  | .str s => tC (.str ⟨s.toArray⟩)
  | .tup [.str s, .str t] => tTup (tCons (tC (.str ⟨s.toArray⟩)) (tCons (tC (.str ⟨t.toArray⟩)) tNil))
  | _ => fun _ _ _ => False
def hdOk : D → Prop
  | .str s => OkS s
  | .tup [.str s, .str t] => OkS s ∧ OkS t
  | _ => False
def metE (K : PySem.W.Frag) (Q : VK) : List (Addr × D) → XK
  | [] => fun _ _ _ => False
  | (C, d) :: r => fun cls o H => ∃ b, PySem.W.exmOne K cls (.ref C) = some b ∧ (b = true → hdE d [] H Q) ∧ (b = false → metE K Q r cls o H)
/-- the clauses, in Z's frame -/
inductive MetH (Z : Cx) : List ExceptHandler → List (Addr × D) → Prop
  | nil : MetH Z [] []
  | cons {x : Str} {C : Addr} {d : D} {e : Expr} {np rp pos' : Pos} {hds : List ExceptHandler} {l : List (Addr × D)} (hm : Z.mg x = some (.ref C)) (hg : Gl Z x) (hd : (x == ("__debug__" : Str)) = false)
      (pe : ∀ (a : Addr) (pn : List (Addr × Obj)), PE (Z.suite a pn) e (hdE d)) (r : MetH Z hds l) : MetH Z (.ExceptHandler (some (.Name x np)) none [.Return (some e) rp] pos' :: hds) ((C, d) :: l)
section
variable {X Z : Cx}
theorem hdE_any {d : D} {σ σ' : L2.St} {H : Hp} {Q : VK} (h : hdE d σ H Q) : hdE d σ' H Q := by
  unfold hdE at h ⊢
  split at h <;> exact h
abbrev hdsTS (l : List (Addr × D)) : List (Value × (Addr → Value → Option Addr → TS)) := l.map fun p => (Value.ref p.1, fun _ _ _ => tRet (hdE p.2))
theorem MetH.ok : ∀ {hds : List ExceptHandler} {l : List (Addr × D)}, MetH Z hds l → HdsOk Z hds (hdsTS l)
  | _, _, .nil => .nil
  | _, _, .cons hm hg hd pe r => .cons ⟨hg, hd, .inl hm⟩ (fun a oe cls d pn _ _ => pss_one (ps_ret (pe a _))) (MetH.ok r)
theorem metE_many {K : PySem.W.Frag} {D0 : Ends} {cls : Value} {o : Option Addr} {σ : L2.St} {H : Hp} : ∀ {l : List (Addr × D)}, metE K D0.rt l cls o H → wMany K (fun _ _ _ _ => False) D0 (hdsTS l) cls o σ H
  | [], h => h
  | (C, d) :: r, h => by
    obtain ⟨b, h1, h2, h3⟩ := h
    exact ⟨b, h1, fun hb a _ => hdE_any (h2 hb), fun hb => metE_many (h3 hb)⟩
/-- told: the answer in a pair behind the text told; or what the clauses answer -/
def TTmet (K : PySem.W.Frag) (told : Str) (l : List (Addr × D)) : (XK → Hp → VK → Prop) → Hp → VK → Prop := fun tl H Q =>
  tl (metE K Q l) H (fun v H' => ∀ p, H' p = none → Q (.ref p) (upd H' p (.tup [.str told, v])))
theorem met_gives {Ng : List Str} {x a q told : Str} {sg : Scope} {g : Addr} {cdg : Value} {j : Nat} {xx : Nat} {p1 p2 p3 p4 p5 p8 : Pos} {h0 : ExceptHandler} {hds : List ExceptHandler} {l : List (Addr × D)}
    (hh : ∀ (s : Shared) (H : Hp), MetH (cxOf C8.CX0 X.prog X.w X.K X.mg X.base Ng x sg g cdg X.A X.stack s H C8.E0).nox (h0 :: hds) l) (hs0 : ∀ f : Addr, (L2.start Ng [V.ref f])[0]? = some (some (V.ref f))) :
    LamX.GivesTo X Ng x sg g cdg [.Try [.Return (some (.Tuple [.Constant (.str told) j p4, .Call (.Name a p1) [] [] p2] xx p5)) p3] (h0 :: hds) [] [] p8] a q (TTmet X.K told l) := by
  intro f c' s H Q tl act hc h
  refine ⟨_, pss_one (ps_try_many (X := (cxOf C8.CX0 X.prog X.w X.K X.mg X.base Ng x sg g cdg X.A X.stack s H C8.E0).nox) (l := hdsTS l)
      (tb := fun W D0 σ H => ∃ Ech : XK, (∀ cls d σ' H', Ech cls d H' → W cls d σ' H') ∧ σ[0]? = some (some (.ref f)) ∧ H c' = some (LamX.CodeO c' q) ∧ tl Ech H fun v H' => ∀ p, H' p = none → D0.rt (.ref p) (upd H' p (.tup [.str told, v])))
      rfl rfl LamX.takes0 (fun W pn xe tk _ => ?_) (hh s H).ok), ?_⟩
  · refine ⟨fun pins s' σ H' D0 I h' => ?_⟩
    obtain ⟨Ech, hW, h1, h2, h3⟩ := h'
    have hp := act W pn xe Ech p1 p2 tk hW
    have ht := pss_one (ps_ret (pos := p3) (pe_tup (x1 := xx) (pos := p5) (pa_cons (pe_str (x := told) (j := j) (pos := p4)) (pa_cons hp pa_nil))))
    refine ht.run pins s' σ H' D0 I ⟨h1, h2, ?_⟩
    have conv : (fun v H' => ∀ p, H' p = none → D0.rt (.ref p) (upd H' p (.tup [.str told, v]))) = fun v H' => ([V.str told, v] : List V).length ≤ sizeLine ∧ ∀ p, H' p = none → D0.rt (.ref p) (upd H' p (.tup [.str told, v])) := by
      funext v H'
      exact propext ⟨fun h => ⟨by show 2 ≤ sizeLine; decide, h⟩, fun h => h.2⟩
    rw [conv] at h3
    exact h3
  · exact ⟨metE X.K Q l, fun cls d σ' H' h => metE_many h, hs0 f, hc, h⟩
end
section
variable {K : PySem.W.Frag} {mg : Str → Option Value} {ρ : List Addr} {O : Addr → Prop} {Γ : VEnv} {σ : L2.St} {H F H1 : Hp}
/-- only the tables have grown -/
theorem Rep.ext (R : Rep K mg ρ O Γ σ H F) (e : LamX.ExtN H H1) (t : LamX.Tabs TabT.T H1) : Stp K mg ρ O Γ σ H F H1 F := by
  have at_ : ∀ {a : Addr}, H a ≠ none → (∀ ps, H a ≠ some (.tbl ps)) → H1 a = H a := fun {a} h n => by
    cases q : H a with
    | none => exact absurd q h
    | some o => exact e a o q fun ps z => n ps (by rw [q, z])
  have ow : ∀ {a : Addr} {d : D}, OwnAt K mg F H a d → OwnAt K mg F H1 a d := fun h => h.stay (Same.refl _) h.1 (at_ h.there h.notbl)
  refine ⟨⟨fun b o q => e b o (R.le b o q) fun ps z => R.nt b ps (z ▸ q), R.len, R.vl, fun i d q => ?_, R.pr, R.plen, fun k d q => ?_, R.sfz, R.inj, fun a h => ?_, t, R.nt, fun a h ps => ?_⟩, Same.refl _, fun a h => at_ (R.prot a h).2.1 (R.pt a h)⟩
  · obtain ⟨a, h1, h2⟩ := R.ow i d q; exact ⟨a, h1, ow h2⟩
  · obtain ⟨a, h1, h2⟩ := R.sow k d q; exact ⟨a, h1, ow h2⟩
  · obtain ⟨h1, h2, h3⟩ := R.prot a h
    exact ⟨h1, by rw [at_ h2 (R.pt a h)]; exact h2, h3⟩
  · rw [at_ (R.prot a h).2.1 (R.pt a h)]; exact R.pt a h ps
end
/-- told: ..; tab: what is answered of a raised class -/
def mMet (told : List Nat) (tab : List (Str × D)) (m : MX) : M := fun Γ => (m Γ).bind fun p => match p.1 with
  | .inl r => (freeze r p.2).map fun z => (.val (.tup [.str told, z.1]), z.2)
  | .inr x => (tab.lookup x).map fun d => (.val d, p.2)
/-- the classes' addresses, and which of them are which -/
structure Clss (K : PySem.W.Frag) (mg : Str → Option Value) (tab : List (Str × D)) (l : List (Addr × D)) : Prop where
  same : ∀ x C, mg x = some (.ref C) → ∀ d, tab.lookup x = some d → ∀ Q H, hdE d [] H Q → metE K Q l (.ref C) none H
  ok : ∀ x d, tab.lookup x = some d → hdOk d
section
variable {X : Cx} {mx : MX}
theorem hd_run {K : PySem.W.Frag} {mg : Str → Option Value} {F H : Hp} {d : D} {Q : VK} (hok : hdOk d) (hl : Same F H) (k : GQ K mg F H (.val d) Q) : hdE d [] H Q := by
  unfold hdOk at hok
  split at hok
  · rename_i s
    show Q (.str ⟨s.toArray⟩) H
    exact gq_val hl k (by simp only [RD]; exact ⟨trivial, hok⟩)
  · rename_i s t
    show ([V.str ⟨s.toArray⟩, V.str ⟨t.toArray⟩] : List V).length ≤ sizeLine ∧ ∀ p, H p = none → Q (.ref p) (upd H p (.tup [V.str ⟨s.toArray⟩, V.str ⟨t.toArray⟩]))
    refine ⟨by show 2 ≤ sizeLine; decide, gq_tup hl k ?_⟩
    simp only [RDs, RD]
    exact ⟨_, _, rfl, ⟨rfl, hok.1⟩, _, _, rfl, ⟨rfl, hok.2⟩, rfl⟩
  · exact hok.elim
theorem ve_met {told : List Nat} {tab : List (Str × D)} {l : List (Addr × D)} {x a : Str} {g c P : Addr} {k : Nat} {pg : Arguments} {bg : List Stmt} {sg : Scope} {dV kV doc pm cdv ct oc : Value} {an od : Option Addr} {osl : Array (Option Value)} {Ng : List Str}
    {params : Arguments} {body : Expr} {scope : Scope} {p lpos pos : Pos} (cl : Clss X.K X.mg tab l) (htold : OkS told) (hm : X.mg x = some (.ref g)) (hk : PySem.W.keepIn X.K (.ref g) = true)
    (lk : X.K.lookup g = some ⟨oc, od, .func (PySem.W.fnOf x x pg bg sg dV kV doc pm an cdv ct), osl⟩) (hcg : PySem.W.codeIn X.K cdv x = true) (hb : L2.Binds X.K (PySem.W.fnOf x x pg bg sg dV kV doc pm an cdv ct) [a] []) (Sg : FnScope Ng [a] sg) (hNg : Ng[0]? = some a) (hva : Vis sg a)
    (hG : LamX.GivesTo X Ng x sg g cdv bg a (X.env.qual ++ "<lambda>") (TTmet X.K ⟨told.toArray⟩ l))
    (TB : LamX.TabB X.base X.mg c P) (hcode : X.env.code = .ref c) (hmT : (P, X.env.qual ++ "<lambda>") ∈ TabT.T) (hu : ∀ p ∈ TabT.T, p.1 = P → p.2 = X.env.qual ++ "<lambda>") (hr : Room (k + 2) X.A) (L : LamX.LamS X.env.scope scope)
    (hbody : ∀ (A : Around) (outer : List PySem.Env) (s : Shared) (H : Hp) (E : XK) (f c' : Addr), Room k (A.deeper (LamX.lamEnv X scope s.heap.objs.size f c')) → VX (LamX.lamCx X A outer s H E scope f c') body mx)
    (hg : Gl X x := by rfl) (hdef : defaultsOf params X.env = ([], []) := by rfl)
    (hbind : ∀ (q : Str) (cl : List (Str × Addr)) (pm cv ctv : Value), bindArgs (PySem.W.kla_fn "<lambda>" q params body scope cl pm cv ctv) ⟨[], []⟩ = pure [] := by intros; rfl)
    (hdb : (x == ("__debug__" : Str)) = false := by decide) (hd : (a == ("__debug__" : Str)) = false := by decide) (hcd : (a == ("__classdict__" : Str)) = false := by decide) :
    VE X (.Call (.Name x p) [.Lambda params body scope lpos] [] pos) (mMet told tab mx) := by
  refine pe_of (LamX.pe_lamcall (t := fun E => tX X.K X.mg E mx) hg hm hk lk hcg hb Sg hNg hva hG TB hcode hmT hu hr L hdef hbind (fun A outer s H E f c' hr' => ?_) hdb hd hcd) fun σ H Q h => ?_
  · exact hbody A outer s H E f c' hr' (fun _ => E) fun σ => passAt (takes_of rfl rfl rfl rfl) σ
  · obtain ⟨ρ, O, Γ, F, res, Γ', R, e, kk⟩ := h
    refine ⟨R.tb, fun H1 eN t1 => ?_⟩
    have s0 := R.ext eN t1
    obtain ⟨⟨z, Γ1⟩, e1, e⟩ := obind e
    show tX X.K X.mg (metE X.K Q l) mx σ H1 _
    refine tX_run s0.rep e1 ?_
    cases z with
    | inl r =>
      obtain ⟨⟨d, Γ2⟩, e2, e3⟩ := omap e
      cases e3
      intro v H2 F2 s2 r2
      obtain ⟨F3, R3, s3, rd, _⟩ := freeze_ok s2.rep r2 e2
      have st : Stp X.K X.mg ρ O Γ2 σ H F H2 F3 := (s0.trans s2).trans ⟨R3, s3, fun _ _ => rfl⟩
      refine gq_tup (ds := [.str told, d]) R3.le (fun w H4 F4 g hr => kk w H4 F4 (st.trans (Stp.grow R3 g)) trivial (res_ev R3 g hr)) ?_
      simp only [RDs, RD]
      exact ⟨_, _, rfl, ⟨rfl, htold⟩, _, _, rfl, rd, rfl⟩
    | inr y =>
      obtain ⟨d, e2, e3⟩ := omap e
      cases e3
      intro C H2 F2 hC s2
      have st : Stp X.K X.mg ρ O Γ1 σ H F H2 F2 := s0.trans s2
      exact cl.same y C hC d e2 Q H2 (hd_run (cl.ok y d e2) s2.rep.le fun w H4 F4 g hr => kk w H4 F4 (st.trans (Stp.grow s2.rep g)) trivial (res_ev s2.rep g hr))
end
end VS

set_option Elab.async false
set_option linter.all false
set_option maxRecDepth 100000
set_option maxHeartbeats 4000000
/-! ### defs as values, called by a name of one's own -/
namespace VS
open PySem L2 PyProof.Rows
variable [TabT]

section
variable {X : Cx} {e : Expr} {es : List Expr} {ml : ML} {pos : Pos}
theorem ve_gfn {x : Str} (s : List Nat) {f : Addr} (hm : X.mg x = some (.ref f)) (h : x = ⟨s.toArray⟩ := by decide +kernel) (hg : Gl X x := by rfl) (hd : (x == ("__debug__" : Str)) = false := by decide) : VE X (.Name x pos) (mC (.fn s)) :=
  ve_const (v := .ref f) (pe_glob hg hm rfl hd) fun F => by simp only [RD]; exact ⟨f, rfl, by rw [← h]; exact hm⟩
/-- a def by its name: its answers, what it raises -/
abbrev FTab := List (List Nat × List Bool × Sem' × SemX)
def mCallV (i : Nat) (fs : FTab) (ml : ML) : MX := fun Γ => match Γ.sl[i]? with
  | some (.val (.fn x)) => (fs.lookup x).bind fun p => mCallX p.1 p.2.1 p.2.2 ml Γ
  | _ => none
def AllG (P : Program) (w : World) (K : PySem.W.Frag) (mg : Str → Option Value) (base : Heap) (k : Nat) : FTab → Prop
  | [] => True
  | (x, _, f, g) :: r => (∃ n j, j ≤ k ∧ GX P w K mg base ⟨x.toArray⟩ j n f g) ∧ AllG P w K mg base k r
omit [TabT] in
theorem lookup_mem' {α β : Type} [BEq α] [LawfulBEq α] {a : α} {b : β} : ∀ {l : List (α × β)}, l.lookup a = some b → (a, b) ∈ l
  | [], h => by cases h
  | (c, d) :: r, h => by
    rw [List.lookup_cons] at h
    split at h
    · rename_i q
      cases h
      rw [eq_of_beq q]
      exact List.mem_cons_self
    · exact List.mem_cons_of_mem _ (lookup_mem' h)
theorem AllG.at_ {P : Program} {w : World} {K : PySem.W.Frag} {mg : Str → Option Value} {base : Heap} {k : Nat} {x : List Nat} {q : List Bool × Sem' × SemX} : ∀ {fs : FTab}, AllG P w K mg base k fs → (x, q) ∈ fs → ∃ n j, j ≤ k ∧ GX P w K mg base ⟨x.toArray⟩ j n q.2.1 q.2.2
  | [], _, h => by cases h
  | (y, b, f, g) :: r, a, h => by
    rcases List.mem_cons.mp h with e | h
    · cases e; exact a.1
    · exact AllG.at_ a.2 h
theorem vx_callV {x : Str} {p : Pos} {k : Nat} (i : Nat) (fs : FTab) (G : AllG X.prog X.w X.K X.mg X.base k fs) (hr : RoomG k X.A) (ha : VA X (e :: es) ml) (hN : X.N[i]? = some x := by rfl) (hv : Vis X.env.scope x := by first | exact Or.inl rfl | exact Or.inr (Or.inl rfl) | exact Or.inr (Or.inr rfl))
    (hdb : (x == ("__debug__" : Str)) = false := by decide) (hcd : (x == ("__classdict__" : Str)) = false := by decide)
    (he : starEach (e :: es) X.env = (false, eval e X.env) :: starEach es X.env := by rfl) (hpl : (backTo pos (starEach es X.env)).any (·.1) = false := by rfl) :
    VX X (.Call (.Name x p) (e :: es) [] pos) (mCallV i fs ml) := by
  refine fun E hx => ⟨fun pins s σ H Q I h => ?_⟩
  obtain ⟨ρ, O, Γ, F, z, Γ', R, ez, k⟩ := h
  unfold mCallV at ez
  split at ez
  case h_2 => cases ez
  rename_i y hy
  obtain ⟨⟨bs, f, g⟩, e1, e2⟩ := obind ez
  obtain ⟨v, h1, h2⟩ := R.vl i _ hy
  simp only [RD] at h2
  obtain ⟨f0, rfl, hm0⟩ := h2
  obtain ⟨n, j, hj, f0', fd, ps, Fn, hm, hk, hb, hl, hl2⟩ := G.at_ (lookup_mem' e1)
  have ef : f0' = f0 := by
    have q := hm.symm.trans hm0
    injection q with q
    injection q
  subst ef
  refine wpAny_Call_Name_kw (thn ((pe_var (pos := p) hN hv hdb hcd).run pins s σ H (fun v H1 => v = .ref f0' ∧ H1 = H) I ⟨_, h1, rfl, rfl⟩) fun u s1 ⟨v, H1, I1, r1, q1⟩ => ?_)
  obtain ⟨rfl, rfl⟩ := q1
  cases r1
  have rd := call_runX (X := X) (bs := bs) (ml := ml) hl hl2 (E := E) ⟨ρ, O, Γ, F, z, Γ', R, e2, k⟩
  exact PySem.W.callWith_K (h₀ := X.base) I.ok.mod.kin hk (thn (ha.run pos pins s1 σ _ _ I1 rd) fun us s2 ⟨vs, H2, I2, r, q⟩ => ⟨I2.kIn, run_fnG Fn (hr.mono hj) hb (hx σ) I2 r q⟩) he hpl
end
end VS

set_option Elab.async false
set_option linter.all false
set_option maxRecDepth 100000
set_option maxHeartbeats 4000000
/-! ### the end over a head of facts -/
namespace VS
open PySem L2 PyProof.Rows

theorem funOfD {K : PySem.W.Frag} {x : Str} {st : Stmt} {f : Addr} {fd : FuncData} (F : FunD K x x (defArgs st) (defBody st) (defScope st) [] [] f fd) : Fun K x x st f fd := by
  obtain ⟨⟨oc, od, dV, kV, doc, pm, an, cdv, ct, osl, h1, h2, h3, h4, _⟩, kp⟩ := F
  rcases h4 with ⟨_, rfl⟩ | ⟨h4, _⟩
  · exact ⟨⟨oc, od, kV, doc, pm, an, cdv, ct, osl, h1, h2, h3⟩, kp⟩
  · exact absurd rfl h4
theorem cd_of {K : PySem.W.Frag} {p : He.Defn} {oc : Value} {od : Option Addr} {osl : Array (Option Value)} {fd : FuncData} {q : Str} (lk : K.lookup (He.fAd K p) = some ⟨oc, od, .func fd, osl⟩) (h : PySem.W.codeIn K fd.code q = true) : fd.code = .ref (He.codeOf K p) := by
  obtain ⟨c, e⟩ := He.codeIn_ref h
  rw [e, He.codeOf_eq lk e]
def lamName (x : Str) : Str := x ++ ".<locals>." ++ "<lambda>"
section
variable [TabT]
theorem roomG_of {k : Nat} {A : Around} (h : TabT.gd = false) (r : Room k A) : RoomG k A := ⟨r, fun e => by rw [h] at e; cases e⟩
/-- a def of the text that makes lambdas: its code object, the table -/
structure LamF (K : PySem.W.Frag) (mg : Str → Option Value) (base : Heap) (x : Str) (f c P : Addr) : Prop where
  code : ∀ {oc : Value} {od : Option Addr} {osl : Array (Option Value)} {fd : FuncData} {q : Str}, K.lookup f = some ⟨oc, od, .func fd, osl⟩ → PySem.W.codeIn K fd.code q = true → fd.code = .ref c
  tab : LamX.TabB base mg c P
  mem : (P, lamName x) ∈ TabT.T
  uniq : ∀ p ∈ TabT.T, p.1 = P → p.2 = lamName x
theorem LamF.cd {K : PySem.W.Frag} {mg : Str → Option Value} {base : Heap} {x : Str} {f c P : Addr} {st : Stmt} {cdv : Value} {q : Str} (L : LamF K mg base x f c P)
    (h : ∃ oc od kV doc pm an ct osl, K.lookup f = some ⟨oc, od, .func (PySem.W.fnOf x q (defArgs st) (defBody st) (defScope st) .none kV doc pm an cdv ct), osl⟩) (hc : PySem.W.codeIn K cdv q = true) : cdv = .ref c := by
  obtain ⟨oc, od, kV, doc, pm, an, ct, osl, lk⟩ := h
  exact L.code lk hc
/-- the def with the try -/
structure MetK (K : PySem.W.Frag) (mg : Str → Option Value) (x a : Str) (st : Stmt) (Ng : List Str) (tab : List (Str × D)) (l : List (Addr × D)) : Prop where
  ex : ∃ (g : Addr) (oc : Value) (od : Option Addr) (dV kV doc pm : Value) (an : Option Addr) (cdv ct : Value) (osl : Array (Option Value)), mg x = some (.ref g) ∧ PySem.W.keepIn K (.ref g) = true ∧
    K.lookup g = some ⟨oc, od, .func (PySem.W.fnOf x x (defArgs st) (defBody st) (defScope st) dV kV doc pm an cdv ct), osl⟩ ∧ PySem.W.codeIn K cdv x = true ∧ L2.Binds K (PySem.W.fnOf x x (defArgs st) (defBody st) (defScope st) dV kV doc pm an cdv ct) [a] []
  cl : Clss K mg tab l
  sc : FnScope Ng [a] (defScope st)
  ng : Ng[0]? = some a
  va : Vis (defScope st) a
theorem metK_of {K : PySem.W.Frag} {mg : Str → Option Value} {x a : Str} {st : Stmt} {f : Addr} {fd : FuncData} {Ng : List Str} {tab : List (Str × D)} {l : List (Addr × D)} (F : FunD K x x (defArgs st) (defBody st) (defScope st) [] [] f fd) (hm : mg x = some (.ref f)) (cl : Clss K mg tab l) (sc : FnScope Ng [a] (defScope st)) (ng : Ng[0]? = some a) (va : Vis (defScope st) a)
    (h : ∀ (kV doc pm : Value) (an : Option Addr) (cdv ct : Value) (us : List Value), us.length = ([a] : List Str).length → bindArgs (PySem.W.fnOf x x (defArgs st) (defBody st) (defScope st) .none kV doc pm an cdv ct) ⟨us, []⟩ = pure (([a] : List Str).zip us)) : MetK K mg x a st Ng tab l := by
  have b := (funOfD F).binds h
  obtain ⟨⟨oc, od, dV, kV, doc, pm, an, cdv, ct, osl, rfl, h2, h3, _⟩, kp⟩ := F
  exact ⟨⟨f, oc, od, dV, kV, doc, pm, an, cdv, ct, osl, hm, kp, h2, h3, b⟩, cl, sc, ng, va⟩
theorem clss_of {K : PySem.W.Frag} {mg : Str → Option Value} {ts : List (Str × D)} (hm : ∀ p ∈ ts, mg p.1 = some (.ref (He.ga K p.1))) (he : ∀ p ∈ ts, ∀ q ∈ ts, PySem.W.exmOne K (.ref (He.ga K p.1)) (.ref (He.ga K q.1)) = some (p.1 == q.1)) (ok : ∀ p ∈ ts, hdOk p.2) :
    Clss K mg ts (ts.map fun p => (He.ga K p.1, p.2)) := by
  refine ⟨fun x C hC d hd Q H h => ?_, fun x d hd => ok _ (lookup_mem' hd)⟩
  have hx := lookup_mem' hd
  have eC : C = He.ga K x := by
    have q := (hm _ hx).symm.trans hC
    injection q with q
    injection q with q
    exact q.symm
  subst eC
  have go : ∀ l : List (Str × D), (∀ q ∈ l, q ∈ ts) → l.lookup x = some d → metE K Q (l.map fun p => (He.ga K p.1, p.2)) (.ref (He.ga K x)) none H := by
    intro l
    induction l with
    | nil => intro _ e; cases e
    | cons q l ih =>
      intro hs e
      refine ⟨x == q.1, he _ hx _ (hs q List.mem_cons_self), fun hb => ?_, fun hb => ?_⟩
      · rw [List.lookup_cons, hb] at e
        cases e
        exact h
      · rw [List.lookup_cons, hb] at e
        exact ih (fun z hz => hs z (List.mem_cons_of_mem _ hz)) e
  exact go ts (fun _ h => h) hd
theorem pe_strN {X : Cx} {x : Str} {j : Nat} {pos : Pos} (s : List Nat) (h : x = ⟨s.toArray⟩ := by decide +kernel) : PE X (.Constant (.str x) j pos) (hdE (.str s)) := by
  rw [h]; exact pe_str
theorem pe_pairN {X : Cx} {x y : Str} {j j2 k : Nat} {pos pos2 pos3 : Pos} (s t : List Nat) (h : x = ⟨s.toArray⟩ := by decide +kernel) (h2 : y = ⟨t.toArray⟩ := by decide +kernel) : PE X (.Tuple [.Constant (.str x) j pos, .Constant (.str y) j2 pos2] k pos3) (hdE (.tup [.str s, .str t])) := by
  rw [h, h2]; exact pe_tup (pa_cons pe_str (pa_cons pe_str pa_nil))
theorem ve_metK {X : Cx} {mx : MX} {tab : List (Str × D)} {l : List (Addr × D)} {x a y : Str} {st : Stmt} {Ng : List Str} {k : Nat} {f c P : Addr} {params : Arguments} {body : Expr} {scope : Scope} {p lpos pos : Pos} (told : List Nat) (M : MetK X.K X.mg x a st Ng tab l)
    (hG : ∀ (g : Addr) (cdv : Value), LamX.GivesTo X Ng x (defScope st) g cdv (defBody st) a (X.env.qual ++ "<lambda>") (TTmet X.K ⟨told.toArray⟩ l)) (LF : LamF X.K X.mg X.base y f c P) (hcode : X.env.code = .ref c) (hr : RoomG (k + 2) X.A) (hq : X.env.qual ++ "<lambda>" = lamName y)
    (L : LamX.LamS X.env.scope scope)
    (hbody : ∀ (A : Around) (outer : List PySem.Env) (s : Shared) (H : Hp) (E : XK) (f c' : Addr), Room k (A.deeper (LamX.lamEnv X scope s.heap.objs.size f c')) → VX (LamX.lamCx X A outer s H E scope f c') body mx)
    (hg : Gl X x := by rfl) (htold : OkS told := by decide) (hdef : defaultsOf params X.env = ([], []) := by rfl)
    (hbind : ∀ (q : Str) (cl : List (Str × Addr)) (pm cv ctv : Value), bindArgs (PySem.W.kla_fn "<lambda>" q params body scope cl pm cv ctv) ⟨[], []⟩ = pure [] := by intros; rfl)
    (hdb : (x == ("__debug__" : Str)) = false := by decide) (hd : (a == ("__debug__" : Str)) = false := by decide) (hcd : (a == ("__classdict__" : Str)) = false := by decide) :
    VE X (.Call (.Name x p) [.Lambda params body scope lpos] [] pos) (mMet told tab mx) := by
  obtain ⟨g, oc, od, dV, kV, doc, pm, an, cdv, ct, osl, hm, hk, lk, hcg, hb⟩ := M.ex
  exact ve_met M.cl htold hm hk lk hcg hb M.sc M.ng M.va (hG g cdv) LF.tab hcode (by rw [hq]; exact LF.mem) (by rw [hq]; exact LF.uniq) hr.toRoom L hbody hg hdef hbind hdb hd hcd
theorem GX.mgx {P : Program} {w : World} {K : PySem.W.Frag} {mg : Str → Option Value} {base : Heap} {x : Str} {k p : Nat} {f : Sem'} {g : SemX} (h : GX P w K mg base x k p f g) : ∃ f0, mg x = some (.ref f0) := by
  obtain ⟨f0, _, _, _, hm, _⟩ := h
  exact ⟨f0, hm⟩
end
theorem lamF_uniq {K : PySem.W.Frag} {tf : List He.Defn} (nd : (tf.map fun p => (He.cT K p).2).Nodup) {p : He.Defn} (hp : p ∈ tf) : ∀ q ∈ tf.map (fun p => ((He.cT K p).2, lamName p.1)), q.1 = (He.cT K p).2 → q.2 = lamName p.1 := by
  intro q hq e
  obtain ⟨r, hr, rfl⟩ := List.mem_map.mp hq
  have : r = p := by
    clear hq
    induction tf with
    | nil => cases hp
    | cons a l ih =>
      rw [List.map_cons, List.nodup_cons] at nd
      have out : ∀ z ∈ l, (He.cT K a).2 ≠ (He.cT K z).2 := fun z hz h => nd.1 (h ▸ List.mem_map_of_mem (f := fun p => (He.cT K p).2) hz)
      rcases List.mem_cons.mp hp with h1 | h1
      · rcases List.mem_cons.mp hr with h2 | h2
        · rw [h1, h2]
        · subst h1; exact absurd e.symm (out r h2)
      · rcases List.mem_cons.mp hr with h2 | h2
        · subst h2; exact absurd e (out p h1)
        · exact ih nd.2 h1 h2
  rw [this]
theorem lamF_of {K : PySem.W.Frag} {mg : Str → Option Value} {base : Heap} {tf : List He.Defn} {x : Str} {b : Bool} (nd : (tf.map fun p => (He.cT K p).2).Nodup) (hp : ((x, none) : He.Defn) ∈ tf) (hT : ∀ z ∈ tf, LamX.TabB base mg (He.cT K z).1 (He.cT K z).2) :
    @LamF ⟨tf.map fun p => ((He.cT K p).2, lamName p.1), b⟩ K mg base x (He.ga K x) (He.cT K (x, none)).1 (He.cT K (x, none)).2 := by
  letI : TabT := ⟨tf.map fun p => ((He.cT K p).2, lamName p.1), b⟩
  exact ⟨fun lk h => cd_of (p := (x, none)) lk h, hT _ hp, List.mem_map_of_mem (f := fun p : He.Defn => ((He.cT K p).2, lamName p.1)) hp, lamF_uniq nd hp⟩
end VS

set_option Elab.async false
set_option linter.all false
set_option maxRecDepth 100000
set_option maxHeartbeats 4000000
/-! ### dicts made, setdefault -/
namespace VS
open PySem L2 PyProof.Rows
variable [TabT]

def mNewD (t : Bool) : M := fun Γ => some (.fresh (if t = true then .dicT [] else .dict []), Γ)
section
variable {X : Cx} {e : Expr} {es : List Expr} {m : M} {ml : ML} {pos : Pos}
theorem ve_dnewK : VE X (.Dict [] [] pos) (mNewD false) := by
  refine pe_of pe_dnewK fun σ H Q h => ?_
  obtain ⟨ρ, O, Γ, F, r, Γ', R, e, k⟩ := h
  cases e
  intro p hn
  have g : Grow F H F (upd H p (.dK [])) := grow_own R.le hn
  exact k (.ref p) _ F (Stp.grow R g) trivial (res_ev R g ⟨p, rfl, hn, same_none R.le hn, [], upd_same, by simp only [RDk]⟩)
theorem ve_dnewT : VE X (.Dict [] [] pos) (mNewD true) := by
  refine pe_of pe_dnewT fun σ H Q h => ?_
  obtain ⟨ρ, O, Γ, F, r, Γ', R, e, k⟩ := h
  cases e
  intro p hn
  have g : Grow F H F (upd H p (.dT [])) := grow_own R.le hn
  exact k (.ref p) _ F (Stp.grow R g) trivial (res_ev R g ⟨p, rfl, hn, same_none R.le hn, [], upd_same, by simp only [RDt]⟩)
/-! a display -/
def mPairs : List (M × M) → VEnv → Option (List (D × D) × VEnv)
  | [], Γ => some ([], Γ)
  | (a, b) :: r, Γ => (a Γ).bind fun p => match p.1 with
    | .val x => (b p.2).bind fun q => (freeze q.1 q.2).bind fun y => if (kdOf x).isSome = true then (mPairs r y.2).map fun w => ((x, y.1) :: w.1, w.2) else none
    | _ => none
def mDisp (ms : List (M × M)) : M := fun Γ => (mPairs ms Γ).bind fun w => if w.1.length ≤ 15 then some (.fresh (.dict (buildD w.1)), w.2) else none
inductive VPs (X : Cx) (pos : Pos) : List (Option Expr) → List Expr → List (M × M) → Prop
  | nil : VPs X pos [] [] []
  | cons {k v : Expr} {ks : List (Option Expr)} {vs : List Expr} {a b : M} {r : List (M × M)} (hk : VE X k a) (hv : VE X v b) (hr : VPs X pos ks vs r) : VPs X pos (some k :: ks) (v :: vs) ((a, b) :: r)
theorem VPs.pp {ks : List (Option Expr)} {vs : List Expr} {ms : List (M × M)} (h : VPs X pos ks vs ms) : PPs X pos ks vs (ms.map fun p => (tV X.K X.mg p.1, tV X.K X.mg p.2)) := by
  induction h with
  | nil => exact pps_nil
  | cons hk hv _ ih => exact pps_cons hk hv ih
theorem rdk_keys {K : PySem.W.Frag} {mg : Str → Option Value} {F : Hp} : ∀ {ds : List (D × D)} {ps : List (V × V)}, (∀ (i : Nat) (d : D × D), ds[i]? = some d → ∃ v : V × V, ps[i]? = some v ∧ RD K mg F d.1 v.1 ∧ RD K mg F d.2 v.2 ∧ (kdOf d.1).isSome = true) → ds.length = ps.length →
    ∃ kvs : List (Key × V), ps = kvs.map (fun kv => (kV kv.1, kv.2)) ∧ RDk K mg F ds kvs
  | [], ps, _, hl => by
    cases ps with
    | nil => exact ⟨[], rfl, by simp only [RDk]⟩
    | cons _ _ => simp at hl
  | d :: ds, ps, h, hl => by
    cases ps with
    | nil => simp at hl
    | cons p ps =>
      obtain ⟨v, h1, h2, h3, h4⟩ := h 0 d rfl
      simp only [List.getElem?_cons_zero, Option.some.injEq] at h1
      subst h1
      obtain ⟨kvs, e, r⟩ := rdk_keys (fun i d q => by
        obtain ⟨v, z⟩ := h (i + 1) d (by simpa using q)
        exact ⟨v, by simpa using z⟩) (by simpa using hl)
      obtain ⟨c, hc⟩ := Option.isSome_iff_exists.mp h4
      obtain ⟨dk, dv⟩ := d
      have ek := kdOf_eq hc
      subst ek
      refine ⟨(c, p.2) :: kvs, ?_, ?_⟩
      · rw [List.map_cons, ← e, ← rd_kV c h2]
      · simp only [RDk]
        exact ⟨c, p.2, kvs, rfl, ⟨rfl, rd_keyOk c h2⟩, h3, r⟩
theorem pairs_run {K : PySem.W.Frag} {mg : Str → Option Value} {ρ : List Addr} {O : Addr → Prop} {σ : L2.St} : ∀ {ms : List (M × M)} {Γ Γ' : VEnv} {H F : Hp} {ds : List (D × D)} {Q : List (V × V) → Hp → Prop}, Rep K mg ρ O Γ σ H F → mPairs ms Γ = some (ds, Γ') →
    (∀ ps H' F', Stp K mg ρ O Γ' σ H F H' F' → ds.length = ps.length → (∀ (i : Nat) (d : D × D), ds[i]? = some d → ∃ v : V × V, ps[i]? = some v ∧ RD K mg F' d.1 v.1 ∧ RD K mg F' d.2 v.2 ∧ (kdOf d.1).isSome = true) → Q ps H') → tPairs (ms.map fun p => (tV K mg p.1, tV K mg p.2)) σ H Q
  | [], Γ, Γ', H, F, ds, Q, R, e, k => by
    cases e
    exact k [] H F (Stp.refl R) rfl fun i d q => by simp at q
  | (a, b) :: r, Γ, Γ', H, F, ds, Q, R, e, k => by
    simp only [mPairs] at e
    obtain ⟨⟨ra, Γ1⟩, e1, e⟩ := obind e
    cases ra with
    | val x =>
      simp only at e
      obtain ⟨⟨rb, Γ2⟩, e2, e⟩ := obind e
      obtain ⟨⟨y, Γ4⟩, e4, e⟩ := obind e
      split at e
      case isFalse => cases e
      rename_i hk
      obtain ⟨⟨w, Γ5⟩, e5, e6⟩ := omap e
      cases e6
      refine seq2 R e1 e2 fun u v H1 F1 s1 c1 ru rv => ?_
      obtain ⟨F3, R3, f3, rd3, _⟩ := freeze_ok s1.rep (rv.weakO orO_l) e4
      have ru' : RD K mg F1 x u := ru
      have s3 : Stp K mg ρ O Γ4 σ H F H1 F3 := s1.trans ⟨R3, f3, fun _ _ => rfl⟩
      refine pairs_run R3 e5 fun ps H4 F4 s4 hl hd => k _ H4 F4 (s3.trans s4) (by simp [hl]) fun i d q => ?_
      cases i with
      | zero =>
        simp only [List.getElem?_cons_zero, Option.some.injEq] at q
        subst q
        exact ⟨(u, v), rfl, RD.mono (f3.trans s4.fs) _ _ ru', RD.mono s4.fs _ _ rd3, hk⟩
      | succ i =>
        simp only [List.getElem?_cons_succ] at q
        obtain ⟨v', z1, z2⟩ := hd i d q
        exact ⟨v', by simpa using z1, z2⟩
    | fresh d => cases e
    | slot i => cases e
    | par i => cases e
theorem buildK {K : PySem.W.Frag} {mg : Str → Option Value} {F : Hp} : ∀ {ds acc : List (D × D)} {kvs kacc : List (Key × V)}, RDk K mg F ds kvs → RDk K mg F acc kacc → RDk K mg F (ds.foldl (fun acc p => putD acc p.1 p.2) acc) (mergeK kacc kvs)
  | [], acc, kvs, kacc, h, ha => by
    simp only [RDk] at h
    subst h
    exact ha
  | (k, d) :: ds, acc, kvs, kacc, h, ha => by
    simp only [RDk] at h
    obtain ⟨c, v, r, rfl, ⟨rfl, ok⟩, h1, h2⟩ := h
    show RDk K mg F (ds.foldl (fun acc p => putD acc p.1 p.2) (putD acc (kD c) d)) (mergeK (putK kacc c v) r)
    exact buildK h2 (ha.put c ok h1)
theorem ve_disp {keys : List (Option Expr)} {values : List Expr} {ms : List (M × M)} (h : VPs X pos keys values ms) (hall : keys.all (·.isSome) = true := by rfl) (hl : keys.length = values.length := by rfl) (h0 : keys ≠ [] := by exact fun z => nomatch z) (h15 : keys.length ≤ 15 := by decide) :
    VE X (.Dict keys values pos) (mDisp ms) := by
  refine pe_of (pe_disp h.pp hall hl h0 h15) fun σ H Q hq => ?_
  obtain ⟨ρ, O, Γ, F, r, Γ', R, e, k⟩ := hq
  obtain ⟨⟨ds, Γ1⟩, e1, e⟩ := obind e
  split at e
  case isFalse => cases e
  rename_i hz
  cases e
  intro p hn
  have g : Grow F H F (upd H p (.dK [])) := grow_own R.le hn
  have hF : F p = none := same_none R.le hn
  have nO : ¬ O p := fun z => (R.prot p z).2.1 hn
  have R1 : Rep X.K X.mg ρ (orO O (· = p)) Γ σ (upd H p (.dK [])) F := (R.grow g).addO hF (by rw [upd_same]; exact fun z => nomatch z) (fun ps => by rw [upd_same]; exact fun z => nomatch z) fun l z => z.there R hn
  refine pairs_run R1 e1 fun ps H2 F2 s2 hl2 hd => ?_
  obtain ⟨kvs, ek, rk⟩ := rdk_keys hd hl2
  have hp : H2 p = some (.dK []) := (s2.op p (.inr rfl)).trans upd_same
  have lk : kvs.length ≤ 15 := by rw [← rk.len]; exact hz
  refine ⟨hp, kvs, ek, lk, ?_⟩
  have hF2 : F2 p = none := (s2.rep.prot p (.inr rfl)).1
  have hloc := (s2.rep.prot p (.inr rfl)).2.2
  have R3 : Rep X.K X.mg ρ O Γ1 σ (upd H2 p (.dK (mergeK [] kvs))) F2 := by
    refine ⟨fun b o q => ?_, s2.rep.len, s2.rep.vl, fun i d q => ?_, s2.rep.pr, s2.rep.plen, fun i d q => ?_, s2.rep.sfz, s2.rep.inj, fun b hb => ?_, ?_, s2.rep.nt, fun b hb ps => ?_⟩
    · rw [upd_ne (ne_of_none q hF2)]; exact s2.rep.le b o q
    · obtain ⟨b, h1, h2⟩ := s2.rep.ow i d q
      exact ⟨b, h1, h2.stay (Same.refl _) h2.1 (upd_ne fun z => hloc (.inl i) ⟨⟨d, q⟩, by rw [h1, z]⟩)⟩
    · obtain ⟨b, h1, h2⟩ := s2.rep.sow i d q
      exact ⟨b, h1, h2.stay (Same.refl _) h2.1 (upd_ne fun z => hloc (.inr i) ⟨⟨d, q⟩, by rw [h1, z]⟩)⟩
    · have hne : b ≠ p := fun z => nO (z ▸ hb)
      obtain ⟨h1, h2, h3⟩ := s2.rep.prot b (.inl hb)
      exact ⟨h1, by rw [upd_ne hne]; exact h2, h3⟩
    · exact tabs_but s2.rep.tb (fun b hb => upd_ne hb) (fun ps q => by rw [hp] at q; cases q) fun x q => by rw [hp] at q; cases q
    · have hne : b ≠ p := fun z => nO (z ▸ hb)
      rw [upd_ne hne]; exact s2.rep.pt b (.inl hb) ps
  refine k (.ref p) _ F2 ⟨R3, s2.fs, fun a ha => ?_⟩ trivial ⟨p, rfl, ⟨hF2, _, upd_same, buildK (acc := []) (kacc := []) rk (by simp only [RDk])⟩, nO, hloc⟩
  have hne : a ≠ p := fun z => nO (z ▸ ha)
  rw [upd_ne hne, s2.op a (.inl ha), upd_ne hne]
end
/-! setdefault(key, value), a dict that may be written -/
def mSetd (mo mk mv : M) : M := fun Γ => (mo Γ).bind fun p => (content p.2 p.1).bind fun c0 => match c0 with
  | .dict _ => (mk p.2).bind fun q => match q.1 with
    | .val x => (mv q.2).bind fun w => (freeze w.1 w.2).bind fun z => (content z.2 p.1).bind fun c => match c with
      | .dict kvs => if (kdOf x).isSome = true ∧ kvs.length < sizeLine then (match valD kvs x with
          | some d => some (.val d, z.2)
          | none => some (.val z.1, putC z.2 (.dict (putD kvs x z.1)) p.1)) else none
      | _ => none
    | _ => none
  | _ => none
section
variable {X : Cx} {o e f : Expr} {mo mk mv : M} {apos cpos : Pos}
theorem ve_setd (ho : VE X o mo) (he : VE X e mk) (hf : VE X f mv) (m : M2 X o "setdefault" apos e f cpos := by exact ⟨rfl, rfl, rfl, rfl⟩) : VE X (.Call (.Attribute o "setdefault" apos) [e, f] [] cpos) (mSetd mo mk mv) := by
  refine pe_of (pe_dsetd ho he hf m) fun σ H Q hq => ?_
  obtain ⟨ρ, O, Γ, F, r, Γ', R, e, k⟩ := hq
  obtain ⟨⟨ro, Γ1⟩, e1, e⟩ := obind e
  obtain ⟨c0, e2, e⟩ := obind e
  cases c0 with
  | dict ds0 =>
    obtain ⟨⟨rk, Γ2⟩, e3, e⟩ := obind e
    cases rk with
    | val x =>
      simp only at e
      obtain ⟨⟨rw_, Γ3⟩, e4, e⟩ := obind e
      obtain ⟨⟨z, Γ4⟩, e5, e⟩ := obind e
      obtain ⟨c, e6, e⟩ := obind e
      cases c with
      | dict kvs =>
        simp only at e
        split at e
        case isFalse => cases e
        rename_i hz
        refine tV_run R e1 fun v H1 F1 s1 c1 r1 => ?_
        obtain ⟨a, rfl, ho1, _⟩ := mut_ok s1.rep r1 e2
        obtain ⟨_, vs0, h1, _⟩ := id ho1
        refine ⟨a, rfl, .inl ⟨_, .inl h1⟩, ?_⟩
        refine tV_run s1.rep e3 fun y H2 F2 s2 c2 ry => ?_
        have s12 := s1.trans s2
        refine tV_run s2.rep e4 fun w H3 F3 s3 c3 rw3 => ?_
        obtain ⟨F4, R4, f4, rd4, _⟩ := freeze_ok s3.rep rw3 e5
        have st : Stp X.K X.mg ρ O Γ4 σ H F H3 F4 := (s12.trans s3).trans ⟨R4, f4, fun _ _ => rfl⟩
        have ro4 : RepEV X.K X.mg ρ O Γ4 σ H3 F4 ro (.ref a) := content_later r1 e6 trivial
        obtain ⟨a', q0, ho4, hm⟩ := mut_ok R4 ro4 e6
        cases q0
        obtain ⟨_, vs, g1, g2⟩ := id ho4
        obtain ⟨c, hc⟩ := Option.isSome_iff_exists.mp hz.1
        have ek := kdOf_eq hc
        subst ek
        have ry4 : RD X.K X.mg F4 (kD c) y := RD.mono (s3.fs.trans f4) _ _ ry
        have lk := g2.look c
        refine ⟨vs, c, g1, rd_kV c ry4, by rw [← g2.len]; exact hz.2, fun v hv => ?_, fun hn => ?_⟩
        · cases q : valD kvs (kD c) with
          | none => rw [q] at lk; rw [hv] at lk; cases lk
          | some d =>
            rw [q] at lk e
            obtain ⟨v', h1, h2⟩ := lk
            rw [hv] at h1; cases h1
            cases e
            exact k v H3 F4 st trivial h2
        · cases q : valD kvs (kD c) with
          | some d => rw [q] at lk; obtain ⟨v', h1, _⟩ := lk; rw [hn] at h1; cases h1
          | none =>
            rw [q] at e
            cases e
            obtain ⟨R5, op5⟩ := hm (upd H3 a (.dK (putK vs c w))) (.dict (putD kvs (kD c) z)) (fun b hb => upd_ne hb) ⟨ho4.1, _, upd_same, g2.put c (rd_keyOk c ry4) rd4⟩
            exact k w _ F4 (st.trans ⟨R5, Same.refl _, op5⟩) trivial rd4
      | _ => cases e
    | fresh d => cases e
    | slot i => cases e
    | par i => cases e
  | _ => cases e
end
end VS

set_option Elab.async false
set_option linter.all false
set_option maxRecDepth 100000
set_option maxHeartbeats 4000000
/-! ### == where the lengths tell -/
namespace VS
open PySem L2 PyProof.Rows PySem.SeqAt
variable [TabT]
def lenEq : D → D → Option Bool
  | .tup xs, .tup [] => some xs.isEmpty
  | .tup [], .tup ys => some ys.isEmpty
  | .lst xs, .lst ys => if xs.length = ys.length then none else some false
  | _, _ => none
def eqD2 (d e : D) : Option Bool := match lenEq d e with
  | some b => some b
  | none => eqD d e
omit [TabT] in
@[simp] theorem eqD2_ii (i j : Int) : eqD2 (.int i) (.int j) = eqD (.int i) (.int j) := rfl
omit [TabT] in
@[simp] theorem eqD2_ss (i j : List Nat) : eqD2 (.str i) (.str j) = eqD (.str i) (.str j) := rfl
section
variable {X : Cx}
def rLenT (K : PySem.W.Frag) : R2 := fun x y H Q => ∃ (a b : Addr) (xs ys : List V), x = .ref a ∧ y = .ref b ∧ SqT K H a xs ∧ SqT K H b ys ∧ (xs = [] ∨ ys = []) ∧ Q (.bl (xs.length == ys.length)) H
theorem op_lenT (hu : X.A.units < cLine) : OpR X (compareOp .Eq) (rLenT X.K) := by
  intro pins s σ H x y v u Q I rx ry h
  obtain ⟨a, b, xs, ys, rfl, rfl, h1, h2, h3, q⟩ := h
  obtain rfl : v = Value.ref a := rx
  obtain rfl : u = Value.ref b := ry
  obtain ⟨its, r1, p1, _⟩ := I.tuple h1
  obtain ⟨it2, r2, p2, _⟩ := I.tuple h2
  have z : its = [] ∨ it2 = [] := h3.imp (fun e => by have := r1.length; rw [e] at this; exact List.eq_nil_of_length_eq_zero this.symm) (fun e => by have := r2.length; rw [e] at this; exact List.eq_nil_of_length_eq_zero this.symm)
  have none_ : ∀ j, j < its.toArray.size → j < it2.toArray.size → False := fun j a b => by
    rcases z with rfl | rfl
    · simp at a
    · simp at b
  refine eq_tupleAt (e := fun _ => true) (show s.heap.IsTuple a its.toArray from p1) (show s.heap.IsTuple b it2.toArray from p2) hu (fun j a b => (none_ j a b).elim) ?_
  refine ⟨.bl (xs.length == ys.length), H, I, ?_, q⟩
  show _ = _
  rw [r1.length, r2.length]
  rcases z with rfl | rfl <;> simp
def rLenL (K : PySem.W.Frag) : R2 := fun x y H Q => ∃ (a b : Addr) (xs ys : List V), x = .ref a ∧ y = .ref b ∧ SqL K H a xs ∧ SqL K H b ys ∧ xs.length ≠ ys.length ∧ Q (.bl false) H
theorem op_lenL (hu : X.A.units < cLine) : OpR X (compareOp .Eq) (rLenL X.K) := by
  intro pins s σ H x y v u Q I rx ry h
  obtain ⟨a, b, xs, ys, rfl, rfl, h1, h2, h3, q⟩ := h
  obtain rfl : v = Value.ref a := rx
  obtain rfl : u = Value.ref b := ry
  obtain ⟨its, r1, p1, _⟩ := I.list h1
  obtain ⟨it2, r2, p2, _⟩ := I.list h2
  refine eq_list_lengthsAt p1.isList p2.isList ?_ hu ⟨.bl false, H, I, rfl, q⟩
  rw [r1.length, r2.length] at h3
  simpa using h3
theorem oc_eq2 (hu : X.A.units + 64 < cLine) : OpC X (compareOp .Eq) eqD2 := by
  obtain ⟨r0, o0, b0⟩ := oc_eq hu
  refine ⟨_, (op_lenT (by omega)).or ((op_lenL (by omega)).or o0), fun F H x y d e res Q hl rx ry hg k => ?_⟩
  unfold eqD2 at hg
  split at hg
  · rename_i b hb
    cases hg
    unfold lenEq at hb
    split at hb
    · cases hb
      obtain ⟨a, vs, rfl, h1, h2⟩ := rx.tup hl
      obtain ⟨b, ws, rfl, h3, h4⟩ := ry.tup hl
      simp only [RDs] at h4
      subst h4
      refine .inl ⟨a, b, vs, [], rfl, rfl, h1, h3, .inr rfl, ?_⟩
      rename_i xs
      have : (vs.length == ([] : List V).length) = xs.isEmpty := by
        have := h2.length
        cases xs with
        | nil => cases vs with | nil => rfl | cons _ _ => simp at this
        | cons _ _ => cases vs with | nil => simp at this | cons _ _ => rfl
      rw [this]
      exact k
    · cases hb
      obtain ⟨a, vs, rfl, h1, h2⟩ := rx.tup hl
      obtain ⟨b, ws, rfl, h3, h4⟩ := ry.tup hl
      simp only [RDs] at h2
      subst h2
      refine .inl ⟨a, b, [], ws, rfl, rfl, h1, h3, .inl rfl, ?_⟩
      rename_i ys _
      have : (([] : List V).length == ws.length) = ys.isEmpty := by
        have := h4.length
        cases ys with
        | nil => cases ws with | nil => rfl | cons _ _ => simp at this
        | cons _ _ => cases ws with | nil => simp at this | cons _ _ => rfl
      rw [this]
      exact k
    · rename_i xs ys
      split at hb
      · cases hb
      · rename_i hne
        cases hb
        obtain ⟨a, vs, rfl, h1, h2⟩ := rx.lst hl
        obtain ⟨b, ws, rfl, h3, h4⟩ := ry.lst hl
        exact .inr (.inl ⟨a, b, vs, ws, rfl, rfl, h1, h3, by rw [← h2.length, ← h4.length]; exact hne, k⟩)
    · cases hb
  · exact .inr (.inr (b0 F H x y d e res Q hl rx ry hg k))
end
end VS

set_option Elab.async false
set_option linter.all false
set_option maxRecDepth 100000
set_option maxHeartbeats 4000000
/-! ### plain part that laws of refusals share -/
namespace VS
open PySem L2
local instance : TabT := ⟨[], false⟩
def Jar (d : D) : Prop := ∃ a b c : Int, d = .lst [.int a, .int b, .int c]
/-- outcome and store -/
def res (o : Option (Fl × VEnv)) : Option (Fl × List SC) := o.map fun p => (p.1, p.2.st)
theorem res_ret {o : Option (Fl × VEnv)} {v : EV} {st : List SC} (h : res o = some (.ret v, st)) : ∃ sl, o = some (.ret v, ⟨sl, st⟩) := by
  obtain ⟨⟨f, Γ⟩, e1, e2⟩ := omap h
  cases e2
  exact ⟨_, e1⟩
/-- the i-th slot behind a statement -/
def outSl (o : Option (Fl × VEnv)) (i : Nat) : Cell := match o with
  | some p => p.2.sl.getD i .un
  | none => .un
/-- name = choice(jar, [..]) -/
theorem pick {f : Sem'} {items : M} {xs : List D} {d jar jar' : D} {sl : List Cell} {i : Nat} (h0 : sl[0]? = some (.par 0)) (hi : items ⟨sl, [.own jar]⟩ = some (.fresh (.lst xs), ⟨sl, [.own jar]⟩)) (hf : f [.par 0, .val (.lst xs)] [.own jar] = some (.val d, [.own jar']))
    (hu : sl.map (unlend 1 [.own jar']) = sl) : mAsg (mFrz (mCall [true, false] f (mCons (mVar 0) (mCons (mFrz items) mNil)))) (asgn i) ⟨sl, [.own jar]⟩ = some (.nx, ⟨sl.set i (.val d), [.own jar']⟩) := by
  simp [mAsg, mFrz, mCall, mCons, mNil, mVar, h0, hi, passL, passA, freeze, hf, hu, asgn, setCell]
/-- a statement that goes on: the store, the first k slots, how many slots -/
def frame (k : Nat) (o : Option (Fl × VEnv)) : Option (Bool × List SC × List Cell × Nat) := o.map fun p => ((match p.1 with | .nx => true | _ => false), p.2.st, p.2.sl.take k, p.2.sl.length)
theorem frame_nx {k n : Nat} {o : Option (Fl × VEnv)} {st : List SC} {cs : List Cell} (h : frame k o = some (true, st, cs, n)) : ∃ rest, o = some (.nx, ⟨cs ++ rest, st⟩) ∧ rest.length = n - k := by
  obtain ⟨⟨f, Γ⟩, e1, e2⟩ := omap h
  simp only [Prod.mk.injEq] at e2
  obtain ⟨h1, h2, h3, h4⟩ := e2
  refine ⟨Γ.sl.drop k, ?_, by rw [List.length_drop, h4]⟩
  cases f with
  | nx => rw [e1, ← h2, ← h3, List.take_append_drop]
  | _ => cases h1
theorem mSeq_assoc (a b c : MS) : mSeq (mSeq a b) c = mSeq a (mSeq b c) := by
  funext Γ
  simp only [mSeq]
  cases a Γ with
  | none => rfl
  | some p => obtain ⟨f, Γ1⟩ := p; cases f <;> rfl
theorem len1 {α : Type} {l : List α} (h : l.length = 1) : ∃ a, l = [a] := match l, h with | [a], _ => ⟨a, rfl⟩
theorem len2 {α : Type} {l : List α} (h : l.length = 2) : ∃ a b, l = [a, b] := match l, h with | [a, b], _ => ⟨a, b, rfl⟩
theorem len3 {α : Type} {l : List α} (h : l.length = 3) : ∃ a b c, l = [a, b, c] := match l, h with | [a, b, c], _ => ⟨a, b, c, rfl⟩
theorem len4 {α : Type} {l : List α} (h : l.length = 4) : ∃ a b c d, l = [a, b, c, d] := match l, h with | [a, b, c, d], _ => ⟨a, b, c, d, rfl⟩
theorem len5 {α : Type} {l : List α} (h : l.length = 5) : ∃ a b c d e, l = [a, b, c, d, e] := match l, h with | [a, b, c, d, e], _ => ⟨a, b, c, d, e, rfl⟩
theorem len6 {α : Type} {l : List α} (h : l.length = 6) : ∃ a b c d e f, l = [a, b, c, d, e, f] := match l, h with | [a, b, c, d, e, f], _ => ⟨a, b, c, d, e, f, rfl⟩
theorem forD_keep {g : MG} {b : MS} (S : VEnv → Prop) : ∀ {ds : List D} {Γ : VEnv}, (∀ d ∈ ds, ∀ Γ, S Γ → ∃ Γ1 Γ2, g (.val d) Γ = some Γ1 ∧ b Γ1 = some (.nx, Γ2) ∧ S Γ2) → S Γ → ∃ Γ', forD g b ds Γ = some (.nx, Γ') ∧ S Γ'
  | [], Γ, _, h => ⟨Γ, rfl, h⟩
  | d :: ds, Γ, hs, h => by
    obtain ⟨Γ1, Γ2, e1, e2, h2⟩ := hs d List.mem_cons_self Γ h
    obtain ⟨Γ', e3, h3⟩ := forD_keep S (fun d hd => hs d (List.mem_cons_of_mem _ hd)) h2
    exact ⟨Γ', by simp only [forD, e1, e2, Option.bind_some, e3], h3⟩
def rngM (k : Int) : ML := mCons (mCallB maxD (mCons (mC (.int 1)) (mCons (mCallB minD (mCons (mC (.int k)) (mCons (mCallB lenD (mCons (mVar 0) mNil)) mNil))) mNil))) mNil
def bodyM (fj f1 f2 : Sem') : MS := mSeq (mAsg (mCall [false, false] fj (mCons (mFrz (mVar 0)) (mCons (mFrz (mVar 1)) mNil))) (asgn 2))
  (mIfS (mOr (mNot (mTest (mCall [true] f1 (mCons (mVar 2) mNil)))) (mNot (mTest (mCall [true] f2 (mCons (mVar 2) mNil))))) (mRet (mFrz (mC (.bl false)))) mNext)
theorem rng_ok (k : Nat) (hk : k < 1000) (ns : List Int) (hn : ns.length ≤ 63) (cs : List Cell) : miR1 (rngM k) ⟨.val (.lst (ns.map D.int)) :: cs, []⟩ = some (rangeD 0 (max 1 (min k ns.length)), ⟨.val (.lst (ns.map D.int)) :: cs, []⟩) := by
  refine miR1_n (max 1 (min k ns.length)) (by simp [rngM]; rfl) ?_ (by omega)
  split <;> split <;> omega
theorem law_ref {fj f1 f2 : Sem'} {tail : MS} {k : Nat} (ex : Nat) (hk : k < 1000) (hj : ∀ (ns : List Int) (i : Nat), i < 63 → ∃ jar, Jar jar ∧ fj [.val (.lst (ns.map D.int)), .val (.int i)] [] = some (.fresh jar, []))
    (h1 : ∀ jar, Jar jar → ∃ jar', Jar jar' ∧ f1 [.par 0] [.own jar] = some (.val (.bl true), [.own jar'])) (h2 : ∀ jar, Jar jar → ∃ jar', Jar jar' ∧ f2 [.par 0] [.own jar] = some (.val (.bl true), [.own jar']))
    (ht : ∀ (s : D) (c1 c2 : Cell), res (tail ⟨.val s :: c1 :: c2 :: List.replicate ex .un, []⟩) = some (.ret (.val (.bl true)), [])) :
    LawOk (defOf 1 (3 + ex) (mSeq (mFor (miR1 (rngM k)) (asgn 1) (bodyM fj f1 f2)) tail)) := by
  intro ns hn hb
  obtain ⟨Γ', e, c, d, rfl⟩ := forD_inv (g := asgn 1) (b := bodyM fj f1 f2) (fun i Γ => ∃ c d, Γ = ⟨.val (.lst (ns.map D.int)) :: cel c :: oce d :: List.replicate ex .un, []⟩) (rangeD 0 (max 1 (min k ns.length))) (by
    rintro i hi Γ ⟨c, d, rfl⟩
    have hi' : i < 63 := by simp only [rangeD_length] at hi; omega
    obtain ⟨jar, hjr, e1⟩ := hj ns i hi'
    obtain ⟨jar1, hj1, e2⟩ := h1 jar hjr
    obtain ⟨jar2, hj2, e3⟩ := h2 jar1 hj1
    refine ⟨_, ⟨.val (.lst (ns.map D.int)) :: .val (.int (0 + (i : Nat))) :: .own jar2 :: List.replicate ex .un, []⟩, rfl, .inl ?_, some (.int (0 + (i : Nat))), some jar2, rfl⟩
    rw [rangeD_get]
    have e1' : fj [.val (.lst (ns.map D.int)), .val (.int (0 + (i : Nat)))] [] = some (.fresh jar, []) := by rw [Int.zero_add]; exact e1
    have un : ∀ n s, (List.replicate ex Cell.un).map (unlend n s) = List.replicate ex .un := fun n s => by rw [List.map_replicate]; rfl
    refine seq_nx (asg_in (r := .fresh jar) (Γ1 := ⟨.val (.lst (ns.map D.int)) :: .val (.int (0 + (i : Nat))) :: oce d :: List.replicate ex .un, []⟩) (by simp at e1'; simp [e1', un]) rfl) ?_
    exact if_in (c := false) (Γ1 := ⟨.val (.lst (ns.map D.int)) :: .val (.int (0 + (i : Nat))) :: .own jar2 :: List.replicate ex .un, []⟩) (by simp [e2, e3, un]) rfl) (Γ := ⟨.val (.lst (ns.map D.int)) :: .un :: .un :: List.replicate ex .un, []⟩) ⟨none, none, rfl⟩
  obtain ⟨sl, et⟩ := res_ret (ht (.lst (ns.map D.int)) (cel c) (oce d))
  refine ⟨[], ?_⟩
  refine def_ret (v := .val (.bl true)) (Γ' := ⟨sl, []⟩) rfl ?_ rfl
  have hr : [Cell.val (.lst (ns.map D.int))] ++ List.replicate (3 + ex - 1) Cell.un = .val (.lst (ns.map D.int)) :: .un :: .un :: List.replicate ex .un := by
    rw [show 3 + ex - 1 = ex + 1 + 1 by omega, List.replicate_succ, List.replicate_succ]
    rfl
  rw [hr]
  exact seq_nx (for_in (rng_ok k hk ns hn _) e) et
end VS

set_option Elab.async false
set_option linter.all false
set_option maxRecDepth 100000
set_option maxHeartbeats 4000000
/-! ### a, b = [], x: lists made here stay the slots' own -/
namespace VS
open PySem L2 PyProof.Rows
variable [TabT]
def noSlot : EV → Bool
  | .slot _ => false
  | _ => true
def asgL : List Nat → List EV → VEnv → Option VEnv
  | [], [], Γ => some Γ
  | i :: is, r :: rs, Γ => if noSlot r = true then (asgn i r Γ).bind fun Γ' => asgL is rs Γ' else none
  | _, _, _ => none
def setL : List Nat → List V → L2.St → L2.St
  | i :: is, v :: vs, σ => setL is vs (σ.set i (some v))
  | _, _, σ => σ
def mParL (is : List Nat) (ml : ML) : MS := fun Γ => (ml Γ).bind fun p => (asgL is p.1 p.2).map fun q => (.nx, q)
section
variable {K : PySem.W.Frag} {mg : Str → Option Value} {ρ : List Addr} {Γ Γ' : VEnv} {σ σ' : L2.St} {H F : Hp}
theorem repL_move : ∀ {rs : List EV} {vs : List V} {P P' Q : Addr → Prop}, (∀ a, P a → P' a) → (∀ a, Q a → P' a) → (∀ l b, LocAt ρ Γ' σ' l b → LocAt ρ Γ σ l b ∨ Q b) → rs.all noSlot = true →
    RepL K mg ρ Γ σ H F P' rs vs → RepL K mg ρ Γ' σ' H F P rs vs := by
  intro rs
  induction rs with
  | nil => intro vs P P' Q _ _ _ _ h; simp only [RepL] at h ⊢; exact h
  | cons r rs ih =>
    intro vs P P' Q hP hQ loc hn h
    simp only [RepL] at h ⊢
    simp only [List.all_cons, Bool.and_eq_true] at hn
    obtain ⟨v, ws, rfl, h1, h2⟩ := h
    refine ⟨v, ws, rfl, ?_, ih (P' := orO P' (frs r v)) (Q := Q) (fun a z => z.elim (fun z => .inl (hP a z)) .inr) (fun a z => .inl (hQ a z)) loc hn.2 h2⟩
    cases r with
    | val d => exact h1
    | fresh d =>
      obtain ⟨p, e1, e2, e3, e4⟩ := h1
      exact ⟨p, e1, e2, fun z => e3 (hP p z), fun l z => (loc l p z).elim (e4 l) fun z => e3 (hQ p z)⟩
    | slot i => simp [noSlot] at hn
    | par k => exact h1
theorem asgn_loc {i : Nat} {r : EV} {v : V} (hn : noSlot r = true) (hl : σ.length = Γ.sl.length) (e : asgn i r Γ = some Γ') : ∀ l b, LocAt ρ Γ' (σ.set i (some v)) l b → LocAt ρ Γ σ l b ∨ frs r v b := by
  have gen : ∀ c, (∀ d, c = Cell.own d → ∃ d, r = .fresh d) → ∀ l b, LocAt ρ (setCell Γ i c) (σ.set i (some v)) l b → LocAt ρ Γ σ l b ∨ frs r v b := by
    intro c hc l b hb
    cases l with
    | inl j =>
      obtain ⟨⟨d', e⟩, h1⟩ := hb
      rcases gset e with ⟨rfl, z, _⟩ | ⟨hne, e⟩
      · right
        rcases sset h1 with ⟨_, z2, _⟩ | ⟨z2, _⟩
        · obtain ⟨d, rfl⟩ := hc d' z.symm
          exact Option.some.inj z2
        · exact absurd rfl z2
      · left
        rcases sset h1 with ⟨z2, _⟩ | ⟨_, h1⟩
        · exact absurd z2 hne
        · exact ⟨⟨d', e⟩, h1⟩
    | inr k => exact .inl hb
  cases r with
  | val d => cases e; exact gen _ fun d z => by cases z
  | fresh d => cases e; exact gen _ fun d z => ⟨_, rfl⟩
  | slot j => simp [noSlot] at hn
  | par k => cases e; exact gen _ fun d z => by cases z
theorem asgL_ok : ∀ {is : List Nat} {rs : List EV} {vs : List V} {O : Addr → Prop} {Γ Γ' : VEnv} {σ : L2.St}, Rep K mg ρ O Γ σ H F → RepL K mg ρ Γ σ H F O rs vs → asgL is rs Γ = some Γ' → ∃ F', Rep K mg ρ O Γ' (setL is vs σ) H F' ∧ Same F F' := by
  intro is
  induction is generalizing F with
  | nil =>
    intro rs vs O Γ Γ' σ R h e
    cases rs with
    | nil => cases e; exact ⟨F, R, Same.refl _⟩
    | cons r rs => cases e
  | cons i is ih =>
    intro rs vs O Γ Γ' σ R h e
    cases rs with
    | nil => cases e
    | cons r rs =>
      simp only [asgL] at e
      split at e
      · rename_i hn
        obtain ⟨Γ1, e1, e⟩ := obind e
        simp only [RepL] at h
        obtain ⟨v, ws, rfl, h1, h2⟩ := h
        have ha : ∀ {is : List Nat} {rs : List EV} {Γ Γ' : VEnv}, asgL is rs Γ = some Γ' → rs.all noSlot = true := by
          intro is
          induction is with
          | nil => intro rs Γ Γ' e; cases rs with
            | nil => rfl
            | cons r rs => cases e
          | cons i is ih => intro rs Γ Γ' e; cases rs with
            | nil => cases e
            | cons r rs =>
              simp only [asgL] at e
              split at e
              · rename_i hn
                obtain ⟨_, _, e⟩ := obind e
                simp only [List.all_cons, Bool.and_eq_true]; exact ⟨hn, ih e⟩
              · cases e
        have R1 : Rep K mg ρ O Γ1 (σ.set i (some v)) H F := by
          cases r with
          | val d => cases e1; exact R.setCell ⟨v, rfl, h1⟩
          | fresh d => cases e1; obtain ⟨p, rfl, q2, q3, q4⟩ := h1; exact R.setCell ⟨p, rfl, q2, q3, q4⟩
          | slot j => simp [noSlot] at hn
          | par k => cases e1; obtain ⟨a, q1, rfl⟩ := h1; exact R.setCell ⟨a, q1, rfl⟩
        exact ih R1 (repL_move (P := O) (P' := orO O (frs r v)) (Q := frs r v) (fun a z => .inl z) (fun a z => .inr z) (asgn_loc hn R.len e1) (ha e) h2) e
      · cases e
end
section
variable {X : Cx} {ml : ML} {pos : Pos}
theorem asgL_len : ∀ {is : List Nat} {rs : List EV} {Γ Γ' : VEnv}, asgL is rs Γ = some Γ' → rs.length = is.length := by
  intro is
  induction is with
  | nil => intro rs Γ Γ' e; cases rs with
    | nil => rfl
    | cons r rs => cases e
  | cons i is ih => intro rs Γ Γ' e; cases rs with
    | nil => cases e
    | cons r rs =>
      simp only [asgL] at e
      split at e
      · obtain ⟨_, _, e⟩ := obind e
        simp [ih e]
      · cases e
theorem repL_len {K : PySem.W.Frag} {mg : Str → Option Value} {ρ : List Addr} {Γ : VEnv} {σ : L2.St} {H F : Hp} : ∀ {rs : List EV} {vs : List V} {O : Addr → Prop}, RepL K mg ρ Γ σ H F O rs vs → vs.length = rs.length := by
  intro rs
  induction rs with
  | nil => intro vs O h; simp only [RepL] at h; rw [h]; rfl
  | cons r rs ih =>
    intro vs O h
    simp only [RepL] at h
    obtain ⟨v, ws, rfl, _, h2⟩ := h
    simp [ih h2]
theorem vs_parL {i j : Nat} {x y : Str} {a b : Expr} {px py pt : Pos} {kt k2 pt2} (hc : X.calm = true) (hN : X.N.Nodup) (ha : VA X [a, b] ml) (hi : X.N[i]? = some x := by rfl) (hj : X.N[j]? = some y := by rfl) (hij : i ≠ j := by decide)
    (hx : X.env.scope.names.lookup x = some .local := by rfl) (hy : X.env.scope.names.lookup y = some .local := by rfl)
    (hw : swappedStores [.Tuple [.Name x px, .Name y py] kt pt] (.Tuple [a, b] k2 pt2) X.env = pure (some [x, y]) := by rfl)
    (hs : swapsWithSole [.Tuple [.Name x px, .Name y py] kt pt] (.Tuple [a, b] k2 pt2) pos.line X.env = pure false := by rfl) :
    VSt X (.Assign [.Tuple [.Name x px, .Name y py] kt pt] (.Tuple [a, b] k2 pt2) pos) (mParL [i, j] ml) := by
  intro W tk
  refine ps_of (ps_par hc hN hi hj hij hx hy ha hw hs) fun D σ H h => ?_
  obtain ⟨ρ, O, Γ, F, fl, Γ', R, e, k⟩ := h
  obtain ⟨⟨rs, Γ1⟩, e1, e⟩ := obind e
  obtain ⟨Γ2, e2, e⟩ := omap e
  cases e
  refine tL_run R e1 fun vs H1 F1 s1 c1 r1 => ?_
  obtain ⟨F2, R2, s2⟩ := asgL_ok s1.rep r1 e2
  have hl := (repL_len r1).trans (asgL_len e2)
  obtain ⟨v, w, rfl⟩ : ∃ v w, vs = [v, w] := by
    match vs, hl with
    | [v, w], _ => exact ⟨v, w, rfl⟩
  exact ⟨v, w, rfl, k _ H1 F2 ⟨R2, s1.fs.trans s2, s1.op⟩⟩
theorem vs_parL3 {i j l : Nat} {x y z : Str} {a b c : Expr} {px py pz pt : Pos} {kt k2 pt2} (hc : X.calm = true) (hN : X.N.Nodup) (ha : VA X [a, b, c] ml) (hi : X.N[i]? = some x := by rfl) (hj : X.N[j]? = some y := by rfl) (hl : X.N[l]? = some z := by rfl)
    (hij : i ≠ j := by decide) (hil : i ≠ l := by decide) (hjl : j ≠ l := by decide)
    (hx : X.env.scope.names.lookup x = some .local := by rfl) (hy : X.env.scope.names.lookup y = some .local := by rfl) (hz : X.env.scope.names.lookup z = some .local := by rfl)
    (hw : swappedStores [.Tuple [.Name x px, .Name y py, .Name z pz] kt pt] (.Tuple [a, b, c] k2 pt2) X.env = pure (some [x, y, z]) := by rfl)
    (hs : swapsWithSole [.Tuple [.Name x px, .Name y py, .Name z pz] kt pt] (.Tuple [a, b, c] k2 pt2) pos.line X.env = pure false := by rfl) :
    VSt X (.Assign [.Tuple [.Name x px, .Name y py, .Name z pz] kt pt] (.Tuple [a, b, c] k2 pt2) pos) (mParL [i, j, l] ml) := by
  intro W tk
  refine ps_of (ps_par3 hc hN hi hj hl hij hil hjl hx hy hz ha hw hs) fun D σ H h => ?_
  obtain ⟨ρ, O, Γ, F, fl, Γ', R, e, k⟩ := h
  obtain ⟨⟨rs, Γ1⟩, e1, e⟩ := obind e
  obtain ⟨Γ2, e2, e⟩ := omap e
  cases e
  refine tL_run R e1 fun vs H1 F1 s1 c1 r1 => ?_
  obtain ⟨F2, R2, s2⟩ := asgL_ok s1.rep r1 e2
  have hl := (repL_len r1).trans (asgL_len e2)
  obtain ⟨v, w, u, rfl⟩ : ∃ v w u, vs = [v, w, u] := by
    match vs, hl with
    | [v, w, u], _ => exact ⟨v, w, u, rfl⟩
  exact ⟨v, w, u, rfl, k _ H1 F2 ⟨R2, s1.fs.trans s2, s1.op⟩⟩
end
end VS
/-! ### the same, through a tuple (a target is no plain local) -/
namespace VS
open PySem L2 PyProof.Rows
variable [TabT]
def gNames : List Nat → TGs
  | [] => gNil
  | i :: is => gCons (gName i) (gNames is)
theorem gNames_run : ∀ {is : List Nat} {vs : List V} {σ : L2.St} {H : Hp} {Q}, vs.length = is.length → Q (setL is vs σ) H → gNames is vs σ H Q := by
  intro is
  induction is with
  | nil => intro vs σ H Q hl q; cases vs with
    | nil => exact ⟨rfl, q⟩
    | cons v vs => simp at hl
  | cons i is ih => intro vs σ H Q hl q; cases vs with
    | nil => simp at hl
    | cons v vs => exact ⟨v, vs, rfl, ih (by simpa using hl) q⟩
section
variable {X : Cx} {ml : ML} {pos : Pos}
theorem nms_n : PGs X [] (gNames []) := pgs_nil
theorem nms_c {e : Expr} {es : List Expr} {i : Nat} {is : List Nat} (h1 : PG X e (gName i)) (h2 : PGs X es (gNames is)) (hs : (assignEach (e :: es) X.env).map (·.2) = assign e X.env :: (assignEach es X.env).map (·.2) := by rfl) : PGs X (e :: es) (gNames (i :: is)) := pgs_cons h1 h2 hs
theorem pn (i : Nat) {x : Str} {p : Pos} (hN : X.N.Nodup) (hi : X.N[i]? = some x := by rfl) (hx : Loc X.env.scope x := by first | exact Or.inl rfl | exact Or.inr rfl) (hf : X.fn x = true ∨ X.env.scope.names.lookup x = some .local := by first | exact .inl rfl | exact .inr rfl) : PG X (.Name x p) (gName i) := pg_name hN hi hx hf
theorem vs_parG {es bs : List Expr} {is : List Nat} {pt p2 : Pos} {kt k2} (hc : X.calm = true) (ha : VA X bs ml) (hg : PGs X es (gNames is)) (hz : is.length ≤ sizeLine := by decide) (hn : (assignEach es X.env).length = is.length := by rfl) (hst : (assignEach es X.env).findIdx? (·.1) = none := by rfl)
    (hs : swapsWithSole [.Tuple es kt pt] (.Tuple bs k2 p2) pos.line X.env = pure false := by rfl) (hw : swappedStores [.Tuple es kt pt] (.Tuple bs k2 p2) X.env = pure none := by rfl)
    (h1 : (assignEach [.Tuple es kt pt] X.env).map (·.2) = [assign (.Tuple es kt pt) X.env] := by rfl) : VSt X (.Assign [.Tuple es kt pt] (.Tuple bs k2 p2) pos) (mParL is ml) := by
  intro W tk
  refine ps_of (ps_asg (pe_tup ha) (pg_tup hc hg hn hst) hs hw h1) fun D σ H h => ?_
  obtain ⟨ρ, O, Γ, F, fl, Γ', R, e, k⟩ := h
  obtain ⟨⟨rs, Γ1⟩, e1, e⟩ := obind e
  obtain ⟨Γ2, e2, e⟩ := omap e
  cases e
  refine tL_run R e1 fun vs H1 F1 s1 c1 r1 => ?_
  obtain ⟨F2, R2, s2⟩ := asgL_ok s1.rep r1 e2
  have hl := (repL_len r1).trans (asgL_len e2)
  refine ⟨by rw [hl]; exact hz, fun p hn => ?_⟩
  have s12 : Stp X.K X.mg ρ O _ (setL is vs σ) H F H1 F2 := ⟨R2, s1.fs.trans s2, s1.op⟩
  have g : Grow F2 H1 (upd F2 p (.tup vs)) (upd H1 p (.tup vs)) := grow_frz R2.le hn
  exact ⟨p, vs, rfl, .of upd_same, hl, gNames_run hl (k _ _ _ (s12.trans (Stp.grow R2 g)))⟩
end
end VS

set_option Elab.async false
set_option linter.all false
set_option maxRecDepth 100000
set_option maxHeartbeats 4000000
/-! ### (*a, b): a starred element of a display or of a call -/
namespace VS
open PySem L2 PyProof.Rows
variable [TabT]
def elems : D → Option (List D)
  | .lst ds => some ds
  | .tup ds => some ds
  | _ => none
def mStar (m : M) (ml : ML) : ML := fun Γ => (m Γ).bind fun p => (peek p.2 p.1).bind fun d => (elems d).bind fun ds => (ml p.2).map fun q => (ds.map EV.val ++ q.1, q.2)
section
variable {K : PySem.W.Frag} {mg : Str → Option Value} {ρ : List Addr} {Γ : VEnv} {σ : L2.St} {H F : Hp}
theorem repL_weak : ∀ {rs : List EV} {vs : List V} {P P' : Addr → Prop}, (∀ a, P a → P' a) → RepL K mg ρ Γ σ H F P' rs vs → RepL K mg ρ Γ σ H F P rs vs := by
  intro rs
  induction rs with
  | nil => intro vs P P' _ h; simp only [RepL] at h ⊢; exact h
  | cons r rs ih =>
    intro vs P P' hP h
    simp only [RepL] at h ⊢
    obtain ⟨v, ws, rfl, h1, h2⟩ := h
    refine ⟨v, ws, rfl, ?_, ih (fun a z => z.elim (fun z => .inl (hP a z)) .inr) h2⟩
    cases r with
    | fresh d => obtain ⟨p, e1, e2, e3, e4⟩ := h1; exact ⟨p, e1, e2, fun z => e3 (hP p z), e4⟩
    | _ => exact h1
theorem repL_vals : ∀ {ds : List D} {xs : List V} {rs : List EV} {ys : List V} {O : Addr → Prop}, RDs K mg F ds xs → RepL K mg ρ Γ σ H F O rs ys → RepL K mg ρ Γ σ H F O (ds.map EV.val ++ rs) (xs ++ ys) := by
  intro ds
  induction ds with
  | nil => intro xs rs ys O h g; simp only [RDs] at h; subst h; exact g
  | cons d ds ih =>
    intro xs rs ys O h g
    simp only [RDs] at h
    obtain ⟨v, r, rfl, h1, h2⟩ := h
    simp only [List.map_cons, List.cons_append, RepL]
    exact ⟨v, r ++ ys, rfl, h1, repL_weak (P' := O) (fun a z => z.elim id fun z => z.elim) (ih h2 g)⟩
end
section
variable {X : Cx} {e : Expr} {es : List Expr} {m : M} {ml : ML} {p : Pos}
theorem va_star (ha : VE X e m) (hr : VA X es ml) (hs : starEach (.Starred e p :: es) X.env = (true, eval e X.env) :: starEach es X.env := by rfl) : VA X (.Starred e p :: es) (mStar m ml) := by
  refine pa_of (StX.pa_star ha hr hs) fun σ H Q h => ?_
  obtain ⟨ρ, O, Γ, F, rs, Γ', R, e, k⟩ := h
  obtain ⟨⟨r, Γ1⟩, e1, e⟩ := obind e
  obtain ⟨d, e4, e⟩ := obind e
  obtain ⟨ds, e5, e⟩ := obind e
  obtain ⟨⟨rs', Γ2⟩, e2, e3⟩ := omap e
  cases e3
  refine tV_run R e1 fun v H1 F1 s1 c1 r1 => ?_
  have rp := peek_ok s1.rep r1 e4
  obtain ⟨a, xs, rfl, hq, rd⟩ : ∃ a xs, v = .ref a ∧ (SqT X.K H1 a xs ∨ SqL X.K H1 a xs) ∧ RDs X.K X.mg F1 ds xs := by
    cases d with
    | lst ds' => cases e5; obtain ⟨a, xs, q1, q2, q3⟩ := rp.lst s1.rep.le; exact ⟨a, xs, q1, .inr q2, q3⟩
    | tup ds' => cases e5; obtain ⟨a, xs, q1, q2, q3⟩ := rp.tup s1.rep.le; exact ⟨a, xs, q1, .inl q2, q3⟩
    | _ => cases e5
  refine ⟨a, xs, rfl, hq, ?_⟩
  refine tL_run s1.rep e2 fun vs H2 F2 s2 c2 r2 => ?_
  exact k (xs ++ vs) H2 F2 (s1.trans s2) (c1.trans c2) (repL_vals (RDs.mono s2.fs _ _ rd) r2)
end
def sr1 (ml : ML) (o : Option (EV × VEnv)) : Option (List EV × VEnv) := o.bind fun p => (peek p.2 p.1).bind fun d => (elems d).bind fun ds => (ml p.2).map fun q => (ds.map EV.val ++ q.1, q.2)
@[simp] theorem mStar_e {m : M} {ml : ML} {Γ : VEnv} : mStar m ml Γ = sr1 ml (m Γ) := rfl
def sr2 (ml : ML) (Γ : VEnv) (o : Option D) : Option (List EV × VEnv) := o.bind fun d => (elems d).bind fun ds => (ml Γ).map fun q => (ds.map EV.val ++ q.1, q.2)
@[simp] theorem sr1_s {ml : ML} {r : EV} {Γ : VEnv} : sr1 ml (some (r, Γ)) = sr2 ml Γ (peek Γ r) := rfl
def sr3 (ds : List D) (o : Option (List EV × VEnv)) : Option (List EV × VEnv) := o.map fun q => (ds.map EV.val ++ q.1, q.2)
@[simp] theorem sr2_l {ml : ML} {Γ : VEnv} {ds : List D} : sr2 ml Γ (some (.lst ds)) = sr3 ds (ml Γ) := rfl
@[simp] theorem sr2_t {ml : ML} {Γ : VEnv} {ds : List D} : sr2 ml Γ (some (.tup ds)) = sr3 ds (ml Γ) := rfl
@[simp] theorem sr3_s {ds : List D} {rs : List EV} {Γ : VEnv} : sr3 ds (some (rs, Γ)) = some (ds.map EV.val ++ rs, Γ) := rfl
end VS

set_option Elab.async false
set_option linter.all false
set_option maxRecDepth 100000
set_option maxHeartbeats 4000000
/-! ### x *= y, x //= y, x %= y -/
namespace VS
open PySem L2 PyProof.Rows
variable [TabT]
section
variable {X : Cx}
def imulD : D → D → Option EV := gII mulOk fun i j => i * j
def ifdivD : D → D → Option EV := gII (fun i j => decide (0 < j ∧ j.natAbs.log2 < 9000)) fun i j => i / j
def imodD : D → D → Option EV := gII (fun _ j => decide (0 < j)) fun i j => i % j
theorem iop_mulG : OpR X (inplaceOp .Mult) (rI CMulG fun i j => .int (i * j)) := opI fun i j _ _ _ _ _ hc q => by
  exact imul_int q (by
    simp only [CMulG, mulOk, Bool.or_eq_true, decide_eq_true_eq] at hc
    rcases hc with (h | h) | h
    · have := smallI_iff.mp h; exact CMul.ok (.inl (by omega))
    · have := smallI_iff.mp h; exact CMul.ok (.inr (by omega))
    · exact CMulW.ok h)
theorem ox_imul : OpX X (inplaceOp .Mult) imulD := opx_int (c := mulOk) iop_mulG fun i j h => h
theorem ox_ifdiv : OpX X (inplaceOp .FloorDiv) ifdivD := opx_int (c := fun i j => decide (0 < j ∧ j.natAbs.log2 < 9000)) iop_fdivW fun i j h => by simpa [CDivW] using h
theorem ox_imod : OpX X (inplaceOp .Mod) imodD := opx_int (c := fun i j => decide (0 < j)) iop_mod fun i j h => by simpa using h
@[simp] theorem imulD_ii {i j : Int} : imulD (.int i) (.int j) = if mulOk i j = true then some (.val (.int (i * j))) else none := rfl
@[simp] theorem ifdivD_ii {i j : Int} : ifdivD (.int i) (.int j) = if decide (0 < j ∧ j.natAbs.log2 < 9000) = true then some (.val (.int (i / j))) else none := rfl
@[simp] theorem imodD_ii {i j : Int} : imodD (.int i) (.int j) = if decide (0 < j) = true then some (.val (.int (i % j))) else none := rfl
end
end VS
/-! ### s.startswith(t, i) -/
namespace VS
open PySem L2 PyProof.Rows
variable [TabT]
section
variable {X : Cx}
def startsAtD : D → List D → Option EV
  | .str s, [.str t, .int i] => if 0 ≤ i ∧ i.toNat ≤ s.length then some (.val (.bl (startsS (s.drop i.toNat) t))) else none
  | _, _ => none
@[simp] theorem startsAtD_s {s t : List Nat} {i : Int} : startsAtD (.str s) [.str t, .int i] = if 0 ≤ i ∧ i.toNat ≤ s.length then some (.val (.bl (startsS (s.drop i.toNat) t))) else none := rfl
theorem startsAt_eq {s t : List Nat} {i : Int} (h0 : 0 ≤ i) (h1 : i.toNat ≤ s.length) : Txt.startswith3 ⟨s.toArray⟩ ⟨t.toArray⟩ i = startsS (s.drop i.toNat) t := by
  have e : fromIndex (Str.length ⟨s.toArray⟩) i = i.toNat := by
    unfold fromIndex
    rw [if_neg (by omega)]; omega
  unfold Txt.startswith3 startsS
  rw [e, subAt_iff, Bool.eq_iff_iff]
  simp only [Str.length, List.size_toArray, Bool.and_eq_true, decide_eq_true_eq, beq_iff_eq, List.isPrefixOf_iff_prefix]
  constructor
  · rintro ⟨_, h⟩; exact List.prefix_iff_eq_take.mpr h.symm
  · intro h
    refine ⟨?_, (List.prefix_iff_eq_take.mp h).symm⟩
    have := h.length_le
    rw [List.length_drop] at this
    omega
theorem mx_startsAt : MtX X "str.startswith" startsAtD := by
  refine ⟨_, mt_startswith3, fun F H x xs d ds res Q hl px pxs e k => ?_⟩
  unfold startsAtD at e
  split at e
  · split at e
    · rename_i h
      cases e
      obtain ⟨rfl, ok⟩ := px.str
      obtain ⟨v, w, rfl, pv, pw⟩ := pxs.two
      obtain ⟨rfl, ok2⟩ := pv.str
      have ew := pw.int
      subst ew
      exact ⟨_, _, _, rfl, rfl, gq_val hl k (by simp only [RD]; rw [startsAt_eq h.1 h.2])⟩
    · cases e
  · cases e
end
end VS

set_option Elab.async false
set_option linter.all false
set_option maxRecDepth 100000
set_option maxHeartbeats 4000000
/-! ### o[i] op= e, o a list of the def's own -/
namespace VS
open PySem L2 PyProof.Rows
variable [TabT]
section
variable {X : Cx}
theorem get_list : PGet X (rIxL X.K) := by
  intro pins s σ H x y v u Q I rx ry h
  obtain ⟨p, xs, i, z, rfl, rfl, hq, he, q⟩ := h
  cases rx
  obtain ⟨t, rfl⟩ := ry
  obtain ⟨its, r, pl, hz⟩ := I.list hq
  obtain ⟨j, h1, h2, h3, h4, h5⟩ := atI_get he
  obtain ⟨w, ew, rw'⟩ := r.get h2
  have hl := r.length
  have hn := line63
  have fin : EP X pins σ Q w s := ⟨z, H, I, rw', q⟩
  by_cases h0 : 0 ≤ i
  · have hj : i.toNat = j := by
      rw [seqIndex_of h0 h5] at h1
      exact Option.some.inj h1
    exact wpAny_getItem_list pl.isList h0 (by omega) (by rw [hj]; simpa using ew) fin
  · have hj : (i + (its.toArray.size : Int)).toNat = j := by
      rw [seqIndex_neg (by omega) h4] at h1
      rw [List.size_toArray, ← hl]
      exact Option.some.inj h1
    exact wpAny_getItem_list_neg pl.isList (by omega) (by rw [List.size_toArray] <;> omega) (by omega) (by rw [hj]; simpa using ew) fin
def asInt : EV → Option Int
  | .val (.int k) => some k
  | _ => none
def asList : Option D → Option (List D)
  | some (.lst xs) => some xs
  | _ => none
def asVal : EV → Option D
  | .val d => some d
  | _ => none
def isSlot (i : Nat) : EV → Bool
  | .slot j => i == j
  | _ => false
/-- slot i holds the list -/
def mAugS (g : D → D → Option EV) (i : Nat) (mi m : M) : MS := fun Γ => (mVar i Γ).bind fun p => if isSlot i p.1 = true then
  (mi p.2).bind fun q => (asInt q.1).bind fun k => (asList (content q.2 (.slot i))).bind fun xs => (atI xs k).bind fun old =>
  (m q.2).bind fun z => (asVal z.1).bind fun y => (g old y).bind fun r => (asVal r).bind fun d =>
  (asList (content z.2 (.slot i))).bind fun ys => (ixN ys.length k).map fun j => (.nx, putC z.2 (.lst (ys.set j d)) (.slot i)) else none
theorem vs_augS {op : Operator} {g : D → D → Option EV} {o idx e : Expr} {mi m : M} (i : Nat) {pos tpos : Pos} (hop : OpX X (inplaceOp op) g) (ho : VE X o (mVar i)) (hi : VE X idx mi) (he : VE X e m)
    (ha : ∀ ov iv new, augStore idx ov iv new = (do holding [new, ov, iv] (setItem ov iv new); release [new, ov, iv] []; pure .next) := by intros; rfl) :
    VSt X (.AugAssign (.Subscript o idx tpos) op e pos) (mAugS g i mi m) := by
  obtain ⟨r, h1, h2⟩ := hop
  intro W tk
  refine ps_of (ps_augS ho hi get_list he (tip := r) (fun pins s σ H x y v u Q I rx ry h => h1 pins s σ H x y v u Q I rx ry h) set_list ha) fun D σ H h => ?_
  obtain ⟨ρ, O, Γ, F, fl, Γ', R, e, k⟩ := h
  obtain ⟨⟨rx, Γ0⟩, e0, e⟩ := obind e
  split at e
  · rename_i hsl
    obtain ⟨⟨rq, Γ1⟩, e1, e⟩ := obind e
    obtain ⟨kk, e2, e⟩ := obind e
    obtain ⟨xs, e3, e⟩ := obind e
    obtain ⟨old, e4, e⟩ := obind e
    obtain ⟨⟨rz, Γ2⟩, e5, e⟩ := obind e
    obtain ⟨y, e6, e⟩ := obind e
    obtain ⟨res, e7, e⟩ := obind e
    obtain ⟨d, e8, e⟩ := obind e
    obtain ⟨ys, e9, e⟩ := obind e
    obtain ⟨j, e10, e11⟩ := omap e
    cases e11
    have hrx : rx = .slot i := by
      cases rx <;> simp only [isSlot] at hsl <;> first
        | (cases hsl; done)
        | (rename_i jj; have := beq_iff_eq.mp hsl; rw [this])
    subst hrx
    have hrq : rq = .val (.int kk) := by
      cases rq with
      | val dd => cases dd <;> simp only [asInt] at e2 <;> first
          | (cases e2; done)
          | (cases e2; rfl)
      | _ => cases e2
    subst hrq
    have hrz : rz = .val y := by
      cases rz <;> simp only [asVal] at e6 <;> first
        | (cases e6; done)
        | (cases e6; rfl)
    subst hrz
    have hres : res = .val d := by
      cases res <;> simp only [asVal] at e8 <;> first
        | (cases e8; done)
        | (cases e8; rfl)
    subst hres
    have c1 : content Γ1 (.slot i) = some (.lst xs) := by
      cases q : content Γ1 (.slot i) with
      | none => rw [q] at e3; cases e3
      | some c => rw [q] at e3; cases c <;> simp only [asList] at e3 <;> first
          | (cases e3; done)
          | (cases e3; rfl)
    have c2 : content Γ2 (.slot i) = some (.lst ys) := by
      cases q : content Γ2 (.slot i) with
      | none => rw [q] at e9; cases e9
      | some c => rw [q] at e9; cases c <;> simp only [asList] at e9 <;> first
          | (cases e9; done)
          | (cases e9; rfl)
    refine tV_run R e0 fun x H1 F1 s1 cc1 r1 => ?_
    refine tV_run s1.rep e1 fun yv H2 F2 s2 cc2 r2 => ?_
    have hyv : yv = .int kk := by simpa only [RepEV, RD] using r2
    subst hyv
    have r1' : RepEV X.K X.mg ρ O Γ1 σ H2 F2 (.slot i) x := ⟨r1.1, trivial⟩
    obtain ⟨a, rfl, ow, _⟩ := mut_ok s2.rep r1' c1
    obtain ⟨_, vs, hv1, hv2⟩ := id ow
    obtain ⟨v, hv3, hv4⟩ := atI_RDs hv2 e4
    refine ⟨a, vs, kk, v, rfl, rfl, .inl (.inl hv1), hv3, ?_⟩
    refine tV_run s2.rep e5 fun zv H3 F3 s3 cc3 r3 => ?_
    have rold : RD X.K X.mg F3 old v := RD.mono s3.fs _ _ hv4
    refine h2 F3 H3 v zv old y _ _ s3.rep.le (.inl rold) (.inl r3) e7 fun w H4 F4 gr hr => ?_
    have st4 : Stp X.K X.mg ρ O Γ2 σ H F H4 F4 := (s1.trans (s2.trans s3)).trans (Stp.grow s3.rep gr)
    have r4' : RepEV X.K X.mg ρ O Γ2 σ H4 F4 (.slot i) (.ref a) := ⟨r1.1, trivial⟩
    obtain ⟨a', ea, ow4, hm⟩ := mut_ok st4.rep r4' c2
    cases ea
    obtain ⟨hf4, ws, hw1, hw2⟩ := id ow4
    refine ⟨a, ws, kk, j, rfl, rfl, hw1, by rw [← hw2.length]; exact e10, ?_⟩
    obtain ⟨R5, op5⟩ := hm (upd H4 a (.lst (ws.set j w))) (.lst (ys.set j d)) (fun b hb => upd_ne hb) ⟨hf4, _, upd_same, hw2.set j hr⟩
    exact k σ _ F4 (st4.trans ⟨R5, Same.refl _, op5⟩)
  · cases e
end
end VS

set_option Elab.async false
set_option linter.all false
set_option maxRecDepth 100000
set_option maxHeartbeats 4000000
/-! ### if f(..) < b: .., f may raise -/
namespace VS
open PySem L2 PyProof.Rows
variable [TabT]
abbrev MTX := VEnv → Option ((Bool ⊕ Str) × VEnv)
def BQ (K : PySem.W.Frag) (mg : Str → Option Value) (ρ : List Addr) (O : Addr → Prop) (Γ' : VEnv) (σ : L2.St) (H F : Hp) (E : XK) (Q : Bool → Hp → Prop) : Bool ⊕ Str → Prop
  | .inl b => ∀ H' F', Stp K mg ρ O Γ' σ H F H' F' → Q b H'
  | .inr x => ∀ C H' F', mg x = some (.ref C) → Stp K mg ρ O Γ' σ H F H' F' → E (.ref C) none H'
def tBX (K : PySem.W.Frag) (mg : Str → Option Value) (E : XK) (m : MTX) : TT := fun σ H Q => ∃ ρ O Γ F z Γ', Rep K mg ρ O Γ σ H F ∧ m Γ = some (z, Γ') ∧ BQ K mg ρ O Γ' σ H F E Q z
abbrev VTX (X : Cx) (e : Expr) (m : MTX) : Prop := ∀ E : L2.St → XK, (∀ σ, PassesAt (L2.CX X.prog X.w) X σ (E σ)) → PT X e (fun σ => tBX X.K X.mg (E σ) m σ)
def mCmpX (g : D → D → Option Bool) (mx : MX) (mb : M) : MTX := fun Γ => (mx Γ).bind fun p => match p.1 with
  | .inl r => (mb p.2).bind fun q => (peek q.2 r).bind fun x => (peek q.2 q.1).bind fun y => (g x y).map fun b => (.inl b, q.2)
  | .inr x => some (.inr x, p.2)
def mIfX (t : MTX) (a b : MS) : MS := fun Γ => (t Γ).bind fun p => match p.1 with
  | .inl c => if c = true then a p.2 else b p.2
  | .inr x => some (.exc x, p.2)
section
variable {X : Cx} {a b : Expr} {mx : MX} {mb : M} {t : MTX} {ms mt : MS} {pos : Pos}
theorem vtx_op {op : CmpOp} {g : D → D → Option Bool} (h : OpC X (compareOp op) g) (ha : VX X a mx) (hb : VE X b mb) (hm : behindInMarks op b = false := by first | exact nomark _ (by decide) (by decide) | rfl) : VTX X (.Compare a [op] [b] pos) (mCmpX g mx mb) := by
  obtain ⟨r, h1, h2⟩ := h
  intro E hx
  refine pt_of (pt_cmpR h1 (ha E hx) hb hm) fun σ H Q h => ?_
  obtain ⟨ρ, O, Γ, F, z, Γ', R, e, k⟩ := h
  obtain ⟨⟨w, Γ1⟩, e1, e⟩ := obind e
  cases w with
  | inr x => cases e; exact tX_run R e1 k
  | inl rv =>
    obtain ⟨⟨rb, Γ2⟩, e2, e⟩ := obind e
    obtain ⟨dx, e3, e⟩ := obind e
    obtain ⟨dy, e4, e⟩ := obind e
    obtain ⟨c, e5, e6⟩ := omap e
    cases e6
    refine tX_run R e1 ?_
    intro v H1 F1 s1 r1
    refine tV_run (s1.rep.pend r1) e2 fun y H2 F2 s2 c2 r2 => ?_
    have r1' := r1.later s1.rep s2.rep s2.fs s2.op c2
    have s := s1.trans (s2.weakO orO_l)
    exact h2 F2 H2 v y dx dy c _ s.rep.le (peek_ok s.rep r1' e3) (peek_ok s.rep (r2.weakO orO_l) e4) e5 ⟨c, rfl, k H2 F2 s⟩
theorem vs_ifX {c : Expr} {as bs : List Stmt} (hc : VTX X c t) (ha : VSs X as ms) (hb : VSs X bs mt) : VSt X (.If c as bs pos) (mIfX t ms mt) := by
  intro W tk
  refine ps_of (ps_if (hc (WE W) (sd_E tk)) (ha W tk) (hb W tk)) fun D σ H h => ?_
  obtain ⟨ρ, O, Γ, F, fl, Γ', R, e, k⟩ := h
  obtain ⟨⟨z, Γ1⟩, e1, e⟩ := obind e
  refine ⟨ρ, O, Γ, F, z, Γ1, R, e1, ?_⟩
  cases z with
  | inr x => cases e; exact fun C H1 F1 hm s1 => k C σ H1 F1 hm s1
  | inl b =>
    intro H1 F1 s1
    cases b with
    | true => exact iteT (tS_run s1.rep e (k.from s1))
    | false => exact iteF (tS_run s1.rep e (k.from s1))
end
end VS

set_option Elab.async false
set_option linter.all false
set_option maxRecDepth 100000
set_option maxHeartbeats 4000000
/-! ### (text, ..) == (text,) -/
namespace VS
open PySem L2 PyProof.Rows PySem.SeqAt
variable [TabT]
def headEq : D → D → Option Bool
  | .tup (.str s :: xs), .tup [.str t] => some (s == t && xs.isEmpty)
  | _, _ => none
def eqD3 (d e : D) : Option Bool := match headEq d e with
  | some b => some b
  | none => eqD2 d e
omit [TabT] in
@[simp] theorem eqD3_ii (i j : Int) : eqD3 (.int i) (.int j) = eqD (.int i) (.int j) := rfl
omit [TabT] in
@[simp] theorem eqD3_ss (i j : List Nat) : eqD3 (.str i) (.str j) = eqD (.str i) (.str j) := rfl
section
variable {X : Cx}
def rHeadT (K : PySem.W.Frag) : R2 := fun x y H Q => ∃ (a b : Addr) (s t : Str) (xs : List V), x = .ref a ∧ y = .ref b ∧ SqT K H a (.str s :: xs) ∧ SqT K H b [.str t] ∧ Q (.bl (s == t && xs.isEmpty)) H
theorem op_headT (hu : X.A.units < cLine) : OpR X (compareOp .Eq) (rHeadT X.K) := by
  intro pins s σ H x y v u Q I rx ry h
  obtain ⟨a, b, s1, t1, xs, rfl, rfl, h1, h2, q⟩ := h
  obtain rfl : v = Value.ref a := rx
  obtain rfl : u = Value.ref b := ry
  obtain ⟨its, r1, p1, _⟩ := I.tuple h1
  obtain ⟨it2, r2, p2, _⟩ := I.tuple h2
  cases r1 with
  | cons ra r1 =>
    cases r2 with
    | cons rb r2 =>
      cases r2
      obtain ⟨k1, rfl⟩ := ra
      obtain ⟨k2, rfl⟩ := rb
      rename_i its
      refine eq_tupleAt (e := fun _ => s1 == t1) (show s.heap.IsTuple a (Value.str s1 k1 :: its).toArray from p1) (show s.heap.IsTuple b [Value.str t1 k2].toArray from p2) hu (fun j a b => ?_) ?_
      · have hj : j = 0 := by simp at b; omega
        subst hj
        exact (eqGives_str s1 t1 k1 k2).at _ _
      · refine ⟨.bl (s1 == t1 && xs.isEmpty), H, I, ?_, q⟩
        show _ = _
        have hl := r1.length
        have e : (its.length + 1 == 0 + 1) = xs.isEmpty := by
          cases xs with
          | nil => simp at hl; simp [← hl]
          | cons z zs => simp at hl; simp [← hl]
        simp [e]
theorem oc_eq3 (hu : X.A.units + 64 < cLine) : OpC X (compareOp .Eq) eqD3 := by
  obtain ⟨r0, o0, b0⟩ := oc_eq2 hu
  refine ⟨_, (op_headT (by omega)).or o0, fun F H x y d e res Q hl rx ry hg k => ?_⟩
  unfold eqD3 at hg
  split at hg
  · rename_i b hb
    cases hg
    unfold headEq at hb
    split at hb
    · rename_i s xs t
      cases hb
      obtain ⟨a, vs, rfl, h1, h2⟩ := rx.tup hl
      obtain ⟨b, ws, rfl, h3, h4⟩ := ry.tup hl
      simp only [RDs, RD] at h2 h4
      obtain ⟨v, vr, rfl, ⟨rfl, _⟩, h6⟩ := h2
      obtain ⟨w, wr, rfl, ⟨rfl, _⟩, rfl⟩ := h4
      refine .inl ⟨a, b, _, _, vr, rfl, rfl, h1, h3, ?_⟩
      have e1 : ((⟨s.toArray⟩ : Str) == ⟨t.toArray⟩) = (s == t) := by
        rw [Bool.eq_iff_iff, beq_iff_eq, beq_iff_eq]
        constructor
        · intro h; have := congrArg (fun z : Str => z.cps.toList) h; simpa using this
        · intro h; rw [h]
      have e2 : vr.isEmpty = xs.isEmpty := by
        have := h6.length
        cases xs with
        | nil => cases vr with | nil => rfl | cons _ _ => simp at this
        | cons _ _ => cases vr with | nil => simp at this | cons _ _ => rfl
      rw [e1, e2]
      exact k
    · cases hb
  · exact .inr (b0 F H x y d e res Q hl rx ry hg k)
end
end VS

set_option Elab.async false
set_option linter.all false
set_option maxRecDepth 100000
set_option maxHeartbeats 4000000
/-! ### {k: v for target in iter if ..}, keys ints or texts -/
namespace VS
open PySem L2 PyProof.Rows
variable [TabT]
section
variable {K : PySem.W.Frag} {mg : Str → Option Value} {ρ : List Addr} {O O' : Addr → Prop} {Γ Γ' Γ1 Γe : VEnv} {σ σ' : L2.St} {H F H' F' H1 F1 : Hp} {a : Addr} {d : D} {vs : List Nat}
theorem Rep.updOK (R : Rep K mg ρ O Γ σ H F) (ha : O a) (hh : ∀ b, b ≠ a → H' b = H b) (hn : H' a ≠ none) (ht : ∀ ps, H' a ≠ some (.tbl ps)) (hL : ∃ kvs, H a = some (.dK kvs)) : Rep K mg ρ O Γ σ H' F := by
  obtain ⟨f1, f2, f3⟩ := R.prot a ha
  have ow : ∀ {b : Addr} {d : D}, (∃ l, LocAt ρ Γ σ l b) → OwnAt K mg F H b d → OwnAt K mg F H' b d := fun {b d} hl h => h.stay (Same.refl _) h.1 (hh b fun z => by obtain ⟨l, hl⟩ := hl; rw [z] at hl; exact f3 l hl)
  refine ⟨fun b o e => ?_, R.len, R.vl, fun i d e => ?_, R.pr, R.plen, fun k d e => ?_, R.sfz, R.inj, fun b hb => ?_, tabs_but R.tb hh (fun ps q => by obtain ⟨xs, h⟩ := hL; rw [h] at q; cases q) (fun x q => by obtain ⟨xs, h⟩ := hL; rw [h] at q; cases q), R.nt, fun b hb ps => (by
      by_cases e : b = a
      · rw [e]; exact ht ps
      · rw [hh b e]; exact R.pt b hb ps)⟩
  · rw [hh b fun z => by rw [z, f1] at e; cases e]; exact R.le b o e
  · obtain ⟨b, h1, h2⟩ := R.ow i d e; exact ⟨b, h1, ow ⟨.inl i, ⟨d, e⟩, h1⟩ h2⟩
  · obtain ⟨b, h1, h2⟩ := R.sow k d e; exact ⟨b, h1, ow ⟨.inr k, ⟨d, e⟩, h1⟩ h2⟩
  · obtain ⟨h1, h2, h3⟩ := R.prot b hb
    refine ⟨h1, ?_, h3⟩
    by_cases e : b = a
    · rw [e]; exact hn
    · rw [hh b e]; exact h2
end
def dcD (vs : List Nat) (g : MG) (tt : MB) (mk mv : M) : List D → List (D × D) → VEnv → Option (List (D × D) × VEnv)
  | [], acc, Γ => some (acc, Γ)
  | d :: ds, acc, Γ => (g (.val d) Γ).bind fun Γ1 => (tt Γ1).bind fun p => if p.1 = true then
      (mk p.2).bind fun q => (asVal q.1).bind fun kd => (mv q.2).bind fun z => (freeze z.1 z.2).bind fun w =>
        if (kdOf kd).isSome = true ∧ acc.length < sizeLine then dcD vs g tt mk mv ds (putD acc kd w.1) (wipeE w.2 vs) else none
    else dcD vs g tt mk mv ds acc (wipeE p.2 vs)
def mDc (vs : List Nat) (mi : MI) (g : MG) (tt : MB) (mk mv : M) : M := fun Γ => (mi Γ).bind fun p => if okW p.2 vs = true then
  (dcD vs g tt mk mv p.1 [] (wipeE p.2 vs)).map fun q => (.fresh (.dict q.1), backE p.2 q.2 vs) else none
section
variable {X : Cx} {kx vx tg iter : Expr} {ifs : List Expr} {mk mv : M} {mi : MI} {g : MG} {ws : List Nat} {tt : MB} {pos : Pos}
theorem ve_dc {scope : Scope} {own : List (Str × Nat)} (hc : X.calm = true) (hN : X.N.Nodup) (hi : VI X tg iter mi) (ok : BlkOk X.N X.env.scope scope own) (hw : ∀ i ∈ ws, i ∈ own.map (·.2))
    (hg : ∀ (s : Shared) (H : Hp) (C : Addr) (cl : List (Str × Addr)) (fp : List Addr), VG (X.blk s H scope (compEnvC scope cl C X.env) fp) tg ws g)
    (ht : ∀ (s : Shared) (H : Hp) (C : Addr) (cl : List (Str × Addr)) (fp : List Addr), VTs (X.blk s H scope (compEnvC scope cl C X.env) fp) ifs tt)
    (hk : ∀ (s : Shared) (H : Hp) (C : Addr) (cl : List (Str × Addr)) (fp : List Addr), VE (X.blk s H scope (compEnvC scope cl C X.env) fp) kx mk)
    (he : ∀ (s : Shared) (H : Hp) (C : Addr) (cl : List (Str × Addr)) (fp : List Addr), VE (X.blk s H scope (compEnvC scope cl C X.env) fp) vx mv) (hs : ∀ x, foldedSetIterable iter X.env x = pure x := by intro _; rfl) :
    VE X (.DictComp kx vx [⟨tg, iter, ifs, 0⟩] scope pos) (mDc (own.map (·.2)) mi g tt mk mv) := by
  have main : ∀ σ H Q, tV X.K X.mg (mDc (own.map (·.2)) mi g tt mk mv) σ H Q → tDc (tI X.K X.mg mi) (tG X.K X.mg ws g) (tB X.K X.mg tt) (tV X.K X.mg mk) (tV X.K X.mg mv) (own.map (·.2)) σ H Q := by
    intro σ H Q h
    generalize own.map (·.2) = vs at *
    obtain ⟨ρ, O, Γ, F, r, Γ', R, e, k⟩ := h
    obtain ⟨⟨ds, Γ1⟩, e1, e⟩ := obind e
    split at e
    · rename_i hok
      obtain ⟨⟨res, Γe⟩, e2, e3⟩ := omap e
      cases e3
      refine ⟨ρ, O, Γ, F, ds, Γ1, R, e1, fun J H1 F1 s1 c1 w => ?_⟩
      intro D hD
      have hFD : F1 D = none := same_none s1.rep.le hD
      have nO : ¬ O D := fun z => (s1.rep.prot D z).2.1 hD
      have R0 : Rep X.K X.mg ρ (orO O (· = D)) Γ1 σ (upd H1 D (.dK [])) F1 :=
        (s1.rep.grow (grow_own s1.rep.le hD)).addO hFD (by rw [upd_same]; exact fun z => nomatch z) (fun ps => by rw [upd_same]; exact fun z => nomatch z) fun l z => z.there s1.rep hD
      have ho0 : ∀ a, O a → upd H1 D (.dK []) a = H a := fun a ha => by rw [upd_ne (fun (z : a = D) => nO (z ▸ ha))]; exact s1.op a ha
      refine ⟨fun i n H' => n = ds.length - i ∧ i ≤ ds.length ∧ ∃ Γi Fi acc accV, Rep X.K X.mg ρ (orO O (· = D)) Γi (wipe σ vs) H' Fi ∧ Same F1 Fi ∧ (∀ a, O a → H' a = H a) ∧ H' D = some (.dK accV) ∧ RDk X.K X.mg Fi acc accV ∧
          dcD vs g tt mk mv (ds.drop i) acc Γi = some (res, Γe),
        ⟨_, rfl, Nat.zero_le _, wipeE Γ1 vs, F1, [], [], R0.wiped vs, Same.refl _, ho0, upd_same, by simp only [RDk], by simpa using e2⟩, fun i n H' hW => ?_⟩
      obtain ⟨rfl, hi, Γi, Fi, acc, accV, Ri, hfi, hoi, hDi, hai, ei⟩ := hW
      have hsame : Same F1 H' := hfi.trans Ri.le
      by_cases hlt : i < ds.length
      · refine .inr ⟨w.goes i H' hlt hsame, fun H2 => ∃ Γ2 F2 acc2 accV2, Rep X.K X.mg ρ (orO O (· = D)) Γ2 (wipe σ vs) H2 F2 ∧ Same F1 F2 ∧ (∀ a, O a → H2 a = H a) ∧ H2 D = some (.dK accV2) ∧ RDk X.K X.mg F2 acc2 accV2 ∧
            dcD vs g tt mk mv (ds.drop (i + 1)) acc2 Γ2 = some (res, Γe), fun H2 hN => ?_, fun x H2 hy => ?_⟩
        · obtain ⟨Γ2, F2, acc2, accV2, h1, h2, h3, h4, h5, h6⟩ := hN
          exact ⟨ds.length - (i + 1), by omega, rfl, by omega, Γ2, F2, acc2, accV2, h1, h2, h3, h4, h5, h6⟩
        · obtain ⟨F2, d, hd, gr, rd⟩ := w.yields i H' x H2 Fi hlt hy hfi Ri.le
          have edrop : ds.drop i = d :: ds.drop (i + 1) := by
            rw [List.drop_eq_getElem_cons hlt]
            congr 1
            rw [List.getElem?_eq_getElem hlt] at hd
            exact Option.some.inj hd
          rw [edrop] at ei
          simp only [dcD] at ei
          obtain ⟨Γ2, e4, ei⟩ := obind ei
          obtain ⟨⟨b5, Γ3⟩, e5, ei⟩ := obind ei
          have R2 := Ri.grow gr
          refine tG_run (r := .val d) R2 rd e4 fun σ3 H3 F3 s3 hw3 => ?_
          have hw3' : wipe σ3 vs = wipe σ vs := (hw3 vs hw).trans wipe_wipe
          refine ⟨hw3', ?_⟩
          refine tB_run s3.rep e5 fun H4 F4 s4 c4 => ?_
          have s34 := s3.trans s4
          have hf4 : Same F1 F4 := (hfi.trans gr.fs).trans s34.fs
          have ho4 : ∀ a, O a → H4 a = H a := fun a ha => ((s34.op a (.inl ha)).trans (Ri.opres gr.hs a (.inl ha))).trans (hoi a ha)
          have hD4 : H4 D = some (.dK accV) := ((s34.op D (.inr rfl)).trans (Ri.opres gr.hs D (.inr rfl))).trans hDi
          have ha4 : RDk X.K X.mg F4 acc accV := RDk.mono (gr.fs.trans s34.fs) _ _ hai
          cases b5 with
          | false =>
            refine iteF ⟨wipeE Γ3 vs, F4, acc, accV, ?_, hf4, ho4, hD4, ha4, ei⟩
            have := s4.rep.wiped vs
            rw [hw3'] at this
            exact this
          | true =>
            refine iteT ?_
            obtain ⟨⟨r6, Γ4⟩, e6, ej⟩ := obind ei
            clear ei
            obtain ⟨kd, e8, ek⟩ := obind ej
            clear ej
            obtain ⟨⟨r9, Γ5⟩, e9, el⟩ := obind ek
            clear ek
            obtain ⟨⟨d7, Γ6⟩, e7, em⟩ := obind el
            clear el
            have hr6 : r6 = .val kd := by
              cases r6 <;> simp only [asVal] at e8 <;> first
                | (cases e8; done)
                | (cases e8; rfl)
            subst hr6
            by_cases hz : (kdOf kd).isSome = true ∧ acc.length < sizeLine
            · rw [if_pos hz] at em
              obtain ⟨c, hcc⟩ := Option.isSome_iff_exists.mp hz.1
              have ek := kdOf_eq hcc
              subst ek
              refine tV_run s4.rep e6 fun y H5 F5 s5 c5 r5 => ?_
              refine tV_run s5.rep e9 fun z H6 F6 s6 c6 r6 => ?_
              obtain ⟨F7, R7, s7, rd7, c7⟩ := freeze_ok s6.rep r6 e7
              have ry : RD X.K X.mg F5 (kD c) y := r5
              have s56 := s5.trans s6
              have hD6 : H6 D = some (.dK accV) := (s56.op D (.inr rfl)).trans hD4
              have ha7 : RDk X.K X.mg F7 acc accV := RDk.mono (s56.fs.trans s7) _ _ ha4
              refine ⟨accV, c, rd_kV c ry, hD6, by rw [← ha7.len]; exact hz.2, wipeE Γ6 vs, F7, putD acc (kD c) d7, putK accV c z, ?_, (hf4.trans s56.fs).trans s7, fun a ha => ?_, upd_same, ha7.put c (rd_keyOk c ry) rd7, em⟩
              · have := (R7.updOK (a := D) (.inr rfl) (H' := upd H6 D (.dK (putK accV c z))) (fun b hb => upd_ne hb) (by rw [upd_same]; exact fun z => nomatch z) (fun ps => by rw [upd_same]; exact fun z => nomatch z) ⟨_, hD6⟩).wiped vs
                rw [hw3'] at this
                exact this
              · rw [upd_ne (fun (z : a = D) => nO (z ▸ ha)), s56.op a (.inl ha)]
                exact ho4 a ha
            · rw [if_neg hz] at em; cases em
      · have hi' : i = ds.length := by omega
        subst hi'
        refine .inl ⟨w.stops H' hsame, ?_⟩
        rw [List.drop_length] at ei
        cases ei
        have Rb : Rep X.K X.mg ρ (orO O (· = D)) (backE Γ1 Γe vs) σ H' Fi := R0.back Ri hfi hok
        have hloc : ∀ l, ¬ LocAt ρ (backE Γ1 Γe vs) σ l D := (Rb.prot D (.inr rfl)).2.2
        have hFi : Fi D = none := (Rb.prot D (.inr rfl)).1
        refine k (.ref D) H' Fi ⟨Rb.weakO fun a z => .inl z, s1.fs.trans hfi, hoi⟩ trivial ⟨D, rfl, ⟨hFi, accV, hDi, hai⟩, nO, hloc⟩
    · cases e
  exact pe_of (pe_dc hc hN hi ok hg ht hk he hs) main
end
end VS

set_option Elab.async false
set_option linter.all false
set_option maxRecDepth 100000
set_option maxHeartbeats 4000000
/-! ### d.update(e) -/
namespace VS
open PySem L2 PyProof.Rows
variable [TabT]
section
variable {X : Cx}
def rUpd : V → List V → Hp → VK → Prop := fun x xs H Q => ∃ (a b : Addr) (kvs ms : List (Key × V)), x = .ref a ∧ xs = [.ref b] ∧ a ≠ b ∧ H a = some (.dK kvs) ∧ Rd H b (.dK ms) ∧ kvs.length + ms.length ≤ sizeLine ∧ Q .non (upd H a (.dK (mergeK kvs ms)))
theorem mt_dupd : MtR X "dict.update" rUpd := by
  intro pins s σ H x xs v us Q I rx rxs h
  obtain ⟨a, b, kvs, ms, rfl, rfl, hne, ha, hb, hz, q⟩ := h
  obtain rfl : v = Value.ref a := rx
  obtain ⟨u, rfl, ru⟩ := vals1 rxs
  obtain rfl : u = Value.ref b := ru
  obtain ⟨z, hd, vs, rel, dd⟩ := dk_of I.hok ha
  obtain ⟨z2, hd2, ws, rel2, dd2⟩ := dk_rd I.hok hb
  refine call_meetsIn PySem.F.slot_dict_update dd.typeIs PySem.F.entry_dict_update (PySem.F.args_dict_update_2 _ _) (meets_dict_update (mixKind X.prog X.w) a b hne hd2) ⟨vs, ws, dd, dd2, by rw [← rel.length, ← rel2.length]; exact hz, fun h' dd' _ hs => ?_⟩
  have he : ∃ q, h'.get? a = some q := let ⟨q, _, _, hq, _⟩ := dd'; ⟨q, hq⟩
  have hl : (mergeK kvs ms).length ≤ sizeLine := by have := length_mergeK ms kvs; omega
  exact ⟨.non, _, d_write I (by rw [ha]; exact True.intro) hs he (dk_new hl hd (rel2.merge rel) dd'), rfl, q⟩
def isDictD : D → Bool
  | .dict _ => true
  | _ => false
def mUpd (mo m : M) : M := fun Γ => (mo Γ).bind fun p => (content p.2 p.1).bind fun c0 => if isDictD c0 = true then
  (m p.2).bind fun q => (freeze q.1 q.2).bind fun z => (content z.2 p.1).bind fun c => match c, z.1 with
    | .dict kvs, .dict ms => if kvs.length + ms.length ≤ sizeLine then some (.val .non, putC z.2 (.dict (ms.foldl (fun acc p => putD acc p.1 p.2) kvs)) p.1) else none
    | _, _ => none
  else none
variable {o e : Expr} {mo m : M} {apos pos : Pos}
theorem ve_upd (ho : VE X o mo) (he : VE X e m) (hbase : attributeBase o "update" X.env (eval o X.env) = eval o X.env := by rfl)
    (hfew : ((backTo pos (starEach [e] X.env)).all (fun x => !x.1) && (backToKw pos (keywordEach [] X.env)).all (fun x => x.1.isSome)
      && decide (([e] : List Expr).length + ([] : List Keyword).length + (if ([] : List Keyword).isEmpty then 0 else 1) < 30)) = true := by rfl)
    (hline : (apos.endLine == pos.line) = true := by rfl) (hs : starEach [e] X.env = (false, eval e X.env) :: starEach [] X.env := by rfl) (hplain : (backTo pos (starEach [] X.env)).any (·.1) = false := by rfl) :
    VE X (.Call (.Attribute o "update" apos) [e] [] pos) (mUpd mo m) := by
  refine pe_of (pe_bm PySem.F.plainAttrs_dict PySem.F.slot_dict_update PySem.F.type_dict_update mt_dupd ho (pa_cons he pa_nil hs) hbase hfew hline hs hplain) fun σ H Q h => ?_
  obtain ⟨ρ, O, Γ, F, res, Γ', R, e, k⟩ := h
  obtain ⟨⟨ro, Γ1⟩, e1, e⟩ := obind e
  obtain ⟨c0, e2, e⟩ := obind e
  split at e
  · rename_i hd0
    obtain ⟨⟨rq, Γ2⟩, e3, e⟩ := obind e
    obtain ⟨⟨dz, Γ3⟩, e4, e⟩ := obind e
    obtain ⟨c, e5, e⟩ := obind e
    simp only at e
    split at e
    · rename_i kvs ms _
      split at e
      · rename_i hz
        cases e
        have hc0 : ∃ ds0, c0 = .dict ds0 := by
          cases c0 <;> simp only [isDictD] at hd0 <;> first
            | (cases hd0; done)
            | exact ⟨_, rfl⟩
        obtain ⟨ds0, rfl⟩ := hc0
        refine tV_run R e1 fun v H1 F1 s1 c1 r1 => ?_
        obtain ⟨a, rfl, ho1, _⟩ := mut_ok s1.rep r1 e2
        obtain ⟨_, vs0, h1, _⟩ := id ho1
        refine ⟨.inr (.inr (.inl ⟨rfl, .inl ⟨vs0, h1⟩⟩)), ?_⟩
        refine tV_run s1.rep e3 fun u H2 F2 s2 c2 r2 => ?_
        obtain ⟨F3, R3, s3, rd, c3⟩ := freeze_ok s2.rep r2 e4
        have st : Stp X.K X.mg ρ O Γ3 σ H F H2 F3 := (s1.trans s2).trans ⟨R3, s3, fun _ _ => rfl⟩
        have ro3 : RepEV X.K X.mg ρ O Γ3 σ H2 F3 ro (.ref a) := content_later r1 e5 (c2.trans c3)
        obtain ⟨a', q0, ho3, hm⟩ := mut_ok R3 ro3 e5
        cases q0
        obtain ⟨hF, vs, g1, g2⟩ := id ho3
        simp only [RD] at rd
        obtain ⟨b, ws, rfl, h3, h4⟩ := rd
        have hab : a ≠ b := fun z => by subst z; rw [hF] at h3; cases h3
        refine ⟨a, b, vs, ws, rfl, rfl, hab, g1, .inl (R3.le _ _ h3), by rw [← g2.len, ← h4.len]; exact hz, ?_⟩
        obtain ⟨R4, op4⟩ := hm (upd H2 a (.dK (mergeK vs ws))) (.dict (ms.foldl (fun acc p => putD acc p.1 p.2) kvs)) (fun b hb => upd_ne hb) ⟨hF, _, upd_same, buildK h4 g2⟩
        exact k .non _ F3 (st.trans ⟨R4, Same.refl _, op4⟩) trivial (by simp only [RepEV, RD])
      · cases e
    · cases e
  · cases e
end
end VS

set_option Elab.async false
set_option linter.all false
set_option maxRecDepth 100000
set_option maxHeartbeats 4000000
/-! ### sorted(d), a dict whose keys are texts -/
namespace VS
open PySem L2 PyProof.Rows
variable [TabT]
def keyStrs : List (D × D) → Option (List (List Nat))
  | [] => some []
  | (.str s, _) :: r => (keyStrs r).map fun l => s :: l
  | _ => none
def sortDk : List D → Option EV
  | [.dict kvs] => (keyStrs kvs).bind fun l => if l.length < 64 then some (.fresh (.lst ((sortT (fun a b => decide (a < b)) l).map D.str))) else none
  | _ => none
def sortedE (ds : List D) : Option EV := match sortDk ds with
  | some r => some r
  | none => sortedD ds
section
variable {X : Cx} {K : PySem.W.Frag} {mg : Str → Option Value} {F H : Hp}
theorem keyStrs_ok : ∀ {kvs : List (D × D)} {vs : List (Key × V)} {l : List (List Nat)}, RDk K mg F kvs vs → keyStrs kvs = some l → vs.map (·.1) = (l.map fun s : List Nat => (⟨s.toArray⟩ : Str)).map Sum.inr ∧ ∀ s ∈ l, OkS s
  | [], vs, l, h, e => by
    simp only [RDk] at h
    subst h
    simp only [keyStrs, Option.some.injEq] at e
    subst e
    exact ⟨rfl, fun _ h => by cases h⟩
  | (k, d) :: r, vs, l, h, e => by
    cases k <;> simp only [keyStrs] at e <;> first
      | (cases e; done)
      | skip
    rename_i s
    obtain ⟨l', e1, rfl⟩ := omap e
    simp only [RDk] at h
    obtain ⟨c, v, r', rfl, ⟨hk, ok⟩, h1, h2⟩ := h
    obtain ⟨i1, i2⟩ := keyStrs_ok h2 e1
    cases c with
    | inl i => cases hk
    | inr x =>
      simp only [kD, D.str.injEq] at hk
      subst hk
      refine ⟨by simp only [List.map_cons, i1], fun s hs => ?_⟩
      rcases List.mem_cons.mp hs with rfl | hs
      · exact ok
      · exact i2 s hs
theorem rising_pw : ∀ {xs : List Str} {p : Str}, risingS p xs = true → (p.cps.toList :: xs.map fun x : Str => x.cps.toList).Pairwise fun a b => (!decide (b < a)) = true
  | [], p, _ => by simp
  | x :: r, p, h => by
    simp only [risingS, Bool.and_eq_true] at h
    have ih := rising_pw h.2
    rw [List.map_cons]
    refine List.pairwise_cons.mpr ⟨fun y hy => ?_, ih⟩
    have h1 : (!decide (x.cps.toList < p.cps.toList)) = true := by rw [← ltCps_eq]; exact h.1
    rcases List.mem_cons.mp hy with rfl | hy
    · exact h1
    · have h2 := (List.pairwise_cons.mp ih).1 y hy
      have := lin_S.tr p.cps.toList x.cps.toList y (by simpa using h1) (by simpa using h2)
      simpa using this
theorem cx_sortedE (hc : X.calm = true) (hu : X.A.units + 65 < cLine) : CallX X (.builtin "sorted") sortedE := by
  obtain ⟨r0, c0, b0⟩ := cx_sorted hu
  refine ⟨_, (call_sortedD hc).or c0, fun F H xs ds res Q hl rx hg k => ?_⟩
  unfold sortedE at hg
  split at hg
  · rename_i r hb
    cases hg
    unfold sortDk at hb
    split at hb
    · rename_i kvs
      obtain ⟨l, e1, e2⟩ := obind hb
      split at e2
      · rename_i hlt
        cases e2
        obtain ⟨v, rfl, h⟩ := rx.one
        obtain ⟨a, vs, rfl, hr, hk⟩ : ∃ a vs, v = .ref a ∧ Rd H a (.dK vs) ∧ RDk X.K X.mg F kvs vs := by
          rcases h with h | ⟨a, e, _, h⟩
          · simp only [RD] at h
            obtain ⟨a, vs, e1, e2, e3⟩ := h
            exact ⟨a, vs, e1, .inl (hl _ _ e2), e3⟩
          · simp only at h
            obtain ⟨vs, e1, e2⟩ := h
            exact ⟨a, vs, e, .inl e1, e2⟩
        obtain ⟨hks, hok⟩ := keyStrs_ok hk e1
        refine .inl ⟨a, vs, l.map fun s : List Nat => (⟨s.toArray⟩ : Str), rfl, hr, hks, by simpa using hlt, fun ys p hp hs hn => ?_⟩
        have hp' : (ys.map fun x : Str => x.cps.toList).Perm l := by
          have := hp.map fun x : Str => x.cps.toList
          simpa [Function.comp_def] using this
        have hpw : (ys.map fun x : Str => x.cps.toList).Pairwise fun a b => (!decide (b < a)) = true := by
          cases ys with
          | nil => simp
          | cons y r => exact rising_pw hs
        have hm : (sortT (fun a b => decide (a < b)) l).Pairwise fun a b => (!decide (b < a)) = true := by
          unfold sortT
          exact ms_pairwise _ l (fun a _ b _ c _ h1 h2 => by
            have := lin_S.tr a b c (by simpa using h1) (by simpa using h2)
            simpa using this) fun a _ b _ => by
            by_cases h : b < a
            · have := lin_S.as b a (by simpa using h); simpa [h] using this
            · simp [h]
        have hq : (ys.map fun x : Str => x.cps.toList).Perm (sortT (fun a b => decide (a < b)) l) := hp'.trans (List.mergeSort_perm _ _).symm
        have he : (ys.map fun x : Str => x.cps.toList) = sortT (fun a b => decide (a < b)) l := List.Perm.eq_of_pairwise (fun a b _ _ h1 h2 => lin_S.tri a b (by simpa using h2) (by simpa using h1)) hpw hm hq
        have g : Grow F H F (upd H p (.lst (ys.map V.str))) := grow_own hl hn
        refine k (.ref p) _ F g ⟨p, rfl, hn, same_none hl hn, ys.map V.str, upd_same, ?_⟩
        rw [← he]
        have hall : ∀ y ∈ ys, OkS y.cps.toList := fun y hy => hok _ (hp'.mem_iff.mp (List.mem_map.mpr ⟨y, hy, rfl⟩))
        clear k g hq hm hpw hp' hp he hs
        induction ys with
        | nil => simp only [List.map_nil, RDs]
        | cons y r ih =>
          simp only [List.map_cons, RDs, RD]
          exact ⟨.str y, r.map V.str, rfl, ⟨by simp, hall y List.mem_cons_self⟩, ih fun z hz => hall z (List.mem_cons_of_mem _ hz)⟩
      · cases e2
    · cases hb
  · exact .inr (b0 F H xs ds res Q hl rx hg k)
end
end VS

set_option Elab.async false
set_option linter.all false
set_option maxRecDepth 100000
set_option maxHeartbeats 4000000
/-! ### zip of two texts of signs below 128 -/
namespace VZS
open PySem PySem.Spec PyProof.Rows L2 RZ
open PySem.Sem (wp)
abbrev SA : String := "str_ascii_iterator"
structure Ap (z TI TO i1 i2 : Addr) : Prop where
  TIz : TI ≠ z
  TOz : TO ≠ z
  i1z : i1 ≠ z
  i2z : i2 ≠ z
  TITO : TI ≠ TO
  TIi1 : TI ≠ i1
  TIi2 : TI ≠ i2
  TOi1 : TO ≠ i1
  TOi2 : TO ≠ i2
  i12 : i1 ≠ i2
theorem ap (I : Nat) : Ap (I + 4) (I + 2) (I + 3) I (I + 1) := by
  constructor <;> (refine PySem.W.neN ?_; omega)
theorem si_at {h h' : Heap} {a : Addr} {ty : String} {x : Str} {t : Tok} {i : Nat} (y : h.IsStrIter a ty x t i) (k : ∀ o, h.get? a = some o → h'.get? a = some o) : h'.IsStrIter a ty x t i :=
  let ⟨o, ho, r⟩ := y; ⟨o, k o ho, r⟩
section
variable {prog : Program} {w : World} {A : Around} {E : Value → Shared → Prop} {s : Shared} {x y : Str} {t u : Tok}
theorem zipS_next_item {z TI TO i1 i2 : Addr} {k1 k2 c d : Nat} {a b : Value} {Q : Value → Shared → Prop} (D : Ap z TI TO i1 i2)
    (hz : IsZip s.heap z TI TO .none) (hTI : IsPair s.heap TI (.ref i1) (.ref i2)) (hTO : IsPair s.heap TO a b)
    (h1 : s.heap.IsStrIter i1 SA x t k1) (h2 : s.heap.IsStrIter i2 SA y u k2) (hx : x.cps[k1]? = some c) (hy : y.cps[k2]? = some d)
    (hQ : ∀ h' u1 u2 tk, IsZip h' z TI TO (rawInt s.heap.objs.size) → IsPair h' TO (.str ⟨#[c]⟩ u1) (.str ⟨#[d]⟩ u2) → h'.IsStrIter i1 SA x t (k1 + 1) → h'.IsStrIter i2 SA y u (k2 + 1) → IsPair h' s.heap.objs.size (.str ⟨#[c]⟩ u1) (.str ⟨#[d]⟩ u2) → h'.objs.size = s.heap.objs.size + 1 →
      (∀ c o, c ≠ z → c ≠ TO → c ≠ i1 → c ≠ i2 → s.heap.get? c = some o → h'.get? c = some o) → Q (.ref s.heap.objs.size) { s with heap := h', toks := tk }) :
    wpAny (model prog w) A (Builtin.«zip.__next__» ⟨[.ref z], []⟩) (fun fin s' => ∃ v, fin = .done (.ret v) ∧ Q v s') E s := by
  show wpAny _ _ (field (.ref z) 2 >>= _) _ _ _
  refine wpAny_bind (wpAny_field hz rfl (x := .bool false) rfl ?_)
  show wpAny _ _ (field (.ref z) 3 >>= _) _ _ _
  refine wpAny_bind (wpAny_field hz rfl (x := .ref TI) rfl ?_)
  refine wpAny_bind (wpAny_seqItems hTI rfl ?_)
  show wpAny _ _ (Builtin.SmallTypes.ownedTupleIsFree (.ref z) >>= _) _ _ _
  refine wpAny_bind ?_
  unfold Builtin.SmallTypes.ownedTupleIsFree
  refine wpAny_bind (wpAny_field hz rfl (x := .none) rfl (wpAny_pure ?_))
  simp only [if_true]
  refine wpAny_bind (wpAny_rule ?_)
  refine wpAny_bind (wpAny_field hz rfl (x := .ref TO) rfl ?_)
  refine wpAny_bind (wpAny_setField_rec hz (by simp) fun h₁ hz₁ hs₁ => ?_)
  replace hz₁ : IsZip h₁ z TI TO .ellipsis := hz₁
  refine wpAny_bind ?_
  simp only [List.zipIdx_cons, List.zipIdx_nil, List.forIn_cons, List.forIn_nil]
  refine wpAny_bind (wpAny_bind (wpAny_onRaise ?_))
  show wpAny _ _ (Builtin.SmallTypes.nextOf (.ref i1) >>= _) _ _ _
  refine wpAny_bind (wpAny_nextOf_ascii_item (h1.extBut hs₁.extBut D.i1z) hx fun h₂ h1₂ hs₂ => wpAny_pure ?_)
  have hTO₂ : IsPair h₂ TO a b := hs₂.extBut _ _ D.TOi1 (hs₁.extBut _ _ D.TOz hTO)
  refine wpAny_bind (wpAny_seqItems hTO₂ rfl ?_)
  refine wpAny_bind (wpAny_updateSeq_pair hTO₂ fun h₃ hTO₃ hs₃ => ?_)
  replace hTO₃ : IsPair h₃ TO (.str ⟨#[c]⟩ _) b := hTO₃
  refine wpAny_bind (wpAny_letGo (wpAny_pure ?_))
  refine wpAny_bind (wpAny_bind (wpAny_onRaise ?_))
  show wpAny _ _ (Builtin.SmallTypes.nextOf (.ref i2) >>= _) _ _ _
  refine wpAny_bind (wpAny_nextOf_ascii_item (((h2.extBut hs₁.extBut D.i2z).extBut hs₂.extBut D.i12.symm).extBut hs₃.extBut D.TOi2.symm) hy fun h₄ h2₄ hs₄ => wpAny_pure ?_)
  have hTO₄ : IsPair h₄ TO (.str ⟨#[c]⟩ _) b := hs₄.extBut _ _ D.TOi2 hTO₃
  refine wpAny_bind (wpAny_seqItems hTO₄ rfl ?_)
  refine wpAny_bind (wpAny_updateSeq_pair hTO₄ fun h₅ hTO₅ hs₅ => ?_)
  replace hTO₅ : IsPair h₅ TO (.str ⟨#[c]⟩ _) (.str ⟨#[d]⟩ _) := hTO₅
  refine wpAny_bind (wpAny_letGo (wpAny_pure (wpAny_pure ?_)))
  refine wpAny_bind (wpAny_seqItems hTO₅ rfl ?_)
  refine wpAny_bind (wpAny_newTuple ?_)
  have hsz : h₅.objs.size = s.heap.objs.size := by rw [hs₅.1, hs₄.1, hs₃.1, hs₂.1, hs₁.1]
  have hz₅ : IsZip h₅ z TI TO .ellipsis := hs₅.extBut _ _ D.TOz.symm (hs₄.extBut _ _ D.i2z.symm (hs₃.extBut _ _ D.TOz.symm (hs₂.extBut _ _ D.i1z.symm hz₁)))
  have hk₅ : ∀ c o, c ≠ z → c ≠ TO → c ≠ i1 → c ≠ i2 → s.heap.get? c = some o → h₅.get? c = some o := fun c o c1 c2 c3 c4 e =>
    hs₅.extBut _ _ c2 (hs₄.extBut _ _ c4 (hs₃.extBut _ _ c2 (hs₂.extBut _ _ c3 (hs₁.extBut _ _ c1 e))))
  have h1₅ : h₅.IsStrIter i1 SA x t (k1 + 1) := ((h1₂.extBut hs₃.extBut D.TOi1.symm).extBut hs₄.extBut D.i12).extBut hs₅.extBut D.TOi1.symm
  have h2₅ : h₅.IsStrIter i2 SA y u (k2 + 1) := h2₄.extBut hs₅.extBut D.TOi2.symm
  have hzlt : z < h₅.objs.size := Heap.lt_size hz₅
  have hTOlt : TO < h₅.objs.size := Heap.lt_size hTO₅
  have hi1lt : i1 < h₅.objs.size := by obtain ⟨_, e, _⟩ := h1₅; exact Heap.lt_size e
  have hi2lt : i2 < h₅.objs.size := by obtain ⟨_, e, _⟩ := h2₅; exact Heap.lt_size e
  show wpAny _ _ (Builtin.SmallTypes.ownedTupleHandOut (.ref z) (.ref h₅.objs.size) >>= _) _ _ _
  refine wpAny_bind ?_
  unfold Builtin.SmallTypes.ownedTupleHandOut
  have hz₆ : IsZip (h₅.push { cls := .type "tuple", data := .seq #[.str ⟨#[c]⟩ s.toks, .str ⟨#[d]⟩ (s.toks + 1)] }) z TI TO .ellipsis := Heap.get?_push_of_some _ hz₅
  refine wpAny_bind (wpAny_setField_rec hz₆ (by simp) fun h₇ hz₇ hs₇ => ?_)
  replace hz₇ : IsZip h₇ z TI TO (rawInt h₅.objs.size) := hz₇
  refine wpAny_setField_rec hz₇ (by simp) fun h₈ hz₈ hs₈ => ?_
  replace hz₈ : IsZip h₈ z TI TO (rawInt h₅.objs.size) := hz₈
  have up : ∀ c o, c ≠ z → h₅.get? c = some o → h₈.get? c = some o := fun c o c1 e => hs₈.extBut _ _ c1 (hs₇.extBut _ _ c1 (Heap.get?_push_of_some _ e))
  have hT₈ : IsPair h₈ h₅.objs.size (.str ⟨#[c]⟩ s.toks) (.str ⟨#[d]⟩ (s.toks + 1)) := hs₈.extBut _ _ (Nat.ne_of_gt hzlt) (hs₇.extBut _ _ (Nat.ne_of_gt hzlt) (Heap.get?_push_size _ rfl))
  have hz8 : h₈.objs.size = h₅.objs.size + 1 := by rw [hs₈.1, hs₇.1, Heap.size_push]
  rw [hsz] at hz₈ hT₈ hz8
  refine wpAny_pure ⟨_, rfl, ?_⟩
  show Q (.ref h₅.objs.size) _
  rw [hsz]
  exact hQ h₈ _ _ _ hz₈ (up _ _ D.TOz hTO₅) (si_at h1₅ fun o e => up _ o D.i1z e) (si_at h2₅ fun o e => up _ o D.i2z e) hT₈ hz8 fun c o c1 c2 c3 c4 e => up c o c1 (hk₅ c o c1 c2 c3 c4 e)

theorem zipS_next_end {z TI TO i1 i2 : Addr} {k1 k2 : Nat} {a b : Value} {Q : Fin → Shared → Prop} (hh : A.handled = none) (D : Ap z TI TO i1 i2)
    (hz : IsZip s.heap z TI TO .none) (hTI : IsPair s.heap TI (.ref i1) (.ref i2)) (hTO : IsPair s.heap TO a b)
    (h1 : s.heap.IsStrIter i1 SA x t k1) (h2 : s.heap.IsStrIter i2 SA y u k2) (hend : x.cps[k1]? = none ∨ y.cps[k2]? = none)
    (hE : ∀ h' e tk, (∀ c o, c ≠ z → c ≠ TO → c ≠ i1 → c ≠ i2 → s.heap.get? c = some o → h'.get? c = some o) → (∃ o, h'.get? e = some o ∧ o.cls = .type "StopIteration") → E (.ref e) { s with heap := h', toks := tk }) :
    wpAny (model prog w) A (Builtin.«zip.__next__» ⟨[.ref z], []⟩) Q E s := by
  show wpAny _ _ (field (.ref z) 2 >>= _) _ _ _
  refine wpAny_bind (wpAny_field hz rfl (x := .bool false) rfl ?_)
  show wpAny _ _ (field (.ref z) 3 >>= _) _ _ _
  refine wpAny_bind (wpAny_field hz rfl (x := .ref TI) rfl ?_)
  refine wpAny_bind (wpAny_seqItems hTI rfl ?_)
  show wpAny _ _ (Builtin.SmallTypes.ownedTupleIsFree (.ref z) >>= _) _ _ _
  refine wpAny_bind ?_
  unfold Builtin.SmallTypes.ownedTupleIsFree
  refine wpAny_bind (wpAny_field hz rfl (x := .none) rfl (wpAny_pure ?_))
  simp only [if_true]
  refine wpAny_bind (wpAny_rule ?_)
  refine wpAny_bind (wpAny_field hz rfl (x := .ref TO) rfl ?_)
  refine wpAny_bind (wpAny_setField_rec hz (by simp) fun h₁ hz₁ hs₁ => ?_)
  replace hz₁ : IsZip h₁ z TI TO .ellipsis := hz₁
  refine wpAny_bind ?_
  simp only [List.zipIdx_cons, List.zipIdx_nil, List.forIn_cons, List.forIn_nil]
  refine wpAny_bind (wpAny_bind (wpAny_onRaise ?_))
  show wpAny _ _ (Builtin.SmallTypes.nextOf (.ref i1) >>= _) _ _ _
  cases hx : x.cps[k1]? with
  | none =>
    refine wpAny_bind (wpAny_nextOf_ascii_end hh (h1.extBut hs₁.extBut D.i1z) hx fun h₂ e hs₂ he => ?_)
    obtain ⟨oe, hoe, hce⟩ := he
    have hz₂ : IsZip h₂ z TI TO .ellipsis := hs₂ _ _ D.i1z.symm hz₁
    have hez : e ≠ z := fun x => by subst x; rw [hz₂] at hoe; cases hoe; simp at hce
    refine wpAny_setField_rec hz₂ (by simp) fun h₃ _ hs₃ => hE h₃ e _ (fun c o c1 _ c3 _ x => hs₃.extBut _ _ c1 (hs₂ _ _ c3 (hs₁.extBut _ _ c1 x))) ⟨oe, hs₃.extBut _ _ hez hoe, hce⟩
  | some c =>
    have hy : y.cps[k2]? = none := by rcases hend with h | h; rw [hx] at h; cases h; exact h
    refine wpAny_bind (wpAny_nextOf_ascii_item (h1.extBut hs₁.extBut D.i1z) hx fun h₂ h1₂ hs₂ => wpAny_pure ?_)
    have hTO₂ : IsPair h₂ TO a b := hs₂.extBut _ _ D.TOi1 (hs₁.extBut _ _ D.TOz hTO)
    refine wpAny_bind (wpAny_seqItems hTO₂ rfl ?_)
    refine wpAny_bind (wpAny_updateSeq_pair hTO₂ fun h₃ hTO₃ hs₃ => ?_)
    refine wpAny_bind (wpAny_letGo (wpAny_pure ?_))
    refine wpAny_bind (wpAny_bind (wpAny_onRaise ?_))
    show wpAny _ _ (Builtin.SmallTypes.nextOf (.ref i2) >>= _) _ _ _
    refine wpAny_bind (wpAny_nextOf_ascii_end hh (((h2.extBut hs₁.extBut D.i2z).extBut hs₂.extBut D.i12.symm).extBut hs₃.extBut D.TOi2.symm) hy fun h₄ e hs₄ he => ?_)
    obtain ⟨oe, hoe, hce⟩ := he
    have hz₄ : IsZip h₄ z TI TO .ellipsis := hs₄ _ _ D.i2z.symm (hs₃.extBut _ _ D.TOz.symm (hs₂.extBut _ _ D.i1z.symm hz₁))
    have hez : e ≠ z := fun x => by subst x; rw [hz₄] at hoe; cases hoe; simp at hce
    refine wpAny_setField_rec hz₄ (by simp) fun h₅ _ hs₅ => hE h₅ e _ (fun c o c1 c2 c3 c4 x => hs₅.extBut _ _ c1 (hs₄ _ _ c4 (hs₃.extBut _ _ c2 (hs₂.extBut _ _ c3 (hs₁.extBut _ _ c1 x))))) ⟨oe, hs₅.extBut _ _ hez hoe, hce⟩

theorem pyNext_zipS_item {z TI TO i1 i2 : Addr} {k1 k2 c d : Nat} {a b : Value} {Q : Option Value → Shared → Prop} (D : Ap z TI TO i1 i2)
    (hz : IsZip s.heap z TI TO .none) (hTI : IsPair s.heap TI (.ref i1) (.ref i2)) (hTO : IsPair s.heap TO a b)
    (h1 : s.heap.IsStrIter i1 SA x t k1) (h2 : s.heap.IsStrIter i2 SA y u k2) (hx : x.cps[k1]? = some c) (hy : y.cps[k2]? = some d)
    (hQ : ∀ h' u1 u2 tk, IsZip h' z TI TO (rawInt s.heap.objs.size) → IsPair h' TO (.str ⟨#[c]⟩ u1) (.str ⟨#[d]⟩ u2) → h'.IsStrIter i1 SA x t (k1 + 1) → h'.IsStrIter i2 SA y u (k2 + 1) → IsPair h' s.heap.objs.size (.str ⟨#[c]⟩ u1) (.str ⟨#[d]⟩ u2) → h'.objs.size = s.heap.objs.size + 1 →
      (∀ c o, c ≠ z → c ≠ TO → c ≠ i1 → c ≠ i2 → s.heap.get? c = some o → h'.get? c = some o) → Q (some (.ref s.heap.objs.size)) { s with heap := h', toks := tk }) :
    wpAny (model prog w) A (pyNext (.ref z)) Q E s := by
  have hT : s.TypeIs (.ref z) "zip" := ⟨_, hz, rfl⟩
  unfold pyNext
  exact wpAny_bind (wpAny_attempt (wpAny_callSpecial?_slot (name := Str.ofString "__next__") hT F.slot_zip_next
    (wpAny_call_entry F.slot_zip_next hT F.entry_zip_next
      (zipS_next_item D hz hTI hTO h1 h2 hx hy fun h' u1 u2 tk a1 a2 a3 a4 a5 a6 a7 => wpAny_pure (hQ h' u1 u2 tk a1 a2 a3 a4 a5 a6 a7)) (F.args_zip_next_1 _))))
theorem pyNext_zipS_end {z TI TO i1 i2 : Addr} {k1 k2 : Nat} {a b : Value} {Q : Option Value → Shared → Prop} (hh : A.handled = none) (D : Ap z TI TO i1 i2)
    (hz : IsZip s.heap z TI TO .none) (hTI : IsPair s.heap TI (.ref i1) (.ref i2)) (hTO : IsPair s.heap TO a b)
    (h1 : s.heap.IsStrIter i1 SA x t k1) (h2 : s.heap.IsStrIter i2 SA y u k2) (hend : x.cps[k1]? = none ∨ y.cps[k2]? = none)
    (hQ : ∀ h' tk, (∀ c o, c ≠ z → c ≠ TO → c ≠ i1 → c ≠ i2 → s.heap.get? c = some o → h'.get? c = some o) → Q none { s with heap := h', toks := tk }) : wpAny (model prog w) A (pyNext (.ref z)) Q E s := by
  have hT : s.TypeIs (.ref z) "zip" := ⟨_, hz, rfl⟩
  unfold pyNext
  refine wpAny_bind (wpAny_attempt (wpAny_callSpecial?_slot (name := Str.ofString "__next__") hT F.slot_zip_next
    (wpAny_call_entry F.slot_zip_next hT F.entry_zip_next (zipS_next_end hh D hz hTI hTO h1 h2 hend fun h' e tk hk he => ?_) (F.args_zip_next_1 _))))
  obtain ⟨o, ho, hc⟩ := he
  refine wpAny_bind (wpAny_isInstance (T := "StopIteration") (b := true) ⟨o, ho, hc⟩ isSubtype_stop ?_)
  exact wpAny_pure (hQ _ _ hk)
end
abbrev it0 (x : Str) (t : Tok) : Obj := { cls := .type SA, data := .fields #[.str x t, .int 0 0] }
abbrev zH1 (h : Heap) (x : Str) (t : Tok) : Heap := h.push (it0 x t)
abbrev zH2 (h : Heap) (x : Str) (t : Tok) (y : Str) (u : Tok) : Heap := (zH1 h x t).push (it0 y u)
abbrev zH3 (h : Heap) (x : Str) (t : Tok) (y : Str) (u : Tok) : Heap := (zH2 h x t y u).push { cls := .type "tuple", data := .seq #[.ref h.objs.size, .ref (zH1 h x t).objs.size] }
abbrev zH4 (h : Heap) (x : Str) (t : Tok) (y : Str) (u : Tok) : Heap := (zH3 h x t y u).push { cls := .type "tuple", data := .seq #[.none, .none] }
abbrev zH5 (h : Heap) (x : Str) (t : Tok) (y : Str) (u : Tok) : Heap := (zH4 h x t y u).push { cls := .type "zip", data := .fields #[.none, .bool false, .bool false, .ref (zH2 h x t y u).objs.size, .ref (zH3 h x t y u).objs.size] }
theorem meets_zipS_new (x : Str) (t : Tok) (y : Str) (u : Tok) (ha : x.cps.all (· < 128) = true) (hb : y.cps.all (· < 128) = true) :
    Meets (Builtin.«zip.__new__» ⟨[.type "zip", .str x t, .str y u], []⟩) (fun _ R s =>
      R (.ok (.ret (.ref (zH4 s.heap x t y u).objs.size))) { s with heap := zH5 s.heap x t y u }) :=
  .of_wp fun prog w A R s h => by
    obtain ⟨hp, g, d, tk, os⟩ := s
    have hsub := sub_zip
    wp_walk using wpAny_pyIter_ascii ha, wpAny_pyIter_ascii hb
    exact ⟨_, rfl, h⟩
section
variable {prog : Program} {w : World} {A : Around} {E : Value → Shared → Prop} {s : Shared} {x y : Str} {t u : Tok}
theorem call_zipS {Q : Value → Shared → Prop} (ha : x.cps.all (· < 128) = true) (hb : y.cps.all (· < 128) = true)
    (h : ∀ h', IsZip h' (s.heap.objs.size + 4) (s.heap.objs.size + 2) (s.heap.objs.size + 3) .none → IsPair h' (s.heap.objs.size + 2) (.ref s.heap.objs.size) (.ref (s.heap.objs.size + 1)) →
      IsPair h' (s.heap.objs.size + 3) .none .none → h'.IsStrIter s.heap.objs.size SA x t 0 → h'.IsStrIter (s.heap.objs.size + 1) SA y u 0 → h'.objs.size = s.heap.objs.size + 5 →
      (∀ c o, s.heap.get? c = some o → h'.get? c = some o) → Q (.ref (s.heap.objs.size + 4)) { s with heap := h' }) :
    wpAny (model prog w) A (call (.type "zip") [.str x t, .str y u]) Q E s := by
  refine callType_new F.called_zip (by decide) (F.typeCall_zip_2 _ _) (F.newCall_zip_2 _ _) (fun obj => F.args_object_init_3 obj _ _) F.entry_zip_new
    (meets_zipS_new x t y u ha hb) ?_
  have z1 : (zH1 s.heap x t).objs.size = s.heap.objs.size + 1 := Heap.size_push ..
  have z2 : (zH2 s.heap x t y u).objs.size = s.heap.objs.size + 2 := by rw [Heap.size_push, z1]
  have z3 : (zH3 s.heap x t y u).objs.size = s.heap.objs.size + 3 := by rw [Heap.size_push, z2]
  have z4 : (zH4 s.heap x t y u).objs.size = s.heap.objs.size + 4 := by rw [Heap.size_push, z3]
  have z5 : (zH5 s.heap x t y u).objs.size = s.heap.objs.size + 5 := by rw [Heap.size_push, z4]
  have g5 : (zH5 s.heap x t y u).get? (zH4 s.heap x t y u).objs.size = some _ := Heap.get?_push_size _ rfl
  have g4 : (zH5 s.heap x t y u).get? (zH3 s.heap x t y u).objs.size = some _ := Heap.get?_push_of_some _ (Heap.get?_push_size _ rfl)
  have g3 : (zH5 s.heap x t y u).get? (zH2 s.heap x t y u).objs.size = some _ := Heap.get?_push_of_some _ (Heap.get?_push_of_some _ (Heap.get?_push_size _ rfl))
  have g2 : (zH5 s.heap x t y u).get? (zH1 s.heap x t).objs.size = some _ := Heap.get?_push_of_some _ (Heap.get?_push_of_some _ (Heap.get?_push_of_some _ (Heap.get?_push_size _ rfl)))
  have g1 : (zH5 s.heap x t y u).get? s.heap.objs.size = some _ := Heap.get?_push_of_some _ (Heap.get?_push_of_some _ (Heap.get?_push_of_some _ (Heap.get?_push_of_some _ (Heap.get?_push_size _ rfl))))
  show _ ∧ _
  rw [z2, z3, z4] at g5
  rw [z1, z2] at g3
  rw [z3] at g4
  rw [z1] at g2
  rw [z4]
  exact ⟨⟨_, g5, rfl⟩, h _ g5 g3 g4 ⟨_, g1, rfl, rfl⟩ ⟨_, g2, rfl, rfl⟩ z5 fun c o x =>
    Heap.get?_push_of_some _ (Heap.get?_push_of_some _ (Heap.get?_push_of_some _ (Heap.get?_push_of_some _ (Heap.get?_push_of_some _ x))))⟩
end
/-- the signs of two texts, in new pairs -/
def ItzS (x y : Str) : It :=
  ⟨fun i H => i < x.cps.size ∧ i < y.cps.size,
    fun i H v H' => ∃ T c d, v = .ref T ∧ H T = none ∧ H' = upd H T (.tup [.str ⟨#[c]⟩, .str ⟨#[d]⟩]) ∧ x.cps[i]? = some c ∧ y.cps[i]? = some d,
    fun i H => x.cps.size ≤ i ∨ y.cps.size ≤ i⟩
theorem turn_zipS {P : Program} {w : World} {K : PySem.W.Frag} {elts : List Expr} {kk : Nat} {tpos : Pos} {x y : Str} {t u : Tok} {z TI TO i1 i2 : Addr} (D : Ap z TI TO i1 i2) :
    Turn P w K (.Tuple elts kk tpos) (ItzS x y) [z, TI, TO, i1, i2] z (fun i h => IsZip h z TI TO .none ∧ IsPair h TI (.ref i1) (.ref i2) ∧ (∃ x y, IsPair h TO x y) ∧ h.IsStrIter i1 SA x t i ∧ h.IsStrIter i2 SA y u i) where
  mem := by simp
  obj := fun i h st c hc => by
    obtain ⟨hz, hTI, ⟨x, y, hTO⟩, ⟨o1, e1, _, d1⟩, ⟨o2, e2, _, d2⟩⟩ := st
    have e' : c = z ∨ c = TI ∨ c = TO ∨ c = i1 ∨ c = i2 := by simpa using hc
    rcases e' with q | q | q | q | q
    · rw [q]; exact ⟨_, hz, fun v q => nomatch q⟩
    · rw [q]; exact ⟨_, hTI, fun v q => nomatch q⟩
    · rw [q]; exact ⟨_, hTO, fun v q => nomatch q⟩
    · rw [q]; exact ⟨o1, e1, fun v q => by rw [d1] at q; cases q⟩
    · rw [q]; exact ⟨o2, e2, fun v q => by rw [d2] at q; cases q⟩
  keep := fun i h h' st k => by
    obtain ⟨hz, hTI, ⟨x, y, hTO⟩, h1, h2⟩ := st
    exact ⟨k z (by simp) _ hz, k TI (by simp) _ hTI, ⟨x, y, k TO (by simp) _ hTO⟩, si_at h1 fun o q => k i1 (by simp) o q, si_at h2 fun o q => k i2 (by simp) o q⟩
  item := by
    intro X hP hw hK hc i pins s σ H E I hf st hg
    subst hP hw hK
    obtain ⟨hz, hTI, ⟨x0, y0, hTO⟩, h1, h2⟩ := st
    obtain ⟨hlx, hly⟩ := hg
    have hx : x.cps[i]? = some x.cps[i] := Array.getElem?_eq_getElem hlx
    have hy : y.cps[i]? = some y.cps[i] := Array.getElem?_eq_getElem hly
    generalize x.cps[i] = c0 at hx
    generalize y.cps[i] = d0 at hy
    have hzl : z < s.heap.objs.size := Heap.lt_size hz
    refine pyNext_zipS_item D hz hTI hTO h1 h2 hx hy fun h' u1 u2 tk z' TO' h1' h2' hT hsz hk => ?_
    refine ⟨_, rfl, wpAny_letOwnedTupleGo_zip (s := { s with heap := h', toks := tk }) z' fun h'' z'' sb => ?_⟩
    have hT2 : h''.get? s.heap.objs.size = some { cls := .type "tuple", data := .seq #[.str ⟨#[c0]⟩ u1, .str ⟨#[d0]⟩ u2] } := (sb.2 _ (Nat.ne_of_gt hzl)).trans hT
    have new : ObjOk X.prog X.w (upd H s.heap.objs.size (.tup [.str ⟨#[c0]⟩, .str ⟨#[d0]⟩])) h'' s.heap.objs.size (.tup [.str ⟨#[c0]⟩, .str ⟨#[d0]⟩]) :=
      ⟨by show 2 ≤ sizeLine; decide, [.str ⟨#[c0]⟩ u1, .str ⟨#[d0]⟩ u2], .cons ⟨u1, rfl⟩ (.cons ⟨u2, rfl⟩ .nil), ⟨_, hT2, rfl, _, rfl⟩⟩
    have I1 : Inv X pins σ (upd H s.heap.objs.size (.tup [.str ⟨#[c0]⟩, .str ⟨#[d0]⟩])) { s with heap := h'', toks := tk } :=
      I.turnedNew (t' := tk) (ch := [z, TI, TO, i1, i2]) (fun c o hb q => (sb.2 c (fun q' => hb (by simp [q']))).trans (hk c o (fun q' => hb (by simp [q'])) (fun q' => hb (by simp [q'])) (fun q' => hb (by simp [q'])) (fun q' => hb (by simp [q'])) q)) hf (Nat.le_refl _) new
    refine ⟨.ref s.heap.objs.size, _, I1, rfl, ⟨_, c0, d0, rfl, I.hok.fresh (Nat.le_refl _), rfl, hx, hy⟩, ⟨z'', ?_, ⟨.str ⟨#[c0]⟩ u1, .str ⟨#[d0]⟩ u2, ?_⟩, ?_, ?_⟩, fun c hcm => ?_⟩
    · exact (sb.2 _ D.TIz).trans (hk _ _ D.TIz D.TITO D.TIi1 D.TIi2 hTI)
    · exact (sb.2 _ D.TOz).trans TO'
    · exact si_at h1' fun o q => (sb.2 _ D.i1z).trans q
    · exact si_at h2' fun o q => (sb.2 _ D.i2z).trans q
    · have hlt : c < s.heap.objs.size := by
        have e' : c = z ∨ c = TI ∨ c = TO ∨ c = i1 ∨ c = i2 := by simpa using hcm
        rcases e' with q | q | q | q | q
        · rw [q]; exact hzl
        · rw [q]; exact Heap.lt_size hTI
        · rw [q]; exact Heap.lt_size hTO
        · rw [q]; obtain ⟨_, e1, _⟩ := h1; exact Heap.lt_size e1
        · rw [q]; obtain ⟨_, e2, _⟩ := h2; exact Heap.lt_size e2
      rw [upd_ne (Nat.ne_of_lt hlt)]
      exact (hf c hcm).1
  done := by
    intro X hP hw hK hc i pins s σ H E I hf st hg
    subst hP hw hK
    obtain ⟨hz, hTI, ⟨x0, y0, hTO⟩, h1, h2⟩ := st
    have he : x.cps[i]? = none ∨ y.cps[i]? = none := by
      rcases hg with q | q
      · exact .inl (Array.getElem?_eq_none q)
      · exact .inr (Array.getElem?_eq_none q)
    exact pyNext_zipS_end (I.ok.hd hc) D hz hTI hTO h1 h2 he fun h' tk hk => ⟨rfl, I.turnedL (t' := tk) (ch := [z, TI, TO, i1, i2]) (fun c o hb q =>
      hk c o (fun q' => hb (by simp [q'])) (fun q' => hb (by simp [q'])) (fun q' => hb (by simp [q'])) (fun q' => hb (by simp [q'])) q) hf⟩
  self := fun A i s Q E st h => wpAny_pyIter_zip st.1 h
def iZipS (ta : TA) : TI := fun σ H R => ta σ H fun vs H1 => ∃ x y : Str, vs = [.str x, .str y] ∧ x.cps.all (· < 128) = true ∧ y.cps.all (· < 128) = true ∧ R (ItzS x y) H1
theorem pi_zipS {X : Cx} {e e2 : Expr} {ta : TA} {p pos tpos : Pos} {elts : List Expr} {kk : Nat} (hg : Gl X "zip") (hm : X.mg "zip" = none) (ha : PA X [e, e2] ta)
    (hs : starEach [e, e2] X.env = (false, eval e X.env) :: starEach [e2] X.env := by rfl) (hpl : (backTo pos (starEach [e2] X.env)).any (·.1) = false := by rfl) :
    PI X (.Tuple elts kk tpos) (.Call (.Name "zip" p) [e, e2] [] pos) (iZipS ta) := by
  refine ⟨fun pins s σ H R I h => ?_⟩
  refine Call_ (ld_blt I hg hm PyProof.Rows.boot_zip (PyProof.Rows.callWith_type1 (thn (ha.run pos pins s σ H _ I h) fun us s1 ⟨vs, H1, I1, r1, q1⟩ => ?_) hs hpl))
  obtain ⟨x, y, ex, ax, ay, q⟩ := q1
  subst ex
  cases r1 with
  | cons r rr =>
    cases rr with
    | cons r' rr =>
      cases rr
      obtain ⟨t, rfl⟩ := r
      obtain ⟨u, rfl⟩ := r'
      have fresh5 : ∀ c, c ∈ [s1.heap.objs.size + 4, s1.heap.objs.size + 2, s1.heap.objs.size + 3, s1.heap.objs.size, s1.heap.objs.size + 1] → FpOk X pins H1 c := fun c hcm => by
        have e' : c = s1.heap.objs.size + 4 ∨ c = s1.heap.objs.size + 2 ∨ c = s1.heap.objs.size + 3 ∨ c = s1.heap.objs.size ∨ c = s1.heap.objs.size + 1 := by simpa using hcm
        have hle : s1.heap.objs.size ≤ c := by
          rcases e' with z | z | z | z | z
          · rw [z]; exact Nat.le_add_right _ _
          · rw [z]; exact Nat.le_add_right _ _
          · rw [z]; exact Nat.le_add_right _ _
          · rw [z]; exact Nat.le_refl _
          · rw [z]; exact Nat.le_add_right _ _
        exact I1.fpOk hle (I1.hok.fresh hle)
      refine call_zipS ax ay fun h' hz hTI hTO h1 h2 hsz hk => wpAny_pyIter_zip hz ?_
      have I2 : Inv X pins σ H1 { s1 with heap := h' } := I1.kept (t' := s1.toks) hk
      exact ⟨s1.heap.objs.size + 4, [s1.heap.objs.size + 4, s1.heap.objs.size + 2, s1.heap.objs.size + 3, s1.heap.objs.size, s1.heap.objs.size + 1], _, _, H1, rfl, I2, turn_zipS (ap s1.heap.objs.size), ⟨hz, hTI, ⟨_, _, hTO⟩, h1, h2⟩, fresh5, q⟩
end VZS
namespace VS
open PySem L2 PyProof.Rows VZS RZ
variable [TabT]
section
variable {K : PySem.W.Frag} {mg : Str → Option Value} {F : Hp}
theorem wd_zipS {s t : List Nat} (ok : OkS s) (ok2 : OkS t) : WalkD K mg (ItzS ⟨s.toArray⟩ ⟨t.toArray⟩) F (zipD (signsD s) (signsD t)) where
  goes := fun i H hi hs => by
    have : i < min s.length t.length := by simpa [zipD, signsD] using hi
    exact ⟨by simpa using (by omega : i < s.length), by simpa using (by omega : i < t.length)⟩
  stops := fun H hs => by
    show _ ∨ _
    simp [zipD, signsD]
    omega
  yields := fun i H x H' F' hi hy hf hs => by
    obtain ⟨T, c, d, rfl, hT, rfl, hc, hd⟩ := hy
    have hc' : s[i]? = some c := by simpa using hc
    have hd' : t[i]? = some d := by simpa using hd
    have rd : ∀ (z : List Nat) (k : Nat), OkS z → z[i]? = some k → RD K mg F' (.str [k]) (.str ⟨#[k]⟩) := fun z k ok h => by
      simp only [RD]
      refine ⟨trivial, by show 1 ≤ sizeLine; decide, fun c' hc'' => ?_⟩
      have : c' = k := by simpa using hc''
      rw [this]
      exact ok.2 k (List.mem_of_getElem? h)
    obtain ⟨F2, g, rdp⟩ := pair_rd (K := K) (mg := mg) hs hT (rd s c ok hc') (rd t d ok2 hd')
    exact ⟨F2, .tup [.str [c], .str [d]], by
      have e1 : (signsD s)[i]? = some (D.str [c]) := by simp [signsD, hc']
      have e2 : (signsD t)[i]? = some (D.str [d]) := by simp [signsD, hd']
      simp only [zipD, List.getElem?_map, List.getElem?_zip_eq_some (z := (D.str [c], D.str [d])) |>.mpr ⟨e1, e2⟩, Option.map_some], g, rdp⟩
end
def zipE (Γ : VEnv) : List D → Option (List D × VEnv)
  | [.lst xs, .lst ys] => some (zipD xs ys, Γ)
  | [.tup xs, .tup ys] => some (zipD xs ys, Γ)
  | [.str s, .str t] => if s.all (· < 128) = true ∧ t.all (· < 128) = true then some (zipD (signsD s) (signsD t), Γ) else none
  | _ => none
def miZip2 (ml : ML) : MI := fun Γ => (ml Γ).bind fun p => (freezeL p.1 p.2).bind fun q => zipE q.2 q.1
section
variable {X : Cx} {e tg : Expr} {es : List Expr} {m : M} {ml : ML} {p pos : Pos}
theorem vi_zip2 {e2 : Expr} {elts : List Expr} {kk : Nat} {tpos : Pos} (hm : X.mg "zip" = none) (ha : VA X [e, e2] ml) (hg : Gl X "zip" := by rfl) (hs : starEach [e, e2] X.env = (false, eval e X.env) :: starEach [e2] X.env := by rfl) (hpl : (backTo pos (starEach [e2] X.env)).any (·.1) = false := by rfl) :
    VI X (.Tuple elts kk tpos) (.Call (.Name "zip" p) [e, e2] [] pos) (miZip2 ml) := by
  refine pi_of (PI.or (pi_zipA hg hm ha hs hpl) (pi_zipS hg hm ha hs hpl)) fun σ H R h => ?_
  obtain ⟨ρ, O, Γ, F, ds, Γ', Rp, e, k⟩ := h
  obtain ⟨⟨rs, Γ1⟩, e1, e⟩ := obind e
  obtain ⟨⟨fs, Γ2⟩, e2, e⟩ := obind e
  unfold zipE at e
  split at e
  · rename_i xs ys hj
    simp only at hj
    subst hj
    cases e
    refine .inl (tL_run Rp e1 fun vs H1 F1 s1 c1 r1 => ?_)
    obtain ⟨F2, R2, s2, rd, c2⟩ := freezeL_ok s1.rep r1 e2
    simp only [RDs, RD] at rd
    obtain ⟨v, r, rfl, ⟨a, ws, rfl, h1, h2⟩, u, q, rfl, ⟨b, us, rfl, h3, h4⟩, rfl⟩ := rd
    exact ⟨a, b, ws, us, rfl, .inl ⟨R2.le.seq h1, R2.le.seq h3, k _ H1 F2 ⟨R2, s1.fs.trans s2, s1.op⟩ (c1.trans c2) (wd_zipL h1 h2 h3 h4)⟩⟩
  · rename_i xs ys hj
    simp only at hj
    subst hj
    cases e
    refine .inl (tL_run Rp e1 fun vs H1 F1 s1 c1 r1 => ?_)
    obtain ⟨F2, R2, s2, rd, c2⟩ := freezeL_ok s1.rep r1 e2
    simp only [RDs, RD] at rd
    obtain ⟨v, r, rfl, ⟨a, ws, rfl, h1, h2⟩, u, q, rfl, ⟨b, us, rfl, h3, h4⟩, rfl⟩ := rd
    exact ⟨a, b, ws, us, rfl, .inr ⟨sqT_mono R2.le h1, sqT_mono R2.le h3, k _ H1 F2 ⟨R2, s1.fs.trans s2, s1.op⟩ (c1.trans c2) (wd_zipT h1 h2 h3 h4)⟩⟩
  · rename_i xs ys hj
    simp only at hj
    subst hj
    split at e
    · rename_i hall
      cases e
      refine .inr (tL_run Rp e1 fun vs H1 F1 s1 c1 r1 => ?_)
      obtain ⟨F2, R2, s2, rd, c2⟩ := freezeL_ok s1.rep r1 e2
      simp only [RDs, RD] at rd
      obtain ⟨v, r, rfl, ⟨rfl, ok1⟩, u, q, rfl, ⟨rfl, ok2⟩, rfl⟩ := rd
      exact ⟨_, _, rfl, by simpa using hall.1, by simpa using hall.2, k _ H1 F2 ⟨R2, s1.fs.trans s2, s1.op⟩ (c1.trans c2) (wd_zipS ok1 ok2)⟩
    · cases e
  · cases e
end
end VS

set_option Elab.async false
set_option linter.all false
set_option maxRecDepth 100000
set_option maxHeartbeats 4000000
/-! ### a text within a text -/
namespace VS
open PySem L2 PyProof.Rows
variable [TabT]
def infx (s : List Nat) : List Nat → Bool
  | [] => s.isEmpty
  | c :: t => s.isPrefixOf (c :: t) || infx s t
theorem infx_iff (s : List Nat) : ∀ t, infx s t = true ↔ s <:+: t
  | [] => by
    simp only [infx, List.isEmpty_iff]
    exact ⟨fun h => by rw [h]; exact List.infix_refl _, fun h => List.infix_nil.mp h⟩
  | c :: t => by
    simp only [infx, Bool.or_eq_true, List.isPrefixOf_iff_prefix, infx_iff s t]
    rw [List.infix_cons_iff]
theorem hasT_infx (s t : List Nat) : (!(Builtin.Str.occurrences ⟨t.toArray⟩ ⟨s.toArray⟩ 0 (Str.length ⟨t.toArray⟩) 1).isEmpty) = infx s t := by
  rw [Bool.eq_iff_iff, StrLaws.found_iff, infx_iff]
  have l1 : (Str.length ⟨s.toArray⟩) = s.length := by simp [Str.length]
  have l2 : (Str.length ⟨t.toArray⟩) = t.length := by simp [Str.length]
  rw [l1, l2]
  constructor
  · rintro ⟨i, hi, hs⟩
    rw [subAt_iff, beq_iff_eq] at hs
    rw [← hs]
    exact (List.take_prefix _ _).isInfix.trans (List.drop_suffix _ _).isInfix
  · rintro ⟨a, b, h⟩
    refine ⟨a.length, ?_, ?_⟩
    · rw [← h]; simp
    · rw [subAt_iff, beq_iff_eq, ← h]; simp
def hasS : D → D → Option Bool
  | .str s, .str t => some (infx s t)
  | _, _ => none
def inE (d e : D) : Option Bool := match inD d e with
  | some b => some b
  | none => hasS d e
section
variable {X : Cx}
theorem oc_inE (hu : X.A.units + 65 < cLine) : OpC X (compareOp .In) inE := by
  obtain ⟨r0, o0, b0⟩ := oc_in hu
  refine ⟨_, op_in_str.or o0, fun F H x y d e res Q hl rx ry hg k => ?_⟩
  unfold inE at hg
  split at hg
  · rename_i b hb
    cases hg
    exact .inr (b0 F H x y d e _ Q hl rx ry hb k)
  · unfold hasS at hg
    split at hg
    · rename_i s t
      cases hg
      obtain ⟨rfl, _⟩ := rx.str
      obtain ⟨rfl, _⟩ := ry.str
      refine .inl ⟨_, _, rfl, rfl, ?_⟩
      rw [hasT_infx]
      exact k
    · cases hg
theorem oc_notInE (hu : X.A.units + 65 < cLine) : OpC X (compareOp .NotIn) (notD inE) := by
  obtain ⟨r0, o0, b0⟩ := oc_notIn hu
  refine ⟨_, op_notin_str.or o0, fun F H x y d e res Q hl rx ry hg k => ?_⟩
  obtain ⟨b, hg', rfl⟩ := omap hg
  unfold inE at hg'
  split at hg'
  · rename_i b' hb
    cases hg'
    exact .inr (b0 F H x y d e _ Q hl rx ry (by simp only [notD, hb, Option.map_some]) k)
  · unfold hasS at hg'
    split at hg'
    · rename_i s t
      cases hg'
      obtain ⟨rfl, _⟩ := rx.str
      obtain ⟨rfl, _⟩ := ry.str
      refine .inl ⟨_, _, rfl, rfl, ?_⟩
      rw [hasT_infx]
      exact k
    · cases hg'
end
end VS

set_option Elab.async false
set_option linter.all false
set_option maxRecDepth 100000
/-! ### zip in the typed functions -/
namespace VS
open PySem L2 PyProof.Rows
@[simp] theorem miZip2_e {ml : ML} {Γ : VEnv} : miZip2 ml Γ = (ml Γ).bind fun p => (freezeL p.1 p.2).bind fun q => zipE q.2 q.1 := rfl
def zipST (s t : List Nat) : Option (List (List Nat × List Nat)) := if s.all (· < 128) = true ∧ t.all (· < 128) = true then some ((signsT s).zip (signsT t)) else none
section
variable {α β : Type} {e : α → D} {f : β → D} {xs : List α} {ys : List β} {ml : ML} {rs : List EV} {Γ Γ1 Γ2 : VEnv}
theorem i_zip2 (h1 : ml Γ = some (rs, Γ1)) (h2 : freezeL rs Γ1 = some ([eL e xs, eL f ys], Γ2)) : miZip2 ml Γ = some ((xs.zip ys).map (eP2 e f), Γ2) := by
  simp only [miZip2, h1, h2, Option.bind_some]
  show some (zipD (xs.map e) (ys.map f), Γ2) = _
  rw [zip_e]
theorem i_zip2T (h1 : ml Γ = some (rs, Γ1)) (h2 : freezeL rs Γ1 = some ([eT e xs, eT f ys], Γ2)) : miZip2 ml Γ = some ((xs.zip ys).map (eP2 e f), Γ2) := by
  simp only [miZip2, h1, h2, Option.bind_some]
  show some (zipD (xs.map e) (ys.map f), Γ2) = _
  rw [zip_e]
theorem i_zip2S {s t : List Nat} {zs : List (List Nat × List Nat)} (h1 : ml Γ = some (rs, Γ1)) (h2 : freezeL rs Γ1 = some ([.str s, .str t], Γ2)) (h3 : zipST s t = some zs) : miZip2 ml Γ = some (zs.map (eP2 D.str D.str), Γ2) := by
  simp only [miZip2, h1, h2, Option.bind_some]
  unfold zipST at h3
  split at h3
  · rename_i h
    cases h3
    show (if _ then some (zipD (signsD s) (signsD t), Γ2) else none) = _
    rw [if_pos h, signs_e, signs_e, zip_e]
  · cases h3
end
end VS

set_option Elab.async false
set_option linter.all false
set_option maxRecDepth 100000
/-! ### mKeep where a cell is not known -/
namespace VS
open PySem L2 PyProof.Rows
variable [TabT]
def hideQ : Qc → Qc
  | .own _ => .un
  | q => q
theorem unC_q (q : Qc) : unC (q2c q) = q2c (hideQ q) := by cases q <;> rfl
theorem unC_v (d : D) : unC (.val d) = .val d := rfl
theorem unC_o (d : D) : unC (.own d) = .un := rfl
theorem unC_n : unC .un = .un := rfl
theorem valC_o (d : D) : valC (.own d) = .val d := rfl
theorem noPar_v (d : D) (cs : List Cell) : noPar (.val d :: cs) = noPar cs := rfl
theorem noPar_o (d : D) (cs : List Cell) : noPar (.own d :: cs) = noPar cs := rfl
theorem noPar_n (cs : List Cell) : noPar (.un :: cs) = noPar cs := rfl
theorem noPar_0 : noPar [] = true := rfl
theorem noPar_q (q : Qc) (cs : List Cell) : noPar (q2c q :: cs) = noPar cs := by cases q <;> rfl
theorem q_keepQ {i : Nat} {m : M} {sl sl' : List Cell} {st : List SC} {d : D} {r : EV} {Γ1 : VEnv} (hi : sl[i]? = some (.own d)) (hp : noPar sl = true) (hk : keepSl i sl = sl') (h : m ⟨sl', []⟩ = some (r, Γ1)) (hf : lfR r = true) : mKeep i m ⟨sl, st⟩ = some (r, ⟨sl, st⟩) := by
  subst hk
  exact q_keep hi hp h hf
end VS
namespace VS
open PySem L2 PyProof.Rows
/-- a cell of a loop's target -/
inductive Qv where
  | un | val (d : D)
def q2v : Qv → Cell
  | .un => .un
  | .val d => .val d
theorem unlend_q2v (n : Nat) (st : List SC) (q : Qv) : unlend n st (q2v q) = q2v q := by cases q <;> rfl
theorem nl_w {n : Nat} {q : Qv} {cs : List Cell} (h : NL n cs) : NL n (q2v q :: cs) := fun st => by rw [List.map_cons, h st, unlend_q2v]
theorem unC_w (q : Qv) : unC (q2v q) = q2v q := by cases q <;> rfl
theorem noPar_w (q : Qv) (cs : List Cell) : noPar (q2v q :: cs) = noPar cs := by cases q <;> rfl
end VS

set_option Elab.async false
set_option linter.all false
set_option maxRecDepth 100000
set_option maxHeartbeats 4000000
/-! ### repr(x), x a list or a tuple of data, where no repr is under way -/
namespace VS
open PySem L2 PyProof.Rows
variable [TabT]
/-! the text's signs -/
def OkC (s : Str) : Prop := ∀ c ∈ s.cps.toList, c < 1114112
theorem okC_app {s t : Str} (h : OkC s) (g : OkC t) : OkC (s ++ t) := by
  intro c hc
  have e : (s ++ t).cps = s.cps ++ t.cps := rfl
  rw [e, Array.toList_append, List.mem_append] at hc
  exact hc.elim (h c) (g c)
theorem char_lt (c : Char) : c.toNat < 1114112 := by
  have := c.valid
  show c.val.toNat < 1114112
  rcases this with h | ⟨_, h⟩
  · exact Nat.lt_trans h (by decide)
  · exact h
theorem okC_of (s : String) : OkC (Str.ofString s) := by
  intro c hc
  have e : (Str.ofString s).cps.toList = s.toList.map Char.toNat := by
    rw [Str.ofString_eq_toList]
  rw [e] at hc
  obtain ⟨k, _, rfl⟩ := List.mem_map.mp hc
  exact char_lt k
theorem okC_from : ∀ (ts : List Str) (k : Nat) (acc : Str), OkC acc → (∀ t ∈ ts, OkC t) → OkC (textFrom k acc ts)
  | [], k, acc, h, _ => h
  | t :: ts, k, acc, h, g => okC_from ts (k + 1) _ (okC_app (okC_app h (okC_of _)) (g t List.mem_cons_self)) fun u hu => g u (List.mem_cons_of_mem _ hu)
theorem okC_join (sep : Str) (hs : OkC sep) : ∀ (ts : List Str), (∀ t ∈ ts, OkC t) → OkC (Str.join sep ts)
  | [], _ => by intro c hc; cases hc
  | [x], g => g x List.mem_cons_self
  | x :: y :: r, g => okC_app (okC_app (g x List.mem_cons_self) hs) (okC_join sep hs (y :: r) fun u hu => g u (List.mem_cons_of_mem _ hu))
theorem okC_char {q c : Nat} (hq : q < 1114112) (hc : c < 1114112) : ∀ k ∈ Builtin.Str.reprChar q c, k < 1114112 := by
  intro k hk
  unfold Builtin.Str.reprChar at hk
  have hex : ∀ w, k ∈ (let d := (Nat.toDigits 16 c).map Char.toNat; List.replicate (w - d.length) 48 ++ d) → k < 1114112 := fun w h => by
    rcases List.mem_append.mp h with h | h
    · rw [List.eq_of_mem_replicate h]; decide
    · obtain ⟨z, _, rfl⟩ := List.mem_map.mp h
      exact char_lt z
  simp only at hk
  repeat' split at hk
  all_goals first
    | (simp only [List.mem_cons, List.mem_nil_iff, or_false] at hk; rcases hk with rfl | rfl <;> first | exact hc | decide)
    | (simp only [List.mem_cons, List.mem_nil_iff, or_false] at hk; subst hk; exact hc)
    | (rcases List.mem_append.mp hk with h | h
       · simp only [List.mem_cons, List.mem_nil_iff, or_false] at h; rcases h with rfl | rfl <;> decide
       · exact hex _ h)
theorem okC_repr {x : Str} (h : OkC x) : OkC (reprText x) := by
  have hq : reprQuote x < 1114112 := by unfold reprQuote; split <;> decide
  have fold : ∀ (l : List Nat) (acc : Array Nat), (∀ c ∈ l, c < 1114112) → (∀ c ∈ acc.toList, c < 1114112) → ∀ c ∈ (l.foldl (fun out c => out ++ (Builtin.Str.reprChar (reprQuote x) c).toArray) acc).toList, c < 1114112 := by
    intro l
    induction l with
    | nil => intro acc _ h2; exact h2
    | cons a r ih =>
      intro acc h1 h2
      refine ih _ (fun c hc => h1 c (List.mem_cons_of_mem _ hc)) fun c hc => ?_
      rw [Array.toList_append, List.mem_append] at hc
      exact hc.elim (h2 c) (okC_char hq (h1 a List.mem_cons_self) c)
  intro c hc
  unfold reprText at hc
  rw [Array.toList_push, ← Array.foldl_toList, List.mem_append] at hc
  rcases hc with hc | hc
  · exact fold x.cps.toList #[reprQuote x] h (fun c hc => by simp at hc; rw [hc]; exact hq) c hc
  · rw [List.mem_singleton.mp hc]; exact hq
/-! what is shown -/
mutual
def smallD : D → Bool
  | .non => true
  | .bl _ => true
  | .int i => decide (-999999999999 ≤ i) && decide (i ≤ 999999999999)
  | .str s => s.all (· < 1114112)
  | .tup xs => smallDs xs
  | .lst xs => smallDs xs
  | _ => false
def smallDs : List D → Bool
  | [] => true
  | x :: xs => smallD x && smallDs xs
end
mutual
theorem okC_shown : ∀ d : D, smallD d = true → OkC (toPy d).shown
  | .non, _ => okC_of _
  | .bl b, _ => by
    simp only [toPy, PyData.shown]
    cases b <;> exact okC_of _
  | .int i, _ => by
    simp only [toPy, PyData.shown]
    exact okC_of _
  | .str s, h => by
    simp only [toPy, PyData.shown]
    refine okC_repr fun c hc => ?_
    simp only [smallD, List.all_eq_true, decide_eq_true_eq] at h
    exact h c (by simpa using hc)
  | .tup xs, h => by
    have ih := okC_showns xs (by simpa only [smallD] using h)
    simp only [toPy, PyData.shown]
    unfold tupleText
    exact okC_app (okC_app (okC_of _) (okC_join _ (okC_of _) _ ih)) (okC_of _)
  | .lst xs, h => by
    have ih := okC_showns xs (by simpa only [smallD] using h)
    simp only [toPy, PyData.shown]
    unfold listText
    exact okC_app (okC_from _ _ _ (okC_of _) ih) (okC_of _)
  | .dict _, h => by simp [smallD] at h
  | .dicT _, h => by simp [smallD] at h
  | .ty _, h => by simp [smallD] at h
  | .fn _, h => by simp [smallD] at h
theorem okC_showns : ∀ xs : List D, smallDs xs = true → ∀ t ∈ PyData.shownAll (toPys xs), OkC t
  | [], _ => by simp only [toPys, PyData.shownAll]; intro t h; cases h
  | x :: xs, h => by
    simp only [smallDs, Bool.and_eq_true] at h
    have a := okC_shown x h.1
    have b := okC_showns xs h.2
    simp only [toPys, PyData.shownAll]
    intro t ht
    rcases List.mem_cons.mp ht with rfl | ht
    · exact a
    · exact b t ht
end
mutual
theorem short_shown : ∀ d : D, smallD d = true → (toPy d).leavesShort 13 = true ∧ (toPy d).showable = true
  | .non, _ => ⟨rfl, rfl⟩
  | .bl b, _ => ⟨rfl, rfl⟩
  | .int i, h => by
    simp only [smallD, Bool.and_eq_true, decide_eq_true_eq] at h
    simp only [toPy, PyData.leavesShort, PyData.showable, decide_eq_true_eq]
    refine ⟨PyData.shown_int_le2 h.1 h.2, ?_⟩
    by_cases z : i.natAbs = 0
    · rw [z]; decide
    · rw [Nat.log2_lt z]
      exact Nat.lt_of_lt_of_le (show i.natAbs < 2 ^ 40 by omega) (Nat.pow_le_pow_right (by decide) (by decide))
  | .str s, h => by
    simp only [smallD, List.all_eq_true, decide_eq_true_eq] at h
    simp only [toPy, PyData.leavesShort, PyData.showable, List.all_eq_true, decide_eq_true_eq]
    exact ⟨fun c hc => Nat.lt_trans (h c (by simpa using hc)) (by decide), trivial⟩
  | .tup xs, h => by
    simp only [toPy, PyData.leavesShort, PyData.showable]
    exact short_showns xs (by simpa only [smallD] using h)
  | .lst xs, h => by
    simp only [toPy, PyData.leavesShort, PyData.showable]
    exact short_showns xs (by simpa only [smallD] using h)
  | .dict _, h => by simp [smallD] at h
  | .dicT _, h => by simp [smallD] at h
  | .ty _, h => by simp [smallD] at h
  | .fn _, h => by simp [smallD] at h
theorem short_showns : ∀ xs : List D, smallDs xs = true → PyData.leavesShortAll 13 (toPys xs) = true ∧ PyData.showableAll (toPys xs) = true
  | [], _ => by simp only [toPys, PyData.leavesShortAll, PyData.showableAll]; exact ⟨trivial, trivial⟩
  | x :: xs, h => by
    simp only [smallDs, Bool.and_eq_true] at h
    have a := short_shown x h.1
    have b := short_showns xs h.2
    simp only [toPys, PyData.leavesShortAll, PyData.showableAll, a.1, a.2, b.1, b.2, Bool.and_self]
    exact ⟨trivial, trivial⟩
end
def seqD : D → Bool
  | .lst _ => true
  | .tup _ => true
  | _ => false
def reprO (d : D) : Option (List Nat) := if (seqD d && dpt 60 d && smallD d && decide ((toPy d).bulk ≤ 60000)) = true then some (toPy d).shown.cps.toList else none
def reprD : List D → Option EV
  | [d] => (reprO d).map fun s => .val (.str s)
  | _ => none
theorem shown_fits {d : D} (h : smallD d = true) (hb : (toPy d).bulk ≤ 60000) : (toPy d).shown.length ≤ sizeLine := by
  have a := PyData.shown_le_bulk 13 (by decide) (toPy d) (short_shown d h).1
  have := sizeLine_big
  omega
section
variable {X : Cx}
theorem call_reprD (hg : X.A.guards = some []) (hu : X.A.units + 65 < cLine) : CallR X (.builtin "repr") (fun xs H Q => ∃ a d, xs = [.ref a] ∧ Dp X.K H (.ref a) d ∧ SeqAt.shaped d = true ∧ d.showable = true ∧ d.shown.length ≤ sizeLine ∧ Q (.str d.shown) H) := by
  intro pins s σ H xs us Q I r h
  obtain ⟨a, d, rfl, hd, sd, hs, hsz, q⟩ := h
  obtain ⟨u, rfl, rx⟩ := vals1 r
  obtain ⟨as, r1⟩ := Dp.reads I d (.ref a) u hd rx
  obtain rfl : u = .ref a := rx
  have dp := SeqAt.depth_of_shaped sd
  exact repr_of_reads' r1 hs (PyData.noDict_hsm (PyData.hasDict_of_canLay d (SeqAt.canLay_of_shaped sd))) hg (by omega) (fun _ _ e => e) (fun h' u tk hk => ⟨.str _, H, I.kept (t' := tk) hk, ⟨u, rfl⟩, q⟩) hsz
theorem cx_repr (hg : X.A.guards = some []) (hu : X.A.units + 65 < cLine) : CallX X (.builtin "repr") reprD := by
  refine ⟨_, call_reprD hg hu, fun F H xs ds res Q hl rx hg' k => ?_⟩
  unfold reprD at hg'
  split at hg'
  · rename_i d
    obtain ⟨s, e1, rfl⟩ := omap hg'
    unfold reprO at e1
    split at e1
    · rename_i hok
      cases e1
      simp only [Bool.and_eq_true, decide_eq_true_eq] at hok
      obtain ⟨⟨⟨h1, h2⟩, h3⟩, h4⟩ := hok
      obtain ⟨v, rfl, h⟩ := rx.one
      obtain ⟨p1, p2⟩ := h.dp hl h2 (by decide)
      have hr : ∃ a, v = .ref a := by
        cases d <;> simp [seqD] at h1
        · obtain ⟨a, vs, rfl, _⟩ := h.tup hl; exact ⟨a, rfl⟩
        · obtain ⟨a, vs, rfl, _⟩ := h.lst hl; exact ⟨a, rfl⟩
      obtain ⟨a, rfl⟩ := hr
      refine ⟨a, _, rfl, p1, p2, (short_shown d h3).2, shown_fits h3 h4, gq_val hl k ?_⟩
      simp only [RD]
      exact ⟨by simp, by simpa [Str.length] using shown_fits h3 h4, okC_shown d h3⟩
    · cases e1
  · cases hg'
end
end VS
namespace VS
theorem o_repr {d : D} {s : List Nat} (h : reprO d = some s) : reprD [d] = some (.val (.str s)) := by simp only [reprD, h, Option.map_some]
end VS

set_option Elab.async false
set_option linter.all false
set_option maxRecDepth 100000
set_option maxHeartbeats 4000000
namespace K59
open PySem L2 PyProof.Rows VS
local instance theT : TabT := ⟨[], true⟩
def top (i : Nat) : Stmt := PySem.Challenge.pw_upwide_k59_two_trees_merged.main.body.getD i (.Pass ⟨0, 0, 0, 0⟩)
def fuel : Nat := 1000000
structure Txt (K : PySem.W.Frag) (mg : Str → Option Value) : Prop where
  b_int : mg "int" = none
  b_range : mg "range" = none
  b_len : mg "len" = none
  b_max : mg "max" = none
  b_tuple : mg "tuple" = none
  b_enumerate : mg "enumerate" = none
  b_sorted : mg "sorted" = none
  b_repr : mg "repr" = none
  b_min : mg "min" = none
section
variable {P : Program} {w : World} {K : PySem.W.Frag} {mg : Str → Option Value} {base : Heap}
abbrev s_law_take : Stmt := top 7
/- _law_take: 0 pool, 1 many, 2 at, 3 number | inout [1, 0] fresh 0 level 1 -/
def m_law_take : MS :=
  (mSeq (mAsg (mFrz (mCallB intD (mCons (mOfB (mCmp eqD (mBin ixD (mVar 0) (mC (.int 0))) (mC (.int 0)))) mNil))) (asgn 2))
  (mSeq (mAsg (mFrz (mBin modD (mBin ixD (mVar 0) (mVar 2)) (mVar 1))) (asgn 3))
  (mSeq (mAsg (mFrz (mBin fdivD (mBin ixD (mVar 0) (mVar 2)) (mVar 1))) (mgSub (mVar 0) (mVar 2)))
  (mRet (mFrz (mVar 3))))))
def f_law_take : Sem' := defOf 2 4 m_law_take
theorem sc_law_take : FnScope ["pool", "many", "at", "number"] ["pool", "many"] (defScope s_law_take) := ⟨rfl, rfl, rfl, by decide +kernel, rfl, by decide +kernel, by decide +kernel⟩
theorem ok_law_take {f : Addr} {fd : FuncData} (F : Fun K "_law_take" "_law_take" s_law_take f fd) (T : Txt K mg) : FnG P w K mg base 1 f fd ["pool", "many"] (spV K mg 2 f_law_take) :=
  fn_ok (N := ["pool", "many", "at", "number"]) (k := 0) (m := m_law_take) F sc_law_take fun cdv A outer s H E hr hp =>
  (vs_cons (vs_asg (ve_frz (ve_callTy cx_int T.b_int (va_cons (ve_opc (oc_eq (units64 hr)) (ve_ix (units65 hr) (ve_var 0) ve_int) ve_int) va_nil))) (vg_name 2 sc_law_take.nd))
  (vs_cons (vs_asg (ve_frz (ve_op ox_mod (ve_ix (units65 hr) (ve_var 0) (ve_var 2)) (ve_var 1))) (vg_name 3 sc_law_take.nd))
  (vs_cons (vs_asg (ve_frz (ve_op ox_fdiv (ve_ix (units65 hr) (ve_var 0) (ve_var 2)) (ve_var 1))) (vg_sub (units65 hr) (ve_var 0) (ve_var 2)))
  (vs_one (vs_ret (ve_frz (ve_var 3)))))))
abbrev s_law_letters : Stmt := top 8
/- _law_letters: 0 pool, 1 many, 2 first, 3 by, 4 k | inout [1] fresh 0 level 2 -/
def c_law_letters_1 : M :=
  (mLc [4] (miR1 (mCons (mVar 1) mNil)) (asgn 4) mYes (mBin ixD (mC (.str [97, 98, 99, 100, 101, 102, 103, 104, 105, 106, 107, 108, 109, 110, 111, 112, 113, 114, 115, 116, 117, 118, 119, 120, 121, 122])) (mBin modD (mBin addD (mVar 2) (mBin mulD (mVar 3) (mVar 4))) (mC (.int 26)))))
def m_law_letters : MS :=
  (mSeq (mAsg (mFrz (mBin ixD (mList (mCons (mC (.int 1)) (mCons (mC (.int 2)) (mCons (mC (.int 2)) (mCons (mC (.int 3)) (mCons (mC (.int 5)) (mCons (mC (.int 26)) mNil))))))) (mCall [true, false] f_law_take (mCons (mVar 0) (mCons (mFrz (mC (.int 6))) mNil))))) (asgn 1))
  (mSeq (mAsg (mFrz (mCall [true, false] f_law_take (mCons (mVar 0) (mCons (mFrz (mC (.int 26))) mNil)))) (asgn 2))
  (mSeq (mAsg (mFrz (mBin ixD (mList (mCons (mC (.int 1)) (mCons (mC (.int 3)) (mCons (mC (.int 25)) mNil)))) (mCall [true, false] f_law_take (mCons (mVar 0) (mCons (mFrz (mC (.int 3))) mNil))))) (asgn 3))
  (mRet (mFrz c_law_letters_1)))))
def f_law_letters : Sem' := defOf 1 5 m_law_letters
theorem sc_law_letters : FnScope ["pool", "many", "first", "by", "k"] ["pool"] (defScope s_law_letters) := ⟨rfl, rfl, rfl, by decide +kernel, rfl, by decide +kernel, by decide +kernel⟩
theorem ok_law_letters {f : Addr} {fd : FuncData} (F : Fun K "_law_letters" "_law_letters" s_law_letters f fd) (T : Txt K mg) (G_law_take : GF P w K mg base "_law_take" 1 2 f_law_take) : FnG P w K mg base 2 f fd ["pool"] (spV K mg 1 f_law_letters) :=
  fn_ok (N := ["pool", "many", "first", "by", "k"]) (k := 1) (m := m_law_letters) F sc_law_letters fun cdv A outer s H E hr hp =>
  (vs_cons (vs_asg (ve_frz (ve_ix (units65 hr) (ve_list (va_cons ve_int (va_cons ve_int (va_cons ve_int (va_cons ve_int (va_cons ve_int (va_cons ve_int va_nil))))))) (ve_callG [true, false] G_law_take hr (va_cons (ve_var 0) (va_cons (ve_frz ve_int) va_nil))))) (vg_name 1 sc_law_letters.nd))
  (vs_cons (vs_asg (ve_frz (ve_callG [true, false] G_law_take hr (va_cons (ve_var 0) (va_cons (ve_frz ve_int) va_nil)))) (vg_name 2 sc_law_letters.nd))
  (vs_cons (vs_asg (ve_frz (ve_ix (units65 hr) (ve_list (va_cons ve_int (va_cons ve_int (va_cons ve_int va_nil)))) (ve_callG [true, false] G_law_take hr (va_cons (ve_var 0) (va_cons (ve_frz ve_int) va_nil))))) (vg_name 3 sc_law_letters.nd))
  (vs_one (vs_ret (ve_frz (ve_lcE (own := [("k", 4)]) rfl sc_law_letters.nd (vi_range1 T.b_range (va_cons (ve_var 1) va_nil)) (blkOk_by (own := [("k", 4)]) (N := ["pool", "many", "first", "by", "k"]) (sc := (defScope s_law_letters)) (by decide +kernel)) (by decide) (fun _ _ _ _ _ => (vg_name 4 sc_law_letters.nd)) (fun _ _ _ _ _ => vts_nil) (fun _ _ _ _ _ => (ve_ix (units65 hr) (ve_str [97, 98, 99, 100, 101, 102, 103, 104, 105, 106, 107, 108, 109, 110, 111, 112, 113, 114, 115, 116, 117, 118, 119, 120, 121, 122]) (ve_op ox_mod (ve_op ox_add (ve_var 2) (ve_op ox_mul (ve_var 3) (ve_var 4))) ve_int))))))))))
abbrev s_law_grown : Stmt := top 9
/- _law_grown: 0 pool, 1 many, 2 kind, 3 letters, 4 ups, 5 line, 6 k, 7 deep, 8 low, 9 near, 10 comb, 11 cut, 12 way, 13 other, 14 labels, 15 at | inout [1, 0, 0, 0] fresh 0 level 2 -/
def b_law_grown_1 : MS :=
  (mSeq (mAsg (mFrz (mCallB lenD (mCons (mVar 5) mNil))) (asgn 7))
  (mSeq (mAsg (mFrz (mBin ixD (mList (mCons (mVar 7) (mCons (mBin addD (mC (.int 1)) (mCall [true, false] f_law_take (mCons (mVar 0) (mCons (mFrz (mC (.int 4))) mNil)))) mNil))) (mCallB intD (mCons (mOfB (mCmp gtD (mVar 7) (mC (.int 4)))) mNil)))) (asgn 8))
  (mSeq (mAsg (mFrz (mCallB maxD (mCons (mC (.int 1)) (mCons (mBin subD (mVar 7) (mCall [true, false] f_law_take (mCons (mVar 0) (mCons (mFrz (mC (.int 3))) mNil)))) mNil)))) (asgn 9))
  (mSeq (mAsg (mFrz (mCallB maxD (mCons (mC (.int 1)) (mCons (mBin addD (mBin subD (mVar 7) (mC (.int 1))) (mBin modD (mVar 6) (mC (.int 2)))) mNil)))) (asgn 10))
  (mSeq (mAsg (mFrz (mBin ixD (mList (mCons (mVar 7) (mCons (mC (.int 1)) (mCons (mBin addD (mC (.int 1)) (mCall [true, false] f_law_take (mCons (mVar 0) (mCons (mFrz (mVar 7)) mNil)))) (mCons (mVar 9) (mCons (mVar 10) (mCons (mVar 8) mNil))))))) (mVar 2))) (asgn 11))
  (mSeq (mDrop (mMut gAppend (mVar 4) (mCons (mFrz (mBin ixD (mVar 5) (mBin subD (mVar 11) (mC (.int 1))))) mNil)))
  (mAsg (mFrz (mBin addD (mSl (mVar 5) mPN (mPS (mVar 11))) (mList (mCons (mVar 6) mNil)))) (asgn 5))))))))
def b_law_grown_2 : MS :=
  (mSeq (mAsg (mFrz (mCall [true, false] f_law_take (mCons (mVar 0) (mCons (mFrz (mCallB lenD (mCons (mVar 3) mNil))) mNil)))) (asgn 15))
  (mSeq (mIfS (mChain ltD ltD (mC (.int 0)) (mVar 12) (mC (.int 4))) (mAsg (mFrz (mBin modD (mBin modD (mVar 6) (mVar 12)) (mCallB lenD (mCons (mVar 3) mNil)))) (asgn 15)) mNext)
  (mSeq (mIfS (mCmp gtD (mVar 12) (mC (.int 4))) (mAsg (mFrz (mBin modD (mCallB intD (mCons (mOfB (mCmp eqD (mVar 6) (mVar 13))) mNil)) (mCallB lenD (mCons (mVar 3) mNil)))) (asgn 15)) mNext)
  (mAsg (mFrz (mBin addD (mVar 14) (mBin ixD (mVar 3) (mVar 15)))) (asgn 14)))))
def m_law_grown : MS :=
  (mSeq (mAsg (mList (mCons (mUn negD (mC (.int 1))) mNil)) (asgn 4))
  (mSeq (mAsg (mFrz (mList (mCons (mC (.int 0)) mNil))) (asgn 5))
  (mSeq (mFor (miR2 (mCons (mC (.int 1)) (mCons (mVar 1) mNil))) (asgn 6) b_law_grown_1)
  (mSeq (mAsg (mFrz (mCall [true, false] f_law_take (mCons (mVar 0) (mCons (mFrz (mC (.int 6))) mNil)))) (asgn 12))
  (mSeq (mAsg (mFrz (mBin ixD (mList (mCons (mCall [true, false] f_law_take (mCons (mVar 0) (mCons (mFrz (mVar 1)) mNil))) (mCons (mC (.int 0)) mNil))) (mCall [true, false] f_law_take (mCons (mVar 0) (mCons (mFrz (mC (.int 2))) mNil))))) (asgn 13))
  (mSeq (mAsg (mFrz (mC (.str []))) (asgn 14))
  (mSeq (mFor (miR1 (mCons (mVar 1) mNil)) (asgn 6) b_law_grown_2)
  (mRet (mFrz (mTup (mCons (mCallB tupleD (mCons (mVar 4) mNil)) (mCons (mVar 14) mNil))))))))))))
def f_law_grown : Sem' := defOf 4 16 m_law_grown
theorem sc_law_grown : FnScope ["pool", "many", "kind", "letters", "ups", "line", "k", "deep", "low", "near", "comb", "cut", "way", "other", "labels", "at"] ["pool", "many", "kind", "letters"] (defScope s_law_grown) := ⟨rfl, rfl, rfl, by decide +kernel, rfl, by decide +kernel, by decide +kernel⟩
theorem ok_law_grown {f : Addr} {fd : FuncData} (F : Fun K "_law_grown" "_law_grown" s_law_grown f fd) (T : Txt K mg) (G_law_take : GF P w K mg base "_law_take" 1 2 f_law_take) : FnG P w K mg base 2 f fd ["pool", "many", "kind", "letters"] (spV K mg 4 f_law_grown) :=
  fn_ok (N := ["pool", "many", "kind", "letters", "ups", "line", "k", "deep", "low", "near", "comb", "cut", "way", "other", "labels", "at"]) (k := 1) (m := m_law_grown) F sc_law_grown fun cdv A outer s H E hr hp =>
  (vs_cons (vs_asg (ve_list (va_cons (ve_neg ve_int) va_nil)) (vg_name 4 sc_law_grown.nd))
  (vs_cons (vs_asg (ve_frz (ve_list (va_cons ve_int va_nil))) (vg_name 5 sc_law_grown.nd))
  (vs_cons (vs_for hp rfl (vi_range2 T.b_range (va_cons ve_int (va_cons (ve_var 1) va_nil))) (vg_name 6 sc_law_grown.nd) (vs_cons (vs_asg (ve_frz (ve_callB cx_len T.b_len (va_cons (ve_var 5) va_nil))) (vg_name 7 sc_law_grown.nd))
  (vs_cons (vs_asg (ve_frz (ve_ix (units65 hr) (ve_list (va_cons (ve_var 7) (va_cons (ve_op ox_add ve_int (ve_callG [true, false] G_law_take hr (va_cons (ve_var 0) (va_cons (ve_frz ve_int) va_nil)))) va_nil))) (ve_callTy cx_int T.b_int (va_cons (ve_opc oc_gt (ve_var 7) ve_int) va_nil)))) (vg_name 8 sc_law_grown.nd))
  (vs_cons (vs_asg (ve_frz (ve_callB (cx_max rfl) T.b_max (va_cons ve_int (va_cons (ve_op ox_sub (ve_var 7) (ve_callG [true, false] G_law_take hr (va_cons (ve_var 0) (va_cons (ve_frz ve_int) va_nil)))) va_nil)))) (vg_name 9 sc_law_grown.nd))
  (vs_cons (vs_asg (ve_frz (ve_callB (cx_max rfl) T.b_max (va_cons ve_int (va_cons (ve_op ox_add (ve_op ox_sub (ve_var 7) ve_int) (ve_op ox_mod (ve_var 6) ve_int)) va_nil)))) (vg_name 10 sc_law_grown.nd))
  (vs_cons (vs_asg (ve_frz (ve_ix (units65 hr) (ve_list (va_cons (ve_var 7) (va_cons ve_int (va_cons (ve_op ox_add ve_int (ve_callG [true, false] G_law_take hr (va_cons (ve_var 0) (va_cons (ve_frz (ve_var 7)) va_nil)))) (va_cons (ve_var 9) (va_cons (ve_var 10) (va_cons (ve_var 8) va_nil))))))) (ve_var 2))) (vg_name 11 sc_law_grown.nd))
  (vs_cons (vs_expr (ve_mut mx_append PySem.F.slot_list_append PySem.F.type_list_append (ve_var 4) (va_cons (ve_frz (ve_ix (units65 hr) (ve_var 5) (ve_op ox_sub (ve_var 11) ve_int))) va_nil)))
  (vs_one (vs_asg (ve_frz (ve_op ox_add (ve_slice (ve_var 5) vo_none (vo_some (ve_var 11))) (ve_list (va_cons (ve_var 6) va_nil)))) (vg_name 5 sc_law_grown.nd))))))))))
  (vs_cons (vs_asg (ve_frz (ve_callG [true, false] G_law_take hr (va_cons (ve_var 0) (va_cons (ve_frz ve_int) va_nil)))) (vg_name 12 sc_law_grown.nd))
  (vs_cons (vs_asg (ve_frz (ve_ix (units65 hr) (ve_list (va_cons (ve_callG [true, false] G_law_take hr (va_cons (ve_var 0) (va_cons (ve_frz (ve_var 1)) va_nil))) (va_cons ve_int va_nil))) (ve_callG [true, false] G_law_take hr (va_cons (ve_var 0) (va_cons (ve_frz ve_int) va_nil))))) (vg_name 13 sc_law_grown.nd))
  (vs_cons (vs_asg (ve_frz (ve_str [])) (vg_name 14 sc_law_grown.nd))
  (vs_cons (vs_for hp rfl (vi_range1 T.b_range (va_cons (ve_var 1) va_nil)) (vg_name 6 sc_law_grown.nd) (vs_cons (vs_asg (ve_frz (ve_callG [true, false] G_law_take hr (va_cons (ve_var 0) (va_cons (ve_frz (ve_callB cx_len T.b_len (va_cons (ve_var 3) va_nil))) va_nil)))) (vg_name 15 sc_law_grown.nd))
  (vs_cons (vs_if (vt_chain (oc_lt hr.units0) (oc_lt hr.units0) ve_int (ve_var 12) ve_int) (vs_one (vs_asg (ve_frz (ve_op ox_mod (ve_op ox_mod (ve_var 6) (ve_var 12)) (ve_callB cx_len T.b_len (va_cons (ve_var 3) va_nil)))) (vg_name 15 sc_law_grown.nd))) vs_nil)
  (vs_cons (vs_if (vt_op oc_gt (ve_var 12) ve_int) (vs_one (vs_asg (ve_frz (ve_op ox_mod (ve_callTy cx_int T.b_int (va_cons (ve_opc (oc_eq (units64 hr)) (ve_var 6) (ve_var 13)) va_nil)) (ve_callB cx_len T.b_len (va_cons (ve_var 3) va_nil)))) (vg_name 15 sc_law_grown.nd))) vs_nil)
  (vs_one (vs_asg (ve_frz (ve_op ox_add (ve_var 14) (ve_ix (units65 hr) (ve_var 3) (ve_var 15)))) (vg_name 14 sc_law_grown.nd)))))))
  (vs_one (vs_ret (ve_frz (ve_tup (va_cons (ve_callTy cx_tuple T.b_tuple (va_cons (ve_var 4) va_nil)) (va_cons (ve_var 14) va_nil)))))))))))))
abbrev s_law_copies : Stmt := top 10
/- _law_copies: 0 pool, 1 most, 2 letters, 3 one, 4 chain, 5 ups, 6 labels, 7 turn, 8 here, 9 up | inout [1, 0, 0] fresh 0 level 3 -/
def c_law_copies_1 : M :=
  (mLc [9] (miSeq (mSl (mBin ixD (mVar 3) (mC (.int 0))) (mPS (mC (.int 1))) mPN)) (asgn 9) mYes (mBin addD (mVar 9) (mVar 8)))
def b_law_copies_1 : MS :=
  (mIfS (mCmp leD (mBin addD (mCallB lenD (mCons (mVar 5) mNil)) (mCallB lenD (mCons (mBin ixD (mVar 3) (mC (.int 0))) mNil))) (mVar 1)) (mSeq (mAsg (mFrz (mCallB lenD (mCons (mVar 5) mNil))) (asgn 8))
  (mSeq (mDrop (mExt (mVar 5) (mBin addD (mList (mCons (mBin ixD (mList (mCons (mC (.int 0)) (mCons (mBin subD (mVar 8) (mC (.int 1))) mNil))) (mVar 4)) mNil)) c_law_copies_1)))
  (mAsg (mFrz (mBin addD (mVar 6) (mBin ixD (mVar 3) (mC (.int 1))))) (asgn 6)))) mNext)
def m_law_copies : MS :=
  (mSeq (mAsg (mFrz (mCall [true, false, false, false] f_law_grown (mCons (mVar 0) (mCons (mFrz (mBin addD (mC (.int 1)) (mCall [true, false] f_law_take (mCons (mVar 0) (mCons (mFrz (mC (.int 6))) mNil))))) (mCons (mFrz (mC (.int 2))) (mCons (mFrz (mVar 2)) mNil)))))) (asgn 3))
  (mSeq (mAsg (mFrz (mCall [true, false] f_law_take (mCons (mVar 0) (mCons (mFrz (mC (.int 2))) mNil)))) (asgn 4))
  (mSeq (mAsg (mList (mCons (mUn negD (mC (.int 1))) mNil)) (asgn 5))
  (mSeq (mAsg (mFrz (mBin ixD (mVar 2) (mCall [true, false] f_law_take (mCons (mVar 0) (mCons (mFrz (mCallB lenD (mCons (mVar 2) mNil))) mNil))))) (asgn 6))
  (mSeq (mFor (miR1 (mCons (mBin addD (mC (.int 1)) (mCall [true, false] f_law_take (mCons (mVar 0) (mCons (mFrz (mC (.int 12))) mNil)))) mNil)) (asgn 7) b_law_copies_1)
  (mRet (mFrz (mTup (mCons (mCallB tupleD (mCons (mVar 5) mNil)) (mCons (mVar 6) mNil))))))))))
def f_law_copies : Sem' := defOf 3 10 m_law_copies
theorem sc_law_copies : FnScope ["pool", "most", "letters", "one", "chain", "ups", "labels", "turn", "here", "up"] ["pool", "most", "letters"] (defScope s_law_copies) := ⟨rfl, rfl, rfl, by decide +kernel, rfl, by decide +kernel, by decide +kernel⟩
theorem ok_law_copies {f : Addr} {fd : FuncData} (F : Fun K "_law_copies" "_law_copies" s_law_copies f fd) (T : Txt K mg) (G_law_take : GF P w K mg base "_law_take" 1 2 f_law_take) (G_law_grown : GF P w K mg base "_law_grown" 2 4 f_law_grown) : FnG P w K mg base 3 f fd ["pool", "most", "letters"] (spV K mg 3 f_law_copies) :=
  fn_ok (N := ["pool", "most", "letters", "one", "chain", "ups", "labels", "turn", "here", "up"]) (k := 2) (m := m_law_copies) F sc_law_copies fun cdv A outer s H E hr hp =>
  (vs_cons (vs_asg (ve_frz (ve_callG [true, false, false, false] G_law_grown hr (va_cons (ve_var 0) (va_cons (ve_frz (ve_op ox_add ve_int (ve_callG [true, false] G_law_take hr (va_cons (ve_var 0) (va_cons (ve_frz ve_int) va_nil))))) (va_cons (ve_frz ve_int) (va_cons (ve_frz (ve_var 2)) va_nil)))))) (vg_name 3 sc_law_copies.nd))
  (vs_cons (vs_asg (ve_frz (ve_callG [true, false] G_law_take hr (va_cons (ve_var 0) (va_cons (ve_frz ve_int) va_nil)))) (vg_name 4 sc_law_copies.nd))
  (vs_cons (vs_asg (ve_list (va_cons (ve_neg ve_int) va_nil)) (vg_name 5 sc_law_copies.nd))
  (vs_cons (vs_asg (ve_frz (ve_ix (units65 hr) (ve_var 2) (ve_callG [true, false] G_law_take hr (va_cons (ve_var 0) (va_cons (ve_frz (ve_callB cx_len T.b_len (va_cons (ve_var 2) va_nil))) va_nil))))) (vg_name 6 sc_law_copies.nd))
  (vs_cons (vs_for hp rfl (vi_range1 T.b_range (va_cons (ve_op ox_add ve_int (ve_callG [true, false] G_law_take hr (va_cons (ve_var 0) (va_cons (ve_frz ve_int) va_nil)))) va_nil)) (vg_name 7 sc_law_copies.nd) (vs_one (vs_if (vt_op oc_le (ve_op ox_add (ve_callB cx_len T.b_len (va_cons (ve_var 5) va_nil)) (ve_callB cx_len T.b_len (va_cons (ve_ix (units65 hr) (ve_var 3) ve_int) va_nil))) (ve_var 1)) (vs_cons (vs_asg (ve_frz (ve_callB cx_len T.b_len (va_cons (ve_var 5) va_nil))) (vg_name 8 sc_law_copies.nd))
  (vs_cons (vs_expr (ve_extend (ve_var 5) (ve_op ox_add (ve_list (va_cons (ve_ix (units65 hr) (ve_list (va_cons ve_int (va_cons (ve_op ox_sub (ve_var 8) ve_int) va_nil))) (ve_var 4)) va_nil)) (ve_lcE (own := [("up", 9)]) rfl sc_law_copies.nd (vi_seq (ve_slice (ve_ix (units65 hr) (ve_var 3) ve_int) (vo_some ve_int) vo_none)) (blkOk_by (own := [("up", 9)]) (N := ["pool", "most", "letters", "one", "chain", "ups", "labels", "turn", "here", "up"]) (sc := (defScope s_law_copies)) (by decide +kernel)) (by decide) (fun _ _ _ _ _ => (vg_name 9 sc_law_copies.nd)) (fun _ _ _ _ _ => vts_nil) (fun _ _ _ _ _ => (ve_op ox_add (ve_var 9) (ve_var 8)))))))
  (vs_one (vs_asg (ve_frz (ve_op ox_add (ve_var 6) (ve_ix (units65 hr) (ve_var 3) ve_int))) (vg_name 6 sc_law_copies.nd))))) vs_nil)))
  (vs_one (vs_ret (ve_frz (ve_tup (va_cons (ve_callTy cx_tuple T.b_tuple (va_cons (ve_var 5) va_nil)) (va_cons (ve_var 6) va_nil)))))))))))
abbrev s_law_tree : Stmt := top 11
/- _law_tree: 0 pool, 1 most, 2 letters, 3 kind, 4 many | inout [1, 0, 0] fresh 0 level 4 -/
def m_law_tree : MS :=
  (mSeq (mAsg (mFrz (mCall [true, false] f_law_take (mCons (mVar 0) (mCons (mFrz (mC (.int 8))) mNil)))) (asgn 3))
  (mSeq (mAsg (mFrz (mBin ixD (mList (mCons (mBin addD (mC (.int 1)) (mCall [true, false] f_law_take (mCons (mVar 0) (mCons (mFrz (mC (.int 9))) mNil)))) (mCons (mBin addD (mC (.int 1)) (mCall [true, false] f_law_take (mCons (mVar 0) (mCons (mFrz (mVar 1)) mNil)))) (mCons (mVar 1) mNil)))) (mCall [true, false] f_law_take (mCons (mVar 0) (mCons (mFrz (mC (.int 3))) mNil))))) (asgn 4))
  (mSeq (mIfS (mCmp gtD (mVar 3) (mC (.int 5))) (mRet (mFrz (mCall [true, false, false] f_law_copies (mCons (mVar 0) (mCons (mFrz (mVar 1)) (mCons (mFrz (mVar 2)) mNil)))))) mNext)
  (mRet (mFrz (mCall [true, false, false, false] f_law_grown (mCons (mVar 0) (mCons (mFrz (mVar 4)) (mCons (mFrz (mVar 3)) (mCons (mFrz (mVar 2)) mNil))))))))))
def f_law_tree : Sem' := defOf 3 5 m_law_tree
theorem sc_law_tree : FnScope ["pool", "most", "letters", "kind", "many"] ["pool", "most", "letters"] (defScope s_law_tree) := ⟨rfl, rfl, rfl, by decide +kernel, rfl, by decide +kernel, by decide +kernel⟩
theorem ok_law_tree {f : Addr} {fd : FuncData} (F : Fun K "_law_tree" "_law_tree" s_law_tree f fd) (T : Txt K mg) (G_law_take : GF P w K mg base "_law_take" 1 2 f_law_take) (G_law_copies : GF P w K mg base "_law_copies" 3 3 f_law_copies) (G_law_grown : GF P w K mg base "_law_grown" 2 4 f_law_grown) : FnG P w K mg base 4 f fd ["pool", "most", "letters"] (spV K mg 3 f_law_tree) :=
  fn_ok (N := ["pool", "most", "letters", "kind", "many"]) (k := 3) (m := m_law_tree) F sc_law_tree fun cdv A outer s H E hr hp =>
  (vs_cons (vs_asg (ve_frz (ve_callG [true, false] G_law_take hr (va_cons (ve_var 0) (va_cons (ve_frz ve_int) va_nil)))) (vg_name 3 sc_law_tree.nd))
  (vs_cons (vs_asg (ve_frz (ve_ix (units65 hr) (ve_list (va_cons (ve_op ox_add ve_int (ve_callG [true, false] G_law_take hr (va_cons (ve_var 0) (va_cons (ve_frz ve_int) va_nil)))) (va_cons (ve_op ox_add ve_int (ve_callG [true, false] G_law_take hr (va_cons (ve_var 0) (va_cons (ve_frz (ve_var 1)) va_nil)))) (va_cons (ve_var 1) va_nil)))) (ve_callG [true, false] G_law_take hr (va_cons (ve_var 0) (va_cons (ve_frz ve_int) va_nil))))) (vg_name 4 sc_law_tree.nd))
  (vs_cons (vs_if (vt_op oc_gt (ve_var 3) ve_int) (vs_one (vs_ret (ve_frz (ve_callG [true, false, false] G_law_copies hr (va_cons (ve_var 0) (va_cons (ve_frz (ve_var 1)) (va_cons (ve_frz (ve_var 2)) va_nil))))))) vs_nil)
  (vs_one (vs_ret (ve_frz (ve_callG [true, false, false, false] G_law_grown hr (va_cons (ve_var 0) (va_cons (ve_frz (ve_var 4)) (va_cons (ve_frz (ve_var 3)) (va_cons (ve_frz (ve_var 2)) va_nil)))))))))))
abbrev s_law_both : Stmt := top 13
/- _law_both: 0 pool, 1 kind, 2 letters, 3 one, 4 other, 5 at, 6 letter | inout [1] fresh 0 level 5 -/
def m_law_both : MS :=
  (mSeq (mAsg (mFrz (mCall [true, false] f_law_take (mCons (mVar 0) (mCons (mFrz (mC (.int 6))) mNil)))) (asgn 1))
  (mSeq (mAsg (mFrz (mCall [true] f_law_letters (mCons (mVar 0) mNil))) (asgn 2))
  (mSeq (mAsg (mFrz (mCall [true, false, false] f_law_tree (mCons (mVar 0) (mCons (mFrz (mC (.int 60))) (mCons (mFrz (mVar 2)) mNil))))) (asgn 3))
  (mSeq (mAsg (mFrz (mCall [true, false, false] f_law_tree (mCons (mVar 0) (mCons (mFrz (mC (.int 60))) (mCons (mFrz (mBin ixD (mList (mCons (mVar 2) (mCons (mCall [true] f_law_letters (mCons (mVar 0) mNil)) mNil))) (mCallB intD (mCons (mOfB (mCmp eqD (mVar 1) (mC (.int 0)))) mNil)))) mNil))))) (asgn 4))
  (mSeq (mIfS (mCmp eqD (mVar 1) (mC (.int 4))) (mAsg (mFrz (mVar 3)) (asgn 4)) mNext)
  (mSeq (mIfS (mCmp eqD (mVar 1) (mC (.int 5))) (mSeq (mAsg (mFrz (mCall [true, false] f_law_take (mCons (mVar 0) (mCons (mFrz (mCallB lenD (mCons (mBin ixD (mVar 3) (mC (.int 1))) mNil))) mNil)))) (asgn 5))
  (mSeq (mAsg (mFrz (mBin ixD (mVar 2) (mCall [true, false] f_law_take (mCons (mVar 0) (mCons (mFrz (mCallB lenD (mCons (mVar 2) mNil))) mNil))))) (asgn 6))
  (mAsg (mFrz (mTup (mCons (mBin ixD (mVar 3) (mC (.int 0))) (mCons (mBin addD (mBin addD (mSl (mBin ixD (mVar 3) (mC (.int 1))) mPN (mPS (mVar 5))) (mVar 6)) (mSl (mBin ixD (mVar 3) (mC (.int 1))) (mPS (mBin addD (mVar 5) (mC (.int 1)))) mPN)) mNil)))) (asgn 4)))) mNext)
  (mRet (mFrz (mTup (mCons (mVar 3) (mCons (mVar 4) mNil)))))))))))
def f_law_both : Sem' := defOf 1 7 m_law_both
theorem sc_law_both : FnScope ["pool", "kind", "letters", "one", "other", "at", "letter"] ["pool"] (defScope s_law_both) := ⟨rfl, rfl, rfl, by decide +kernel, rfl, by decide +kernel, by decide +kernel⟩
theorem ok_law_both {f : Addr} {fd : FuncData} (F : Fun K "_law_both" "_law_both" s_law_both f fd) (T : Txt K mg) (G_law_take : GF P w K mg base "_law_take" 1 2 f_law_take) (G_law_letters : GF P w K mg base "_law_letters" 2 1 f_law_letters) (G_law_tree : GF P w K mg base "_law_tree" 4 3 f_law_tree) : FnG P w K mg base 5 f fd ["pool"] (spV K mg 1 f_law_both) :=
  fn_ok (N := ["pool", "kind", "letters", "one", "other", "at", "letter"]) (k := 4) (m := m_law_both) F sc_law_both fun cdv A outer s H E hr hp =>
  (vs_cons (vs_asg (ve_frz (ve_callG [true, false] G_law_take hr (va_cons (ve_var 0) (va_cons (ve_frz ve_int) va_nil)))) (vg_name 1 sc_law_both.nd))
  (vs_cons (vs_asg (ve_frz (ve_callG [true] G_law_letters hr (va_cons (ve_var 0) va_nil))) (vg_name 2 sc_law_both.nd))
  (vs_cons (vs_asg (ve_frz (ve_callG [true, false, false] G_law_tree hr (va_cons (ve_var 0) (va_cons (ve_frz ve_int) (va_cons (ve_frz (ve_var 2)) va_nil))))) (vg_name 3 sc_law_both.nd))
  (vs_cons (vs_asg (ve_frz (ve_callG [true, false, false] G_law_tree hr (va_cons (ve_var 0) (va_cons (ve_frz ve_int) (va_cons (ve_frz (ve_ix (units65 hr) (ve_list (va_cons (ve_var 2) (va_cons (ve_callG [true] G_law_letters hr (va_cons (ve_var 0) va_nil)) va_nil))) (ve_callTy cx_int T.b_int (va_cons (ve_opc (oc_eq (units64 hr)) (ve_var 1) ve_int) va_nil)))) va_nil))))) (vg_name 4 sc_law_both.nd))
  (vs_cons (vs_if (vt_op (oc_eq (units64 hr)) (ve_var 1) ve_int) (vs_one (vs_asg (ve_frz (ve_var 3)) (vg_name 4 sc_law_both.nd))) vs_nil)
  (vs_cons (vs_if (vt_op (oc_eq (units64 hr)) (ve_var 1) ve_int) (vs_cons (vs_asg (ve_frz (ve_callG [true, false] G_law_take hr (va_cons (ve_var 0) (va_cons (ve_frz (ve_callB cx_len T.b_len (va_cons (ve_ix (units65 hr) (ve_var 3) ve_int) va_nil))) va_nil)))) (vg_name 5 sc_law_both.nd))
  (vs_cons (vs_asg (ve_frz (ve_ix (units65 hr) (ve_var 2) (ve_callG [true, false] G_law_take hr (va_cons (ve_var 0) (va_cons (ve_frz (ve_callB cx_len T.b_len (va_cons (ve_var 2) va_nil))) va_nil))))) (vg_name 6 sc_law_both.nd))
  (vs_one (vs_asg (ve_frz (ve_tup (va_cons (ve_ix (units65 hr) (ve_var 3) ve_int) (va_cons (ve_op ox_add (ve_op ox_add (ve_slice (ve_ix (units65 hr) (ve_var 3) ve_int) vo_none (vo_some (ve_var 5))) (ve_var 6)) (ve_slice (ve_ix (units65 hr) (ve_var 3) ve_int) (vo_some (ve_op ox_add (ve_var 5) ve_int)) vo_none)) va_nil)))) (vg_name 4 sc_law_both.nd))))) vs_nil)
  (vs_one (vs_ret (ve_frz (ve_tup (va_cons (ve_var 3) (va_cons (ve_var 4) va_nil))))))))))))
abbrev s_law_cell_at : Stmt := top 5
/- _law_cell_at: 0 script, 1 k | inout [0, 0] fresh 0 level 1 -/
def m_law_cell_at : MS :=
  (mSeq (mIfS (mCmp ltD (mVar 1) (mCallB lenD (mCons (mVar 0) mNil))) (mRet (mFrz (mBin ixD (mVar 0) (mVar 1)))) mNext)
  (mRet (mFrz (mC (.int 0)))))
def f_law_cell_at : Sem' := defOf 2 2 m_law_cell_at
theorem sc_law_cell_at : FnScope ["script", "k"] ["script", "k"] (defScope s_law_cell_at) := ⟨rfl, rfl, rfl, by decide +kernel, rfl, by decide +kernel, by decide +kernel⟩
theorem ok_law_cell_at {f : Addr} {fd : FuncData} (F : Fun K "_law_cell_at" "_law_cell_at" s_law_cell_at f fd) (T : Txt K mg) : FnG P w K mg base 1 f fd ["script", "k"] (spV K mg 2 f_law_cell_at) :=
  fn_ok (N := ["script", "k"]) (k := 0) (m := m_law_cell_at) F sc_law_cell_at fun cdv A outer s H E hr hp =>
  (vs_cons (vs_if (vt_op (oc_lt hr.units0) (ve_var 1) (ve_callB cx_len T.b_len (va_cons (ve_var 0) va_nil))) (vs_one (vs_ret (ve_frz (ve_ix (units65 hr) (ve_var 0) (ve_var 1))))) vs_nil)
  (vs_one (vs_ret (ve_frz ve_int))))
abbrev s_law_pool : Stmt := top 6
/- _law_pool: 0 script, 1 at, 2 cell, 3 big, 4 turn, 5 one | inout [0, 0] fresh 1 level 2 -/
def b_law_pool_1 : MS :=
  (mSeq (mAsg (mFrz (mBin modD (mBin mulD (mBin addD (mBin addD (mBin addD (mBin modD (mVar 2) (mC (.int 998244353))) (mBin mulD (mBin mulD (mC (.int 89)) (mVar 4)) (mVar 4))) (mBin mulD (mC (.int 7)) (mVar 1))) (mC (.int 1))) (mC (.int 48271))) (mC (.int 2147483647)))) (asgn 5))
  (mSeq (mAsg (mFrz (mBin modD (mBin mulD (mVar 5) (mVar 5)) (mC (.int 1000000007)))) (asgn 5))
  (mSeq (mAsg (mFrz (mBin modD (mBin mulD (mBin addD (mVar 5) (mBin mulD (mC (.int 7919)) (mVar 4))) (mC (.int 69621))) (mC (.int 2147483587)))) (asgn 5))
  (mAsg (mFrz (mBin addD (mBin mulD (mVar 3) (mC (.int 1000003))) (mBin modD (mBin fdivD (mVar 5) (mC (.int 8))) (mC (.int 1000003))))) (asgn 3)))))
def m_law_pool : MS :=
  (mSeq (mAsg (mFrz (mCall [false, false] f_law_cell_at (mCons (mFrz (mVar 0)) (mCons (mFrz (mVar 1)) mNil)))) (asgn 2))
  (mSeq (mAsg (mFrz (mC (.int 0))) (asgn 3))
  (mSeq (mFor (miR1 (mCons (mC (.int 99)) mNil)) (asgn 4) b_law_pool_1)
  (mRet (mList (mCons (mBin mulD (mVar 2) (mCallB intD (mCons (mOfB (mCmp geD (mVar 2) (mBin powD (mC (.int 10)) (mC (.int 18))))) mNil))) (mCons (mVar 3) mNil)))))))
def f_law_pool : Sem' := defOf 2 6 m_law_pool
theorem sc_law_pool : FnScope ["script", "at", "cell", "big", "turn", "one"] ["script", "at"] (defScope s_law_pool) := ⟨rfl, rfl, rfl, by decide +kernel, rfl, by decide +kernel, by decide +kernel⟩
theorem ok_law_pool {f : Addr} {fd : FuncData} (F : Fun K "_law_pool" "_law_pool" s_law_pool f fd) (T : Txt K mg) (G_law_cell_at : GF P w K mg base "_law_cell_at" 1 2 f_law_cell_at) : FnG P w K mg base 2 f fd ["script", "at"] (spV K mg 2 f_law_pool) :=
  fn_ok (N := ["script", "at", "cell", "big", "turn", "one"]) (k := 1) (m := m_law_pool) F sc_law_pool fun cdv A outer s H E hr hp =>
  (vs_cons (vs_asg (ve_frz (ve_callG [false, false] G_law_cell_at hr (va_cons (ve_frz (ve_var 0)) (va_cons (ve_frz (ve_var 1)) va_nil)))) (vg_name 2 sc_law_pool.nd))
  (vs_cons (vs_asg (ve_frz ve_int) (vg_name 3 sc_law_pool.nd))
  (vs_cons (vs_for hp rfl (vi_range1 T.b_range (va_cons ve_int va_nil)) (vg_name 4 sc_law_pool.nd) (vs_cons (vs_asg (ve_frz (ve_op ox_mod (ve_op ox_mul (ve_op ox_add (ve_op ox_add (ve_op ox_add (ve_op ox_mod (ve_var 2) ve_int) (ve_op ox_mul (ve_op ox_mul ve_int (ve_var 4)) (ve_var 4))) (ve_op ox_mul ve_int (ve_var 1))) ve_int) ve_int) ve_int)) (vg_name 5 sc_law_pool.nd))
  (vs_cons (vs_asg (ve_frz (ve_op ox_mod (ve_op ox_mul (ve_var 5) (ve_var 5)) ve_int)) (vg_name 5 sc_law_pool.nd))
  (vs_cons (vs_asg (ve_frz (ve_op ox_mod (ve_op ox_mul (ve_op ox_add (ve_var 5) (ve_op ox_mul ve_int (ve_var 4))) ve_int) ve_int)) (vg_name 5 sc_law_pool.nd))
  (vs_one (vs_asg (ve_frz (ve_op ox_add (ve_op ox_mul (ve_var 3) ve_int) (ve_op ox_mod (ve_op ox_fdiv (ve_var 5) ve_int) ve_int))) (vg_name 3 sc_law_pool.nd)))))))
  (vs_one (vs_ret (ve_list (va_cons (ve_op ox_mul (ve_var 2) (ve_callTy cx_int T.b_int (va_cons (ve_opc oc_ge (ve_var 2) (ve_op ox_pow ve_int ve_int)) va_nil))) (va_cons (ve_var 3) va_nil))))))))
abbrev s_law_word : Stmt := top 12
/- _law_word: 0 tree, 1 place, 2 found | inout [0, 0] fresh 0 level 1 -/
def b_law_word_1 : MS :=
  (mSeq (mAsg (mFrz (mBin addD (mVar 2) (mBin ixD (mBin ixD (mVar 0) (mC (.int 1))) (mVar 1)))) (asgn 2))
  (mAsg (mFrz (mBin ixD (mBin ixD (mVar 0) (mC (.int 0))) (mVar 1))) (asgn 1)))
def t_law_word_1 : MB :=
  (mCmp geD (mVar 1) (mC (.int 0)))
def m_law_word : MS :=
  (mSeq (mAsg (mFrz (mC (.str []))) (asgn 2))
  (mSeq (mWhile fuel t_law_word_1 b_law_word_1)
  (mRet (mFrz (mVar 2)))))
def f_law_word : Sem' := defOf 2 3 m_law_word
theorem sc_law_word : FnScope ["tree", "place", "found"] ["tree", "place"] (defScope s_law_word) := ⟨rfl, rfl, rfl, by decide +kernel, rfl, by decide +kernel, by decide +kernel⟩
theorem ok_law_word {f : Addr} {fd : FuncData} (F : Fun K "_law_word" "_law_word" s_law_word f fd) (T : Txt K mg) : FnG P w K mg base 1 f fd ["tree", "place"] (spV K mg 2 f_law_word) :=
  fn_ok (N := ["tree", "place", "found"]) (k := 0) (m := m_law_word) F sc_law_word fun cdv A outer s H E hr hp =>
  (vs_cons (vs_asg (ve_frz (ve_str [])) (vg_name 2 sc_law_word.nd))
  (vs_cons (vs_while fuel hp (vt_op oc_ge (ve_var 1) ve_int) (vs_cons (vs_asg (ve_frz (ve_op ox_add (ve_var 2) (ve_ix (units65 hr) (ve_ix (units65 hr) (ve_var 0) ve_int) (ve_var 1)))) (vg_name 2 sc_law_word.nd))
  (vs_one (vs_asg (ve_frz (ve_ix (units65 hr) (ve_ix (units65 hr) (ve_var 0) ve_int) (ve_var 1))) (vg_name 1 sc_law_word.nd)))))
  (vs_one (vs_ret (ve_frz (ve_var 2))))))
abbrev s_all_words : Stmt := top 1
/- all_words: 0 tree, 1 ups, 2 labels, 3 found, 4 place, 5 up | inout [0] fresh 0 level 1 -/
def b_all_words_1 : MS :=
  (mDrop (mMut gAppend (mVar 3) (mCons (mFrz (mBin addD (mBin ixD (mVar 2) (mVar 4)) (mIf (mCmp geD (mVar 5) (mC (.int 0))) (mBin ixD (mVar 3) (mVar 5)) (mC (.str []))))) mNil)))
def m_all_words : MS :=
  (mSeq (mAsg (mFrz (mVar 0)) (mgTup [(asgn 1), (asgn 2)]))
  (mSeq (mAsg (mList mNil) (asgn 3))
  (mSeq (mFor (miEnum (mCons (mVar 1) mNil)) (mgTup [(asgn 4), (asgn 5)]) b_all_words_1)
  (mRet (mFrz (mVar 3))))))
def f_all_words : Sem' := defOf 1 6 m_all_words
theorem sc_all_words : FnScope ["tree", "ups", "labels", "found", "place", "up"] ["tree"] (defScope s_all_words) := ⟨rfl, rfl, rfl, by decide +kernel, rfl, by decide +kernel, by decide +kernel⟩
theorem ok_all_words {f : Addr} {fd : FuncData} (F : Fun K "all_words" "all_words" s_all_words f fd) (T : Txt K mg) : FnG P w K mg base 1 f fd ["tree"] (spV K mg 1 f_all_words) :=
  fn_ok (N := ["tree", "ups", "labels", "found", "place", "up"]) (k := 0) (m := m_all_words) F sc_all_words fun cdv A outer s H E hr hp =>
  (vs_cons (vs_asg (ve_frz (ve_var 0)) (vg_tup rfl (vgs_cons (vg_name 1 sc_all_words.nd) (vgs_cons (vg_name 2 sc_all_words.nd) vgs_nil))))
  (vs_cons (vs_asg (ve_list va_nil) (vg_name 3 sc_all_words.nd))
  (vs_cons (vs_for hp rfl (vi_enum T.b_enumerate (va_cons (ve_var 1) va_nil)) (vg_tup rfl (vgs_cons (vg_name 4 sc_all_words.nd) (vgs_cons (vg_name 5 sc_all_words.nd) vgs_nil))) (vs_one (vs_expr (ve_mut mx_append PySem.F.slot_list_append PySem.F.type_list_append (ve_var 3) (va_cons (ve_frz (ve_op ox_add (ve_ix (units65 hr) (ve_var 2) (ve_var 4)) (ve_if (vt_op oc_ge (ve_var 5) ve_int) (ve_ix (units65 hr) (ve_var 3) (ve_var 5)) (ve_str [])))) va_nil)))))
  (vs_one (vs_ret (ve_frz (ve_var 3)))))))
abbrev s_both_merged : Stmt := top 3
/- both_merged: 0 one, 1 other, 2 rows, 3 which, 4 tree, 5 word, 6 place | inout [0, 0] fresh 1 level 2 -/
def c_both_merged_1 : M :=
  (mLc [6, 5] (miEnum (mCons (mCall [false] f_all_words (mCons (mFrz (mVar 4)) mNil)) mNil)) (mgTup [(asgn 6), (asgn 5)]) mYes (mTup (mCons (mVar 5) (mCons (mVar 3) (mCons (mVar 6) mNil)))))
def b_both_merged_1 : MS :=
  (mDrop (mExt (mVar 2) c_both_merged_1))
def c_both_merged_2 : M :=
  (mLc [5, 3, 6] (miSeq (mCallB sortedD (mCons (mVar 2) mNil))) (mgTup [(asgn 5), (asgn 3), (asgn 6)]) mYes (mTup (mCons (mVar 3) (mCons (mVar 6) mNil))))
def m_both_merged : MS :=
  (mSeq (mAsg (mList mNil) (asgn 2))
  (mSeq (mFor (miEnum (mCons (mList (mCons (mVar 0) (mCons (mVar 1) mNil))) mNil)) (mgTup [(asgn 3), (asgn 4)]) b_both_merged_1)
  (mRet c_both_merged_2)))
def f_both_merged : Sem' := defOf 2 7 m_both_merged
theorem sc_both_merged : FnScope ["one", "other", "rows", "which", "tree", "word", "place"] ["one", "other"] (defScope s_both_merged) := ⟨rfl, rfl, rfl, by decide +kernel, rfl, by decide +kernel, by decide +kernel⟩
theorem ok_both_merged {f : Addr} {fd : FuncData} (F : Fun K "both_merged" "both_merged" s_both_merged f fd) (T : Txt K mg) (G_all_words : GF P w K mg base "all_words" 1 1 f_all_words) : FnG P w K mg base 2 f fd ["one", "other"] (spV K mg 2 f_both_merged) :=
  fn_ok (N := ["one", "other", "rows", "which", "tree", "word", "place"]) (k := 1) (m := m_both_merged) F sc_both_merged fun cdv A outer s H E hr hp =>
  (vs_cons (vs_asg (ve_list va_nil) (vg_name 2 sc_both_merged.nd))
  (vs_cons (vs_for hp rfl (vi_enum T.b_enumerate (va_cons (ve_list (va_cons (ve_var 0) (va_cons (ve_var 1) va_nil))) va_nil)) (vg_tup rfl (vgs_cons (vg_name 3 sc_both_merged.nd) (vgs_cons (vg_name 4 sc_both_merged.nd) vgs_nil))) (vs_one (vs_expr (ve_extend (ve_var 2) (ve_lcE (own := [("place", 6), ("word", 5)]) rfl sc_both_merged.nd (vi_enum T.b_enumerate (va_cons (ve_callG [false] G_all_words hr (va_cons (ve_frz (ve_var 4)) va_nil)) va_nil)) (blkOk_by (own := [("place", 6), ("word", 5)]) (N := ["one", "other", "rows", "which", "tree", "word", "place"]) (sc := (defScope s_both_merged)) (by decide +kernel)) (by decide) (fun _ _ _ _ _ => (vg_tup rfl (vgs_cons (vg_name 6 sc_both_merged.nd) (vgs_cons (vg_name 5 sc_both_merged.nd) vgs_nil)))) (fun _ _ _ _ _ => vts_nil) (fun _ _ _ _ _ => (ve_tup (va_cons (ve_var 5) (va_cons (ve_var 3) (va_cons (ve_var 6) va_nil))))))))))
  (vs_one (vs_ret (ve_lcE (own := [("word", 5), ("which", 3), ("place", 6)]) rfl sc_both_merged.nd (vi_seq (ve_callB (cx_sorted (units65 hr)) T.b_sorted (va_cons (ve_var 2) va_nil))) (blkOk_by (own := [("word", 5), ("which", 3), ("place", 6)]) (N := ["one", "other", "rows", "which", "tree", "word", "place"]) (sc := (defScope s_both_merged)) (by decide +kernel)) (by decide) (fun _ _ _ _ _ => (vg_tup rfl (vgs_cons (vg_name 5 sc_both_merged.nd) (vgs_cons (vg_name 3 sc_both_merged.nd) (vgs_cons (vg_name 6 sc_both_merged.nd) vgs_nil))))) (fun _ _ _ _ _ => vts_nil) (fun _ _ _ _ _ => (ve_tup (va_cons (ve_var 3) (va_cons (ve_var 6) va_nil)))))))))
abbrev s_law_right : Stmt := top 14
/- _law_right: 0 one, 1 other, 2 rows, 3 which, 4 tree, 5 place, 6 due, 7 turn, 8 found, 9 word | inout [0, 0] fresh 0 level 3 -/
def b_law_right_1 : MS :=
  (mDrop (mMut gAppend (mVar 2) (mCons (mFrz (mTup (mCons (mCall [false, false] f_law_word (mCons (mFrz (mVar 4)) (mCons (mFrz (mVar 5)) mNil))) (mCons (mVar 3) (mCons (mVar 5) mNil))))) mNil)))
def b_law_right_2 : MS :=
  (mFor (miR1 (mCons (mCallB lenD (mCons (mBin ixD (mVar 4) (mC (.int 0))) mNil)) mNil)) (asgn 5) b_law_right_1)
def c_law_right_1 : M :=
  (mLc [9, 3, 5] (miSeq (mCallB sortedD (mCons (mVar 2) mNil))) (mgTup [(asgn 9), (asgn 3), (asgn 5)]) mYes (mTup (mCons (mVar 3) (mCons (mVar 5) mNil))))
def b_law_right_3 : MS :=
  (mSeq (mAsg (mCall [false, false] f_both_merged (mCons (mFrz (mVar 0)) (mCons (mFrz (mVar 1)) mNil))) (asgn 8))
  (mSeq (mIfS (mCmp neD (mCallB reprD (mCons (mVar 8) mNil)) (mCallB reprD (mCons (mVar 6) mNil))) (mRet (mFrz (mC (.bl false)))) mNext)
  (mDrop (mMut gAppend (mVar 8) (mCons (mFrz (mTup (mCons (mC (.int 0)) (mCons (mC (.int 0)) mNil)))) mNil)))))
def m_law_right : MS :=
  (mSeq (mAsg (mList mNil) (asgn 2))
  (mSeq (mFor (miEnum (mCons (mList (mCons (mVar 0) (mCons (mVar 1) mNil))) mNil)) (mgTup [(asgn 3), (asgn 4)]) b_law_right_2)
  (mSeq (mAsg (mFrz c_law_right_1) (asgn 6))
  (mSeq (mFor (miR1 (mCons (mC (.int 2)) mNil)) (asgn 7) b_law_right_3)
  (mRet (mFrz (mC (.bl true))))))))
def f_law_right : Sem' := defOf 2 10 m_law_right
theorem sc_law_right : FnScope ["one", "other", "rows", "which", "tree", "place", "due", "turn", "found", "word"] ["one", "other"] (defScope s_law_right) := ⟨rfl, rfl, rfl, by decide +kernel, rfl, by decide +kernel, by decide +kernel⟩
theorem ok_law_right {f : Addr} {fd : FuncData} (F : Fun K "_law_right" "_law_right" s_law_right f fd) (T : Txt K mg) (G_law_word : GF P w K mg base "_law_word" 1 2 f_law_word) (G_both_merged : GF P w K mg base "both_merged" 2 2 f_both_merged) : FnG P w K mg base 3 f fd ["one", "other"] (spV K mg 2 f_law_right) :=
  fn_ok (N := ["one", "other", "rows", "which", "tree", "place", "due", "turn", "found", "word"]) (k := 2) (m := m_law_right) F sc_law_right fun cdv A outer s H E hr hp =>
  (vs_cons (vs_asg (ve_list va_nil) (vg_name 2 sc_law_right.nd))
  (vs_cons (vs_for hp rfl (vi_enum T.b_enumerate (va_cons (ve_list (va_cons (ve_var 0) (va_cons (ve_var 1) va_nil))) va_nil)) (vg_tup rfl (vgs_cons (vg_name 3 sc_law_right.nd) (vgs_cons (vg_name 4 sc_law_right.nd) vgs_nil))) (vs_one (vs_for hp rfl (vi_range1 T.b_range (va_cons (ve_callB cx_len T.b_len (va_cons (ve_ix (units65 hr) (ve_var 4) ve_int) va_nil)) va_nil)) (vg_name 5 sc_law_right.nd) (vs_one (vs_expr (ve_mut mx_append PySem.F.slot_list_append PySem.F.type_list_append (ve_var 2) (va_cons (ve_frz (ve_tup (va_cons (ve_callG [false, false] G_law_word hr (va_cons (ve_frz (ve_var 4)) (va_cons (ve_frz (ve_var 5)) va_nil))) (va_cons (ve_var 3) (va_cons (ve_var 5) va_nil))))) va_nil)))))))
  (vs_cons (vs_asgF (vs_setLc (i := 6) (own := [("word", 9), ("which", 3), ("place", 5)]) rfl sc_law_right.nd (vi_seq (ve_callB (cx_sorted (units65 hr)) T.b_sorted (va_cons (ve_var 2) va_nil))) (blkOk_by (own := [("word", 9), ("which", 3), ("place", 5)]) (N := ["one", "other", "rows", "which", "tree", "place", "due", "turn", "found", "word"]) (sc := (defScope s_law_right)) (by decide +kernel)) (by decide) (fun _ _ _ _ _ => (vg_tup rfl (vgs_cons (vg_name 9 sc_law_right.nd) (vgs_cons (vg_name 3 sc_law_right.nd) (vgs_cons (vg_name 5 sc_law_right.nd) vgs_nil))))) (fun _ _ _ _ _ => vts_nil) (fun _ _ _ _ _ => (ve_tup (va_cons (ve_var 3) (va_cons (ve_var 5) va_nil))))))
  (vs_cons (vs_for hp rfl (vi_range1 T.b_range (va_cons ve_int va_nil)) (vg_name 7 sc_law_right.nd) (vs_cons (vs_asg (ve_callG [false, false] G_both_merged hr (va_cons (ve_frz (ve_var 0)) (va_cons (ve_frz (ve_var 1)) va_nil))) (vg_name 8 sc_law_right.nd))
  (vs_cons (vs_if (vt_op (oc_ne (units64 hr)) (ve_callB (cx_repr (hr.gd rfl) (units65 hr)) T.b_repr (va_cons (ve_var 8) va_nil)) (ve_callB (cx_repr (hr.gd rfl) (units65 hr)) T.b_repr (va_cons (ve_var 6) va_nil))) (vs_one (vs_ret (ve_frz ve_bl))) vs_nil)
  (vs_one (vs_expr (ve_mut mx_append PySem.F.slot_list_append PySem.F.type_list_append (ve_var 8) (va_cons (ve_frz (ve_tup (va_cons ve_int (va_cons ve_int va_nil)))) va_nil)))))))
  (vs_one (vs_ret (ve_frz ve_bl)))))))
abbrev s_law : Stmt := top 15
/- law: 0 script, 1 at, 2 one, 3 other | inout [0] fresh 0 level 6 -/
def b_law_1 : MS :=
  (mSeq (mAsg (mFrz (mCall [true] f_law_both (mCons (mCall [false, false] f_law_pool (mCons (mFrz (mVar 0)) (mCons (mFrz (mVar 1)) mNil))) mNil))) (mgTup [(asgn 2), (asgn 3)]))
  (mIfS (mOr (mNot (mTest (mCall [false, false] f_law_right (mCons (mFrz (mVar 2)) (mCons (mFrz (mVar 3)) mNil))))) (mNot (mTest (mCall [false, false] f_law_right (mCons (mFrz (mVar 3)) (mCons (mFrz (mVar 2)) mNil)))))) (mRet (mFrz (mC (.bl false)))) mNext))
def m_law : MS :=
  (mSeq (mFor (miR1 (mCons (mCallB maxD (mCons (mC (.int 1)) (mCons (mCallB minD (mCons (mC (.int 10)) (mCons (mCallB lenD (mCons (mVar 0) mNil)) mNil))) mNil))) mNil)) (asgn 1) b_law_1)
  (mRet (mFrz (mC (.bl true)))))
def f_law : Sem' := defOf 1 4 m_law
theorem sc_law : FnScope ["script", "at", "one", "other"] ["script"] (defScope s_law) := ⟨rfl, rfl, rfl, by decide +kernel, rfl, by decide +kernel, by decide +kernel⟩
theorem ok_law {f : Addr} {fd : FuncData} (F : Fun K "law" "law" s_law f fd) (T : Txt K mg) (G_law_pool : GF P w K mg base "_law_pool" 2 2 f_law_pool) (G_law_both : GF P w K mg base "_law_both" 5 1 f_law_both) (G_law_right : GF P w K mg base "_law_right" 3 2 f_law_right) : FnG P w K mg base 6 f fd ["script"] (spV K mg 1 f_law) :=
  fn_ok (N := ["script", "at", "one", "other"]) (k := 5) (m := m_law) F sc_law fun cdv A outer s H E hr hp =>
  (vs_cons (vs_for hp rfl (vi_range1 T.b_range (va_cons (ve_callB (cx_max rfl) T.b_max (va_cons ve_int (va_cons (ve_callB (cx_min rfl) T.b_min (va_cons ve_int (va_cons (ve_callB cx_len T.b_len (va_cons (ve_var 0) va_nil)) va_nil))) va_nil))) va_nil)) (vg_name 1 sc_law.nd) (vs_cons (vs_asg (ve_frz (ve_callG [true] G_law_both hr (va_cons (ve_callG [false, false] G_law_pool hr (va_cons (ve_frz (ve_var 0)) (va_cons (ve_frz (ve_var 1)) va_nil))) va_nil))) (vg_tup rfl (vgs_cons (vg_name 2 sc_law.nd) (vgs_cons (vg_name 3 sc_law.nd) vgs_nil))))
  (vs_one (vs_if (vt_w (vw_or (vt_not (vt_val (ve_callG [false, false] G_law_right hr (va_cons (ve_frz (ve_var 2)) (va_cons (ve_frz (ve_var 3)) va_nil))))) (vw_or1 (vt_not (vt_val (ve_callG [false, false] G_law_right hr (va_cons (ve_frz (ve_var 3)) (va_cons (ve_frz (ve_var 2)) va_nil)))))))) (vs_one (vs_ret (ve_frz ve_bl))) vs_nil))))
  (vs_one (vs_ret (ve_frz ve_bl))))
end
theorem all_mk {l : PySem.W.OpenLaw} {w : World} {K : PySem.W.Frag} {h : Heap} {mg : Str → Option Value} {fa f0 f1 f2 f3 f4 f5 f6 f7 f8 f9 f10 f11 f12 : Addr} (X : K.In h) (G : h.Ns mainGlobals mg) (hfa : mg "law" = some (.ref fa))
    {od0 an0 od1 an1 od2 an2 od3 an3 od4 an4 od5 an5 od6 an6 od7 an7 od8 an8 od9 an9 od10 an10 od11 an11 od12 an12 : Option Addr} {sl0 sl1 sl2 sl3 sl4 sl5 sl6 sl7 sl8 sl9 sl10 sl11 sl12 : Array (Option Value)} {oc0 kV0 dc0 pm0 cd0 ct0 oc1 kV1 dc1 pm1 cd1 ct1 oc2 kV2 dc2 pm2 cd2 ct2 oc3 kV3 dc3 pm3 cd3 ct3 oc4 kV4 dc4 pm4 cd4 ct4 oc5 kV5 dc5 pm5 cd5 ct5 oc6 kV6 dc6 pm6 cd6 ct6 oc7 kV7 dc7 pm7 cd7 ct7 oc8 kV8 dc8 pm8 cd8 ct8 oc9 kV9 dc9 pm9 cd9 ct9 oc10 kV10 dc10 pm10 cd10 ct10 oc11 kV11 dc11 pm11 cd11 ct11 oc12 kV12 dc12 pm12 cd12 ct12 : Value}
    (a0 : PySem.W.nsIn K mainGlobals "_law_take" = some (some (.ref f0)))
    (l0 : K.lookup f0 = some ⟨oc0, od0, .func (PySem.W.fnOf "_law_take" "_law_take" (defArgs s_law_take) (defBody s_law_take) (defScope s_law_take) .none kV0 dc0 pm0 an0 cd0 ct0), sl0⟩) (c0 : PySem.W.codeIn K cd0 "_law_take" = true) (k0 : PySem.W.keepIn K (.ref f0) = true)
    (a1 : PySem.W.nsIn K mainGlobals "_law_letters" = some (some (.ref f1)))
    (l1 : K.lookup f1 = some ⟨oc1, od1, .func (PySem.W.fnOf "_law_letters" "_law_letters" (defArgs s_law_letters) (defBody s_law_letters) (defScope s_law_letters) .none kV1 dc1 pm1 an1 cd1 ct1), sl1⟩) (c1 : PySem.W.codeIn K cd1 "_law_letters" = true) (k1 : PySem.W.keepIn K (.ref f1) = true)
    (a2 : PySem.W.nsIn K mainGlobals "_law_grown" = some (some (.ref f2)))
    (l2 : K.lookup f2 = some ⟨oc2, od2, .func (PySem.W.fnOf "_law_grown" "_law_grown" (defArgs s_law_grown) (defBody s_law_grown) (defScope s_law_grown) .none kV2 dc2 pm2 an2 cd2 ct2), sl2⟩) (c2 : PySem.W.codeIn K cd2 "_law_grown" = true) (k2 : PySem.W.keepIn K (.ref f2) = true)
    (a3 : PySem.W.nsIn K mainGlobals "_law_copies" = some (some (.ref f3)))
    (l3 : K.lookup f3 = some ⟨oc3, od3, .func (PySem.W.fnOf "_law_copies" "_law_copies" (defArgs s_law_copies) (defBody s_law_copies) (defScope s_law_copies) .none kV3 dc3 pm3 an3 cd3 ct3), sl3⟩) (c3 : PySem.W.codeIn K cd3 "_law_copies" = true) (k3 : PySem.W.keepIn K (.ref f3) = true)
    (a4 : PySem.W.nsIn K mainGlobals "_law_tree" = some (some (.ref f4)))
    (l4 : K.lookup f4 = some ⟨oc4, od4, .func (PySem.W.fnOf "_law_tree" "_law_tree" (defArgs s_law_tree) (defBody s_law_tree) (defScope s_law_tree) .none kV4 dc4 pm4 an4 cd4 ct4), sl4⟩) (c4 : PySem.W.codeIn K cd4 "_law_tree" = true) (k4 : PySem.W.keepIn K (.ref f4) = true)
    (a5 : PySem.W.nsIn K mainGlobals "_law_both" = some (some (.ref f5)))
    (l5 : K.lookup f5 = some ⟨oc5, od5, .func (PySem.W.fnOf "_law_both" "_law_both" (defArgs s_law_both) (defBody s_law_both) (defScope s_law_both) .none kV5 dc5 pm5 an5 cd5 ct5), sl5⟩) (c5 : PySem.W.codeIn K cd5 "_law_both" = true) (k5 : PySem.W.keepIn K (.ref f5) = true)
    (a6 : PySem.W.nsIn K mainGlobals "_law_cell_at" = some (some (.ref f6)))
    (l6 : K.lookup f6 = some ⟨oc6, od6, .func (PySem.W.fnOf "_law_cell_at" "_law_cell_at" (defArgs s_law_cell_at) (defBody s_law_cell_at) (defScope s_law_cell_at) .none kV6 dc6 pm6 an6 cd6 ct6), sl6⟩) (c6 : PySem.W.codeIn K cd6 "_law_cell_at" = true) (k6 : PySem.W.keepIn K (.ref f6) = true)
    (a7 : PySem.W.nsIn K mainGlobals "_law_pool" = some (some (.ref f7)))
    (l7 : K.lookup f7 = some ⟨oc7, od7, .func (PySem.W.fnOf "_law_pool" "_law_pool" (defArgs s_law_pool) (defBody s_law_pool) (defScope s_law_pool) .none kV7 dc7 pm7 an7 cd7 ct7), sl7⟩) (c7 : PySem.W.codeIn K cd7 "_law_pool" = true) (k7 : PySem.W.keepIn K (.ref f7) = true)
    (a8 : PySem.W.nsIn K mainGlobals "_law_word" = some (some (.ref f8)))
    (l8 : K.lookup f8 = some ⟨oc8, od8, .func (PySem.W.fnOf "_law_word" "_law_word" (defArgs s_law_word) (defBody s_law_word) (defScope s_law_word) .none kV8 dc8 pm8 an8 cd8 ct8), sl8⟩) (c8 : PySem.W.codeIn K cd8 "_law_word" = true) (k8 : PySem.W.keepIn K (.ref f8) = true)
    (a9 : PySem.W.nsIn K mainGlobals "all_words" = some (some (.ref f9)))
    (l9 : K.lookup f9 = some ⟨oc9, od9, .func (PySem.W.fnOf "all_words" "all_words" (defArgs s_all_words) (defBody s_all_words) (defScope s_all_words) .none kV9 dc9 pm9 an9 cd9 ct9), sl9⟩) (c9 : PySem.W.codeIn K cd9 "all_words" = true) (k9 : PySem.W.keepIn K (.ref f9) = true)
    (a10 : PySem.W.nsIn K mainGlobals "both_merged" = some (some (.ref f10)))
    (l10 : K.lookup f10 = some ⟨oc10, od10, .func (PySem.W.fnOf "both_merged" "both_merged" (defArgs s_both_merged) (defBody s_both_merged) (defScope s_both_merged) .none kV10 dc10 pm10 an10 cd10 ct10), sl10⟩) (c10 : PySem.W.codeIn K cd10 "both_merged" = true) (k10 : PySem.W.keepIn K (.ref f10) = true)
    (a11 : PySem.W.nsIn K mainGlobals "_law_right" = some (some (.ref f11)))
    (l11 : K.lookup f11 = some ⟨oc11, od11, .func (PySem.W.fnOf "_law_right" "_law_right" (defArgs s_law_right) (defBody s_law_right) (defScope s_law_right) .none kV11 dc11 pm11 an11 cd11 ct11), sl11⟩) (c11 : PySem.W.codeIn K cd11 "_law_right" = true) (k11 : PySem.W.keepIn K (.ref f11) = true)
    (a12 : PySem.W.nsIn K mainGlobals "law" = some (some (.ref f12)))
    (l12 : K.lookup f12 = some ⟨oc12, od12, .func (PySem.W.fnOf "law" "law" (defArgs s_law) (defBody s_law) (defScope s_law) .none kV12 dc12 pm12 an12 cd12 ct12), sl12⟩) (c12 : PySem.W.codeIn K cd12 "law" = true) (k12 : PySem.W.keepIn K (.ref f12) = true)
    (z0 : PySem.W.nsIn K mainGlobals "int" = some none)
    (z1 : PySem.W.nsIn K mainGlobals "range" = some none)
    (z2 : PySem.W.nsIn K mainGlobals "len" = some none)
    (z3 : PySem.W.nsIn K mainGlobals "max" = some none)
    (z4 : PySem.W.nsIn K mainGlobals "tuple" = some none)
    (z5 : PySem.W.nsIn K mainGlobals "enumerate" = some none)
    (z6 : PySem.W.nsIn K mainGlobals "sorted" = some none)
    (z7 : PySem.W.nsIn K mainGlobals "repr" = some none)
    (z8 : PySem.W.nsIn K mainGlobals "min" = some none)
    (LAW : LawOk f_law) : ∃ fd : FuncData, (∀ (s : Shared) (v : Value), BindsTo s fd ⟨[v], []⟩ [("script", v)]) ∧ ∀ base : Heap, K.In base → base.Ns mainGlobals mg → FnG l.prog w K mg base 6 fa fd ["script"] (spLaw K) := by
  have e := hfa.symm.trans (PySem.W.mg_of X G a12)
  cases e
  have T : Txt K mg := ⟨PySem.W.mg_none_of X G z0, PySem.W.mg_none_of X G z1, PySem.W.mg_none_of X G z2, PySem.W.mg_none_of X G z3, PySem.W.mg_none_of X G z4, PySem.W.mg_none_of X G z5, PySem.W.mg_none_of X G z6, PySem.W.mg_none_of X G z7, PySem.W.mg_none_of X G z8⟩
  have F0 := fun_mk (st := s_law_take) l0 c0 k0
  have b0 := F0.binds (ps := ["pool", "many"]) fun _ _ _ _ _ _ us hl => match us, hl with | [_, _], _ => rfl
  have F1 := fun_mk (st := s_law_letters) l1 c1 k1
  have b1 := F1.binds (ps := ["pool"]) fun _ _ _ _ _ _ us hl => match us, hl with | [_], _ => rfl
  have F2 := fun_mk (st := s_law_grown) l2 c2 k2
  have b2 := F2.binds (ps := ["pool", "many", "kind", "letters"]) fun _ _ _ _ _ _ us hl => match us, hl with | [_, _, _, _], _ => rfl
  have F3 := fun_mk (st := s_law_copies) l3 c3 k3
  have b3 := F3.binds (ps := ["pool", "most", "letters"]) fun _ _ _ _ _ _ us hl => match us, hl with | [_, _, _], _ => rfl
  have F4 := fun_mk (st := s_law_tree) l4 c4 k4
  have b4 := F4.binds (ps := ["pool", "most", "letters"]) fun _ _ _ _ _ _ us hl => match us, hl with | [_, _, _], _ => rfl
  have F5 := fun_mk (st := s_law_both) l5 c5 k5
  have b5 := F5.binds (ps := ["pool"]) fun _ _ _ _ _ _ us hl => match us, hl with | [_], _ => rfl
  have F6 := fun_mk (st := s_law_cell_at) l6 c6 k6
  have b6 := F6.binds (ps := ["script", "k"]) fun _ _ _ _ _ _ us hl => match us, hl with | [_, _], _ => rfl
  have F7 := fun_mk (st := s_law_pool) l7 c7 k7
  have b7 := F7.binds (ps := ["script", "at"]) fun _ _ _ _ _ _ us hl => match us, hl with | [_, _], _ => rfl
  have F8 := fun_mk (st := s_law_word) l8 c8 k8
  have b8 := F8.binds (ps := ["tree", "place"]) fun _ _ _ _ _ _ us hl => match us, hl with | [_, _], _ => rfl
  have F9 := fun_mk (st := s_all_words) l9 c9 k9
  have b9 := F9.binds (ps := ["tree"]) fun _ _ _ _ _ _ us hl => match us, hl with | [_], _ => rfl
  have F10 := fun_mk (st := s_both_merged) l10 c10 k10
  have b10 := F10.binds (ps := ["one", "other"]) fun _ _ _ _ _ _ us hl => match us, hl with | [_, _], _ => rfl
  have F11 := fun_mk (st := s_law_right) l11 c11 k11
  have b11 := F11.binds (ps := ["one", "other"]) fun _ _ _ _ _ _ us hl => match us, hl with | [_, _], _ => rfl
  have F12 := fun_mk (st := s_law) l12 c12 k12
  refine ⟨PySem.W.fnOf "law" "law" (defArgs s_law) (defBody s_law) (defScope s_law) .none kV12 dc12 pm12 an12 cd12 ct12, fun s v => .of_eq rfl, fun base _ _ => ?_⟩
  have G_law_take : GF l.prog w K mg base "_law_take" 1 2 f_law_take := ⟨noX, f0, _, _, ok_law_take F0 T , PySem.W.mg_of X G a0, k0, b0, defOf_len, fun _ _ _ e => nomatch e⟩
  have G_law_letters : GF l.prog w K mg base "_law_letters" 2 1 f_law_letters := ⟨noX, f1, _, _, ok_law_letters F1 T G_law_take, PySem.W.mg_of X G a1, k1, b1, defOf_len, fun _ _ _ e => nomatch e⟩
  have G_law_grown : GF l.prog w K mg base "_law_grown" 2 4 f_law_grown := ⟨noX, f2, _, _, ok_law_grown F2 T G_law_take, PySem.W.mg_of X G a2, k2, b2, defOf_len, fun _ _ _ e => nomatch e⟩
  have G_law_copies : GF l.prog w K mg base "_law_copies" 3 3 f_law_copies := ⟨noX, f3, _, _, ok_law_copies F3 T G_law_take G_law_grown, PySem.W.mg_of X G a3, k3, b3, defOf_len, fun _ _ _ e => nomatch e⟩
  have G_law_tree : GF l.prog w K mg base "_law_tree" 4 3 f_law_tree := ⟨noX, f4, _, _, ok_law_tree F4 T G_law_take G_law_copies G_law_grown, PySem.W.mg_of X G a4, k4, b4, defOf_len, fun _ _ _ e => nomatch e⟩
  have G_law_both : GF l.prog w K mg base "_law_both" 5 1 f_law_both := ⟨noX, f5, _, _, ok_law_both F5 T G_law_take G_law_letters G_law_tree, PySem.W.mg_of X G a5, k5, b5, defOf_len, fun _ _ _ e => nomatch e⟩
  have G_law_cell_at : GF l.prog w K mg base "_law_cell_at" 1 2 f_law_cell_at := ⟨noX, f6, _, _, ok_law_cell_at F6 T , PySem.W.mg_of X G a6, k6, b6, defOf_len, fun _ _ _ e => nomatch e⟩
  have G_law_pool : GF l.prog w K mg base "_law_pool" 2 2 f_law_pool := ⟨noX, f7, _, _, ok_law_pool F7 T G_law_cell_at, PySem.W.mg_of X G a7, k7, b7, defOf_len, fun _ _ _ e => nomatch e⟩
  have G_law_word : GF l.prog w K mg base "_law_word" 1 2 f_law_word := ⟨noX, f8, _, _, ok_law_word F8 T , PySem.W.mg_of X G a8, k8, b8, defOf_len, fun _ _ _ e => nomatch e⟩
  have G_all_words : GF l.prog w K mg base "all_words" 1 1 f_all_words := ⟨noX, f9, _, _, ok_all_words F9 T , PySem.W.mg_of X G a9, k9, b9, defOf_len, fun _ _ _ e => nomatch e⟩
  have G_both_merged : GF l.prog w K mg base "both_merged" 2 2 f_both_merged := ⟨noX, f10, _, _, ok_both_merged F10 T G_all_words, PySem.W.mg_of X G a10, k10, b10, defOf_len, fun _ _ _ e => nomatch e⟩
  have G_law_right : GF l.prog w K mg base "_law_right" 3 2 f_law_right := ⟨noX, f11, _, _, ok_law_right F11 T G_law_word G_both_merged, PySem.W.mg_of X G a11, k11, b11, defOf_len, fun _ _ _ e => nomatch e⟩
  exact law_imp (ok_law F12 T G_law_pool G_law_both G_law_right) LAW
end K59

set_option Elab.async false
set_option linter.all false
set_option maxRecDepth 100000
set_option maxHeartbeats 4000000
namespace K59
open PySem L2 PyProof.Rows VS
local instance : TabT := ⟨[], false⟩
def t_law_cell_at (v_script : (List Int)) (v_k : Int) : Option Int :=
  if (decide (v_k < ((List.length v_script : Nat) : Int))) = true then (
    (atI v_script v_k).bind fun a1 =>
    some a1
  ) else (
    some (0 : Int)
  )
theorem w_law_cell_at {v_script : (List Int)} {v_k : Int} {r : Int} (h : t_law_cell_at v_script v_k = some r) {st : List SC} : f_law_cell_at [.val ((eL D.int) v_script), .val (D.int v_k)] st = some (.val (D.int r), st) := by
  unfold t_law_cell_at at h
  refine def_post rfl ?_
  show Post (m_law_cell_at ⟨[.val ((eL D.int) v_script), .val (D.int v_k)], st⟩) _
  unfold m_law_cell_at
  rcases ifo h with ⟨hc, h⟩ | ⟨hc, h⟩
  · refine po_ifT (tr_t (q_cmp (q_var rfl) (q_callB (q_cons (q_var rfl) q_nil) rfl (o_lenL (e := D.int))) rfl rfl rfl) hc) ?_
    obtain ⟨a1, e2, h⟩ := bnd h
    obtain rfl := som h
    exact po_ret (Γ1 := ⟨[.val ((eL D.int) v_script), .val (D.int v_k)], st⟩) (q_frz (q_bin (q_var rfl) (q_var rfl) rfl rfl (o_ixL (e := D.int) e2)) rfl) ⟨_, _, rfl, rfl⟩
  · refine po_ifF (tr_f (q_cmp (q_var rfl) (q_callB (q_cons (q_var rfl) q_nil) rfl (o_lenL (e := D.int))) rfl rfl rfl) hc) ?_
    refine po_next ?_
    refine po_bare ?_
    obtain rfl := som h
    exact po_ret (Γ1 := ⟨[.val ((eL D.int) v_script), .val (D.int v_k)], st⟩) (q_frz q_c rfl) ⟨_, _, rfl, rfl⟩
def t_law_pool (v_script : (List Int)) (v_at : Int) : Option (List Int) :=
  (t_law_cell_at v_script v_at).bind fun a1 =>
  (range1T (99 : Int)).bind fun a3 =>
  (forS (fun (s5 : Int) (x8 : Int) => show Option (Int) from
    (mulT ((89 : Int) * x8) x8).bind fun a9 =>
    (some ((((((a1 % (998244353 : Int)) + a9) + ((7 : Int) * v_at)) + (1 : Int)) * (48271 : Int)) % (2147483647 : Int))).bind fun v_one11 =>
    (mulT v_one11 v_one11).bind fun a13 =>
    (some (a13 % (1000000007 : Int))).bind fun v_one15 =>
    (some (((v_one15 + ((7919 : Int) * x8)) * (69621 : Int)) % (2147483587 : Int))).bind fun v_one17 =>
    (some ((s5 * (1000003 : Int)) + ((v_one17 / (8 : Int)) % (1000003 : Int)))).bind fun v_big19 =>
    some v_big19) a3 (0 : Int)).bind fun j21 =>
  (powT (10 : Int) (18 : Int)).bind fun a25 =>
  (mulT a1 (if (decide (a25 ≤ a1)) = true then (1 : Int) else 0)).bind fun a27 =>
  some ([a27, j21] : (List Int))
theorem w_law_pool {v_script : (List Int)} {v_at : Int} {r : (List Int)} (h : t_law_pool v_script v_at = some r) {st : List SC} : f_law_pool [.val ((eL D.int) v_script), .val (D.int v_at)] st = some (.fresh ((eL D.int) r), st) := by
  unfold t_law_pool at h
  refine def_postF rfl ?_
  show Post (m_law_pool ⟨[.val ((eL D.int) v_script), .val (D.int v_at), .un, .un, .un, .un], st⟩) _
  unfold m_law_pool
  obtain ⟨a1, e2, h⟩ := bnd h
  refine po_asg (Γ2 := ⟨[.val ((eL D.int) v_script), .val (D.int v_at), .val (D.int a1), .un, .un, .un], st⟩) (q_frz (q_call (q_cons (q_frz (q_var rfl) rfl) (q_cons (q_frz (q_var rfl) rfl) q_nil)) rfl (w_law_cell_at e2) (nl_v (nl_v (nl_u (nl_u (nl_u (nl_u nl_0))))))) rfl) rfl ?_
  refine po_asg (Γ2 := ⟨[.val ((eL D.int) v_script), .val (D.int v_at), .val (D.int a1), .val (D.int (0 : Int)), .un, .un], st⟩) (q_frz q_c rfl) rfl ?_
  obtain ⟨a3, e4, h⟩ := bnd h
  obtain ⟨j21, e22, h⟩ := bnd h
  obtain ⟨Γ9, ef, q23, q24, rfl⟩ := forS_ok (e := D.int) (g := (asgn 4)) (b := b_law_pool_1) (fun (s5 : Int) Γ => ∃ q6 q7, Γ = ⟨[.val ((eL D.int) v_script), .val (D.int v_at), .val (D.int a1), .val (D.int s5), q2v q6, q2c q7], st⟩) (by
      rintro s5 x8 so Γ h ⟨q6, q7, rfl⟩
      refine ⟨⟨[.val ((eL D.int) v_script), .val (D.int v_at), .val (D.int a1), .val (D.int s5), .val (D.int x8), q2c q7], st⟩, rfl, ?_⟩
      unfold b_law_pool_1
      obtain ⟨a9, e10, h⟩ := bnd h
      obtain ⟨v_one11, e12, h⟩ := bnd h
      refine po_asg (Γ2 := ⟨[.val ((eL D.int) v_script), .val (D.int v_at), .val (D.int a1), .val (D.int s5), .val (D.int x8), .val (D.int v_one11)], st⟩) (q_eqV (f := D.int) (a := ((((((a1 % (998244353 : Int)) + a9) + ((7 : Int) * v_at)) + (1 : Int)) * (48271 : Int)) % (2147483647 : Int))) (q_frz (q_bin (q_bin (q_bin (q_bin (q_bin (q_bin (q_var rfl) q_c rfl rfl (o_modL (by decide))) (q_bin (q_bin q_c (q_var rfl) rfl rfl (o_mulL rfl)) (q_var rfl) rfl rfl (o_mul e10)) rfl rfl rfl) (q_bin q_c (q_var rfl) rfl rfl (o_mulL rfl)) rfl rfl rfl) q_c rfl rfl rfl) q_c rfl rfl (o_mulR rfl)) q_c rfl rfl (o_modL (by decide))) rfl) (som e12)) rfl ?_
      obtain ⟨a13, e14, h⟩ := bnd h
      obtain ⟨v_one15, e16, h⟩ := bnd h
      refine po_asg (Γ2 := ⟨[.val ((eL D.int) v_script), .val (D.int v_at), .val (D.int a1), .val (D.int s5), .val (D.int x8), .val (D.int v_one15)], st⟩) (q_eqV (f := D.int) (a := (a13 % (1000000007 : Int))) (q_frz (q_bin (q_bin (q_var rfl) (q_var rfl) rfl rfl (o_mul e14)) q_c rfl rfl (o_modL (by decide))) rfl) (som e16)) rfl ?_
      obtain ⟨v_one17, e18, h⟩ := bnd h
      refine po_asg (Γ2 := ⟨[.val ((eL D.int) v_script), .val (D.int v_at), .val (D.int a1), .val (D.int s5), .val (D.int x8), .val (D.int v_one17)], st⟩) (q_eqV (f := D.int) (a := (((v_one15 + ((7919 : Int) * x8)) * (69621 : Int)) % (2147483587 : Int))) (q_frz (q_bin (q_bin (q_bin (q_var rfl) (q_bin q_c (q_var rfl) rfl rfl (o_mulL rfl)) rfl rfl rfl) q_c rfl rfl (o_mulR rfl)) q_c rfl rfl (o_modL (by decide))) rfl) (som e18)) rfl ?_
      refine po_bare ?_
      obtain ⟨v_big19, e20, h⟩ := bnd h
      refine po_asg (Γ2 := ⟨[.val ((eL D.int) v_script), .val (D.int v_at), .val (D.int a1), .val (D.int v_big19), .val (D.int x8), .val (D.int v_one17)], st⟩) (q_eqV (f := D.int) (a := ((s5 * (1000003 : Int)) + ((v_one17 / (8 : Int)) % (1000003 : Int)))) (q_frz (q_bin (q_bin (q_var rfl) q_c rfl rfl (o_mulR rfl)) (q_bin (q_bin (q_var rfl) q_c rfl rfl (o_fdivL ⟨by decide, by decide⟩)) q_c rfl rfl (o_modL (by decide))) rfl rfl rfl) rfl) (som e20)) rfl ?_
      obtain rfl := som h
      exact po_end ⟨.inl rfl, .val (D.int x8), .val (D.int v_one17), rfl⟩
      ) e22 (Γ := ⟨[.val ((eL D.int) v_script), .val (D.int v_at), .val (D.int a1), .val (D.int (0 : Int)), .un, .un], st⟩) ⟨.un, .un, rfl⟩
  refine po_for (i_range1 (q_cons q_c q_nil) e4) ef ?_
  refine po_bare ?_
  obtain ⟨a25, e26, h⟩ := bnd h
  obtain ⟨a27, e28, h⟩ := bnd h
  obtain rfl := som h
  exact po_ret (Γ1 := ⟨[.val ((eL D.int) v_script), .val (D.int v_at), .val (D.int a1), .val (D.int j21), q2v q23, q2c q24], st⟩) (q_list (q_cons (q_bin (q_var rfl) (q_callB (q_cons (q_ofB (q_cmp (q_var rfl) (q_bin q_c q_c rfl rfl (o_pow e26)) rfl rfl rfl)) q_nil) rfl rfl) rfl rfl (o_mul e28)) (q_cons (q_var rfl) q_nil)) rfl (lz rfl rfl)) ⟨_, _, rfl, rfl⟩
def t_law_take (v_pool : (List Int)) (v_many : Int) : Option (Int × (List Int)) :=
  (atI v_pool (0 : Int)).bind fun a1 =>
  (some (if (a1 == (0 : Int)) = true then (1 : Int) else 0)).bind fun v_at3 =>
  (atI v_pool v_at3).bind fun a5 =>
  (modT a5 v_many).bind fun a7 =>
  (atI v_pool v_at3).bind fun a9 =>
  (fdivT a9 v_many).bind fun a11 =>
  (setT v_pool v_at3 a11).bind fun a13 =>
  some (a7, a13)
theorem w_law_take {v_pool : (List Int)} {v_many : Int} {r : (Int × (List Int))} (h : t_law_take v_pool v_many = some r) {st : List SC} {k : Nat} (hk : k < st.length) : f_law_take [.par k, .val (D.int v_many)] (put st k ((eL D.int) v_pool)) = some (.val (D.int r.1), put st k ((eL D.int) r.2)) := by
  unfold t_law_take at h
  refine def_post rfl ?_
  show Post (m_law_take ⟨[.par k, .val (D.int v_many), .un, .un], (put st k ((eL D.int) v_pool))⟩) _
  unfold m_law_take
  obtain ⟨a1, e2, h⟩ := bnd h
  obtain ⟨v_at3, e4, h⟩ := bnd h
  refine po_asg (Γ2 := ⟨[.par k, .val (D.int v_many), .val (D.int v_at3), .un], (put st k ((eL D.int) v_pool))⟩) (q_eqV (f := D.int) (a := (if (a1 == (0 : Int)) = true then (1 : Int) else 0)) (q_frz (q_callB (q_cons (q_ofB (q_cmp (q_bin (q_varP rfl) q_c (pk_par hk) rfl (o_ixL (e := D.int) e2)) q_c rfl rfl (o_eq (e := D.int) ee_I a1 (0 : Int)))) q_nil) rfl rfl) rfl) (som e4)) rfl ?_
  obtain ⟨a5, e6, h⟩ := bnd h
  obtain ⟨a7, e8, h⟩ := bnd h
  refine po_asg (Γ2 := ⟨[.par k, .val (D.int v_many), .val (D.int v_at3), .val (D.int a7)], (put st k ((eL D.int) v_pool))⟩) (q_frz (q_bin (q_bin (q_varP rfl) (q_var rfl) (pk_par hk) rfl (o_ixL (e := D.int) e6)) (q_var rfl) rfl rfl (o_mod e8)) rfl) rfl ?_
  obtain ⟨a9, e10, h⟩ := bnd h
  obtain ⟨a11, e12, h⟩ := bnd h
  obtain ⟨a13, e14, h⟩ := bnd h
  refine po_asg (Γ2 := ⟨[.par k, .val (D.int v_many), .val (D.int v_at3), .val (D.int a7)], (put st k ((eL D.int) a13))⟩) (q_frz (q_bin (q_bin (q_varP rfl) (q_var rfl) (pk_par hk) rfl (o_ixL (e := D.int) e10)) (q_var rfl) rfl rfl (o_fdiv e12)) rfl) (gs_setP (e := D.int) (sl := [.par k, .val (D.int v_many), .val (D.int v_at3), .val (D.int a7)]) hk (q_varP rfl) (q_var rfl) e14) ?_
  refine po_bare ?_
  obtain rfl := som h
  exact po_ret (Γ1 := ⟨[.par k, .val (D.int v_many), .val (D.int v_at3), .val (D.int a7)], (put st k ((eL D.int) a13))⟩) (q_frz (q_var rfl) rfl) ⟨_, _, rfl, rfl⟩
def t_law_letters (v_pool : (List Int)) : Option ((List (List Nat)) × (List Int)) :=
  (t_law_take v_pool (6 : Int)).bind fun a1 =>
  (atI ([(1 : Int), (2 : Int), (2 : Int), (3 : Int), (5 : Int), (26 : Int)] : (List Int)) a1.1).bind fun a3 =>
  (t_law_take a1.2 (26 : Int)).bind fun a5 =>
  (t_law_take a5.2 (3 : Int)).bind fun a7 =>
  (atI ([(1 : Int), (3 : Int), (25 : Int)] : (List Int)) a7.1).bind fun a9 =>
  (range1T a3).bind fun a11 =>
  (lcM (fun (x13 : Int) => (mulT a9 x13).bind fun a14 => (chT ([97, 98, 99, 100, 101, 102, 103, 104, 105, 106, 107, 108, 109, 110, 111, 112, 113, 114, 115, 116, 117, 118, 119, 120, 121, 122] : List Nat) ((a5.1 + a14) % (26 : Int))).bind fun a16 => some a16) a11).bind fun a18 =>
  some (a18, a7.2)
theorem w_law_letters {v_pool : (List Int)} {r : ((List (List Nat)) × (List Int))} (h : t_law_letters v_pool = some r) {st : List SC} {k : Nat} (hk : k < st.length) : f_law_letters [.par k] (put st k ((eL D.int) v_pool)) = some (.val ((eL D.str) r.1), put st k ((eL D.int) r.2)) := by
  unfold t_law_letters at h
  refine def_post rfl ?_
  show Post (m_law_letters ⟨[.par k, .un, .un, .un, .un], (put st k ((eL D.int) v_pool))⟩) _
  unfold m_law_letters
  obtain ⟨a1, e2, h⟩ := bnd h
  obtain ⟨a3, e4, h⟩ := bnd h
  refine po_asg (Γ2 := ⟨[.par k, .val (D.int a3), .un, .un, .un], (put st k ((eL D.int) a1.2))⟩) (q_frz (q_bin (q_list (q_cons q_c (q_cons q_c (q_cons q_c (q_cons q_c (q_cons q_c (q_cons q_c q_nil)))))) rfl (lz rfl rfl)) (q_callP (sl := [.par k, .un, .un, .un, .un]) (st := st) (k := k) (x := (eL D.int) v_pool) (y := (eL D.int) a1.2) (.inl ⟨_, rfl⟩) (q_cons (q_varP rfl) (q_cons (q_frz q_c rfl) q_nil)) rfl (w_law_take e2 hk) (nl_p hk (nl_u (nl_u (nl_u (nl_u nl_0)))))) rfl rfl (o_ixL (e := D.int) e4)) rfl) rfl ?_
  obtain ⟨a5, e6, h⟩ := bnd h
  refine po_asg (Γ2 := ⟨[.par k, .val (D.int a3), .val (D.int a5.1), .un, .un], (put st k ((eL D.int) a5.2))⟩) (q_frz (q_callP (sl := [.par k, .val (D.int a3), .un, .un, .un]) (st := st) (k := k) (x := (eL D.int) a1.2) (y := (eL D.int) a5.2) (.inl ⟨_, rfl⟩) (q_cons (q_varP rfl) (q_cons (q_frz q_c rfl) q_nil)) rfl (w_law_take e6 hk) (nl_p hk (nl_v (nl_u (nl_u (nl_u nl_0)))))) rfl) rfl ?_
  obtain ⟨a7, e8, h⟩ := bnd h
  obtain ⟨a9, e10, h⟩ := bnd h
  refine po_asg (Γ2 := ⟨[.par k, .val (D.int a3), .val (D.int a5.1), .val (D.int a9), .un], (put st k ((eL D.int) a7.2))⟩) (q_frz (q_bin (q_list (q_cons q_c (q_cons q_c (q_cons q_c q_nil))) rfl (lz rfl rfl)) (q_callP (sl := [.par k, .val (D.int a3), .val (D.int a5.1), .un, .un]) (st := st) (k := k) (x := (eL D.int) a5.2) (y := (eL D.int) a7.2) (.inl ⟨_, rfl⟩) (q_cons (q_varP rfl) (q_cons (q_frz q_c rfl) q_nil)) rfl (w_law_take e8 hk) (nl_p hk (nl_v (nl_v (nl_u (nl_u nl_0)))))) rfl rfl (o_ixL (e := D.int) e10)) rfl) rfl ?_
  refine po_bare ?_
  obtain ⟨a11, e12, h⟩ := bnd h
  obtain ⟨a18, e19, h⟩ := bnd h
  obtain rfl := som h
  exact po_ret (Γ1 := ⟨[.par k, .val (D.int a3), .val (D.int a5.1), .val (D.int a9), .un], (put st k ((eL D.int) a7.2))⟩) (q_frz (q_lcM D.int D.str (i_range1 (q_cons (q_var rfl) q_nil) e12) rfl (fun x13 y hy => by (obtain ⟨a14, e15, hy⟩ := bnd hy; obtain ⟨a16, e17, hy⟩ := bnd hy; obtain rfl := som hy; exact turn_yes (Γ1 := ⟨[.par k, .val (D.int a3), .val (D.int a5.1), .val (D.int a9), .val (D.int x13)], (put st k ((eL D.int) a7.2))⟩) rfl rfl (q_bin q_c (q_bin (q_bin (q_var rfl) (q_bin (q_var rfl) (q_var rfl) rfl rfl (o_mul e15)) rfl rfl rfl) q_c rfl rfl (o_modL (by decide))) rfl rfl (o_ixS e17)) rfl rfl)) e19) rfl) ⟨_, _, rfl, rfl⟩
def t_law_grown (v_pool : (List Int)) (v_many : Int) (v_kind : Int) (v_letters : (List (List Nat))) : Option (((List Int) × (List Nat)) × (List Int)) :=
  (some ([(-(1 : Int))] : (List Int))).bind fun v_ups1 =>
  (some ([(0 : Int)] : (List Int))).bind fun v_line3 =>
  (range2T (1 : Int) v_many).bind fun a5 =>
  (forS (fun (s7 : ((List Int) × (List Int) × (List Int))) (x14 : Int) => show Option (((List Int) × (List Int) × (List Int))) from
    (some ((List.length s7.2.2 : Nat) : Int)).bind fun v_deep15 =>
    (t_law_take s7.1 (4 : Int)).bind fun a17 =>
    (atI ([v_deep15, ((1 : Int) + a17.1)] : (List Int)) (if (decide ((4 : Int) < v_deep15)) = true then (1 : Int) else 0)).bind fun a19 =>
    (t_law_take a17.2 (3 : Int)).bind fun a21 =>
    (some (maxI2 (1 : Int) (v_deep15 - a21.1))).bind fun v_near23 =>
    (some (maxI2 (1 : Int) ((v_deep15 - (1 : Int)) + (x14 % (2 : Int))))).bind fun v_comb25 =>
    (t_law_take a21.2 v_deep15).bind fun a27 =>
    (atI ([v_deep15, (1 : Int), ((1 : Int) + a27.1), v_near23, v_comb25, a19] : (List Int)) v_kind).bind fun a29 =>
    (atI s7.2.2 (a29 - (1 : Int))).bind fun a31 =>
    (pushT s7.2.1 a31).bind fun a33 =>
    (catT (cutL s7.2.2 none (some a29)) ([x14] : (List Int))).bind fun a35 =>
    some (a27.2, a33, a35)) a5 (v_pool, v_ups1, v_line3)).bind fun j37 =>
  (t_law_take j37.1 (6 : Int)).bind fun a45 =>
  (t_law_take a45.2 v_many).bind fun a47 =>
  (t_law_take a47.2 (2 : Int)).bind fun a49 =>
  (atI ([a47.1, (0 : Int)] : (List Int)) a49.1).bind fun a51 =>
  (range1T v_many).bind fun a53 =>
  (forS (fun (s55 : ((List Int) × (List Nat))) (x58 : Int) => show Option (((List Int) × (List Nat))) from
    (t_law_take s55.1 ((List.length v_letters : Nat) : Int)).bind fun a59 =>
    (show Option Int from if ((decide ((0 : Int) < a45.1)) && (decide (a45.1 < (4 : Int)))) = true then (
      (modT x58 a45.1).bind fun a61 =>
      (modT a61 ((List.length v_letters : Nat) : Int)).bind fun a63 =>
      some a63
    ) else (
      some a59.1
    )).bind fun j65 =>
    (show Option Int from if (decide ((4 : Int) < a45.1)) = true then (
      (modT (if (x58 == a51) = true then (1 : Int) else 0) ((List.length v_letters : Nat) : Int)).bind fun a67 =>
      some a67
    ) else (
      some j65
    )).bind fun j69 =>
    (atI v_letters j69).bind fun a71 =>
    (catT s55.2 a71).bind fun a73 =>
    some (a59.2, a73)) a53 (a49.2, ([] : List Nat))).bind fun j75 =>
  some ((j37.2.1, j75.2), j75.1)
theorem w_law_grown {v_pool : (List Int)} {v_many : Int} {v_kind : Int} {v_letters : (List (List Nat))} {r : (((List Int) × (List Nat)) × (List Int))} (h : t_law_grown v_pool v_many v_kind v_letters = some r) {st : List SC} {k : Nat} (hk : k < st.length) : f_law_grown [.par k, .val (D.int v_many), .val (D.int v_kind), .val ((eL D.str) v_letters)] (put st k ((eL D.int) v_pool)) = some (.val ((eP2 (eT D.int) D.str) r.1), put st k ((eL D.int) r.2)) := by
  unfold t_law_grown at h
  refine def_post rfl ?_
  show Post (m_law_grown ⟨[.par k, .val (D.int v_many), .val (D.int v_kind), .val ((eL D.str) v_letters), .un, .un, .un, .un, .un, .un, .un, .un, .un, .un, .un, .un], (put st k ((eL D.int) v_pool))⟩) _
  unfold m_law_grown
  obtain ⟨v_ups1, e2, h⟩ := bnd h
  refine po_asg (Γ2 := ⟨[.par k, .val (D.int v_many), .val (D.int v_kind), .val ((eL D.str) v_letters), .own ((eL D.int) v_ups1), .un, .un, .un, .un, .un, .un, .un, .un, .un, .un, .un], (put st k ((eL D.int) v_pool))⟩) (q_eqF (f := (eL D.int)) (a := ([(-(1 : Int))] : (List Int))) (q_list (q_cons (q_un q_c rfl rfl) q_nil) rfl (lz rfl rfl)) (som e2)) rfl ?_
  obtain ⟨v_line3, e4, h⟩ := bnd h
  refine po_asg (Γ2 := ⟨[.par k, .val (D.int v_many), .val (D.int v_kind), .val ((eL D.str) v_letters), .own ((eL D.int) v_ups1), .val ((eL D.int) v_line3), .un, .un, .un, .un, .un, .un, .un, .un, .un, .un], (put st k ((eL D.int) v_pool))⟩) (q_eqV (f := (eL D.int)) (a := ([(0 : Int)] : (List Int))) (q_frz (q_list (q_cons q_c q_nil) rfl (lz rfl rfl)) rfl) (som e4)) rfl ?_
  obtain ⟨a5, e6, h⟩ := bnd h
  obtain ⟨j37, e38, h⟩ := bnd h
  obtain ⟨Γ9, ef, q39, q40, q41, q42, q43, q44, rfl⟩ := forS_ok (e := D.int) (g := (asgn 6)) (b := b_law_grown_1) (fun (s7 : ((List Int) × (List Int) × (List Int))) Γ => ∃ q8 q9 q10 q11 q12 q13, Γ = ⟨[.par k, .val (D.int v_many), .val (D.int v_kind), .val ((eL D.str) v_letters), .own ((eL D.int) s7.2.1), .val ((eL D.int) s7.2.2), q2v q8, q2c q9, q2c q10, q2c q11, q2c q12, q2c q13, .un, .un, .un, .un], (put st k ((eL D.int) s7.1))⟩) (by
      rintro s7 x14 so Γ h ⟨q8, q9, q10, q11, q12, q13, rfl⟩
      refine ⟨⟨[.par k, .val (D.int v_many), .val (D.int v_kind), .val ((eL D.str) v_letters), .own ((eL D.int) s7.2.1), .val ((eL D.int) s7.2.2), .val (D.int x14), q2c q9, q2c q10, q2c q11, q2c q12, q2c q13, .un, .un, .un, .un], (put st k ((eL D.int) s7.1))⟩, rfl, ?_⟩
      unfold b_law_grown_1
      obtain ⟨v_deep15, e16, h⟩ := bnd h
      refine po_asg (Γ2 := ⟨[.par k, .val (D.int v_many), .val (D.int v_kind), .val ((eL D.str) v_letters), .own ((eL D.int) s7.2.1), .val ((eL D.int) s7.2.2), .val (D.int x14), .val (D.int v_deep15), q2c q10, q2c q11, q2c q12, q2c q13, .un, .un, .un, .un], (put st k ((eL D.int) s7.1))⟩) (q_eqV (f := D.int) (a := ((List.length s7.2.2 : Nat) : Int)) (q_frz (q_callB (q_cons (q_var rfl) q_nil) rfl (o_lenL (e := D.int))) rfl) (som e16)) rfl ?_
      obtain ⟨a17, e18, h⟩ := bnd h
      obtain ⟨a19, e20, h⟩ := bnd h
      refine po_asg (Γ2 := ⟨[.par k, .val (D.int v_many), .val (D.int v_kind), .val ((eL D.str) v_letters), .own ((eL D.int) s7.2.1), .val ((eL D.int) s7.2.2), .val (D.int x14), .val (D.int v_deep15), .val (D.int a19), q2c q11, q2c q12, q2c q13, .un, .un, .un, .un], (put st k ((eL D.int) a17.2))⟩) (q_frz (q_bin (q_list (q_cons (q_var rfl) (q_cons (q_bin q_c (q_callP (sl := [.par k, .val (D.int v_many), .val (D.int v_kind), .val ((eL D.str) v_letters), .own ((eL D.int) s7.2.1), .val ((eL D.int) s7.2.2), .val (D.int x14), .val (D.int v_deep15), q2c q10, q2c q11, q2c q12, q2c q13, .un, .un, .un, .un]) (st := st) (k := k) (x := (eL D.int) s7.1) (y := (eL D.int) a17.2) (.inl ⟨_, rfl⟩) (q_cons (q_varP rfl) (q_cons (q_frz q_c rfl) q_nil)) rfl (w_law_take e18 hk) (nl_p hk (nl_v (nl_v (nl_v (nl_o (nl_v (nl_v (nl_v (nl_q (nl_q (nl_q (nl_q (nl_u (nl_u (nl_u (nl_u nl_0))))))))))))))))) rfl rfl rfl) q_nil)) rfl (lz rfl rfl)) (q_callB (q_cons (q_ofB (q_cmp (q_var rfl) q_c rfl rfl rfl)) q_nil) rfl rfl) rfl rfl (o_ixL (e := D.int) e20)) rfl) rfl ?_
      obtain ⟨a21, e22, h⟩ := bnd h
      obtain ⟨v_near23, e24, h⟩ := bnd h
      refine po_asg (Γ2 := ⟨[.par k, .val (D.int v_many), .val (D.int v_kind), .val ((eL D.str) v_letters), .own ((eL D.int) s7.2.1), .val ((eL D.int) s7.2.2), .val (D.int x14), .val (D.int v_deep15), .val (D.int a19), .val (D.int v_near23), q2c q12, q2c q13, .un, .un, .un, .un], (put st k ((eL D.int) a21.2))⟩) (q_eqV (f := D.int) (a := (maxI2 (1 : Int) (v_deep15 - a21.1))) (q_frz (q_callB (q_cons q_c (q_cons (q_bin (q_var rfl) (q_callP (sl := [.par k, .val (D.int v_many), .val (D.int v_kind), .val ((eL D.str) v_letters), .own ((eL D.int) s7.2.1), .val ((eL D.int) s7.2.2), .val (D.int x14), .val (D.int v_deep15), .val (D.int a19), q2c q11, q2c q12, q2c q13, .un, .un, .un, .un]) (st := st) (k := k) (x := (eL D.int) a17.2) (y := (eL D.int) a21.2) (.inl ⟨_, rfl⟩) (q_cons (q_varP rfl) (q_cons (q_frz q_c rfl) q_nil)) rfl (w_law_take e22 hk) (nl_p hk (nl_v (nl_v (nl_v (nl_o (nl_v (nl_v (nl_v (nl_v (nl_q (nl_q (nl_q (nl_u (nl_u (nl_u (nl_u nl_0))))))))))))))))) rfl rfl rfl) q_nil)) rfl rfl) rfl) (som e24)) rfl ?_
      obtain ⟨v_comb25, e26, h⟩ := bnd h
      refine po_asg (Γ2 := ⟨[.par k, .val (D.int v_many), .val (D.int v_kind), .val ((eL D.str) v_letters), .own ((eL D.int) s7.2.1), .val ((eL D.int) s7.2.2), .val (D.int x14), .val (D.int v_deep15), .val (D.int a19), .val (D.int v_near23), .val (D.int v_comb25), q2c q13, .un, .un, .un, .un], (put st k ((eL D.int) a21.2))⟩) (q_eqV (f := D.int) (a := (maxI2 (1 : Int) ((v_deep15 - (1 : Int)) + (x14 % (2 : Int))))) (q_frz (q_callB (q_cons q_c (q_cons (q_bin (q_bin (q_var rfl) q_c rfl rfl rfl) (q_bin (q_var rfl) q_c rfl rfl (o_modL (by decide))) rfl rfl rfl) q_nil)) rfl rfl) rfl) (som e26)) rfl ?_
      obtain ⟨a27, e28, h⟩ := bnd h
      obtain ⟨a29, e30, h⟩ := bnd h
      refine po_asg (Γ2 := ⟨[.par k, .val (D.int v_many), .val (D.int v_kind), .val ((eL D.str) v_letters), .own ((eL D.int) s7.2.1), .val ((eL D.int) s7.2.2), .val (D.int x14), .val (D.int v_deep15), .val (D.int a19), .val (D.int v_near23), .val (D.int v_comb25), .val (D.int a29), .un, .un, .un, .un], (put st k ((eL D.int) a27.2))⟩) (q_frz (q_bin (q_list (q_cons (q_var rfl) (q_cons q_c (q_cons (q_bin q_c (q_callP (sl := [.par k, .val (D.int v_many), .val (D.int v_kind), .val ((eL D.str) v_letters), .own ((eL D.int) s7.2.1), .val ((eL D.int) s7.2.2), .val (D.int x14), .val (D.int v_deep15), .val (D.int a19), .val (D.int v_near23), .val (D.int v_comb25), q2c q13, .un, .un, .un, .un]) (st := st) (k := k) (x := (eL D.int) a21.2) (y := (eL D.int) a27.2) (.inl ⟨_, rfl⟩) (q_cons (q_varP rfl) (q_cons (q_frz (q_var rfl) rfl) q_nil)) rfl (w_law_take e28 hk) (nl_p hk (nl_v (nl_v (nl_v (nl_o (nl_v (nl_v (nl_v (nl_v (nl_v (nl_v (nl_q (nl_u (nl_u (nl_u (nl_u nl_0))))))))))))))))) rfl rfl rfl) (q_cons (q_var rfl) (q_cons (q_var rfl) (q_cons (q_var rfl) q_nil)))))) rfl (lz rfl rfl)) (q_var rfl) rfl rfl (o_ixL (e := D.int) e30)) rfl) rfl ?_
      obtain ⟨a31, e32, h⟩ := bnd h
      obtain ⟨a33, e34, h⟩ := bnd h
      refine po_drop (Γ1 := ⟨[.par k, .val (D.int v_many), .val (D.int v_kind), .val ((eL D.str) v_letters), .own ((eL D.int) a33), .val ((eL D.int) s7.2.2), .val (D.int x14), .val (D.int v_deep15), .val (D.int a19), .val (D.int v_near23), .val (D.int v_comb25), .val (D.int a29), .un, .un, .un, .un], (put st k ((eL D.int) a27.2))⟩) (q_mut (q_varO rfl) rfl (q_cons (q_frz (q_bin (q_var rfl) (q_bin (q_var rfl) q_c rfl rfl rfl) rfl rfl (o_ixL (e := D.int) e32)) rfl) q_nil) rfl rfl (o_push (e := D.int) e34) rfl) ?_
      refine po_bare ?_
      obtain ⟨a35, e36, h⟩ := bnd h
      refine po_asg (Γ2 := ⟨[.par k, .val (D.int v_many), .val (D.int v_kind), .val ((eL D.str) v_letters), .own ((eL D.int) a33), .val ((eL D.int) a35), .val (D.int x14), .val (D.int v_deep15), .val (D.int a19), .val (D.int v_near23), .val (D.int v_comb25), .val (D.int a29), .un, .un, .un, .un], (put st k ((eL D.int) a27.2))⟩) (q_frz (q_bin (q_sl (q_var rfl) q_pN (q_pS (q_var rfl)) rfl (o_slL (e := D.int))) (q_list (q_cons (q_var rfl) q_nil) rfl (lz rfl rfl)) rfl rfl (o_catL (e := D.int) e36)) rfl) rfl ?_
      obtain rfl := som h
      exact po_end ⟨.inl rfl, .val (D.int x14), .val (D.int v_deep15), .val (D.int a19), .val (D.int v_near23), .val (D.int v_comb25), .val (D.int a29), rfl⟩
      ) e38 (Γ := ⟨[.par k, .val (D.int v_many), .val (D.int v_kind), .val ((eL D.str) v_letters), .own ((eL D.int) v_ups1), .val ((eL D.int) v_line3), .un, .un, .un, .un, .un, .un, .un, .un, .un, .un], (put st k ((eL D.int) v_pool))⟩) ⟨.un, .un, .un, .un, .un, .un, rfl⟩
  refine po_for (i_range2 (q_cons q_c (q_cons (q_var rfl) q_nil)) e6) ef ?_
  obtain ⟨a45, e46, h⟩ := bnd h
  refine po_asg (Γ2 := ⟨[.par k, .val (D.int v_many), .val (D.int v_kind), .val ((eL D.str) v_letters), .own ((eL D.int) j37.2.1), .val ((eL D.int) j37.2.2), q2v q39, q2c q40, q2c q41, q2c q42, q2c q43, q2c q44, .val (D.int a45.1), .un, .un, .un], (put st k ((eL D.int) a45.2))⟩) (q_frz (q_callP (sl := [.par k, .val (D.int v_many), .val (D.int v_kind), .val ((eL D.str) v_letters), .own ((eL D.int) j37.2.1), .val ((eL D.int) j37.2.2), q2v q39, q2c q40, q2c q41, q2c q42, q2c q43, q2c q44, .un, .un, .un, .un]) (st := st) (k := k) (x := (eL D.int) j37.1) (y := (eL D.int) a45.2) (.inl ⟨_, rfl⟩) (q_cons (q_varP rfl) (q_cons (q_frz q_c rfl) q_nil)) rfl (w_law_take e46 hk) (nl_p hk (nl_v (nl_v (nl_v (nl_o (nl_v (nl_w (nl_q (nl_q (nl_q (nl_q (nl_q (nl_u (nl_u (nl_u (nl_u nl_0))))))))))))))))) rfl) rfl ?_
  obtain ⟨a47, e48, h⟩ := bnd h
  obtain ⟨a49, e50, h⟩ := bnd h
  obtain ⟨a51, e52, h⟩ := bnd h
  refine po_asg (Γ2 := ⟨[.par k, .val (D.int v_many), .val (D.int v_kind), .val ((eL D.str) v_letters), .own ((eL D.int) j37.2.1), .val ((eL D.int) j37.2.2), q2v q39, q2c q40, q2c q41, q2c q42, q2c q43, q2c q44, .val (D.int a45.1), .val (D.int a51), .un, .un], (put st k ((eL D.int) a49.2))⟩) (q_frz (q_bin (q_list (q_cons (q_callP (sl := [.par k, .val (D.int v_many), .val (D.int v_kind), .val ((eL D.str) v_letters), .own ((eL D.int) j37.2.1), .val ((eL D.int) j37.2.2), q2v q39, q2c q40, q2c q41, q2c q42, q2c q43, q2c q44, .val (D.int a45.1), .un, .un, .un]) (st := st) (k := k) (x := (eL D.int) a45.2) (y := (eL D.int) a47.2) (.inl ⟨_, rfl⟩) (q_cons (q_varP rfl) (q_cons (q_frz (q_var rfl) rfl) q_nil)) rfl (w_law_take e48 hk) (nl_p hk (nl_v (nl_v (nl_v (nl_o (nl_v (nl_w (nl_q (nl_q (nl_q (nl_q (nl_q (nl_v (nl_u (nl_u (nl_u nl_0))))))))))))))))) (q_cons q_c q_nil)) rfl (lz rfl rfl)) (q_callP (sl := [.par k, .val (D.int v_many), .val (D.int v_kind), .val ((eL D.str) v_letters), .own ((eL D.int) j37.2.1), .val ((eL D.int) j37.2.2), q2v q39, q2c q40, q2c q41, q2c q42, q2c q43, q2c q44, .val (D.int a45.1), .un, .un, .un]) (st := st) (k := k) (x := (eL D.int) a47.2) (y := (eL D.int) a49.2) (.inl ⟨_, rfl⟩) (q_cons (q_varP rfl) (q_cons (q_frz q_c rfl) q_nil)) rfl (w_law_take e50 hk) (nl_p hk (nl_v (nl_v (nl_v (nl_o (nl_v (nl_w (nl_q (nl_q (nl_q (nl_q (nl_q (nl_v (nl_u (nl_u (nl_u nl_0))))))))))))))))) rfl rfl (o_ixL (e := D.int) e52)) rfl) rfl ?_
  refine po_asg (Γ2 := ⟨[.par k, .val (D.int v_many), .val (D.int v_kind), .val ((eL D.str) v_letters), .own ((eL D.int) j37.2.1), .val ((eL D.int) j37.2.2), q2v q39, q2c q40, q2c q41, q2c q42, q2c q43, q2c q44, .val (D.int a45.1), .val (D.int a51), .val (D.str ([] : List Nat)), .un], (put st k ((eL D.int) a49.2))⟩) (q_frz q_c rfl) rfl ?_
  obtain ⟨a53, e54, h⟩ := bnd h
  obtain ⟨j75, e76, h⟩ := bnd h
  obtain ⟨Γ9, ef, q77, q78, rfl⟩ := forS_ok (e := D.int) (g := (asgn 6)) (b := b_law_grown_2) (fun (s55 : ((List Int) × (List Nat))) Γ => ∃ q56 q57, Γ = ⟨[.par k, .val (D.int v_many), .val (D.int v_kind), .val ((eL D.str) v_letters), .own ((eL D.int) j37.2.1), .val ((eL D.int) j37.2.2), q2v q56, q2c q40, q2c q41, q2c q42, q2c q43, q2c q44, .val (D.int a45.1), .val (D.int a51), .val (D.str s55.2), q2c q57], (put st k ((eL D.int) s55.1))⟩) (by
      rintro s55 x58 so Γ h ⟨q56, q57, rfl⟩
      refine ⟨⟨[.par k, .val (D.int v_many), .val (D.int v_kind), .val ((eL D.str) v_letters), .own ((eL D.int) j37.2.1), .val ((eL D.int) j37.2.2), .val (D.int x58), q2c q40, q2c q41, q2c q42, q2c q43, q2c q44, .val (D.int a45.1), .val (D.int a51), .val (D.str s55.2), q2c q57], (put st k ((eL D.int) s55.1))⟩, rfl, ?_⟩
      unfold b_law_grown_2
      obtain ⟨a59, e60, h⟩ := bnd h
      refine po_asg (Γ2 := ⟨[.par k, .val (D.int v_many), .val (D.int v_kind), .val ((eL D.str) v_letters), .own ((eL D.int) j37.2.1), .val ((eL D.int) j37.2.2), .val (D.int x58), q2c q40, q2c q41, q2c q42, q2c q43, q2c q44, .val (D.int a45.1), .val (D.int a51), .val (D.str s55.2), .val (D.int a59.1)], (put st k ((eL D.int) a59.2))⟩) (q_frz (q_callP (sl := [.par k, .val (D.int v_many), .val (D.int v_kind), .val ((eL D.str) v_letters), .own ((eL D.int) j37.2.1), .val ((eL D.int) j37.2.2), .val (D.int x58), q2c q40, q2c q41, q2c q42, q2c q43, q2c q44, .val (D.int a45.1), .val (D.int a51), .val (D.str s55.2), q2c q57]) (st := st) (k := k) (x := (eL D.int) s55.1) (y := (eL D.int) a59.2) (.inl ⟨_, rfl⟩) (q_cons (q_varP rfl) (q_cons (q_frz (q_callB (q_cons (q_var rfl) q_nil) rfl (o_lenL (e := D.str))) rfl) q_nil)) rfl (w_law_take e60 hk) (nl_p hk (nl_v (nl_v (nl_v (nl_o (nl_v (nl_v (nl_q (nl_q (nl_q (nl_q (nl_q (nl_v (nl_v (nl_v (nl_q nl_0))))))))))))))))) rfl) rfl ?_
      obtain ⟨j65, e66, h⟩ := bnd h
      refine po_join (ψ := (fun p => p = (.nx, ⟨[.par k, .val (D.int v_many), .val (D.int v_kind), .val ((eL D.str) v_letters), .own ((eL D.int) j37.2.1), .val ((eL D.int) j37.2.2), .val (D.int x58), q2c q40, q2c q41, q2c q42, q2c q43, q2c q44, .val (D.int a45.1), .val (D.int a51), .val (D.str s55.2), .val (D.int j65)], (put st k ((eL D.int) a59.2))⟩))) ?_ ?_
      · replace h := e66
        clear e66
        rcases ifo h with ⟨hc, h⟩ | ⟨hc, h⟩
        · refine pj_ifT (tr_t (q_chain q_c (q_var rfl) rfl rfl rfl q_c rfl rfl) hc) ?_
          refine po_bare ?_
          obtain ⟨a61, e62, h⟩ := bnd h
          obtain ⟨a63, e64, h⟩ := bnd h
          refine po_asg (Γ2 := ⟨[.par k, .val (D.int v_many), .val (D.int v_kind), .val ((eL D.str) v_letters), .own ((eL D.int) j37.2.1), .val ((eL D.int) j37.2.2), .val (D.int x58), q2c q40, q2c q41, q2c q42, q2c q43, q2c q44, .val (D.int a45.1), .val (D.int a51), .val (D.str s55.2), .val (D.int a63)], (put st k ((eL D.int) a59.2))⟩) (q_frz (q_bin (q_bin (q_var rfl) (q_var rfl) rfl rfl (o_mod e62)) (q_callB (q_cons (q_var rfl) q_nil) rfl (o_lenL (e := D.str))) rfl rfl (o_mod e64)) rfl) rfl ?_
          obtain rfl := som h
          exact po_end rfl
        · refine pj_ifF (tr_f (q_chain q_c (q_var rfl) rfl rfl rfl q_c rfl rfl) hc) ?_
          obtain rfl := som h
          exact po_end rfl
      rintro _ rfl
      refine ⟨_, rfl, ?_⟩
      obtain ⟨j69, e70, h⟩ := bnd h
      refine po_join (ψ := (fun p => p = (.nx, ⟨[.par k, .val (D.int v_many), .val (D.int v_kind), .val ((eL D.str) v_letters), .own ((eL D.int) j37.2.1), .val ((eL D.int) j37.2.2), .val (D.int x58), q2c q40, q2c q41, q2c q42, q2c q43, q2c q44, .val (D.int a45.1), .val (D.int a51), .val (D.str s55.2), .val (D.int j69)], (put st k ((eL D.int) a59.2))⟩))) ?_ ?_
      · replace h := e70
        clear e70
        rcases ifo h with ⟨hc, h⟩ | ⟨hc, h⟩
        · refine pj_ifT (tr_t (q_cmp (q_var rfl) q_c rfl rfl rfl) hc) ?_
          refine po_bare ?_
          obtain ⟨a67, e68, h⟩ := bnd h
          refine po_asg (Γ2 := ⟨[.par k, .val (D.int v_many), .val (D.int v_kind), .val ((eL D.str) v_letters), .own ((eL D.int) j37.2.1), .val ((eL D.int) j37.2.2), .val (D.int x58), q2c q40, q2c q41, q2c q42, q2c q43, q2c q44, .val (D.int a45.1), .val (D.int a51), .val (D.str s55.2), .val (D.int a67)], (put st k ((eL D.int) a59.2))⟩) (q_frz (q_bin (q_callB (q_cons (q_ofB (q_cmp (q_var rfl) (q_var rfl) rfl rfl (o_eq (e := D.int) ee_I x58 a51))) q_nil) rfl rfl) (q_callB (q_cons (q_var rfl) q_nil) rfl (o_lenL (e := D.str))) rfl rfl (o_mod e68)) rfl) rfl ?_
          obtain rfl := som h
          exact po_end rfl
        · refine pj_ifF (tr_f (q_cmp (q_var rfl) q_c rfl rfl rfl) hc) ?_
          obtain rfl := som h
          exact po_end rfl
      rintro _ rfl
      refine ⟨_, rfl, ?_⟩
      refine po_bare ?_
      obtain ⟨a71, e72, h⟩ := bnd h
      obtain ⟨a73, e74, h⟩ := bnd h
      refine po_asg (Γ2 := ⟨[.par k, .val (D.int v_many), .val (D.int v_kind), .val ((eL D.str) v_letters), .own ((eL D.int) j37.2.1), .val ((eL D.int) j37.2.2), .val (D.int x58), q2c q40, q2c q41, q2c q42, q2c q43, q2c q44, .val (D.int a45.1), .val (D.int a51), .val (D.str a73), .val (D.int j69)], (put st k ((eL D.int) a59.2))⟩) (q_frz (q_bin (q_var rfl) (q_bin (q_var rfl) (q_var rfl) rfl rfl (o_ixL (e := D.str) e72)) rfl rfl (o_catS e74)) rfl) rfl ?_
      obtain rfl := som h
      exact po_end ⟨.inl rfl, .val (D.int x58), .val (D.int j69), rfl⟩
      ) e76 (Γ := ⟨[.par k, .val (D.int v_many), .val (D.int v_kind), .val ((eL D.str) v_letters), .own ((eL D.int) j37.2.1), .val ((eL D.int) j37.2.2), q2v q39, q2c q40, q2c q41, q2c q42, q2c q43, q2c q44, .val (D.int a45.1), .val (D.int a51), .val (D.str ([] : List Nat)), .un], (put st k ((eL D.int) a49.2))⟩) ⟨q39, .un, rfl⟩
  refine po_for (i_range1 (q_cons (q_var rfl) q_nil) e54) ef ?_
  refine po_bare ?_
  obtain rfl := som h
  exact po_ret (Γ1 := ⟨[.par k, .val (D.int v_many), .val (D.int v_kind), .val ((eL D.str) v_letters), .own ((eL D.int) j37.2.1), .val ((eL D.int) j37.2.2), q2v q77, q2c q40, q2c q41, q2c q42, q2c q43, q2c q44, .val (D.int a45.1), .val (D.int a51), .val (D.str j75.2), q2c q78], (put st k ((eL D.int) j75.1))⟩) (q_frz (q_tup (q_cons (q_callB (q_cons (q_varO rfl) q_nil) rfl rfl) (q_cons (q_var rfl) q_nil)) rfl (lz rfl rfl)) rfl) ⟨_, _, rfl, rfl⟩
def t_law_copies (v_pool : (List Int)) (v_most : Int) (v_letters : (List (List Nat))) : Option (((List Int) × (List Nat)) × (List Int)) :=
  (t_law_take v_pool (6 : Int)).bind fun a1 =>
  (t_law_grown a1.2 ((1 : Int) + a1.1) (2 : Int) v_letters).bind fun a3 =>
  (t_law_take a3.2 (2 : Int)).bind fun a5 =>
  (some ([(-(1 : Int))] : (List Int))).bind fun v_ups7 =>
  (t_law_take a5.2 ((List.length v_letters : Nat) : Int)).bind fun a9 =>
  (atI v_letters a9.1).bind fun a11 =>
  (t_law_take a9.2 (12 : Int)).bind fun a13 =>
  (range1T ((1 : Int) + a13.1)).bind fun a15 =>
  (forS (fun (s17 : ((List Int) × (List Nat))) (x20 : Int) => show Option (((List Int) × (List Nat))) from
    if (decide ((((List.length s17.1 : Nat) : Int) + ((List.length a3.1.1 : Nat) : Int)) ≤ v_most)) = true then (
      (some ((List.length s17.1 : Nat) : Int)).bind fun v_here21 =>
      (atI ([(0 : Int), (v_here21 - (1 : Int))] : (List Int)) a5.1).bind fun a23 =>
      (lcM (fun (x25 : Int) =>  some (x25 + v_here21)) (cutL a3.1.1 (some (1 : Int)) none)).bind fun a26 =>
      (catT ([a23] : (List Int)) a26).bind fun a28 =>
      (extT s17.1 a28).bind fun a30 =>
      (catT s17.2 a3.1.2).bind fun a32 =>
      some (a30, a32)
    ) else (
      some (s17.1, s17.2)
    )) a15 (v_ups7, a11)).bind fun j34 =>
  some ((j34.1, j34.2), a13.2)
theorem w_law_copies {v_pool : (List Int)} {v_most : Int} {v_letters : (List (List Nat))} {r : (((List Int) × (List Nat)) × (List Int))} (h : t_law_copies v_pool v_most v_letters = some r) {st : List SC} {k : Nat} (hk : k < st.length) : f_law_copies [.par k, .val (D.int v_most), .val ((eL D.str) v_letters)] (put st k ((eL D.int) v_pool)) = some (.val ((eP2 (eT D.int) D.str) r.1), put st k ((eL D.int) r.2)) := by
  unfold t_law_copies at h
  refine def_post rfl ?_
  show Post (m_law_copies ⟨[.par k, .val (D.int v_most), .val ((eL D.str) v_letters), .un, .un, .un, .un, .un, .un, .un], (put st k ((eL D.int) v_pool))⟩) _
  unfold m_law_copies
  obtain ⟨a1, e2, h⟩ := bnd h
  obtain ⟨a3, e4, h⟩ := bnd h
  refine po_asg (Γ2 := ⟨[.par k, .val (D.int v_most), .val ((eL D.str) v_letters), .val ((eP2 (eT D.int) D.str) a3.1), .un, .un, .un, .un, .un, .un], (put st k ((eL D.int) a3.2))⟩) (q_frz (q_callP (sl := [.par k, .val (D.int v_most), .val ((eL D.str) v_letters), .un, .un, .un, .un, .un, .un, .un]) (st := st) (k := k) (x := (eL D.int) a1.2) (y := (eL D.int) a3.2) (.inl ⟨_, rfl⟩) (q_cons (q_varP rfl) (q_cons (q_frz (q_bin q_c (q_callP (sl := [.par k, .val (D.int v_most), .val ((eL D.str) v_letters), .un, .un, .un, .un, .un, .un, .un]) (st := st) (k := k) (x := (eL D.int) v_pool) (y := (eL D.int) a1.2) (.inl ⟨_, rfl⟩) (q_cons (q_varP rfl) (q_cons (q_frz q_c rfl) q_nil)) rfl (w_law_take e2 hk) (nl_p hk (nl_v (nl_v (nl_u (nl_u (nl_u (nl_u (nl_u (nl_u (nl_u nl_0))))))))))) rfl rfl rfl) rfl) (q_cons (q_frz q_c rfl) (q_cons (q_frz (q_var rfl) rfl) q_nil)))) rfl (w_law_grown e4 hk) (nl_p hk (nl_v (nl_v (nl_u (nl_u (nl_u (nl_u (nl_u (nl_u (nl_u nl_0))))))))))) rfl) rfl ?_
  obtain ⟨a5, e6, h⟩ := bnd h
  refine po_asg (Γ2 := ⟨[.par k, .val (D.int v_most), .val ((eL D.str) v_letters), .val ((eP2 (eT D.int) D.str) a3.1), .val (D.int a5.1), .un, .un, .un, .un, .un], (put st k ((eL D.int) a5.2))⟩) (q_frz (q_callP (sl := [.par k, .val (D.int v_most), .val ((eL D.str) v_letters), .val ((eP2 (eT D.int) D.str) a3.1), .un, .un, .un, .un, .un, .un]) (st := st) (k := k) (x := (eL D.int) a3.2) (y := (eL D.int) a5.2) (.inl ⟨_, rfl⟩) (q_cons (q_varP rfl) (q_cons (q_frz q_c rfl) q_nil)) rfl (w_law_take e6 hk) (nl_p hk (nl_v (nl_v (nl_v (nl_u (nl_u (nl_u (nl_u (nl_u (nl_u nl_0))))))))))) rfl) rfl ?_
  obtain ⟨v_ups7, e8, h⟩ := bnd h
  refine po_asg (Γ2 := ⟨[.par k, .val (D.int v_most), .val ((eL D.str) v_letters), .val ((eP2 (eT D.int) D.str) a3.1), .val (D.int a5.1), .own ((eL D.int) v_ups7), .un, .un, .un, .un], (put st k ((eL D.int) a5.2))⟩) (q_eqF (f := (eL D.int)) (a := ([(-(1 : Int))] : (List Int))) (q_list (q_cons (q_un q_c rfl rfl) q_nil) rfl (lz rfl rfl)) (som e8)) rfl ?_
  obtain ⟨a9, e10, h⟩ := bnd h
  obtain ⟨a11, e12, h⟩ := bnd h
  refine po_asg (Γ2 := ⟨[.par k, .val (D.int v_most), .val ((eL D.str) v_letters), .val ((eP2 (eT D.int) D.str) a3.1), .val (D.int a5.1), .own ((eL D.int) v_ups7), .val (D.str a11), .un, .un, .un], (put st k ((eL D.int) a9.2))⟩) (q_frz (q_bin (q_var rfl) (q_callP (sl := [.par k, .val (D.int v_most), .val ((eL D.str) v_letters), .val ((eP2 (eT D.int) D.str) a3.1), .val (D.int a5.1), .own ((eL D.int) v_ups7), .un, .un, .un, .un]) (st := st) (k := k) (x := (eL D.int) a5.2) (y := (eL D.int) a9.2) (.inl ⟨_, rfl⟩) (q_cons (q_varP rfl) (q_cons (q_frz (q_callB (q_cons (q_var rfl) q_nil) rfl (o_lenL (e := D.str))) rfl) q_nil)) rfl (w_law_take e10 hk) (nl_p hk (nl_v (nl_v (nl_v (nl_v (nl_o (nl_u (nl_u (nl_u (nl_u nl_0))))))))))) rfl rfl (o_ixL (e := D.str) e12)) rfl) rfl ?_
  obtain ⟨a13, e14, h⟩ := bnd h
  obtain ⟨a15, e16, h⟩ := bnd h
  obtain ⟨j34, e35, h⟩ := bnd h
  obtain ⟨Γ9, ef, q36, q37, rfl⟩ := forS_ok (e := D.int) (g := (asgn 7)) (b := b_law_copies_1) (fun (s17 : ((List Int) × (List Nat))) Γ => ∃ q18 q19, Γ = ⟨[.par k, .val (D.int v_most), .val ((eL D.str) v_letters), .val ((eP2 (eT D.int) D.str) a3.1), .val (D.int a5.1), .own ((eL D.int) s17.1), .val (D.str s17.2), q2v q18, q2c q19, .un], (put st k ((eL D.int) a13.2))⟩) (by
      rintro s17 x20 so Γ h ⟨q18, q19, rfl⟩
      refine ⟨⟨[.par k, .val (D.int v_most), .val ((eL D.str) v_letters), .val ((eP2 (eT D.int) D.str) a3.1), .val (D.int a5.1), .own ((eL D.int) s17.1), .val (D.str s17.2), .val (D.int x20), q2c q19, .un], (put st k ((eL D.int) a13.2))⟩, rfl, ?_⟩
      unfold b_law_copies_1
      refine po_bare ?_
      rcases ifo h with ⟨hc, h⟩ | ⟨hc, h⟩
      · refine po_ifT (tr_t (q_cmp (q_bin (q_callB (q_cons (q_varO rfl) q_nil) rfl (o_lenL (e := D.int))) (q_callB (q_cons (q_bin (q_var rfl) q_c rfl rfl rfl) q_nil) rfl (o_lenT (e := D.int))) rfl rfl rfl) (q_var rfl) rfl rfl rfl) hc) ?_
        refine po_assoc ?_
        obtain ⟨v_here21, e22, h⟩ := bnd h
        refine po_asg (Γ2 := ⟨[.par k, .val (D.int v_most), .val ((eL D.str) v_letters), .val ((eP2 (eT D.int) D.str) a3.1), .val (D.int a5.1), .own ((eL D.int) s17.1), .val (D.str s17.2), .val (D.int x20), .val (D.int v_here21), .un], (put st k ((eL D.int) a13.2))⟩) (q_eqV (f := D.int) (a := ((List.length s17.1 : Nat) : Int)) (q_frz (q_callB (q_cons (q_varO rfl) q_nil) rfl (o_lenL (e := D.int))) rfl) (som e22)) rfl ?_
        refine po_assoc ?_
        obtain ⟨a23, e24, h⟩ := bnd h
        obtain ⟨a26, e27, h⟩ := bnd h
        obtain ⟨a28, e29, h⟩ := bnd h
        obtain ⟨a30, e31, h⟩ := bnd h
        refine po_drop (Γ1 := ⟨[.par k, .val (D.int v_most), .val ((eL D.str) v_letters), .val ((eP2 (eT D.int) D.str) a3.1), .val (D.int a5.1), .own ((eL D.int) a30), .val (D.str s17.2), .val (D.int x20), .val (D.int v_here21), .un], (put st k ((eL D.int) a13.2))⟩) (q_extT (e := D.int) (q_varO rfl) rfl (q_bin (q_list (q_cons (q_bin (q_list (q_cons q_c (q_cons (q_bin (q_var rfl) q_c rfl rfl rfl) q_nil)) rfl (lz rfl rfl)) (q_var rfl) rfl rfl (o_ixL (e := D.int) e24)) q_nil) rfl (lz rfl rfl)) (q_lcM D.int D.int (q_iseqT (q_sl (q_bin (q_var rfl) q_c rfl rfl rfl) (q_pS q_c) q_pN rfl (o_slT (e := D.int))) rfl) rfl (fun x25 y hy => by (obtain rfl := som hy; exact turn_yes (Γ1 := ⟨[.par k, .val (D.int v_most), .val ((eL D.str) v_letters), .val ((eP2 (eT D.int) D.str) a3.1), .val (D.int a5.1), .own ((eL D.int) s17.1), .val (D.str s17.2), .val (D.int x20), .val (D.int v_here21), .val (D.int x25)], (put st k ((eL D.int) a13.2))⟩) rfl rfl (q_bin (q_var rfl) (q_var rfl) rfl rfl rfl) rfl rfl)) e27) rfl rfl (o_catL (e := D.int) e29)) rfl rfl e31 rfl) ?_
        obtain ⟨a32, e33, h⟩ := bnd h
        refine po_asg (Γ2 := ⟨[.par k, .val (D.int v_most), .val ((eL D.str) v_letters), .val ((eP2 (eT D.int) D.str) a3.1), .val (D.int a5.1), .own ((eL D.int) a30), .val (D.str a32), .val (D.int x20), .val (D.int v_here21), .un], (put st k ((eL D.int) a13.2))⟩) (q_frz (q_bin (q_var rfl) (q_bin (q_var rfl) q_c rfl rfl rfl) rfl rfl (o_catS e33)) rfl) rfl ?_
        obtain rfl := som h
        exact po_end ⟨.inl rfl, .val (D.int x20), .val (D.int v_here21), rfl⟩
      · refine po_ifF (tr_f (q_cmp (q_bin (q_callB (q_cons (q_varO rfl) q_nil) rfl (o_lenL (e := D.int))) (q_callB (q_cons (q_bin (q_var rfl) q_c rfl rfl rfl) q_nil) rfl (o_lenT (e := D.int))) rfl rfl rfl) (q_var rfl) rfl rfl rfl) hc) ?_
        refine po_next ?_
        obtain rfl := som h
        exact po_end ⟨.inl rfl, .val (D.int x20), q19, rfl⟩
      ) e35 (Γ := ⟨[.par k, .val (D.int v_most), .val ((eL D.str) v_letters), .val ((eP2 (eT D.int) D.str) a3.1), .val (D.int a5.1), .own ((eL D.int) v_ups7), .val (D.str a11), .un, .un, .un], (put st k ((eL D.int) a13.2))⟩) ⟨.un, .un, rfl⟩
  refine po_for (i_range1 (q_cons (q_bin q_c (q_callP (sl := [.par k, .val (D.int v_most), .val ((eL D.str) v_letters), .val ((eP2 (eT D.int) D.str) a3.1), .val (D.int a5.1), .own ((eL D.int) v_ups7), .val (D.str a11), .un, .un, .un]) (st := st) (k := k) (x := (eL D.int) a9.2) (y := (eL D.int) a13.2) (.inl ⟨_, rfl⟩) (q_cons (q_varP rfl) (q_cons (q_frz q_c rfl) q_nil)) rfl (w_law_take e14 hk) (nl_p hk (nl_v (nl_v (nl_v (nl_v (nl_o (nl_v (nl_u (nl_u (nl_u nl_0))))))))))) rfl rfl rfl) q_nil) e16) ef ?_
  refine po_bare ?_
  obtain rfl := som h
  exact po_ret (Γ1 := ⟨[.par k, .val (D.int v_most), .val ((eL D.str) v_letters), .val ((eP2 (eT D.int) D.str) a3.1), .val (D.int a5.1), .own ((eL D.int) j34.1), .val (D.str j34.2), q2v q36, q2c q37, .un], (put st k ((eL D.int) a13.2))⟩) (q_frz (q_tup (q_cons (q_callB (q_cons (q_varO rfl) q_nil) rfl rfl) (q_cons (q_var rfl) q_nil)) rfl (lz rfl rfl)) rfl) ⟨_, _, rfl, rfl⟩
def t_law_tree (v_pool : (List Int)) (v_most : Int) (v_letters : (List (List Nat))) : Option (((List Int) × (List Nat)) × (List Int)) :=
  (t_law_take v_pool (8 : Int)).bind fun a1 =>
  (t_law_take a1.2 (9 : Int)).bind fun a3 =>
  (t_law_take a3.2 v_most).bind fun a5 =>
  (t_law_take a5.2 (3 : Int)).bind fun a7 =>
  (atI ([((1 : Int) + a3.1), ((1 : Int) + a5.1), v_most] : (List Int)) a7.1).bind fun a9 =>
  if (decide ((5 : Int) < a1.1)) = true then (
    (t_law_copies a7.2 v_most v_letters).bind fun a11 =>
    some (a11.1, a11.2)
  ) else (
    (t_law_grown a7.2 a9 a1.1 v_letters).bind fun a13 =>
    some (a13.1, a13.2)
  )
theorem w_law_tree {v_pool : (List Int)} {v_most : Int} {v_letters : (List (List Nat))} {r : (((List Int) × (List Nat)) × (List Int))} (h : t_law_tree v_pool v_most v_letters = some r) {st : List SC} {k : Nat} (hk : k < st.length) : f_law_tree [.par k, .val (D.int v_most), .val ((eL D.str) v_letters)] (put st k ((eL D.int) v_pool)) = some (.val ((eP2 (eT D.int) D.str) r.1), put st k ((eL D.int) r.2)) := by
  unfold t_law_tree at h
  refine def_post rfl ?_
  show Post (m_law_tree ⟨[.par k, .val (D.int v_most), .val ((eL D.str) v_letters), .un, .un], (put st k ((eL D.int) v_pool))⟩) _
  unfold m_law_tree
  obtain ⟨a1, e2, h⟩ := bnd h
  refine po_asg (Γ2 := ⟨[.par k, .val (D.int v_most), .val ((eL D.str) v_letters), .val (D.int a1.1), .un], (put st k ((eL D.int) a1.2))⟩) (q_frz (q_callP (sl := [.par k, .val (D.int v_most), .val ((eL D.str) v_letters), .un, .un]) (st := st) (k := k) (x := (eL D.int) v_pool) (y := (eL D.int) a1.2) (.inl ⟨_, rfl⟩) (q_cons (q_varP rfl) (q_cons (q_frz q_c rfl) q_nil)) rfl (w_law_take e2 hk) (nl_p hk (nl_v (nl_v (nl_u (nl_u nl_0)))))) rfl) rfl ?_
  obtain ⟨a3, e4, h⟩ := bnd h
  obtain ⟨a5, e6, h⟩ := bnd h
  obtain ⟨a7, e8, h⟩ := bnd h
  obtain ⟨a9, e10, h⟩ := bnd h
  refine po_asg (Γ2 := ⟨[.par k, .val (D.int v_most), .val ((eL D.str) v_letters), .val (D.int a1.1), .val (D.int a9)], (put st k ((eL D.int) a7.2))⟩) (q_frz (q_bin (q_list (q_cons (q_bin q_c (q_callP (sl := [.par k, .val (D.int v_most), .val ((eL D.str) v_letters), .val (D.int a1.1), .un]) (st := st) (k := k) (x := (eL D.int) a1.2) (y := (eL D.int) a3.2) (.inl ⟨_, rfl⟩) (q_cons (q_varP rfl) (q_cons (q_frz q_c rfl) q_nil)) rfl (w_law_take e4 hk) (nl_p hk (nl_v (nl_v (nl_v (nl_u nl_0)))))) rfl rfl rfl) (q_cons (q_bin q_c (q_callP (sl := [.par k, .val (D.int v_most), .val ((eL D.str) v_letters), .val (D.int a1.1), .un]) (st := st) (k := k) (x := (eL D.int) a3.2) (y := (eL D.int) a5.2) (.inl ⟨_, rfl⟩) (q_cons (q_varP rfl) (q_cons (q_frz (q_var rfl) rfl) q_nil)) rfl (w_law_take e6 hk) (nl_p hk (nl_v (nl_v (nl_v (nl_u nl_0)))))) rfl rfl rfl) (q_cons (q_var rfl) q_nil))) rfl (lz rfl rfl)) (q_callP (sl := [.par k, .val (D.int v_most), .val ((eL D.str) v_letters), .val (D.int a1.1), .un]) (st := st) (k := k) (x := (eL D.int) a5.2) (y := (eL D.int) a7.2) (.inl ⟨_, rfl⟩) (q_cons (q_varP rfl) (q_cons (q_frz q_c rfl) q_nil)) rfl (w_law_take e8 hk) (nl_p hk (nl_v (nl_v (nl_v (nl_u nl_0)))))) rfl rfl (o_ixL (e := D.int) e10)) rfl) rfl ?_
  rcases ifo h with ⟨hc, h⟩ | ⟨hc, h⟩
  · refine po_ifT (tr_t (q_cmp (q_var rfl) q_c rfl rfl rfl) hc) ?_
    obtain ⟨a11, e12, h⟩ := bnd h
    obtain rfl := som h
    exact po_ret (Γ1 := ⟨[.par k, .val (D.int v_most), .val ((eL D.str) v_letters), .val (D.int a1.1), .val (D.int a9)], (put st k ((eL D.int) a11.2))⟩) (q_frz (q_callP (sl := [.par k, .val (D.int v_most), .val ((eL D.str) v_letters), .val (D.int a1.1), .val (D.int a9)]) (st := st) (k := k) (x := (eL D.int) a7.2) (y := (eL D.int) a11.2) (.inl ⟨_, rfl⟩) (q_cons (q_varP rfl) (q_cons (q_frz (q_var rfl) rfl) (q_cons (q_frz (q_var rfl) rfl) q_nil))) rfl (w_law_copies e12 hk) (nl_p hk (nl_v (nl_v (nl_v (nl_v nl_0)))))) rfl) ⟨_, _, rfl, rfl⟩
  · refine po_ifF (tr_f (q_cmp (q_var rfl) q_c rfl rfl rfl) hc) ?_
    refine po_next ?_
    refine po_bare ?_
    obtain ⟨a13, e14, h⟩ := bnd h
    obtain rfl := som h
    exact po_ret (Γ1 := ⟨[.par k, .val (D.int v_most), .val ((eL D.str) v_letters), .val (D.int a1.1), .val (D.int a9)], (put st k ((eL D.int) a13.2))⟩) (q_frz (q_callP (sl := [.par k, .val (D.int v_most), .val ((eL D.str) v_letters), .val (D.int a1.1), .val (D.int a9)]) (st := st) (k := k) (x := (eL D.int) a7.2) (y := (eL D.int) a13.2) (.inl ⟨_, rfl⟩) (q_cons (q_varP rfl) (q_cons (q_frz (q_var rfl) rfl) (q_cons (q_frz (q_var rfl) rfl) (q_cons (q_frz (q_var rfl) rfl) q_nil)))) rfl (w_law_grown e14 hk) (nl_p hk (nl_v (nl_v (nl_v (nl_v nl_0)))))) rfl) ⟨_, _, rfl, rfl⟩
def t_law_both (v_pool : (List Int)) : Option (((List Int) × (List Nat)) × ((List Int) × (List Nat))) :=
  (t_law_take v_pool (6 : Int)).bind fun a1 =>
  (t_law_letters a1.2).bind fun a3 =>
  (t_law_tree a3.2 (60 : Int) a3.1).bind fun a5 =>
  (t_law_letters a5.2).bind fun a7 =>
  (atI ([a3.1, a7.1] : (List (List (List Nat)))) (if (a1.1 == (0 : Int)) = true then (1 : Int) else 0)).bind fun a9 =>
  (t_law_tree a7.2 (60 : Int) a9).bind fun a11 =>
  (show Option ((List Int) × (List Nat)) from if (a1.1 == (4 : Int)) = true then (
    some a5.1
  ) else (
    some a11.1
  )).bind fun j13 =>
  (show Option ((List Int) × (List Nat)) from if (a1.1 == (5 : Int)) = true then (
    (t_law_take a11.2 ((List.length a5.1.2 : Nat) : Int)).bind fun a15 =>
    (t_law_take a15.2 ((List.length a3.1 : Nat) : Int)).bind fun a17 =>
    (atI a3.1 a17.1).bind fun a19 =>
    (catT (cutL a5.1.2 none (some a15.1)) a19).bind fun a21 =>
    (catT a21 (cutL a5.1.2 (some (a15.1 + (1 : Int))) none)).bind fun a23 =>
    some (a5.1.1, a23)
  ) else (
    some j13
  )).bind fun j25 =>
  some (a5.1, j25)
theorem w_law_both {v_pool : (List Int)} {r : (((List Int) × (List Nat)) × ((List Int) × (List Nat)))} (h : t_law_both v_pool = some r) {st : List SC} : f_law_both [.own ((eL D.int) v_pool)] st = some (.val ((eP2 (eP2 (eT D.int) D.str) (eP2 (eT D.int) D.str)) r), st) := by
  unfold t_law_both at h
  refine def_post rfl ?_
  show Post (m_law_both ⟨[.own ((eL D.int) v_pool), .un, .un, .un, .un, .un, .un], st⟩) _
  unfold m_law_both
  obtain ⟨a1, e2, h⟩ := bnd h
  refine po_asg (Γ2 := ⟨[.own ((eL D.int) a1.2), .val (D.int a1.1), .un, .un, .un, .un, .un], st⟩) (q_frz (q_callO (i := 0) (sl := [.own ((eL D.int) v_pool), .un, .un, .un, .un, .un, .un]) (st := st) (x := (eL D.int) v_pool) (y := (eL D.int) a1.2) (.inl ⟨_, rfl⟩) (q_cons (q_varO rfl) (q_cons (q_frz q_c rfl) q_nil)) rfl (w_law_take e2 (lt_app _ _)) (nl_o (nl_u (nl_u (nl_u (nl_u (nl_u (nl_u nl_0))))))) (lz1 rfl rfl)) rfl) rfl ?_
  obtain ⟨a3, e4, h⟩ := bnd h
  refine po_asg (Γ2 := ⟨[.own ((eL D.int) a3.2), .val (D.int a1.1), .val ((eL D.str) a3.1), .un, .un, .un, .un], st⟩) (q_frz (q_callO (i := 0) (sl := [.own ((eL D.int) a1.2), .val (D.int a1.1), .un, .un, .un, .un, .un]) (st := st) (x := (eL D.int) a1.2) (y := (eL D.int) a3.2) (.inl ⟨_, rfl⟩) (q_cons (q_varO rfl) q_nil) rfl (w_law_letters e4 (lt_app _ _)) (nl_o (nl_v (nl_u (nl_u (nl_u (nl_u (nl_u nl_0))))))) (lz1 rfl rfl)) rfl) rfl ?_
  obtain ⟨a5, e6, h⟩ := bnd h
  refine po_asg (Γ2 := ⟨[.own ((eL D.int) a5.2), .val (D.int a1.1), .val ((eL D.str) a3.1), .val ((eP2 (eT D.int) D.str) a5.1), .un, .un, .un], st⟩) (q_frz (q_callO (i := 0) (sl := [.own ((eL D.int) a3.2), .val (D.int a1.1), .val ((eL D.str) a3.1), .un, .un, .un, .un]) (st := st) (x := (eL D.int) a3.2) (y := (eL D.int) a5.2) (.inl ⟨_, rfl⟩) (q_cons (q_varO rfl) (q_cons (q_frz q_c rfl) (q_cons (q_frz (q_var rfl) rfl) q_nil))) rfl (w_law_tree e6 (lt_app _ _)) (nl_o (nl_v (nl_v (nl_u (nl_u (nl_u (nl_u nl_0))))))) (lz1 rfl rfl)) rfl) rfl ?_
  obtain ⟨a7, e8, h⟩ := bnd h
  obtain ⟨a9, e10, h⟩ := bnd h
  obtain ⟨a11, e12, h⟩ := bnd h
  refine po_asg (Γ2 := ⟨[.own ((eL D.int) a11.2), .val (D.int a1.1), .val ((eL D.str) a3.1), .val ((eP2 (eT D.int) D.str) a5.1), .val ((eP2 (eT D.int) D.str) a11.1), .un, .un], st⟩) (q_frz (q_callO (i := 0) (sl := [.own ((eL D.int) a7.2), .val (D.int a1.1), .val ((eL D.str) a3.1), .val ((eP2 (eT D.int) D.str) a5.1), .un, .un, .un]) (st := st) (x := (eL D.int) a7.2) (y := (eL D.int) a11.2) (.inl ⟨_, rfl⟩) (q_cons (q_varO rfl) (q_cons (q_frz q_c rfl) (q_cons (q_frz (q_bin (q_list (q_cons (q_var rfl) (q_cons (q_callO (i := 0) (sl := [.own ((eL D.int) a5.2), .val (D.int a1.1), .val ((eL D.str) a3.1), .val ((eP2 (eT D.int) D.str) a5.1), .un, .un, .un]) (st := st) (x := (eL D.int) a5.2) (y := (eL D.int) a7.2) (.inl ⟨_, rfl⟩) (q_cons (q_varO rfl) q_nil) rfl (w_law_letters e8 (lt_app _ _)) (nl_o (nl_v (nl_v (nl_v (nl_u (nl_u (nl_u nl_0))))))) (lz1 rfl rfl)) q_nil)) rfl (lz rfl rfl)) (q_callB (q_cons (q_ofB (q_cmp (q_var rfl) q_c rfl rfl (o_eq (e := D.int) ee_I a1.1 (0 : Int)))) q_nil) rfl rfl) rfl rfl (o_ixL (e := (eL D.str)) e10)) rfl) q_nil))) rfl (w_law_tree e12 (lt_app _ _)) (nl_o (nl_v (nl_v (nl_v (nl_u (nl_u (nl_u nl_0))))))) (lz1 rfl rfl)) rfl) rfl ?_
  obtain ⟨j13, e14, h⟩ := bnd h
  refine po_join (ψ := (fun p => p = (.nx, ⟨[.own ((eL D.int) a11.2), .val (D.int a1.1), .val ((eL D.str) a3.1), .val ((eP2 (eT D.int) D.str) a5.1), .val ((eP2 (eT D.int) D.str) j13), .un, .un], st⟩))) ?_ ?_
  · replace h := e14
    clear e14
    rcases ifo h with ⟨hc, h⟩ | ⟨hc, h⟩
    · refine pj_ifT (tr_t (q_cmp (q_var rfl) q_c rfl rfl (o_eq (e := D.int) ee_I a1.1 (4 : Int))) hc) ?_
      refine po_bare ?_
      refine po_asg (Γ2 := ⟨[.own ((eL D.int) a11.2), .val (D.int a1.1), .val ((eL D.str) a3.1), .val ((eP2 (eT D.int) D.str) a5.1), .val ((eP2 (eT D.int) D.str) a5.1), .un, .un], st⟩) (q_frz (q_var rfl) rfl) rfl ?_
      obtain rfl := som h
      exact po_end rfl
    · refine pj_ifF (tr_f (q_cmp (q_var rfl) q_c rfl rfl (o_eq (e := D.int) ee_I a1.1 (4 : Int))) hc) ?_
      obtain rfl := som h
      exact po_end rfl
  rintro _ rfl
  refine ⟨_, rfl, ?_⟩
  obtain ⟨j25, e26, h⟩ := bnd h
  refine po_join (ψ := (fun p => ∃ q27 q28 q29, p = (.nx, ⟨[q2c q27, .val (D.int a1.1), .val ((eL D.str) a3.1), .val ((eP2 (eT D.int) D.str) a5.1), .val ((eP2 (eT D.int) D.str) j25), q2c q28, q2c q29], st⟩))) ?_ ?_
  · replace h := e26
    clear e26
    rcases ifo h with ⟨hc, h⟩ | ⟨hc, h⟩
    · refine pj_ifT (tr_t (q_cmp (q_var rfl) q_c rfl rfl (o_eq (e := D.int) ee_I a1.1 (5 : Int))) hc) ?_
      obtain ⟨a15, e16, h⟩ := bnd h
      refine po_asg (Γ2 := ⟨[.own ((eL D.int) a15.2), .val (D.int a1.1), .val ((eL D.str) a3.1), .val ((eP2 (eT D.int) D.str) a5.1), .val ((eP2 (eT D.int) D.str) j13), .val (D.int a15.1), .un], st⟩) (q_frz (q_callO (i := 0) (sl := [.own ((eL D.int) a11.2), .val (D.int a1.1), .val ((eL D.str) a3.1), .val ((eP2 (eT D.int) D.str) a5.1), .val ((eP2 (eT D.int) D.str) j13), .un, .un]) (st := st) (x := (eL D.int) a11.2) (y := (eL D.int) a15.2) (.inl ⟨_, rfl⟩) (q_cons (q_varO rfl) (q_cons (q_frz (q_callB (q_cons (q_bin (q_var rfl) q_c rfl rfl rfl) q_nil) rfl rfl) rfl) q_nil)) rfl (w_law_take e16 (lt_app _ _)) (nl_o (nl_v (nl_v (nl_v (nl_v (nl_u (nl_u nl_0))))))) (lz1 rfl rfl)) rfl) rfl ?_
      obtain ⟨a17, e18, h⟩ := bnd h
      obtain ⟨a19, e20, h⟩ := bnd h
      refine po_asg (Γ2 := ⟨[.own ((eL D.int) a17.2), .val (D.int a1.1), .val ((eL D.str) a3.1), .val ((eP2 (eT D.int) D.str) a5.1), .val ((eP2 (eT D.int) D.str) j13), .val (D.int a15.1), .val (D.str a19)], st⟩) (q_frz (q_bin (q_var rfl) (q_callO (i := 0) (sl := [.own ((eL D.int) a15.2), .val (D.int a1.1), .val ((eL D.str) a3.1), .val ((eP2 (eT D.int) D.str) a5.1), .val ((eP2 (eT D.int) D.str) j13), .val (D.int a15.1), .un]) (st := st) (x := (eL D.int) a15.2) (y := (eL D.int) a17.2) (.inl ⟨_, rfl⟩) (q_cons (q_varO rfl) (q_cons (q_frz (q_callB (q_cons (q_var rfl) q_nil) rfl (o_lenL (e := D.str))) rfl) q_nil)) rfl (w_law_take e18 (lt_app _ _)) (nl_o (nl_v (nl_v (nl_v (nl_v (nl_v (nl_u nl_0))))))) (lz1 rfl rfl)) rfl rfl (o_ixL (e := D.str) e20)) rfl) rfl ?_
      refine po_bare ?_
      obtain ⟨a21, e22, h⟩ := bnd h
      obtain ⟨a23, e24, h⟩ := bnd h
      refine po_asg (Γ2 := ⟨[.own ((eL D.int) a17.2), .val (D.int a1.1), .val ((eL D.str) a3.1), .val ((eP2 (eT D.int) D.str) a5.1), .val ((eP2 (eT D.int) D.str) (a5.1.1, a23)), .val (D.int a15.1), .val (D.str a19)], st⟩) (q_frz (q_tup (q_cons (q_bin (q_var rfl) q_c rfl rfl rfl) (q_cons (q_bin (q_bin (q_sl (q_bin (q_var rfl) q_c rfl rfl rfl) q_pN (q_pS (q_var rfl)) rfl o_slS) (q_var rfl) rfl rfl (o_catS e22)) (q_sl (q_bin (q_var rfl) q_c rfl rfl rfl) (q_pS (q_bin (q_var rfl) q_c rfl rfl rfl)) q_pN rfl o_slS) rfl rfl (o_catS e24)) q_nil)) rfl (lz rfl rfl)) rfl) rfl ?_
      obtain rfl := som h
      exact po_end ⟨.own ((eL D.int) a17.2), .val (D.int a15.1), .val (D.str a19), rfl⟩
    · refine pj_ifF (tr_f (q_cmp (q_var rfl) q_c rfl rfl (o_eq (e := D.int) ee_I a1.1 (5 : Int))) hc) ?_
      obtain rfl := som h
      exact po_end ⟨.own ((eL D.int) a11.2), .un, .un, rfl⟩
  rintro _ ⟨q27, q28, q29, rfl⟩
  refine ⟨_, rfl, ?_⟩
  refine po_bare ?_
  obtain rfl := som h
  exact po_ret (Γ1 := ⟨[q2c q27, .val (D.int a1.1), .val ((eL D.str) a3.1), .val ((eP2 (eT D.int) D.str) a5.1), .val ((eP2 (eT D.int) D.str) j25), q2c q28, q2c q29], st⟩) (q_frz (q_tup (q_cons (q_var rfl) (q_cons (q_var rfl) q_nil)) rfl (lz rfl rfl)) rfl) ⟨_, _, rfl, rfl⟩
def t_law_word (v_tree : ((List Int) × (List Nat))) (v_place : Int) : Option (List Nat) :=
  (whileS (fun (s1 : (Int × (List Nat))) => show Option Bool from  some (decide ((0 : Int) ≤ s1.1))) (fun (s1 : (Int × (List Nat))) => show Option ((Int × (List Nat))) from
    (chT v_tree.2 s1.1).bind fun a2 =>
    (catT s1.2 a2).bind fun a4 =>
    (atI v_tree.1 s1.1).bind fun a6 =>
    some (a6, a4)) fuel (v_place, ([] : List Nat))).bind fun j8 =>
  some j8.2
theorem w_law_word {v_tree : ((List Int) × (List Nat))} {v_place : Int} {r : (List Nat)} (h : t_law_word v_tree v_place = some r) {st : List SC} : f_law_word [.val ((eP2 (eT D.int) D.str) v_tree), .val (D.int v_place)] st = some (.val (D.str r), st) := by
  unfold t_law_word at h
  refine def_post rfl ?_
  show Post (m_law_word ⟨[.val ((eP2 (eT D.int) D.str) v_tree), .val (D.int v_place), .un], st⟩) _
  unfold m_law_word
  refine po_asg (Γ2 := ⟨[.val ((eP2 (eT D.int) D.str) v_tree), .val (D.int v_place), .val (D.str ([] : List Nat))], st⟩) (q_frz q_c rfl) rfl ?_
  obtain ⟨j8, e9, h⟩ := bnd h
  obtain ⟨Γ9, ef, rfl⟩ := whileS_ok (t := t_law_word_1) (b := b_law_word_1) (fun (s1 : (Int × (List Nat))) Γ => Γ = ⟨[.val ((eP2 (eT D.int) D.str) v_tree), .val (D.int s1.1), .val (D.str s1.2)], st⟩) (by
      rintro s1 c Γ h rfl
      obtain rfl := som h
      exact (q_cmp (q_var rfl) q_c rfl rfl rfl)
      ) (by
      rintro s1 so Γ h rfl
      unfold b_law_word_1
      obtain ⟨a2, e3, h⟩ := bnd h
      obtain ⟨a4, e5, h⟩ := bnd h
      refine po_asg (Γ2 := ⟨[.val ((eP2 (eT D.int) D.str) v_tree), .val (D.int s1.1), .val (D.str a4)], st⟩) (q_frz (q_bin (q_var rfl) (q_bin (q_bin (q_var rfl) q_c rfl rfl rfl) (q_var rfl) rfl rfl (o_ixS e3)) rfl rfl (o_catS e5)) rfl) rfl ?_
      refine po_bare ?_
      obtain ⟨a6, e7, h⟩ := bnd h
      refine po_asg (Γ2 := ⟨[.val ((eP2 (eT D.int) D.str) v_tree), .val (D.int a6), .val (D.str a4)], st⟩) (q_frz (q_bin (q_bin (q_var rfl) q_c rfl rfl rfl) (q_var rfl) rfl rfl (o_ixT (e := D.int) e7)) rfl) rfl ?_
      obtain rfl := som h
      exact po_end ⟨.inl rfl, rfl⟩
      ) e9 (Γ := ⟨[.val ((eP2 (eT D.int) D.str) v_tree), .val (D.int v_place), .val (D.str ([] : List Nat))], st⟩) rfl
  refine po_while ef ?_
  refine po_bare ?_
  obtain rfl := som h
  exact po_ret (Γ1 := ⟨[.val ((eP2 (eT D.int) D.str) v_tree), .val (D.int j8.1), .val (D.str j8.2)], st⟩) (q_frz (q_var rfl) rfl) ⟨_, _, rfl, rfl⟩
def t_all_words (v_tree : ((List Int) × (List Nat))) : Option (List (List Nat)) :=
  (forS (fun (s1 : (List (List Nat))) (x4 : (Int × Int)) => show Option ((List (List Nat))) from
    (chT v_tree.2 x4.1).bind fun a5 =>
    (if (decide ((0 : Int) ≤ x4.2)) = true then ((atI s1 x4.2).bind fun a7 => some a7) else ( some ([] : List Nat))).bind fun a9 =>
    (catT a5 a9).bind fun a11 =>
    (pushT s1 a11).bind fun a13 =>
    some a13) (enumT v_tree.1) ([] : (List (List Nat)))).bind fun j15 =>
  some j15
theorem w_all_words {v_tree : ((List Int) × (List Nat))} {r : (List (List Nat))} (h : t_all_words v_tree = some r) {st : List SC} : f_all_words [.val ((eP2 (eT D.int) D.str) v_tree)] st = some (.val ((eL D.str) r), st) := by
  unfold t_all_words at h
  refine def_post rfl ?_
  show Post (m_all_words ⟨[.val ((eP2 (eT D.int) D.str) v_tree), .un, .un, .un, .un, .un], st⟩) _
  unfold m_all_words
  refine po_asg (Γ2 := ⟨[.val ((eP2 (eT D.int) D.str) v_tree), .val ((eT D.int) v_tree.1), .val (D.str v_tree.2), .un, .un, .un], st⟩) (q_frz (q_var rfl) rfl) rfl ?_
  refine po_asg (Γ2 := ⟨[.val ((eP2 (eT D.int) D.str) v_tree), .val ((eT D.int) v_tree.1), .val (D.str v_tree.2), .own ((eL eA) ([] : (List D))), .un, .un], st⟩) (q_list q_nil rfl (lz rfl rfl)) rfl ?_
  obtain ⟨j15, e16, h⟩ := bnd h
  obtain ⟨Γ9, ef, q17, q18, rfl⟩ := forS_ok (e := (eP2 D.int D.int)) (g := (mgTup [(asgn 4), (asgn 5)])) (b := b_all_words_1) (fun (s1 : (List (List Nat))) Γ => ∃ q2 q3, Γ = ⟨[.val ((eP2 (eT D.int) D.str) v_tree), .val ((eT D.int) v_tree.1), .val (D.str v_tree.2), .own ((eL D.str) s1), q2v q2, q2v q3], st⟩) (by
      rintro s1 x4 so Γ h ⟨q2, q3, rfl⟩
      refine ⟨⟨[.val ((eP2 (eT D.int) D.str) v_tree), .val ((eT D.int) v_tree.1), .val (D.str v_tree.2), .own ((eL D.str) s1), .val (D.int x4.1), .val (D.int x4.2)], st⟩, rfl, ?_⟩
      unfold b_all_words_1
      refine po_bare ?_
      obtain ⟨a5, e6, h⟩ := bnd h
      obtain ⟨a9, e10, h⟩ := bnd h
      obtain ⟨a11, e12, h⟩ := bnd h
      obtain ⟨a13, e14, h⟩ := bnd h
      refine po_drop (Γ1 := ⟨[.val ((eP2 (eT D.int) D.str) v_tree), .val ((eT D.int) v_tree.1), .val (D.str v_tree.2), .own ((eL D.str) a13), .val (D.int x4.1), .val (D.int x4.2)], st⟩) (q_mut (q_varO rfl) rfl (q_cons (q_frz (q_bin (q_bin (q_var rfl) (q_var rfl) rfl rfl (o_ixS e6)) (q_ifP (R := (fun v => .val (D.str v))) (G := (fun v => ⟨[.val ((eP2 (eT D.int) D.str) v_tree), .val ((eT D.int) v_tree.1), .val (D.str v_tree.2), .own ((eL D.str) s1), .val (D.int x4.1), .val (D.int x4.2)], st⟩)) (q_cmp (q_var rfl) q_c rfl rfl rfl) e10 (fun v hc hv => by (obtain ⟨a7, e8, hv⟩ := bnd hv; obtain rfl := som hv; exact (q_bin (q_varO rfl) (q_var rfl) rfl rfl (o_ixL (e := D.str) e8)))) (fun v hc hv => by (obtain rfl := som hv; exact q_c))) rfl rfl (o_catS e12)) rfl) q_nil) rfl rfl (o_push (e := D.str) e14) rfl) ?_
      obtain rfl := som h
      exact po_end ⟨.inl rfl, .val (D.int x4.1), .val (D.int x4.2), rfl⟩
      ) e16 (Γ := ⟨[.val ((eP2 (eT D.int) D.str) v_tree), .val ((eT D.int) v_tree.1), .val (D.str v_tree.2), .own ((eL eA) ([] : (List D))), .un, .un], st⟩) ⟨.un, .un, rfl⟩
  refine po_for (i_enumT (e := D.int) (q_cons (q_var rfl) q_nil) rfl) ef ?_
  refine po_bare ?_
  obtain rfl := som h
  exact po_ret (Γ1 := ⟨[.val ((eP2 (eT D.int) D.str) v_tree), .val ((eT D.int) v_tree.1), .val (D.str v_tree.2), .val ((eL D.str) j15), q2v q17, q2v q18], st⟩) (q_frz (q_varO rfl) rfl) ⟨_, _, rfl, rfl⟩
def t_both_merged (v_one : ((List Int) × (List Nat))) (v_other : ((List Int) × (List Nat))) : Option (List (Int × Int)) :=
  (forS (fun (s1 : (List ((List Nat) × Int × Int))) (x4 : (Int × ((List Int) × (List Nat)))) => show Option ((List ((List Nat) × Int × Int))) from
    (t_all_words x4.2).bind fun a5 =>
    (lcM (fun (x7 : (Int × (List Nat))) =>  some (x7.2, x4.1, x7.1)) (enumT a5)).bind fun a8 =>
    (extT s1 a8).bind fun a10 =>
    some a10) (enumT ([v_one, v_other] : (List ((List Int) × (List Nat))))) ([] : (List ((List Nat) × Int × Int)))).bind fun j12 =>
  (lcM (fun (x16 : ((List Nat) × Int × Int)) =>  some (x16.2.1, x16.2.2)) (sortT (ltP3 (fun a b => decide (a < b)) (fun a b => decide (a < b)) (fun a b => decide (a < b))) j12)).bind fun a17 =>
  some a17
theorem w_both_merged {v_one : ((List Int) × (List Nat))} {v_other : ((List Int) × (List Nat))} {r : (List (Int × Int))} (h : t_both_merged v_one v_other = some r) {st : List SC} : f_both_merged [.val ((eP2 (eT D.int) D.str) v_one), .val ((eP2 (eT D.int) D.str) v_other)] st = some (.fresh ((eL (eP2 D.int D.int)) r), st) := by
  unfold t_both_merged at h
  refine def_postF rfl ?_
  show Post (m_both_merged ⟨[.val ((eP2 (eT D.int) D.str) v_one), .val ((eP2 (eT D.int) D.str) v_other), .un, .un, .un, .un, .un], st⟩) _
  unfold m_both_merged
  refine po_asg (Γ2 := ⟨[.val ((eP2 (eT D.int) D.str) v_one), .val ((eP2 (eT D.int) D.str) v_other), .own ((eL eA) ([] : (List D))), .un, .un, .un, .un], st⟩) (q_list q_nil rfl (lz rfl rfl)) rfl ?_
  obtain ⟨j12, e13, h⟩ := bnd h
  obtain ⟨Γ9, ef, q14, q15, rfl⟩ := forS_ok (e := (eP2 D.int (eP2 (eT D.int) D.str))) (g := (mgTup [(asgn 3), (asgn 4)])) (b := b_both_merged_1) (fun (s1 : (List ((List Nat) × Int × Int))) Γ => ∃ q2 q3, Γ = ⟨[.val ((eP2 (eT D.int) D.str) v_one), .val ((eP2 (eT D.int) D.str) v_other), .own ((eL (eP3 D.str D.int D.int)) s1), q2v q2, q2v q3, .un, .un], st⟩) (by
      rintro s1 x4 so Γ h ⟨q2, q3, rfl⟩
      refine ⟨⟨[.val ((eP2 (eT D.int) D.str) v_one), .val ((eP2 (eT D.int) D.str) v_other), .own ((eL (eP3 D.str D.int D.int)) s1), .val (D.int x4.1), .val ((eP2 (eT D.int) D.str) x4.2), .un, .un], st⟩, rfl, ?_⟩
      unfold b_both_merged_1
      refine po_bare ?_
      obtain ⟨a5, e6, h⟩ := bnd h
      obtain ⟨a8, e9, h⟩ := bnd h
      obtain ⟨a10, e11, h⟩ := bnd h
      refine po_drop (Γ1 := ⟨[.val ((eP2 (eT D.int) D.str) v_one), .val ((eP2 (eT D.int) D.str) v_other), .own ((eL (eP3 D.str D.int D.int)) a10), .val (D.int x4.1), .val ((eP2 (eT D.int) D.str) x4.2), .un, .un], st⟩) (q_extT (e := (eP3 D.str D.int D.int)) (q_varO rfl) rfl (q_lcM (eP2 D.int D.str) (eP3 D.str D.int D.int) (i_enum (e := D.str) (q_cons (q_call (q_cons (q_frz (q_var rfl) rfl) q_nil) rfl (w_all_words e6) (nl_v (nl_v (nl_o (nl_v (nl_v (nl_u (nl_u nl_0)))))))) q_nil) rfl) rfl (fun x7 y hy => by (obtain rfl := som hy; exact turn_yes (Γ1 := ⟨[.val ((eP2 (eT D.int) D.str) v_one), .val ((eP2 (eT D.int) D.str) v_other), .own ((eL (eP3 D.str D.int D.int)) s1), .val (D.int x4.1), .val ((eP2 (eT D.int) D.str) x4.2), .val (D.str x7.2), .val (D.int x7.1)], st⟩) rfl rfl (q_tup (q_cons (q_var rfl) (q_cons (q_var rfl) (q_cons (q_var rfl) q_nil))) rfl (lz rfl rfl)) rfl rfl)) e9) rfl rfl e11 rfl) ?_
      obtain rfl := som h
      exact po_end ⟨.inl rfl, .val (D.int x4.1), .val ((eP2 (eT D.int) D.str) x4.2), rfl⟩
      ) e13 (Γ := ⟨[.val ((eP2 (eT D.int) D.str) v_one), .val ((eP2 (eT D.int) D.str) v_other), .own ((eL eA) ([] : (List D))), .un, .un, .un, .un], st⟩) ⟨.un, .un, rfl⟩
  refine po_for (i_enum (e := (eP2 (eT D.int) D.str)) (q_cons (q_list (q_cons (q_var rfl) (q_cons (q_var rfl) q_nil)) rfl (lz rfl rfl)) q_nil) rfl) ef ?_
  refine po_bare ?_
  obtain ⟨a17, e18, h⟩ := bnd h
  obtain rfl := som h
  exact po_ret (Γ1 := ⟨[.val ((eP2 (eT D.int) D.str) v_one), .val ((eP2 (eT D.int) D.str) v_other), .own ((eL (eP3 D.str D.int D.int)) j12), q2v q14, q2v q15, .un, .un], st⟩) (q_lcM (eP3 D.str D.int D.int) (eP2 D.int D.int) (q_iseq (q_callB (q_cons (q_varO rfl) q_nil) rfl (o_sorted (e := (eP3 D.str D.int D.int)) (srt_P3 srt_S ee_S srt_I ee_I srt_I ee_I) (.inl fun _ => rfl))) rfl) (by cases q14 <;> rfl) (fun x16 y hy => by (obtain rfl := som hy; exact turn_yes (Γ1 := ⟨[.val ((eP2 (eT D.int) D.str) v_one), .val ((eP2 (eT D.int) D.str) v_other), .own ((eL (eP3 D.str D.int D.int)) j12), .val (D.int x16.2.1), q2v q15, .val (D.str x16.1), .val (D.int x16.2.2)], st⟩) rfl rfl (q_tup (q_cons (q_var rfl) (q_cons (q_var rfl) q_nil)) rfl (lz rfl rfl)) rfl rfl)) e18) ⟨_, _, rfl, rfl⟩
def t_law_right (v_one : ((List Int) × (List Nat))) (v_other : ((List Int) × (List Nat))) : Option Bool :=
  (forS (fun (s1 : (List ((List Nat) × Int × Int))) (x5 : (Int × ((List Int) × (List Nat)))) => show Option ((List ((List Nat) × Int × Int))) from
    (range1T ((List.length x5.2.1 : Nat) : Int)).bind fun a6 =>
    (forS (fun (s8 : (List ((List Nat) × Int × Int))) (x10 : Int) => show Option ((List ((List Nat) × Int × Int))) from
    (t_law_word x5.2 x10).bind fun a11 =>
    (pushT s8 (a11, x5.1, x10)).bind fun a13 =>
    some a13) a6 s1).bind fun j15 =>
    some j15) (enumT ([v_one, v_other] : (List ((List Int) × (List Nat))))) ([] : (List ((List Nat) × Int × Int)))).bind fun j18 =>
  (lcM (fun (x23 : ((List Nat) × Int × Int)) =>  some (x23.2.1, x23.2.2)) (sortT (ltP3 (fun a b => decide (a < b)) (fun a b => decide (a < b)) (fun a b => decide (a < b))) j18)).bind fun a24 =>
  (range1T (2 : Int)).bind fun a26 =>
  (forR (fun (s28 : Unit) (x31 : Int) => show Option (FlT Unit Bool) from
    (t_both_merged v_one v_other).bind fun a32 =>
    (reprO ((eL (eP2 D.int D.int)) a32)).bind fun a34 =>
    (reprO ((eL (eP2 D.int D.int)) a24)).bind fun a36 =>
    if (!(a34 == a36)) = true then (
      some (.ret false)
    ) else (
      (pushT a32 ((0 : Int), (0 : Int))).bind fun a38 =>
      some (.nx ())
    )) a26 (() : Unit)).bind fun o44 => aftR o44 (fun r45 => some r45) fun j40 =>
  some true
theorem w_law_right {v_one : ((List Int) × (List Nat))} {v_other : ((List Int) × (List Nat))} {r : Bool} (h : t_law_right v_one v_other = some r) {st : List SC} : f_law_right [.val ((eP2 (eT D.int) D.str) v_one), .val ((eP2 (eT D.int) D.str) v_other)] st = some (.val (D.bl r), st) := by
  unfold t_law_right at h
  refine def_post rfl ?_
  show Post (m_law_right ⟨[.val ((eP2 (eT D.int) D.str) v_one), .val ((eP2 (eT D.int) D.str) v_other), .un, .un, .un, .un, .un, .un, .un, .un], st⟩) _
  unfold m_law_right
  refine po_asg (Γ2 := ⟨[.val ((eP2 (eT D.int) D.str) v_one), .val ((eP2 (eT D.int) D.str) v_other), .own ((eL eA) ([] : (List D))), .un, .un, .un, .un, .un, .un, .un], st⟩) (q_list q_nil rfl (lz rfl rfl)) rfl ?_
  obtain ⟨j18, e19, h⟩ := bnd h
  obtain ⟨Γ9, ef, q20, q21, q22, rfl⟩ := forS_ok (e := (eP2 D.int (eP2 (eT D.int) D.str))) (g := (mgTup [(asgn 3), (asgn 4)])) (b := b_law_right_2) (fun (s1 : (List ((List Nat) × Int × Int))) Γ => ∃ q2 q3 q4, Γ = ⟨[.val ((eP2 (eT D.int) D.str) v_one), .val ((eP2 (eT D.int) D.str) v_other), .own ((eL (eP3 D.str D.int D.int)) s1), q2v q2, q2v q3, q2v q4, .un, .un, .un, .un], st⟩) (by
      rintro s1 x5 so Γ h ⟨q2, q3, q4, rfl⟩
      refine ⟨⟨[.val ((eP2 (eT D.int) D.str) v_one), .val ((eP2 (eT D.int) D.str) v_other), .own ((eL (eP3 D.str D.int D.int)) s1), .val (D.int x5.1), .val ((eP2 (eT D.int) D.str) x5.2), q2v q4, .un, .un, .un, .un], st⟩, rfl, ?_⟩
      unfold b_law_right_2
      refine po_bare ?_
      obtain ⟨a6, e7, h⟩ := bnd h
      obtain ⟨j15, e16, h⟩ := bnd h
      obtain ⟨Γ9, ef, q17, rfl⟩ := forS_ok (e := D.int) (g := (asgn 5)) (b := b_law_right_1) (fun (s8 : (List ((List Nat) × Int × Int))) Γ => ∃ q9, Γ = ⟨[.val ((eP2 (eT D.int) D.str) v_one), .val ((eP2 (eT D.int) D.str) v_other), .own ((eL (eP3 D.str D.int D.int)) s8), .val (D.int x5.1), .val ((eP2 (eT D.int) D.str) x5.2), q2v q9, .un, .un, .un, .un], st⟩) (by
          rintro s8 x10 so Γ h ⟨q9, rfl⟩
          refine ⟨⟨[.val ((eP2 (eT D.int) D.str) v_one), .val ((eP2 (eT D.int) D.str) v_other), .own ((eL (eP3 D.str D.int D.int)) s8), .val (D.int x5.1), .val ((eP2 (eT D.int) D.str) x5.2), .val (D.int x10), .un, .un, .un, .un], st⟩, rfl, ?_⟩
          unfold b_law_right_1
          refine po_bare ?_
          obtain ⟨a11, e12, h⟩ := bnd h
          obtain ⟨a13, e14, h⟩ := bnd h
          refine po_drop (Γ1 := ⟨[.val ((eP2 (eT D.int) D.str) v_one), .val ((eP2 (eT D.int) D.str) v_other), .own ((eL (eP3 D.str D.int D.int)) a13), .val (D.int x5.1), .val ((eP2 (eT D.int) D.str) x5.2), .val (D.int x10), .un, .un, .un, .un], st⟩) (q_mut (q_varO rfl) rfl (q_cons (q_frz (q_tup (q_cons (q_call (q_cons (q_frz (q_var rfl) rfl) (q_cons (q_frz (q_var rfl) rfl) q_nil)) rfl (w_law_word e12) (nl_v (nl_v (nl_o (nl_v (nl_v (nl_v (nl_u (nl_u (nl_u (nl_u nl_0))))))))))) (q_cons (q_var rfl) (q_cons (q_var rfl) q_nil))) rfl (lz rfl rfl)) rfl) q_nil) rfl rfl (o_push (e := (eP3 D.str D.int D.int)) e14) rfl) ?_
          obtain rfl := som h
          exact po_end ⟨.inl rfl, .val (D.int x10), rfl⟩
          ) e16 (Γ := ⟨[.val ((eP2 (eT D.int) D.str) v_one), .val ((eP2 (eT D.int) D.str) v_other), .own ((eL (eP3 D.str D.int D.int)) s1), .val (D.int x5.1), .val ((eP2 (eT D.int) D.str) x5.2), q2v q4, .un, .un, .un, .un], st⟩) ⟨q4, rfl⟩
      refine po_for (i_range1 (q_cons (q_callB (q_cons (q_bin (q_var rfl) q_c rfl rfl rfl) q_nil) rfl (o_lenT (e := D.int))) q_nil) e7) ef ?_
      obtain rfl := som h
      exact po_end ⟨.inl rfl, .val (D.int x5.1), .val ((eP2 (eT D.int) D.str) x5.2), q17, rfl⟩
      ) e19 (Γ := ⟨[.val ((eP2 (eT D.int) D.str) v_one), .val ((eP2 (eT D.int) D.str) v_other), .own ((eL eA) ([] : (List D))), .un, .un, .un, .un, .un, .un, .un], st⟩) ⟨.un, .un, .un, rfl⟩
  refine po_for (i_enum (e := (eP2 (eT D.int) D.str)) (q_cons (q_list (q_cons (q_var rfl) (q_cons (q_var rfl) q_nil)) rfl (lz rfl rfl)) q_nil) rfl) ef ?_
  obtain ⟨a24, e25, h⟩ := bnd h
  refine po_asg (Γ2 := ⟨[.val ((eP2 (eT D.int) D.str) v_one), .val ((eP2 (eT D.int) D.str) v_other), .own ((eL (eP3 D.str D.int D.int)) j18), q2v q20, q2v q21, q2v q22, .val ((eL (eP2 D.int D.int)) a24), .un, .un, .un], st⟩) (q_frz (q_lcM (eP3 D.str D.int D.int) (eP2 D.int D.int) (q_iseq (q_callB (q_cons (q_varO rfl) q_nil) rfl (o_sorted (e := (eP3 D.str D.int D.int)) (srt_P3 srt_S ee_S srt_I ee_I srt_I ee_I) (.inl fun _ => rfl))) rfl) (by cases q20 <;> cases q22 <;> rfl) (fun x23 y hy => by (obtain rfl := som hy; exact turn_yes (Γ1 := ⟨[.val ((eP2 (eT D.int) D.str) v_one), .val ((eP2 (eT D.int) D.str) v_other), .own ((eL (eP3 D.str D.int D.int)) j18), .val (D.int x23.2.1), q2v q21, .val (D.int x23.2.2), .un, .un, .un, .val (D.str x23.1)], st⟩) rfl rfl (q_tup (q_cons (q_var rfl) (q_cons (q_var rfl) q_nil)) rfl (lz rfl rfl)) rfl rfl)) e25) rfl) rfl ?_
  obtain ⟨a26, e27, h⟩ := bnd h
  obtain ⟨o44, e41, h⟩ := bnd h
  obtain ⟨p9, ef, hl⟩ := forR_ok (e := D.int) (g := (asgn 7)) (b := b_law_right_3) (fun (s28 : Unit) Γ => ∃ q29 q30, Γ = ⟨[.val ((eP2 (eT D.int) D.str) v_one), .val ((eP2 (eT D.int) D.str) v_other), .own ((eL (eP3 D.str D.int D.int)) j18), q2v q20, q2v q21, q2v q22, .val ((eL (eP2 D.int D.int)) a24), q2v q29, q2c q30, .un], st⟩) (Q := (fun (r : Bool) p => RetQ false (D.bl r) st p)) (fun r p hp => retQ_out hp) (by
      rintro s28 x31 so Γ h ⟨q29, q30, rfl⟩
      refine ⟨⟨[.val ((eP2 (eT D.int) D.str) v_one), .val ((eP2 (eT D.int) D.str) v_other), .own ((eL (eP3 D.str D.int D.int)) j18), q2v q20, q2v q21, q2v q22, .val ((eL (eP2 D.int D.int)) a24), .val (D.int x31), q2c q30, .un], st⟩, rfl, ?_⟩
      unfold b_law_right_3
      obtain ⟨a32, e33, h⟩ := bnd h
      refine po_asg (Γ2 := ⟨[.val ((eP2 (eT D.int) D.str) v_one), .val ((eP2 (eT D.int) D.str) v_other), .own ((eL (eP3 D.str D.int D.int)) j18), q2v q20, q2v q21, q2v q22, .val ((eL (eP2 D.int D.int)) a24), .val (D.int x31), .own ((eL (eP2 D.int D.int)) a32), .un], st⟩) (q_callF (q_cons (q_frz (q_var rfl) rfl) (q_cons (q_frz (q_var rfl) rfl) q_nil)) rfl (w_both_merged e33) (nl_v (nl_v (nl_o (nl_w (nl_w (nl_w (nl_v (nl_v (nl_q (nl_u nl_0))))))))))) rfl ?_
      obtain ⟨a34, e35, h⟩ := bnd h
      obtain ⟨a36, e37, h⟩ := bnd h
      rcases ifo h with ⟨hc, h⟩ | ⟨hc, h⟩
      · refine po_ifT (tr_t (q_cmp (q_callB (q_cons (q_varO rfl) q_nil) rfl (o_repr e35)) (q_callB (q_cons (q_var rfl) q_nil) rfl (o_repr e37)) rfl rfl (o_ne (e := D.str) ee_S a34 a36)) hc) ?_
        obtain rfl := som h
        exact po_ret (Γ1 := ⟨[.val ((eP2 (eT D.int) D.str) v_one), .val ((eP2 (eT D.int) D.str) v_other), .own ((eL (eP3 D.str D.int D.int)) j18), q2v q20, q2v q21, q2v q22, .val ((eL (eP2 D.int D.int)) a24), .val (D.int x31), .own ((eL (eP2 D.int D.int)) a32), .un], st⟩) (q_frz q_c rfl) ⟨_, _, rfl, rfl⟩
      · refine po_ifF (tr_f (q_cmp (q_callB (q_cons (q_varO rfl) q_nil) rfl (o_repr e35)) (q_callB (q_cons (q_var rfl) q_nil) rfl (o_repr e37)) rfl rfl (o_ne (e := D.str) ee_S a34 a36)) hc) ?_
        refine po_next ?_
        refine po_bare ?_
        obtain ⟨a38, e39, h⟩ := bnd h
        refine po_drop (Γ1 := ⟨[.val ((eP2 (eT D.int) D.str) v_one), .val ((eP2 (eT D.int) D.str) v_other), .own ((eL (eP3 D.str D.int D.int)) j18), q2v q20, q2v q21, q2v q22, .val ((eL (eP2 D.int D.int)) a24), .val (D.int x31), .own ((eL (eP2 D.int D.int)) a38), .un], st⟩) (q_mut (q_varO rfl) rfl (q_cons (q_frz (q_tup (q_cons q_c (q_cons q_c q_nil)) rfl (lz rfl rfl)) rfl) q_nil) rfl rfl (o_push (e := (eP2 D.int D.int)) e39) rfl) ?_
        obtain rfl := som h
        exact po_end ⟨.inl rfl, .val (D.int x31), .own ((eL (eP2 D.int D.int)) a38), rfl⟩
      ) e41 (Γ := ⟨[.val ((eP2 (eT D.int) D.str) v_one), .val ((eP2 (eT D.int) D.str) v_other), .own ((eL (eP3 D.str D.int D.int)) j18), q2v q20, q2v q21, q2v q22, .val ((eL (eP2 D.int D.int)) a24), .un, .un, .un], st⟩) ⟨.un, .un, rfl⟩
  replace h := aftR_some h
  rcases h with ⟨r45, rfl, h⟩ | ⟨j40, rfl, h⟩
  · obtain ⟨v9, Γ9, rfl, hr⟩ := hl
    obtain rfl := som h
    exact po_forX (i_range1 (q_cons q_c q_nil) e27) ef ⟨v9, Γ9, rfl, hr⟩
  · obtain ⟨fl9, Γ9⟩ := p9
    obtain ⟨hf9, q42, q43, hg9⟩ := hl
    dsimp only at hf9 hg9
    subst hf9 hg9
    refine po_for (i_range1 (q_cons q_c q_nil) e27) ef ?_
    refine po_bare ?_
    obtain rfl := som h
    exact po_ret (Γ1 := ⟨[.val ((eP2 (eT D.int) D.str) v_one), .val ((eP2 (eT D.int) D.str) v_other), .own ((eL (eP3 D.str D.int D.int)) j18), q2v q20, q2v q21, q2v q22, .val ((eL (eP2 D.int D.int)) a24), q2v q42, q2c q43, .un], st⟩) (q_frz q_c rfl) ⟨_, _, rfl, rfl⟩
def t_law (v_script : (List Int)) : Option Bool :=
  (range1T (maxI2 (1 : Int) (minI2 (10 : Int) ((List.length v_script : Nat) : Int)))).bind fun a1 =>
  (forR (fun (s3 : Unit) (x7 : Int) => show Option (FlT Unit Bool) from
    (t_law_pool v_script x7).bind fun a8 =>
    (t_law_both a8).bind fun a10 =>
    (t_law_right a10.1 a10.2).bind fun a12 =>
    (if (!a12) = true then some true else ((t_law_right a10.2 a10.1).bind fun a14 => some (!a14))).bind fun a16 =>
    if a16 = true then (
      some (.ret false)
    ) else (
      some (.nx ())
    )) a1 (() : Unit)).bind fun o23 => aftR o23 (fun r24 => some r24) fun j18 =>
  some true
theorem w_law {v_script : (List Int)} {r : Bool} (h : t_law v_script = some r) {st : List SC} : f_law [.val ((eL D.int) v_script)] st = some (.val (D.bl r), st) := by
  unfold t_law at h
  refine def_post rfl ?_
  show Post (m_law ⟨[.val ((eL D.int) v_script), .un, .un, .un], st⟩) _
  unfold m_law
  obtain ⟨a1, e2, h⟩ := bnd h
  obtain ⟨o23, e19, h⟩ := bnd h
  obtain ⟨p9, ef, hl⟩ := forR_ok (e := D.int) (g := (asgn 1)) (b := b_law_1) (fun (s3 : Unit) Γ => ∃ q4 q5 q6, Γ = ⟨[.val ((eL D.int) v_script), q2v q4, q2c q5, q2c q6], st⟩) (Q := (fun (r : Bool) p => RetQ false (D.bl r) st p)) (fun r p hp => retQ_out hp) (by
      rintro s3 x7 so Γ h ⟨q4, q5, q6, rfl⟩
      refine ⟨⟨[.val ((eL D.int) v_script), .val (D.int x7), q2c q5, q2c q6], st⟩, rfl, ?_⟩
      unfold b_law_1
      obtain ⟨a8, e9, h⟩ := bnd h
      obtain ⟨a10, e11, h⟩ := bnd h
      refine po_asg (Γ2 := ⟨[.val ((eL D.int) v_script), .val (D.int x7), .val ((eP2 (eT D.int) D.str) a10.1), .val ((eP2 (eT D.int) D.str) a10.2)], st⟩) (q_frz (q_call (q_cons (q_callF (q_cons (q_frz (q_var rfl) rfl) (q_cons (q_frz (q_var rfl) rfl) q_nil)) rfl (w_law_pool e9) (nl_v (nl_v (nl_q (nl_q nl_0))))) q_nil) rfl (w_law_both e11) (nl_v (nl_v (nl_q (nl_q nl_0))))) rfl) rfl ?_
      refine po_bare ?_
      obtain ⟨a12, e13, h⟩ := bnd h
      obtain ⟨a16, e17, h⟩ := bnd h
      rcases ifo h with ⟨hc, h⟩ | ⟨hc, h⟩
      · refine po_ifT (tr_t (q_orP (B := (fun v => v)) (G := (fun v => ⟨[.val ((eL D.int) v_script), .val (D.int x7), .val ((eP2 (eT D.int) D.str) a10.1), .val ((eP2 (eT D.int) D.str) a10.2)], st⟩)) (q_not (q_test (q_call (q_cons (q_frz (q_var rfl) rfl) (q_cons (q_frz (q_var rfl) rfl) q_nil)) rfl (w_law_right e13) (nl_v (nl_v (nl_v (nl_v nl_0))))))) e17 (fun v hc hv => by (obtain ⟨a14, e15, hv⟩ := bnd hv; obtain rfl := som hv; exact (q_not (q_test (q_call (q_cons (q_frz (q_var rfl) rfl) (q_cons (q_frz (q_var rfl) rfl) q_nil)) rfl (w_law_right e15) (nl_v (nl_v (nl_v (nl_v nl_0))))))))) ⟨rfl, rfl⟩) hc) ?_
        obtain rfl := som h
        exact po_ret (Γ1 := ⟨[.val ((eL D.int) v_script), .val (D.int x7), .val ((eP2 (eT D.int) D.str) a10.1), .val ((eP2 (eT D.int) D.str) a10.2)], st⟩) (q_frz q_c rfl) ⟨_, _, rfl, rfl⟩
      · refine po_ifF (tr_f (q_orP (B := (fun v => v)) (G := (fun v => ⟨[.val ((eL D.int) v_script), .val (D.int x7), .val ((eP2 (eT D.int) D.str) a10.1), .val ((eP2 (eT D.int) D.str) a10.2)], st⟩)) (q_not (q_test (q_call (q_cons (q_frz (q_var rfl) rfl) (q_cons (q_frz (q_var rfl) rfl) q_nil)) rfl (w_law_right e13) (nl_v (nl_v (nl_v (nl_v nl_0))))))) e17 (fun v hc hv => by (obtain ⟨a14, e15, hv⟩ := bnd hv; obtain rfl := som hv; exact (q_not (q_test (q_call (q_cons (q_frz (q_var rfl) rfl) (q_cons (q_frz (q_var rfl) rfl) q_nil)) rfl (w_law_right e15) (nl_v (nl_v (nl_v (nl_v nl_0))))))))) ⟨rfl, rfl⟩) hc) ?_
        refine po_next ?_
        obtain rfl := som h
        exact po_end ⟨.inl rfl, .val (D.int x7), .val ((eP2 (eT D.int) D.str) a10.1), .val ((eP2 (eT D.int) D.str) a10.2), rfl⟩
      ) e19 (Γ := ⟨[.val ((eL D.int) v_script), .un, .un, .un], st⟩) ⟨.un, .un, .un, rfl⟩
  replace h := aftR_some h
  rcases h with ⟨r24, rfl, h⟩ | ⟨j18, rfl, h⟩
  · obtain ⟨v9, Γ9, rfl, hr⟩ := hl
    obtain rfl := som h
    exact po_forX (i_range1 (q_cons (q_callB (q_cons q_c (q_cons (q_callB (q_cons q_c (q_cons (q_callB (q_cons (q_var rfl) q_nil) rfl (o_lenL (e := D.int))) q_nil)) rfl rfl) q_nil)) rfl rfl) q_nil) e2) ef ⟨v9, Γ9, rfl, hr⟩
  · obtain ⟨fl9, Γ9⟩ := p9
    obtain ⟨hf9, q20, q21, q22, hg9⟩ := hl
    dsimp only at hf9 hg9
    subst hf9 hg9
    refine po_for (i_range1 (q_cons (q_callB (q_cons q_c (q_cons (q_callB (q_cons q_c (q_cons (q_callB (q_cons (q_var rfl) q_nil) rfl (o_lenL (e := D.int))) q_nil)) rfl rfl) q_nil)) rfl rfl) q_nil) e2) ef ?_
    refine po_bare ?_
    obtain rfl := som h
    exact po_ret (Γ1 := ⟨[.val ((eL D.int) v_script), q2v q20, q2c q21, q2c q22], st⟩) (q_frz q_c rfl) ⟨_, _, rfl, rfl⟩
theorem law_of (H : ∀ ns : List Int, ns.length ≤ 63 → (∀ z ∈ ns, Builtin.Int.intBits z ≤ 1048576) → t_law ns = some true) : LawOk f_law := fun ns hn hb => ⟨[], w_law (H ns hn hb)⟩
end K59

set_option Elab.async false
set_option linter.all false
set_option maxRecDepth 100000
set_option maxHeartbeats 4000000
namespace K59
open PySem L2 PyProof.Rows VS
local instance : TabT := ⟨[], false⟩
/-! the pool of draws -/
def Pool (p : List Int) : Prop := ∃ a b, p = [a, b]
theorem mul_mid {i j : Int} (h1 : 0 ≤ i) (h2 : i < 2305843009213693951) : mulT i j = some (i * j) := mulT_eq (mulOk_l (by
  unfold smallI
  rw [decide_eq_true_eq]
  refine Nat.div_eq_of_lt ?_
  omega))
theorem pool_ok (script : List Int) (i : Nat) : ∃ p, t_law_pool script (i : Int) = some p ∧ Pool p := by
  have p3 : powT 10 18 = some (10 ^ 18) := if_pos (by decide)
  have c : ∃ cell, t_law_cell_at script (i : Int) = some cell := by
    unfold t_law_cell_at
    by_cases h : i < script.length
    · rw [if_pos (by simpa using h), atI_lt h]
      exact ⟨_, rfl⟩
    · rw [if_neg (by simpa using h)]
      exact ⟨_, rfl⟩
  obtain ⟨cell, hc⟩ := c
  unfold t_law_pool
  rw [hc, show (99 : Int) = ((99 : Nat) : Int) from rfl, range1T_eq 99 (by decide)]
  simp only [Option.bind_some]
  have loop : ∀ f : Int → Int → Option Int, (∀ s x, 0 ≤ x → x < 99 → ∃ s', f s x = some s') → ∃ s', forS f ((List.range 99).map fun i => ((i : Nat) : Int)) 0 = some s' := fun f hf => by
    obtain ⟨s', h, _⟩ := forS_inv (f := f) (xs := (List.range 99).map fun i => ((i : Nat) : Int)) (s := (0 : Int)) (fun _ _ => True) (fun j hj s _ => by
      obtain ⟨k, hk, e⟩ := List.mem_map.mp (List.getElem_mem hj)
      have hk' := List.mem_range.mp hk
      rw [← e]
      obtain ⟨s', h⟩ := hf s (k : Int) (by omega) (by omega)
      exact ⟨s', h, trivial⟩) trivial
    exact ⟨s', h⟩
  obtain ⟨big, hb⟩ := loop (fun s5 x8 => (mulT (89 * x8) x8).bind fun a9 => (mulT ((cell % 998244353 + a9 + 7 * (i : Int) + 1) * 48271 % 2147483647) ((cell % 998244353 + a9 + 7 * (i : Int) + 1) * 48271 % 2147483647)).bind
      fun a13 => some (s5 * 1000003 + (a13 % 1000000007 + 7919 * x8) * 69621 % 2147483587 / 8 % 1000003)) (fun s x h1 h2 => by
    rw [mulT_small (by omega) (by omega)]
    simp only [Option.bind_some]
    rw [mul_mid (Int.emod_nonneg _ (by decide)) (by
      have := Int.emod_lt_of_pos ((cell % 998244353 + 89 * x * x + 7 * (i : Int) + 1) * 48271) (show (0 : Int) < 2147483647 by decide)
      omega)]
    exact ⟨_, rfl⟩)
  rw [hb]
  simp only [Option.bind_some]
  rw [p3]
  simp only [Option.bind_some]
  have hm : ∀ b : Bool, mulT cell (if b = true then 1 else 0) = some (cell * (if b = true then 1 else 0)) := fun b => mulT_eq (by
    unfold mulOk
    have : smallI (if b = true then 1 else 0) = true := by cases b <;> decide
    rw [this]
    simp)
  rw [hm]
  exact ⟨_, rfl, _, _, rfl⟩
theorem take_ok {p : List Int} (hp : Pool p) {n : Int} (h1 : 0 < n) (h2 : n ≤ 1000000) : ∃ v p', t_law_take p n = some (v, p') ∧ 0 ≤ v ∧ v < n ∧ Pool p' := by
  obtain ⟨a, b, rfl⟩ := hp
  have m1 : ∀ x : Int, 0 ≤ x % n := fun x => Int.emod_nonneg _ (by omega)
  have m2 : ∀ x : Int, x % n < n := fun x => Int.emod_lt_of_pos _ h1
  by_cases ha : a = 0
  · refine ⟨b % n, [a, b / n], ?_, m1 b, m2 b, _, _, rfl⟩
    simp [t_law_take, ha, modT_eq h1, fdivT_eq h1 h2, setT, ixN, atI]
  · refine ⟨a % n, [a / n, b], ?_, m1 a, m2 a, _, _, rfl⟩
    simp [t_law_take, ha, modT_eq h1, fdivT_eq h1 h2, setT, ixN, atI]
/-- letters: texts of one sign each -/
def Lts (ls : List (List Nat)) : Prop := ls ≠ [] ∧ ls.length ≤ 26 ∧ ∀ l ∈ ls, l.length = 1 ∧ ∀ c ∈ l, c < 128
theorem abc_lt (i : Nat) : ([97, 98, 99, 100, 101, 102, 103, 104, 105, 106, 107, 108, 109, 110, 111, 112, 113, 114, 115, 116, 117, 118, 119, 120, 121, 122] : List Nat).getD i 0 < 128 := by
  rcases Nat.lt_or_ge i 26 with h | h
  · revert i
    decide
  · rw [List.getD_eq_getElem?_getD, List.getElem?_eq_none (by simpa using h)]
    decide
theorem letters_ok {p : List Int} (hp : Pool p) : ∃ ls p', t_law_letters p = some (ls, p') ∧ Lts ls ∧ Pool p' := by
  obtain ⟨v1, p1, e1, a1, b1, hp1⟩ := take_ok hp (n := 6) (by decide) (by decide)
  obtain ⟨v2, p2, e2, a2, b2, hp2⟩ := take_ok hp1 (n := 26) (by decide) (by decide)
  obtain ⟨v3, p3, e3, a3, b3, hp3⟩ := take_ok hp2 (n := 3) (by decide) (by decide)
  have hm : ∃ m : Nat, atI ([1, 2, 2, 3, 5, 26] : List Int) v1 = some (m : Int) ∧ 1 ≤ m ∧ m ≤ 26 := by
    have : v1 = 0 ∨ v1 = 1 ∨ v1 = 2 ∨ v1 = 3 ∨ v1 = 4 ∨ v1 = 5 := by omega
    rcases this with rfl | rfl | rfl | rfl | rfl | rfl
    · exact ⟨1, rfl, by omega, by omega⟩
    · exact ⟨2, rfl, by omega, by omega⟩
    · exact ⟨2, rfl, by omega, by omega⟩
    · exact ⟨3, rfl, by omega, by omega⟩
    · exact ⟨5, rfl, by omega, by omega⟩
    · exact ⟨26, rfl, by omega, by omega⟩
  obtain ⟨m, em, m1, m2⟩ := hm
  have hb : ∃ by_ : Nat, atI ([1, 3, 25] : List Int) v3 = some (by_ : Int) ∧ by_ ≤ 25 := by
    have : v3 = 0 ∨ v3 = 1 ∨ v3 = 2 := by omega
    rcases this with rfl | rfl | rfl
    · exact ⟨1, rfl, by omega⟩
    · exact ⟨3, rfl, by omega⟩
    · exact ⟨25, rfl, by omega⟩
  obtain ⟨b, eb, b1'⟩ := hb
  unfold t_law_letters
  rw [e1]
  simp only [Option.bind_some]
  rw [em]
  simp only [Option.bind_some]
  rw [e2]
  simp only [Option.bind_some]
  rw [e3]
  simp only [Option.bind_some]
  rw [eb]
  simp only [Option.bind_some]
  rw [range1T_eq m (by omega)]
  simp only [Option.bind_some]
  rw [lcM_map (g := fun k : Nat => [([97, 98, 99, 100, 101, 102, 103, 104, 105, 106, 107, 108, 109, 110, 111, 112, 113, 114, 115, 116, 117, 118, 119, 120, 121, 122] : List Nat).getD ((v2 + (b : Int) * (k : Int)) % 26).toNat 0]) (fun k hk => ?_) (by simp; omega)]
  · refine ⟨_, _, rfl, ⟨?_, ?_, ?_⟩, hp3⟩
    · intro h
      have := congrArg List.length h
      simp at this
      omega
    · simp; exact m2
    · intro l hl
      obtain ⟨k, _, rfl⟩ := List.mem_map.mp hl
      exact ⟨rfl, fun c hc => by rw [List.mem_singleton.mp hc]; exact abc_lt _⟩
  · rw [mulT_small (by omega) (by omega)]
    simp only [Option.bind_some]
    have q1 : 0 ≤ (v2 + (b : Int) * (k : Int)) % 26 := Int.emod_nonneg _ (by decide)
    have q2 : (v2 + (b : Int) * (k : Int)) % 26 < 26 := Int.emod_lt_of_pos _ (by decide)
    generalize (v2 + (b : Int) * (k : Int)) % 26 = z at q1 q2
    obtain ⟨n, rfl⟩ := Int.eq_ofNat_of_zero_le q1
    rw [chT_nat (by simp; omega)]
    simp only [Option.bind_some, Int.toNat_natCast, List.getD_eq_getElem?_getD]
    rw [List.getElem?_eq_getElem (by simp; omega)]
    rfl
end K59

set_option Elab.async false
set_option linter.all false
set_option maxRecDepth 100000
set_option maxHeartbeats 4000000
namespace K59
open PySem L2 PyProof.Rows VS
local instance : TabT := ⟨[], false⟩
/-! trees -/
def Ups (ups : List Int) : Prop := ups[0]? = some (-1) ∧ ∀ (i : Nat) (u : Int), 1 ≤ i → ups[i]? = some u → 0 ≤ u ∧ u < i
structure Tree (t : List Int × List Nat) : Prop where
  ups : Ups t.1
  len : t.1.length = t.2.length
  few : t.1.length ≤ 60
  asc : ∀ c ∈ t.2, c < 128
theorem ups_one : Ups [-1] := ⟨rfl, fun i u h e => by
  cases i with
  | zero => omega
  | succ i => simp at e⟩
theorem ups_len {ups : List Int} (h : Ups ups) : 1 ≤ ups.length := (List.getElem?_eq_some_iff.mp h.1).1
theorem ups_push {ups : List Int} (h : Ups ups) {u : Int} (h1 : 0 ≤ u) (h2 : u < (ups.length : Int)) : Ups (ups ++ [u]) := by
  have hl := ups_len h
  refine ⟨by rw [List.getElem?_append_left hl]; exact h.1, fun i v hi e => ?_⟩
  rcases Nat.lt_or_ge i ups.length with c | c
  · rw [List.getElem?_append_left c] at e
    exact h.2 i v hi e
  · rw [List.getElem?_append_right c] at e
    have : i - ups.length = 0 := by
      have := (List.getElem?_eq_some_iff.mp e).1
      simp at this
      omega
    rw [this] at e
    simp at e
    subst e
    exact ⟨h1, by omega⟩
theorem at_cases {xs : List Int} {v : Int} {n : Nat} (h0 : 0 ≤ v) (h1 : v < (xs.length : Int)) : ∃ x, atI xs v = some x ∧ x ∈ xs := by
  obtain ⟨h', e⟩ := atI_in h0 h1
  exact ⟨_, e, List.getElem_mem _⟩
theorem grown_ok {p : List Int} (hp : Pool p) {n : Nat} (hn : n < 60) {kind : Int} (k0 : 0 ≤ kind) (k1 : kind ≤ 5) {ls : List (List Nat)} (hls : Lts ls) : ∃ t p', t_law_grown p ((n : Int) + 1) kind ls = some (t, p') ∧ Tree t ∧ t.1.length = n + 1 ∧ Pool p' := by
  unfold t_law_grown
  simp only [Option.bind_some]
  rw [range2T_eq n (by omega) (by omega) (by omega) (by omega) (by omega)]
  simp only [Option.bind_some]
  have loop1 : ∀ f : (List Int × List Int × List Int) → Int → Option (List Int × List Int × List Int), (∀ (k : Nat) pool ups line, k < n → Pool pool → Ups ups → ups.length = k + 1 → line ≠ [] → line.length ≤ k + 1 → (∀ l ∈ line, 0 ≤ l ∧ l ≤ (k : Int)) →
      ∃ pool' ups' line', f (pool, ups, line) (1 + (k : Int)) = some (pool', ups', line') ∧ Pool pool' ∧ Ups ups' ∧ ups'.length = k + 2 ∧ line' ≠ [] ∧ line'.length ≤ k + 2 ∧ ∀ l ∈ line', 0 ≤ l ∧ l ≤ ((k + 1 : Nat) : Int)) →
      ∃ pool' ups' line', forS f ((List.range n).map fun k => 1 + ((k : Nat) : Int)) (p, [-1], [0]) = some (pool', ups', line') ∧ Pool pool' ∧ Ups ups' ∧ ups'.length = n + 1 := fun f hf => by
    obtain ⟨s', h, h2⟩ := forS_inv (f := f) (xs := (List.range n).map fun k => 1 + ((k : Nat) : Int)) (s := (p, [-1], [0]))
      (fun k s => Pool s.1 ∧ Ups s.2.1 ∧ s.2.1.length = k + 1 ∧ s.2.2 ≠ [] ∧ s.2.2.length ≤ k + 1 ∧ ∀ l ∈ s.2.2, 0 ≤ l ∧ l ≤ (k : Int)) (fun k hk s hs => by
        have hk' : k < n := by simpa using hk
        obtain ⟨pool, ups, line⟩ := s
        obtain ⟨a, b, c, d, e, g⟩ := hs
        have hx : ((List.range n).map fun k => 1 + ((k : Nat) : Int))[k]'hk = 1 + (k : Int) := by
          rw [List.getElem_map, List.getElem_range]
        rw [hx]
        obtain ⟨pool', ups', line', q1, q2, q3, q4, q5, q6, q7⟩ := hf k pool ups line hk' a b c d e g
        exact ⟨_, q1, q2, q3, q4, q5, q6, q7⟩) ⟨hp, ups_one, rfl, by simp, by simp, by simp⟩
    obtain ⟨pool', ups', line'⟩ := s'
    simp only [List.length_map, List.length_range] at h2
    exact ⟨pool', ups', line', h, h2.1, h2.2.1, h2.2.2.1⟩
  have hL : 0 < ls.length := List.length_pos_iff.mpr hls.1
  have hL2 := hls.2.1
  have step1 : ∀ (k : Nat) (pool ups line : List Int), k < n → Pool pool → Ups ups → ups.length = k + 1 → line ≠ [] → line.length ≤ k + 1 → (∀ l ∈ line, 0 ≤ l ∧ l ≤ (k : Int)) →
      ∃ pool1 pool2 pool' v1 v2 v3 a19 c a31, t_law_take pool 4 = some (v1, pool1) ∧ atI [(List.length line : Int), 1 + v1] (if decide (4 < (List.length line : Int)) = true then 1 else 0) = some a19 ∧ t_law_take pool1 3 = some (v2, pool2) ∧
        t_law_take pool2 (List.length line : Int) = some (v3, pool') ∧ atI [(List.length line : Int), 1, 1 + v3, maxI2 1 ((List.length line : Int) - v2), maxI2 1 ((List.length line : Int) - 1 + (1 + (k : Int)) % 2), a19] kind = some (((c : Nat) : Int)) ∧
        1 ≤ c ∧ c ≤ line.length ∧ atI line (((c : Nat) : Int) - 1) = some a31 ∧ a31 ∈ line ∧ Pool pool' := fun k pool ups line hk hp hu hul hl hll hlm => by
    have hd : 0 < line.length := List.length_pos_iff.mpr hl
    obtain ⟨v1, q1, e1, a1, b1, hq1⟩ := take_ok hp (n := 4) (by decide) (by decide)
    obtain ⟨v2, q2, e2, a2, b2, hq2⟩ := take_ok hq1 (n := 3) (by decide) (by decide)
    obtain ⟨v3, q3, e3, a3, b3, hq3⟩ := take_ok hq2 (n := (line.length : Int)) (by omega) (by omega)
    have hlow : ∃ a19 : Int, atI [(List.length line : Int), 1 + v1] (if decide (4 < (List.length line : Int)) = true then 1 else 0) = some a19 ∧ 1 ≤ a19 ∧ a19 ≤ line.length := by
      by_cases h : 4 < (List.length line : Int)
      · rw [if_pos (by simpa using h)]
        exact ⟨1 + v1, rfl, by omega, by omega⟩
      · rw [if_neg (by simpa using h)]
        exact ⟨(line.length : Int), rfl, by omega, by omega⟩
    obtain ⟨a19, e19, l1, l2⟩ := hlow
    have hnear : 1 ≤ maxI2 1 ((line.length : Int) - v2) ∧ maxI2 1 ((line.length : Int) - v2) ≤ line.length := by
      unfold maxI2; split <;> omega
    have hcomb : 1 ≤ maxI2 1 ((line.length : Int) - 1 + (1 + (k : Int)) % 2) ∧ maxI2 1 ((line.length : Int) - 1 + (1 + (k : Int)) % 2) ≤ line.length := by
      have : (1 + (k : Int)) % 2 = 0 ∨ (1 + (k : Int)) % 2 = 1 := by omega
      unfold maxI2; split <;> omega
    have hcut : ∃ c : Int, atI [(List.length line : Int), 1, 1 + v3, maxI2 1 ((List.length line : Int) - v2), maxI2 1 ((List.length line : Int) - 1 + (1 + (k : Int)) % 2), a19] kind = some c ∧ 1 ≤ c ∧ c ≤ line.length := by
      have : kind = 0 ∨ kind = 1 ∨ kind = 2 ∨ kind = 3 ∨ kind = 4 ∨ kind = 5 := by omega
      rcases this with rfl | rfl | rfl | rfl | rfl | rfl
      · exact ⟨_, rfl, by omega, by omega⟩
      · exact ⟨_, rfl, by omega, by omega⟩
      · exact ⟨_, rfl, by omega, by omega⟩
      · exact ⟨_, rfl, hnear⟩
      · exact ⟨_, rfl, hcomb⟩
      · exact ⟨_, rfl, l1, l2⟩
    obtain ⟨c, ec, c1, c2⟩ := hcut
    obtain ⟨a31, e31, m31⟩ := at_cases (xs := line) (v := c - 1) (n := 0) (by omega) (by omega)
    refine ⟨q1, q2, q3, v1, v2, v3, a19, c.toNat, a31, e1, e19, e2, e3, ?_, by omega, by omega, ?_, m31, hq3⟩
    · rw [Int.toNat_of_nonneg (by omega)]; exact ec
    · rw [Int.toNat_of_nonneg (by omega)]; exact e31
  obtain ⟨pool1, ups1, line1, r1, r2, r3, r4⟩ := loop1 (fun (s7 : ((List Int) × (List Int) × (List Int))) (x14 : Int) => show Option (((List Int) × (List Int) × (List Int))) from
    (some ((List.length s7.2.2 : Nat) : Int)).bind fun v_deep15 =>
    (t_law_take s7.1 4).bind fun a17 =>
    (atI ([v_deep15, (1 + a17.1)] : (List Int)) (if (decide (4 < v_deep15)) = true then 1 else 0)).bind fun a19 =>
    (t_law_take a17.2 3).bind fun a21 =>
    (some (maxI2 1 (v_deep15 - a21.1))).bind fun v_near23 =>
    (some (maxI2 1 ((v_deep15 - 1) + (x14 % 2)))).bind fun v_comb25 =>
    (t_law_take a21.2 v_deep15).bind fun a27 =>
    (atI ([v_deep15, 1, (1 + a27.1), v_near23, v_comb25, a19] : (List Int)) kind).bind fun a29 =>
    (atI s7.2.2 (a29 - 1)).bind fun a31 =>
    (pushT s7.2.1 a31).bind fun a33 =>
    (catT (cutL s7.2.2 none (some a29)) ([x14] : (List Int))).bind fun a35 =>
    some (a27.2, a33, a35)) (fun k pool ups line hk hp hu hul hl hll hlm => by
      obtain ⟨pool1, pool2, pool', v1, v2, v3, a19, c, a31, e1, e2, e3, e4, e5, c1, c2, e6, e7, hp'⟩ := step1 k pool ups line hk hp hu hul hl hll hlm
      simp only [Option.bind_some]
      rw [e1]
      simp only [Option.bind_some]
      rw [e2]
      simp only [Option.bind_some]
      rw [e3]
      simp only [Option.bind_some]
      rw [e4]
      simp only [Option.bind_some]
      rw [e5]
      simp only [Option.bind_some]
      rw [e6]
      simp only [Option.bind_some]
      rw [pushT_eq (by omega)]
      simp only [Option.bind_some, cutL_b]
      rw [catT_eq (by simp; omega)]
      simp only [Option.bind_some]
      obtain ⟨b1, b2⟩ := hlm a31 e7
      refine ⟨_, _, _, rfl, hp', ups_push hu b1 (by omega), by simp [hul], by simp, by simp; omega, fun l hl' => ?_⟩
      rcases List.mem_append.mp hl' with z | z
      · obtain ⟨z1, z2⟩ := hlm l (List.mem_of_mem_take z)
        exact ⟨z1, by omega⟩
      · rw [List.mem_singleton.mp z]
        exact ⟨by omega, by omega⟩)
  have r1' := r1
  simp only [Option.bind_some] at r1'
  rw [r1']
  simp only [Option.bind_some]
  obtain ⟨w1, p1, e1, a1, b1, hp1⟩ := take_ok r2 (n := 6) (by decide) (by decide)
  obtain ⟨w2, p2, e2, a2, b2, hp2⟩ := take_ok hp1 (n := (n : Int) + 1) (by omega) (by omega)
  obtain ⟨w3, p3, e3, a3, b3, hp3⟩ := take_ok hp2 (n := 2) (by decide) (by decide)
  obtain ⟨o, eo, _⟩ := at_cases (xs := [w2, 0]) (v := w3) (n := 0) a3 (by simpa using b3)
  rw [e1]
  simp only [Option.bind_some]
  rw [e2]
  simp only [Option.bind_some]
  rw [e3]
  simp only [Option.bind_some]
  rw [eo]
  simp only [Option.bind_some]
  rw [show (n : Int) + 1 = ((n + 1 : Nat) : Int) by omega, range1T_eq (n + 1) (by omega)]
  simp only [Option.bind_some]
  have loop2 : ∀ f : (List Int × List Nat) → Int → Option (List Int × List Nat), (∀ (j : Nat) pool labels, j < n + 1 → Pool pool → labels.length = j → (∀ c ∈ labels, c < 128) → ∃ pool' labels', f (pool, labels) (j : Int) = some (pool', labels') ∧ Pool pool' ∧ labels'.length = j + 1 ∧ ∀ c ∈ labels', c < 128) →
      ∃ pool' labels', forS f ((List.range (n + 1)).map fun k => ((k : Nat) : Int)) (p3, []) = some (pool', labels') ∧ Pool pool' ∧ labels'.length = n + 1 ∧ ∀ c ∈ labels', c < 128 := fun f hf => by
    obtain ⟨s', h, h2⟩ := forS_inv (f := f) (xs := (List.range (n + 1)).map fun k => ((k : Nat) : Int)) (s := (p3, [])) (fun j s => Pool s.1 ∧ s.2.length = j ∧ ∀ c ∈ s.2, c < 128) (fun j hj s hs => by
      have hj' : j < n + 1 := by simpa using hj
      obtain ⟨pool, labels⟩ := s
      have hx : ((List.range (n + 1)).map fun k => ((k : Nat) : Int))[j]'hj = (j : Int) := by rw [List.getElem_map, List.getElem_range]
      rw [hx]
      obtain ⟨pool', labels', q1, q2, q3⟩ := hf j pool labels hj' hs.1 hs.2.1 hs.2.2
      exact ⟨_, q1, q2, q3⟩) ⟨hp3, rfl, by simp⟩
    obtain ⟨pool', labels'⟩ := s'
    simp only [List.length_map, List.length_range] at h2
    exact ⟨pool', labels', h, h2.1, h2.2⟩
  have pick : ∀ v : Int, 0 ≤ v → v < (ls.length : Int) → ∃ l : Nat, atI ls v = some [l] ∧ l < 128 := fun v h0 h1 => by
    obtain ⟨h', e⟩ := atI_in h0 h1
    have := hls.2.2 _ (List.getElem_mem h')
    obtain ⟨l, hl⟩ := List.length_eq_one_iff.mp this.1
    exact ⟨l, by rw [e, hl], this.2 l (by rw [hl]; simp)⟩
  obtain ⟨pool2, labels2, g1, g2, g3, g4⟩ := loop2 (fun (s55 : ((List Int) × (List Nat))) (x58 : Int) => show Option (((List Int) × (List Nat))) from
    (t_law_take s55.1 ((List.length ls : Nat) : Int)).bind fun a59 =>
    (if ((decide (0 < w1)) && (decide (w1 < 4))) = true then (
      (modT x58 w1).bind fun a61 =>
      (modT a61 ((List.length ls : Nat) : Int)).bind fun a63 =>
      some a63
    ) else (
      some a59.1
    )).bind fun j65 =>
    (if (decide (4 < w1)) = true then (
      (modT (if (x58 == o) = true then 1 else 0) ((List.length ls : Nat) : Int)).bind fun a67 =>
      some a67
    ) else (
      some j65
    )).bind fun j69 =>
    (atI ls j69).bind fun a71 =>
    (catT s55.2 a71).bind fun a73 =>
    some (a59.2, a73)) (fun j pool labels hj hp hl hasc => by
      obtain ⟨v, q, e, a, b, hq⟩ := take_ok hp (n := (ls.length : Int)) (by omega) (by omega)
      have m0 : ∀ z : Int, 0 ≤ z % (ls.length : Int) := fun z => Int.emod_nonneg _ (by omega)
      have m1 : ∀ z : Int, z % (ls.length : Int) < (ls.length : Int) := fun z => Int.emod_lt_of_pos _ (by omega)
      rw [e]
      simp only [Option.bind_some]
      have i1 : ∃ z : Int, (if ((decide (0 < w1)) && (decide (w1 < 4))) = true then ((modT (j : Int) w1).bind fun a61 => (modT a61 ((List.length ls : Nat) : Int)).bind fun a63 => some a63) else some v) = some z ∧ 0 ≤ z ∧ z < (ls.length : Int) := by
        by_cases c : ((decide (0 < w1)) && (decide (w1 < 4))) = true
        · rw [if_pos c]
          rw [Bool.and_eq_true, decide_eq_true_eq, decide_eq_true_eq] at c
          rw [modT_eq c.1]
          simp only [Option.bind_some]
          rw [modT_eq (by omega)]
          exact ⟨_, rfl, m0 _, m1 _⟩
        · rw [if_neg c]
          exact ⟨v, rfl, a, b⟩
      obtain ⟨z, ez, z0, z1⟩ := i1
      have i2 : ∃ y : Int, (if (decide (4 < w1)) = true then ((modT (if ((j : Int) == o) = true then 1 else 0) ((List.length ls : Nat) : Int)).bind fun a67 => some a67) else some z) = some y ∧ 0 ≤ y ∧ y < (ls.length : Int) := by
        by_cases c : (decide (4 < w1)) = true
        · rw [if_pos c, modT_eq (by omega)]
          exact ⟨_, rfl, m0 _, m1 _⟩
        · rw [if_neg c]
          exact ⟨z, rfl, z0, z1⟩
      obtain ⟨y, ey, y0, y1⟩ := i2
      obtain ⟨l, el, el2⟩ := pick y y0 y1
      rw [ez]
      simp only [Option.bind_some]
      rw [ey]
      simp only [Option.bind_some]
      rw [el]
      simp only [Option.bind_some]
      rw [catT_eq (by simp; omega)]
      exact ⟨_, _, rfl, hq, by simp [hl], fun c hc => by
        rcases List.mem_append.mp hc with z | z
        · exact hasc c z
        · rw [List.mem_singleton.mp z]; exact el2⟩)
  have g1' := g1
  simp only at g1'
  rw [g1']
  simp only [Option.bind_some]
  exact ⟨_, _, rfl, ⟨r3, by rw [r4, g3], by show ups1.length ≤ 60; omega, g4⟩, r4, g2⟩
end K59

set_option Elab.async false
set_option linter.all false
set_option maxRecDepth 100000
set_option maxHeartbeats 4000000
namespace K59
open PySem L2 PyProof.Rows VS
local instance : TabT := ⟨[], false⟩
theorem ups_app {ups : List Int} (h : Ups ups) : ∀ (ys : List Int), (∀ (j : Nat) (y : Int), ys[j]? = some y → 0 ≤ y ∧ y < (ups.length : Int) + j) → Ups (ups ++ ys) := by
  intro ys hy
  have hl := ups_len h
  refine ⟨by rw [List.getElem?_append_left hl]; exact h.1, fun i v hi e => ?_⟩
  rcases Nat.lt_or_ge i ups.length with c | c
  · rw [List.getElem?_append_left c] at e
    exact h.2 i v hi e
  · rw [List.getElem?_append_right c] at e
    obtain ⟨a, b⟩ := hy _ v e
    exact ⟨a, by omega⟩
theorem copies_ok {p : List Int} (hp : Pool p) {ls : List (List Nat)} (hls : Lts ls) : ∃ t p', t_law_copies p 60 ls = some (t, p') ∧ Tree t ∧ Pool p' := by
  have hL : 0 < ls.length := List.length_pos_iff.mpr hls.1
  have hL2 := hls.2.1
  obtain ⟨v1, p1, e1, a1, b1, hp1⟩ := take_ok hp (n := 6) (by decide) (by decide)
  obtain ⟨n, rfl⟩ := Int.eq_ofNat_of_zero_le a1
  obtain ⟨one, p2, e2, t2, l2, hp2⟩ := grown_ok hp1 (n := n) (by omega) (kind := 2) (by decide) (by decide) hls
  obtain ⟨v3, p3, e3, a3, b3, hp3⟩ := take_ok hp2 (n := 2) (by decide) (by decide)
  obtain ⟨v4, p4, e4, a4, b4, hp4⟩ := take_ok hp3 (n := (ls.length : Int)) (by omega) (by omega)
  obtain ⟨h4, e5⟩ := atI_in a4 b4
  have h4' := hls.2.2 _ (List.getElem_mem h4)
  obtain ⟨v5, p5, e6, a5, b5, hp5⟩ := take_ok hp4 (n := 12) (by decide) (by decide)
  obtain ⟨m, rfl⟩ := Int.eq_ofNat_of_zero_le a5
  unfold t_law_copies
  rw [e1]
  simp only [Option.bind_some]
  rw [show (1 : Int) + (n : Int) = (n : Int) + 1 by omega, e2]
  simp only [Option.bind_some]
  rw [e3]
  simp only [Option.bind_some]
  rw [e4]
  simp only [Option.bind_some]
  rw [e5]
  simp only [Option.bind_some]
  rw [e6]
  simp only [Option.bind_some]
  rw [show (1 : Int) + (m : Int) = ((m + 1 : Nat) : Int) by omega, range1T_eq (m + 1) (by omega)]
  simp only [Option.bind_some]
  have loop : ∀ (xs : List Int) (f : (List Int × List Nat) → Int → Option (List Int × List Nat)) (s : List Int × List Nat), (∀ s x, Tree s → ∃ s', f s x = some s' ∧ Tree s') → Tree s → ∃ s', forS f xs s = some s' ∧ Tree s' := fun xs f s hf hs => by
    obtain ⟨s', h, h2⟩ := forS_inv (f := f) (xs := xs) (s := s) (fun _ s => Tree s) (fun j hj s hs => hf s _ hs) hs
    exact ⟨s', h, h2⟩
  have t0 : Tree ([-1], ls[v4.toNat]) := ⟨ups_one, by rw [h4'.1]; rfl, by simp, h4'.2⟩
  obtain ⟨s', h, hs'⟩ := loop ((List.range (m + 1)).map fun k => ((k : Nat) : Int)) (fun (s17 : ((List Int) × (List Nat))) (x20 : Int) => show Option (((List Int) × (List Nat))) from
    if (decide ((((List.length s17.1 : Nat) : Int) + ((List.length one.1 : Nat) : Int)) ≤ 60)) = true then (
      (some ((List.length s17.1 : Nat) : Int)).bind fun v_here21 =>
      (atI ([0, (v_here21 - 1)] : (List Int)) v3).bind fun a23 =>
      (lcM (fun (x25 : Int) =>  some (x25 + v_here21)) (cutL one.1 (some 1) none)).bind fun a26 =>
      (catT ([a23] : (List Int)) a26).bind fun a28 =>
      (extT s17.1 a28).bind fun a30 =>
      (catT s17.2 one.2).bind fun a32 =>
      some (a30, a32)
    ) else (
      some (s17.1, s17.2)
    )) ([-1], ls[v4.toNat]) (fun s x hs => by
      obtain ⟨ups, labels⟩ := s
      by_cases c : (decide ((((List.length ups : Nat) : Int) + ((List.length one.1 : Nat) : Int)) ≤ 60)) = true
      · simp only [if_pos c]
        rw [decide_eq_true_eq] at c
        have hul := ups_len hs.ups
        have hul' : 1 ≤ ups.length := hul
        have hol := ups_len t2.ups
        have hpick : ∃ u : Int, atI ([0, (ups.length : Int) - 1] : List Int) v3 = some u ∧ 0 ≤ u ∧ u < (ups.length : Int) := by
          have : v3 = 0 ∨ v3 = 1 := by omega
          rcases this with rfl | rfl
          · exact ⟨0, rfl, by omega, by omega⟩
          · exact ⟨(ups.length : Int) - 1, rfl, by omega, by omega⟩
        obtain ⟨u, eu, u0, u1⟩ := hpick
        simp only [Option.bind_some]
        rw [eu]
        simp only [Option.bind_some]
        rw [show (some (1 : Int)) = some ((1 : Nat) : Int) from rfl, cutL_a, lcM_eq (fun x : Int => x + (ups.length : Int)) (fun x _ => rfl) (by simp; omega)]
        simp only [Option.bind_some]
        rw [catT_eq (by simp; omega)]
        simp only [Option.bind_some]
        rw [extT_eq (by simp; omega)]
        simp only [Option.bind_some]
        have hsl := hs.len
        have htl := t2.len
        simp only at hsl
        rw [catT_eq (by omega)]
        refine ⟨_, rfl, ups_app hs.ups _ fun j y hy => ?_, ?_, ?_, fun c hc => (List.mem_append.mp hc).elim (hs.asc c) (t2.asc c)⟩
        · cases j with
          | zero =>
            simp at hy
            subst hy
            exact ⟨u0, by simpa using u1⟩
          | succ j =>
            simp only [List.singleton_append, List.getElem?_cons_succ, List.getElem?_map, List.getElem?_drop] at hy
            cases q : one.1[1 + j]? with
            | none => rw [q] at hy; cases hy
            | some z =>
              rw [q] at hy
              simp only [Option.map_some, Option.some.injEq] at hy
              obtain ⟨z0, z1⟩ := t2.ups.2 (1 + j) z (by omega) q
              subst hy
              refine ⟨by omega, ?_⟩
              show z + (ups.length : Int) < (ups.length : Int) + ((j + 1 : Nat) : Int)
              omega
        · simp only [List.length_append, List.length_cons, List.length_nil, List.length_map, List.length_drop]
          omega
        · show (ups ++ _).length ≤ 60
          simp only [List.length_append, List.length_cons, List.length_nil, List.length_map, List.length_drop]
          omega
      · simp only [if_neg c]
        exact ⟨_, rfl, hs⟩) t0
  have h' := h
  simp only [Option.bind_some] at h'
  rw [h']
  exact ⟨_, _, rfl, hs', hp5⟩
theorem tree_ok {p : List Int} (hp : Pool p) {ls : List (List Nat)} (hls : Lts ls) : ∃ t p', t_law_tree p 60 ls = some (t, p') ∧ Tree t ∧ Pool p' := by
  obtain ⟨v1, p1, e1, a1, b1, hp1⟩ := take_ok hp (n := 8) (by decide) (by decide)
  obtain ⟨v2, p2, e2, a2, b2, hp2⟩ := take_ok hp1 (n := 9) (by decide) (by decide)
  obtain ⟨v3, p3, e3, a3, b3, hp3⟩ := take_ok hp2 (n := 60) (by decide) (by decide)
  obtain ⟨v4, p4, e4, a4, b4, hp4⟩ := take_ok hp3 (n := 3) (by decide) (by decide)
  have hm : ∃ n : Nat, atI ([1 + v2, 1 + v3, 60] : List Int) v4 = some ((n : Int) + 1) ∧ n < 60 := by
    have : v4 = 0 ∨ v4 = 1 ∨ v4 = 2 := by omega
    rcases this with rfl | rfl | rfl
    · exact ⟨v2.toNat, by rw [Int.toNat_of_nonneg a2, Int.add_comm v2 1]; rfl, by omega⟩
    · exact ⟨v3.toNat, by rw [Int.toNat_of_nonneg a3, Int.add_comm v3 1]; rfl, by omega⟩
    · exact ⟨59, rfl, by omega⟩
  obtain ⟨n, en, hn⟩ := hm
  unfold t_law_tree
  rw [e1]
  simp only [Option.bind_some]
  rw [e2]
  simp only [Option.bind_some]
  rw [e3]
  simp only [Option.bind_some]
  rw [e4]
  simp only [Option.bind_some]
  rw [en]
  simp only [Option.bind_some]
  by_cases c : (decide (5 < v1)) = true
  · rw [if_pos c]
    obtain ⟨t, p', e, ht, hp'⟩ := copies_ok hp4 hls
    rw [e]
    exact ⟨t, p', rfl, ht, hp'⟩
  · rw [if_neg c]
    rw [decide_eq_true_eq] at c
    obtain ⟨t, p', e, ht, _, hp'⟩ := grown_ok hp4 hn a1 (by omega) hls
    rw [e]
    exact ⟨t, p', rfl, ht, hp'⟩
theorem both_ok {p : List Int} (hp : Pool p) : ∃ a b, t_law_both p = some (a, b) ∧ Tree a ∧ Tree b := by
  obtain ⟨v1, p1, e1, a1, b1, hp1⟩ := take_ok hp (n := 6) (by decide) (by decide)
  obtain ⟨ls, p2, e2, hls, hp2⟩ := letters_ok hp1
  obtain ⟨t, p3, e3, ht, hp3⟩ := tree_ok hp2 hls
  obtain ⟨ls2, p4, e4, hls2, hp4⟩ := letters_ok hp3
  have pick : ∃ l, atI [ls, ls2] (if (v1 == 0) = true then 1 else 0) = some l ∧ Lts l := by
    by_cases c : (v1 == 0) = true
    · rw [if_pos c]; exact ⟨ls2, rfl, hls2⟩
    · rw [if_neg c]; exact ⟨ls, rfl, hls⟩
  obtain ⟨l, e5, hl⟩ := pick
  obtain ⟨o, p5, e6, ho, hp5⟩ := tree_ok hp4 hl
  have hn := ups_len ht.ups
  have hf := ht.few
  have hL : 0 < ls.length := List.length_pos_iff.mpr hls.1
  have hL2 := hls.2.1
  unfold t_law_both
  rw [e1]
  simp only [Option.bind_some]
  rw [e2]
  simp only [Option.bind_some]
  rw [e3]
  simp only [Option.bind_some]
  rw [e4]
  simp only [Option.bind_some]
  rw [e5]
  simp only [Option.bind_some]
  rw [e6]
  simp only [Option.bind_some]
  have j1 : ∃ j, (show Option ((List Int) × (List Nat)) from if (v1 == 4) = true then (some t) else (some o)) = some j ∧ Tree j := by
    by_cases c : (v1 == 4) = true
    · exact ⟨t, if_pos c, ht⟩
    · exact ⟨o, if_neg c, ho⟩
  obtain ⟨j, ej, hj⟩ := j1
  have j2 : ∃ k, (show Option ((List Int) × (List Nat)) from if (v1 == 5) = true then (
    (t_law_take p5 ((List.length t.2 : Nat) : Int)).bind fun a15 =>
    (t_law_take a15.2 ((List.length ls : Nat) : Int)).bind fun a17 =>
    (atI ls a17.1).bind fun a19 =>
    (catT (cutL t.2 none (some a15.1)) a19).bind fun a21 =>
    (catT a21 (cutL t.2 (some (a15.1 + 1)) none)).bind fun a23 =>
    some (t.1, a23)
  ) else (
    some j
  )) = some k ∧ Tree k := by
    by_cases c : (v1 == 5) = true
    · have hlen := ht.len
      obtain ⟨w1, q1, f1, c1, d1, hq1⟩ := take_ok hp5 (n := (t.2.length : Int)) (by omega) (by omega)
      obtain ⟨w2, q2, f2, c2, d2, hq2⟩ := take_ok hq1 (n := (ls.length : Int)) (by omega) (by omega)
      obtain ⟨h3, f3⟩ := atI_in c2 d2
      have h4 := hls.2.2 _ (List.getElem_mem h3)
      obtain ⟨m, rfl⟩ := Int.eq_ofNat_of_zero_le c1
      refine ⟨(t.1, t.2.take m ++ ls[w2.toNat] ++ t.2.drop (m + 1)), ?_, ht.ups, ?_, ht.few, fun c hc => ?_⟩
      · refine (if_pos c).trans ?_
        rw [f1]
        simp only [Option.bind_some]
        rw [f2]
        simp only [Option.bind_some]
        rw [f3]
        simp only [Option.bind_some]
        rw [cutL_b, catT_eq (by simp; omega)]
        simp only [Option.bind_some]
        rw [show (m : Int) + 1 = ((m + 1 : Nat) : Int) by omega, cutL_a, catT_eq (by simp; omega)]
        rfl
      · simp only [List.length_append, List.length_take, List.length_drop, h4.1]
        omega
      · rcases List.mem_append.mp hc with hc | hc
        · rcases List.mem_append.mp hc with hc | hc
          · exact ht.asc c (List.mem_of_mem_take hc)
          · exact h4.2 c hc
        · exact ht.asc c (List.mem_of_mem_drop hc)
    · exact ⟨j, if_neg c, hj⟩
  obtain ⟨k, ek, hk⟩ := j2
  refine ⟨t, k, ?_, ht, hk⟩
  refine (congrArg (fun z => Option.bind z _) ej).trans ?_
  rw [Option.bind_some]
  refine (congrArg (fun z => Option.bind z _) ek).trans ?_
  rw [Option.bind_some]
end K59

set_option Elab.async false
set_option linter.all false
set_option maxRecDepth 100000
set_option maxHeartbeats 4000000
namespace K59
open PySem L2 PyProof.Rows VS
local instance : TabT := ⟨[], false⟩
/-! the words that are read -/
def wdF (t : List Int × List Nat) : Nat → Int → List Nat
  | 0, _ => []
  | f + 1, p => if p < 0 then [] else t.2.getD p.toNat 0 :: wdF t f (t.1.getD p.toNat (-1))
def wd (t : List Int × List Nat) (p : Int) : List Nat := wdF t (p + 1).toNat p
theorem up_lt {t : List Int × List Nat} (h : Tree t) {i : Nat} (hi : i < t.1.length) : -1 ≤ t.1.getD i (-1) ∧ t.1.getD i (-1) < (i : Int) ∧ (1 ≤ i → 0 ≤ t.1.getD i (-1)) := by
  rw [List.getD_eq_getElem?_getD, List.getElem?_eq_getElem hi]
  simp only [Option.getD_some]
  rcases Nat.eq_zero_or_pos i with rfl | hp
  · have := h.ups.1
    rw [List.getElem?_eq_getElem hi] at this
    rw [Option.some.inj this]
    exact ⟨by decide, by decide, fun z => absurd z (by decide)⟩
  · obtain ⟨a, b⟩ := h.ups.2 i _ hp (List.getElem?_eq_getElem hi)
    exact ⟨by omega, b, fun _ => a⟩
theorem wdF_more {t : List Int × List Nat} (h : Tree t) : ∀ (f g : Nat) (p : Int), p < (t.1.length : Int) → p < (f : Int) → p < (g : Int) → wdF t f p = wdF t g p
  | 0, g, p, _, hf, _ => by
    cases g with
    | zero => rfl
    | succ g =>
      unfold wdF
      rw [if_pos (show p < 0 by omega)]
  | f + 1, 0, p, _, _, hg => by
    unfold wdF
    rw [if_pos (show p < 0 by omega)]
  | f + 1, g + 1, p, hl, hf, hg => by
    unfold wdF
    by_cases c : p < 0
    · rw [if_pos c, if_pos c]
    · rw [if_neg c, if_neg c]
      obtain ⟨i, rfl⟩ := Int.eq_ofNat_of_zero_le (show 0 ≤ p by omega)
      obtain ⟨a, b, _⟩ := up_lt h (i := i) (by omega)
      simp only [Int.toNat_natCast]
      rw [wdF_more h f g (t.1.getD i (-1)) (by omega) (by omega) (by omega)]
theorem wd_neg (t : List Int × List Nat) {p : Int} (h : p < 0) : wd t p = [] := by
  unfold wd
  cases q : (p + 1).toNat with
  | zero => rfl
  | succ n => omega
theorem wd_nat {t : List Int × List Nat} (h : Tree t) {i : Nat} (hi : i < t.1.length) : wd t (i : Int) = t.2.getD i 0 :: wd t (t.1.getD i (-1)) := by
  obtain ⟨a, b, _⟩ := up_lt h hi
  unfold wd
  rw [show ((i : Int) + 1).toNat = i + 1 by omega]
  conv => lhs; unfold wdF
  rw [if_neg (by omega)]
  simp only [Int.toNat_natCast]
  rw [wdF_more h i ((t.1.getD i (-1) + 1).toNat) _ (by omega) (by omega) (by omega)]
theorem wd_len {t : List Int × List Nat} (h : Tree t) : ∀ (n : Nat) (i : Nat), i < n → i < t.1.length → (wd t (i : Int)).length ≤ i + 1 ∧ 1 ≤ (wd t (i : Int)).length
  | 0, i, hn, _ => absurd hn (Nat.not_lt_zero _)
  | n + 1, i, hn, hi => by
    rw [wd_nat h hi]
    obtain ⟨a, b, c⟩ := up_lt h hi
    by_cases z : t.1.getD i (-1) < 0
    · rw [wd_neg t z]
      simp
    · obtain ⟨j, hj⟩ := Int.eq_ofNat_of_zero_le (show 0 ≤ t.1.getD i (-1) by omega)
      rw [hj]
      obtain ⟨q1, q2⟩ := wd_len h n j (by omega) (by omega)
      simp only [List.length_cons]
      omega
theorem word_ok {t : List Int × List Nat} (h : Tree t) {i : Nat} (hi : i < t.1.length) : t_law_word t (i : Int) = some (wd t (i : Int)) := by
  unfold t_law_word
  have loop : ∀ (tt : (Int × List Nat) → Option Bool) (f : (Int × List Nat) → Option (Int × List Nat)), (∀ p w, tt (p, w) = some (decide (0 ≤ p))) → (∀ (j : Nat) w, j < t.1.length → w.length ≤ 1000 → f ((j : Int), w) = some (t.1.getD j (-1), w ++ [t.2.getD j 0])) →
      ∃ s', whileS tt f fuel ((i : Int), []) = some s' ∧ s'.2 = wd t (i : Int) := fun tt f h1 h2 => by
    obtain ⟨s', e, ⟨q1, q2, q3, q4⟩, q5⟩ := whileS_inv (t := tt) (f := f) (fun s => s.2 ++ wd t s.1 = wd t (i : Int) ∧ -1 ≤ s.1 ∧ s.1 < (t.1.length : Int) ∧ (s.2.length : Int) + s.1 ≤ 60) (fun s => (s.1 + 1).toNat) (fun s hs => by
      obtain ⟨p, w⟩ := s
      obtain ⟨a1, a2, a3, a4⟩ := hs
      simp only at a1 a2 a3 a4
      by_cases c : 0 ≤ p
      · right
        obtain ⟨j, rfl⟩ := Int.eq_ofNat_of_zero_le c
        have hj : j < t.1.length := by omega
        obtain ⟨b1, b2, _⟩ := up_lt h hj
        refine ⟨by rw [h1]; simp, _, h2 j w hj (by omega), ⟨?_, by omega, ?_, ?_⟩, ?_⟩
        · simp only [List.append_assoc, List.singleton_append]
          rw [← wd_nat h hj]
          exact a1
        · show t.1.getD j (-1) < _
          omega
        · simp only [List.length_append, List.length_cons, List.length_nil]
          omega
        · simp only
          omega
      · left
        rw [h1]
        simp [c]) (n := fuel) (s := ((i : Int), [])) (by simp [fuel]; have := h.few; omega) ⟨by simp, by show (-1 : Int) ≤ (i : Int); omega, by show (i : Int) < (t.1.length : Int); omega, by show ((0 : Nat) : Int) + (i : Int) ≤ 60; have := h.few; omega⟩
    refine ⟨s', e, ?_⟩
    obtain ⟨p, w⟩ := s'
    rw [h1] at q5
    simp only [Option.some.injEq, decide_eq_false_iff_not] at q5
    simp only at q1
    rw [wd_neg t (by omega), List.append_nil] at q1
    exact q1
  obtain ⟨s', e, e2⟩ := loop (fun (s1 : (Int × (List Nat))) => some (decide (0 ≤ s1.1))) (fun (s1 : (Int × (List Nat))) => show Option ((Int × (List Nat))) from
    (chT t.2 s1.1).bind fun a2 =>
    (catT s1.2 a2).bind fun a4 =>
    (atI t.1 s1.1).bind fun a6 =>
    some (a6, a4)) (fun p w => rfl) (fun j w hj hw => by
      have hj2 : j < t.2.length := by rw [← h.len]; exact hj
      rw [chT_nat hj2]
      simp only [Option.bind_some]
      rw [catT_eq (by simp; omega)]
      simp only [Option.bind_some]
      rw [atI_lt hj]
      simp only [Option.bind_some, List.getD_eq_getElem?_getD]
      rw [List.getElem?_eq_getElem hj, List.getElem?_eq_getElem hj2]
      rfl)
  rw [e]
  simp only [Option.bind_some, e2]
end K59

set_option Elab.async false
set_option linter.all false
set_option maxRecDepth 100000
set_option maxHeartbeats 4000000
namespace K59
open PySem L2 PyProof.Rows VS
local instance : TabT := ⟨[], false⟩
def wl (t : List Int × List Nat) : List (List Nat) := (List.range t.1.length).map fun i => wd t ((i : Nat) : Int)
theorem wl_len (t : List Int × List Nat) : (wl t).length = t.1.length := by simp [wl]
theorem words_ok {t : List Int × List Nat} (h : Tree t) : t_all_words t = some (wl t) := by
  have hf := h.few
  have loop : ∀ f : List (List Nat) → (Int × Int) → Option (List (List Nat)), (∀ (s : List (List Nat)) (i : Nat), i < t.1.length → s = (List.range i).map (fun i => wd t ((i : Nat) : Int)) → f s ((i : Int), t.1.getD i (-1)) = some (s ++ [wd t (i : Int)])) → forS f (enumT t.1) [] = some (wl t) := fun f hs => by
    obtain ⟨s', e, h2⟩ := forS_inv (f := f) (xs := enumT t.1) (s := []) (fun i s => s = (List.range i).map fun i => wd t ((i : Nat) : Int)) (fun i hi s h2 => by
      have hi' : i < t.1.length := by unfold enumT at hi; rw [List.length_mapIdx] at hi; exact hi
      have hx : (enumT t.1)[i]'hi = ((i : Int), t.1.getD i (-1)) := by
        refine Option.some.inj ((List.getElem?_eq_getElem hi).symm.trans ?_)
        unfold enumT
        rw [List.getElem?_mapIdx, List.getD_eq_getElem?_getD, List.getElem?_eq_getElem hi']
        rfl
      rw [hx]
      refine ⟨_, hs s i hi' h2, ?_⟩
      rw [h2, List.range_succ, List.map_append]
      rfl) rfl
    rw [e, h2]
    unfold enumT wl
    rw [List.length_mapIdx]
  unfold t_all_words
  rw [loop _ (fun s i hi hs => by
    have hi2 : i < t.2.length := by rw [← h.len]; exact hi
    have hsl : s.length = i := by rw [hs]; simp
    obtain ⟨b1, b2, _⟩ := up_lt h hi
    show (chT t.2 (i : Int)).bind _ = _
    rw [chT_nat hi2]
    simp only [Option.bind_some]
    have e2 : t.2.getD i 0 = t.2[i] := by rw [List.getD_eq_getElem?_getD, List.getElem?_eq_getElem hi2]; rfl
    have hw := wd_nat h hi
    rw [e2] at hw
    have wlen := (wd_len h _ i (Nat.lt_succ_self _) hi).1
    rw [hw] at wlen
    simp only [List.length_cons] at wlen
    by_cases c : 0 ≤ t.1.getD i (-1)
    · obtain ⟨u, hu⟩ := Int.eq_ofNat_of_zero_le c
      have hul : u < s.length := by omega
      rw [hu] at hw wlen ⊢
      rw [if_pos (by simp), atI_lt hul]
      simp only [Option.bind_some]
      have e3 : s[u] = wd t (u : Int) := by simp only [hs, List.getElem_map, List.getElem_range]
      rw [e3, catT_eq (by simp; omega)]
      simp only [Option.bind_some]
      rw [pushT_eq (by omega), hw]
      rfl
    · rw [if_neg (by simpa using c)]
      simp only [Option.bind_some]
      rw [wd_neg t (p := t.1.getD i (-1)) (by omega)] at hw
      rw [catT_eq (by simp)]
      simp only [Option.bind_some]
      rw [pushT_eq (by omega), hw]
      rfl)]
  rfl
abbrev Row := List Nat × Int × Int
def rws (w : Int) (t : List Int × List Nat) : List Row := (List.range t.1.length).map fun i => (wd t ((i : Nat) : Int), w, ((i : Nat) : Int))
theorem rws_len (w : Int) (t : List Int × List Nat) : (rws w t).length = t.1.length := by simp [rws]
def srt (xs : List Row) : List (Int × Int) := (sortT (ltP3 (fun a b => decide (a < b)) (fun a b => decide (a < b)) (fun a b => decide (a < b))) xs).map fun x => (x.2.1, x.2.2)
theorem srt_len (xs : List Row) : (srt xs).length = xs.length := by unfold srt sortT; rw [List.length_map, List.length_mergeSort]
theorem both_eq {a b : List Int × List Nat} (ha : Tree a) (hb : Tree b) : t_both_merged a b = some (srt (rws 0 a ++ rws 1 b)) := by
  have fa := ha.few
  have fb := hb.few
  unfold t_both_merged
  have loop : ∀ f : List Row → (Int × (List Int × List Nat)) → Option (List Row), (∀ (s : List Row) (w : Int) (t : List Int × List Nat), Tree t → s.length ≤ 60 → f s (w, t) = some (s ++ rws w t)) → forS f (enumT [a, b]) [] = some (rws 0 a ++ rws 1 b) := fun f hf => by
    have e : enumT [a, b] = [(0, a), (1, b)] := rfl
    rw [e]
    simp only [forS]
    rw [hf [] 0 a ha (by simp)]
    simp only [Option.bind_some, List.nil_append]
    rw [hf _ 1 b hb (by rw [rws_len]; omega)]
    simp only [Option.bind_some]
  rw [loop _ (fun s w t ht hs => by
    have ft := ht.few
    show (t_all_words t).bind _ = _
    rw [words_ok ht]
    simp only [Option.bind_some]
    have e : enumT (wl t) = (List.range t.1.length).map fun i => (((i : Nat) : Int), wd t ((i : Nat) : Int)) := by
      unfold enumT wl
      apply List.ext_getElem
      · simp
      · intro i h1 h2
        simp
    rw [e, lcM_map (k := fun i : Nat => (((i : Nat) : Int), wd t ((i : Nat) : Int))) (g := fun i : Nat => ((wd t (i : Int), w, (i : Int)) : Row)) (fun i _ => rfl) (by rw [List.length_range]; omega)]
    simp only [Option.bind_some]
    rw [extT_eq (by simp; omega)]
    rfl)]
  simp only [Option.bind_some]
  rw [lcM_eq (fun x : Row => (x.2.1, x.2.2)) (fun x _ => rfl) (by unfold sortT; rw [List.length_mergeSort, List.length_append, rws_len, rws_len]; omega)]
  rfl
/-! the texts of lists of pairs of numbers -/
theorem small_pairs : ∀ L : List (Int × Int), (∀ p ∈ L, (0 ≤ p.1 ∧ p.1 ≤ 1000) ∧ 0 ≤ p.2 ∧ p.2 ≤ 1000) → smallDs (L.map (eP2 D.int D.int)) = true ∧ PyData.bulkAll (toPys (L.map (eP2 D.int D.int))) = 3 * L.length
  | [], _ => ⟨rfl, rfl⟩
  | p :: L, h => by
    obtain ⟨a, b⟩ := small_pairs L fun q hq => h q (List.mem_cons_of_mem _ hq)
    obtain ⟨⟨c1, c2⟩, c3, c4⟩ := h p List.mem_cons_self
    refine ⟨?_, ?_⟩
    · simp only [List.map_cons, smallDs, smallD, Bool.and_eq_true, decide_eq_true_eq, a, and_true]
      omega
    · simp only [List.map_cons, toPys, toPy, PyData.bulkAll, PyData.bulk, b, List.length_cons]
      omega
theorem repr_pairs (L : List (Int × Int)) (h : ∀ p ∈ L, (0 ≤ p.1 ∧ p.1 ≤ 1000) ∧ 0 ≤ p.2 ∧ p.2 ≤ 1000) (hl : L.length ≤ 1000) : ∃ s, reprO (eL (eP2 D.int D.int) L) = some s := by
  obtain ⟨a, b⟩ := small_pairs L h
  refine ⟨_, if_pos ?_⟩
  simp only [Bool.and_eq_true, decide_eq_true_eq]
  refine ⟨⟨⟨rfl, ?_⟩, ?_⟩, ?_⟩
  · show (L.map (eP2 D.int D.int)).all (dpt 59) = true
    rw [List.all_map, List.all_eq_true]
    intro x _
    rfl
  · show smallDs (L.map (eP2 D.int D.int)) = true
    exact a
  · show PyData.bulk (toPy (.lst (L.map (eP2 D.int D.int)))) ≤ 60000
    simp only [toPy, PyData.bulk, b]
    omega
theorem srt_small {a b : List Int × List Nat} (ha : Tree a) (hb : Tree b) : ∀ p ∈ srt (rws 0 a ++ rws 1 b), (0 ≤ p.1 ∧ p.1 ≤ 1000) ∧ 0 ≤ p.2 ∧ p.2 ≤ 1000 := by
  intro p hp
  have fa := ha.few
  have fb := hb.few
  unfold srt sortT at hp
  obtain ⟨x, hx, rfl⟩ := List.mem_map.mp hp
  rw [List.mem_mergeSort, List.mem_append] at hx
  rcases hx with hx | hx
  · obtain ⟨i, hi, rfl⟩ := List.mem_map.mp hx
    have := List.mem_range.mp hi
    simp only
    omega
  · obtain ⟨i, hi, rfl⟩ := List.mem_map.mp hx
    have := List.mem_range.mp hi
    simp only
    omega
theorem right_ok {a b : List Int × List Nat} (ha : Tree a) (hb : Tree b) : t_law_right a b = some true := by
  have fa := ha.few
  have fb := hb.few
  unfold t_law_right
  have inner : ∀ (f : List Row → Int → Option (List Row)) (w : Int) (t : List Int × List Nat) (s : List Row), Tree t → s.length ≤ 60 → (∀ (s : List Row) (i : Nat), i < t.1.length → s.length ≤ 200 → f s (i : Int) = some (s ++ [(wd t (i : Int), w, (i : Int))])) → forS f ((List.range t.1.length).map fun k => ((k : Nat) : Int)) s = some (s ++ rws w t) := fun f w t s ht hs hf => by
    have ft := ht.few
    obtain ⟨s', e, h2⟩ := forS_inv (f := f) (xs := (List.range t.1.length).map fun k => ((k : Nat) : Int)) (s := s) (fun k z => z = s ++ (List.range k).map fun i => ((wd t ((i : Nat) : Int), w, ((i : Nat) : Int)) : Row)) (fun k hk z hz => by
      have hk' : k < t.1.length := by simpa using hk
      have hx : ((List.range t.1.length).map fun k => ((k : Nat) : Int))[k]'hk = (k : Int) := by rw [List.getElem_map, List.getElem_range]
      rw [hx]
      refine ⟨_, hf z k hk' (by rw [hz]; simp; omega), ?_⟩
      rw [hz, List.range_succ, List.map_append, List.append_assoc]
      rfl) (by simp)
    rw [e, h2]
    simp only [List.length_map, List.length_range]
    rfl
  have loop : ∀ f : List Row → (Int × (List Int × List Nat)) → Option (List Row), (∀ (s : List Row) (w : Int) (t : List Int × List Nat), Tree t → s.length ≤ 60 → f s (w, t) = some (s ++ rws w t)) → forS f (enumT [a, b]) [] = some (rws 0 a ++ rws 1 b) := fun f hf => by
    have e : enumT [a, b] = [(0, a), (1, b)] := rfl
    rw [e]
    simp only [forS]
    rw [hf [] 0 a ha (by simp)]
    simp only [Option.bind_some, List.nil_append]
    rw [hf _ 1 b hb (by rw [rws_len]; omega)]
    simp only [Option.bind_some]
  rw [loop _ (fun s w t ht hs => by
    have ft := ht.few
    show (range1T ((List.length t.1 : Nat) : Int)).bind _ = _
    rw [range1T_eq _ (by omega)]
    simp only [Option.bind_some]
    rw [inner _ w t s ht hs (fun s i hi hs => by
      show (t_law_word t (i : Int)).bind _ = _
      rw [word_ok ht hi]
      simp only [Option.bind_some]
      rw [pushT_eq (by omega)]
      rfl)]
    rfl)]
  simp only [Option.bind_some]
  rw [lcM_eq (fun x : Row => (x.2.1, x.2.2)) (fun x _ => rfl) (by unfold sortT; rw [List.length_mergeSort, List.length_append, rws_len, rws_len]; omega)]
  rw [Option.bind_some, show (2 : Int) = ((2 : Nat) : Int) from rfl, range1T_eq 2 (by decide)]
  simp only [Option.bind_some]
  have hl : (srt (rws 0 a ++ rws 1 b)).length ≤ 120 := by rw [srt_len, List.length_append, rws_len, rws_len]; omega
  obtain ⟨s, es⟩ := repr_pairs (srt (rws 0 a ++ rws 1 b)) (srt_small ha hb) (by omega)
  have turn : ∀ (f : Unit → Int → Option (FlT Unit Bool)), (∀ x, f () x = some (.nx ())) → ∀ xs, forR f xs () = some (.nx ()) := fun f hf xs => by
    obtain ⟨s', e, _⟩ := forR_inv (f := f) (xs := xs) (s := ()) (fun _ _ => True) (fun k hk s _ => ⟨(), hf _, trivial⟩) trivial
    exact e
  rw [turn _ (fun x => by
    show (t_both_merged a b).bind _ = _
    rw [both_eq ha hb]
    simp only [Option.bind_some]
    rw [es]
    simp only [Option.bind_some]
    have es' : reprO (eL (eP2 D.int D.int) ((sortT (ltP3 (fun a b => decide (a < b)) (fun a b => decide (a < b)) (fun a b => decide (a < b))) (rws 0 a ++ rws 1 b)).map fun x => (x.2.1, x.2.2))) = some s := es
    rw [es']
    simp only [Option.bind_some]
    rw [if_neg (by simp), pushT_eq (by omega)]
    rfl)]
  rfl
theorem law_t (ns : List Int) (hl : ns.length ≤ 63) : t_law ns = some true := by
  unfold t_law
  have hr : maxI2 1 (minI2 10 ((ns.length : Nat) : Int)) = ((max 1 (min 10 ns.length) : Nat) : Int) := by
    unfold maxI2 minI2
    repeat' split
    all_goals omega
  rw [hr, range1T_eq _ (by omega)]
  simp only [Option.bind_some]
  have loop : ∀ (f : Unit → Int → Option (FlT Unit Bool)) (L : Nat), (∀ i : Nat, f () (i : Int) = some (.nx ())) → forR f ((List.range L).map fun k => ((k : Nat) : Int)) () = some (.nx ()) := fun f L hf => by
    obtain ⟨s', e, _⟩ := forR_inv (f := f) (xs := (List.range L).map fun k => ((k : Nat) : Int)) (s := ()) (fun _ _ => True) (fun k hk s _ => by
      have hx : ((List.range L).map fun k => ((k : Nat) : Int))[k]'hk = (k : Int) := by rw [List.getElem_map, List.getElem_range]
      rw [hx]
      exact ⟨(), hf k, trivial⟩) trivial
    exact e
  rw [loop _ _ (fun i => by
    obtain ⟨p, e1, hp⟩ := pool_ok ns i
    obtain ⟨a, b, e2, ha, hb⟩ := both_ok hp
    show (t_law_pool ns (i : Int)).bind _ = _
    rw [e1]
    simp only [Option.bind_some]
    rw [e2]
    simp only [Option.bind_some]
    rw [right_ok ha hb]
    simp only [Option.bind_some]
    rw [right_ok hb ha]
    rfl)]
  rfl
theorem law_ok : LawOk f_law := law_of fun ns hl _ => law_t ns hl
end K59

open PySem PySem.W PyProof.Rows
set_option maxRecDepth 100000 in
set_option maxHeartbeats 0 in
theorem PySem.Challenge.cw_upwide_k59_two_trees_merged_holds : PySem.Challenge.rw_upwide_k59_two_trees_merged.Holds := by
  w_on; o_law; k_head; (case hw => w_witness2)
  k_fill
  refine VS.walk true (l := PySem.Challenge.rw_upwide_k59_two_trees_merged) 6 ⟨rfl, by decide, by decide⟩ rfl rfl (fun w h Y => PySem.W.kIn_of Y) ?F
  case F =>
    intro w mg fa h KX G hmg
    refine' K59.all_mk KX G hmg ?a0 ?l0 ?c0 ?k0 ?a1 ?l1 ?c1 ?k1 ?a2 ?l2 ?c2 ?k2 ?a3 ?l3 ?c3 ?k3 ?a4 ?l4 ?c4 ?k4 ?a5 ?l5 ?c5 ?k5 ?a6 ?l6 ?c6 ?k6 ?a7 ?l7 ?c7 ?k7 ?a8 ?l8 ?c8 ?k8 ?a9 ?l9 ?c9 ?k9 ?a10 ?l10 ?c10 ?k10 ?a11 ?l11 ?c11 ?k11 ?a12 ?l12 ?c12 ?k12 ?z0 ?z1 ?z2 ?z3 ?z4 ?z5 ?z6 ?z7 ?z8 K59.law_ok
    (case a0 => k_is)
    (case l0 => k_is)
    (case c0 => k_is)
    (case k0 => k_is)
    (case a1 => k_is)
    (case l1 => k_is)
    (case c1 => k_is)
    (case k1 => k_is)
    (case a2 => k_is)
    (case l2 => k_is)
    (case c2 => k_is)
    (case k2 => k_is)
    (case a3 => k_is)
    (case l3 => k_is)
    (case c3 => k_is)
    (case k3 => k_is)
    (case a4 => k_is)
    (case l4 => k_is)
    (case c4 => k_is)
    (case k4 => k_is)
    (case a5 => k_is)
    (case l5 => k_is)
    (case c5 => k_is)
    (case k5 => k_is)
    (case a6 => k_is)
    (case l6 => k_is)
    (case c6 => k_is)
    (case k6 => k_is)
    (case a7 => k_is)
    (case l7 => k_is)
    (case c7 => k_is)
    (case k7 => k_is)
    (case a8 => k_is)
    (case l8 => k_is)
    (case c8 => k_is)
    (case k8 => k_is)
    (case a9 => k_is)
    (case l9 => k_is)
    (case c9 => k_is)
    (case k9 => k_is)
    (case a10 => k_is)
    (case l10 => k_is)
    (case c10 => k_is)
    (case k10 => k_is)
    (case a11 => k_is)
    (case l11 => k_is)
    (case c11 => k_is)
    (case k11 => k_is)
    (case a12 => k_is)
    (case l12 => k_is)
    (case c12 => k_is)
    (case k12 => k_is)
    (case z0 => k_is)
    (case z1 => k_is)
    (case z2 => k_is)
    (case z3 => k_is)
    (case z4 => k_is)
    (case z5 => k_is)
    (case z6 => k_is)
    (case z7 => k_is)
    (case z8 => k_is)

