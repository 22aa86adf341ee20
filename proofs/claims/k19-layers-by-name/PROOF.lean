import PyProof.Rows.All
import Wide.All
import OpenK.AllK
import Wide.FinOn
import HandS.ForMost
import HandS.IsInst
import HandS.DictComp
import HandS.Wide
import HandS.WideBits
import HandS.TupAny
import HandS.Deep
import HandS.More
import HandS.Exc
import HandS.ExcIs
import HandS.ExcField
import HandS.WordsExc
import KE.KExcIs
import HandS.Defaults
import HandS.Words
import KE.KOpsOwn
import PyProof.InstNe
import KE.KStateDown
import HandS.Ends
import HandS.Head0
import HandS.Head1
import HandS.Head2
import HandS.HeadEnd
import HandS.HeadHook1
import HandS.HeadHook2
import Lean
import HandS.NoneIn
import HandS.Style
import HandS.ExcInit
import PySem.Challenge.RW_laterthemes_k19_layers_by_name
set_option Elab.async false
set_option linter.all false
set_option maxRecDepth 100000
set_option maxHeartbeats 4000000
set_option Elab.async false
set_option linter.all false
set_option maxRecDepth 100000
set_option maxHeartbeats 4000000
namespace Ev
open PySem L2

/-! data -/
inductive D where
  | non | bl (b : Bool) | int (i : Int) | str (x : Str)
  | lst (t : Nat) (xs : List D) | tup (xs : List D)
  | dct (t : Nat) (ks : List Key) (xs : List D)
  | ins (c : Nat) (xs : List D)
  | scr (ns : List Int)
  | exc (c : Nat) (xs : List D)

def lim : Nat := 1000000
theorem lim_lt : lim < sizeLine := by decide

/-- own classes: where each stands, its fields in order -/
structure Cf where
  n : Nat
  at_ : Nat → Addr
  fs : Nat → List Str
  xn : Nat
  xat : Nat → Addr
  xfs : Nat → List Str
/-- at a: an exception, of which the class and the dict are known -/
def exv (a : Addr) (cls : Value) (d : Option Addr) : HO := .ext fun h => ∃ oe vs, h.get? a = some oe ∧ Zc cls d oe ∧ oe.data = .fields vs

mutual
def Den (C : Cf) (ρ : Addr → Nat) (H : Hp) : D → V → Prop
  | .non, v => v = .non
  | .bl b, v => v = .bl b
  | .int i, v => v = .int i
  | .str x, v => v = .str x
  | .lst t xs, v => ∃ a vs, v = .ref a ∧ ρ a = t ∧ H a = some (.lst vs) ∧ xs.length ≤ lim ∧ DenL C ρ H xs vs
  | .tup xs, v => ∃ a vs, v = .ref a ∧ H a = some (.tup vs) ∧ xs.length ≤ lim ∧ DenL C ρ H xs vs
  | .dct t ks xs, v => ∃ a vs, v = .ref a ∧ ρ a = t ∧ H a = some (.dK (ks.zip vs)) ∧ xs.length ≤ lim ∧ ks.length = xs.length ∧ DenL C ρ H xs vs
  | .ins c xs, v => c < C.n ∧ ∃ a dx vs, v = .ref a ∧ H a = some (.ins (C.at_ c) dx ((C.fs c).zip vs)) ∧ (C.fs c).length = xs.length ∧ DenL C ρ H xs vs
  | .scr ns, v => ∃ a, v = .ref a ∧ Rd H a (.lst (ns.map V.int))
  | .exc c xs, v => c < C.xn ∧ ∃ a d vs, v = .ref a ∧ H a = some (exv a (.ref (C.xat c)) d) ∧ (C.xfs c).length = xs.length ∧ ((xs = [] ∧ d = none) ∨ ∃ dx, d = some dx ∧ H dx = some (.xd ((C.xfs c).zip vs))) ∧ DenL C ρ H xs vs
def DenL (C : Cf) (ρ : Addr → Nat) (H : Hp) : List D → List V → Prop
  | [], vs => vs = []
  | d :: ds, vs => ∃ v r, vs = v :: r ∧ Den C ρ H d v ∧ DenL C ρ H ds r
end

def Sub (H H' : Hp) : Prop := ∀ a o, H a = some o → H' a = some o
theorem Sub.refl (H : Hp) : Sub H H := fun _ _ e => e
theorem Sub.trans {H1 H2 H3 : Hp} (a : Sub H1 H2) (b : Sub H2 H3) : Sub H1 H3 := fun x o e => b x o (a x o e)
theorem Sub.rd {H H' : Hp} (s : Sub H H') {a : Addr} {u : HO} (h : Rd H a u) : Rd H' a u := by
  rcases h with h | ⟨o, h⟩
  · exact .inl (s _ _ h)
  · exact .inr ⟨o, s _ _ h⟩

/-- the shared heap grows, tags stay -/
structure Ext (ρ : Addr → Nat) (H : Hp) (ρ' : Addr → Nat) (H' : Hp) : Prop where
  sub : Sub H H'
  tag : ∀ a o, H a = some o → ρ' a = ρ a
theorem Ext.refl {ρ : Addr → Nat} {H : Hp} : Ext ρ H ρ H := ⟨Sub.refl _, fun _ _ _ => rfl⟩
theorem Ext.trans {ρ1 ρ2 ρ3 : Addr → Nat} {H1 H2 H3 : Hp} (a : Ext ρ1 H1 ρ2 H2) (b : Ext ρ2 H2 ρ3 H3) : Ext ρ1 H1 ρ3 H3 :=
  ⟨a.sub.trans b.sub, fun x o e => (b.tag x o (a.sub x o e)).trans (a.tag x o e)⟩

mutual
theorem Den.mono {C : Cf} {ρ ρ' : Addr → Nat} {H H' : Hp} (E : Ext ρ H ρ' H') : ∀ (d : D) (v : V), Den C ρ H d v → Den C ρ' H' d v
  | .non, _, h => by unfold Den at h ⊢; exact h
  | .bl _, _, h => by unfold Den at h ⊢; exact h
  | .int _, _, h => by unfold Den at h ⊢; exact h
  | .str _, _, h => by unfold Den at h ⊢; exact h
  | .lst t xs, v, h => by
    unfold Den at h ⊢
    obtain ⟨a, vs, rfl, ht, ha, hl, r⟩ := h
    exact ⟨a, vs, rfl, (E.tag _ _ ha).trans ht, E.sub _ _ ha, hl, DenL.mono E xs vs r⟩
  | .tup xs, v, h => by
    unfold Den at h ⊢
    obtain ⟨a, vs, rfl, ha, hl, r⟩ := h
    exact ⟨a, vs, rfl, E.sub _ _ ha, hl, DenL.mono E xs vs r⟩
  | .dct t ks xs, v, h => by
    unfold Den at h ⊢
    obtain ⟨a, vs, rfl, ht, ha, hl, hk, r⟩ := h
    exact ⟨a, vs, rfl, (E.tag _ _ ha).trans ht, E.sub _ _ ha, hl, hk, DenL.mono E xs vs r⟩
  | .ins c xs, v, h => by
    unfold Den at h ⊢
    obtain ⟨hc, a, dx, vs, rfl, ha, hl, r⟩ := h
    exact ⟨hc, a, dx, vs, rfl, E.sub _ _ ha, hl, DenL.mono E xs vs r⟩
  | .scr ns, v, h => by
    unfold Den at h ⊢
    obtain ⟨a, rfl, ha⟩ := h
    exact ⟨a, rfl, E.sub.rd ha⟩
  | .exc c xs, v, h => by
    unfold Den at h ⊢
    obtain ⟨hc, a, d, vs, rfl, ha, hl, hd, r⟩ := h
    refine ⟨hc, a, d, vs, rfl, E.sub _ _ ha, hl, ?_, DenL.mono E xs vs r⟩
    rcases hd with hd | ⟨dx, e, hx⟩
    · exact .inl hd
    · exact .inr ⟨dx, e, E.sub _ _ hx⟩
theorem DenL.mono {C : Cf} {ρ ρ' : Addr → Nat} {H H' : Hp} (E : Ext ρ H ρ' H') : ∀ (ds : List D) (vs : List V), DenL C ρ H ds vs → DenL C ρ' H' ds vs
  | [], _, h => by unfold DenL at h ⊢; exact h
  | d :: ds, vs, h => by
    unfold DenL at h ⊢
    obtain ⟨v, r, rfl, h1, h2⟩ := h
    exact ⟨v, r, rfl, Den.mono E d v h1, DenL.mono E ds r h2⟩
end

section
variable {C : Cf} {ρ : Addr → Nat} {H : Hp}
theorem denL_nil {vs : List V} : DenL C ρ H [] vs ↔ vs = [] := by unfold DenL; exact Iff.rfl
theorem denL_cons {d : D} {ds : List D} {v : V} {vs : List V} : DenL C ρ H (d :: ds) (v :: vs) ↔ Den C ρ H d v ∧ DenL C ρ H ds vs := by
  constructor
  · intro h
    unfold DenL at h
    obtain ⟨v', r, e, h1, h2⟩ := h
    cases e
    exact ⟨h1, h2⟩
  · intro ⟨h1, h2⟩
    unfold DenL
    exact ⟨v, vs, rfl, h1, h2⟩
theorem DenL.length : ∀ {ds : List D} {vs : List V}, DenL C ρ H ds vs → vs.length = ds.length
  | [], vs, h => by rw [denL_nil.mp h]; rfl
  | d :: ds, vs, h => by
    unfold DenL at h
    obtain ⟨v, r, rfl, _, h2⟩ := h
    rw [List.length_cons, List.length_cons, DenL.length h2]
theorem DenL.append : ∀ {ds es : List D} {vs ws : List V}, DenL C ρ H ds vs → DenL C ρ H es ws → DenL C ρ H (ds ++ es) (vs ++ ws)
  | [], _, vs, _, h, k => by rw [denL_nil.mp h]; exact k
  | d :: ds, es, vs, ws, h, k => by
    unfold DenL at h
    obtain ⟨v, r, rfl, h1, h2⟩ := h
    exact denL_cons.mpr ⟨h1, DenL.append h2 k⟩
theorem DenL.get : ∀ {ds : List D} {vs : List V} (i : Nat) {d : D}, DenL C ρ H ds vs → ds[i]? = some d → ∃ v, vs[i]? = some v ∧ Den C ρ H d v
  | [], _, i, _, h, e => by simp at e
  | d :: ds, vs, 0, d', h, e => by
    unfold DenL at h
    obtain ⟨v, r, rfl, h1, h2⟩ := h
    simp at e; subst e
    exact ⟨v, rfl, h1⟩
  | d :: ds, vs, i + 1, d', h, e => by
    unfold DenL at h
    obtain ⟨v, r, rfl, h1, h2⟩ := h
    obtain ⟨u, e1, e2⟩ := DenL.get i (d := d') h2 (by simpa using e)
    exact ⟨u, by simpa using e1, e2⟩
theorem DenL.getV : ∀ {ds : List D} {vs : List V} (i : Nat) {v : V}, DenL C ρ H ds vs → vs[i]? = some v → ∃ d, ds[i]? = some d ∧ Den C ρ H d v
  | [], vs, i, _, h, e => by rw [denL_nil.mp h] at e; simp at e
  | d :: ds, vs, 0, v', h, e => by
    unfold DenL at h
    obtain ⟨v, r, rfl, h1, h2⟩ := h
    simp at e; subst e
    exact ⟨d, rfl, h1⟩
  | d :: ds, vs, i + 1, v', h, e => by
    unfold DenL at h
    obtain ⟨v, r, rfl, h1, h2⟩ := h
    obtain ⟨u, e1, e2⟩ := DenL.getV i (v := v') h2 (by simpa using e)
    exact ⟨u, by simpa using e1, e2⟩
theorem DenL.drop : ∀ (n : Nat) {ds : List D} {vs : List V}, DenL C ρ H ds vs → DenL C ρ H (ds.drop n) (vs.drop n)
  | 0, _, _, h => h
  | n + 1, [], vs, h => by rw [denL_nil.mp h]; exact denL_nil.mpr rfl
  | n + 1, d :: ds, vs, h => by
    unfold DenL at h
    obtain ⟨v, r, rfl, h1, h2⟩ := h
    exact DenL.drop n h2
theorem DenL.take : ∀ (n : Nat) {ds : List D} {vs : List V}, DenL C ρ H ds vs → DenL C ρ H (ds.take n) (vs.take n)
  | 0, _, _, h => by simpa using denL_nil.mpr rfl
  | n + 1, [], vs, h => by rw [denL_nil.mp h]; exact denL_nil.mpr rfl
  | n + 1, d :: ds, vs, h => by
    unfold DenL at h
    obtain ⟨v, r, rfl, h1, h2⟩ := h
    exact denL_cons.mpr ⟨h1, DenL.take n h2⟩
theorem DenL.set : ∀ (i : Nat) {ds : List D} {vs : List V} {d : D} {v : V}, DenL C ρ H ds vs → Den C ρ H d v → DenL C ρ H (ds.set i d) (vs.set i v)
  | _, [], vs, _, _, h, k => by rw [denL_nil.mp h]; exact denL_nil.mpr rfl
  | 0, d :: ds, vs, _, _, h, k => by
    unfold DenL at h
    obtain ⟨v, r, rfl, h1, h2⟩ := h
    exact denL_cons.mpr ⟨k, h2⟩
  | i + 1, d :: ds, vs, _, _, h, k => by
    unfold DenL at h
    obtain ⟨v, r, rfl, h1, h2⟩ := h
    exact denL_cons.mpr ⟨h1, DenL.set i h2 k⟩
end
end Ev

set_option Elab.async false
set_option linter.all false
set_option maxRecDepth 100000
set_option maxHeartbeats 4000000
namespace Ev
open PySem L2

/-! slots -/
inductive Sl where
  | non
  | sh (d : D)
  | own (t : Nat) (xs : List D)
  | ownD (t : Nat) (ks : List Key) (xs : List D)
  | bor (t : Nat) (xs : List D)
  | ini (c : Nat) (xs : List D)
def Sl.isOwn : Sl → Bool
  | .non => false
  | .sh _ => false
  | _ => true
abbrev Env := List Sl
/-- an activation: the tags, the shared heap, the whole heap at its entry; what it may change -/
structure Act where
  ρ0 : Addr → Nat
  S0 : Hp
  H0 : Hp
  M : List Addr
  b : Option V

def SlOk (C : Cf) (A : Act) (ρ : Addr → Nat) (S H : Hp) : Sl → Option V → Prop
  | .non, _ => True
  | .sh d, o => ∃ v, o = some v ∧ Den C ρ S d v
  | .own t xs, o => ∃ a vs, o = some (.ref a) ∧ ρ a = t ∧ H a = some (.lst vs) ∧ S a = none ∧ xs.length ≤ lim ∧ DenL C ρ S xs vs ∧ (A.H0 a = none ∨ a ∈ A.M)
  | .ownD t ks xs, o => ∃ a vs, o = some (.ref a) ∧ ρ a = t ∧ H a = some (.dK (ks.zip vs)) ∧ S a = none ∧ xs.length ≤ lim ∧ ks.length = xs.length ∧ DenL C ρ S xs vs ∧ (A.H0 a = none ∨ a ∈ A.M)
  | .bor t xs, o => ∃ a vs, o = some (.ref a) ∧ ρ a = t ∧ H a = some (.lst vs) ∧ S a = none ∧ xs.length ≤ lim ∧ DenL C ρ S xs vs ∧ (A.H0 a = none ∨ a ∈ A.M) ∧ A.b = o
  | .ini c xs, o => ∃ a dx vs, o = some (.ref a) ∧ H a = some (.ins (C.at_ c) dx ((C.fs c).zip vs)) ∧ S a = none ∧ xs.length ≤ (C.fs c).length ∧ DenL C ρ S xs vs ∧ (A.H0 a = none ∨ a ∈ A.M) ∧ A.b = o
def OwnAt (Γ : Env) (σ : St) (i : Nat) (a : Addr) : Prop := ∃ s, Γ[i]? = some s ∧ s.isOwn = true ∧ σ[i]?.join = some (.ref a)

structure Sto (C : Cf) (A : Act) (ρ : Addr → Nat) (S : Hp) (Γ : Env) (σ : St) (H : Hp) : Prop where
  sub : Sub S H
  len : Γ.length = σ.length
  slot : ∀ (i : Nat) (s : Sl), Γ[i]? = some s → SlOk C A ρ S H s (σ[i]?.join)
  sep : ∀ (i j : Nat) (a : Addr), i ≠ j → OwnAt Γ σ i a → OwnAt Γ σ j a → False
  frame : ∀ a o, A.H0 a = some o → a ∉ A.M → H a = some o
  ext0 : Ext A.ρ0 A.S0 ρ S
  news : ∀ a o, S a = some o → A.S0 a = some o ∨ A.H0 a = none ∨ a ∈ A.M
  rho : ∀ a o, A.H0 a = some o → ρ a = A.ρ0 a
  old : ∀ a o, A.H0 a = some o → H a ≠ none

section
variable {C : Cf} {A : Act} {ρ ρ' : Addr → Nat} {S S' : Hp} {Γ : Env} {σ : St} {H H' : Hp}

/-- an owned slot's object stands in H, not in S -/
theorem SlOk.ownd {s : Sl} {o : Option V} (h : SlOk C A ρ S H s o) (hs : s.isOwn = true) : ∃ a u, o = some (.ref a) ∧ H a = some u ∧ S a = none ∧ (A.H0 a = none ∨ a ∈ A.M) := by
  cases s with
  | non => cases hs
  | sh d => cases hs
  | own t xs =>
    obtain ⟨a, vs, e, _, h1, h2, _, _, h3⟩ := h
    exact ⟨a, _, e, h1, h2, h3⟩
  | ownD t ks xs =>
    obtain ⟨a, vs, e, _, h1, h2, _, _, _, h3⟩ := h
    exact ⟨a, _, e, h1, h2, h3⟩
  | bor t xs =>
    obtain ⟨a, vs, e, _, h1, h2, _, _, h3, _⟩ := h
    exact ⟨a, _, e, h1, h2, h3⟩
  | ini c xs =>
    obtain ⟨a, dx, vs, e, h1, h2, _, _, h3, _⟩ := h
    exact ⟨a, _, e, h1, h2, h3⟩
theorem Sto.own (T : Sto C A ρ S Γ σ H) {i : Nat} {a : Addr} (h : OwnAt Γ σ i a) : ∃ u, H a = some u ∧ S a = none ∧ (A.H0 a = none ∨ a ∈ A.M) := by
  obtain ⟨s, h1, h2, h3⟩ := h
  obtain ⟨b, u, e, k⟩ := (T.slot i s h1).ownd h2
  rw [h3] at e
  cases e
  exact ⟨u, k⟩

/-- a slot's fact goes on where the shared heap grows and its own object stays -/
theorem SlOk.go {s : Sl} {o : Option V} (h : SlOk C A ρ S H s o) (E : Ext ρ S ρ' S') (hk : ∀ a u, o = some (.ref a) → s.isOwn = true → H a = some u → H' a = some u ∧ S' a = none ∧ ρ' a = ρ a) : SlOk C A ρ' S' H' s o := by
  cases s with
  | non => trivial
  | sh d =>
    obtain ⟨v, e, h1⟩ := h
    exact ⟨v, e, h1.mono E⟩
  | own t xs =>
    obtain ⟨a, vs, e, ht, h1, h2, hl, r, h3⟩ := h
    obtain ⟨k1, k2, k3⟩ := hk a _ e rfl h1
    exact ⟨a, vs, e, k3.trans ht, k1, k2, hl, r.mono E, h3⟩
  | ownD t ks xs =>
    obtain ⟨a, vs, e, ht, h1, h2, hl, hq, r, h3⟩ := h
    obtain ⟨k1, k2, k3⟩ := hk a _ e rfl h1
    exact ⟨a, vs, e, k3.trans ht, k1, k2, hl, hq, r.mono E, h3⟩
  | bor t xs =>
    obtain ⟨a, vs, e, ht, h1, h2, hl, r, h3⟩ := h
    obtain ⟨k1, k2, k3⟩ := hk a _ e rfl h1
    exact ⟨a, vs, e, k3.trans ht, k1, k2, hl, r.mono E, h3⟩
  | ini c xs =>
    obtain ⟨a, dx, vs, e, h1, h2, hl, r, h3⟩ := h
    obtain ⟨k1, k2, k3⟩ := hk a _ e rfl h1
    exact ⟨a, dx, vs, e, k1, k2, hl, r.mono E, h3⟩

/-- what an expression hands back -/
def ResOk (C : Cf) (A : Act) (ρ : Addr → Nat) (S : Hp) (Γ : Env) (σ : St) (H : Hp) (s : Sl) (v : V) : Prop :=
  SlOk C A ρ S H s (some v) ∧ (s.isOwn = true → ∀ i a, v = .ref a → ¬ OwnAt Γ σ i a) ∧ (∀ t xs, s ≠ .bor t xs) ∧ (∀ c xs, s ≠ .ini c xs) ∧ s ≠ .non

theorem ResOk.sh {d : D} {v : V} (h : Den C ρ S d v) : ResOk C A ρ S Γ σ H (.sh d) v :=
  ⟨⟨v, rfl, h⟩, fun q => (by cases q), fun _ _ q => (by cases q), fun _ _ q => (by cases q), fun q => (by cases q)⟩

/-- the tag of a new place -/
def tagAt (ρ : Addr → Nat) (p g : Nat) : Addr → Nat := fun a => if a = p then g else ρ a
theorem tagAt_same {p g : Nat} : tagAt ρ p g p = g := if_pos rfl
theorem tagAt_ne {p g a : Nat} (h : a ≠ p) : tagAt ρ p g a = ρ a := if_neg h

theorem Sub.fresh (s : Sub S H) {p : Addr} (h : H p = none) : S p = none := by
  cases e : S p with
  | none => rfl
  | some o => rw [s p o e] at h; cases h

theorem Sto.new (T : Sto C A ρ S Γ σ H) {p : Addr} (hp : H p = none) : A.H0 p = none := by
  cases e : A.H0 p with
  | none => rfl
  | some u => exact absurd hp (T.old p u e)
/-- a new object is laid; it isn't shared -/
theorem Sto.lay (T : Sto C A ρ S Γ σ H) {p : Addr} (hp : H p = none) (o : HO) (g : Nat) :
    Sto C A (tagAt ρ p g) S Γ σ (upd H p o) ∧ Ext ρ S (tagAt ρ p g) S ∧ S p = none ∧ A.H0 p = none ∧ ∀ i, ¬ OwnAt Γ σ i p := by
  have sp : S p = none := T.sub.fresh hp
  have E : Ext ρ S (tagAt ρ p g) S := ⟨Sub.refl _, fun a u e => tagAt_ne fun q => by subst q; rw [sp] at e; cases e⟩
  have h0 : A.H0 p = none := T.new hp
  refine ⟨⟨fun a u e => ?_, T.len, fun i s e => ?_, T.sep, fun a u e hm => ?_, T.ext0.trans E, T.news, fun a u e => ?_, fun a u e => ?_⟩, E, sp, h0, fun i q => ?_⟩
  · have na : a ≠ p := fun q => by subst q; rw [sp] at e; cases e
    rw [upd_ne na]
    exact T.sub a u e
  · refine (T.slot i s e).go E fun a u eo hs ha => ?_
    have na : a ≠ p := fun q => by subst q; rw [hp] at ha; cases ha
    obtain ⟨_, _, k, _⟩ := T.own ⟨s, e, hs, eo⟩
    exact ⟨by rw [upd_ne na]; exact ha, k, tagAt_ne na⟩
  · have na : a ≠ p := fun q => by
      subst q
      rw [h0] at e; cases e
    rw [upd_ne na]
    exact T.frame a u e hm
  · have na : a ≠ p := fun q => by
      subst q
      rw [h0] at e; cases e
    rw [tagAt_ne na]
    exact T.rho a u e
  · have na : a ≠ p := fun q => by
      subst q
      rw [h0] at e; cases e
    rw [upd_ne na]
    exact T.old a u e
  · obtain ⟨u, h1, _⟩ := T.own q
    rw [hp] at h1; cases h1

theorem get_set {α : Type} {l : List α} {i j : Nat} {x y : α} (h : (l.set i x)[j]? = some y) : (i = j ∧ y = x ∧ i < l.length) ∨ (i ≠ j ∧ l[j]? = some y) := by
  rw [List.getElem?_set] at h
  by_cases e : i = j
  · rw [if_pos e] at h
    by_cases hl : i < l.length
    · rw [if_pos hl] at h
      exact .inl ⟨e, (Option.some.inj h).symm, hl⟩
    · rw [if_neg hl] at h; cases h
  · rw [if_neg e] at h
    exact .inr ⟨e, h⟩

/-- a slot is forgotten -/
theorem Sto.forget (T : Sto C A ρ S Γ σ H) (i : Nat) : Sto C A ρ S (Γ.set i .non) σ H := by
  have ow : ∀ j a, OwnAt (Γ.set i .non) σ j a → OwnAt Γ σ j a ∧ i ≠ j := fun j a ⟨s, e, hs, ho⟩ => by
    rcases get_set e with ⟨_, rfl, _⟩ | ⟨ne, e⟩
    · cases hs
    · exact ⟨⟨s, e, hs, ho⟩, ne⟩
  refine ⟨T.sub, by rw [List.length_set]; exact T.len, fun j s e => ?_, fun j k a ne hj hk => T.sep j k a ne (ow _ _ hj).1 (ow _ _ hk).1, T.frame, T.ext0, T.news, T.rho, T.old⟩
  rcases get_set e with ⟨_, rfl, _⟩ | ⟨ne, e⟩
  · trivial
  · exact T.slot j s e
theorem own_forget (T : Sto C A ρ S Γ σ H) {i : Nat} {a : Addr} (h : OwnAt Γ σ i a) (j : Nat) : ¬ OwnAt (Γ.set i .non) σ j a := fun ⟨s, e, hs, ho⟩ => by
  rcases get_set e with ⟨_, rfl, _⟩ | ⟨ne, e⟩
  · cases hs
  · exact T.sep i j a ne h ⟨s, e, hs, ho⟩

/-- what no slot owns becomes shared -/
theorem Sto.pub (T : Sto C A ρ S Γ σ H) {a : Addr} {o : HO} (ha : H a = some o) (hs : S a = none) (h0 : A.H0 a = none ∨ a ∈ A.M) (hn : ∀ i, ¬ OwnAt Γ σ i a) :
    Sto C A ρ (upd S a o) Γ σ H ∧ Ext ρ S ρ (upd S a o) := by
  have E : Ext ρ S ρ (upd S a o) := ⟨fun b u e => by
    have nb : b ≠ a := fun q => by subst q; rw [hs] at e; cases e
    rw [upd_ne nb]; exact e, fun _ _ _ => rfl⟩
  refine ⟨⟨fun b u e => ?_, T.len, fun i s e => ?_, T.sep, T.frame, T.ext0.trans E, fun b u e => ?_, T.rho, T.old⟩, E⟩
  · by_cases nb : b = a
    · subst nb
      rw [upd_same] at e
      cases e
      exact ha
    · rw [upd_ne nb] at e
      exact T.sub b u e
  · refine (T.slot i s e).go E fun b u eo hso hb => ⟨hb, ?_, rfl⟩
    have ob : OwnAt Γ σ i b := ⟨s, e, hso, eo⟩
    have nb : b ≠ a := fun q => by subst q; exact hn i ob
    rw [upd_ne nb]
    obtain ⟨_, _, k, _⟩ := T.own ob
    exact k
  · by_cases nb : b = a
    · subst nb
      exact .inr h0
    · rw [upd_ne nb] at e
      exact T.news b u e

/-- x = v -/
theorem Sto.assign (T : Sto C A ρ S Γ σ H) {s : Sl} {v : V} (r : ResOk C A ρ S Γ σ H s v) (i : Nat) : Sto C A ρ S (Γ.set i s) (σ.set i (some v)) H := by
  have sg : ∀ {j : Nat} {x : Sl}, (Γ.set i s)[j]? = some x → (j = i ∧ x = s ∧ (σ.set i (some v))[j]?.join = some v) ∨ (j ≠ i ∧ Γ[j]? = some x ∧ (σ.set i (some v))[j]?.join = σ[j]?.join) := fun {j x} e => by
    rcases get_set e with ⟨q, e2, hl⟩ | ⟨ne, e⟩
    · subst q
      refine .inl ⟨rfl, e2, ?_⟩
      rw [List.getElem?_set, if_pos rfl, if_pos (by rw [← T.len]; exact hl)]
      rfl
    · refine .inr ⟨fun q => ne q.symm, e, ?_⟩
      rw [List.getElem?_set, if_neg ne]
  refine ⟨T.sub, by rw [List.length_set, List.length_set]; exact T.len, fun j x e => ?_, fun j k a ne hj hk => ?_, T.frame, T.ext0, T.news, T.rho, T.old⟩
  · rcases sg e with ⟨_, rfl, e2⟩ | ⟨_, e1, e2⟩
    · rw [e2]; exact r.1
    · rw [e2]; exact T.slot j x e1
  · obtain ⟨x, ex, hx, ox⟩ := hj
    obtain ⟨y, ey, hy, oy⟩ := hk
    rcases sg ex with ⟨q1, rfl, e2⟩ | ⟨q1, e1, e2⟩
    · rcases sg ey with ⟨q3, _, _⟩ | ⟨q3, e3, e4⟩
      · exact ne (q1.trans q3.symm)
      · rw [e2] at ox
        rw [e4] at oy
        exact r.2.1 hx k a (Option.some.inj ox) ⟨y, e3, hy, oy⟩
    · rcases sg ey with ⟨q3, rfl, e4⟩ | ⟨q3, e3, e4⟩
      · rw [e4] at oy
        rw [e2] at ox
        exact r.2.1 hy j a (Option.some.inj oy) ⟨x, e1, hx, ox⟩
      · rw [e2] at ox
        rw [e4] at oy
        exact T.sep j k a ne ⟨x, e1, hx, ox⟩ ⟨y, e3, hy, oy⟩

/-- an owned object's content changes -/
theorem Sto.put (T : Sto C A ρ S Γ σ H) {i : Nat} {a : Addr} {o : HO} {s s' : Sl} (e : Γ[i]? = some s) (hs : s.isOwn = true) (ho : σ[i]?.join = some (.ref a)) (hs' : s'.isOwn = true) (hn : SlOk C A ρ S (upd H a o) s' (some (.ref a))) :
    Sto C A ρ S (Γ.set i s') σ (upd H a o) := by
  have oa : OwnAt Γ σ i a := ⟨s, e, hs, ho⟩
  obtain ⟨u, ha, sa, h0⟩ := T.own oa
  have ow : ∀ j b, OwnAt (Γ.set i s') σ j b → OwnAt Γ σ j b := fun j b ⟨x, ex, hx, ox⟩ => by
    rcases get_set ex with ⟨q, rfl, _⟩ | ⟨ne, ex⟩
    · subst q
      exact ⟨s, e, hs, ox⟩
    · exact ⟨x, ex, hx, ox⟩
  refine ⟨fun b u e => ?_, by rw [List.length_set]; exact T.len, fun j x ex => ?_, fun j k b ne hj hk => T.sep j k b ne (ow _ _ hj) (ow _ _ hk), fun b u e hm => ?_, T.ext0, T.news, T.rho, fun b u e => ?_⟩
  · have nb : b ≠ a := fun q => by subst q; rw [sa] at e; cases e
    rw [upd_ne nb]
    exact T.sub b u e
  · rcases get_set ex with ⟨q, rfl, _⟩ | ⟨ne, ex⟩
    · subst q
      rw [ho]
      exact hn
    · refine (T.slot j x ex).go Ext.refl fun b u eo hso hb => ?_
      have ob : OwnAt Γ σ j b := ⟨x, ex, hso, eo⟩
      have nb : b ≠ a := fun q => by subst q; exact T.sep i j b ne oa ob
      obtain ⟨_, _, k, _⟩ := T.own ob
      exact ⟨by rw [upd_ne nb]; exact hb, k, rfl⟩
  · have nb : b ≠ a := fun q => by
      subst q
      rcases h0 with h0 | h0
      · rw [h0] at e; cases e
      · exact hm h0
    rw [upd_ne nb]
    exact T.frame b u e hm
  · by_cases nb : b = a
    · subst nb
      rw [upd_same]
      exact fun q => by cases q
    · rw [upd_ne nb]
      exact T.old b u e
end
end Ev

set_option Elab.async false
set_option linter.all false
set_option maxRecDepth 100000
set_option maxHeartbeats 4000000
namespace Ev
open PySem L2

def Sl.toD : Sl → Option D
  | .sh d => some d
  | .own t xs => some (.lst t xs)
  | .ownD t ks xs => some (.dct t ks xs)
  | _ => none
/-- a slot's content, as it stands -/
def Sl.see : Sl → Option D
  | .sh d => some d
  | .own t xs => some (.lst t xs)
  | .ownD t ks xs => some (.dct t ks xs)
  | .bor t xs => some (.lst t xs)
  | _ => none
def Den1 (C : Cf) (ρ : Addr → Nat) (S H : Hp) : D → V → Prop
  | .lst t xs, v => ∃ a vs, v = .ref a ∧ ρ a = t ∧ H a = some (.lst vs) ∧ xs.length ≤ lim ∧ DenL C ρ S xs vs
  | .dct t ks xs, v => ∃ a vs, v = .ref a ∧ ρ a = t ∧ H a = some (.dK (ks.zip vs)) ∧ xs.length ≤ lim ∧ ks.length = xs.length ∧ DenL C ρ S xs vs
  | d, v => Den C ρ S d v
section
variable {C : Cf} {A : Act} {ρ ρ' : Addr → Nat} {S S' : Hp} {Γ Γ' : Env} {σ : St} {H H' : Hp}
theorem Den.one {d : D} {v : V} (h : Den C ρ S d v) (s : Sub S H) : Den1 C ρ S H d v := by
  cases d with
  | lst t xs =>
    unfold Den at h
    obtain ⟨a, vs, e, ht, ha, hl, r⟩ := h
    exact ⟨a, vs, e, ht, s _ _ ha, hl, r⟩
  | dct t ks xs =>
    unfold Den at h
    obtain ⟨a, vs, e, ht, ha, hl, hk, r⟩ := h
    exact ⟨a, vs, e, ht, s _ _ ha, hl, hk, r⟩
  | _ => exact h
theorem Sto.share (T : Sto C A ρ S Γ σ H) {s : Sl} {v : V} {d : D} (r : ResOk C A ρ S Γ σ H s v) (e : s.toD = some d) : ∃ S', Ext ρ S ρ S' ∧ Sto C A ρ S' Γ σ H ∧ Den C ρ S' d v := by
  obtain ⟨r1, r2, _⟩ := r
  cases s with
  | sh d' =>
    cases e
    obtain ⟨v', e', h⟩ := r1
    cases e'
    exact ⟨S, Ext.refl, T, h⟩
  | own t xs =>
    cases e
    obtain ⟨a, vs, e', ht, ha, hs, hl, q, h0⟩ := r1
    cases e'
    obtain ⟨T1, E1⟩ := T.pub ha hs h0 fun i => r2 rfl i a rfl
    refine ⟨_, E1, T1, ?_⟩
    unfold Den
    exact ⟨a, vs, rfl, ht, upd_same, hl, q.mono E1⟩
  | ownD t ks xs =>
    cases e
    obtain ⟨a, vs, e', ht, ha, hs, hl, hk, q, h0⟩ := r1
    cases e'
    obtain ⟨T1, E1⟩ := T.pub ha hs h0 fun i => r2 rfl i a rfl
    refine ⟨_, E1, T1, ?_⟩
    unfold Den
    exact ⟨a, vs, rfl, ht, upd_same, hl, hk, q.mono E1⟩
  | _ => cases e
theorem join_some {i : Nat} {v : V} (h : σ[i]?.join = some v) : σ[i]? = some (some v) := by
  cases e : σ[i]? with
  | none => rw [e] at h; cases h
  | some o => rw [e] at h; exact congrArg some h
theorem set_self {i : Nat} {v : V} (h : σ[i]? = some (some v)) : σ.set i (some v) = σ := by
  apply List.ext_getElem?
  intro j
  rw [List.getElem?_set]
  by_cases e : i = j
  · subst e
    have hl : i < σ.length := (List.getElem?_eq_some_iff.mp h).1
    rw [if_pos rfl, if_pos hl, h]
  · rw [if_neg e]
theorem Sto.demote (T : Sto C A ρ S Γ σ H) {i : Nat} {s : Sl} {d : D} (e : Γ[i]? = some s) (hd : s.toD = some d) :
    ∃ v S', σ[i]? = some (some v) ∧ Ext ρ S ρ S' ∧ Sto C A ρ S' (Γ.set i (.sh d)) σ H ∧ Den C ρ S' d v := by
  have k := T.slot i s e
  have fin : ∀ {S' : Hp} {v : V} {Γ1 : Env}, Γ1.set i (.sh d) = Γ.set i (.sh d) → σ[i]? = some (some v) → Sto C A ρ S' Γ1 σ H → Den C ρ S' d v → Sto C A ρ S' (Γ.set i (.sh d)) σ H := fun {S' v Γ1} eq ev T1 hd1 => by
    have T2 := T1.assign (ResOk.sh hd1) i
    rw [set_self ev, eq] at T2
    exact T2
  cases s with
  | sh d' =>
    cases hd
    obtain ⟨v, e', h⟩ := k
    have ev := join_some e'
    exact ⟨v, S, ev, Ext.refl, fin rfl ev T h, h⟩
  | own t xs =>
    cases hd
    obtain ⟨a, vs, e', ht, ha, hs, hl, q, h0⟩ := k
    have ev := join_some e'
    obtain ⟨T1, E1⟩ := (T.forget i).pub ha hs h0 (own_forget T ⟨_, e, rfl, e'⟩)
    have hden : Den C ρ (upd S a (.lst vs)) (.lst t xs) (.ref a) := by
      unfold Den
      exact ⟨a, vs, rfl, ht, upd_same, hl, q.mono E1⟩
    exact ⟨_, _, ev, E1, fin (by rw [List.set_set]) ev T1 hden, hden⟩
  | ownD t ks xs =>
    cases hd
    obtain ⟨a, vs, e', ht, ha, hs, hl, hk, q, h0⟩ := k
    have ev := join_some e'
    obtain ⟨T1, E1⟩ := (T.forget i).pub ha hs h0 (own_forget T ⟨_, e, rfl, e'⟩)
    have hden : Den C ρ (upd S a (.dK (ks.zip vs))) (.dct t ks xs) (.ref a) := by
      unfold Den
      exact ⟨a, vs, rfl, ht, upd_same, hl, hk, q.mono E1⟩
    exact ⟨_, _, ev, E1, fin (by rw [List.set_set]) ev T1 hden, hden⟩
  | _ => cases hd
/-- a slot is looked at -/
theorem Sto.see (T : Sto C A ρ S Γ σ H) {i : Nat} {s : Sl} {d : D} (e : Γ[i]? = some s) (hd : s.see = some d) : ∃ v, σ[i]? = some (some v) ∧ Den1 C ρ S H d v := by
  have k := T.slot i s e
  cases s with
  | sh d' =>
    cases hd
    obtain ⟨v, e', h⟩ := k
    exact ⟨v, join_some e', h.one T.sub⟩
  | own t xs =>
    cases hd
    obtain ⟨a, vs, e', ht, ha, hs, hl, q, h0⟩ := k
    exact ⟨_, join_some e', a, vs, rfl, ht, ha, hl, q⟩
  | ownD t ks xs =>
    cases hd
    obtain ⟨a, vs, e', ht, ha, hs, hl, hk, q, h0⟩ := k
    exact ⟨_, join_some e', a, vs, rfl, ht, ha, hl, hk, q⟩
  | bor t xs =>
    cases hd
    obtain ⟨a, vs, e', ht, ha, hs, hl, q, h0⟩ := k
    exact ⟨_, join_some e', a, vs, rfl, ht, ha, hl, q⟩
  | _ => cases hd
end

/-! the judgements -/
abbrev FE := Env → Option (Sl × Env)
abbrev FD := Env → Option (D × Env)
abbrev FL := Env → Option (List D × Env)
abbrev FT := Env → Option (Bool × Env)
section
variable (C : Cf) (P : Cx → Prop)
def OkE (e : Expr) (f : FE) : Prop := ∃ t : TE, (∀ X, P X → PE X e t) ∧ ∀ (A : Act) (ρ : Addr → Nat) (S : Hp) (Γ : Env) (σ : St) (H : Hp) (Q : VK) (s : Sl) (Γ' : Env), Sto C A ρ S Γ σ H → f Γ = some (s, Γ') →
  (∀ v ρ' S' H', Ext ρ S ρ' S' → Sto C A ρ' S' Γ' σ H' → ResOk C A ρ' S' Γ' σ H' s v → Q v H') → t σ H Q
def OkD (e : Expr) (f : FD) : Prop := ∃ t : TE, (∀ X, P X → PE X e t) ∧ ∀ (A : Act) (ρ : Addr → Nat) (S : Hp) (Γ : Env) (σ : St) (H : Hp) (Q : VK) (d : D) (Γ' : Env), Sto C A ρ S Γ σ H → f Γ = some (d, Γ') →
  (∀ v ρ' S' H', Ext ρ S ρ' S' → Sto C A ρ' S' Γ' σ H' → Den C ρ' S' d v → Q v H') → t σ H Q
/-- an operand: its outermost part may be owned -/
def OkO (e : Expr) (f : FD) : Prop := ∃ t : TE, (∀ X, P X → PE X e t) ∧ ∀ (A : Act) (ρ : Addr → Nat) (S : Hp) (Γ : Env) (σ : St) (H : Hp) (Q : VK) (d : D) (Γ' : Env), Sto C A ρ S Γ σ H → f Γ = some (d, Γ') →
  (∀ v ρ' S' H', Ext ρ S ρ' S' → Sto C A ρ' S' Γ' σ H' → Den1 C ρ' S' H' d v → Q v H') → t σ H Q
def OkL (es : List Expr) (f : FL) : Prop := ∃ t : TA, (∀ X, P X → PA X es t) ∧ ∀ (A : Act) (ρ : Addr → Nat) (S : Hp) (Γ : Env) (σ : St) (H : Hp) (Q : List V → Hp → Prop) (ds : List D) (Γ' : Env), Sto C A ρ S Γ σ H → f Γ = some (ds, Γ') →
  (∀ vs ρ' S' H', Ext ρ S ρ' S' → Sto C A ρ' S' Γ' σ H' → DenL C ρ' S' ds vs → Q vs H') → t σ H Q
def OkT (e : Expr) (f : FT) : Prop := ∃ t : TT, (∀ X, P X → PT X e t) ∧ ∀ (A : Act) (ρ : Addr → Nat) (S : Hp) (Γ : Env) (σ : St) (H : Hp) (Q : Bool → Hp → Prop) (b : Bool) (Γ' : Env), Sto C A ρ S Γ σ H → f Γ = some (b, Γ') →
  (∀ ρ' S' H', Ext ρ S ρ' S' → Sto C A ρ' S' Γ' σ H' → Q b H') → t σ H Q
/-- .. of and, or -/
def OkW (e : Expr) (f : FT) : Prop := ∃ t : TT, (∀ X, P X → PW X e t) ∧ ∀ (A : Act) (ρ : Addr → Nat) (S : Hp) (Γ : Env) (σ : St) (H : Hp) (Q : Bool → Hp → Prop) (b : Bool) (Γ' : Env), Sto C A ρ S Γ σ H → f Γ = some (b, Γ') →
  (∀ ρ' S' H', Ext ρ S ρ' S' → Sto C A ρ' S' Γ' σ H' → Q b H') → t σ H Q
end
def FE.d (f : FE) : FD := fun Γ => match f Γ with
  | some (s, Γ') => (match s.toD with
    | some d => some (d, Γ')
    | none => none)
  | none => none
def FD.toE (f : FD) : FE := fun Γ => match f Γ with
  | some (d, Γ') => some (.sh d, Γ')
  | none => none
def FD.t (f : FD) : FT := fun Γ => match f Γ with
  | some (.bl b, Γ') => some (b, Γ')
  | _ => none
def FT.d (f : FT) : FD := fun Γ => match f Γ with
  | some (b, Γ') => some (.bl b, Γ')
  | none => none

section
variable {C : Cf} {P : Cx → Prop} {e : Expr}
theorem FE.d_some {f : FE} {Γ Γ' : Env} {d : D} (h : f.d Γ = some (d, Γ')) : ∃ s, f Γ = some (s, Γ') ∧ s.toD = some d := by
  unfold FE.d at h
  split at h
  · rename_i s Γ2 e
    split at h
    · rename_i d' e'
      cases h
      exact ⟨s, e, e'⟩
    · cases h
  · cases h
theorem FD.e_some {f : FD} {Γ Γ' : Env} {s : Sl} (h : f.toE Γ = some (s, Γ')) : ∃ d, f Γ = some (d, Γ') ∧ s = .sh d := by
  unfold FD.toE at h
  split at h
  · rename_i d Γ2 e
    cases h
    exact ⟨d, e, rfl⟩
  · cases h
theorem FD.t_some {f : FD} {Γ Γ' : Env} {b : Bool} (h : f.t Γ = some (b, Γ')) : f Γ = some (.bl b, Γ') := by
  unfold FD.t at h
  split at h
  · rename_i b' Γ2 e
    cases h
    exact e
  · cases h
theorem FT.d_some {f : FT} {Γ Γ' : Env} {d : D} (h : f.d Γ = some (d, Γ')) : ∃ b, f Γ = some (b, Γ') ∧ d = .bl b := by
  unfold FT.d at h
  split at h
  · rename_i b' Γ2 e
    cases h
    exact ⟨b', e, rfl⟩
  · cases h
theorem OkE.d {f : FE} (h : OkE C P e f) : OkD C P e f.d := by
  obtain ⟨t, hp, k⟩ := h
  refine ⟨t, hp, fun A ρ S Γ σ H Q d Γ' T hf hq => ?_⟩
  obtain ⟨s, h1, h2⟩ := FE.d_some hf
  refine k A ρ S Γ σ H Q s Γ' T h1 fun v ρ' S' H' E' T' r => ?_
  obtain ⟨S2, E2, T2, hd⟩ := T'.share r h2
  exact hq v ρ' S2 H' (E'.trans E2) T2 hd
theorem OkD.toE {f : FD} (h : OkD C P e f) : OkE C P e f.toE := by
  obtain ⟨t, hp, k⟩ := h
  refine ⟨t, hp, fun A ρ S Γ σ H Q s Γ' T hf hq => ?_⟩
  obtain ⟨d, h1, h2⟩ := FD.e_some hf
  subst h2
  exact k A ρ S Γ σ H Q d Γ' T h1 fun v ρ' S' H' E' T' r => hq v ρ' S' H' E' T' (.sh r)
theorem OkD.o {f : FD} (h : OkD C P e f) : OkO C P e f := by
  obtain ⟨t, hp, k⟩ := h
  exact ⟨t, hp, fun A ρ S Γ σ H Q s Γ' T hf hq => k A ρ S Γ σ H Q s Γ' T hf fun v ρ' S' H' E' T' r => hq v ρ' S' H' E' T' (r.one T'.sub)⟩
theorem den_bl {ρ : Addr → Nat} {S : Hp} {b : Bool} {v : V} : Den C ρ S (.bl b) v ↔ v = .bl b := by unfold Den; exact Iff.rfl
theorem den_int {ρ : Addr → Nat} {S : Hp} {b : Int} {v : V} : Den C ρ S (.int b) v ↔ v = .int b := by unfold Den; exact Iff.rfl
theorem den_str {ρ : Addr → Nat} {S : Hp} {b : Str} {v : V} : Den C ρ S (.str b) v ↔ v = .str b := by unfold Den; exact Iff.rfl
theorem den_non {ρ : Addr → Nat} {S : Hp} {v : V} : Den C ρ S .non v ↔ v = .non := by unfold Den; exact Iff.rfl
theorem OkD.t {f : FD} (h : OkD C P e f) (he : ∀ X, P X → ∀ whole, isTrue e X.env whole = (do let v ← whole; standAt e.pos; holding [v] (truthy v))) : OkT C P e f.t := by
  obtain ⟨t, hp, k⟩ := h
  refine ⟨_, fun X hX => pt_val (hp X hX) (he X hX), fun A ρ S Γ σ H Q b Γ' T hf hq => ?_⟩
  exact k A ρ S Γ σ H _ _ Γ' T (FD.t_some hf) fun v ρ' S' H' E' T' r => ⟨b, den_bl.mp r, hq ρ' S' H' E' T'⟩
theorem OkW.t {f : FT} (h : OkW C P e f) : OkT C P e f := by
  obtain ⟨t, hp, k⟩ := h
  exact ⟨t, fun X hX => (hp X hX).pt, k⟩

/-! names, constants -/
structure NameAt (P : Cx → Prop) (i : Nat) (x : Str) : Prop where
  hN : ∀ X, P X → X.N[i]? = some x
  hv : ∀ X, P X → Vis X.env.scope x
  hd : (x == ("__debug__" : Str)) = false
  hcd : (x == ("__classdict__" : Str)) = false
theorem NameAt.pe {i : Nat} {x : Str} {pos : Pos} (h : NameAt P i x) (X : Cx) (hX : P X) : PE X (.Name x pos) (tVar i) := pe_var (h.hN X hX) (h.hv X hX) h.hd h.hcd
def fVar (i : Nat) : FD := fun Γ => match Γ[i]? with
  | some s => (match s.toD with
    | some d => some (d, Γ.set i (.sh d))
    | none => none)
  | none => none
theorem ok_var {i : Nat} {x : Str} {pos : Pos} (hn : NameAt P i x) : OkD C P (.Name x pos) (fVar i) := by
  refine ⟨_, fun X hX => hn.pe X hX, fun A ρ S Γ σ H Q d Γ' T hf hq => ?_⟩
  unfold fVar at hf
  split at hf
  · rename_i s e
    split at hf
    · rename_i d' e'
      cases hf
      obtain ⟨v, S', h1, E, T', h2⟩ := T.demote e e'
      exact ⟨v, h1, hq v ρ S' H E T' h2⟩
    · cases hf
  · cases hf
def fSee (i : Nat) : FD := fun Γ => match Γ[i]? with
  | some s => (match s.see with
    | some d => some (d, Γ)
    | none => none)
  | none => none
theorem fSee_some {i : Nat} {Γ Γ' : Env} {d : D} (h : fSee i Γ = some (d, Γ')) : Γ' = Γ ∧ ∃ s, Γ[i]? = some s ∧ s.see = some d := by
  unfold fSee at h
  split at h
  · rename_i s e
    split at h
    · rename_i d' e'
      cases h
      exact ⟨rfl, s, e, e'⟩
    · cases h
  · cases h
theorem ok_see {i : Nat} {x : Str} {pos : Pos} (hn : NameAt P i x) : OkO C P (.Name x pos) (fSee i) := by
  refine ⟨_, fun X hX => hn.pe X hX, fun A ρ S Γ σ H Q d Γ' T hf hq => ?_⟩
  obtain ⟨rfl, s, e, e'⟩ := fSee_some hf
  obtain ⟨v, h1, h2⟩ := T.see e e'
  exact ⟨v, h1, hq v ρ S H Ext.refl T h2⟩
def fLit (d : D) : FD := fun Γ => some (d, Γ)
theorem ok_lit {d : D} {v : V} (hp : ∀ X, P X → PE X e (tC v)) (h : ∀ ρ S, Den C ρ S d v) : OkD C P e (fLit d) :=
  ⟨_, hp, fun A ρ S Γ σ H Q d' Γ' T hf hq => by cases hf; exact hq v ρ S H Ext.refl T (h _ _)⟩

/-! argument lists -/
def fNil : FL := fun Γ => some ([], Γ)
def fCons (f : FD) (g : FL) : FL := fun Γ => match f Γ with
  | some (d, Γ1) => (match g Γ1 with
    | some (ds, Γ2) => some (d :: ds, Γ2)
    | none => none)
  | none => none
theorem fCons_some {f : FD} {g : FL} {Γ Γ' : Env} {ds : List D} (h : fCons f g Γ = some (ds, Γ')) : ∃ d r Γ1, ds = d :: r ∧ f Γ = some (d, Γ1) ∧ g Γ1 = some (r, Γ') := by
  unfold fCons at h
  split at h
  · rename_i d Γ1 e
    split at h
    · rename_i r Γ2 e2
      cases h
      exact ⟨d, r, Γ1, rfl, e, e2⟩
    · cases h
  · cases h
theorem ok_nil : OkL C P [] fNil := ⟨_, fun X hX => pa_nil, fun A ρ S Γ σ H Q ds Γ' T hf hq => by cases hf; exact hq [] ρ S H Ext.refl T (denL_nil.mpr rfl)⟩
theorem ok_cons {es : List Expr} {f : FD} {g : FL} (h : OkD C P e f) (hr : OkL C P es g) (hs : ∀ X, P X → starEach (e :: es) X.env = (false, eval e X.env) :: starEach es X.env) : OkL C P (e :: es) (fCons f g) := by
  obtain ⟨t, hp, k⟩ := h
  obtain ⟨u, hq, l⟩ := hr
  refine ⟨_, fun X hX => pa_cons (hp X hX) (hq X hX) (hs X hX), fun A ρ S Γ σ H Q ds Γ' T hf hQ => ?_⟩
  obtain ⟨d, r, Γ1, rfl, h1, h2⟩ := fCons_some hf
  refine k A ρ S Γ σ H _ d Γ1 T h1 fun v ρ1 S1 H1 E1 T1 d1 => ?_
  refine l A ρ1 S1 Γ1 σ H1 _ r Γ' T1 h2 fun vs ρ2 S2 H2 E2 T2 d2 => ?_
  exact hQ (v :: vs) ρ2 S2 H2 (E1.trans E2) T2 (denL_cons.mpr ⟨d1.mono E2, d2⟩)

/-! tuples, lists -/
def fTup (f : FL) : FD := fun Γ => match f Γ with
  | some (ds, Γ1) => if ds.length ≤ lim then some (.tup ds, Γ1) else none
  | none => none
def fLst (g : Nat) (f : FL) : FE := fun Γ => match f Γ with
  | some (ds, Γ1) => if ds.length ≤ lim then some (.own g ds, Γ1) else none
  | none => none
theorem ok_tup {es : List Expr} {f : FL} {k : Nat} {pos : Pos} (h : OkL C P es f) : OkD C P (.Tuple es k pos) (fTup f) := by
  obtain ⟨t, hp, l⟩ := h
  refine ⟨_, fun X hX => pe_tup (hp X hX), fun A ρ S Γ σ H Q d Γ' T hf hq => ?_⟩
  unfold fTup at hf
  split at hf
  · rename_i ds Γ1 e
    split at hf
    · rename_i hl
      cases hf
      refine l A ρ S Γ σ H _ ds _ T e fun vs ρ1 S1 H1 E1 T1 d1 => ⟨by rw [d1.length]; exact Nat.le_trans hl (Nat.le_of_lt lim_lt), fun p hp => ?_⟩
      obtain ⟨T2, E2, sp, h0, hn⟩ := T1.lay hp (.tup vs) 0
      obtain ⟨T3, E3⟩ := T2.pub upd_same sp (.inl h0) hn
      refine hq (.ref p) _ _ _ ((E1.trans E2).trans E3) T3 ?_
      unfold Den
      exact ⟨p, vs, rfl, upd_same, hl, d1.mono (E2.trans E3)⟩
    · cases hf
  · cases hf
/-- a new list, no one else's -/
theorem new_lst {A : Act} {ρ : Addr → Nat} {S : Hp} {Γ : Env} {σ : St} {H : Hp} (T : Sto C A ρ S Γ σ H) {p : Addr} (hp : H p = none) (g : Nat) {vs : List V} {ds : List D} (hl : ds.length ≤ lim) (hd : DenL C ρ S ds vs) :
    Ext ρ S (tagAt ρ p g) S ∧ Sto C A (tagAt ρ p g) S Γ σ (upd H p (.lst vs)) ∧ ResOk C A (tagAt ρ p g) S Γ σ (upd H p (.lst vs)) (.own g ds) (.ref p) := by
  obtain ⟨T2, E2, sp, h0, hn⟩ := T.lay hp (.lst vs) g
  refine ⟨E2, T2, ⟨p, vs, rfl, tagAt_same, upd_same, sp, hl, hd.mono E2, .inl h0⟩, fun _ i a e => ?_, fun _ _ q => (by cases q), fun _ _ q => (by cases q), fun q => (by cases q)⟩
  cases e
  exact hn i
theorem new_dct {A : Act} {ρ : Addr → Nat} {S : Hp} {Γ : Env} {σ : St} {H : Hp} (T : Sto C A ρ S Γ σ H) {p : Addr} (hp : H p = none) (g : Nat) {vs : List V} {ks : List Key} {ds : List D} (hl : ds.length ≤ lim) (hk : ks.length = ds.length) (hd : DenL C ρ S ds vs) :
    Ext ρ S (tagAt ρ p g) S ∧ Sto C A (tagAt ρ p g) S Γ σ (upd H p (.dK (ks.zip vs))) ∧ ResOk C A (tagAt ρ p g) S Γ σ (upd H p (.dK (ks.zip vs))) (.ownD g ks ds) (.ref p) := by
  obtain ⟨T2, E2, sp, h0, hn⟩ := T.lay hp (.dK (ks.zip vs)) g
  refine ⟨E2, T2, ⟨p, vs, rfl, tagAt_same, upd_same, sp, hl, hk, hd.mono E2, .inl h0⟩, fun _ i a e => ?_, fun _ _ q => (by cases q), fun _ _ q => (by cases q), fun q => (by cases q)⟩
  cases e
  exact hn i
theorem ok_lst {es : List Expr} {f : FL} {g : Nat} {pos : Pos} (h : OkL C P es f) : OkE C P (.List es pos) (fLst g f) := by
  obtain ⟨t, hp, l⟩ := h
  refine ⟨_, fun X hX => pe_lst (hp X hX), fun A ρ S Γ σ H Q d Γ' T hf hq => ?_⟩
  unfold fLst at hf
  split at hf
  · rename_i ds Γ1 e
    split at hf
    · rename_i hl
      cases hf
      refine l A ρ S Γ σ H _ ds _ T e fun vs ρ1 S1 H1 E1 T1 d1 => ⟨by rw [d1.length]; exact Nat.le_trans hl (Nat.le_of_lt lim_lt), fun p hp => ?_⟩
      obtain ⟨E2, T2, r⟩ := new_lst T1 hp g hl d1
      exact hq (.ref p) _ _ _ (E1.trans E2) T2 r
    · cases hf
  · cases hf
def fDct0 (g : Nat) : FE := fun Γ => some (.ownD g [] [], Γ)
theorem ok_dct0 {g : Nat} {pos : Pos} : OkE C P (.Dict [] [] pos) (fDct0 g) := by
  refine ⟨_, fun X hX => pe_dnewK, fun A ρ S Γ σ H Q d Γ' T hf hq => ?_⟩
  cases hf
  intro p hp
  obtain ⟨E2, T2, r⟩ := new_dct T hp g (vs := []) (ks := []) (ds := []) (Nat.zero_le _) rfl (denL_nil.mpr rfl)
  exact hq (.ref p) _ _ _ E2 T2 r

/-! and, or, not, if .. else -/
def fAnd (f g : FT) : FT := fun Γ => match f Γ with
  | some (true, Γ1) => g Γ1
  | some (false, Γ1) => some (false, Γ1)
  | none => none
def fOr (f g : FT) : FT := fun Γ => match f Γ with
  | some (true, Γ1) => some (true, Γ1)
  | some (false, Γ1) => g Γ1
  | none => none
def fNot (f : FT) : FT := fun Γ => match f Γ with
  | some (b, Γ1) => some (!b, Γ1)
  | none => none
variable {a b : Expr} {rest : List Expr} {pos : Pos} {f g : FT}
theorem okW_and1 (h : OkT C P a f) : OkW C P (.BoolOp .And [a] pos) f := by
  obtain ⟨t, hp, k⟩ := h
  exact ⟨_, fun X hX => pw_and1 (hp X hX), k⟩
theorem okW_or1 (h : OkT C P a f) : OkW C P (.BoolOp .Or [a] pos) f := by
  obtain ⟨t, hp, k⟩ := h
  exact ⟨_, fun X hX => pw_or1 (hp X hX), k⟩
theorem okW_and (h : OkT C P a f) (h' : OkW C P (.BoolOp .And (b :: rest) pos) g) : OkW C P (.BoolOp .And (a :: b :: rest) pos) (fAnd f g) := by
  obtain ⟨t, hp, k⟩ := h
  obtain ⟨u, hq, l⟩ := h'
  refine ⟨_, fun X hX => pw_and (hp X hX) (hq X hX), fun A ρ S Γ σ H Q c Γ' T hf hQ => ?_⟩
  unfold fAnd at hf
  split at hf
  · rename_i Γ1 e
    exact k A ρ S Γ σ H _ _ _ T e fun ρ1 S1 H1 E1 T1 => by
      rw [if_pos rfl]
      exact l A ρ1 S1 Γ1 σ H1 Q c Γ' T1 hf fun ρ2 S2 H2 E2 T2 => hQ ρ2 S2 H2 (E1.trans E2) T2
  · rename_i Γ1 e
    cases hf
    exact k A ρ S Γ σ H _ _ _ T e fun ρ1 S1 H1 E1 T1 => by
      rw [if_neg (by decide)]
      exact hQ ρ1 S1 H1 E1 T1
  · cases hf
theorem okW_or (h : OkT C P a f) (h' : OkW C P (.BoolOp .Or (b :: rest) pos) g) : OkW C P (.BoolOp .Or (a :: b :: rest) pos) (fOr f g) := by
  obtain ⟨t, hp, k⟩ := h
  obtain ⟨u, hq, l⟩ := h'
  refine ⟨_, fun X hX => pw_or (hp X hX) (hq X hX), fun A ρ S Γ σ H Q c Γ' T hf hQ => ?_⟩
  unfold fOr at hf
  split at hf
  · rename_i Γ1 e
    cases hf
    exact k A ρ S Γ σ H _ _ _ T e fun ρ1 S1 H1 E1 T1 => by
      rw [if_pos rfl]
      exact hQ ρ1 S1 H1 E1 T1
  · rename_i Γ1 e
    exact k A ρ S Γ σ H _ _ _ T e fun ρ1 S1 H1 E1 T1 => by
      rw [if_neg (by decide)]
      exact l A ρ1 S1 Γ1 σ H1 Q c Γ' T1 hf fun ρ2 S2 H2 E2 T2 => hQ ρ2 S2 H2 (E1.trans E2) T2
  · cases hf
theorem okT_not (h : OkT C P a f) : OkT C P (.UnaryOp .Not a pos) (fNot f) := by
  obtain ⟨t, hp, k⟩ := h
  refine ⟨_, fun X hX => pt_not (hp X hX), fun A ρ S Γ σ H Q c Γ' T hf hQ => ?_⟩
  unfold fNot at hf
  split at hf
  · rename_i b Γ1 e
    cases hf
    exact k A ρ S Γ σ H _ _ _ T e fun ρ1 S1 H1 E1 T1 => hQ ρ1 S1 H1 E1 T1
  · cases hf
/-! .. as values -/
theorem okD_one {op : BoolOp} {f : FD} (h : OkD C P a f) : OkD C P (.BoolOp op [a] pos) f := by
  obtain ⟨t, hp, k⟩ := h
  exact ⟨_, fun X hX => pe_one (hp X hX), k⟩
def fAndV (f g : FD) : FD := fun Γ => match f Γ with
  | some (.bl true, Γ1) => g Γ1
  | some (.bl false, Γ1) => some (.bl false, Γ1)
  | _ => none
def fOrV (f g : FD) : FD := fun Γ => match f Γ with
  | some (.bl true, Γ1) => some (.bl true, Γ1)
  | some (.bl false, Γ1) => g Γ1
  | _ => none
def fNotV (f : FD) : FD := fun Γ => match f Γ with
  | some (.bl b, Γ1) => some (.bl (!b), Γ1)
  | _ => none
theorem okD_and {f g : FD} (h : OkD C P a f) (h' : OkD C P (.BoolOp .And (b :: rest) pos) g) : OkD C P (.BoolOp .And (a :: b :: rest) pos) (fAndV f g) := by
  obtain ⟨t, hp, k⟩ := h
  obtain ⟨u, hq, l⟩ := h'
  refine ⟨_, fun X hX => pe_and (hp X hX) (hq X hX), fun A ρ S Γ σ H Q c Γ' T hf hQ => ?_⟩
  unfold fAndV at hf
  split at hf
  · rename_i Γ1 e
    exact k A ρ S Γ σ H _ _ _ T e fun v ρ1 S1 H1 E1 T1 d1 => ⟨true, den_bl.mp d1, by
      rw [if_pos rfl]
      exact l A ρ1 S1 Γ1 σ H1 Q c Γ' T1 hf fun v ρ2 S2 H2 E2 T2 d2 => hQ v ρ2 S2 H2 (E1.trans E2) T2 d2⟩
  · rename_i Γ1 e
    cases hf
    exact k A ρ S Γ σ H _ _ _ T e fun v ρ1 S1 H1 E1 T1 d1 => ⟨false, den_bl.mp d1, by
      rw [if_neg (by decide)]
      exact hQ _ ρ1 S1 H1 E1 T1 (den_bl.mpr rfl)⟩
  · cases hf
theorem okD_or {f g : FD} (h : OkD C P a f) (h' : OkD C P (.BoolOp .Or (b :: rest) pos) g) : OkD C P (.BoolOp .Or (a :: b :: rest) pos) (fOrV f g) := by
  obtain ⟨t, hp, k⟩ := h
  obtain ⟨u, hq, l⟩ := h'
  refine ⟨_, fun X hX => pe_or (hp X hX) (hq X hX), fun A ρ S Γ σ H Q c Γ' T hf hQ => ?_⟩
  unfold fOrV at hf
  split at hf
  · rename_i Γ1 e
    cases hf
    exact k A ρ S Γ σ H _ _ _ T e fun v ρ1 S1 H1 E1 T1 d1 => ⟨true, den_bl.mp d1, by
      rw [if_pos rfl]
      exact hQ _ ρ1 S1 H1 E1 T1 (den_bl.mpr rfl)⟩
  · rename_i Γ1 e
    exact k A ρ S Γ σ H _ _ _ T e fun v ρ1 S1 H1 E1 T1 d1 => ⟨false, den_bl.mp d1, by
      rw [if_neg (by decide)]
      exact l A ρ1 S1 Γ1 σ H1 Q c Γ' T1 hf fun v ρ2 S2 H2 E2 T2 d2 => hQ v ρ2 S2 H2 (E1.trans E2) T2 d2⟩
  · cases hf
theorem okD_not {f : FD} (h : OkD C P a f) : OkD C P (.UnaryOp .Not a pos) (fNotV f) := by
  obtain ⟨t, hp, k⟩ := h
  refine ⟨_, fun X hX => pe_not (hp X hX), fun A ρ S Γ σ H Q c Γ' T hf hQ => ?_⟩
  unfold fNotV at hf
  split at hf
  · rename_i b Γ1 e
    cases hf
    exact k A ρ S Γ σ H _ _ _ T e fun v ρ1 S1 H1 E1 T1 d1 => ⟨b, den_bl.mp d1, hQ _ ρ1 S1 H1 E1 T1 (den_bl.mpr rfl)⟩
  · cases hf
def fIte (c : FT) (f g : FE) : FE := fun Γ => match c Γ with
  | some (true, Γ1) => f Γ1
  | some (false, Γ1) => g Γ1
  | none => none
theorem okE_ite {c : Expr} {fc : FT} {f g : FE} (hc : OkT C P c fc) (h : OkE C P a f) (h' : OkE C P b g) : OkE C P (.IfExp c a b pos) (fIte fc f g) := by
  obtain ⟨t0, hp0, k0⟩ := hc
  obtain ⟨t, hp, k⟩ := h
  obtain ⟨u, hq, l⟩ := h'
  refine ⟨_, fun X hX => pe_ifExp (hp0 X hX) (hp X hX) (hq X hX), fun A ρ S Γ σ H Q c Γ' T hf hQ => ?_⟩
  unfold fIte at hf
  split at hf
  · rename_i Γ1 e
    exact k0 A ρ S Γ σ H _ _ _ T e fun ρ1 S1 H1 E1 T1 => by
      rw [if_pos rfl]
      exact k A ρ1 S1 Γ1 σ H1 Q c Γ' T1 hf fun v ρ2 S2 H2 E2 T2 d2 => hQ v ρ2 S2 H2 (E1.trans E2) T2 d2
  · rename_i Γ1 e
    exact k0 A ρ S Γ σ H _ _ _ T e fun ρ1 S1 H1 E1 T1 => by
      rw [if_neg (by decide)]
      exact l A ρ1 S1 Γ1 σ H1 Q c Γ' T1 hf fun v ρ2 S2 H2 E2 T2 d2 => hQ v ρ2 S2 H2 (E1.trans E2) T2 d2
  · cases hf
end
end Ev

set_option Elab.async false
set_option linter.all false
set_option maxRecDepth 100000
set_option maxHeartbeats 4000000
namespace Ev
open PySem L2

theorem PE_or {X : Cx} {e : Expr} {t u : TE} (h : PE X e t) (k : PE X e u) : PE X e (fun σ H Q => t σ H Q ∨ u σ H Q) :=
  ⟨fun pins s σ H Q I q => q.elim (h.run pins s σ H Q I) (k.run pins s σ H Q I)⟩
theorem PT_or {X : Cx} {e : Expr} {t u : TT} (h : PT X e t) (k : PT X e u) : PT X e (fun σ H Q => t σ H Q ∨ u σ H Q) :=
  ⟨fun pins s σ H Q I q => q.elim (h.run pins s σ H Q I) (k.run pins s σ H Q I)⟩
def fAlt {β : Type} (f g : Env → Option β) : Env → Option β := fun Γ => match f Γ with
  | some r => some r
  | none => g Γ
theorem fAlt_some {β : Type} {f g : Env → Option β} {Γ : Env} {r : β} (h : fAlt f g Γ = some r) : f Γ = some r ∨ g Γ = some r := by
  unfold fAlt at h
  split at h
  · rename_i e
    exact .inl (e.trans h)
  · exact .inr h
theorem OkE.alt {C : Cf} {P : Cx → Prop} {e : Expr} {f g : FE} (h : OkE C P e f) (k : OkE C P e g) : OkE C P e (fAlt f g) := by
  obtain ⟨t, hp, h1⟩ := h
  obtain ⟨u, hq, k1⟩ := k
  refine ⟨_, fun X hX => PE_or (hp X hX) (hq X hX), fun A ρ S Γ σ H Q s Γ' T hf hQ => ?_⟩
  rcases fAlt_some hf with e | e
  · exact .inl (h1 A ρ S Γ σ H Q s Γ' T e hQ)
  · exact .inr (k1 A ρ S Γ σ H Q s Γ' T e hQ)
theorem OkT.alt {C : Cf} {P : Cx → Prop} {e : Expr} {f g : FT} (h : OkT C P e f) (k : OkT C P e g) : OkT C P e (fAlt f g) := by
  obtain ⟨t, hp, h1⟩ := h
  obtain ⟨u, hq, k1⟩ := k
  refine ⟨_, fun X hX => PT_or (hp X hX) (hq X hX), fun A ρ S Γ σ H Q s Γ' T hf hQ => ?_⟩
  rcases fAlt_some hf with e | e
  · exact .inl (h1 A ρ S Γ σ H Q s Γ' T e hQ)
  · exact .inr (k1 A ρ S Γ σ H Q s Γ' T e hQ)

/-! an operation on values, by data -/
def Snd2 (C : Cf) (r : R2) (F : D → D → Option Sl) : Prop :=
  ∀ (A : Act) (ρ : Addr → Nat) (S : Hp) (Γ : Env) (σ : St) (H : Hp) (x y : V) (d e : D) (s : Sl) (Q : VK), Sto C A ρ S Γ σ H → Den1 C ρ S H d x → Den1 C ρ S H e y → F d e = some s →
    (∀ v ρ' S' H', Ext ρ S ρ' S' → Sto C A ρ' S' Γ σ H' → ResOk C A ρ' S' Γ σ H' s v → Q v H') → r x y H Q
theorem Snd2.or {C : Cf} {r r' : R2} {F F' : D → D → Option Sl} (h : Snd2 C r F) (k : Snd2 C r' F') : Snd2 C (fun x y H Q => r x y H Q ∨ r' x y H Q) (fun d e => match F d e with | some s => some s | none => F' d e) := by
  intro A ρ S Γ σ H x y d e s Q T hx hy hF hQ
  dsimp only at hF
  split at hF
  · rename_i s' e'
    cases hF
    exact .inl (h A ρ S Γ σ H x y d e _ Q T hx hy e' hQ)
  · exact .inr (k A ρ S Γ σ H x y d e s Q T hx hy hF hQ)
theorem Snd2.imp {C : Cf} {r : R2} {F F' : D → D → Option Sl} (h : Snd2 C r F) (k : ∀ d e s, F' d e = some s → F d e = some s) : Snd2 C r F' :=
  fun A ρ S Γ σ H x y d e s Q T hx hy hF hQ => h A ρ S Γ σ H x y d e s Q T hx hy (k _ _ _ hF) hQ
/-- both operands evaluated, then the operation -/
def fOp2 (F : D → D → Option Sl) (f g : FD) : FE := fun Γ => match f Γ with
  | some (d, Γ1) => (match g Γ1 with
    | some (e, Γ2) => (match F d e with
      | some s => some (s, Γ2)
      | none => none)
    | none => none)
  | none => none
theorem fOp2_some {F : D → D → Option Sl} {f g : FD} {Γ Γ' : Env} {s : Sl} (h : fOp2 F f g Γ = some (s, Γ')) : ∃ d e Γ1, f Γ = some (d, Γ1) ∧ g Γ1 = some (e, Γ') ∧ F d e = some s := by
  unfold fOp2 at h
  split at h
  · rename_i d Γ1 e1
    split at h
    · rename_i e Γ2 e2
      split at h
      · rename_i s' e3
        cases h
        exact ⟨d, e, Γ1, e1, e2, e3⟩
      · cases h
    · cases h
  · cases h
/-- the left one is a slot that is looked at when the right one is there -/
def fOp2P (F : D → D → Option Sl) (i : Nat) (g : FD) : FE := fun Γ => match fSee i Γ with
  | some _ => (match g Γ with
    | some (e, Γ1) => (match fSee i Γ1 with
      | some (d, _) => (match F d e with
        | some s => some (s, Γ1)
        | none => none)
      | none => none)
    | none => none)
  | none => none
theorem fOp2P_some {F : D → D → Option Sl} {i : Nat} {g : FD} {Γ Γ' : Env} {s : Sl} (h : fOp2P F i g Γ = some (s, Γ')) : ∃ d e d0, fSee i Γ = some (d0, Γ) ∧ g Γ = some (e, Γ') ∧ fSee i Γ' = some (d, Γ') ∧ F d e = some s := by
  unfold fOp2P at h
  split at h
  · rename_i q e0
    obtain ⟨d0, Γ0⟩ := q
    have := (fSee_some e0).1
    subst this
    split at h
    · rename_i e Γ1 e1
      split at h
      · rename_i d Γ2 e2
        split at h
        · rename_i s' e3
          cases h
          have := (fSee_some e2).1
          subst this
          exact ⟨d, e, d0, e0, e1, e2, e3⟩
        · cases h
      · cases h
    · cases h
  · cases h
section
variable {C : Cf} {P : Cx → Prop} {a b : Expr} {pos : Pos}
/-- the shape that BinOp, Compare and Subscript share -/
theorem ok_two {r : R2} {F : D → D → Option Sl} {f g : FD} {w : Expr} (hs : Snd2 C r F) (ha : OkD C P a f) (hb : OkO C P b g) (hw : ∀ X, P X → ∀ ta tb, PE X a ta → PE X b tb → PE X w (tOp r ta tb)) : OkE C P w (fOp2 F f g) := by
  obtain ⟨t, hp, k⟩ := ha
  obtain ⟨u, hq, l⟩ := hb
  refine ⟨_, fun X hX => hw X hX _ _ (hp X hX) (hq X hX), fun A ρ S Γ σ H Q s Γ' T hf hQ => ?_⟩
  obtain ⟨d, e, Γ1, h1, h2, h3⟩ := fOp2_some hf
  refine k A ρ S Γ σ H _ d Γ1 T h1 fun v ρ1 S1 H1 E1 T1 d1 => ?_
  refine l A ρ1 S1 Γ1 σ H1 _ e Γ' T1 h2 fun u ρ2 S2 H2 E2 T2 d2 => ?_
  exact hs A ρ2 S2 Γ' σ H2 v u d e s Q T2 ((d1.mono E2).one T2.sub) d2 h3 fun z ρ3 S3 H3 E3 T3 r3 => hQ z ρ3 S3 H3 ((E1.trans E2).trans E3) T3 r3
theorem ok_twoP {r : R2} {F : D → D → Option Sl} {i : Nat} {x : Str} {g : FD} {w : Expr} (hs : Snd2 C r F) (hn : NameAt P i x)
    (hb : OkO C P b g) (hw : ∀ X, P X → ∀ ta tb, PE X (.Name x pos) ta → PE X b tb → PE X w (tOp r ta tb)) : OkE C P w (fOp2P F i g) := by
  obtain ⟨u, hq, l⟩ := hb
  refine ⟨_, fun X hX => hw X hX _ _ (hn.pe X hX) (hq X hX), fun A ρ S Γ σ H Q s Γ' T hf hQ => ?_⟩
  obtain ⟨d, e, d0, h0, h1, h2, h3⟩ := fOp2P_some hf
  have key : ∀ v, σ[i]? = some (some v) → u σ H (fun y H2 => r v y H2 Q) := fun v hv => by
    refine l A ρ S Γ σ H _ e Γ' T h1 fun z ρ2 S2 H2 E2 T2 d2 => ?_
    obtain ⟨_, sl, e1, e2⟩ := fSee_some h2
    obtain ⟨v', h4, h5⟩ := T2.see e1 e2
    rw [hv] at h4
    cases h4
    exact hs A ρ2 S2 Γ' σ H2 v z d e s Q T2 h5 d2 h3 fun z ρ3 S3 H3 E3 T3 r3 => hQ z ρ3 S3 H3 (E2.trans E3) T3 r3
  -- the slot holds a value already
  obtain ⟨_, sl0, e01, e02⟩ := fSee_some h0
  obtain ⟨v, hv', _⟩ := T.see e01 e02
  exact ⟨v, hv', key v hv'⟩
end

/-! ### arithmetic -/
section
variable {C : Cf} {X : Cx}
theorem den1_int {ρ : Addr → Nat} {S H : Hp} {i : Int} {v : V} (h : Den1 C ρ S H (.int i) v) : v = .int i := den_int.mp (show Den C ρ S (.int i) v from h)
theorem den1_str {ρ : Addr → Nat} {S H : Hp} {i : Str} {v : V} (h : Den1 C ρ S H (.str i) v) : v = .str i := den_str.mp (show Den C ρ S (.str i) v from h)
theorem den1_bl {ρ : Addr → Nat} {S H : Hp} {i : Bool} {v : V} (h : Den1 C ρ S H (.bl i) v) : v = .bl i := den_bl.mp (show Den C ρ S (.bl i) v from h)
theorem den1_non {ρ : Addr → Nat} {S H : Hp} {v : V} (h : Den1 C ρ S H .non v) : v = .non := den_non.mp (show Den C ρ S .non v from h)
theorem den1_tup {ρ : Addr → Nat} {S H : Hp} {xs : List D} {v : V} (h : Den1 C ρ S H (.tup xs) v) : ∃ a vs, v = .ref a ∧ S a = some (.tup vs) ∧ xs.length ≤ lim ∧ DenL C ρ S xs vs := by
  have h : Den C ρ S (.tup xs) v := h
  unfold Den at h
  exact h
def onInts (F : Int → Int → Option D) : D → D → Option Sl
  | .int i, .int j => (match F i j with
    | some d => some (.sh d)
    | none => none)
  | _, _ => none
/-- two onInts, an int or a bool -/
theorem snd_rI {Cn : Int → Int → Prop} {g : Int → Int → V} {F : Int → Int → Option D} (h : ∀ i j d, F i j = some d → Cn i j ∧ ∀ (C : Cf) ρ S, Den C ρ S d (g i j)) : Snd2 C (rI Cn g) (onInts F) := by
  intro A ρ S Γ σ H x y d e s Q T hx hy hF hQ
  cases d with
  | int i =>
    cases e with
    | int j =>
      have hF : (match F i j with | some d => some (Sl.sh d) | none => none) = some s := hF
      split at hF
      · rename_i d' e'
        cases hF
        obtain ⟨c, hd⟩ := h i j d' e'
        exact ⟨i, j, den1_int hx, den1_int hy, c, hQ _ ρ S H Ext.refl T (.sh (hd _ _ _))⟩
      · cases hF
    | _ => cases hF
  | _ => cases hF
theorem snd_rI0 {g : Int → Int → V} {F : Int → Int → Option D} (h : ∀ i j d, F i j = some d → ∀ (C : Cf) ρ S, Den C ρ S d (g i j)) : Snd2 C (rI0 g) (onInts F) := by
  intro A ρ S Γ σ H x y d e s Q T hx hy hF hQ
  cases d with
  | int i =>
    cases e with
    | int j =>
      have hF : (match F i j with | some d => some (Sl.sh d) | none => none) = some s := hF
      split at hF
      · rename_i d' e'
        cases hF
        exact ⟨i, j, den1_int hx, den1_int hy, hQ _ ρ S H Ext.refl T (.sh (h i j d' e' _ _ _))⟩
      · cases hF
    | _ => cases hF
  | _ => cases hF
def iSub (i j : Int) : Option D := some (.int (i - j))
def iMul (i j : Int) : Option D := if (-(2 ^ 64) < i ∧ i < 2 ^ 64) ∨ (-(2 ^ 64) < j ∧ j < 2 ^ 64) then some (.int (i * j)) else none
def iMod (i j : Int) : Option D := if 0 < j then some (.int (i % j)) else none
def iDiv (i j : Int) : Option D := if 0 < j ∧ j.natAbs < 2 ^ 1000 then some (.int (i / j)) else none
def iPow (i j : Int) : Option D := if 0 ≤ j ∧ (Builtin.Int.intBits i : Int) * j ≤ 2 ^ 27 then some (.int (i ^ j.toNat)) else none
def iLt (i j : Int) : Option D := some (.bl (decide (i < j)))
def iLe (i j : Int) : Option D := some (.bl (decide (i ≤ j)))
def iGt (i j : Int) : Option D := some (.bl (decide (j < i)))
def iGe (i j : Int) : Option D := some (.bl (decide (j ≤ i)))
theorem op_powW {X : Cx} : OpR X (binaryOp .Pow) (rI (fun i j => 0 ≤ j ∧ (Builtin.Int.intBits i : Int) * j ≤ 2 ^ 27) fun i j => .int (i ^ j.toNat)) := opI fun _ _ _ _ _ _ _ hc q => PyProof.Rows.pow_int hc.1 hc.2 q
theorem if_some {α : Type} {p : Prop} [Decidable p] {x y : α} (h : (if p then some x else none) = some y) : p ∧ x = y := by
  split at h
  · exact ⟨by assumption, Option.some.inj h⟩
  · cases h
theorem snd_sub : Snd2 C (rI0 fun i j => .int (i - j)) (onInts iSub) := snd_rI0 fun i j d h C ρ S => by cases h; exact den_int.mpr rfl
theorem snd_mul : Snd2 C (rI CMul fun i j => .int (i * j)) (onInts iMul) := snd_rI fun i j d h => by
  obtain ⟨c, rfl⟩ := if_some h
  exact ⟨c, fun C ρ S => den_int.mpr rfl⟩
theorem snd_mod : Snd2 C (rI (fun _ j => 0 < j) fun i j => .int (i % j)) (onInts iMod) := snd_rI fun i j d h => by
  obtain ⟨c, rfl⟩ := if_some h
  exact ⟨c, fun C ρ S => den_int.mpr rfl⟩
theorem snd_div : Snd2 C (rI CDivW fun i j => .int (i / j)) (onInts iDiv) := snd_rI fun i j d h => by
  obtain ⟨c, rfl⟩ := if_some h
  exact ⟨wide_div c.1 c.2 (by decide) (by decide), fun C ρ S => den_int.mpr rfl⟩
theorem snd_pow : Snd2 C (rI (fun i j => 0 ≤ j ∧ (Builtin.Int.intBits i : Int) * j ≤ 2 ^ 27) fun i j => .int (i ^ j.toNat)) (onInts iPow) := snd_rI fun i j d h => by
  obtain ⟨c, rfl⟩ := if_some h
  exact ⟨c, fun C ρ S => den_int.mpr rfl⟩
theorem snd_lt : Snd2 C (rI0 fun i j => .bl (decide (i < j))) (onInts iLt) := snd_rI0 fun i j d h C ρ S => by cases h; exact den_bl.mpr rfl
theorem snd_le : Snd2 C (rI0 fun i j => .bl (decide (i ≤ j))) (onInts iLe) := snd_rI0 fun i j d h C ρ S => by cases h; exact den_bl.mpr rfl
theorem snd_gt : Snd2 C (rI0 fun i j => .bl (decide (j < i))) (onInts iGt) := snd_rI0 fun i j d h C ρ S => by cases h; exact den_bl.mpr rfl
theorem snd_ge : Snd2 C (rI0 fun i j => .bl (decide (j ≤ i))) (onInts iGe) := snd_rI0 fun i j d h C ρ S => by cases h; exact den_bl.mpr rfl
/-! + -/
def dAdd (g : Nat) : D → D → Option Sl
  | .int i, .int j => some (.sh (.int (i + j)))
  | .str x, .str y => if x.length + y.length ≤ lim then some (.sh (.str (x ++ y))) else none
  | .lst _ xs, .lst _ ys => if xs.length + ys.length ≤ lim then some (.own g (xs ++ ys)) else none
  | .tup xs, .tup ys => if xs.length + ys.length ≤ lim then some (.sh (.tup (xs ++ ys))) else none
  | _, _ => none
def rAdd (K : PySem.W.Frag) : R2 := fun x y H Q => (rI0 (fun i j => .int (i + j)) x y H Q ∨ (∃ i j, x = .str i ∧ y = .str j ∧ i.length + j.length ≤ sizeLine ∧ Q (.str (i ++ j)) H)) ∨ (rCat x y H Q ∨ rCatA K x y H Q)
theorem op_addAll : OpR X (binaryOp .Add) (rAdd X.K) := (op_add.or op_add_str).or (op_cat.or op_catA)
theorem snd_add (g : Nat) {K : PySem.W.Frag} : Snd2 C (rAdd K) (dAdd g) := by
  intro A ρ S Γ σ H x y d e s Q T hx hy hF hQ
  cases d with
  | int i =>
    cases e with
    | int j =>
      cases hF
      exact .inl (.inl ⟨i, j, den1_int hx, den1_int hy, hQ _ ρ S H Ext.refl T (.sh (den_int.mpr rfl))⟩)
    | _ => cases hF
  | str i =>
    cases e with
    | str j =>
      obtain ⟨c, rfl⟩ := if_some (show (if i.length + j.length ≤ lim then some (Sl.sh (.str (i ++ j))) else none) = some s from hF)
      exact .inl (.inr ⟨i, j, den1_str hx, den1_str hy, Nat.le_trans c (Nat.le_of_lt lim_lt), hQ _ ρ S H Ext.refl T (.sh (den_str.mpr rfl))⟩)
    | _ => cases hF
  | lst t xs =>
    cases e with
    | lst u ys =>
      obtain ⟨c, rfl⟩ := if_some (show (if xs.length + ys.length ≤ lim then some (Sl.own g (xs ++ ys)) else none) = some s from hF)
      obtain ⟨a, vs, rfl, _, ha, _, r1⟩ := hx
      obtain ⟨b, ws, rfl, _, hb, _, r2⟩ := hy
      refine .inr (.inl ⟨a, b, vs, ws, rfl, rfl, ha, hb, by rw [r1.length, r2.length]; exact Nat.le_trans c (Nat.le_of_lt lim_lt), fun p hp => ?_⟩)
      obtain ⟨E2, T2, r⟩ := new_lst T hp g (vs := vs ++ ws) (ds := xs ++ ys) (by rw [List.length_append]; exact c) (r1.append r2)
      exact hQ _ _ _ _ E2 T2 r
    | _ => cases hF
  | tup xs =>
    cases e with
    | tup ys =>
      obtain ⟨c, rfl⟩ := if_some (show (if xs.length + ys.length ≤ lim then some (Sl.sh (.tup (xs ++ ys))) else none) = some s from hF)
      obtain ⟨a, vs, rfl, ha, la, r1⟩ := den1_tup hx
      obtain ⟨b, ws, rfl, hb, lb, r2⟩ := den1_tup hy
      refine .inr (.inr ⟨a, b, vs, ws, rfl, rfl, SqT.of (T.sub _ _ ha), SqT.of (T.sub _ _ hb), by rw [r1.length, r2.length]; exact Nat.le_trans c (Nat.le_of_lt lim_lt), fun q => ?_, fun _ q => ?_, fun _ _ p hp => ?_⟩)
      · have e1 : xs = [] := List.length_eq_zero_iff.mp (by rw [← r1.length, q]; rfl)
        subst e1
        refine hQ _ ρ S H Ext.refl T (.sh ?_)
        unfold Den
        exact ⟨b, ws, rfl, hb, lb, r2⟩
      · have e1 : ys = [] := List.length_eq_zero_iff.mp (by rw [← r2.length, q]; rfl)
        subst e1
        refine hQ _ ρ S H Ext.refl T (.sh ?_)
        rw [List.append_nil]
        unfold Den
        exact ⟨a, vs, rfl, ha, la, r1⟩
      · obtain ⟨T2, E2, sp, h0, hn⟩ := T.lay hp (.tup (vs ++ ws)) 0
        obtain ⟨T3, E3⟩ := T2.pub upd_same sp (.inl h0) hn
        refine hQ _ _ _ _ (E2.trans E3) T3 (.sh ?_)
        unfold Den
        exact ⟨p, _, rfl, upd_same, by rw [List.length_append]; exact c, (r1.append r2).mono (E2.trans E3)⟩
    | _ => cases hF
  | _ => cases hF
end
end Ev

set_option Elab.async false
set_option linter.all false
set_option maxRecDepth 100000
set_option maxHeartbeats 4000000
namespace Ev
open PySem L2

/-! ### data that == compares -/
mutual
def D.py : D → PyData
  | .non => .none
  | .bl b => .bool b
  | .int i => .int i
  | .str x => .str x
  | .lst _ xs => .list (pyL xs)
  | .tup xs => .tuple (pyL xs)
  | .dct _ _ _ => .dict []
  | .ins _ _ => .dict []
  | .scr _ => .dict []
  | .exc _ _ => .dict []
def pyL : List D → List PyData
  | [] => []
  | d :: r => d.py :: pyL r
end
mutual
def okd : D → Nat → Bool
  | .non, _ => true
  | .bl _, _ => true
  | .int _, _ => true
  | .str x, _ => PySem.PyData.strOk x
  | .lst _ xs, n => (match n with
    | 0 => false
    | n + 1 => okdL xs n)
  | .tup xs, n => (match n with
    | 0 => false
    | n + 1 => okdL xs n)
  | .dct _ _ _, _ => false
  | .ins _ _, _ => false
  | .scr _, _ => false
  | .exc _ _, _ => false
def okdL : List D → Nat → Bool
  | [], _ => true
  | d :: r, n => okd d n && okdL r n
end
mutual
theorem okd_lay : ∀ (d : D) (n : Nat), okd d n = true → d.py.canLay0 = true ∧ d.py.depth ≤ n + 1
  | .non, _, _ => ⟨rfl, by unfold D.py PyData.depth; omega⟩
  | .bl _, _, _ => ⟨rfl, by unfold D.py PyData.depth; omega⟩
  | .int _, _, _ => ⟨rfl, by unfold D.py PyData.depth; omega⟩
  | .str x, _, h => ⟨by unfold D.py PyData.canLay0; unfold okd at h; exact h, by unfold D.py PyData.depth; omega⟩
  | .lst t xs, 0, h => by unfold okd at h; cases h
  | .lst t xs, n + 1, h => by
    unfold okd at h
    obtain ⟨h1, h2⟩ := okdL_lay xs n h
    unfold D.py PyData.canLay0 PyData.depth
    exact ⟨h1, by omega⟩
  | .tup xs, 0, h => by unfold okd at h; cases h
  | .tup xs, n + 1, h => by
    unfold okd at h
    obtain ⟨h1, h2⟩ := okdL_lay xs n h
    unfold D.py PyData.canLay0 PyData.depth
    exact ⟨h1, by omega⟩
  | .dct _ _ _, _, h => by unfold okd at h; cases h
  | .ins _ _, _, h => by unfold okd at h; cases h
  | .scr _, _, h => by unfold okd at h; cases h
  | .exc _ _, _, h => by unfold okd at h; cases h
theorem okdL_lay : ∀ (ds : List D) (n : Nat), okdL ds n = true → PyData.canLayAll0 (pyL ds) = true ∧ PyData.depthAll (pyL ds) ≤ n + 1
  | [], _, _ => ⟨rfl, by unfold pyL PyData.depthAll; omega⟩
  | d :: r, n, h => by
    unfold okdL at h
    obtain ⟨h1, h2⟩ := Bool.and_eq_true_iff.mp h
    obtain ⟨a1, a2⟩ := okd_lay d n h1
    obtain ⟨b1, b2⟩ := okdL_lay r n h2
    unfold pyL PyData.canLayAll0 PyData.depthAll
    exact ⟨by rw [a1, b1]; rfl, by omega⟩
end
theorem okd_shaped {d : D} (h : okd d 60 = true) : SeqAt.shaped d.py = true := by
  obtain ⟨h1, h2⟩ := okd_lay d 60 h
  unfold SeqAt.shaped
  rw [h1, decide_eq_true (by omega)]
  rfl
section
variable {C : Cf} {K : PySem.W.Frag}
mutual
theorem den_dp {ρ : Addr → Nat} {S H : Hp} (s : Sub S H) : ∀ (d : D) (n : Nat) (v : V), okd d n = true → Den C ρ S d v → Dp K H v d.py
  | .non, _, _, _, h => by rw [den_non.mp h]; exact .non
  | .bl _, _, _, _, h => by rw [den_bl.mp h]; exact .bl _
  | .int _, _, _, _, h => by rw [den_int.mp h]; exact .int _
  | .str _, _, _, _, h => by rw [den_str.mp h]; exact .str _
  | .lst t xs, 0, _, k, _ => by unfold okd at k; cases k
  | .lst t xs, n + 1, _, k, h => by
    unfold okd at k
    unfold Den at h
    obtain ⟨a, vs, rfl, _, ha, _, r⟩ := h
    exact .lst (SqL.of (s _ _ ha)) (denL_dp s xs n vs k r)
  | .tup xs, 0, _, k, _ => by unfold okd at k; cases k
  | .tup xs, n + 1, _, k, h => by
    unfold okd at k
    unfold Den at h
    obtain ⟨a, vs, rfl, ha, _, r⟩ := h
    exact .tup (SqT.of (s _ _ ha)) (denL_dp s xs n vs k r)
  | .dct _ _ _, _, _, k, _ => by unfold okd at k; cases k
  | .ins _ _, _, _, k, _ => by unfold okd at k; cases k
  | .scr _, _, _, k, _ => by unfold okd at k; cases k
  | .exc _ _, _, _, k, _ => by unfold okd at k; cases k
theorem denL_dp {ρ : Addr → Nat} {S H : Hp} (s : Sub S H) : ∀ (ds : List D) (n : Nat) (vs : List V), okdL ds n = true → DenL C ρ S ds vs → DpAll K H vs (pyL ds)
  | [], _, _, _, h => by rw [denL_nil.mp h]; exact .nil
  | d :: r, n, vs, k, h => by
    unfold okdL at k
    obtain ⟨k1, k2⟩ := Bool.and_eq_true_iff.mp k
    unfold DenL at h
    obtain ⟨v, ws, rfl, h1, h2⟩ := h
    exact .cons (den_dp s d n v k1 h1) (denL_dp s r n ws k2 h2)
end
theorem den1_dp {ρ : Addr → Nat} {S H : Hp} (s : Sub S H) {d : D} {n : Nat} {v : V} (k : okd d n = true) (h : Den1 C ρ S H d v) : Dp K H v d.py := by
  cases d with
  | lst t xs =>
    cases n with
    | zero => unfold okd at k; cases k
    | succ n =>
      unfold okd at k
      obtain ⟨a, vs, rfl, _, ha, _, r⟩ := h
      exact .lst (SqL.of ha) (denL_dp s xs n vs k r)
  | dct t ks xs => unfold okd at k; cases k
  | _ => exact den_dp (C := C) (ρ := ρ) s _ n v k h

/-! ### == and != -/
def dEqF : D → D → Option Bool
  | .int i, .int j => some (decide (i = j))
  | .str x, .str y => some (decide (x = y))
  | .bl a, .bl b => some (decide (a = b))
  | .non, .non => some true
  | .non, .int _ => some false
  | .int _, .non => some false
  | .non, .str _ => some false
  | .str _, .non => some false
  | .non, .bl _ => some false
  | .bl _, .non => some false
  | .int _, .str _ => some false
  | .str _, .int _ => some false
  | .bl _, .str _ => some false
  | .str _, .bl _ => some false
  | _, _ => none
theorem dEqF_ok {ρ : Addr → Nat} {S H : Hp} {d e : D} {x y : V} {b : Bool} (hx : Den1 C ρ S H d x) (hy : Den1 C ρ S H e y) (h : dEqF d e = some b) : scal x y = true ∧ decide (x = y) = b := by
  cases d with
  | int i =>
    have ex := den1_int hx
    subst ex
    cases e with
    | int j =>
      have ey := den1_int hy
      subst ey
      cases h
      exact ⟨rfl, by simp⟩
    | str j => have ey := den1_str hy; subst ey; cases h; exact ⟨rfl, rfl⟩
    | non => have ey := den1_non hy; subst ey; cases h; exact ⟨rfl, rfl⟩
    | _ => cases h
  | str i =>
    have ex := den1_str hx
    subst ex
    cases e with
    | int j => have ey := den1_int hy; subst ey; cases h; exact ⟨rfl, rfl⟩
    | str j => have ey := den1_str hy; subst ey; cases h; exact ⟨rfl, by simp⟩
    | non => have ey := den1_non hy; subst ey; cases h; exact ⟨rfl, rfl⟩
    | bl j => have ey := den1_bl hy; subst ey; cases h; exact ⟨rfl, rfl⟩
    | _ => cases h
  | bl i =>
    have ex := den1_bl hx
    subst ex
    cases e with
    | bl j => have ey := den1_bl hy; subst ey; cases h; exact ⟨rfl, by simp⟩
    | str j => have ey := den1_str hy; subst ey; cases h; exact ⟨rfl, rfl⟩
    | non => have ey := den1_non hy; subst ey; cases h; exact ⟨rfl, rfl⟩
    | _ => cases h
  | non =>
    have ex := den1_non hx
    subst ex
    cases e with
    | int j => have ey := den1_int hy; subst ey; cases h; exact ⟨rfl, rfl⟩
    | str j => have ey := den1_str hy; subst ey; cases h; exact ⟨rfl, rfl⟩
    | non => have ey := den1_non hy; subst ey; cases h; exact ⟨rfl, by simp⟩
    | bl j => have ey := den1_bl hy; subst ey; cases h; exact ⟨rfl, rfl⟩
    | _ => cases h
  | _ => cases e <;> cases h
def dEq (d e : D) : Option Bool := match dEqF d e with
  | some b => some b
  | none => if okd d 60 = true ∧ okd e 60 = true then some (PyData.eqv d.py e.py) else none
def sEq (d e : D) : Option Sl := match dEq d e with
  | some b => some (.sh (.bl b))
  | none => none
def sNe (d e : D) : Option Sl := match dEq d e with
  | some b => some (.sh (.bl (!b)))
  | none => none
def rEqAll (K : PySem.W.Frag) : R2 := fun x y H Q => rEq x y H Q ∨ rEqD K x y H Q
def rNeAll (K : PySem.W.Frag) : R2 := fun x y H Q => rNe x y H Q ∨ rNeD K x y H Q
theorem op_eqAll {X : Cx} (hu : X.A.units + 64 < cLine) : OpR X (compareOp .Eq) (rEqAll X.K) := op_eq.or (op_eqD hu)
theorem op_neAll {X : Cx} (hu : X.A.units + 64 < cLine) : OpR X (compareOp .NotEq) (rNeAll X.K) := op_ne.or (op_neD hu)
theorem snd_eq : Snd2 C (rEqAll K) sEq := by
  intro A ρ S Γ σ H x y d e s Q T hx hy hF hQ
  unfold sEq dEq at hF
  split at hF
  · rename_i b eb
    cases hF
    split at eb
    · rename_i b' e'
      cases eb
      obtain ⟨h1, h2⟩ := dEqF_ok hx hy e'
      exact .inl ⟨h1, hQ _ ρ S H Ext.refl T (.sh (den_bl.mpr (by rw [h2])))⟩
    · obtain ⟨c, rfl⟩ := if_some eb
      exact .inr ⟨_, _, den1_dp T.sub c.1 hx, den1_dp T.sub c.2 hy, okd_shaped c.1, okd_shaped c.2, hQ _ ρ S H Ext.refl T (.sh (den_bl.mpr rfl))⟩
  · cases hF
theorem snd_ne : Snd2 C (rNeAll K) sNe := by
  intro A ρ S Γ σ H x y d e s Q T hx hy hF hQ
  unfold sNe dEq at hF
  split at hF
  · rename_i b eb
    cases hF
    split at eb
    · rename_i b' e'
      cases eb
      obtain ⟨h1, h2⟩ := dEqF_ok hx hy e'
      exact .inl ⟨h1, hQ _ ρ S H Ext.refl T (.sh (den_bl.mpr (by rw [h2])))⟩
    · obtain ⟨c, rfl⟩ := if_some eb
      exact .inr ⟨_, _, den1_dp T.sub c.1 hx, den1_dp T.sub c.2 hy, okd_shaped c.1, okd_shaped c.2, hQ _ ρ S H Ext.refl T (.sh (den_bl.mpr rfl))⟩
  · cases hF

/-! ### in, not in -/
def flatD : D → Bool
  | .non => true
  | .bl _ => true
  | .int _ => true
  | .str _ => true
  | _ => false
def eqD0 : D → D → Bool
  | .non, .non => true
  | .bl a, .bl b => a == b
  | .bl a, .int b => (if a then 1 else 0) == b
  | .int a, .bl b => a == (if b then 1 else 0)
  | .int a, .int b => a == b
  | .str a, .str b => a == b
  | _, _ => false
theorem flat_den {ρ : Addr → Nat} {S : Hp} {d : D} {v : V} (h : Den C ρ S d v) (f : flatD d = true) : flatV v = true := by
  cases d with
  | non => rw [den_non.mp h]; rfl
  | bl b => rw [den_bl.mp h]; rfl
  | int b => rw [den_int.mp h]; rfl
  | str b => rw [den_str.mp h]; rfl
  | _ => cases f
theorem flat_eq {ρ : Addr → Nat} {S : Hp} {d e : D} {v u : V} (h : Den C ρ S d v) (f : flatD d = true) (k : Den C ρ S e u) (g : flatD e = true) : eqV v u = eqD0 d e := by
  cases d with
  | non => rw [den_non.mp h]; cases e with
    | non => rw [den_non.mp k]; rfl
    | bl b => rw [den_bl.mp k]; rfl
    | int b => rw [den_int.mp k]; rfl
    | str b => rw [den_str.mp k]; rfl
    | _ => cases g
  | bl b => rw [den_bl.mp h]; cases e with
    | non => rw [den_non.mp k]; rfl
    | bl b => rw [den_bl.mp k]; rfl
    | int b => rw [den_int.mp k]; rfl
    | str b => rw [den_str.mp k]; rfl
    | _ => cases g
  | int b => rw [den_int.mp h]; cases e with
    | non => rw [den_non.mp k]; rfl
    | bl b => rw [den_bl.mp k]; rfl
    | int b => rw [den_int.mp k]; rfl
    | str b => rw [den_str.mp k]; rfl
    | _ => cases g
  | str b => rw [den_str.mp h]; cases e with
    | non => rw [den_non.mp k]; rfl
    | bl b => rw [den_bl.mp k]; rfl
    | int b => rw [den_int.mp k]; rfl
    | str b => rw [den_str.mp k]; rfl
    | _ => cases g
  | _ => cases f
theorem flat_all {ρ : Addr → Nat} {S : Hp} : ∀ {ds : List D} {vs : List V}, DenL C ρ S ds vs → ds.all flatD = true → vs.all flatV = true
  | [], vs, h, _ => by rw [denL_nil.mp h]; rfl
  | d :: r, vs, h, f => by
    unfold DenL at h
    obtain ⟨v, ws, rfl, h1, h2⟩ := h
    rw [List.all_cons, Bool.and_eq_true] at f
    rw [List.all_cons, flat_den h1 f.1, flat_all h2 f.2]
    rfl
theorem flat_any {ρ : Addr → Nat} {S : Hp} {e : D} {u : V} (k : Den C ρ S e u) (g : flatD e = true) : ∀ {ds : List D} {vs : List V}, DenL C ρ S ds vs → ds.all flatD = true → inV u vs = ds.any (fun d => eqD0 d e)
  | [], vs, h, _ => by rw [denL_nil.mp h]; rfl
  | d :: r, vs, h, f => by
    unfold DenL at h
    obtain ⟨v, ws, rfl, h1, h2⟩ := h
    rw [List.all_cons, Bool.and_eq_true] at f
    have ih := flat_any k g h2 f.2
    unfold inV at ih ⊢
    rw [List.any_cons, List.any_cons, flat_eq h1 f.1 k g, ih]
def dIn (d : D) : D → Option Bool
  | .lst _ xs => if flatD d = true ∧ xs.all flatD = true then some (xs.any fun x => eqD0 x d) else if okd d 60 = true ∧ okdL xs 59 = true then some ((pyL xs).any fun z => PyData.eqv z d.py) else none
  | .tup xs => if flatD d = true ∧ xs.all flatD = true then some (xs.any fun x => eqD0 x d) else none
  | .str z => (match d with
    | .str x => (match x.cps.toList with
      | [c] => some (decide (c ∈ z.cps.toList))
      | _ => none)
    | _ => none)
  | _ => none
def sIn (d e : D) : Option Sl := match dIn d e with
  | some b => some (.sh (.bl b))
  | none => none
def sNin (d e : D) : Option Sl := match dIn d e with
  | some b => some (.sh (.bl (!b)))
  | none => none
def rInAll (K : PySem.W.Frag) : R2 := fun x y H Q => (rIn K false x y H Q ∨ rInD K x y H Q) ∨ ∃ (c : Nat) (z : Str), x = .str ⟨#[c]⟩ ∧ y = .str z ∧ Q (.bl (decide (c ∈ z.cps.toList))) H
def rNinAll (K : PySem.W.Frag) : R2 := fun x y H Q => (rIn K true x y H Q ∨ rNotInD K x y H Q) ∨ ∃ (c : Nat) (z : Str), x = .str ⟨#[c]⟩ ∧ y = .str z ∧ Q (.bl (!decide (c ∈ z.cps.toList))) H
theorem op_inAll {X : Cx} (hu : X.A.units + 65 < cLine) : OpR X (compareOp .In) (rInAll X.K) := (op_in_seq.or (op_inD hu)).or op_in_sign
theorem op_ninAll {X : Cx} (hu : X.A.units + 65 < cLine) : OpR X (compareOp .NotIn) (rNinAll X.K) := (op_notIn_seq.or (op_notInD hu)).or op_notIn_sign
theorem one_sign {x : Str} {c : Nat} (h : x.cps.toList = [c]) : x = ⟨#[c]⟩ := by
  cases x with
  | mk cps =>
    have : cps = #[c] := by
      apply Array.ext'
      simpa using h
    rw [this]
theorem snd_in_core {A : Act} {ρ : Addr → Nat} {S : Hp} {Γ : Env} {σ : St} {H : Hp} {x y : V} {d e : D} {b : Bool} (T : Sto C A ρ S Γ σ H) (hx : Den1 C ρ S H d x) (hy : Den1 C ρ S H e y) (hF : dIn d e = some b) :
    (∃ p xs, y = .ref p ∧ (SqL K H p xs ∨ SqT K H p xs) ∧ flatV x = true ∧ xs.all flatV = true ∧ inV x xs = b) ∨
    (∃ d ds, Dp K H x d ∧ Dp K H y (.list ds) ∧ SeqAt.shaped d = true ∧ SeqAt.shaped (.list ds) = true ∧ (ds.any fun z => PyData.eqv z d) = b) ∨
    ∃ (c : Nat) (z : Str), x = .str ⟨#[c]⟩ ∧ y = .str z ∧ decide (c ∈ z.cps.toList) = b := by
  have fx : flatD d = true → Den C ρ S d x := fun f => by
    cases d with
    | lst t xs => cases f
    | dct t ks xs => cases f
    | _ => exact hx
  cases e with
  | lst t xs =>
    have hF : (if flatD d = true ∧ xs.all flatD = true then some (xs.any fun x => eqD0 x d) else if okd d 60 = true ∧ okdL xs 59 = true then some ((pyL xs).any fun z => PyData.eqv z d.py) else none) = some b := hF
    obtain ⟨a, vs, rfl, _, ha, _, r⟩ := id hy
    split at hF
    · rename_i c
      cases hF
      exact .inl ⟨a, vs, rfl, .inl (SqL.of ha), flat_den (fx c.1) c.1, flat_all r c.2, flat_any (fx c.1) c.1 r c.2⟩
    · obtain ⟨c, rfl⟩ := if_some hF
      have ol : okd (.lst t xs) 60 = true := by unfold okd; exact c.2
      refine .inr (.inl ⟨d.py, pyL xs, den1_dp T.sub c.1 hx, ?_, okd_shaped c.1, ?_, rfl⟩)
      · have := den1_dp (K := K) T.sub ol hy
        unfold D.py at this
        exact this
      · have := okd_shaped ol
        unfold D.py at this
        exact this
  | tup xs =>
    obtain ⟨c, rfl⟩ := if_some (show (if flatD d = true ∧ xs.all flatD = true then some (xs.any fun x => eqD0 x d) else none) = some b from hF)
    obtain ⟨a, vs, rfl, ha, _, r⟩ := den1_tup hy
    exact .inl ⟨a, vs, rfl, .inr (SqT.of (T.sub _ _ ha)), flat_den (fx c.1) c.1, flat_all r c.2, flat_any (fx c.1) c.1 r c.2⟩
  | str z =>
    cases d with
    | str w =>
      have hF : (match w.cps.toList with | [c] => some (decide (c ∈ z.cps.toList)) | _ => none) = some b := hF
      split at hF
      · rename_i c ec
        cases hF
        refine .inr (.inr ⟨c, z, ?_, den1_str hy, rfl⟩)
        rw [den1_str hx, one_sign ec]
      · cases hF
    | _ => cases hF
  | _ => cases hF
theorem snd_in : Snd2 C (rInAll K) sIn := by
  intro A ρ S Γ σ H x y d e s Q T hx hy hF hQ
  unfold sIn at hF
  split at hF
  · rename_i b eb
    cases hF
    have q := hQ (.bl b) ρ S H Ext.refl T (.sh (den_bl.mpr rfl))
    rcases snd_in_core (K := K) T hx hy eb with ⟨p, xs, h1, h2, h3, h4, h5⟩ | ⟨d, ds, h1, h2, h3, h4, h5⟩ | ⟨c, z, h1, h2, h3⟩
    · exact .inl (.inl ⟨p, xs, h1, h2, h3, h4, by rw [h5]; exact q⟩)
    · exact .inl (.inr ⟨d, ds, h1, h2, h3, h4, by rw [h5]; exact q⟩)
    · exact .inr ⟨c, z, h1, h2, by rw [h3]; exact q⟩
  · cases hF
theorem snd_nin : Snd2 C (rNinAll K) sNin := by
  intro A ρ S Γ σ H x y d e s Q T hx hy hF hQ
  unfold sNin at hF
  split at hF
  · rename_i b eb
    cases hF
    have q := hQ (.bl (!b)) ρ S H Ext.refl T (.sh (den_bl.mpr rfl))
    rcases snd_in_core (K := K) T hx hy eb with ⟨p, xs, h1, h2, h3, h4, h5⟩ | ⟨d, ds, h1, h2, h3, h4, h5⟩ | ⟨c, z, h1, h2, h3⟩
    · exact .inl (.inl ⟨p, xs, h1, h2, h3, h4, by rw [h5]; exact q⟩)
    · exact .inl (.inr ⟨d, ds, h1, h2, h3, h4, by rw [h5]; exact q⟩)
    · exact .inr ⟨c, z, h1, h2, by rw [h3]; exact q⟩
  · cases hF

/-! ### is None -/
def isNon : D → Bool
  | .non => true
  | _ => false
theorem den_isnon {ρ : Addr → Nat} {S H : Hp} {d : D} {v : V} (h : Den1 C ρ S H d v) : decide (v = V.non) = isNon d := by
  cases d with
  | non => rw [den1_non h]; rfl
  | bl b => rw [den1_bl h]; rfl
  | int b => rw [den1_int h]; rfl
  | str b => rw [den1_str h]; rfl
  | lst t xs => obtain ⟨a, vs, rfl, _⟩ := h; rfl
  | dct t ks xs => obtain ⟨a, vs, rfl, _⟩ := h; rfl
  | tup xs => obtain ⟨a, vs, rfl, _⟩ := den1_tup h; rfl
  | ins c xs =>
    have h : Den C ρ S (.ins c xs) v := h
    unfold Den at h
    obtain ⟨_, a, dx, vs, rfl, _⟩ := h; rfl
  | exc c xs =>
    have h : Den C ρ S (.exc c xs) v := h
    unfold Den at h
    obtain ⟨_, a, dx, vs, rfl, _⟩ := h; rfl
  | scr ns =>
    have h : Den C ρ S (.scr ns) v := h
    unfold Den at h
    obtain ⟨a, rfl, _⟩ := h; rfl
def sIs (d : D) : D → Option Sl
  | .non => some (.sh (.bl (isNon d)))
  | _ => none
def sIsNot (d : D) : D → Option Sl
  | .non => some (.sh (.bl (!isNon d)))
  | _ => none
theorem snd_is : Snd2 C (fun x y H Q => y = .non ∧ Q (.bl (decide (x = .non))) H) sIs := by
  intro A ρ S Γ σ H x y d e s Q T hx hy hF hQ
  cases e with
  | non =>
    cases hF
    exact ⟨den1_non hy, hQ _ ρ S H Ext.refl T (.sh (den_bl.mpr (by rw [den_isnon hx])))⟩
  | _ => cases hF
theorem snd_isnot : Snd2 C (fun x y H Q => y = .non ∧ Q (.bl (!decide (x = .non))) H) sIsNot := by
  intro A ρ S Γ σ H x y d e s Q T hx hy hF hQ
  cases e with
  | non =>
    cases hF
    exact ⟨den1_non hy, hQ _ ρ S H Ext.refl T (.sh (den_bl.mpr (by rw [den_isnon hx])))⟩
  | _ => cases hF

/-! ### a[i] -/
def dIx : D → D → Option Sl
  | .lst _ xs, .int i => (match atI xs i with
    | some d => some (.sh d)
    | none => none)
  | .tup xs, .int i => (match atI xs i with
    | some d => some (.sh d)
    | none => none)
  | .str z, .int i => if z.length ≤ lim then (match atI z.cps.toList i with
    | some c => some (.sh (.str ⟨#[c]⟩))
    | none => none) else none
  | _, _ => none
theorem atI_den {ρ : Addr → Nat} {S : Hp} {ds : List D} {vs : List V} (h : DenL C ρ S ds vs) {i : Int} {d : D} (e : atI ds i = some d) : ∃ v, atI vs i = some v ∧ Den C ρ S d v := by
  unfold atI at e ⊢
  rw [h.length]
  cases q : ixN ds.length i with
  | none => rw [q] at e; cases e
  | some j =>
    rw [q] at e
    exact h.get j e
theorem snd_ix : Snd2 C (rIx K) dIx := by
  intro A ρ S Γ σ H x y d e s Q T hx hy hF hQ
  cases e with
  | int i =>
    have ey := den1_int hy
    subst ey
    cases d with
    | lst t xs =>
      have hF : (match atI xs i with | some d => some (Sl.sh d) | none => none) = some s := hF
      obtain ⟨a, vs, rfl, _, ha, _, r⟩ := hx
      split at hF
      · rename_i d' e'
        cases hF
        obtain ⟨v, h1, h2⟩ := atI_den r e'
        exact .inl ⟨a, vs, i, v, rfl, rfl, SqL.of ha, h1, hQ _ ρ S H Ext.refl T (.sh h2)⟩
      · cases hF
    | tup xs =>
      have hF : (match atI xs i with | some d => some (Sl.sh d) | none => none) = some s := hF
      obtain ⟨a, vs, rfl, ha, _, r⟩ := den1_tup hx
      split at hF
      · rename_i d' e'
        cases hF
        obtain ⟨v, h1, h2⟩ := atI_den r e'
        exact .inr (.inl ⟨a, vs, i, v, rfl, rfl, SqT.of (T.sub _ _ ha), h1, hQ _ ρ S H Ext.refl T (.sh h2)⟩)
      · cases hF
    | str z =>
      have hF : (if z.length ≤ lim then (match atI z.cps.toList i with | some c => some (Sl.sh (.str ⟨#[c]⟩)) | none => none) else none) = some s := hF
      split at hF
      · rename_i hl
        split at hF
        · rename_i c e'
          cases hF
          exact .inr (.inr ⟨z, i, c, den1_str hx, rfl, Nat.le_trans hl (Nat.le_of_lt lim_lt), e', hQ _ ρ S H Ext.refl T (.sh (den_str.mpr rfl))⟩)
        · cases hF
      · cases hF
    | _ => cases hF
  | _ => cases d <;> cases hF
end
end Ev

set_option Elab.async false
set_option linter.all false
set_option maxRecDepth 100000
set_option maxHeartbeats 4000000
namespace Ev
open PySem L2

/-! ### wrappers: BinOp, Compare, Subscript -/
section
variable {C : Cf} {P : Cx → Prop} {a b : Expr} {pos : Pos}
theorem ok_bin {op : Operator} {r : R2} {F : D → D → Option Sl} {f g : FD} (ho : ∀ X, P X → OpR X (binaryOp op) r) (hs : Snd2 C r F) (ha : OkD C P a f) (hb : OkO C P b g) : OkE C P (.BinOp a op b pos) (fOp2 F f g) :=
  ok_two hs ha hb fun X hX _ _ h k => pe_op (ho X hX) h k
theorem ok_cmp {op : CmpOp} {r : R2} {F : D → D → Option Sl} {f g : FD} (ho : ∀ X, P X → OpR X (compareOp op) r) (hs : Snd2 C r F) (ha : OkD C P a f) (hb : OkO C P b g) (hm : behindInMarks op b = false) : OkE C P (.Compare a [op] [b] pos) (fOp2 F f g) :=
  ok_two hs ha hb fun X hX _ _ h k => pe_cmpR (ho X hX) h k hm
theorem ok_cmpP {op : CmpOp} {r : R2} {F : D → D → Option Sl} {i : Nat} {x : Str} {p : Pos} {g : FD} (ho : ∀ X, P X → OpR X (compareOp op) r) (hs : Snd2 C r F) (hn : NameAt P i x)
    (hb : OkO C P b g) (hm : behindInMarks op b = false) : OkE C P (.Compare (.Name x p) [op] [b] pos) (fOp2P F i g) :=
  ok_twoP hs hn hb fun X hX _ _ h k => pe_cmpR (ho X hX) h k hm
theorem ok_twoT {op : CmpOp} {r : R2} {F : D → D → Option Sl} {f g : FD} (ho : ∀ X, P X → OpR X (compareOp op) r) (hs : Snd2 C r F) (ha : OkD C P a f) (hb : OkO C P b g) (hm : behindInMarks op b = false) : OkT C P (.Compare a [op] [b] pos) (fOp2 F f g).d.t := by
  obtain ⟨t, hp, k⟩ := ha
  obtain ⟨u, hq, l⟩ := hb
  refine ⟨_, fun X hX => pt_cmpR (ho X hX) (hp X hX) (hq X hX) hm, fun A ρ S Γ σ H Q c Γ' T hf hQ => ?_⟩
  obtain ⟨s, h0, h4⟩ := FE.d_some (FD.t_some hf)
  obtain ⟨d, e, Γ1, h1, h2, h3⟩ := fOp2_some h0
  refine k A ρ S Γ σ H _ d Γ1 T h1 fun v ρ1 S1 H1 E1 T1 d1 => ?_
  refine l A ρ1 S1 Γ1 σ H1 _ e Γ' T1 h2 fun u ρ2 S2 H2 E2 T2 d2 => ?_
  refine hs A ρ2 S2 Γ' σ H2 v u d e s _ T2 ((d1.mono E2).one T2.sub) d2 h3 fun z ρ3 S3 H3 E3 T3 r3 => ?_
  obtain ⟨S4, E4, T4, d4⟩ := T3.share r3 h4
  exact ⟨c, den_bl.mp d4, hQ ρ3 S4 H3 (((E1.trans E2).trans E3).trans E4) T4⟩
theorem ok_twoPT {op : CmpOp} {r : R2} {F : D → D → Option Sl} {i : Nat} {x : Str} {p : Pos} {g : FD} (ho : ∀ X, P X → OpR X (compareOp op) r) (hs : Snd2 C r F) (hn : NameAt P i x)
    (hb : OkO C P b g) (hm : behindInMarks op b = false) : OkT C P (.Compare (.Name x p) [op] [b] pos) (fOp2P F i g).d.t := by
  obtain ⟨u, hq, l⟩ := hb
  refine ⟨_, fun X hX => pt_cmpR (ho X hX) (hn.pe X hX) (hq X hX) hm, fun A ρ S Γ σ H Q c Γ' T hf hQ => ?_⟩
  obtain ⟨s, h00, h4⟩ := FE.d_some (FD.t_some hf)
  obtain ⟨d, e, d0, h0, h1, h2, h3⟩ := fOp2P_some h00
  obtain ⟨_, sl0, e01, e02⟩ := fSee_some h0
  obtain ⟨v, hv', _⟩ := T.see e01 e02
  refine ⟨v, hv', l A ρ S Γ σ H _ e Γ' T h1 fun z ρ2 S2 H2 E2 T2 d2 => ?_⟩
  obtain ⟨_, sl, e1, e2⟩ := fSee_some h2
  obtain ⟨v', h5, h6⟩ := T2.see e1 e2
  rw [hv'] at h5
  cases h5
  refine hs A ρ2 S2 Γ' σ H2 v z d e s _ T2 h6 d2 h3 fun z ρ3 S3 H3 E3 T3 r3 => ?_
  obtain ⟨S4, E4, T4, d4⟩ := T3.share r3 h4
  exact ⟨c, den_bl.mp d4, hQ ρ3 S4 H3 ((E2.trans E3).trans E4) T4⟩
theorem ok_sub {K : PySem.W.Frag} {f g : FD} (hK : ∀ X, P X → X.K = K) (ha : OkD C P a f) (hb : OkO C P b g) (hi : PlainIx b) : OkE C P (.Subscript a b pos) (fOp2 dIx f g) :=
  ok_two (snd_ix (K := K)) ha hb fun X hX _ _ h k => pe_ix (by rw [← hK X hX]; exact ix_seq) h k hi
theorem ok_subP {K : PySem.W.Frag} (hK : ∀ X, P X → X.K = K) {i : Nat} {x : Str} {p : Pos} {g : FD} (hn : NameAt P i x)
    (hb : OkO C P b g) (hi : PlainIx b) : OkE C P (.Subscript (.Name x p) b pos) (fOp2P dIx i g) :=
  ok_twoP (snd_ix (K := K)) hn hb fun X hX _ _ h k => pe_ix (by rw [← hK X hX]; exact ix_seq) h k hi

/-! ### a dict's item, in a dict -/
def D.key : D → Option Key
  | .int i => some (.inl i)
  | .str x => some (.inr x)
  | _ => none
def lookD : List Key → List D → Key → Option D
  | k :: ks, x :: xs, q => if k = q then some x else lookD ks xs q
  | _, _, _ => none
theorem key_den {ρ : Addr → Nat} {S H : Hp} {d : D} {v : V} {k : Key} (h : Den1 C ρ S H d v) (e : d.key = some k) : v = kV k := by
  cases d with
  | int i => cases e; exact den1_int h
  | str i => cases e; exact den1_str h
  | _ => cases e
theorem look_den {ρ : Addr → Nat} {S : Hp} {q : Key} : ∀ {ks : List Key} {xs : List D} {vs : List V}, ks.length = xs.length → DenL C ρ S xs vs →
    (∀ d, lookD ks xs q = some d → ∃ v, valV (ks.zip vs) q = some v ∧ Den C ρ S d v) ∧ (lookD ks xs q = none → valV (ks.zip vs) q = none)
  | [], [], vs, _, h => by
    rw [denL_nil.mp h]
    exact ⟨fun d e => (by cases e), fun _ => rfl⟩
  | [], _ :: _, _, hl, _ => by cases hl
  | _ :: _, [], _, hl, _ => by cases hl
  | k :: ks, x :: xs, vs, hl, h => by
    unfold DenL at h
    obtain ⟨v, r, rfl, h1, h2⟩ := h
    obtain ⟨i1, i2⟩ := look_den (q := q) (ks := ks) (xs := xs) (vs := r) (by simpa using hl) h2
    rw [List.zip_cons_cons]
    by_cases e : k = q
    · rw [valV_pos (by exact e)]
      refine ⟨fun d ed => ?_, fun ed => ?_⟩
      · have : lookD (k :: ks) (x :: xs) q = some x := if_pos e
        rw [this] at ed
        cases ed
        exact ⟨v, rfl, h1⟩
      · have : lookD (k :: ks) (x :: xs) q = some x := if_pos e
        rw [this] at ed
        cases ed
    · rw [valV_neg (by exact e)]
      have : lookD (k :: ks) (x :: xs) q = lookD ks xs q := if_neg e
      rw [this]
      exact ⟨i1, i2⟩
def dGet : D → D → Option Sl
  | .dct _ ks xs, d => (match d.key with
    | some k => (match lookD ks xs k with
      | some x => some (.sh x)
      | none => none)
    | none => none)
  | _, _ => none
def rDGet : R2 := fun x y H Q => ∃ a v, x = .ref a ∧ DGet H a y (some v) ∧ Q v H
theorem snd_dget : Snd2 C rDGet dGet := by
  intro A ρ S Γ σ H x y d e s Q T hx hy hF hQ
  cases d with
  | dct t ks xs =>
    have hF : (match e.key with | some k => (match lookD ks xs k with | some x => some (Sl.sh x) | none => none) | none => none) = some s := hF
    split at hF
    · rename_i k ek
      split at hF
      · rename_i z ez
        cases hF
        obtain ⟨a, vs, rfl, _, ha, _, hk, r⟩ := hx
        obtain ⟨v, h1, h2⟩ := (look_den hk r).1 z ez
        refine ⟨a, v, rfl, ?_, hQ _ ρ S H Ext.refl T (.sh h2)⟩
        rw [key_den hy ek, ← h1]
        exact DGet.k ha
      · cases hF
    · cases hF
  | _ => cases hF
theorem ok_dget {f g : FD} (hu : ∀ X, P X → X.A.units + 1 < cLine) (ha : OkD C P a f) (hb : OkO C P b g) (hi : NoSl b) : OkE C P (.Subscript a b pos) (fOp2 dGet f g) :=
  ok_two snd_dget ha hb fun X hX _ _ h k => pe_dget (hu X hX) h k hi
theorem ok_dgetP {i : Nat} {x : Str} {p : Pos} {g : FD} (hu : ∀ X, P X → X.A.units + 1 < cLine) (hn : NameAt P i x)
    (hb : OkO C P b g) (hi : NoSl b) : OkE C P (.Subscript (.Name x p) b pos) (fOp2P dGet i g) :=
  ok_twoP snd_dget hn hb fun X hX _ _ h k => pe_dget (hu X hX) h k hi
/-- k in d -/
def dHas (neg : Bool) (d : D) : D → Option Sl
  | .dct _ ks xs => (match d.key with
    | some k => some (.sh (.bl (if neg then (lookD ks xs k).isNone else (lookD ks xs k).isSome)))
    | none => none)
  | _ => none
def rDHas (neg : Bool) : R2 := fun y x H Q => ∃ a o, x = .ref a ∧ DGet H a y o ∧ Q (.bl (if neg then !o.isSome else o.isSome)) H
theorem snd_dhas (neg : Bool) : Snd2 C (rDHas neg) (dHas neg) := by
  intro A ρ S Γ σ H x y d e s Q T hx hy hF hQ
  cases e with
  | dct t ks xs =>
    have hF : (match d.key with | some k => some (Sl.sh (.bl (if neg then (lookD ks xs k).isNone else (lookD ks xs k).isSome))) | none => none) = some s := hF
    split at hF
    · rename_i k ek
      cases hF
      obtain ⟨a, vs, rfl, _, ha, _, hk, r⟩ := hy
      refine ⟨a, valV (ks.zip vs) k, rfl, ?_, hQ _ ρ S H Ext.refl T (.sh (den_bl.mpr ?_))⟩
      · rw [key_den hx ek]
        exact DGet.k ha
      · obtain ⟨i1, i2⟩ := look_den (q := k) hk r
        cases q : lookD ks xs k with
        | none => rw [i2 q]; cases neg <;> rfl
        | some z =>
          obtain ⟨v, h1, _⟩ := i1 z q
          rw [h1]; cases neg <;> rfl
    · cases hF
  | _ => cases hF
theorem ok_dhas {f g : FD} (hu : ∀ X, P X → X.A.units + 1 < cLine) (ha : OkD C P a f) (hb : OkO C P b g) (hm : behindInMarks .In b = false) : OkE C P (.Compare a [.In] [b] pos) (fOp2 (dHas false) f g) :=
  ok_two (snd_dhas false) ha hb fun X hX ta tb h k => pe_cmp (pc_din (hu X hX) h k) hm
theorem ok_twoT' {op : CmpOp} {r : R2} {F : D → D → Option Sl} {f g : FD} (hw : ∀ X, P X → ∀ ta tb, PE X a ta → PE X b tb → PT X (.Compare a [op] [b] pos) (tB (tOp r ta tb))) (hs : Snd2 C r F) (ha : OkD C P a f) (hb : OkO C P b g) : OkT C P (.Compare a [op] [b] pos) (fOp2 F f g).d.t := by
  obtain ⟨t, hp, k⟩ := ha
  obtain ⟨u, hq, l⟩ := hb
  refine ⟨_, fun X hX => hw X hX _ _ (hp X hX) (hq X hX), fun A ρ S Γ σ H Q c Γ' T hf hQ => ?_⟩
  obtain ⟨s, h0, h4⟩ := FE.d_some (FD.t_some hf)
  obtain ⟨d, e, Γ1, h1, h2, h3⟩ := fOp2_some h0
  refine k A ρ S Γ σ H _ d Γ1 T h1 fun v ρ1 S1 H1 E1 T1 d1 => ?_
  refine l A ρ1 S1 Γ1 σ H1 _ e Γ' T1 h2 fun u ρ2 S2 H2 E2 T2 d2 => ?_
  refine hs A ρ2 S2 Γ' σ H2 v u d e s _ T2 ((d1.mono E2).one T2.sub) d2 h3 fun z ρ3 S3 H3 E3 T3 r3 => ?_
  obtain ⟨S4, E4, T4, d4⟩ := T3.share r3 h4
  exact ⟨c, den_bl.mp d4, hQ ρ3 S4 H3 (((E1.trans E2).trans E3).trans E4) T4⟩
theorem okT_dhas {f g : FD} (hu : ∀ X, P X → X.A.units + 1 < cLine) (ha : OkD C P a f) (hb : OkO C P b g) (hm : behindInMarks .In b = false) : OkT C P (.Compare a [.In] [b] pos) (fOp2 (dHas false) f g).d.t :=
  ok_twoT' (fun X hX ta tb h k => pt_cmp (pc_din (hu X hX) h k) hm) (snd_dhas false) ha hb
theorem okT_dnhas {f g : FD} (hu : ∀ X, P X → X.A.units + 1 < cLine) (ha : OkD C P a f) (hb : OkO C P b g) (hm : behindInMarks .NotIn b = false) : OkT C P (.Compare a [.NotIn] [b] pos) (fOp2 (dHas true) f g).d.t :=
  ok_twoT' (fun X hX ta tb h k => pt_cmp (pc_dnotin (hu X hX) h k) hm) (snd_dhas true) ha hb

/-! ### one operand -/
def Snd1 (C : Cf) (r : List V → Hp → VK → Prop) (F : D → Option Sl) : Prop :=
  ∀ (A : Act) (ρ : Addr → Nat) (S : Hp) (Γ : Env) (σ : St) (H : Hp) (x : V) (d : D) (s : Sl) (Q : VK), Sto C A ρ S Γ σ H → Den1 C ρ S H d x → F d = some s →
    (∀ v ρ' S' H', Ext ρ S ρ' S' → Sto C A ρ' S' Γ σ H' → ResOk C A ρ' S' Γ σ H' s v → Q v H') → r [x] H Q
def fOp1 (F : D → Option Sl) (f : FD) : FE := fun Γ => match f Γ with
  | some (d, Γ1) => (match F d with
    | some s => some (s, Γ1)
    | none => none)
  | none => none
theorem fOp1_some {F : D → Option Sl} {f : FD} {Γ Γ' : Env} {s : Sl} (h : fOp1 F f Γ = some (s, Γ')) : ∃ d, f Γ = some (d, Γ') ∧ F d = some s := by
  unfold fOp1 at h
  split at h
  · rename_i d Γ1 e1
    split at h
    · rename_i s' e3
      cases h
      exact ⟨d, e1, e3⟩
    · cases h
  · cases h
theorem ok_one {r : List V → Hp → VK → Prop} {F : D → Option Sl} {f : FD} {w : Expr} (hs : Snd1 C r F) (ha : OkO C P a f) (hw : ∀ ta, (∀ X, P X → PE X a ta) → ∃ t, (∀ X, P X → PE X w t) ∧ ∀ σ H Q, ta σ H (fun x H1 => r [x] H1 Q) → t σ H Q) : OkE C P w (fOp1 F f) := by
  obtain ⟨t, hp, k⟩ := ha
  obtain ⟨t', hp', k'⟩ := hw t hp
  refine ⟨_, hp', fun A ρ S Γ σ H Q s Γ' T hf hQ => k' σ H Q ?_⟩
  obtain ⟨d, h1, h3⟩ := fOp1_some hf
  refine k A ρ S Γ σ H _ d Γ' T h1 fun v ρ1 S1 H1 E1 T1 d1 => ?_
  exact hs A ρ1 S1 Γ' σ H1 v d s Q T1 d1 h3 fun z ρ3 S3 H3 E3 T3 r3 => hQ z ρ3 S3 H3 (E1.trans E3) T3 r3
theorem ok_call1 {id : String} {x : Str} {p : Pos} {r : List V → Hp → VK → Prop} {F : D → Option Sl} {f : FD} (hc : ∀ X, P X → CallR X (.builtin id) r) (hs : Snd1 C r F) (hg : ∀ X, P X → Gl X x) (hm : ∀ X, P X → X.mg x = none) (hv : bootBuiltins x = some (.builtin id))
    (hn : x ≠ "__name__") (hdb : (x == ("__debug__" : Str)) = false) (hst : ∀ X, P X → starEach [a] X.env = [(false, eval a X.env)]) (ha : OkO C P a f) : OkE C P (.Call (.Name x p) [a] [] pos) (fOp1 F f) :=
  ok_one hs ha fun ta h => ⟨_, fun X hX => pe_callB (hc X hX) (hg X hX) (hm X hX) hv (pa_cons (h X hX) pa_nil (hst X hX)) hn hdb (hst X hX) rfl, fun _ _ _ q => q⟩
theorem ok_callT1 {ty : String} {x : Str} {p : Pos} {r : List V → Hp → VK → Prop} {F : D → Option Sl} {f : FD} (hc : ∀ X, P X → CallR X (.type ty) r) (hs : Snd1 C r F) (hg : ∀ X, P X → Gl X x) (hm : ∀ X, P X → X.mg x = none) (hv : bootBuiltins x = some (.type ty))
    (hn : x ≠ "__name__") (hdb : (x == ("__debug__" : Str)) = false) (hst : ∀ X, P X → starEach [a] X.env = [(false, eval a X.env)]) (ha : OkO C P a f) : OkE C P (.Call (.Name x p) [a] [] pos) (fOp1 F f) :=
  ok_one hs ha fun ta h => ⟨_, fun X hX => pe_callTy (hc X hX) (hg X hX) (hm X hX) hv (pa_cons (h X hX) pa_nil (hst X hX)) hn hdb (hst X hX) rfl, fun _ _ _ q => q⟩
theorem CallR_or {X : Cx} {f : Value} {r r' : List V → Hp → VK → Prop} (h : CallR X f r) (k : CallR X f r') : CallR X f (fun xs H Q => r xs H Q ∨ r' xs H Q) :=
  fun pins s σ H xs us Q I v q => q.elim (h pins s σ H xs us Q I v) (k pins s σ H xs us Q I v)
/-! len -/
def dLen : D → Option Sl
  | .lst _ xs => some (.sh (.int xs.length))
  | .tup xs => some (.sh (.int xs.length))
  | .str x => if x.length ≤ lim then some (.sh (.int x.length)) else none
  | .dct _ ks xs => some (.sh (.int xs.length))
  | .scr ns => some (.sh (.int ns.length))
  | _ => none
def rLenAll (K : PySem.W.Frag) : List V → Hp → VK → Prop := fun xs H Q => (∃ x n, xs = [x] ∧ LenV K x H n ∧ Q (.int n) H) ∨ ∃ a kvs, xs = [V.ref a] ∧ H a = some (.dK kvs) ∧ Q (.int kvs.length) H
theorem cr_lenAll {X : Cx} : CallR X (.builtin "len") (rLenAll X.K) := CallR_or call_len call_lenD
theorem snd_len {K : PySem.W.Frag} : Snd1 C (rLenAll K) dLen := by
  intro A ρ S Γ σ H x d s Q T hx hF hQ
  cases d with
  | lst t xs =>
    cases hF
    obtain ⟨a, vs, rfl, _, ha, _, r⟩ := hx
    exact .inl ⟨_, xs.length, rfl, .inl ⟨vs, SqL.of ha, r.length.symm⟩, hQ _ ρ S H Ext.refl T (.sh (den_int.mpr rfl))⟩
  | tup xs =>
    cases hF
    obtain ⟨a, vs, rfl, ha, _, r⟩ := den1_tup hx
    exact .inl ⟨_, xs.length, rfl, .inr ⟨vs, SqT.of (T.sub _ _ ha), r.length.symm⟩, hQ _ ρ S H Ext.refl T (.sh (den_int.mpr rfl))⟩
  | str z =>
    obtain ⟨c, rfl⟩ := if_some (show (if z.length ≤ lim then some (Sl.sh (.int z.length)) else none) = some s from hF)
    rw [den1_str hx]
    exact .inl ⟨_, z.length, rfl, ⟨Nat.le_trans c (Nat.le_of_lt lim_lt), rfl⟩, hQ _ ρ S H Ext.refl T (.sh (den_int.mpr rfl))⟩
  | dct t ks xs =>
    cases hF
    obtain ⟨a, vs, rfl, _, ha, _, hk, r⟩ := hx
    refine .inr ⟨a, _, rfl, ha, hQ _ ρ S H Ext.refl T (.sh (den_int.mpr ?_))⟩
    rw [List.length_zip, r.length, hk, Nat.min_self]
  | scr ns =>
    cases hF
    have hx : Den C ρ S (.scr ns) x := hx
    unfold Den at hx
    obtain ⟨a, rfl, ha⟩ := hx
    exact .inl ⟨_, ns.length, rfl, .inl ⟨_, .inl (T.sub.rd ha), by simp⟩, hQ _ ρ S H Ext.refl T (.sh (den_int.mpr rfl))⟩
  | _ => cases hF
/-! sum, max, min of ints -/
def intsOf : List D → Option (List Int)
  | [] => some []
  | .int i :: r => (match intsOf r with
    | some ns => some (i :: ns)
    | none => none)
  | _ :: _ => none
theorem intsOf_den {ρ : Addr → Nat} {S : Hp} : ∀ {ds : List D} {vs : List V} {ns : List Int}, DenL C ρ S ds vs → intsOf ds = some ns → vs = ns.map V.int
  | [], vs, ns, h, e => by cases e; rw [denL_nil.mp h]; rfl
  | d :: r, vs, ns, h, e => by
    unfold DenL at h
    obtain ⟨v, ws, rfl, h1, h2⟩ := h
    cases d with
    | int i =>
      have e : (match intsOf r with | some ns => some (i :: ns) | none => none) = some ns := e
      split at e
      · rename_i ms em
        cases e
        rw [den_int.mp h1, intsOf_den h2 em]
        rfl
      · cases e
    | _ => cases e
def dSum : D → Option Sl
  | .lst _ xs => (match intsOf xs with
    | some ns => some (.sh (.int ns.sum))
    | none => none)
  | _ => none
theorem snd_sum {K : PySem.W.Frag} : Snd1 C (rSum K) dSum := by
  intro A ρ S Γ σ H x d s Q T hx hF hQ
  cases d with
  | lst t xs =>
    have hF : (match intsOf xs with | some ns => some (Sl.sh (.int ns.sum)) | none => none) = some s := hF
    split at hF
    · rename_i ns en
      cases hF
      obtain ⟨a, vs, rfl, _, ha, _, r⟩ := hx
      exact ⟨a, ns, rfl, SqL.of (by rw [ha, intsOf_den r en]), hQ _ ρ S H Ext.refl T (.sh (den_int.mpr rfl))⟩
    · cases hF
  | _ => cases hF
def maxI : List Int → Option Int
  | [] => none
  | i :: r => (match maxI r with
    | none => some i
    | some m => some (if i < m then m else i))
def minI : List Int → Option Int
  | [] => none
  | i :: r => (match minI r with
    | none => some i
    | some m => some (if m < i then m else i))
theorem maxI_none : ∀ {ns : List Int}, maxI ns = none → ns = []
  | [], _ => rfl
  | i :: r, h => by
    have h : (match maxI r with | none => some i | some m => some (if i < m then m else i)) = none := h
    split at h <;> cases h
theorem minI_none : ∀ {ns : List Int}, minI ns = none → ns = []
  | [], _ => rfl
  | i :: r, h => by
    have h : (match minI r with | none => some i | some m => some (if m < i then m else i)) = none := h
    split at h <;> cases h
theorem maxI_ok : ∀ {ns : List Int} {m : Int}, maxI ns = some m → m ∈ ns ∧ ∀ y ∈ ns, y ≤ m
  | [], _, h => by cases h
  | i :: r, m, h => by
    have h : (match maxI r with | none => some i | some m => some (if i < m then m else i)) = some m := h
    split at h
    · rename_i e
      cases h
      rw [maxI_none e]
      exact ⟨by simp, fun y hy => by simp at hy; omega⟩
    · rename_i k e
      cases h
      obtain ⟨h1, h2⟩ := maxI_ok e
      by_cases c : i < k
      · rw [if_pos c]
        exact ⟨List.mem_cons_of_mem _ h1, fun y hy => by
          rcases List.mem_cons.mp hy with q | q
          · omega
          · exact h2 y q⟩
      · rw [if_neg c]
        exact ⟨by simp, fun y hy => by
          rcases List.mem_cons.mp hy with q | q
          · omega
          · have := h2 y q; omega⟩
theorem minI_ok : ∀ {ns : List Int} {m : Int}, minI ns = some m → m ∈ ns ∧ ∀ y ∈ ns, m ≤ y
  | [], _, h => by cases h
  | i :: r, m, h => by
    have h : (match minI r with | none => some i | some m => some (if m < i then m else i)) = some m := h
    split at h
    · rename_i e
      cases h
      rw [minI_none e]
      exact ⟨by simp, fun y hy => by simp at hy; omega⟩
    · rename_i k e
      cases h
      obtain ⟨h1, h2⟩ := minI_ok e
      by_cases c : k < i
      · rw [if_pos c]
        exact ⟨List.mem_cons_of_mem _ h1, fun y hy => by
          rcases List.mem_cons.mp hy with q | q
          · omega
          · exact h2 y q⟩
      · rw [if_neg c]
        exact ⟨by simp, fun y hy => by
          rcases List.mem_cons.mp hy with q | q
          · omega
          · have := h2 y q; omega⟩
def dMax : D → Option Sl
  | .lst _ xs => (match intsOf xs with
    | some ns => (match maxI ns with
      | some m => some (.sh (.int m))
      | none => none)
    | none => none)
  | _ => none
def dMin : D → Option Sl
  | .lst _ xs => (match intsOf xs with
    | some ns => (match minI ns with
      | some m => some (.sh (.int m))
      | none => none)
    | none => none)
  | _ => none
theorem snd_max {K : PySem.W.Frag} : Snd1 C (rMax K) dMax := by
  intro A ρ S Γ σ H x d s Q T hx hF hQ
  cases d with
  | lst t xs =>
    have hF : (match intsOf xs with | some ns => (match maxI ns with | some m => some (Sl.sh (.int m)) | none => none) | none => none) = some s := hF
    split at hF
    · rename_i ns en
      split at hF
      · rename_i m em
        cases hF
        obtain ⟨a, vs, rfl, _, ha, _, r⟩ := hx
        obtain ⟨h1, h2⟩ := maxI_ok em
        refine ⟨a, ns, rfl, SqL.of (by rw [ha, intsOf_den r en]), List.length_pos_of_mem h1, fun k hk hl => ?_⟩
        have e : k = m := Int.le_antisymm (h2 k hk) (hl m h1)
        rw [e]
        exact hQ _ ρ S H Ext.refl T (.sh (den_int.mpr rfl))
      · cases hF
    · cases hF
  | _ => cases hF
theorem snd_min {K : PySem.W.Frag} : Snd1 C (rMin K) dMin := by
  intro A ρ S Γ σ H x d s Q T hx hF hQ
  cases d with
  | lst t xs =>
    have hF : (match intsOf xs with | some ns => (match minI ns with | some m => some (Sl.sh (.int m)) | none => none) | none => none) = some s := hF
    split at hF
    · rename_i ns en
      split at hF
      · rename_i m em
        cases hF
        obtain ⟨a, vs, rfl, _, ha, _, r⟩ := hx
        obtain ⟨h1, h2⟩ := minI_ok em
        refine ⟨a, ns, rfl, SqL.of (by rw [ha, intsOf_den r en]), List.length_pos_of_mem h1, fun k hk hl => ?_⟩
        have e : k = m := Int.le_antisymm (hl m h1) (h2 k hk)
        rw [e]
        exact hQ _ ρ S H Ext.refl T (.sh (den_int.mpr rfl))
      · cases hF
    · cases hF
  | _ => cases hF
/-! list(x), tuple(x), int(x), abs(x), -x -/
def dList (g : Nat) : D → Option Sl
  | .lst _ xs => some (.own g xs)
  | .tup xs => some (.own g xs)
  | _ => none
theorem snd_list (g : Nat) {K : PySem.W.Frag} : Snd1 C (fun xs H Q => ∃ p ys, xs = [.ref p] ∧ (SqL K H p ys ∨ SqT K H p ys) ∧ ∀ l, H l = none → Q (.ref l) (upd H l (.lst ys))) (dList g) := by
  intro A ρ S Γ σ H x d s Q T hx hF hQ
  cases d with
  | lst t xs =>
    cases hF
    obtain ⟨a, vs, rfl, _, ha, hl, r⟩ := hx
    refine ⟨a, vs, rfl, .inl (SqL.of ha), fun p hp => ?_⟩
    obtain ⟨E2, T2, rr⟩ := new_lst T hp g hl r
    exact hQ _ _ _ _ E2 T2 rr
  | tup xs =>
    cases hF
    obtain ⟨a, vs, rfl, ha, hl, r⟩ := den1_tup hx
    refine ⟨a, vs, rfl, .inr (SqT.of (T.sub _ _ ha)), fun p hp => ?_⟩
    obtain ⟨E2, T2, rr⟩ := new_lst T hp g hl r
    exact hQ _ _ _ _ E2 T2 rr
  | _ => cases hF
def dTuple : D → Option Sl
  | .lst _ xs => some (.sh (.tup xs))
  | .tup xs => some (.sh (.tup xs))
  | _ => none
theorem snd_tuple {K : PySem.W.Frag} : Snd1 C (fun xs H Q => ∃ p ys, xs = [.ref p] ∧ ((SqL K H p ys ∧ ∀ l, H l = none → Q (.ref l) (upd H l (.tup ys))) ∨ (SqT K H p ys ∧ Q (.ref p) H))) dTuple := by
  intro A ρ S Γ σ H x d s Q T hx hF hQ
  cases d with
  | lst t xs =>
    cases hF
    obtain ⟨a, vs, rfl, _, ha, hl, r⟩ := hx
    refine ⟨a, vs, rfl, .inl ⟨SqL.of ha, fun p hp => ?_⟩⟩
    obtain ⟨T2, E2, sp, h0, hn⟩ := T.lay hp (.tup vs) 0
    obtain ⟨T3, E3⟩ := T2.pub upd_same sp (.inl h0) hn
    refine hQ _ _ _ _ (E2.trans E3) T3 (.sh ?_)
    unfold Den
    exact ⟨p, _, rfl, upd_same, hl, r.mono (E2.trans E3)⟩
  | tup xs =>
    cases hF
    have hx' : Den C ρ S (.tup xs) x := hx
    obtain ⟨a, vs, rfl, ha, hl, r⟩ := den1_tup hx
    exact ⟨a, vs, rfl, .inr ⟨SqT.of (T.sub _ _ ha), hQ _ ρ S H Ext.refl T (.sh hx')⟩⟩
  | _ => cases hF
def dNeg : D → Option Sl
  | .int i => some (.sh (.int (-i)))
  | _ => none
theorem ok_neg {f : FD} (ha : OkO C P a f) : OkE C P (.UnaryOp .USub a pos) (fOp1 dNeg f) := by
  refine ok_one (r := fun xs H Q => ∃ i, xs = [.int i] ∧ Q (.int (-i)) H) ?_ ha fun ta h => ⟨_, fun X hX => pe_un un_neg (h X hX), ?_⟩
  · intro A ρ S Γ σ H x d s Q T hx hF hQ
    cases d with
    | int i => cases hF; rw [den1_int hx]; exact ⟨i, rfl, hQ _ ρ S H Ext.refl T (.sh (den_int.mpr rfl))⟩
    | _ => cases hF
  · intro σ H Q q
    show ta σ H fun x H1 => ∃ i, x = .int i ∧ Q (.int (-i)) H1
    have e : (fun (x : V) (H1 : Hp) => ∃ i, [x] = [V.int i] ∧ Q (.int (-i)) H1) = fun x H1 => ∃ i, x = .int i ∧ Q (.int (-i)) H1 := by
      funext x H1
      apply propext
      exact ⟨fun ⟨i, e, q⟩ => ⟨i, by simpa using e, q⟩, fun ⟨i, e, q⟩ => ⟨i, by rw [e], q⟩⟩
    rw [← e]
    exact q
end
end Ev

set_option Elab.async false
set_option linter.all false
set_option maxRecDepth 100000
set_option maxHeartbeats 4000000
namespace Ev
open PySem L2

/-! ### snapshots -/
def ownL (Γ : Env) (σ : St) : List Addr := (List.range Γ.length).filterMap fun i => match Γ[i]?, σ[i]?.join with
  | some s, some (V.ref a) => if s.isOwn = true then some a else none
  | _, _ => none
theorem mem_ownL {Γ : Env} {σ : St} {a : Addr} : a ∈ ownL Γ σ ↔ ∃ i, OwnAt Γ σ i a := by
  unfold ownL
  rw [List.mem_filterMap]
  constructor
  · rintro ⟨i, _, h⟩
    split at h
    · rename_i s b e1 e2
      split at h
      · rename_i hs
        cases h
        exact ⟨i, s, e1, hs, e2⟩
      · cases h
    · cases h
  · rintro ⟨i, s, e1, hs, e2⟩
    refine ⟨i, List.mem_range.mpr (List.getElem?_eq_some_iff.mp e1).1, ?_⟩
    rw [e1, e2]
    exact if_pos hs
def snap (A : Act) (ρ : Addr → Nat) (S : Hp) (Γ : Env) (σ : St) (H : Hp) : Act := ⟨ρ, S, H, ownL Γ σ, A.b⟩
section
variable {C : Cf} {A : Act} {ρ ρ' : Addr → Nat} {S S' : Hp} {Γ Γ' : Env} {σ σ' : St} {H H' : Hp}
theorem SlOk.act {A' : Act} {s : Sl} {o : Option V} (h : SlOk C A ρ S H s o) (hb : A'.b = A.b) (hk : ∀ a, o = some (.ref a) → s.isOwn = true → (A.H0 a = none ∨ a ∈ A.M) → (A'.H0 a = none ∨ a ∈ A'.M)) : SlOk C A' ρ S H s o := by
  cases s with
  | non => trivial
  | sh d => exact h
  | own t xs =>
    obtain ⟨a, vs, e, ht, h1, h2, hl, r, h3⟩ := h
    exact ⟨a, vs, e, ht, h1, h2, hl, r, hk a e rfl h3⟩
  | ownD t ks xs =>
    obtain ⟨a, vs, e, ht, h1, h2, hl, hq, r, h3⟩ := h
    exact ⟨a, vs, e, ht, h1, h2, hl, hq, r, hk a e rfl h3⟩
  | bor t xs =>
    obtain ⟨a, vs, e, ht, h1, h2, hl, r, h3, h4⟩ := h
    exact ⟨a, vs, e, ht, h1, h2, hl, r, hk a e rfl h3, hb.trans h4⟩
  | ini c xs =>
    obtain ⟨a, dx, vs, e, h1, h2, hl, r, h3, h4⟩ := h
    exact ⟨a, dx, vs, e, h1, h2, hl, r, hk a e rfl h3, hb.trans h4⟩
theorem Sto.snap (T : Sto C A ρ S Γ σ H) : Sto C (snap A ρ S Γ σ H) ρ S Γ σ H :=
  ⟨T.sub, T.len, fun i s e => (T.slot i s e).act rfl fun a eo hs _ => .inr (mem_ownL.mpr ⟨i, s, e, hs, eo⟩), T.sep, fun _ _ e _ => e, Ext.refl, fun _ _ e => .inl e, fun _ _ _ => rfl, fun a o e => by rw [show H a = some o from e]; exact fun q => by cases q⟩
theorem Sto.back (T : Sto C A ρ S Γ σ H) (T' : Sto C (Ev.snap A ρ S Γ σ H) ρ' S' Γ' σ' H') : Sto C A ρ' S' Γ' σ' H' := by
  have key : ∀ a, (H a = none ∨ a ∈ ownL Γ σ) → (A.H0 a = none ∨ a ∈ A.M) := fun a h => by
    rcases h with h | h
    · exact .inl (T.new h)
    · obtain ⟨i, q⟩ := mem_ownL.mp h
      obtain ⟨_, _, _, k⟩ := T.own q
      exact k
  refine ⟨T'.sub, T'.len, fun i s e => (T'.slot i s e).act rfl fun a _ _ h => key a h, T'.sep, fun a o e hm => ?_, T.ext0.trans T'.ext0, fun a o e => ?_, fun a o e => ?_, fun a o e => ?_⟩
  · refine T'.frame a o (T.frame a o e hm) fun q => ?_
    rcases key a (.inr q) with h | h
    · rw [h] at e; cases e
    · exact hm h
  · rcases T'.news a o e with h | h
    · exact T.news a o h
    · exact .inr (key a h)
  · cases q : H a with
    | none => exact absurd q (T.old a o e)
    | some u => exact (T'.rho a u q).trans (T.rho a o e)
  · cases q : H a with
    | none => exact absurd q (T.old a o e)
    | some u => exact T'.old a u q
/-- an object that no slot owns stands aside -/
structure Aside (S : Hp) (Γ : Env) (σ : St) (H : Hp) (p : Addr) (o : HO) : Prop where
  at_ : H p = some o
  ns : S p = none
  no : ∀ i, ¬ OwnAt Γ σ i p
theorem Aside.keep {p : Addr} {o : HO} (h : Aside S Γ σ H p o) (T' : Sto C (Ev.snap A ρ S Γ σ H) ρ' S' Γ' σ' H') : Aside S' Γ' σ' H' p o ∧ ρ' p = ρ p := by
  have nm : p ∉ ownL Γ σ := fun q => by
    obtain ⟨i, k⟩ := mem_ownL.mp q
    exact h.no i k
  refine ⟨⟨T'.frame p o h.at_ nm, ?_, fun i q => ?_⟩, T'.rho p o h.at_⟩
  · cases e : S' p with
    | none => rfl
    | some u =>
      rcases T'.news p u e with k | k | k
      · have q := h.ns; rw [show S p = some u from k] at q; cases q
      · have q := h.at_; rw [show H p = none from k] at q; cases q
      · exact absurd k nm
  · obtain ⟨_, _, _, k⟩ := T'.own q
    rcases k with k | k
    · have q := h.at_; rw [show H p = none from k] at q; cases q
    · exact nm k
theorem Sto.putA (T : Sto C A ρ S Γ σ H) {p : Addr} {o : HO} (h : Aside S Γ σ H p o) (h0 : A.H0 p = none) (o' : HO) : Sto C A ρ S Γ σ (upd H p o') ∧ Aside S Γ σ (upd H p o') p o' := by
  refine ⟨⟨fun a u e => ?_, T.len, fun i s e => ?_, T.sep, fun a u e hm => ?_, T.ext0, T.news, T.rho, fun a u e => ?_⟩, ⟨upd_same, h.ns, h.no⟩⟩
  · have na : a ≠ p := fun q => by subst q; rw [h.ns] at e; cases e
    rw [upd_ne na]
    exact T.sub a u e
  · refine (T.slot i s e).go Ext.refl fun a u eo hs ha => ?_
    have oa : OwnAt Γ σ i a := ⟨s, e, hs, eo⟩
    have na : a ≠ p := fun q => by subst q; exact h.no i oa
    obtain ⟨_, _, k, _⟩ := T.own oa
    exact ⟨by rw [upd_ne na]; exact ha, k, rfl⟩
  · have na : a ≠ p := fun q => by subst q; rw [h0] at e; cases e
    rw [upd_ne na]
    exact T.frame a u e hm
  · have na : a ≠ p := fun q => by subst q; rw [h0] at e; cases e
    rw [upd_ne na]
    exact T.old a u e
/-- slots wiped -/
def wipeG (Γ : Env) : List Nat → Env
  | [] => Γ
  | v :: vs => (wipeG Γ vs).set v .non
theorem Sto.drop1 (T : Sto C A ρ S Γ σ H) (i : Nat) : Sto C A ρ S (Γ.set i .non) (σ.set i none) H := by
  have T1 := T.forget i
  have same : ∀ (j : Nat) (s : Sl), (Γ.set i .non)[j]? = some s → s ≠ .non → (σ.set i none)[j]?.join = σ[j]?.join := fun j s e hs => by
    rcases get_set e with ⟨_, rfl, _⟩ | ⟨ne, _⟩
    · exact absurd rfl hs
    · rw [List.getElem?_set, if_neg ne]
  have ow : ∀ j a, OwnAt (Γ.set i .non) (σ.set i none) j a → OwnAt (Γ.set i .non) σ j a := fun j a ⟨s, e, hs, eo⟩ =>
    ⟨s, e, hs, by rw [← same j s e (by intro q; subst q; cases hs)]; exact eo⟩
  refine ⟨T1.sub, by rw [List.length_set, List.length_set]; exact T.len, fun j s e => ?_, fun j k a ne hj hk => T1.sep j k a ne (ow _ _ hj) (ow _ _ hk), T1.frame, T1.ext0, T1.news, T1.rho, T1.old⟩
  by_cases hs : s = .non
  · subst hs; trivial
  · rw [same j s e hs]
    exact T1.slot j s e
theorem Sto.wipe (T : Sto C A ρ S Γ σ H) : ∀ vs : List Nat, Sto C A ρ S (wipeG Γ vs) (L2.wipe σ vs) H
  | [] => T
  | v :: vs => (Sto.wipe T vs).drop1 v
theorem wipeG_in {Γ : Env} {i : Nat} {s : Sl} : ∀ {vs : List Nat}, (wipeG Γ vs)[i]? = some s → i ∈ vs → s = .non
  | [], _, h => by cases h
  | v :: vs, e, h => by
    unfold wipeG at e
    rcases get_set e with ⟨_, e2, _⟩ | ⟨ne, e⟩
    · exact e2
    · rcases List.mem_cons.mp h with q | q
      · exact absurd q.symm ne
      · exact wipeG_in e q
theorem wipe_out {i : Nat} : ∀ {vs : List Nat}, i ∉ vs → (L2.wipe σ vs)[i]? = σ[i]?
  | [], _ => rfl
  | v :: vs, h => by
    unfold L2.wipe
    rw [List.getElem?_set, if_neg (fun q => h (by rw [q]; simp)), wipe_out fun q => h (List.mem_cons_of_mem _ q)]
theorem wipe_in {i : Nat} : ∀ {vs : List Nat}, i ∈ vs → (L2.wipe σ vs)[i]?.join = none
  | [], h => by cases h
  | v :: vs, h => by
    unfold L2.wipe
    rw [List.getElem?_set]
    by_cases e : v = i
    · rw [if_pos e]
      split <;> rfl
    · rw [if_neg e]
      rcases List.mem_cons.mp h with q | q
      · exact absurd q.symm e
      · exact wipe_in q
/-- behind a comprehension: its own slots are unknown -/
theorem Sto.unwipe {vs : List Nat} (T : Sto C A ρ S Γ (L2.wipe σ vs) H) (hn : ∀ (i : Nat) (s : Sl), Γ[i]? = some s → i ∈ vs → s = .non) : Sto C A ρ S Γ σ H := by
  have ow : ∀ j a, OwnAt Γ σ j a → OwnAt Γ (L2.wipe σ vs) j a := fun j a ⟨s, e, hs, eo⟩ => by
    have hj : j ∉ vs := fun q => by rw [hn j s e q] at hs; cases hs
    exact ⟨s, e, hs, by rw [wipe_out hj]; exact eo⟩
  refine ⟨T.sub, by rw [T.len, L2.wipe_length], fun j s e => ?_, fun j k a ne hj hk => T.sep j k a ne (ow _ _ hj) (ow _ _ hk), T.frame, T.ext0, T.news, T.rho, T.old⟩
  by_cases hj : j ∈ vs
  · rw [hn j s e hj]; trivial
  · rw [← wipe_out (σ := σ) hj]
    exact T.slot j s e
end

/-! ### targets -/
def Sames (ts : List Nat) (σ σ' : St) : Prop := σ'.length = σ.length ∧ ∀ j, j ∉ ts → σ'[j]? = σ[j]?
theorem Sames.wipe {ts vs : List Nat} {σ σ' : St} (h : Sames ts σ σ') (hs : ∀ i ∈ ts, i ∈ vs) : L2.wipe σ' vs = L2.wipe σ vs := by
  have hjn : ∀ (τ : St) (j : Nat), j ∈ vs → j < τ.length → (L2.wipe τ vs)[j]? = some none := fun τ j hj hl => by
    have := wipe_in (σ := τ) hj
    have hl' : j < (L2.wipe τ vs).length := by rw [L2.wipe_length]; exact hl
    rw [List.getElem?_eq_getElem hl'] at this ⊢
    exact congrArg some this
  apply List.ext_getElem?
  intro j
  by_cases hj : j ∈ vs
  · by_cases hl : j < σ.length
    · rw [hjn σ j hj hl, hjn σ' j hj (by rw [h.1]; exact hl)]
    · rw [List.getElem?_eq_none (by rw [L2.wipe_length, h.1]; omega), List.getElem?_eq_none (by rw [L2.wipe_length]; omega)]
  · rw [wipe_out hj, wipe_out hj]
    exact h.2 j fun q => hj (hs j q)
abbrev FG := D → Env → Option Env
def OkG (C : Cf) (P : Cx → Prop) (tg : Expr) (ts : List Nat) (f : FG) : Prop := ∃ g : TG, (∀ X, P X → PG X tg g) ∧
  ∀ (A : Act) (ρ : Addr → Nat) (S : Hp) (Γ : Env) (σ : St) (H : Hp) (v : V) (d : D) (Γ' : Env) (Q : St → Hp → Prop), Sto C A ρ S Γ σ H → Den C ρ S d v → f d Γ = some Γ' →
    (∀ σ', Sto C A ρ S Γ' σ' H → Sames ts σ σ' → Q σ' H) → g v σ H Q
def gNam (i : Nat) : FG := fun d Γ => some (Γ.set i (.sh d))
structure StoreAt (P : Cx → Prop) (i : Nat) (x : Str) : Prop where
  nd : ∀ X, P X → X.N.Nodup
  hN : ∀ X, P X → X.N[i]? = some x
  hx : ∀ X, P X → Loc X.env.scope x
  hf : ∀ X, P X → (X.fn x = true ∨ X.env.scope.names.lookup x = some .local)
section
variable {C : Cf} {P : Cx → Prop}
theorem ok_gname {i : Nat} {x : Str} {pos : Pos} (h : StoreAt P i x) : OkG C P (.Name x pos) [i] (gNam i) := by
  refine ⟨_, fun X hX => pg_name (h.nd X hX) (h.hN X hX) (h.hx X hX) (h.hf X hX), fun A ρ S Γ σ H v d Γ' Q T hd hf hQ => ?_⟩
  cases hf
  refine hQ _ (T.assign (ResOk.sh hd) i) ⟨List.length_set, fun j hj => ?_⟩
  rw [List.getElem?_set, if_neg (fun q => hj (by rw [q]; simp))]
/-- a, b, .. = (a tuple) -/
def gNams : List Nat → List D → Env → Option Env
  | [], [], Γ => some Γ
  | i :: is, d :: ds, Γ => gNams is ds (Γ.set i (.sh d))
  | _, _, _ => none
def gTupN (is : List Nat) : FG := fun d Γ => match d with
  | .tup ds => gNams is ds Γ
  | _ => none
theorem gNams_len : ∀ {is : List Nat} {ds : List D} {Γ Γ' : Env}, gNams is ds Γ = some Γ' → is.length = ds.length
  | [], [], _, _, _ => rfl
  | [], _ :: _, _, _, h => by cases h
  | _ :: _, [], _, _, h => by cases h
  | i :: is, d :: ds, Γ, Γ', h => by rw [List.length_cons, List.length_cons, gNams_len (show gNams is ds (Γ.set i (.sh d)) = some Γ' from h)]
inductive Stores (P : Cx → Prop) : List Nat → List Expr → Prop where
  | nil : Stores P [] []
  | cons {i : Nat} {x : Str} {pos : Pos} {is : List Nat} {es : List Expr} (h : StoreAt P i x) (r : Stores P is es) : Stores P (i :: is) (.Name x pos :: es)
theorem ok_gnames {is : List Nat} {es : List Expr} (h : Stores P is es) : ∃ g : TGs, (∀ X, P X → PGs X es g ∧ (assignEach es X.env).length = is.length ∧ (assignEach es X.env).findIdx? (·.1) = none) ∧
    ∀ (A : Act) (ρ : Addr → Nat) (S : Hp) (Γ : Env) (σ : St) (H : Hp) (vs : List V) (ds : List D) (Γ' : Env) (Q : St → Hp → Prop), Sto C A ρ S Γ σ H → DenL C ρ S ds vs → gNams is ds Γ = some Γ' →
      (∀ σ', Sto C A ρ S Γ' σ' H → Sames is σ σ' → Q σ' H) → g vs σ H Q := by
  induction h with
  | nil =>
    refine ⟨_, fun X hX => ⟨pgs_nil, rfl, rfl⟩, fun A ρ S Γ σ H vs ds Γ' Q T hd hf hQ => ?_⟩
    cases ds with
    | nil =>
      cases hf
      exact ⟨denL_nil.mp hd, hQ σ T ⟨rfl, fun _ _ => rfl⟩⟩
    | cons d ds => cases hf
  | @cons i x pos is es h r ih =>
    obtain ⟨g, hg, k⟩ := ih
    refine ⟨_, fun X hX => ⟨pgs_cons (pg_name (h.nd X hX) (h.hN X hX) (h.hx X hX) (h.hf X hX)) (hg X hX).1 rfl, ?_, ?_⟩, fun A ρ S Γ σ H vs ds Γ' Q T hd hf hQ => ?_⟩
    · show (assignEach es X.env).length + 1 = is.length + 1
      rw [(hg X hX).2.1]
    · have e := (hg X hX).2.2
      show ((false, assign (.Name x pos) X.env) :: assignEach es X.env).findIdx? (·.1) = none
      rw [List.findIdx?_cons]
      simp [e]
    · cases ds with
      | nil => cases hf
      | cons d ds =>
        unfold DenL at hd
        obtain ⟨v, ws, rfl, h1, h2⟩ := hd
        refine ⟨v, ws, rfl, ?_⟩
        show g ws (σ.set i (some v)) H Q
        refine k A ρ S (Γ.set i (.sh d)) (σ.set i (some v)) H ws ds Γ' Q (T.assign (ResOk.sh h1) i) h2 hf fun σ' T' hs => hQ σ' T' ⟨by rw [hs.1, List.length_set], fun j hj => ?_⟩
        rw [hs.2 j fun q => hj (List.mem_cons_of_mem _ q), List.getElem?_set, if_neg (fun q => hj (by rw [q]; simp))]
theorem ok_gtup {K : PySem.W.Frag} {is : List Nat} {es : List Expr} {kk : Nat} {pos : Pos} (hK : ∀ X, P X → X.K = K) (hc : ∀ X, P X → X.calm = true) (h : Stores P is es) : OkG C P (.Tuple es kk pos) is (gTupN is) := by
  obtain ⟨g, hg, k⟩ := ok_gnames (C := C) h
  refine ⟨gTup K is.length g, fun X hX => by rw [← hK X hX]; exact pg_tup (hc X hX) (hg X hX).1 (hg X hX).2.1 (hg X hX).2.2, fun A ρ S Γ σ H v d Γ' Q T hd hf hQ => ?_⟩
  cases d with
  | tup ds =>
    unfold Den at hd
    obtain ⟨a, vs, rfl, ha, _, r⟩ := hd
    exact ⟨a, vs, rfl, SqT.of (T.sub _ _ ha), by rw [r.length, gNams_len hf], k A ρ S Γ σ H vs ds Γ' Q T r hf hQ⟩
  | _ => cases hf
end
end Ev

set_option Elab.async false
set_option linter.all false
set_option maxRecDepth 100000
set_option maxHeartbeats 4000000
namespace Ev
open PySem L2

/-! ### what is walked -/
def Walks (C : Cf) (J : It) (ds : List D) (ρ0 : Addr → Nat) (S0 : Hp) : Prop :=
  ds.length ≤ lim ∧ ∀ (A : Act) (ρ : Addr → Nat) (S : Hp) (Γ : Env) (σ : St) (H : Hp), Sto C A ρ S Γ σ H → Ext ρ0 S0 ρ S → ∀ i : Nat,
    (∀ d, ds[i]? = some d → J.go i H ∧ ∀ x H', J.yld i H x H' → ∃ ρ' S', Ext ρ S ρ' S' ∧ Sto C A ρ' S' Γ σ H' ∧ Den C ρ' S' d x) ∧ (ds.length ≤ i → J.stop i H)
def OkI (C : Cf) (P : Cx → Prop) (tg iter : Expr) (f : FL) : Prop := ∃ wi : TI, (∀ X, P X → PI X tg iter wi) ∧
  ∀ (A : Act) (ρ : Addr → Nat) (S : Hp) (Γ : Env) (σ : St) (H : Hp) (R : It → Hp → Prop) (ds : List D) (Γ' : Env), Sto C A ρ S Γ σ H → f Γ = some (ds, Γ') →
    (∀ J ρ' S' H', Ext ρ S ρ' S' → Sto C A ρ' S' Γ' σ H' → Walks C J ds ρ' S' → R J H') → wi σ H R
theorem PI_or {X : Cx} {tg e : Expr} {t u : TI} (h : PI X tg e t) (k : PI X tg e u) : PI X tg e (fun σ H R => t σ H R ∨ u σ H R) :=
  ⟨fun pins s σ H R I q => q.elim (h.run pins s σ H R I) (k.run pins s σ H R I)⟩
def signs (x : Str) : List D := x.cps.toList.map fun c => .str ⟨#[c]⟩
def seqOf : D → Option (List D)
  | .lst _ xs => some xs
  | .tup xs => some xs
  | .str x => if x.length ≤ lim then some (signs x) else none
  | _ => none
def fSeq (f : FD) : FL := fun Γ => match f Γ with
  | some (d, Γ1) => (match seqOf d with
    | some xs => some (xs, Γ1)
    | none => none)
  | none => none
section
variable {C : Cf} {P : Cx → Prop} {tg e : Expr} {K : PySem.W.Frag}
theorem fSeq_some {f : FD} {Γ Γ' : Env} {ds : List D} (h : fSeq f Γ = some (ds, Γ')) : ∃ d, f Γ = some (d, Γ') ∧ seqOf d = some ds := by
  unfold fSeq at h
  split at h
  · rename_i d Γ1 e1
    split at h
    · rename_i xs e2
      cases h
      exact ⟨d, e1, e2⟩
    · cases h
  · cases h
theorem walks_lst {t : Nat} {xs : List D} {a : Addr} {vs : List V} {ρ : Addr → Nat} {S : Hp} (ha : S a = some (.lst vs)) (hl : xs.length ≤ lim) (r : DenL C ρ S xs vs) : Walks C (Itl K a) xs ρ S := by
  refine ⟨hl, fun A ρ1 S1 Γ σ H T E i => ⟨fun d e => ?_, fun h => ⟨vs, SqL.of (T.sub _ _ (E.sub _ _ ha)), by rw [r.length]; exact h⟩⟩⟩
  obtain ⟨v, h1, h2⟩ := r.get i e
  have q : SqL K H a vs := SqL.of (T.sub _ _ (E.sub _ _ ha))
  refine ⟨⟨vs, v, q, h1⟩, fun x H' y => ?_⟩
  obtain ⟨e1, y⟩ := y
  subst e1
  have := y vs q
  rw [h1] at this
  cases this
  exact ⟨ρ1, S1, Ext.refl, T, h2.mono E⟩
theorem walks_tup {xs : List D} {a : Addr} {vs : List V} {ρ : Addr → Nat} {S : Hp} (ha : S a = some (.tup vs)) (hl : xs.length ≤ lim) (r : DenL C ρ S xs vs) : Walks C (Itt K a) xs ρ S := by
  refine ⟨hl, fun A ρ1 S1 Γ σ H T E i => ⟨fun d e => ?_, fun h => ⟨vs, SqT.of (T.sub _ _ (E.sub _ _ ha)), by rw [r.length]; exact h⟩⟩⟩
  obtain ⟨v, h1, h2⟩ := r.get i e
  have q : SqT K H a vs := SqT.of (T.sub _ _ (E.sub _ _ ha))
  refine ⟨⟨vs, v, q, h1⟩, fun x H' y => ?_⟩
  obtain ⟨e1, y⟩ := y
  subst e1
  have := y vs q
  rw [h1] at this
  cases this
  exact ⟨ρ1, S1, Ext.refl, T, h2.mono E⟩
theorem walks_str {x : Str} {ρ : Addr → Nat} {S : Hp} (hl : x.length ≤ lim) : Walks C (Its x) (signs x) ρ S := by
  have hz : (signs x).length = x.cps.size := by unfold signs; rw [List.length_map, Array.length_toList]
  refine ⟨by rw [hz]; exact hl, fun A ρ1 S1 Γ σ H T E i => ⟨fun d e => ?_, fun h => by rw [hz] at h; exact h⟩⟩
  have hi : i < x.cps.size := by
    have := (List.getElem?_eq_some_iff.mp e).1
    rw [hz] at this
    exact this
  refine ⟨hi, fun v H' y => ?_⟩
  obtain ⟨e1, c, h1, h2⟩ := y
  subst e1 h2
  have e2 : (signs x)[i]? = some (.str ⟨#[c]⟩) := by
    unfold signs
    rw [List.getElem?_map, Array.getElem?_toList, h1]
    rfl
  rw [e2] at e
  cases e
  exact ⟨ρ1, S1, Ext.refl, T, den_str.mpr rfl⟩
theorem ok_seq {f : FD} (hK : ∀ X, P X → X.K = K) (h : OkD C P e f) : OkI C P tg e (fSeq f) := by
  obtain ⟨t, hp, k⟩ := h
  refine ⟨_, fun X hX => PI_or (PI_or (by have := pi_list (tg := tg) (hp X hX); rw [hK X hX] at this; exact this) (by have := pi_tup (tg := tg) (hp X hX); rw [hK X hX] at this; exact this)) (pi_str (hp X hX)), fun A ρ S Γ σ H R ds Γ' T hf hR => ?_⟩
  obtain ⟨d, h1, h2⟩ := fSeq_some hf
  cases d with
  | lst u xs =>
    cases h2
    refine .inl (.inl (k A ρ S Γ σ H _ _ Γ' T h1 fun v ρ1 S1 H1 E1 T1 d1 => ?_))
    unfold Den at d1
    obtain ⟨a, vs, rfl, _, ha, hl, r⟩ := d1
    exact ⟨a, rfl, ⟨vs, SqL.of (T1.sub _ _ ha)⟩, hR _ ρ1 S1 H1 E1 T1 (walks_lst (t := u) ha hl r)⟩
  | tup xs =>
    cases h2
    refine .inl (.inr (k A ρ S Γ σ H _ _ Γ' T h1 fun v ρ1 S1 H1 E1 T1 d1 => ?_))
    unfold Den at d1
    obtain ⟨a, vs, rfl, ha, hl, r⟩ := d1
    exact ⟨a, rfl, ⟨vs, SqT.of (T1.sub _ _ ha)⟩, hR _ ρ1 S1 H1 E1 T1 (walks_tup ha hl r)⟩
  | str x =>
    obtain ⟨hl, rfl⟩ := if_some (show (if x.length ≤ lim then some (signs x) else none) = some ds from h2)
    exact .inr (k A ρ S Γ σ H _ _ Γ' T h1 fun v ρ1 S1 H1 E1 T1 d1 => ⟨x, den_str.mp d1, hR _ ρ1 S1 H1 E1 T1 (walks_str hl)⟩)
  | _ => cases h2
/-! range -/
def rangeD (lo : Int) (n : Nat) : List D := (List.range n).map fun i => .int (lo + (i : Nat))
theorem rangeD_length {lo : Int} {n : Nat} : (rangeD lo n).length = n := by unfold rangeD; rw [List.length_map, List.length_range]
theorem walks_range {lo : Int} {n : Nat} {ρ : Addr → Nat} {S : Hp} (hl : n ≤ lim) : Walks C (Itr lo n) (rangeD lo n) ρ S := by
  refine ⟨by rw [rangeD_length]; exact hl, fun A ρ1 S1 Γ σ H T E i => ⟨fun d e => ?_, fun h => by rw [rangeD_length] at h; exact h⟩⟩
  have hi : i < n := by
    have := (List.getElem?_eq_some_iff.mp e).1
    rw [rangeD_length] at this
    exact this
  refine ⟨hi, fun v H' y => ?_⟩
  obtain ⟨e1, h2⟩ := y
  subst e1 h2
  have e2 : (rangeD lo n)[i]? = some (.int (lo + (i : Nat))) := by
    unfold rangeD
    rw [List.getElem?_map, List.getElem?_range hi]
    rfl
  rw [e2] at e
  cases e
  exact ⟨ρ1, S1, Ext.refl, T, den_int.mpr rfl⟩
def fRange1 (f : FD) : FL := fun Γ => match f Γ with
  | some (.int j, Γ1) => if -(2 ^ 62) ≤ j ∧ j < 2 ^ 62 ∧ j.toNat ≤ lim then some (rangeD 0 j.toNat, Γ1) else none
  | _ => none
theorem ok_range1 {a : Expr} {f : FD} {p pos : Pos} (hg : ∀ X, P X → Gl X "range") (hm : ∀ X, P X → X.mg "range" = none) (hst : ∀ X, P X → starEach [a] X.env = [(false, eval a X.env)]) (h : OkD C P a f) : OkI C P tg (.Call (.Name "range" p) [a] [] pos) (fRange1 f) := by
  obtain ⟨t, hp, k⟩ := h
  refine ⟨_, fun X hX => pi_range1 (hg X hX) (hm X hX) (pa_cons (hp X hX) pa_nil (hst X hX)) (hst X hX), fun A ρ S Γ σ H R ds Γ' T hf hR => ?_⟩
  unfold fRange1 at hf
  split at hf
  · rename_i j Γ1 e1
    split at hf
    · rename_i c
      cases hf
      exact k A ρ S Γ σ H _ _ _ T e1 fun v ρ1 S1 H1 E1 T1 d1 => ⟨j, by rw [den_int.mp d1], c.1, c.2.1, hR _ ρ1 S1 H1 E1 T1 (walks_range c.2.2)⟩
    · cases hf
  · cases hf
/-! enumerate of a list -/
def enumD : Nat → List D → List D
  | _, [] => []
  | n, d :: r => .tup [.int n, d] :: enumD (n + 1) r
theorem enumD_length : ∀ (n : Nat) (ds : List D), (enumD n ds).length = ds.length
  | _, [] => rfl
  | n, d :: r => by unfold enumD; rw [List.length_cons, List.length_cons, enumD_length]
theorem enumD_get : ∀ (n : Nat) (ds : List D) (i : Nat) (d : D), (enumD n ds)[i]? = some d → ∃ x, ds[i]? = some x ∧ d = .tup [.int (n + i : Nat), x]
  | _, [], i, d, e => by unfold enumD at e; simp at e
  | n, x :: r, 0, d, e => by
    unfold enumD at e
    simp at e
    exact ⟨x, rfl, by rw [← e]; simp⟩
  | n, x :: r, i + 1, d, e => by
    unfold enumD at e
    obtain ⟨y, h1, h2⟩ := enumD_get (n + 1) r i d (by simpa using e)
    exact ⟨y, by simpa using h1, by rw [h2]; congr 3; omega⟩
def fEnum (f : FD) : FL := fun Γ => match f Γ with
  | some (.lst _ xs, Γ1) => some (enumD 0 xs, Γ1)
  | _ => none
theorem walks_enum {xs : List D} {a : Addr} {vs : List V} {ρ : Addr → Nat} {S : Hp} (ha : S a = some (.lst vs)) (hl : xs.length ≤ lim) (r : DenL C ρ S xs vs) : Walks C (Ite K a) (enumD 0 xs) ρ S := by
  refine ⟨by rw [enumD_length]; exact hl, fun A ρ1 S1 Γ σ H T E i => ⟨fun d e => ?_, fun h => ⟨vs, SqL.of (T.sub _ _ (E.sub _ _ ha)), by rw [r.length]; rw [enumD_length] at h; exact h⟩⟩⟩
  obtain ⟨x, hx, rfl⟩ := enumD_get 0 xs i d e
  obtain ⟨v, h1, h2⟩ := r.get i hx
  have q : SqL K H a vs := SqL.of (T.sub _ _ (E.sub _ _ ha))
  refine ⟨⟨vs, v, q, h1⟩, fun z H' y => ?_⟩
  obtain ⟨p, w, rfl, hp, rfl, y⟩ := y
  have := y vs q
  rw [h1] at this
  cases this
  obtain ⟨T2, E2, sp, h0, hn⟩ := T.lay hp (.tup [.int (i : Nat), v]) 0
  obtain ⟨T3, E3⟩ := T2.pub upd_same sp (.inl h0) hn
  refine ⟨_, _, E2.trans E3, T3, ?_⟩
  unfold Den
  refine ⟨p, _, rfl, upd_same, by show 2 ≤ lim; decide, ?_⟩
  exact denL_cons.mpr ⟨den_int.mpr (by simp), denL_cons.mpr ⟨h2.mono ((E.trans E2).trans E3), denL_nil.mpr rfl⟩⟩
theorem ok_enum {a : Expr} {f : FD} {elts : List Expr} {kk : Nat} {p pos tpos : Pos} (hK : ∀ X, P X → X.K = K) (hg : ∀ X, P X → Gl X "enumerate") (hm : ∀ X, P X → X.mg "enumerate" = none) (hst : ∀ X, P X → starEach [a] X.env = [(false, eval a X.env)]) (h : OkD C P a f) :
    OkI C P (.Tuple elts kk tpos) (.Call (.Name "enumerate" p) [a] [] pos) (fEnum f) := by
  obtain ⟨t, hp, k⟩ := h
  refine ⟨_, fun X hX => by have := pi_enum (elts := elts) (kk := kk) (tpos := tpos) (p := p) (pos := pos) (hg X hX) (hm X hX) (pa_cons (hp X hX) pa_nil (hst X hX)) (hst X hX); rw [hK X hX] at this; exact this, fun A ρ S Γ σ H R ds Γ' T hf hR => ?_⟩
  unfold fEnum at hf
  split at hf
  · rename_i u xs Γ1 e1
    cases hf
    refine k A ρ S Γ σ H _ _ _ T e1 fun v ρ1 S1 H1 E1 T1 d1 => ?_
    unfold Den at d1
    obtain ⟨a, vs, rfl, _, ha, hl, r⟩ := d1
    exact ⟨a, vs, rfl, SqL.of (T1.sub _ _ ha), hR _ ρ1 S1 H1 E1 T1 (walks_enum ha hl r)⟩
  · cases hf
end

/-! ### list comprehensions -/
def OkTs (C : Cf) (P : Cx → Prop) (es : List Expr) (f : FT) : Prop := ∃ t : TT, (∀ X, P X → PTs X es t) ∧ ∀ (A : Act) (ρ : Addr → Nat) (S : Hp) (Γ : Env) (σ : St) (H : Hp) (Q : Bool → Hp → Prop) (b : Bool) (Γ' : Env), Sto C A ρ S Γ σ H → f Γ = some (b, Γ') →
  (∀ ρ' S' H', Ext ρ S ρ' S' → Sto C A ρ' S' Γ' σ H' → Q b H') → t σ H Q
def fYes : FT := fun Γ => some (true, Γ)
theorem ok_ts0 {C : Cf} {P : Cx → Prop} : OkTs C P [] fYes := ⟨_, fun X hX => pts_nil, fun A ρ S Γ σ H Q b Γ' T hf hQ => by cases hf; exact hQ ρ S H Ext.refl T⟩
theorem ok_ts1 {C : Cf} {P : Cx → Prop} {e : Expr} {f : FT} (h : OkT C P e f) : OkTs C P [e] f := by
  obtain ⟨t, hp, k⟩ := h
  exact ⟨_, fun X hX => pts_one (hp X hX), k⟩
def lcRun (own : List Nat) (tg : FG) (cond : FT) (elt : FD) : List D → Env → Option (List D × Env)
  | [], Γ => some ([], Γ)
  | d :: r, Γ => match tg d Γ with
    | none => none
    | some Γ1 => match cond Γ1 with
      | none => none
      | some (false, Γ2) => lcRun own tg cond elt r (wipeG Γ2 own)
      | some (true, Γ2) => match elt Γ2 with
        | none => none
        | some (e, Γ3) => match lcRun own tg cond elt r (wipeG Γ3 own) with
          | none => none
          | some (es, Γ4) => some (e :: es, Γ4)
def fLc (g : Nat) (own : List Nat) (it : FL) (tg : FG) (cond : FT) (elt : FD) : FE := fun Γ => match it Γ with
  | none => none
  | some (ds, Γ1) => match lcRun own tg cond elt ds (wipeG Γ1 own) with
    | none => none
    | some (es, Γ2) => some (.own g es, Γ2)
theorem lcRun_cons {own : List Nat} {tg : FG} {cond : FT} {elt : FD} {d : D} {r : List D} {Γ Γ' : Env} {es : List D} (h : lcRun own tg cond elt (d :: r) Γ = some (es, Γ')) :
    ∃ Γ1 b Γ2, tg d Γ = some Γ1 ∧ cond Γ1 = some (b, Γ2) ∧ ((b = false ∧ lcRun own tg cond elt r (wipeG Γ2 own) = some (es, Γ')) ∨
      (b = true ∧ ∃ e Γ3 es', elt Γ2 = some (e, Γ3) ∧ lcRun own tg cond elt r (wipeG Γ3 own) = some (es', Γ') ∧ es = e :: es')) := by
  unfold lcRun at h
  split at h
  · cases h
  · rename_i Γ1 e1
    split at h
    · cases h
    · rename_i Γ2 e2
      exact ⟨Γ1, false, Γ2, e1, e2, .inl ⟨rfl, h⟩⟩
    · rename_i Γ2 e2
      split at h
      · cases h
      · rename_i e Γ3 e3
        split at h
        · cases h
        · rename_i es' Γ4 e4
          cases h
          exact ⟨Γ1, true, Γ2, e1, e2, .inr ⟨rfl, e, Γ3, es', e3, e4, rfl⟩⟩
def BlkP (P : Cx → Prop) (scope : Scope) : Cx → Prop := fun Y => ∃ (X : Cx) (s : Shared) (H : Hp) (a : Addr) (cl : List (Str × Addr)) (fp : List Addr), P X ∧ Y = X.blk s H scope (compEnvC scope cl a X.env) fp
section
variable {C : Cf} {P : Cx → Prop} {tg iter elt : Expr} {ifs : List Expr} {scope : Scope} {pos : Pos}
theorem lc_reads {g : Nat} {vs ts : List Nat} {fi : FL} {fg : FG} {ft : FT} {fe : FD} {wi : TI} {gg : TG} {tt : TT} {te : TE}
    (ki : ∀ (A : Act) (ρ : Addr → Nat) (S : Hp) (Γ : Env) (σ : St) (H : Hp) (R : It → Hp → Prop) (ds : List D) (Γ' : Env), Sto C A ρ S Γ σ H → fi Γ = some (ds, Γ') →
      (∀ J ρ' S' H', Ext ρ S ρ' S' → Sto C A ρ' S' Γ' σ H' → Walks C J ds ρ' S' → R J H') → wi σ H R)
    (kg : ∀ (A : Act) (ρ : Addr → Nat) (S : Hp) (Γ : Env) (σ : St) (H : Hp) (v : V) (d : D) (Γ' : Env) (Q : St → Hp → Prop), Sto C A ρ S Γ σ H → Den C ρ S d v → fg d Γ = some Γ' →
      (∀ σ', Sto C A ρ S Γ' σ' H → Sames ts σ σ' → Q σ' H) → gg v σ H Q) (hts : ∀ i ∈ ts, i ∈ vs)
    (kt : ∀ (A : Act) (ρ : Addr → Nat) (S : Hp) (Γ : Env) (σ : St) (H : Hp) (Q : Bool → Hp → Prop) (b : Bool) (Γ' : Env), Sto C A ρ S Γ σ H → ft Γ = some (b, Γ') →
      (∀ ρ' S' H', Ext ρ S ρ' S' → Sto C A ρ' S' Γ' σ H' → Q b H') → tt σ H Q)
    (ke : ∀ (A : Act) (ρ : Addr → Nat) (S : Hp) (Γ : Env) (σ : St) (H : Hp) (Q : VK) (d : D) (Γ' : Env), Sto C A ρ S Γ σ H → fe Γ = some (d, Γ') →
      (∀ v ρ' S' H', Ext ρ S ρ' S' → Sto C A ρ' S' Γ' σ H' → Den C ρ' S' d v → Q v H') → te σ H Q)
    {A : Act} {ρ : Addr → Nat} {S : Hp} {Γ : Env} {σ : St} {H : Hp} {Q : VK} {s : Sl} {Γ' : Env} (T : Sto C A ρ S Γ σ H) (hf : fLc g vs fi fg ft fe Γ = some (s, Γ'))
    (hQ : ∀ v ρ' S' H', Ext ρ S ρ' S' → Sto C A ρ' S' Γ' σ H' → ResOk C A ρ' S' Γ' σ H' s v → Q v H') : tLc wi gg tt te vs σ H Q := by
  unfold fLc at hf
  split at hf
  · cases hf
  · rename_i ds Γ1 e1
    split at hf
    · cases hf
    · rename_i es Γ2 e2
      cases hf
      refine ki A ρ S Γ σ H _ ds Γ1 T e1 fun J ρ1 S1 H1 E1 T1 Wk p hp => ?_
      obtain ⟨hlen, walk⟩ := Wk
      -- the list is laid
      obtain ⟨T2, E2, sp, h0, hn⟩ := T1.lay hp (.lst []) g
      have A0 : Aside S1 (wipeG Γ1 vs) (L2.wipe σ vs) (upd H1 p (.lst [])) p (.lst []) := ⟨upd_same, sp, fun i q => by
        obtain ⟨sl, e, hs, eo⟩ := q
        by_cases hi : i ∈ vs
        · rw [wipeG_in e hi] at hs; cases hs
        · have := (T2.wipe vs).own ⟨sl, e, hs, eo⟩
          have q1 := hn i
          rw [wipe_out hi] at eo
          -- the slot stood so ahead
          have key : ∀ (ws : List Nat), i ∉ ws → (wipeG Γ1 ws)[i]? = Γ1[i]? := by
            intro ws
            induction ws with
            | nil => intro _; rfl
            | cons w ws ih =>
              intro h
              unfold wipeG
              rw [List.getElem?_set, if_neg (fun q => h (by rw [q]; simp)), ih fun q => h (List.mem_cons_of_mem _ q)]
          rw [key vs hi] at e
          exact q1 ⟨sl, e, hs, eo⟩⟩
      refine ⟨fun i m H' => m = ds.length - i ∧ i ≤ ds.length ∧ ∃ (ρ' : Addr → Nat) (S' : Hp) (Γi : Env) (acc rest : List D) (ws : List V), Sto C A ρ' S' Γi (L2.wipe σ vs) H' ∧ Ext ρ1 S1 ρ' S' ∧ Aside S' Γi (L2.wipe σ vs) H' p (.lst ws) ∧ ρ' p = g ∧ DenL C ρ' S' acc ws ∧ acc.length ≤ i ∧
          lcRun vs fg ft fe (ds.drop i) Γi = some (rest, Γ') ∧ acc ++ rest = es ∧ (∃ Γ0, Γi = wipeG Γ0 vs),
        ⟨ds.length, by simp, Nat.zero_le _, tagAt ρ1 p g, S1, wipeG Γ1 vs, [], es, [], T2.wipe vs, E2, A0, tagAt_same, denL_nil.mpr rfl, Nat.zero_le _, by rw [List.drop_zero]; exact e2, rfl, _, rfl⟩, ?_⟩
      rintro i m H2 ⟨rfl, hi, ρ2, S2, Γi, acc, rest, ws, T2', E2', Ad, hg, hacc, hal, hrun, hes, hw⟩
      obtain ⟨wgo, wstop⟩ := walk (snap A ρ2 S2 Γi (L2.wipe σ vs) H2) ρ2 S2 Γi (L2.wipe σ vs) H2 T2'.snap E2' i
      by_cases hlt : i < ds.length
      · have ed : ds[i]? = some ds[i] := List.getElem?_eq_getElem hlt
        obtain ⟨go, yld⟩ := wgo _ ed
        refine .inr ⟨go, fun H' => ∃ m', m' < ds.length - i ∧ (m' = ds.length - (i + 1) ∧ i + 1 ≤ ds.length ∧ ∃ (ρ' : Addr → Nat) (S' : Hp) (Γi : Env) (acc rest : List D) (ws : List V), Sto C A ρ' S' Γi (L2.wipe σ vs) H' ∧ Ext ρ1 S1 ρ' S' ∧ Aside S' Γi (L2.wipe σ vs) H' p (.lst ws) ∧ ρ' p = g ∧ DenL C ρ' S' acc ws ∧ acc.length ≤ i + 1 ∧
          lcRun vs fg ft fe (ds.drop (i + 1)) Γi = some (rest, Γ') ∧ acc ++ rest = es ∧ (∃ Γ0, Γi = wipeG Γ0 vs)), fun H' h => h, fun x H3 hy => ?_⟩
        have dr : ds.drop i = ds[i] :: ds.drop (i + 1) := List.drop_eq_getElem_cons hlt
        rw [dr] at hrun
        obtain ⟨Γa, b, Γb, h1, h2, h3⟩ := lcRun_cons hrun
        obtain ⟨ρ3, S3, E3, T3, d3⟩ := yld x H3 hy
        have ww : L2.wipe (L2.wipe σ vs) vs = L2.wipe σ vs := by
          apply List.ext_getElem?
          intro j
          by_cases hj : j ∈ vs
          · by_cases hl : j < σ.length
            · have n1 := wipe_in (σ := σ) hj
              have n2 := wipe_in (σ := L2.wipe σ vs) hj
              have l1 : j < (L2.wipe σ vs).length := by rw [L2.wipe_length]; exact hl
              have l2 : j < (L2.wipe (L2.wipe σ vs) vs).length := by rw [L2.wipe_length]; exact l1
              rw [List.getElem?_eq_getElem l1] at n1
              rw [List.getElem?_eq_getElem l2] at n2
              rw [List.getElem?_eq_getElem l1, List.getElem?_eq_getElem l2]
              exact congrArg some ((show (L2.wipe (L2.wipe σ vs) vs)[j] = none from n2).trans (show (L2.wipe σ vs)[j] = none from n1).symm)
            · rw [List.getElem?_eq_none (by rw [L2.wipe_length, L2.wipe_length]; omega), List.getElem?_eq_none (by rw [L2.wipe_length]; omega)]
          · rw [wipe_out hj]
        refine kg _ ρ3 S3 Γi (L2.wipe σ vs) H3 x _ Γa _ T3 d3 h1 fun σ2 T4 sm => ?_
        have wp : L2.wipe σ2 vs = L2.wipe σ vs := (sm.wipe hts).trans ww
        refine ⟨wp, kt _ ρ3 S3 Γa σ2 H3 _ b Γb T4 h2 fun ρ5 S5 H5 E5 T5 => ?_⟩
        rcases h3 with ⟨rfl, h3⟩ | ⟨rfl, e, Γc, es', h4, h5, rfl⟩
        · rw [if_neg (by decide)]
          obtain ⟨Ad5, hg5⟩ := Ad.keep T5
          have Tb := T2'.back T5
          have Tw := Tb.wipe vs
          rw [wp] at Tw
          have E15 : Ext ρ2 S2 ρ5 S5 := E3.trans E5
          refine ⟨ds.length - (i + 1), by omega, rfl, hlt, ρ5, S5, wipeG Γb vs, acc, rest, ws, Tw, E2'.trans E15, ⟨Ad5.at_, Ad5.ns, fun j q => ?_⟩, hg5.trans hg, hacc.mono E15, by omega, h3, hes, _, rfl⟩
          obtain ⟨sl, e', hs', eo'⟩ := q
          by_cases hj : j ∈ vs
          · rw [wipeG_in e' hj] at hs'; cases hs'
          · rw [wipe_out hj] at eo'
            have key : ∀ (zs : List Nat), j ∉ zs → (wipeG Γb zs)[j]? = Γb[j]? := by
              intro zs
              induction zs with
              | nil => intro _; rfl
              | cons w zs ih =>
                intro h
                unfold wipeG
                rw [List.getElem?_set, if_neg (fun q => h (by rw [q]; simp)), ih fun q => h (List.mem_cons_of_mem _ q)]
            rw [key vs hj] at e'
            refine Ad5.no j ⟨sl, e', hs', ?_⟩
            have : σ2[j]? = σ[j]? := by rw [sm.2 j fun q => hj (hts j q), wipe_out hj]
            rw [this]
            exact eo'
        · rw [if_pos rfl]
          refine ke _ ρ5 S5 Γb σ2 H5 _ e Γc T5 h4 fun y ρ6 S6 H6 E6 T6 d6 => ?_
          obtain ⟨Ad6, hg6⟩ := Ad.keep T6
          have Tb := T2'.back T6
          have E16 : Ext ρ2 S2 ρ6 S6 := (E3.trans E5).trans E6
          have hz : ws.length = acc.length := hacc.length
          refine ⟨ws, Ad6.at_, by rw [hz]; have := lim_lt; omega, ?_⟩
          obtain ⟨T7, Ad7⟩ := Tb.putA Ad6 h0 (.lst (ws ++ [y]))
          have Tw := T7.wipe vs
          rw [wp] at Tw
          refine ⟨ds.length - (i + 1), by omega, rfl, hlt, ρ6, S6, wipeG Γc vs, acc ++ [e], es', ws ++ [y], Tw, E2'.trans E16, ⟨Ad7.at_, Ad7.ns, fun j q => ?_⟩, hg6.trans hg, (hacc.mono E16).append (denL_cons.mpr ⟨d6, denL_nil.mpr rfl⟩), by rw [List.length_append, List.length_singleton]; omega, h5, by rw [← hes]; simp, _, rfl⟩
          obtain ⟨sl, e', hs', eo'⟩ := q
          by_cases hj : j ∈ vs
          · rw [wipeG_in e' hj] at hs'; cases hs'
          · rw [wipe_out hj] at eo'
            have key : ∀ (zs : List Nat), j ∉ zs → (wipeG Γc zs)[j]? = Γc[j]? := by
              intro zs
              induction zs with
              | nil => intro _; rfl
              | cons w zs ih =>
                intro h
                unfold wipeG
                rw [List.getElem?_set, if_neg (fun q => h (by rw [q]; simp)), ih fun q => h (List.mem_cons_of_mem _ q)]
            rw [key vs hj] at e'
            refine Ad7.no j ⟨sl, e', hs', ?_⟩
            have : σ2[j]? = σ[j]? := by rw [sm.2 j fun q => hj (hts j q), wipe_out hj]
            rw [this]
            exact eo'
      · have ei : i = ds.length := by omega
        subst ei
        refine .inl ⟨wstop (Nat.le_refl _), ?_⟩
        rw [List.drop_length] at hrun
        have hr : rest = [] ∧ Γi = Γ' := by
          have : lcRun vs fg ft fe [] Γi = some ([], Γi) := rfl
          rw [this] at hrun
          cases hrun
          exact ⟨rfl, rfl⟩
        obtain ⟨rfl, rfl⟩ := hr
        rw [List.append_nil] at hes
        subst hes
        obtain ⟨Γ0, rfl⟩ := hw
        have Tu := T2'.unwipe fun j sl e hj => wipeG_in e hj
        refine hQ (.ref p) ρ2 S2 H2 (E1.trans E2') Tu ⟨⟨p, ws, rfl, hg, Ad.at_, Ad.ns, by omega, hacc, .inl h0⟩, fun _ j a e q => ?_, fun _ _ q => (by cases q), fun _ _ q => (by cases q), fun q => (by cases q)⟩
        cases e
        obtain ⟨sl, e', hs', eo'⟩ := q
        have hj : j ∉ vs := fun hj => by rw [wipeG_in e' hj] at hs'; cases hs'
        exact Ad.no j ⟨sl, e', hs', by rw [wipe_out hj]; exact eo'⟩
theorem ok_lc {g : Nat} {own : List (Str × Nat)} {ts : List Nat} {fi : FL} {fg : FG} {ft : FT} {fe : FD} (hc : ∀ X, P X → X.calm = true) (nd : ∀ X, P X → X.N.Nodup) (hi : OkI C P tg iter fi) (ok : ∀ X, P X → BlkOk X.N X.env.scope scope own)
    (hg : OkG C (BlkP P scope) tg ts fg) (hts : ∀ i ∈ ts, i ∈ own.map (·.2)) (ht : OkTs C (BlkP P scope) ifs ft) (he : OkD C (BlkP P scope) elt fe) (hs : ∀ X, P X → ∀ x, foldedSetIterable iter X.env x = pure x) :
    OkE C P (.ListComp elt [⟨tg, iter, ifs, 0⟩] scope pos) (fLc g (own.map (·.2)) fi fg ft fe) := by
  obtain ⟨wi, hpi, ki⟩ := hi
  obtain ⟨gg, hpg, kg⟩ := hg
  obtain ⟨tt, hpt, kt⟩ := ht
  obtain ⟨te, hpe, ke⟩ := he
  exact ⟨_, fun X hX => pe_lc (hc X hX) (nd X hX) (hpi X hX) (ok X hX) (fun s H a cl fp => hpg _ ⟨X, s, H, a, cl, fp, hX, rfl⟩) (fun s H a cl fp => hpt _ ⟨X, s, H, a, cl, fp, hX, rfl⟩) (fun s H a cl fp => hpe _ ⟨X, s, H, a, cl, fp, hX, rfl⟩) (hs X hX),
    fun A ρ S Γ σ H Q s Γ' T hf hQ => lc_reads ki kg hts kt ke T hf hQ⟩
end
end Ev

set_option Elab.async false
set_option linter.all false
set_option maxRecDepth 100000
set_option maxHeartbeats 4000000
namespace Ev
open PySem L2

/-! ### statements -/
inductive Fl where
  | nx
  | ret (s : Sl)
abbrev FS := Env → Option (Fl × Env)
/-- what is wanted behind -/
def Wants (C : Cf) (A : Act) (ρ : Addr → Nat) (S : Hp) (Γ' : Env) (D : Ends) : Fl → Prop
  | .nx => ∀ σ' ρ' S' H', Ext ρ S ρ' S' → Sto C A ρ' S' Γ' σ' H' → D.nx σ' H'
  | .ret s => ∀ v σ' ρ' S' H', Ext ρ S ρ' S' → Sto C A ρ' S' Γ' σ' H' → ResOk C A ρ' S' Γ' σ' H' s v → D.rt v H'
def OkS (C : Cf) (P : Cx → Prop) (st : Stmt) (f : FS) : Prop := ∃ t : TS, (∀ X, P X → PS X st t) ∧ ∀ (A : Act) (ρ : Addr → Nat) (S : Hp) (Γ : Env) (σ : St) (H : Hp) (D : Ends) (fl : Fl) (Γ' : Env), Sto C A ρ S Γ σ H → f Γ = some (fl, Γ') →
  Wants C A ρ S Γ' D fl → t D σ H
def OkB (C : Cf) (P : Cx → Prop) (sts : List Stmt) (f : FS) : Prop := ∃ t : TS, (∀ X, P X → PSs X sts t) ∧ ∀ (A : Act) (ρ : Addr → Nat) (S : Hp) (Γ : Env) (σ : St) (H : Hp) (D : Ends) (fl : Fl) (Γ' : Env), Sto C A ρ S Γ σ H → f Γ = some (fl, Γ') →
  Wants C A ρ S Γ' D fl → t D σ H
section
variable {C : Cf} {P : Cx → Prop} {e : Expr} {st : Stmt} {sts : List Stmt} {pos : Pos}
theorem Wants.ext {A : Act} {ρ ρ1 : Addr → Nat} {S S1 : Hp} {Γ' : Env} {D : Ends} {fl : Fl} (h : Wants C A ρ S Γ' D fl) (E : Ext ρ S ρ1 S1) : Wants C A ρ1 S1 Γ' D fl := by
  cases fl with
  | nx => exact fun σ' ρ' S' H' E' T' => h σ' ρ' S' H' (E.trans E') T'
  | ret s => exact fun v σ' ρ' S' H' E' T' r => h v σ' ρ' S' H' (E.trans E') T' r
def fSkip : FS := fun Γ => some (.nx, Γ)
theorem okB_nil : OkB C P [] fSkip := ⟨_, fun X hX => pss_nil, fun A ρ S Γ σ H D fl Γ' T hf hW => by cases hf; exact hW σ ρ S H Ext.refl T⟩
def fThen (f g : FS) : FS := fun Γ => match f Γ with
  | some (.nx, Γ1) => g Γ1
  | some (.ret s, Γ1) => some (.ret s, Γ1)
  | none => none
theorem okB_cons {f g : FS} (h : OkS C P st f) (h' : OkB C P sts g) : OkB C P (st :: sts) (fThen f g) := by
  obtain ⟨t, hp, k⟩ := h
  obtain ⟨u, hq, l⟩ := h'
  refine ⟨_, fun X hX => pss_cons (hp X hX) (hq X hX), fun A ρ S Γ σ H D fl Γ' T hf hW => ?_⟩
  unfold fThen at hf
  split at hf
  · rename_i Γ1 e1
    exact k A ρ S Γ σ H _ .nx Γ1 T e1 fun σ1 ρ1 S1 H1 E1 T1 => l A ρ1 S1 Γ1 σ1 H1 D fl Γ' T1 hf (hW.ext E1)
  · rename_i s Γ1 e1
    cases hf
    exact k A ρ S Γ σ H _ (.ret s) _ T e1 hW
  · cases hf
/-- what can't be reached -/
def fNo : FS := fun _ => none
theorem ok_never : OkS C P st fNo := ⟨_, fun X hX => ps_never, fun A ρ S Γ σ H D fl Γ' T hf hW => by cases hf⟩
def fRet (f : FE) : FS := fun Γ => match f Γ with
  | some (s, Γ1) => some (.ret s, Γ1)
  | none => none
theorem ok_ret {f : FE} (h : OkE C P e f) : OkS C P (.Return (some e) pos) (fRet f) := by
  obtain ⟨t, hp, k⟩ := h
  refine ⟨_, fun X hX => ps_ret (hp X hX), fun A ρ S Γ σ H D fl Γ' T hf hW => ?_⟩
  unfold fRet at hf
  split at hf
  · rename_i s Γ1 e1
    cases hf
    exact k A ρ S Γ σ H _ s _ T e1 fun v ρ1 S1 H1 E1 T1 r => hW v σ ρ1 S1 H1 E1 T1 r
  · cases hf
/-- a slot is handed on -/
def fMove (i : Nat) : FE := fun Γ => match Γ[i]? with
  | some (.sh d) => some (.sh d, Γ)
  | some (.own t xs) => some (.own t xs, Γ.set i .non)
  | some (.ownD t ks xs) => some (.ownD t ks xs, Γ.set i .non)
  | _ => none
theorem ok_move {i : Nat} {x : Str} (hn : NameAt P i x) : OkE C P (.Name x pos) (fMove i) := by
  refine ⟨_, fun X hX => hn.pe X hX, fun A ρ S Γ σ H Q s Γ' T hf hQ => ?_⟩
  unfold fMove at hf
  split at hf
  · rename_i d e1
    cases hf
    obtain ⟨v, e2, h⟩ := T.slot i _ e1
    exact ⟨v, join_some e2, hQ v ρ S H Ext.refl T (.sh h)⟩
  · rename_i t xs e1
    cases hf
    have k := T.slot i _ e1
    obtain ⟨a, vs, e2, r⟩ := id k
    refine ⟨_, join_some e2, hQ (.ref a) ρ S H Ext.refl (T.forget i) ⟨?_, fun _ j b eb => ?_, fun _ _ q => (by cases q), fun _ _ q => (by cases q), fun q => (by cases q)⟩⟩
    · rw [← e2]; exact k
    · cases eb
      exact own_forget T ⟨_, e1, rfl, e2⟩ j
  · rename_i t ks xs e1
    cases hf
    have k := T.slot i _ e1
    obtain ⟨a, vs, e2, r⟩ := id k
    refine ⟨_, join_some e2, hQ (.ref a) ρ S H Ext.refl (T.forget i) ⟨?_, fun _ j b eb => ?_, fun _ _ q => (by cases q), fun _ _ q => (by cases q), fun q => (by cases q)⟩⟩
    · rw [← e2]; exact k
    · cases eb
      exact own_forget T ⟨_, e1, rfl, e2⟩ j
  · cases hf
def fExpr (f : FD) : FS := fun Γ => match f Γ with
  | some (_, Γ1) => some (.nx, Γ1)
  | none => none
theorem ok_expr {f : FD} (h : OkD C P e f) (hs : ∀ X, P X → swapsWith e none pos.line X.env = pure false) : OkS C P (.Expr e pos) (fExpr f) := by
  obtain ⟨t, hp, k⟩ := h
  refine ⟨_, fun X hX => ps_expr (hp X hX) (hs X hX), fun A ρ S Γ σ H D fl Γ' T hf hW => ?_⟩
  unfold fExpr at hf
  split at hf
  · rename_i d Γ1 e1
    cases hf
    exact k A ρ S Γ σ H _ d _ T e1 fun v ρ1 S1 H1 E1 T1 r => hW σ ρ1 S1 H1 E1 T1
  · cases hf
def fIf (c : FT) (f g : FS) : FS := fun Γ => match c Γ with
  | some (true, Γ1) => f Γ1
  | some (false, Γ1) => g Γ1
  | none => none
theorem ok_if {c : Expr} {a b : List Stmt} {fc : FT} {f g : FS} (hc : OkT C P c fc) (h : OkB C P a f) (h' : OkB C P b g) : OkS C P (.If c a b pos) (fIf fc f g) := by
  obtain ⟨t0, hp0, k0⟩ := hc
  obtain ⟨t, hp, k⟩ := h
  obtain ⟨u, hq, l⟩ := h'
  refine ⟨_, fun X hX => ps_if (hp0 X hX) (hp X hX) (hq X hX), fun A ρ S Γ σ H D fl Γ' T hf hW => ?_⟩
  unfold fIf at hf
  split at hf
  · rename_i Γ1 e1
    exact k0 A ρ S Γ σ H _ _ _ T e1 fun ρ1 S1 H1 E1 T1 => by
      rw [if_pos rfl]
      exact k A ρ1 S1 Γ1 σ H1 D fl Γ' T1 hf (hW.ext E1)
  · rename_i Γ1 e1
    exact k0 A ρ S Γ σ H _ _ _ T e1 fun ρ1 S1 H1 E1 T1 => by
      rw [if_neg (by decide)]
      exact l A ρ1 S1 Γ1 σ H1 D fl Γ' T1 hf (hW.ext E1)
  · cases hf
/-! x = e -/
def fSet (i : Nat) (f : FE) : FS := fun Γ => match f Γ with
  | some (s, Γ1) => some (.nx, Γ1.set i s)
  | none => none
theorem set_reads {i : Nat} {f : FE} {te : TE} (k : ∀ (A : Act) (ρ : Addr → Nat) (S : Hp) (Γ : Env) (σ : St) (H : Hp) (Q : VK) (s : Sl) (Γ' : Env), Sto C A ρ S Γ σ H → f Γ = some (s, Γ') →
      (∀ v ρ' S' H', Ext ρ S ρ' S' → Sto C A ρ' S' Γ' σ H' → ResOk C A ρ' S' Γ' σ H' s v → Q v H') → te σ H Q)
    {A : Act} {ρ : Addr → Nat} {S : Hp} {Γ : Env} {σ : St} {H : Hp} {D : Ends} {fl : Fl} {Γ' : Env} (T : Sto C A ρ S Γ σ H) (hf : fSet i f Γ = some (fl, Γ')) (hW : Wants C A ρ S Γ' D fl) : tAsg te (gName i) D σ H := by
  unfold fSet at hf
  split at hf
  · rename_i s Γ1 e1
    cases hf
    exact k A ρ S Γ σ H _ s _ T e1 fun v ρ1 S1 H1 E1 T1 r => hW _ ρ1 S1 H1 E1 (T1.assign r i)
  · cases hf
theorem ok_set {i : Nat} {x : Str} {p : Pos} {f : FE} (hx : StoreAt P i x) (h : OkE C P e f) (hs : ∀ X, P X → swapsWith e (some (.Name x p)) pos.line X.env = pure false) : OkS C P (.Assign [.Name x p] e pos) (fSet i f) := by
  obtain ⟨t, hp, k⟩ := h
  exact ⟨_, fun X hX => ps_set (hx.nd X hX) (hx.hN X hX) (hx.hx X hX) (hp X hX) (hs X hX) (hx.hf X hX), fun A ρ S Γ σ H D fl Γ' T hf hW => set_reads k T hf hW⟩
theorem ok_setLc {g i : Nat} {y : Str} {py : Pos} {tg iter elt : Expr} {ifs : List Expr} {scope : Scope} {cpos : Pos} {own : List (Str × Nat)} {ts : List Nat} {fi : FL} {fg : FG} {ft : FT} {fe : FD} (hc : ∀ X, P X → X.calm = true) (nd : ∀ X, P X → X.N.Nodup) (hy : ∀ X, P X → X.N[i]? = some y)
    (hyl : ∀ X, P X → X.env.scope.names.lookup y = some .local) (hsw : ∀ X, P X → swapsWith (.ListComp elt [⟨tg, iter, ifs, 0⟩] scope cpos) (some (.Name y py)) pos.line X.env = pure true)
    (hi : OkI C P tg iter fi) (ok : ∀ X, P X → BlkOk X.N X.env.scope scope own)
    (hg : OkG C (BlkP P scope) tg ts fg) (hts : ∀ i ∈ ts, i ∈ own.map (·.2)) (ht : OkTs C (BlkP P scope) ifs ft) (he : OkD C (BlkP P scope) elt fe) (hs : ∀ X, P X → ∀ x, foldedSetIterable iter X.env x = pure x) :
    OkS C P (.Assign [.Name y py] (.ListComp elt [⟨tg, iter, ifs, 0⟩] scope cpos) pos) (fSet i (fLc g (own.map (·.2)) fi fg ft fe)) := by
  obtain ⟨wi, hpi, ki⟩ := hi
  obtain ⟨gg, hpg, kg⟩ := hg
  obtain ⟨tt, hpt, kt⟩ := ht
  obtain ⟨te, hpe, ke⟩ := he
  exact ⟨_, fun X hX => ps_setLc (hc X hX) (nd X hX) (hy X hX) (hyl X hX) (hsw X hX) (hpi X hX) (ok X hX) (fun s H a cl fp => hpg _ ⟨X, s, H, a, cl, fp, hX, rfl⟩) (fun s H a cl fp => hpt _ ⟨X, s, H, a, cl, fp, hX, rfl⟩) (fun s H a cl fp => hpe _ ⟨X, s, H, a, cl, fp, hX, rfl⟩) (hs X hX),
    fun A ρ S Γ σ H D fl Γ' T hf hW => set_reads (fun A ρ S Γ σ H Q s Γ' T hf hQ => lc_reads ki kg hts kt ke T hf hQ) T hf hW⟩
/-! a, b = e, by the value's items -/
def fSetT (is : List Nat) (f : FD) : FS := fun Γ => match f Γ with
  | some (d, Γ1) => (match gTupN is d Γ1 with
    | some Γ2 => some (.nx, Γ2)
    | none => none)
  | none => none
theorem ok_setT {K : PySem.W.Frag} {is : List Nat} {es : List Expr} {kk : Nat} {p : Pos} {f : FD} (hK : ∀ X, P X → X.K = K) (hc : ∀ X, P X → X.calm = true) (h : Stores P is es) (he : OkD C P e f)
    (hs : ∀ X, P X → swapsWithSole [.Tuple es kk p] e pos.line X.env = pure false) (hw : ∀ X, P X → swappedStores [.Tuple es kk p] e X.env = pure none) : OkS C P (.Assign [.Tuple es kk p] e pos) (fSetT is f) := by
  obtain ⟨t, hp, k⟩ := he
  obtain ⟨g, hg, l⟩ := ok_gtup (C := C) (kk := kk) (pos := p) hK hc h
  refine ⟨_, fun X hX => ps_asg (hp X hX) (hg X hX) (hs X hX) (hw X hX) rfl, fun A ρ S Γ σ H D fl Γ' T hf hW => ?_⟩
  unfold fSetT at hf
  split at hf
  · rename_i d Γ1 e1
    split at hf
    · rename_i Γ2 e2
      cases hf
      exact k A ρ S Γ σ H _ d _ T e1 fun v ρ1 S1 H1 E1 T1 d1 => l A ρ1 S1 Γ1 σ H1 v d _ _ T1 d1 e2 fun σ' T2 _ => hW σ' ρ1 S1 H1 E1 T2
    · cases hf
  · cases hf
/-! for -/
def forRun (tg : FG) (body : FS) : List D → FS
  | [], Γ => some (.nx, Γ)
  | d :: r, Γ => match tg d Γ with
    | none => none
    | some Γ1 => match body Γ1 with
      | none => none
      | some (.nx, Γ2) => forRun tg body r Γ2
      | some (.ret s, Γ2) => some (.ret s, Γ2)
def fFor (it : FL) (tg : FG) (body : FS) : FS := fun Γ => match it Γ with
  | some (ds, Γ1) => forRun tg body ds Γ1
  | none => none
theorem ok_for {tg iter : Expr} {body : List Stmt} {ts : List Nat} {fi : FL} {fg : FG} {fb : FS} (hp : ∀ X, P X → PassesOwn (model X.prog X.w) X.A X.env X.xe) (hc : ∀ X, P X → X.calm = true) (hi : OkI C P tg iter fi) (hg : OkG C P tg ts fg) (hb : OkB C P body fb)
    (hs : ∀ X, P X → ∀ x, foldedSetIterable iter X.env x = pure x) : OkS C P (.For tg iter body [] pos) (fFor fi fg fb) := by
  obtain ⟨wi, hpi, ki⟩ := hi
  obtain ⟨gg, hpg, kg⟩ := hg
  obtain ⟨tb, hpb, kb⟩ := hb
  refine ⟨_, fun X hX => ps_for (hp X hX) (hc X hX) (hpi X hX) (hpg X hX) (hpb X hX) (hs X hX), fun A ρ S Γ σ H D fl Γ' T hf hW => ?_⟩
  unfold fFor at hf
  split at hf
  · rename_i ds Γ1 e1
    refine ki A ρ S Γ σ H _ ds Γ1 T e1 fun J ρ1 S1 H1 E1 T1 Wk => ?_
    obtain ⟨hlen, walk⟩ := Wk
    refine ⟨fun i m σ' H' => m = ds.length - i ∧ i ≤ ds.length ∧ ∃ (ρ' : Addr → Nat) (S' : Hp) (Γi : Env), Sto C A ρ' S' Γi σ' H' ∧ Ext ρ1 S1 ρ' S' ∧ forRun fg fb (ds.drop i) Γi = some (fl, Γ'),
      ⟨ds.length, by simp, Nat.zero_le _, ρ1, S1, Γ1, T1, Ext.refl, by rw [List.drop_zero]; exact hf⟩, ?_⟩
    rintro i m σ2 H2 ⟨rfl, hi, ρ2, S2, Γi, T2, E2, hrun⟩
    obtain ⟨wgo, wstop⟩ := walk A ρ2 S2 Γi σ2 H2 T2 E2 i
    by_cases hlt : i < ds.length
    · obtain ⟨go, yld⟩ := wgo _ (List.getElem?_eq_getElem hlt)
      refine .inr ⟨go, fun σ' H' => ∃ m', m' < ds.length - i ∧ (m' = ds.length - (i + 1) ∧ i + 1 ≤ ds.length ∧ ∃ (ρ' : Addr → Nat) (S' : Hp) (Γi : Env), Sto C A ρ' S' Γi σ' H' ∧ Ext ρ1 S1 ρ' S' ∧ forRun fg fb (ds.drop (i + 1)) Γi = some (fl, Γ')), fun σ' H' h => h, fun x H3 hy => ?_⟩
      have dr : ds.drop i = ds[i] :: ds.drop (i + 1) := List.drop_eq_getElem_cons hlt
      rw [dr] at hrun
      unfold forRun at hrun
      obtain ⟨ρ3, S3, E3, T3, d3⟩ := yld x H3 hy
      split at hrun
      · cases hrun
      · rename_i Γa e2
        refine kg A ρ3 S3 Γi σ2 H3 x _ Γa _ T3 d3 e2 fun σ3 T4 _ => ?_
        split at hrun
        · cases hrun
        · rename_i Γb e3
          exact kb A ρ3 S3 Γa σ3 H3 _ .nx Γb T4 e3 fun σ5 ρ5 S5 H5 E5 T5 => ⟨ds.length - (i + 1), by omega, rfl, hlt, ρ5, S5, Γb, T5, (E2.trans E3).trans E5, hrun⟩
        · rename_i s Γb e3
          cases hrun
          exact kb A ρ3 S3 Γa σ3 H3 _ (.ret s) _ T4 e3 fun v σ5 ρ5 S5 H5 E5 T5 r => hW v σ5 ρ5 S5 H5 (E1.trans ((E2.trans E3).trans E5)) T5 r
    · have ei : i = ds.length := by omega
      subst ei
      refine .inl ⟨wstop (Nat.le_refl _), ?_⟩
      rw [List.drop_length] at hrun
      have : forRun fg fb [] Γi = some (.nx, Γi) := rfl
      rw [this] at hrun
      cases hrun
      exact hW σ2 ρ2 S2 H2 (E1.trans E2) T2
  · cases hf
/-! while, at most n turns -/
def whileRun (c : FT) (body : FS) : Nat → FS
  | 0, _ => none
  | n + 1, Γ => match c Γ with
    | none => none
    | some (false, Γ1) => some (.nx, Γ1)
    | some (true, Γ1) => match body Γ1 with
      | none => none
      | some (.nx, Γ2) => whileRun c body n Γ2
      | some (.ret s, Γ2) => some (.ret s, Γ2)
theorem ok_while {c : Expr} {body : List Stmt} {fc : FT} {fb : FS} (n : Nat) (hp : ∀ X, P X → PassesOwn (model X.prog X.w) X.A X.env X.xe) (hc : OkT C P c fc) (hb : OkB C P body fb) : OkS C P (.While c body [] pos) (whileRun fc fb n) := by
  obtain ⟨tc, hpc, kc⟩ := hc
  obtain ⟨tb, hpb, kb⟩ := hb
  refine ⟨_, fun X hX => ps_while (hp X hX) (hpc X hX) (hpb X hX), fun A ρ S Γ σ H D fl Γ' T hf hW => ?_⟩
  refine ⟨fun m σ' H' => ∃ (ρ' : Addr → Nat) (S' : Hp) (Γi : Env), Sto C A ρ' S' Γi σ' H' ∧ Ext ρ S ρ' S' ∧ whileRun fc fb m Γi = some (fl, Γ'), ⟨n, ρ, S, Γ, T, Ext.refl, hf⟩, ?_⟩
  rintro m σ2 H2 ⟨ρ2, S2, Γi, T2, E2, hrun⟩
  cases m with
  | zero => cases hrun
  | succ m =>
    unfold whileRun at hrun
    split at hrun
    · cases hrun
    · rename_i Γa e1
      cases hrun
      refine kc A ρ2 S2 Γi σ2 H2 _ _ _ T2 e1 fun ρ3 S3 H3 E3 T3 => ?_
      exact hW σ2 ρ3 S3 H3 (E2.trans E3) T3
    · rename_i Γa e1
      refine kc A ρ2 S2 Γi σ2 H2 _ _ _ T2 e1 fun ρ3 S3 H3 E3 T3 => ?_
      rw [if_pos rfl]
      refine ⟨fun σ' H' => ∃ m', m' < m + 1 ∧ ∃ (ρ' : Addr → Nat) (S' : Hp) (Γi : Env), Sto C A ρ' S' Γi σ' H' ∧ Ext ρ S ρ' S' ∧ whileRun fc fb m' Γi = some (fl, Γ'), fun σ' H' h => h, ?_⟩
      split at hrun
      · cases hrun
      · rename_i Γb e3
        exact kb A ρ3 S3 Γa σ2 H3 _ .nx Γb T3 e3 fun σ5 ρ5 S5 H5 E5 T5 => ⟨m, Nat.lt_succ_self _, ρ5, S5, Γb, T5, (E2.trans E3).trans E5, hrun⟩
      · rename_i s Γb e3
        cases hrun
        exact kb A ρ3 S3 Γa σ2 H3 _ (.ret s) _ T3 e3 fun v σ5 ρ5 S5 H5 E5 T5 r => hW v σ5 ρ5 S5 H5 ((E2.trans E3).trans E5) T5 r
end
end Ev

set_option Elab.async false
set_option linter.all false
set_option maxRecDepth 100000
set_option maxHeartbeats 4000000
namespace Ev
open PySem L2

/-! ### a def's promise, by data -/
structure Post (ρ : Addr → Nat) (S H : Hp) (ρ' : Addr → Nat) (S' H' : Hp) (M : List Addr) : Prop where
  ext : Ext ρ S ρ' S'
  sub : Sub S' H'
  frame : ∀ a o, H a = some o → a ∉ M → H' a = some o
  news : ∀ a o, S' a = some o → S a = some o ∨ H a = none
  rho : ∀ a o, H a = some o → ρ' a = ρ a
  old : ∀ a o, H a = some o → H' a ≠ none
def RetOk (C : Cf) (ρ' : Addr → Nat) (S' H H' : Hp) : Sl → V → Prop
  | .sh d, v => Den C ρ' S' d v
  | .own t xs, v => ∃ a vs, v = .ref a ∧ ρ' a = t ∧ H' a = some (.lst vs) ∧ S' a = none ∧ xs.length ≤ lim ∧ DenL C ρ' S' xs vs ∧ H a = none
  | .ownD t ks xs, v => ∃ a vs, v = .ref a ∧ ρ' a = t ∧ H' a = some (.dK (ks.zip vs)) ∧ S' a = none ∧ xs.length ≤ lim ∧ ks.length = xs.length ∧ DenL C ρ' S' xs vs ∧ H a = none
  | _, _ => False
abbrev FF := Nat → List D → Option Sl
abbrev FM := Nat → Nat → List D → List D → Option (Sl × List D)
def spF (C : Cf) (n : Nat) (F : FF) : Sp := fun vs H Q _ => vs.length = n ∧ ∃ (ρ : Addr → Nat) (S : Hp) (g : Nat) (args : List D) (r : Sl), DenL C ρ S args vs ∧ Sub S H ∧ F g args = some r ∧
  ∀ v ρ' S' H', Post ρ S H ρ' S' H' [] → RetOk C ρ' S' H H' r v → Q v H'
def spM (C : Cf) (n : Nat) (F : FM) : Sp := fun vs H Q _ => vs.length = n ∧ ∃ (ρ : Addr → Nat) (S : Hp) (g t : Nat) (xs args xs' : List D) (r : Sl) (a : Addr) (us ws : List V), vs = .ref a :: ws ∧ H a = some (.lst us) ∧ S a = none ∧ ρ a = t ∧ xs.length ≤ lim ∧ DenL C ρ S xs us ∧
  DenL C ρ S args ws ∧ Sub S H ∧ F g t xs args = some (r, xs') ∧
  ∀ v ρ' S' H' us', Post ρ S H ρ' S' H' [a] → H' a = some (.lst us') → S' a = none → xs'.length ≤ lim → DenL C ρ' S' xs' us' → RetOk C ρ' S' H H' r v → Q v H'
section
variable {C : Cf} {A : Act} {ρ ρ' : Addr → Nat} {S S' : Hp} {Γ Γ' : Env} {σ : St} {H H' : Hp}
/-- behind a call that changes nothing -/
theorem Sto.call (T : Sto C A ρ S Γ σ H) (p : Post ρ S H ρ' S' H' []) : Sto C A ρ' S' Γ σ H' := by
  refine ⟨p.sub, T.len, fun i s e => ?_, T.sep, fun a o e hm => p.frame a o (T.frame a o e hm) (by simp), T.ext0.trans p.ext, fun a o e => ?_, fun a o e => ?_, fun a o e => ?_⟩
  · refine (T.slot i s e).go p.ext fun a u eo hs ha => ⟨p.frame a u ha (by simp), ?_, p.rho a u ha⟩
    obtain ⟨_, _, sa, _⟩ := T.own ⟨s, e, hs, eo⟩
    cases q : S' a with
    | none => rfl
    | some w =>
      rcases p.news a w q with k | k
      · rw [sa] at k; cases k
      · rw [ha] at k; cases k
  · rcases p.news a o e with k | k
    · exact T.news a o k
    · exact .inr (.inl (T.new k))
  · cases q : H a with
    | none => exact absurd q (T.old a o e)
    | some u => exact (p.rho a u q).trans (T.rho a o e)
  · cases q : H a with
    | none => exact absurd q (T.old a o e)
    | some u => exact p.old a u q
theorem RetOk.toRes {s : Sl} {v : V} (T : Sto C A ρ S Γ σ H) (hΓ : ∀ i a, OwnAt Γ' σ i a → ∃ j, OwnAt Γ σ j a) (p : RetOk C ρ' S' H H' s v) : ResOk C A ρ' S' Γ' σ H' s v := by
  have no : ∀ a, H a = none → ∀ i, ¬ OwnAt Γ' σ i a := fun a ha i q => by
    obtain ⟨j, q⟩ := hΓ i a q
    obtain ⟨u, h1, _⟩ := T.own q
    rw [ha] at h1; cases h1
  cases s with
  | sh d => exact ResOk.sh p
  | own t xs =>
    obtain ⟨a, vs, rfl, h1, h2, h3, h4, h5, h6⟩ := p
    exact ⟨⟨a, vs, rfl, h1, h2, h3, h4, h5, .inl (T.new h6)⟩, fun _ i b e => by cases e; exact no a h6 i, fun _ _ q => (by cases q), fun _ _ q => (by cases q), fun q => (by cases q)⟩
  | ownD t ks xs =>
    obtain ⟨a, vs, rfl, h1, h2, h3, h4, h4', h5, h6⟩ := p
    exact ⟨⟨a, vs, rfl, h1, h2, h3, h4, h4', h5, .inl (T.new h6)⟩, fun _ i b e => by cases e; exact no a h6 i, fun _ _ q => (by cases q), fun _ _ q => (by cases q), fun q => (by cases q)⟩
  | _ => exact p.elim
/-- behind a call that changes the list in slot i -/
theorem Sto.callM (T : Sto C A ρ S Γ σ H) {i : Nat} {a : Addr} {us' : List V} {s s' : Sl} (e : Γ[i]? = some s) (hs : s.isOwn = true) (ho : σ[i]?.join = some (.ref a)) (hs' : s'.isOwn = true) (p : Post ρ S H ρ' S' H' [a]) (hn : S' a = none)
    (h' : SlOk C A ρ' S' H' s' (some (.ref a))) : Sto C A ρ' S' (Γ.set i s') σ H' := by
  have oa : OwnAt Γ σ i a := ⟨s, e, hs, ho⟩
  obtain ⟨u0, ha0, sa0, h0⟩ := T.own oa
  have ow : ∀ j b, OwnAt (Γ.set i s') σ j b → OwnAt Γ σ j b := fun j b ⟨x, ex, hx, ox⟩ => by
    rcases get_set ex with ⟨q, rfl, _⟩ | ⟨ne, ex⟩
    · subst q
      exact ⟨s, e, hs, ox⟩
    · exact ⟨x, ex, hx, ox⟩
  refine ⟨p.sub, by rw [List.length_set]; exact T.len, fun j x ex => ?_, fun j k b ne hj hk => T.sep j k b ne (ow _ _ hj) (ow _ _ hk), fun b o eb hm => ?_, T.ext0.trans p.ext, fun b o eb => ?_, fun b o eb => ?_, fun b o eb => ?_⟩
  · rcases get_set ex with ⟨q, rfl, _⟩ | ⟨ne, ex⟩
    · subst q
      rw [ho]
      exact h'
    · refine (T.slot j x ex).go p.ext fun b u eo hso hb => ?_
      have ob : OwnAt Γ σ j b := ⟨x, ex, hso, eo⟩
      have nb : b ≠ a := fun q => by subst q; exact T.sep i j b ne oa ob
      refine ⟨p.frame b u hb (by simpa using nb), ?_, p.rho b u hb⟩
      obtain ⟨_, _, sb, _⟩ := T.own ob
      cases q : S' b with
      | none => rfl
      | some w =>
        rcases p.news b w q with k | k
        · rw [sb] at k; cases k
        · rw [hb] at k; cases k
  · have nb : b ≠ a := fun q => by
      subst q
      rcases h0 with h0 | h0
      · rw [h0] at eb; cases eb
      · exact hm h0
    exact p.frame b o (T.frame b o eb hm) (by simpa using nb)
  · rcases p.news b o eb with k | k
    · exact T.news b o k
    · exact .inr (.inl (T.new k))
  · cases q : H b with
    | none => exact absurd q (T.old b o eb)
    | some u => exact (p.rho b u q).trans (T.rho b o eb)
  · cases q : H b with
    | none => exact absurd q (T.old b o eb)
    | some u => exact p.old b u q
end

/-! ### calls -/
def fCall (n : Nat) (F : FF) (g : Nat) (fa : FL) : FE := fun Γ => match fa Γ with
  | some (ds, Γ1) => if ds.length = n then (match F g ds with
    | some s => some (s, Γ1)
    | none => none) else none
  | none => none
theorem fCall_some {n : Nat} {F : FF} {g : Nat} {fa : FL} {Γ Γ' : Env} {s : Sl} (h : fCall n F g fa Γ = some (s, Γ')) : ∃ ds, fa Γ = some (ds, Γ') ∧ ds.length = n ∧ F g ds = some s := by
  unfold fCall at h
  split at h
  · rename_i ds Γ1 e1
    split at h
    · rename_i hl
      split at h
      · rename_i s' e2
        cases h
        exact ⟨ds, e1, hl, e2⟩
      · cases h
    · cases h
  · cases h
def Sl.lists : Sl → Option (Nat × List D)
  | .own t xs => some (t, xs)
  | .bor t xs => some (t, xs)
  | _ => none
def Sl.with (s : Sl) (xs : List D) : Sl := match s with
  | .own t _ => .own t xs
  | .bor t _ => .bor t xs
  | s => s
def fCallM (n : Nat) (F : FM) (g i : Nat) (fa : FL) : FE := fun Γ => match Γ[i]? with
  | none => none
  | some s0 => (match s0.lists with
    | none => none
    | some _ => (match fa Γ with
      | none => none
      | some (ds, Γ1) => (match Γ1[i]? with
        | none => none
        | some s1 => (match s1.lists with
          | none => none
          | some (t, xs) => if ds.length + 1 = n then (match F g t xs ds with
            | none => none
            | some (r, xs') => some (r, Γ1.set i (s1.with xs'))) else none))))
theorem fCallM_some {n : Nat} {F : FM} {g i : Nat} {fa : FL} {Γ Γ' : Env} {r : Sl} (h : fCallM n F g i fa Γ = some (r, Γ')) :
    ∃ s0 q0 ds Γ1 s1 t xs xs', Γ[i]? = some s0 ∧ s0.lists = some q0 ∧ fa Γ = some (ds, Γ1) ∧ Γ1[i]? = some s1 ∧ s1.lists = some (t, xs) ∧ ds.length + 1 = n ∧ F g t xs ds = some (r, xs') ∧ Γ' = Γ1.set i (s1.with xs') := by
  unfold fCallM at h
  split at h
  · cases h
  · rename_i s0 e0
    split at h
    · cases h
    · rename_i q0 e1
      split at h
      · cases h
      · rename_i ds Γ1 e2
        split at h
        · cases h
        · rename_i s1 e3
          split at h
          · cases h
          · rename_i t xs e4
            split at h
            · rename_i hl
              split at h
              · cases h
              · rename_i r' xs' e5
                cases h
                exact ⟨s0, q0, ds, Γ1, s1, t, xs, xs', e0, e1, e2, e3, e4, hl, e5, rfl⟩
            · cases h
/-- the def that stands under a name -/
structure CallAt (P : Cx → Prop) (x : Str) (sp : Sp) : Prop where
  ex : ∃ (k : Nat) (f : Addr) (fd : FuncData) (ps : List Str), ∀ X, P X → FnOk X.prog X.w X.K X.mg X.base (L2.CX X.prog X.w) k f fd ps sp ∧ Room k X.A ∧ Gl X x ∧ X.mg x = some (.ref f) ∧ PySem.W.keepIn X.K (.ref f) = true ∧ Binds X.K fd ps []
  db : (x == ("__debug__" : Str)) = false
section
variable {C : Cf} {P : Cx → Prop} {e : Expr} {es : List Expr} {p pos : Pos}
theorem lists_ok {A : Act} {ρ : Addr → Nat} {S H : Hp} {s : Sl} {o : Option V} {t : Nat} {xs : List D} (h : SlOk C A ρ S H s o) (e : s.lists = some (t, xs)) : s.isOwn = true ∧ ∃ a vs, o = some (.ref a) ∧ ρ a = t ∧ H a = some (.lst vs) ∧ S a = none ∧ xs.length ≤ lim ∧ DenL C ρ S xs vs := by
  cases s with
  | own t' xs' =>
    cases e
    obtain ⟨a, vs, e, ht, h1, h2, hl, r, h3⟩ := h
    exact ⟨rfl, a, vs, e, ht, h1, h2, hl, r⟩
  | bor t' xs' =>
    cases e
    obtain ⟨a, vs, e, ht, h1, h2, hl, r, h3⟩ := h
    exact ⟨rfl, a, vs, e, ht, h1, h2, hl, r⟩
  | _ => cases e
theorem with_ok {A : Act} {ρ ρ' : Addr → Nat} {S S' H H' : Hp} {s : Sl} {a : Addr} {t : Nat} {xs xs' : List D} {vs' : List V} (h : SlOk C A ρ S H s (some (.ref a))) (e : s.lists = some (t, xs)) (ht : ρ' a = ρ a) (h1 : H' a = some (.lst vs')) (h2 : S' a = none) (hl : xs'.length ≤ lim) (r : DenL C ρ' S' xs' vs') :
    (s.with xs').isOwn = true ∧ SlOk C A ρ' S' H' (s.with xs') (some (.ref a)) := by
  cases s with
  | own t' ys =>
    obtain ⟨b, vs, eb, ht', _, _, _, _, h3⟩ := h
    cases eb
    exact ⟨rfl, a, vs', rfl, ht.trans ht', h1, h2, hl, r, h3⟩
  | bor t' ys =>
    obtain ⟨b, vs, eb, ht', _, _, _, _, h3, h4⟩ := h
    cases eb
    exact ⟨rfl, a, vs', rfl, ht.trans ht', h1, h2, hl, r, h3, h4⟩
  | _ => cases e
theorem ok_call {n : Nat} {F : FF} {g : Nat} {x : Str} {fa : FL} (c : CallAt P x (spF C n F)) (ha : OkL C P (e :: es) fa) (hst : ∀ X, P X → starEach (e :: es) X.env = (false, eval e X.env) :: starEach es X.env) (hpl : ∀ X, P X → (backTo pos (starEach es X.env)).any (·.1) = false) :
    OkE C P (.Call (.Name x p) (e :: es) [] pos) (fCall n F g fa) := by
  obtain ⟨t, hp, l⟩ := ha
  obtain ⟨⟨k, f, fd, ps, hc⟩, db⟩ := c
  refine ⟨tCall (spF C n F) [] E0 t, fun X hX => ?_, fun A ρ S Γ σ H Q s Γ' T hf hQ => ?_⟩
  · obtain ⟨h1, h2, h3, h4, h5, h6⟩ := hc X hX
    exact pe_call h1 h2 h3 h4 h5 h6 .nil passL (hp X hX) db (hst X hX) (hpl X hX)
  · obtain ⟨ds, e1, hl, e2⟩ := fCall_some hf
    refine l A ρ S Γ σ H _ ds Γ' T e1 fun vs ρ1 S1 H1 E1 T1 d1 => ?_
    rw [List.append_nil]
    exact ⟨by rw [d1.length]; exact hl, ρ1, S1, g, ds, s, d1, T1.sub, e2, fun v ρ2 S2 H2 p r => hQ v ρ2 S2 H2 (E1.trans p.ext) (T1.call p) (r.toRes T1 fun i a q => ⟨i, q⟩)⟩
theorem ok_callM {n : Nat} {F : FM} {g i : Nat} {x y : Str} {py : Pos} {fa : FL} (c : CallAt P x (spM C n F)) (hy : NameAt P i y) (ha : OkL C P es fa) (hpl : ∀ X, P X → (backTo pos (starEach es X.env)).any (·.1) = false) :
    OkE C P (.Call (.Name x p) (.Name y py :: es) [] pos) (fCallM n F g i fa) := by
  obtain ⟨t, hp, l⟩ := ha
  obtain ⟨⟨k, f, fd, ps, hc⟩, db⟩ := c
  refine ⟨tCall (spM C n F) [] E0 (tCons (tVar i) t), fun X hX => ?_, fun A ρ S Γ σ H Q s Γ' T hf hQ => ?_⟩
  · obtain ⟨h1, h2, h3, h4, h5, h6⟩ := hc X hX
    exact pe_call h1 h2 h3 h4 h5 h6 .nil passL (pa_cons (hy.pe X hX) (hp X hX) rfl) db rfl (hpl X hX)
  · obtain ⟨s0, ⟨t0, xs0⟩, ds, Γ1, s1, tt, xs, xs', e0, e0', e1, e2, e2', hl, e3, rfl⟩ := fCallM_some hf
    obtain ⟨_, a0, vs0, ea0, _⟩ := lists_ok (T.slot i s0 e0) e0'
    refine ⟨.ref a0, join_some ea0, l A ρ S Γ σ H _ ds Γ1 T e1 fun vs ρ1 S1 H1 E1 T1 d1 => ?_⟩
    show spM C n F ((.ref a0 :: vs) ++ []) H1 Q E0
    rw [List.append_nil]
    have k1 := T1.slot i s1 e2
    obtain ⟨ho, a1, us, ea1, ht, hH, hS, hlen, hd⟩ := lists_ok k1 e2'
    rw [ea0] at ea1
    cases ea1
    refine ⟨by rw [List.length_cons, d1.length]; exact hl, ρ1, S1, g, tt, xs, ds, xs', s, a0, us, vs, rfl, hH, hS, ht, hlen, hd, d1, T1.sub, e3, fun v ρ2 S2 H2 us' p2 hH' hS' hl' hd' r => ?_⟩
    rw [ea0] at k1
    obtain ⟨ho', k2⟩ := with_ok k1 e2' (p2.rho a0 _ hH) hH' hS' hl' hd'
    have T2 := T1.callM (us' := us') e2 ho ea0 ho' p2 hS' k2
    refine hQ v ρ2 S2 H2 (E1.trans p2.ext) T2 (r.toRes T1 fun j b q => ?_)
    obtain ⟨z, ez, hz, oz⟩ := q
    rcases get_set ez with ⟨q, rfl, _⟩ | ⟨ne, ez⟩
    · subst q
      exact ⟨i, s1, e2, ho, oz⟩
    · exact ⟨j, z, ez, hz, oz⟩

/-! ### a def by its body -/
def envOf (n : Nat) (ss : List Sl) : Env := ss ++ List.replicate (n - ss.length) .non
def runF (m : Nat) (body : FS) : List D → Option Sl := fun args => match body (envOf m (args.map .sh)) with
  | some (.nx, _) => some (.sh .non)
  | some (.ret s, _) => some s
  | none => none
def runM (m : Nat) (body : FS) (t : Nat) (xs : List D) (args : List D) : Option (Sl × List D) := match body (envOf m (.bor t xs :: args.map .sh)) with
  | some (.nx, Γ) => (match Γ[0]? with
    | some (Sl.bor _ ys) => some (.sh .non, ys)
    | _ => none)
  | some (.ret s, Γ) => (match Γ[0]? with
    | some (Sl.bor _ ys) => some (s, ys)
    | _ => none)
  | none => none
theorem start_len {N : List Str} {vs : List V} (h : vs.length ≤ N.length) : (L2.start N vs).length = N.length := by
  unfold L2.start
  rw [List.length_append, List.length_map, List.length_replicate]
  omega
theorem start_get {N : List Str} {vs : List V} {i : Nat} {v : V} (h : vs[i]? = some v) : (L2.start N vs)[i]?.join = some v := by
  unfold L2.start
  have hl : i < vs.length := (List.getElem?_eq_some_iff.mp h).1
  rw [List.getElem?_append_left (by rw [List.length_map]; exact hl), List.getElem?_map, h]
  rfl
theorem envOf_get {m : Nat} {ss : List Sl} {i : Nat} {s : Sl} (h : (envOf m ss)[i]? = some s) : ss[i]? = some s ∨ s = .non := by
  unfold envOf at h
  by_cases hl : i < ss.length
  · rw [List.getElem?_append_left hl] at h
    exact .inl h
  · rw [List.getElem?_append_right (by omega), List.getElem?_replicate] at h
    split at h
    · cases h; exact .inr rfl
    · cases h
theorem envOf_len {m : Nat} {ss : List Sl} (h : ss.length ≤ m) : (envOf m ss).length = m := by
  unfold envOf
  rw [List.length_append, List.length_replicate]
  omega
/-- the entry, no list lent -/
theorem sto_entry {N : List Str} {vs : List V} {args : List D} {ρ : Addr → Nat} {S H : Hp} (hd : DenL C ρ S args vs) (sb : Sub S H) (hl : vs.length ≤ N.length) : Sto C ⟨ρ, S, H, [], none⟩ ρ S (envOf N.length (args.map .sh)) (L2.start N vs) H := by
  have sg : ∀ (i : Nat) (s : Sl), (envOf N.length (args.map Sl.sh))[i]? = some s → s = .non ∨ ∃ d, args[i]? = some d ∧ s = .sh d := fun i s e => by
    rcases envOf_get e with e | e
    · rw [List.getElem?_map] at e
      cases q : args[i]? with
      | none => rw [q] at e; cases e
      | some d => rw [q] at e; exact .inr ⟨d, rfl, (Option.some.inj e).symm⟩
    · exact .inl e
  have no : ∀ i a, ¬ OwnAt (envOf N.length (args.map Sl.sh)) (L2.start N vs) i a := fun i a ⟨s, e, hs, _⟩ => by
    rcases sg i s e with rfl | ⟨d, _, rfl⟩ <;> cases hs
  refine ⟨sb, ?_, fun i s e => ?_, fun i j a _ h _ => no i a h, fun _ _ e _ => e, Ext.refl, fun _ _ e => .inl e, fun _ _ _ => rfl, fun a o e q => by rw [show H a = some o from e] at q; cases q⟩
  · rw [envOf_len (by rw [List.length_map, ← hd.length]; exact hl), start_len hl]
  · rcases sg i s e with rfl | ⟨d, ed, rfl⟩
    · trivial
    · obtain ⟨v, ev, h⟩ := hd.get i ed
      exact ⟨v, start_get ev, h⟩
/-- the entry with a list lent in slot 0 -/
theorem sto_entryM {N : List Str} {ws : List V} {args xs : List D} {us : List V} {ρ : Addr → Nat} {S H : Hp} {a : Addr} (hd : DenL C ρ S args ws) (sb : Sub S H) (hl : (V.ref a :: ws).length ≤ N.length) (hH : H a = some (.lst us)) (hS : S a = none) (hx : xs.length ≤ lim) (hdx : DenL C ρ S xs us) :
    Sto C ⟨ρ, S, H, [a], some (.ref a)⟩ ρ S (envOf N.length (.bor (ρ a) xs :: args.map .sh)) (L2.start N (.ref a :: ws)) H := by
  have sg : ∀ (i : Nat) (s : Sl), (envOf N.length (Sl.bor (ρ a) xs :: args.map Sl.sh))[i]? = some s → s = .non ∨ (i = 0 ∧ s = .bor (ρ a) xs) ∨ ∃ j d, i = j + 1 ∧ args[j]? = some d ∧ s = .sh d := fun i s e => by
    rcases envOf_get e with e | e
    · cases i with
      | zero => exact .inr (.inl ⟨rfl, by simpa using e.symm⟩)
      | succ j =>
        rw [List.getElem?_cons_succ, List.getElem?_map] at e
        cases q : args[j]? with
        | none => rw [q] at e; cases e
        | some d => rw [q] at e; exact .inr (.inr ⟨j, d, rfl, q, (Option.some.inj e).symm⟩)
    · exact .inl e
  refine ⟨sb, ?_, fun i s e => ?_, fun i j b ne h h' => ?_, fun _ _ e _ => e, Ext.refl, fun _ _ e => .inl e, fun _ _ _ => rfl, fun a o e q => by rw [show H a = some o from e] at q; cases q⟩
  · rw [envOf_len (by rw [List.length_cons, List.length_map, ← hd.length]; exact hl), start_len hl]
  · rcases sg i s e with rfl | ⟨rfl, rfl⟩ | ⟨j, d, rfl, ed, rfl⟩
    · trivial
    · have e0 : (L2.start N (.ref a :: ws))[0]?.join = some (.ref a) := start_get (by rfl)
      rw [e0]
      exact ⟨a, us, rfl, rfl, hH, hS, hx, hdx, .inr (by simp), rfl⟩
    · obtain ⟨v, ev, h⟩ := hd.get j ed
      exact ⟨v, start_get (by simpa using ev), h⟩
  · obtain ⟨s, e, hs, _⟩ := h
    obtain ⟨s', e', hs', _⟩ := h'
    rcases sg i s e with rfl | ⟨rfl, rfl⟩ | ⟨_, d, rfl, _, rfl⟩
    · cases hs
    · rcases sg j s' e' with rfl | ⟨rfl, rfl⟩ | ⟨_, d, rfl, _, rfl⟩
      · cases hs'
      · exact ne rfl
      · cases hs'
    · cases hs
theorem sto_post {ρ ρ' : Addr → Nat} {S S' H H' : Hp} {Γ : Env} {σ : St} (T : Sto C ⟨ρ, S, H, [], none⟩ ρ' S' Γ σ H') : Post ρ S H ρ' S' H' [] :=
  ⟨T.ext0, T.sub, T.frame, fun a o e => (T.news a o e).elim .inl fun k => k.elim .inr fun q => (by cases q), T.rho, T.old⟩
theorem sto_postM {ρ ρ' : Addr → Nat} {S S' H H' : Hp} {Γ : Env} {σ : St} {a : Addr} {t : Nat} {ys : List D} (T : Sto C ⟨ρ, S, H, [a], some (.ref a)⟩ ρ' S' Γ σ H') (e0 : Γ[0]? = some (.bor t ys)) :
    Post ρ S H ρ' S' H' [a] ∧ (∃ us', H' a = some (.lst us') ∧ S' a = none ∧ ys.length ≤ lim ∧ DenL C ρ' S' ys us') ∧ OwnAt Γ σ 0 a := by
  obtain ⟨b, vs, ho, _, hH, hS, hl, hd, _, hb⟩ := T.slot 0 _ e0
  have eb : b = a := by
    have h : (some (V.ref a) : Option V) = σ[0]?.join := hb
    rw [ho] at h
    cases h
    rfl
  subst eb
  refine ⟨⟨T.ext0, T.sub, T.frame, fun c o e => ?_, T.rho, T.old⟩, ⟨vs, hH, hS, hl, hd⟩, ⟨_, e0, rfl, ho⟩⟩
  rcases T.news c o e with k | k | k
  · exact .inl k
  · exact .inr k
  · have : c = b := by simpa using k
    subst this
    rw [hS] at e; cases e
theorem res_ret {A : Act} {ρ' : Addr → Nat} {S' H' : Hp} {Γ : Env} {σ : St} {s : Sl} {v : V} (h : ResOk C A ρ' S' Γ σ H' s v) (hm : ∀ a, (∀ i, ¬ OwnAt Γ σ i a) → (A.H0 a = none ∨ a ∈ A.M) → A.H0 a = none) : RetOk C ρ' S' A.H0 H' s v := by
  obtain ⟨h1, h2, h3, h4, h5⟩ := h
  cases s with
  | non => exact absurd rfl h5
  | sh d =>
    obtain ⟨v', e, h⟩ := h1
    cases e
    exact h
  | own t xs =>
    obtain ⟨a, vs, e, ht, hH, hS, hl, hd, hq⟩ := h1
    cases e
    exact ⟨a, vs, rfl, ht, hH, hS, hl, hd, hm a (fun i => h2 rfl i a rfl) hq⟩
  | ownD t ks xs =>
    obtain ⟨a, vs, e, ht, hH, hS, hl, hk, hd, hq⟩ := h1
    cases e
    exact ⟨a, vs, rfl, ht, hH, hS, hl, hk, hd, hm a (fun i => h2 rfl i a rfl) hq⟩
  | bor t xs => exact absurd rfl (h3 t xs)
  | ini c xs => exact absurd rfl (h4 c xs)
/-- what a body's reading gives at the entry -/
theorem body_reads {n : Nat} {N : List Str} {F : FF} {fb : Nat → FS} {sts : List Stmt} (hF : ∀ g args s, F g args = some s → runF N.length (fb g) args = some s) (hb : ∀ g, OkB C P sts (fb g)) {vs : List V} {H : Hp} {Q : VK} {E : XK} (hn : n ≤ N.length) (h : spF C n F vs H Q E) :
    ∃ t, (∀ X, P X → PSs X sts t) ∧ t { nx := fun _ H' => Q .non H', rt := Q } (L2.start N vs) H := by
  obtain ⟨hlen, ρ, S, g, args, r, hd, sb, hF0, hQ⟩ := h
  obtain ⟨t, hp, k⟩ := hb g
  refine ⟨t, hp, ?_⟩
  have T := sto_entry (N := N) hd sb (by omega)
  have hr := hF g args r hF0
  unfold runF at hr
  split at hr
  · rename_i Γ' e1
    cases hr
    exact k _ ρ S _ _ H _ .nx Γ' T e1 fun σ' ρ' S' H' E' T' => hQ .non ρ' S' H' (sto_post T') (show Den C ρ' S' .non .non from den_non.mpr rfl)
  · rename_i s Γ' e1
    cases hr
    refine k _ ρ S _ _ H _ (.ret r) Γ' T e1 fun v σ' ρ' S' H' E' T' rr => hQ v ρ' S' H' (sto_post T') (res_ret rr fun a _ q => ?_)
    rcases q with q | q
    · exact q
    · cases q
  · cases hr
theorem body_readsM {n : Nat} {N : List Str} {F : FM} {fb : Nat → FS} {sts : List Stmt} (hF : ∀ g t xs args q, F g t xs args = some q → runM N.length (fb g) t xs args = some q) (hb : ∀ g, OkB C P sts (fb g)) {vs : List V} {H : Hp} {Q : VK} {E : XK} (hn : n ≤ N.length) (h : spM C n F vs H Q E) :
    ∃ t, (∀ X, P X → PSs X sts t) ∧ t { nx := fun _ H' => Q .non H', rt := Q } (L2.start N vs) H := by
  obtain ⟨hlen, ρ, S, g, t0, xs, args, xs', r, a, us, ws, rfl, hH, hS, ht, hx, hdx, hd, sb, hF0, hQ⟩ := h
  obtain ⟨t, hp, k⟩ := hb g
  refine ⟨t, hp, ?_⟩
  have T := sto_entryM (N := N) hd sb (by omega) hH hS hx hdx
  rw [ht] at T
  have hr := hF g t0 xs args _ hF0
  unfold runM at hr
  split at hr
  · rename_i Γ' e1
    split at hr
    · rename_i t2 ys e2
      cases hr
      refine k _ ρ S _ _ H _ .nx Γ' T e1 fun σ' ρ' S' H' E' T' => ?_
      obtain ⟨p, ⟨us', k1, k2, k3, k4⟩, _⟩ := sto_postM T' e2
      exact hQ .non ρ' S' H' us' p k1 k2 k3 k4 (show Den C ρ' S' .non .non from den_non.mpr rfl)
    · cases hr
  · rename_i s Γ' e1
    split at hr
    · rename_i t2 ys e2
      cases hr
      refine k _ ρ S _ _ H _ (.ret r) Γ' T e1 fun v σ' ρ' S' H' E' T' rr => ?_
      obtain ⟨p, ⟨us', k1, k2, k3, k4⟩, ow⟩ := sto_postM T' e2
      refine hQ v ρ' S' H' us' p k1 k2 k3 k4 (res_ret rr fun b hb q => ?_)
      rcases q with q | q
      · exact q
      · have : b = a := by simpa using q
        subst this
        exact absurd ow (hb 0)
    · cases hr
  · cases hr
end
end Ev

set_option Elab.async false
set_option linter.all false
set_option maxRecDepth 100000
set_option maxHeartbeats 4000000
namespace Ev
open PySem L2

/-! ### a list in a slot changes -/
section
variable {C : Cf} {P : Cx → Prop} {e : Expr} {es : List Expr} {p pos : Pos} {K : PySem.W.Frag}
/-- x.append(e) -/
def fApp (i : Nat) (f : FD) : FS := fun Γ => match Γ[i]? with
  | none => none
  | some s0 => (match s0.lists with
    | none => none
    | some _ => (match f Γ with
      | none => none
      | some (d, Γ1) => (match Γ1[i]? with
        | none => none
        | some s1 => (match s1.lists with
          | none => none
          | some (_, xs) => if xs.length < lim then some (.nx, Γ1.set i (s1.with (xs ++ [d]))) else none))))
theorem fApp_some {i : Nat} {f : FD} {Γ Γ' : Env} {fl : Fl} (h : fApp i f Γ = some (fl, Γ')) :
    fl = .nx ∧ ∃ s0 q0 d Γ1 s1 t xs, Γ[i]? = some s0 ∧ s0.lists = some q0 ∧ f Γ = some (d, Γ1) ∧ Γ1[i]? = some s1 ∧ s1.lists = some (t, xs) ∧ xs.length < lim ∧ Γ' = Γ1.set i (s1.with (xs ++ [d])) := by
  unfold fApp at h
  split at h
  · cases h
  · rename_i s0 e0
    split at h
    · cases h
    · rename_i q0 e1
      split at h
      · cases h
      · rename_i d Γ1 e2
        split at h
        · cases h
        · rename_i s1 e3
          split at h
          · cases h
          · rename_i t xs e4
            split at h
            · rename_i hl
              cases h
              exact ⟨rfl, s0, q0, d, Γ1, s1, t, xs, e0, e1, e2, e3, e4, hl, rfl⟩
            · cases h
theorem ok_append {i : Nat} {x : Str} {px apos cpos : Pos} {f : FD} (hK : ∀ X, P X → X.K = K) (hx : NameAt P i x) (h : OkD C P e f) (hst : ∀ X, P X → starEach [e] X.env = [(false, eval e X.env)]) (hline : (apos.endLine == cpos.line) = true) :
    OkS C P (.Expr (.Call (.Attribute (.Name x px) "append" apos) [e] [] cpos) pos) (fApp i f) := by
  obtain ⟨t, hp, k⟩ := h
  refine ⟨tDrop (tBM K "list" rAppend (tVar i) (tCons t tNil)), fun X hX => ps_expr (by
    rw [← hK X hX]
    exact pe_bm PySem.F.plainAttrs_list PySem.F.slot_list_append PySem.F.type_list_append mt_append (hx.pe X hX) (pa_cons (hp X hX) pa_nil (hst X hX)) rfl (by
      rw [hst X hX]; rfl) hline (hst X hX) rfl) rfl, fun A ρ S Γ σ H D fl Γ' T hf hW => ?_⟩
  obtain ⟨rfl, s0, ⟨t0, xs0⟩, d, Γ1, s1, tt, xs, e0, e0', e1, e2, e2', hl, rfl⟩ := fApp_some hf
  obtain ⟨_, a0, vs0, ea0, _, hH0, _⟩ := lists_ok (T.slot i s0 e0) e0'
  refine ⟨.ref a0, join_some ea0, .inl ⟨rfl, vs0, SqL.of hH0⟩, k A ρ S Γ σ H _ d Γ1 T e1 fun v ρ1 S1 H1 E1 T1 d1 => ?_⟩
  have k1 := T1.slot i s1 e2
  obtain ⟨ho, a1, us, ea1, ht, hH, hS, hlen, hd⟩ := lists_ok k1 e2'
  rw [ea0] at ea1
  cases ea1
  rw [ea0] at k1
  refine ⟨a0, us, v, rfl, rfl, hH, by rw [hd.length]; exact Nat.lt_trans hl lim_lt, ?_⟩
  obtain ⟨ho', k2⟩ := with_ok (ρ' := ρ1) (S' := S1) (H' := upd H1 a0 (.lst (us ++ [v]))) (xs' := xs ++ [d]) (vs' := us ++ [v]) k1 e2' rfl upd_same hS (by rw [List.length_append, List.length_singleton]; exact hl) (hd.append (denL_cons.mpr ⟨d1, denL_nil.mpr rfl⟩))
  exact hW σ ρ1 S1 _ E1 (T1.put e2 ho ea0 ho' k2)
/-- x[k] = e, x a list -/
def fSetI (i : Nat) (fk fe : FD) : FS := fun Γ => match Γ[i]? with
  | none => none
  | some s0 => (match s0.lists with
    | none => none
    | some _ => (match fe Γ with
      | none => none
      | some (d, Γ1) => (match fk Γ1 with
        | some (.int k, Γ2) => (match Γ2[i]? with
          | none => none
          | some s1 => (match s1.lists with
            | none => none
            | some (_, xs) => (match ixN xs.length k with
              | none => none
              | some j => some (.nx, Γ2.set i (s1.with (xs.set j d))))))
        | _ => none)))
theorem fSetI_some {i : Nat} {fk fe : FD} {Γ Γ' : Env} {fl : Fl} (h : fSetI i fk fe Γ = some (fl, Γ')) :
    fl = .nx ∧ ∃ s0 q0 d Γ1 k Γ2 s1 t xs j, Γ[i]? = some s0 ∧ s0.lists = some q0 ∧ fe Γ = some (d, Γ1) ∧ fk Γ1 = some (.int k, Γ2) ∧ Γ2[i]? = some s1 ∧ s1.lists = some (t, xs) ∧ ixN xs.length k = some j ∧ Γ' = Γ2.set i (s1.with (xs.set j d)) := by
  unfold fSetI at h
  split at h
  · cases h
  · rename_i s0 e0
    split at h
    · cases h
    · rename_i q0 e1
      split at h
      · cases h
      · rename_i d Γ1 e2
        split at h
        · rename_i k Γ2 ek
          split at h
          · cases h
          · rename_i s1 e3
            split at h
            · cases h
            · rename_i t xs e4
              split at h
              · cases h
              · rename_i j ej
                cases h
                exact ⟨rfl, s0, q0, d, Γ1, k, Γ2, s1, t, xs, j, e0, e1, e2, ek, e3, e4, ej, rfl⟩
        · cases h
theorem ok_setI {i : Nat} {x : Str} {ix : Expr} {px ps : Pos} {fk fe : FD} (hx : NameAt P i x) (hk : OkD C P ix fk) (h : OkD C P e fe) (hs : ∀ X, P X → swapsWithSole [.Subscript (.Name x px) ix ps] e pos.line X.env = pure false) (hw : ∀ X, P X → swappedStores [.Subscript (.Name x px) ix ps] e X.env = pure none)
    (ha : ∀ X, P X → ∀ v, assign (.Subscript (.Name x px) ix ps) X.env v = (do
      let ov ← holding [v] (eval (.Name x px) X.env)
      let iv ← holding [v, ov] (eval ix X.env)
      standAt ps
      holding [v, ov, iv] (setItem ov iv v)
      release [v, ov, iv] [])) :
    OkS C P (.Assign [.Subscript (.Name x px) ix ps] e pos) (fSetI i fk fe) := by
  obtain ⟨t, hp, k⟩ := h
  obtain ⟨u, hq, l⟩ := hk
  refine ⟨_, fun X hX => ps_asg (hp X hX) (pg_sub (hx.pe X hX) (hq X hX) set_list (ha X hX)) (hs X hX) (hw X hX) rfl, fun A ρ S Γ σ H D fl Γ' T hf hW => ?_⟩
  obtain ⟨rfl, s0, ⟨t0, xs0⟩, d, Γ1, kk, Γ2, s1, tt, xs, j, e0, e0', e1, ek, e2, e2', ej, rfl⟩ := fSetI_some hf
  obtain ⟨_, a0, vs0, ea0, _, hH0, _⟩ := lists_ok (T.slot i s0 e0) e0'
  refine k A ρ S Γ σ H _ d Γ1 T e1 fun v ρ1 S1 H1 E1 T1 d1 => ⟨.ref a0, join_some ea0, l A ρ1 S1 Γ1 σ H1 _ _ Γ2 T1 ek fun w ρ2 S2 H2 E2 T2 d2 => ?_⟩
  have k1 := T2.slot i s1 e2
  obtain ⟨ho, a1, us, ea1, ht, hH, hS, hlen, hd⟩ := lists_ok k1 e2'
  rw [ea0] at ea1
  cases ea1
  rw [ea0] at k1
  refine ⟨a0, us, kk, j, rfl, den_int.mp d2, hH, by rw [hd.length]; exact ej, ?_⟩
  obtain ⟨ho', k2⟩ := with_ok (ρ' := ρ2) (S' := S2) (H' := upd H2 a0 (.lst (us.set j v))) (xs' := xs.set j d) (vs' := us.set j v) k1 e2' rfl upd_same hS (by rw [List.length_set]; exact hlen) (hd.set j (d1.mono E2))
  exact hW σ ρ2 S2 _ (E1.trans E2) (T2.put e2 ho ea0 ho' k2)
/-- d[k] = e, d a dict of the def's own -/
def putD : List Key → List D → Key → D → List Key × List D
  | k :: ks, x :: xs, q, d => if k = q then (k :: ks, d :: xs) else ((k :: (putD ks xs q d).1), (x :: (putD ks xs q d).2))
  | _, _, q, d => ([q], [d])
theorem putD_len : ∀ {ks : List Key} {xs : List D} {q : Key} {d : D}, ks.length = xs.length → (putD ks xs q d).1.length = (putD ks xs q d).2.length ∧ (putD ks xs q d).2.length ≤ xs.length + 1
  | [], [], q, d, _ => by unfold putD; exact ⟨rfl, by simp⟩
  | [], _ :: _, _, _, h => by cases h
  | _ :: _, [], _, _, h => by cases h
  | k :: ks, x :: xs, q, d, h => by
    have ih := putD_len (ks := ks) (xs := xs) (q := q) (d := d) (by simpa using h)
    unfold putD
    split
    · exact ⟨by simpa using h, by simp⟩
    · simp only [List.length_cons]
      omega
theorem putK_hit {q : Key} {k : Key} {u v : V} {r : List (Key × V)} (h : k = q) (hr : ∀ p ∈ r, p.1 ≠ q) : putK ((k, u) :: r) q v = (k, v) :: r := by
  unfold putK
  rw [if_pos (by simp [h])]
  rw [List.map_cons]
  congr 1
  · simp [h]
  · rw [List.map_congr_left (g := id) (fun p hp => by simp [hr p hp])]
    simp
theorem putK_miss {q : Key} {k : Key} {u v : V} {r : List (Key × V)} (h : ¬ k = q) : putK ((k, u) :: r) q v = (k, u) :: putK r q v := by
  unfold putK
  rw [List.any_cons]
  simp only [decide_eq_false h, Bool.false_or]
  split
  · rw [List.map_cons]
    simp [h]
  · rfl
theorem putD_den {ρ : Addr → Nat} {S : Hp} {q : Key} {d : D} {v : V} (hv : Den C ρ S d v) : ∀ {ks : List Key} {xs : List D} {vs : List V}, ks.Nodup → ks.length = xs.length → DenL C ρ S xs vs →
    ∃ vs', putK (ks.zip vs) q v = (putD ks xs q d).1.zip vs' ∧ DenL C ρ S (putD ks xs q d).2 vs'
  | [], [], vs, _, _, h => by
    rw [denL_nil.mp h]
    exact ⟨[v], rfl, denL_cons.mpr ⟨hv, denL_nil.mpr rfl⟩⟩
  | [], _ :: _, _, _, hl, _ => by cases hl
  | _ :: _, [], _, _, hl, _ => by cases hl
  | k :: ks, x :: xs, vs, nd, hl, h => by
    unfold DenL at h
    obtain ⟨u, r, rfl, h1, h2⟩ := h
    rw [List.nodup_cons] at nd
    rw [List.zip_cons_cons]
    by_cases e : k = q
    · have e1 : putD (k :: ks) (x :: xs) q d = (k :: ks, d :: xs) := if_pos e
      rw [e1, putK_hit e (fun p hp => by
        have := List.of_mem_zip (a := p.1) (b := p.2) hp
        intro e2
        exact nd.1 (by rw [e, ← e2]; exact this.1))]
      exact ⟨v :: r, rfl, denL_cons.mpr ⟨hv, h2⟩⟩
    · have e1 : putD (k :: ks) (x :: xs) q d = ((k :: (putD ks xs q d).1), (x :: (putD ks xs q d).2)) := if_neg e
      obtain ⟨vs', h3, h4⟩ := putD_den hv (ks := ks) (xs := xs) (vs := r) nd.2 (by simpa using hl) h2
      rw [e1, putK_miss e, h3]
      exact ⟨u :: vs', rfl, denL_cons.mpr ⟨h1, h4⟩⟩
def fSetK (i : Nat) (fk fe : FD) : FS := fun Γ => match Γ[i]? with
  | some (Sl.ownD _ _ _) => (match fe Γ with
    | none => none
    | some (d, Γ1) => (match fk Γ1 with
      | none => none
      | some (dk, Γ2) => (match dk.key with
        | none => none
        | some q => (match Γ2[i]? with
          | some (Sl.ownD t ks xs) => if xs.length < lim ∧ ks.Nodup then some (.nx, Γ2.set i (.ownD t (putD ks xs q d).1 (putD ks xs q d).2)) else none
          | _ => none))))
  | _ => none
theorem fSetK_some {i : Nat} {fk fe : FD} {Γ Γ' : Env} {fl : Fl} (h : fSetK i fk fe Γ = some (fl, Γ')) :
    fl = .nx ∧ ∃ t0 ks0 xs0 d Γ1 dk Γ2 q t ks xs, Γ[i]? = some (.ownD t0 ks0 xs0) ∧ fe Γ = some (d, Γ1) ∧ fk Γ1 = some (dk, Γ2) ∧ dk.key = some q ∧ Γ2[i]? = some (.ownD t ks xs) ∧ xs.length < lim ∧ ks.Nodup ∧ Γ' = Γ2.set i (.ownD t (putD ks xs q d).1 (putD ks xs q d).2) := by
  unfold fSetK at h
  split at h
  · rename_i t0 ks0 xs0 e0
    split at h
    · cases h
    · rename_i d Γ1 e1
      split at h
      · cases h
      · rename_i dk Γ2 e2
        split at h
        · cases h
        · rename_i q eq
          split at h
          · rename_i t ks xs e3
            split at h
            · rename_i c
              cases h
              exact ⟨rfl, t0, ks0, xs0, d, Γ1, dk, Γ2, q, t, ks, xs, e0, e1, e2, eq, e3, c.1, c.2, rfl⟩
            · cases h
          · cases h
  · cases h
theorem ok_setK {i : Nat} {x : Str} {ix : Expr} {px ps : Pos} {fk fe : FD} (hu : ∀ X, P X → X.A.units + 1 < cLine) (hx : NameAt P i x) (hk : OkD C P ix fk) (h : OkD C P e fe) (hs : ∀ X, P X → swapsWith e (some (.Subscript (.Name x px) ix ps)) pos.line X.env = pure false) :
    OkS C P (.Assign [.Subscript (.Name x px) ix ps] e pos) (fSetK i fk fe) := by
  obtain ⟨t, hp, k⟩ := h
  obtain ⟨u, hq, l⟩ := hk
  refine ⟨_, fun X hX => ps_dput (hu X hX) (hx.pe X hX) (hq X hX) (hp X hX) (hs X hX), fun A ρ S Γ σ H D fl Γ' T hf hW => ?_⟩
  obtain ⟨rfl, t0, ks0, xs0, d, Γ1, dk, Γ2, q, tt, ks, xs, e0, e1, ek, eq, e2, hl, nd, rfl⟩ := fSetK_some hf
  obtain ⟨a0, vs0, ea0, _⟩ := T.slot i _ e0
  refine k A ρ S Γ σ H _ d Γ1 T e1 fun v ρ1 S1 H1 E1 T1 d1 => ⟨.ref a0, join_some ea0, l A ρ1 S1 Γ1 σ H1 _ _ Γ2 T1 ek fun w ρ2 S2 H2 E2 T2 d2 => ?_⟩
  obtain ⟨a1, us, ea1, ht, hH, hS, hlen, hk, hd, h0⟩ := T2.slot i _ e2
  rw [ea0] at ea1
  cases ea1
  obtain ⟨us', e3, hd'⟩ := putD_den (d1.mono E2) (q := q) nd hk hd
  obtain ⟨pl1, pl2⟩ := putD_len (q := q) (d := d) hk
  refine ⟨a0, upd H2 a0 (.dK (putK (ks.zip us) q v)), rfl, ?_, ?_⟩
  · rw [key_den (d2.one T2.sub) eq]
    exact DPut.k hH (by rw [List.length_zip, hd.length, hk, Nat.min_self]; exact Nat.lt_trans hl lim_lt)
  · refine hW σ ρ2 S2 _ (E1.trans E2) (T2.put e2 rfl ea0 rfl ⟨a0, us', rfl, ht, by rw [upd_same, e3], hS, by omega, pl1, hd', h0⟩)
end
end Ev

set_option Elab.async false
set_option linter.all false
set_option maxRecDepth 100000
set_option maxHeartbeats 4000000
namespace Ev
open PySem L2

/-! ### slices -/
abbrev FO := Env → Option (Option Int × Env)
def OkP (C : Cf) (P : Cx → Prop) (e : Option Expr) (f : FO) : Prop := ∃ t : TO, (∀ X, P X → PO X e t) ∧ ∀ (A : Act) (ρ : Addr → Nat) (S : Hp) (Γ : Env) (σ : St) (H : Hp) (Q : Option Int → Hp → Prop) (o : Option Int) (Γ' : Env), Sto C A ρ S Γ σ H → f Γ = some (o, Γ') →
  (∀ ρ' S' H', Ext ρ S ρ' S' → Sto C A ρ' S' Γ' σ H' → Q o H') → t σ H Q
def fNoPart : FO := fun Γ => some (none, Γ)
def fPart (f : FD) : FO := fun Γ => match f Γ with
  | some (.int i, Γ1) => some (some i, Γ1)
  | _ => none
def cutD {α : Type} (xs : List α) (lo hi : Option Int) : List α := (xs.drop (HT.sIx xs.length 0 lo)).take (HT.sIx xs.length xs.length hi - HT.sIx xs.length 0 lo)
theorem cutD_length {α : Type} (xs : List α) (lo hi : Option Int) : (cutD xs lo hi).length ≤ xs.length := by
  unfold cutD
  rw [List.length_take, List.length_drop]
  omega
def dSl (g : Nat) (d : D) (lo hi : Option Int) : Option Sl := match d with
  | .lst _ xs => some (.own g (cutD xs lo hi))
  | .tup xs => some (.sh (.tup (cutD xs lo hi)))
  | .str z => if z.length ≤ lim then some (.sh (.str (cutS z lo hi))) else none
  | .scr ns => if ns.length ≤ lim then some (.own g ((cutD ns lo hi).map .int)) else none
  | _ => none
def rSlAll (K : PySem.W.Frag) : V → Option Int → Option Int → Hp → VK → Prop := fun x lo hi H Q => (rSlL K x lo hi H Q ∨ rSlA K x lo hi H Q) ∨ rSlS x lo hi H Q
section
variable {C : Cf} {P : Cx → Prop} {a e : Expr} {pos p2 : Pos} {K : PySem.W.Frag}
theorem ok_po0 : OkP C P none fNoPart := ⟨_, fun X hX => po_none, fun A ρ S Γ σ H Q o Γ' T hf hQ => by cases hf; exact hQ ρ S H Ext.refl T⟩
theorem ok_po1 {f : FD} (h : OkD C P e f) : OkP C P (some e) (fPart f) := by
  obtain ⟨t, hp, k⟩ := h
  refine ⟨_, fun X hX => po_some (hp X hX), fun A ρ S Γ σ H Q o Γ' T hf hQ => ?_⟩
  unfold fPart at hf
  split at hf
  · rename_i i Γ1 e1
    cases hf
    exact k A ρ S Γ σ H _ _ _ T e1 fun v ρ1 S1 H1 E1 T1 d1 => ⟨i, den_int.mp d1, hQ ρ1 S1 H1 E1 T1⟩
  · cases hf
theorem cut_den {ρ : Addr → Nat} {S : Hp} {ds : List D} {vs : List V} (h : DenL C ρ S ds vs) (lo hi : Option Int) : DenL C ρ S (cutD ds lo hi) (cutV vs lo hi) := by
  unfold cutD cutV
  rw [h.length]
  exact (h.drop _).take _
theorem denL_ints {ρ : Addr → Nat} {S : Hp} : ∀ ns : List Int, DenL C ρ S (ns.map D.int) (ns.map V.int)
  | [] => denL_nil.mpr rfl
  | n :: r => denL_cons.mpr ⟨den_int.mpr rfl, denL_ints r⟩
theorem snd_sl (g : Nat) {A : Act} {ρ : Addr → Nat} {S : Hp} {Γ : Env} {σ : St} {H : Hp} {x : V} {d : D} {lo hi : Option Int} {s : Sl} {Q : VK} (T : Sto C A ρ S Γ σ H) (hx : Den1 C ρ S H d x) (hF : dSl g d lo hi = some s)
    (hQ : ∀ v ρ' S' H', Ext ρ S ρ' S' → Sto C A ρ' S' Γ σ H' → ResOk C A ρ' S' Γ σ H' s v → Q v H') : rSlAll K x lo hi H Q := by
  cases d with
  | lst t xs =>
    cases hF
    obtain ⟨a, vs, rfl, _, ha, hl, r⟩ := hx
    refine .inl (.inl ⟨a, vs, rfl, SqL.of ha, fun p hp => ?_⟩)
    obtain ⟨E2, T2, rr⟩ := new_lst T hp g (Nat.le_trans (cutD_length _ _ _) hl) (cut_den r lo hi)
    exact hQ _ _ _ _ E2 T2 rr
  | tup xs =>
    cases hF
    have hx' : Den C ρ S (.tup xs) x := hx
    obtain ⟨a, vs, rfl, ha, hl, r⟩ := den1_tup hx
    refine .inl (.inr ⟨a, vs, rfl, SqT.of (T.sub _ _ ha), fun hw => ?_, fun _ p hp => ?_⟩)
    · have e1 : cutD xs lo hi = xs := by
        unfold cutD
        rw [r.length] at hw
        rw [hw.1, hw.2]
        simp
      rw [e1] at hQ
      exact hQ _ ρ S H Ext.refl T (.sh hx')
    · obtain ⟨T2, E2, sp, h0, hn⟩ := T.lay hp (.tup (cutV vs lo hi)) 0
      obtain ⟨T3, E3⟩ := T2.pub upd_same sp (.inl h0) hn
      refine hQ _ _ _ _ (E2.trans E3) T3 (.sh ?_)
      unfold Den
      exact ⟨p, _, rfl, upd_same, Nat.le_trans (cutD_length _ _ _) hl, (cut_den r lo hi).mono (E2.trans E3)⟩
  | str z =>
    obtain ⟨c, rfl⟩ := if_some (show (if z.length ≤ lim then some (Sl.sh (.str (cutS z lo hi))) else none) = some s from hF)
    exact .inr ⟨z, den1_str hx, Nat.le_trans c (Nat.le_of_lt lim_lt), hQ _ ρ S H Ext.refl T (.sh (den_str.mpr rfl))⟩
  | scr ns =>
    obtain ⟨c, rfl⟩ := if_some (show (if ns.length ≤ lim then some (Sl.own g ((cutD ns lo hi).map .int)) else none) = some s from hF)
    have hx : Den C ρ S (.scr ns) x := hx
    unfold Den at hx
    obtain ⟨a, rfl, ha⟩ := hx
    refine .inl (.inl ⟨a, _, rfl, .inl (T.sub.rd ha), fun p hp => ?_⟩)
    have ec : cutV (ns.map V.int) lo hi = (cutD ns lo hi).map V.int := by
      unfold cutV cutD
      rw [List.length_map, List.map_take, List.map_drop]
    rw [ec]
    obtain ⟨E2, T2, rr⟩ := new_lst T hp g (vs := (cutD ns lo hi).map V.int) (ds := (cutD ns lo hi).map D.int) (by rw [List.length_map]; exact Nat.le_trans (cutD_length _ _ _) c) (denL_ints _)
    exact hQ _ _ _ _ E2 T2 rr
  | _ => cases hF
def fSlice (g : Nat) (f : FD) (fl fh : FO) : FE := fun Γ => match f Γ with
  | none => none
  | some (d, Γ1) => (match fl Γ1 with
    | none => none
    | some (lo, Γ2) => (match fh Γ2 with
      | none => none
      | some (hi, Γ3) => (match dSl g d lo hi with
        | none => none
        | some s => some (s, Γ3))))
theorem fSlice_some {g : Nat} {f : FD} {fl fh : FO} {Γ Γ' : Env} {s : Sl} (h : fSlice g f fl fh Γ = some (s, Γ')) : ∃ d Γ1 lo Γ2 hi, f Γ = some (d, Γ1) ∧ fl Γ1 = some (lo, Γ2) ∧ fh Γ2 = some (hi, Γ') ∧ dSl g d lo hi = some s := by
  unfold fSlice at h
  split at h
  · cases h
  · rename_i d Γ1 e1
    split at h
    · cases h
    · rename_i lo Γ2 e2
      split at h
      · cases h
      · rename_i hi Γ3 e3
        split at h
        · cases h
        · rename_i s' e4
          cases h
          exact ⟨d, Γ1, lo, Γ2, hi, e1, e2, e3, e4⟩
theorem ok_slice {g : Nat} {lo hi : Option Expr} {f : FD} {fl fh : FO} (hK : ∀ X, P X → X.K = K) (ha : OkD C P a f) (hl : OkP C P lo fl) (hh : OkP C P hi fh) : OkE C P (.Subscript a (.Slice lo hi none p2) pos) (fSlice g f fl fh) := by
  obtain ⟨t, hp, k⟩ := ha
  obtain ⟨u, hq, l⟩ := hl
  obtain ⟨w, hr, m⟩ := hh
  refine ⟨tSl (rSlAll K) t u w, fun X hX => by rw [← hK X hX]; exact pe_slice ((sl_list.or sl_tupA).or sl_str) (hp X hX) (hq X hX) (hr X hX), fun A ρ S Γ σ H Q s Γ' T hf hQ => ?_⟩
  obtain ⟨d, Γ1, lo', Γ2, hi', e1, e2, e3, e4⟩ := fSlice_some hf
  refine k A ρ S Γ σ H _ d Γ1 T e1 fun v ρ1 S1 H1 E1 T1 d1 => l A ρ1 S1 Γ1 σ H1 _ _ Γ2 T1 e2 fun ρ2 S2 H2 E2 T2 => m A ρ2 S2 Γ2 σ H2 _ _ Γ' T2 e3 fun ρ3 S3 H3 E3 T3 => ?_
  exact snd_sl g T3 ((d1.mono (E2.trans E3)).one T3.sub) e4 fun v ρ4 S4 H4 E4 T4 r => hQ v ρ4 S4 H4 (((E1.trans E2).trans E3).trans E4) T4 r
def fSliceP (g i : Nat) (fl fh : FO) : FE := fun Γ => match fSee i Γ with
  | none => none
  | some _ => (match fl Γ with
    | none => none
    | some (lo, Γ2) => (match fh Γ2 with
      | none => none
      | some (hi, Γ3) => (match fSee i Γ3 with
        | none => none
        | some (d, _) => (match dSl g d lo hi with
          | none => none
          | some s => some (s, Γ3)))))
theorem fSliceP_some {g i : Nat} {fl fh : FO} {Γ Γ' : Env} {s : Sl} (h : fSliceP g i fl fh Γ = some (s, Γ')) : ∃ d0 lo Γ2 hi d, fSee i Γ = some (d0, Γ) ∧ fl Γ = some (lo, Γ2) ∧ fh Γ2 = some (hi, Γ') ∧ fSee i Γ' = some (d, Γ') ∧ dSl g d lo hi = some s := by
  unfold fSliceP at h
  split at h
  · cases h
  · rename_i q e0
    obtain ⟨d0, Γ0⟩ := q
    have := (fSee_some e0).1
    subst this
    split at h
    · cases h
    · rename_i lo Γ2 e2
      split at h
      · cases h
      · rename_i hi Γ3 e3
        split at h
        · cases h
        · rename_i d Γ4 e5
          have := (fSee_some e5).1
          subst this
          split at h
          · cases h
          · rename_i s' e4
            cases h
            exact ⟨d0, lo, Γ2, hi, d, e0, e2, e3, e5, e4⟩
theorem ok_sliceP {g i : Nat} {x : Str} {px : Pos} {lo hi : Option Expr} {fl fh : FO} (hK : ∀ X, P X → X.K = K) (hn : NameAt P i x) (hl : OkP C P lo fl) (hh : OkP C P hi fh) : OkE C P (.Subscript (.Name x px) (.Slice lo hi none p2) pos) (fSliceP g i fl fh) := by
  obtain ⟨u, hq, l⟩ := hl
  obtain ⟨w, hr, m⟩ := hh
  refine ⟨tSl (rSlAll K) (tVar i) u w, fun X hX => by rw [← hK X hX]; exact pe_slice ((sl_list.or sl_tupA).or sl_str) (hn.pe X hX) (hq X hX) (hr X hX), fun A ρ S Γ σ H Q s Γ' T hf hQ => ?_⟩
  obtain ⟨d0, lo', Γ2, hi', d, e0, e2, e3, e5, e4⟩ := fSliceP_some hf
  obtain ⟨_, sl0, e01, e02⟩ := fSee_some e0
  obtain ⟨v, hv, _⟩ := T.see e01 e02
  refine ⟨v, hv, l A ρ S Γ σ H _ _ Γ2 T e2 fun ρ2 S2 H2 E2 T2 => m A ρ2 S2 Γ2 σ H2 _ _ Γ' T2 e3 fun ρ3 S3 H3 E3 T3 => ?_⟩
  obtain ⟨_, sl, e11, e12⟩ := fSee_some e5
  obtain ⟨v', h5, h6⟩ := T3.see e11 e12
  rw [hv] at h5
  cases h5
  exact snd_sl g T3 h6 e4 fun v ρ4 S4 H4 E4 T4 r => hQ v ρ4 S4 H4 ((E2.trans E3).trans E4) T4 r

/-! ### two arguments: max, min -/
def fOp2L (F : D → D → Option Sl) (fa : FL) : FE := fun Γ => match fa Γ with
  | some ([d, e], Γ1) => (match F d e with
    | some s => some (s, Γ1)
    | none => none)
  | _ => none
def iMax (i j : Int) : Option D := some (.int (if j > i then j else i))
theorem ok_call2 {b : Expr} {id : String} {x : Str} {p : Pos} {r : List V → Hp → VK → Prop} {F : Int → Int → Option D} {fa : FL} (hc : ∀ X, P X → CallR X (.builtin id) r) (hs : ∀ i j d H Q, F i j = some d → (∀ v, (∀ (C : Cf) ρ S, Den C ρ S d v) → Q v H) → r [.int i, .int j] H Q)
    (hg : ∀ X, P X → Gl X x) (hm : ∀ X, P X → X.mg x = none) (hv : bootBuiltins x = some (.builtin id)) (hn : x ≠ "__name__") (hdb : (x == ("__debug__" : Str)) = false)
    (hst : ∀ X, P X → starEach [a, b] X.env = (false, eval a X.env) :: starEach [b] X.env) (hpl : ∀ X, P X → (backTo pos (starEach [b] X.env)).any (·.1) = false) (ha : OkL C P [a, b] fa) : OkE C P (.Call (.Name x p) [a, b] [] pos) (fOp2L (onInts F) fa) := by
  obtain ⟨t, hp, l⟩ := ha
  refine ⟨_, fun X hX => pe_callB (hc X hX) (hg X hX) (hm X hX) hv (hp X hX) hn hdb (hst X hX) (hpl X hX), fun A ρ S Γ σ H Q s Γ' T hf hQ => ?_⟩
  unfold fOp2L at hf
  split at hf
  · rename_i d e Γ1 e1
    split at hf
    · rename_i s' e2
      cases hf
      refine l A ρ S Γ σ H _ _ _ T e1 fun vs ρ1 S1 H1 E1 T1 d1 => ?_
      unfold DenL at d1
      obtain ⟨v, r1, rfl, h1, d1⟩ := d1
      unfold DenL at d1
      obtain ⟨w, r2, rfl, h2, d1⟩ := d1
      have := denL_nil.mp d1
      subst this
      cases d with
      | int i =>
        cases e with
        | int j =>
          rw [den_int.mp h1, den_int.mp h2]
          have e2 : (match F i j with | some d => some (Sl.sh d) | none => none) = some s := e2
          split at e2
          · rename_i d' e3
            cases e2
            exact hs i j d' H1 Q e3 fun v hv => hQ v ρ1 S1 H1 E1 T1 (.sh (hv _ _ _))
          · cases e2
        | _ => cases e2
      | _ => cases e2
    · cases hf
  · cases hf
theorem max2_snd : ∀ i j d H (Q : VK), iMax i j = some d → (∀ v, (∀ (C : Cf) ρ S, Den C ρ S d v) → Q v H) → ∃ i' j', [V.int i, V.int j] = [.int i', .int j'] ∧ Q (.int (if j' > i' then j' else i')) H :=
  fun i j d H Q h k => by cases h; exact ⟨i, j, rfl, k _ fun C ρ S => den_int.mpr rfl⟩
/-! ### methods of ints and texts: bit_length, split -/
def dBits : D → Option Sl
  | .int i => some (.sh (.int (Builtin.Int.intBits i : Nat)))
  | _ => none
theorem ok_bits {apos : Pos} {f : FD} (h : OkO C P a f) (hb : ∀ X, P X → attributeBase a "bit_length" X.env (eval a X.env) = eval a X.env) (hline : (apos.endLine == pos.line) = true) : OkE C P (.Call (.Attribute a "bit_length" apos) [] [] pos) (fOp1 dBits f) := by
  refine ok_one (r := fun xs H Q => ∃ i, xs = [.int i] ∧ Q (.int (Builtin.Int.intBits i : Nat)) H) ?_ h fun ta h => ⟨_, fun X hX => pe_bits (h X hX) (hb X hX) hline, ?_⟩
  · intro A ρ S Γ σ H x d s Q T hx hF hQ
    cases d with
    | int i => cases hF; rw [den1_int hx]; exact ⟨i, rfl, hQ _ ρ S H Ext.refl T (.sh (den_int.mpr rfl))⟩
    | _ => cases hF
  · intro σ H Q q
    have e : (fun (x : V) (H1 : Hp) => ∃ i, [x] = [V.int i] ∧ Q (.int (Builtin.Int.intBits i : Nat)) H1) = fun x H1 => ∃ i, x = .int i ∧ Q (.int (Builtin.Int.intBits i : Nat)) H1 := by
      funext x H1
      apply propext
      exact ⟨fun ⟨i, e, q⟩ => ⟨i, by simpa using e, q⟩, fun ⟨i, e, q⟩ => ⟨i, by rw [e], q⟩⟩
    show ta σ H fun x H1 => ∃ i, x = .int i ∧ Q (.int (Builtin.Int.intBits i : Nat)) H1
    rw [← e]
    exact q
theorem denL_strs {ρ : Addr → Nat} {S : Hp} : ∀ ns : List Str, DenL C ρ S (ns.map D.str) (ns.map V.str)
  | [] => denL_nil.mpr rfl
  | n :: r => denL_cons.mpr ⟨den_str.mpr rfl, denL_strs r⟩
/-! sorted(texts), fewer than 64 -/
def strsOf : List D → Option (List Str)
  | [] => some []
  | .str i :: r => (match strsOf r with
    | some ns => some (i :: ns)
    | none => none)
  | _ :: _ => none
theorem strsOf_den {ρ : Addr → Nat} {S : Hp} : ∀ {ds : List D} {vs : List V} {ns : List Str}, DenL C ρ S ds vs → strsOf ds = some ns → vs = ns.map V.str
  | [], vs, ns, h, e => by cases e; rw [denL_nil.mp h]; rfl
  | d :: r, vs, ns, h, e => by
    unfold DenL at h
    obtain ⟨v, ws, rfl, h1, h2⟩ := h
    cases d with
    | str i =>
      have e : (match strsOf r with | some ns => some (i :: ns) | none => none) = some ns := e
      split at e
      · rename_i ms em
        cases e
        rw [den_str.mp h1, strsOf_den h2 em]
        rfl
      · cases e
    | _ => cases e
end
end Ev

set_option Elab.async false
set_option linter.all false
set_option maxRecDepth 100000
set_option maxHeartbeats 4000000
namespace Ev
open PySem L2

/-! ### own classes -/
structure InsFact (C : Cf) (K : PySem.W.Frag) (c : Nat) : Prop where
  cl : Cls K (C.at_ c)
  nd : (C.fs c).Nodup
  no : ∀ f ∈ C.fs c, NoAttr K (C.at_ c) f
  ha : PySem.W.findIn K (.ref (C.at_ c)) "__class__" = some (some (.builtin "object.__class__"))
  hn : PySem.W.specialIn K (.builtin "object.__class__") "__get__" = some (some (.builtin "getset_descriptor.__get__"))
  htk : PySem.W.takesIn K (.builtin "object.__class__") = some true
  hm : PySem.W.mroIn K (C.at_ c) (.type "object") = some true
  few : (C.fs c).length < 1000
theorem lookup_zip {f : Str} {v : V} : ∀ {ns : List Str} {vs : List V} {j : Nat}, ns.Nodup → ns[j]? = some f → vs[j]? = some v → (ns.zip vs).lookup f = some v
  | [], _, _, _, e, _ => by simp at e
  | _ :: _, [], _, _, _, e => by simp at e
  | n :: ns, u :: vs, 0, nd, e, e' => by
    simp at e e'
    subst e e'
    rw [List.zip_cons_cons, List.lookup_cons, beq_self_eq_true]
  | n :: ns, u :: vs, j + 1, nd, e, e' => by
    rw [List.nodup_cons] at nd
    rw [List.zip_cons_cons, List.lookup_cons]
    have e1 : ns[j]? = some f := by simpa using e
    have hm : f ∈ ns := List.mem_of_getElem? e1
    have : (f == n) = false := beq_eq_false_iff_ne.mpr fun q => nd.1 (q ▸ hm)
    rw [this]
    exact lookup_zip nd.2 e1 (by simpa using e')
theorem lookup_zip_no {f : Str} : ∀ {ns : List Str} {vs : List V}, f ∉ ns → (ns.zip vs).lookup f = none
  | [], _, _ => by simp
  | _ :: _, [], _ => by simp
  | n :: ns, u :: vs, h => by
    rw [List.zip_cons_cons, List.lookup_cons]
    have : (f == n) = false := beq_eq_false_iff_ne.mpr fun q => h (by rw [q]; simp)
    rw [this]
    exact lookup_zip_no fun q => h (List.mem_cons_of_mem _ q)
section
variable {C : Cf} {P : Cx → Prop} {a e : Expr} {es : List Expr} {p pos : Pos} {K : PySem.W.Frag}
def dFld (c j : Nat) : D → Option Sl
  | .ins c' xs => if c' = c then (match xs[j]? with
    | some d => some (.sh d)
    | none => none) else none
  | _ => none
theorem ok_fld {c j : Nat} {f : Str} {fa : FD} (hK : ∀ X, P X → X.K = K) (I : InsFact C K c) (hj : (C.fs c)[j]? = some f) (h : OkD C P a fa) (hb : ∀ X, P X → attributeBase a f X.env (eval a X.env) = eval a X.env) : OkE C P (.Attribute a f pos) (fOp1 (dFld c j) fa) := by
  obtain ⟨t, hp, k⟩ := h
  refine ⟨tFld K t f, fun X hX => by rw [← hK X hX]; exact pe_fld (hp X hX) (hb X hX), fun A ρ S Γ σ H Q s Γ' T hf hQ => ?_⟩
  obtain ⟨d, h1, h3⟩ := fOp1_some hf
  refine k A ρ S Γ σ H _ d Γ' T h1 fun v ρ1 S1 H1 E1 T1 d1 => ?_
  cases d with
  | ins c' xs =>
    have h4 : (if c' = c then (match xs[j]? with | some d => some (Sl.sh d) | none => none) else none) = some s := h3
    clear h3
    split at h4
    · rename_i ec
      subst ec
      split at h4
      · rename_i z ez
        cases h4
        unfold Den at d1
        obtain ⟨_, b, dx, vs, rfl, hH, hl, r⟩ := d1
        obtain ⟨w, ew, hw⟩ := r.get j ez
        exact ⟨b, _, dx, _, w, rfl, T1.sub _ _ hH, I.cl, I.no f (List.mem_of_getElem? hj), lookup_zip I.nd hj ew, hQ w ρ1 S1 H1 E1 T1 (.sh hw)⟩
      · cases h4
    · cases h4
  | _ => cases h3
/-- self.f while the object is being made -/
def fFldI (i c j : Nat) : FE := fun Γ => match Γ[i]? with
  | some (Sl.ini c' xs) => if c' = c then (match xs[j]? with
    | some d => some (.sh d, Γ)
    | none => none) else none
  | _ => none
theorem ok_fldI {i c j : Nat} {x f : Str} {px : Pos} (hK : ∀ X, P X → X.K = K) (I : InsFact C K c) (hj : (C.fs c)[j]? = some f) (hx : NameAt P i x) : OkE C P (.Attribute (.Name x px) f pos) (fFldI i c j) := by
  refine ⟨tFld K (tVar i) f, fun X hX => by rw [← hK X hX]; exact pe_fld (hx.pe X hX) rfl, fun A ρ S Γ σ H Q s Γ' T hf hQ => ?_⟩
  unfold fFldI at hf
  split at hf
  · rename_i c' xs e1
    split at hf
    · rename_i ec
      subst ec
      split at hf
      · rename_i z ez
        cases hf
        obtain ⟨b, dx, vs, eo, hH, hS, hl, r, h3, _⟩ := T.slot i _ e1
        obtain ⟨w, ew, hw⟩ := r.get j ez
        exact ⟨_, join_some eo, b, _, dx, _, w, rfl, hH, I.cl, I.no f (List.mem_of_getElem? hj), lookup_zip I.nd hj ew, hQ w ρ S H Ext.refl T (.sh hw)⟩
      · cases hf
    · cases hf
  · cases hf
/-- self.f = e, the next field -/
theorem putF_zip {f : Str} {v : V} : ∀ {ns : List Str} {vs : List V}, ns.Nodup → ns[vs.length]? = some f → putF f v (ns.zip vs) = ns.zip (vs ++ [v])
  | [], vs, _, e => by simp at e
  | n :: ns, [], nd, e => by
    simp at e
    subst e
    show putF n v [] = (n :: ns).zip [v]
    cases ns <;> rfl
  | n :: ns, u :: vs, nd, e => by
    rw [List.nodup_cons] at nd
    have e1 : ns[vs.length]? = some f := by simpa using e
    have hm : f ∈ ns := List.mem_of_getElem? e1
    rw [List.zip_cons_cons, List.cons_append, List.zip_cons_cons]
    show (if n = f then (n, v) :: ns.zip vs else (n, u) :: putF f v (ns.zip vs)) = _
    rw [if_neg (fun q => nd.1 (by rw [q]; exact hm)), putF_zip nd.2 e1]
def fSetF (i c n : Nat) (f : FD) : FS := fun Γ => match Γ[i]? with
  | some (Sl.ini _ _) => (match f Γ with
    | none => none
    | some (d, Γ1) => (match Γ1[i]? with
      | some (Sl.ini c' xs) => if c' = c ∧ xs.length = n then some (.nx, Γ1.set i (.ini c (xs ++ [d]))) else none
      | _ => none))
  | _ => none
theorem fSetF_some {i c n : Nat} {f : FD} {Γ Γ' : Env} {fl : Fl} (h : fSetF i c n f Γ = some (fl, Γ')) : fl = .nx ∧ ∃ c1 xs1 d Γ1 xs, Γ[i]? = some (.ini c1 xs1) ∧ f Γ = some (d, Γ1) ∧ Γ1[i]? = some (.ini c xs) ∧ xs.length = n ∧ Γ' = Γ1.set i (.ini c (xs ++ [d])) := by
  unfold fSetF at h
  split at h
  · rename_i c1 xs1 e1
    split at h
    · cases h
    · rename_i d Γ1 e2
      split at h
      · rename_i c2 xs e3
        split at h
        · rename_i q
          obtain ⟨rfl, hl⟩ := q
          cases h
          exact ⟨rfl, c1, xs1, d, Γ1, xs, e1, e2, e3, hl, rfl⟩
        · cases h
      · cases h
  · cases h
theorem ok_setF {i c n : Nat} {x f : Str} {px pf : Pos} {fe : FD} (hK : ∀ X, P X → X.K = K) (I : InsFact C K c) (hx : NameAt P i x) (h : OkD C P e fe) (hs : ∀ X, P X → swapsWith e (some (.Attribute (.Name x px) f pf)) pos.line X.env = pure false)
    (hj : (C.fs c)[n]? = some f) : OkS C P (.Assign [.Attribute (.Name x px) f pf] e pos) (fSetF i c n fe) := by
  obtain ⟨t, hp, k⟩ := h
  refine ⟨sFld K (tVar i) t f, fun X hX => by rw [← hK X hX]; exact ps_fld (hx.pe X hX) (hp X hX) (hs X hX), fun A ρ S Γ σ H D fl Γ' T hf hW => ?_⟩
  obtain ⟨rfl, c1, xs1, d, Γ1, xs, e1, e2, e3, hl, rfl⟩ := fSetF_some hf
  obtain ⟨a0, dx0, vs0, ea0, _⟩ := T.slot i _ e1
  refine k A ρ S Γ σ H _ d Γ1 T e2 fun v ρ1 S1 H1 E1 T1 d1 => ⟨.ref a0, join_some ea0, ?_⟩
  obtain ⟨a1, dx, vs, ea1, hH, hS, hle, r, h3, hb⟩ := T1.slot i _ e3
  rw [ea0] at ea1
  cases ea1
  have hn : vs.length = n := by rw [r.length]; exact hl
  have hfl : n < (C.fs c).length := (List.getElem?_eq_some_iff.mp hj).1
  refine ⟨a0, _, dx, _, rfl, hH, I.cl, I.no f (List.mem_of_getElem? hj), by rw [List.length_zip]; have := I.few; omega, ?_⟩
  refine hW σ ρ1 S1 _ E1 (T1.put e3 rfl ea0 rfl ⟨a0, dx, vs ++ [v], rfl, by rw [upd_same, putF_zip I.nd (by rw [hn]; exact hj)], hS, ?_, r.append (denL_cons.mpr ⟨d1, denL_nil.mpr rfl⟩), h3, hb.trans ea0⟩)
  rw [List.length_append, List.length_singleton, hl]
  omega
/-! ### making an object -/
abbrev FI := Nat → List D → Option (List D)
def spI (C : Cf) (c n : Nat) (F : FI) : Sp := fun vs H Q _ => vs.length = n ∧ ∃ (ρ : Addr → Nat) (S : Hp) (g : Nat) (args fs : List D) (a dx : Addr) (ws : List V), vs = .ref a :: ws ∧ H a = some (.ins (C.at_ c) dx []) ∧ S a = none ∧ DenL C ρ S args ws ∧ Sub S H ∧ F g args = some fs ∧
  ∀ ρ' S' H' us' dx', Post ρ S H ρ' S' H' [a] → H' a = some (.ins (C.at_ c) dx' ((C.fs c).zip us')) → S' a = none → fs.length = (C.fs c).length → DenL C ρ' S' fs us' → Q .non H'
structure MakeAt (P : Cx → Prop) (x : Str) (Ca : Addr) (sp : Sp) : Prop where
  ex : ∃ (k : Nat) (f : Addr) (fd : FuncData) (ps : List Str), ∀ X, P X → FnOk X.prog X.w X.K X.mg X.base (L2.CX X.prog X.w) k f fd ps sp ∧ Room (k + 1) X.A ∧ Gl X x ∧ X.mg x = some (.ref Ca) ∧ Mk X.K Ca f ∧ Binds X.K fd ps []
  db : (x == ("__debug__" : Str)) = false
def fMake (c n : Nat) (F : FI) (g : Nat) (fa : FL) : FD := fun Γ => match fa Γ with
  | some (ds, Γ1) => if ds.length + 1 = n then (match F g ds with
    | some fs => some (.ins c fs, Γ1)
    | none => none) else none
  | none => none
theorem fMake_some {c n : Nat} {F : FI} {g : Nat} {fa : FL} {Γ Γ' : Env} {d : D} (h : fMake c n F g fa Γ = some (d, Γ')) : ∃ ds fs, fa Γ = some (ds, Γ') ∧ ds.length + 1 = n ∧ F g ds = some fs ∧ d = .ins c fs := by
  unfold fMake at h
  split at h
  · rename_i ds Γ1 e1
    split at h
    · rename_i hl
      split at h
      · rename_i fs e2
        cases h
        exact ⟨ds, fs, e1, hl, e2, rfl⟩
      · cases h
    · cases h
  · cases h
/-- behind a call that changes one object that stands aside -/
theorem Sto.callA {A : Act} {ρ ρ' : Addr → Nat} {S S' : Hp} {Γ : Env} {σ : St} {H H' : Hp} {b : Addr} {o : HO} (T : Sto C A ρ S Γ σ H) (As : Aside S Γ σ H b o) (h0 : A.H0 b = none) (p : Post ρ S H ρ' S' H' [b]) : Sto C A ρ' S' Γ σ H' := by
  refine ⟨p.sub, T.len, fun i s e => ?_, T.sep, fun a u e hm => ?_, T.ext0.trans p.ext, fun a u e => ?_, fun a u e => ?_, fun a u e => ?_⟩
  · refine (T.slot i s e).go p.ext fun a u eo hs ha => ?_
    have oa : OwnAt Γ σ i a := ⟨s, e, hs, eo⟩
    have na : a ≠ b := fun q => by subst q; exact As.no i oa
    refine ⟨p.frame a u ha (by simpa using na), ?_, p.rho a u ha⟩
    obtain ⟨_, _, sa, _⟩ := T.own oa
    cases q : S' a with
    | none => rfl
    | some w =>
      rcases p.news a w q with k | k
      · rw [sa] at k; cases k
      · rw [ha] at k; cases k
  · have na : a ≠ b := fun q => by subst q; rw [h0] at e; cases e
    exact p.frame a u (T.frame a u e hm) (by simpa using na)
  · rcases p.news a u e with k | k
    · exact T.news a u k
    · exact .inr (.inl (T.new k))
  · cases q : H a with
    | none => exact absurd q (T.old a u e)
    | some w => exact (p.rho a w q).trans (T.rho a u e)
  · cases q : H a with
    | none => exact absurd q (T.old a u e)
    | some w => exact p.old a w q
theorem ok_make {c n : Nat} {F : FI} {g : Nat} {x : Str} {fa : FL} (hcn : c < C.n) (m : MakeAt P x (C.at_ c) (spI C c n F)) (ha : OkL C P (e :: es) fa) (hst : ∀ X, P X → starEach (e :: es) X.env = (false, eval e X.env) :: starEach es X.env) (hpl : ∀ X, P X → (backTo pos (starEach es X.env)).any (·.1) = false) :
    OkD C P (.Call (.Name x p) (e :: es) [] pos) (fMake c n F g fa) := by
  obtain ⟨t, hp, l⟩ := ha
  obtain ⟨⟨k, f, fd, ps, hc⟩, db⟩ := m
  refine ⟨tMake (C.at_ c) (spI C c n F) [] E0 t, fun X hX => ?_, fun A ρ S Γ σ H Q d Γ' T hf hQ => ?_⟩
  · obtain ⟨h1, h2, h3, h4, h5, h6⟩ := hc X hX
    exact pe_make h5 h1 h2 h3 h4 h6 .nil passL (hp X hX) db (hst X hX) (hpl X hX)
  · obtain ⟨ds, fs, e1, hl, e2, rfl⟩ := fMake_some hf
    refine l A ρ S Γ σ H _ ds Γ' T e1 fun vs ρ1 S1 H1 E1 T1 d1 => ?_
    rw [List.append_nil]
    intro b dx hb hdx ne
    obtain ⟨T2, E2, sdx, h0x, hnx⟩ := T1.lay hdx (.own b) 0
    have hb' : upd H1 dx (.own b) b = none := by rw [upd_ne ne.symm]; exact hb
    obtain ⟨T3, E3, sb, h0b, hnb⟩ := T2.lay hb' (.ins (C.at_ c) dx []) 0
    have As : Aside S1 Γ' σ (upd (upd H1 dx (.own b)) b (.ins (C.at_ c) dx [])) b (.ins (C.at_ c) dx []) := ⟨upd_same, sb, hnb⟩
    refine ⟨by rw [List.length_cons, d1.length]; exact hl, _, S1, g, ds, fs, b, dx, vs, rfl, upd_same, sb, d1.mono (E2.trans E3), T3.sub, e2, fun ρ' S' H' us' dx' p2 hH' hS' hl' hd' => ⟨rfl, ?_⟩⟩
    have T4 := T3.callA As h0b p2
    have no4 : ∀ i, ¬ OwnAt Γ' σ i b := hnb
    obtain ⟨T5, E5⟩ := T4.pub hH' hS' (.inl h0b) no4
    refine hQ (.ref b) ρ' _ H' ((((E1.trans E2).trans E3).trans p2.ext).trans E5) T5 ?_
    unfold Den
    exact ⟨hcn, b, dx', us', rfl, upd_same, hl'.symm, hd'.mono E5⟩
/-! its __init__ by its body -/
def runI (c m : Nat) (body : FS) (args : List D) : Option (List D) := match body (envOf m (.ini c [] :: args.map .sh)) with
  | some (.nx, Γ) => (match Γ[0]? with
    | some (Sl.ini c' ys) => if c' = c then some ys else none
    | _ => none)
  | _ => none
theorem sto_entryI {N : List Str} {ws : List V} {args : List D} {ρ : Addr → Nat} {S H : Hp} {a dx : Addr} {c : Nat} (hd : DenL C ρ S args ws) (sb : Sub S H) (hl : (V.ref a :: ws).length ≤ N.length) (hH : H a = some (.ins (C.at_ c) dx [])) (hS : S a = none) :
    Sto C ⟨ρ, S, H, [a], some (.ref a)⟩ ρ S (envOf N.length (.ini c [] :: args.map .sh)) (L2.start N (.ref a :: ws)) H := by
  have sg : ∀ (i : Nat) (s : Sl), (envOf N.length (Sl.ini c [] :: args.map Sl.sh))[i]? = some s → s = .non ∨ (i = 0 ∧ s = .ini c []) ∨ ∃ j d, i = j + 1 ∧ args[j]? = some d ∧ s = .sh d := fun i s e => by
    rcases envOf_get e with e | e
    · cases i with
      | zero => exact .inr (.inl ⟨rfl, by simpa using e.symm⟩)
      | succ j =>
        rw [List.getElem?_cons_succ, List.getElem?_map] at e
        cases q : args[j]? with
        | none => rw [q] at e; cases e
        | some d => rw [q] at e; exact .inr (.inr ⟨j, d, rfl, q, (Option.some.inj e).symm⟩)
    · exact .inl e
  refine ⟨sb, ?_, fun i s e => ?_, fun i j b ne h h' => ?_, fun _ _ e _ => e, Ext.refl, fun _ _ e => .inl e, fun _ _ _ => rfl, fun a o e q => by rw [show H a = some o from e] at q; cases q⟩
  · rw [envOf_len (by rw [List.length_cons, List.length_map, ← hd.length]; exact hl), start_len hl]
  · rcases sg i s e with rfl | ⟨rfl, rfl⟩ | ⟨j, d, rfl, ed, rfl⟩
    · trivial
    · have e0 : (L2.start N (.ref a :: ws))[0]?.join = some (.ref a) := start_get (by rfl)
      rw [e0]
      exact ⟨a, dx, [], rfl, by rw [hH, List.zip_nil_right], hS, Nat.zero_le _, denL_nil.mpr rfl, .inr (by simp), rfl⟩
    · obtain ⟨v, ev, h⟩ := hd.get j ed
      exact ⟨v, start_get (by simpa using ev), h⟩
  · obtain ⟨s, e, hs, _⟩ := h
    obtain ⟨s', e', hs', _⟩ := h'
    rcases sg i s e with rfl | ⟨rfl, rfl⟩ | ⟨_, d, rfl, _, rfl⟩
    · cases hs
    · rcases sg j s' e' with rfl | ⟨rfl, rfl⟩ | ⟨_, d, rfl, _, rfl⟩
      · cases hs'
      · exact ne rfl
      · cases hs'
    · cases hs
theorem body_readsI {c n : Nat} {N : List Str} {F : FI} {fb : Nat → FS} {sts : List Stmt} (hF : ∀ g args fs, F g args = some fs → runI c N.length (fb g) args = some fs ∧ fs.length = (C.fs c).length) (hb : ∀ g, OkB C P sts (fb g)) {vs : List V} {H : Hp} {Q : VK} {E : XK} (hn : n ≤ N.length)
    (h : spI C c n F vs H Q E) :
    ∃ t, (∀ X, P X → PSs X sts t) ∧ t { nx := fun _ H' => Q .non H', rt := Q } (L2.start N vs) H := by
  obtain ⟨hlen, ρ, S, g, args, fs, a, dx, ws, rfl, hH, hS, hd, sb, hF0, hQ⟩ := h
  obtain ⟨t, hp, k⟩ := hb g
  refine ⟨t, hp, ?_⟩
  have T := sto_entryI (N := N) hd sb (by omega) hH hS
  obtain ⟨hr, hfl⟩ := hF g args fs hF0
  unfold runI at hr
  split at hr
  · rename_i Γ' e1
    split at hr
    · rename_i c' ys e2
      split at hr
      · rename_i ec
        subst ec
        cases hr
        refine k _ ρ S _ _ H _ .nx Γ' T e1 fun σ' ρ' S' H' E' T' => ?_
        obtain ⟨b, dx', us', ho, hH', hS', hle, hd', _, hb'⟩ := T'.slot 0 _ e2
        have eb : b = a := by
          have h : (some (V.ref a) : Option V) = σ'[0]?.join := hb'
          rw [ho] at h
          cases h
          rfl
        subst eb
        refine hQ ρ' S' H' us' dx' ⟨T'.ext0, T'.sub, T'.frame, fun d o e => ?_, T'.rho, T'.old⟩ hH' hS' hfl hd'
        rcases T'.news d o e with k | k | k
        · exact .inl k
        · exact .inr k
        · have : d = b := by simpa using k
          subst this
          rw [hS'] at e; cases e
      · cases hr
    · cases hr
  · cases hr
end
end Ev

set_option Elab.async false
set_option linter.all false
set_option maxRecDepth 100000
set_option maxHeartbeats 4000000
namespace Ev
open PySem L2

/-! ### where code stands -/
structure Wd where
  P : Program
  w : World
  K : PySem.W.Frag
  mg : Str → Option Value
  base : Heap
def visB (sc : Scope) (x : Str) : Bool := match sc.names.lookup x with
  | some .local => true
  | some .cell => true
  | some .free => true
  | _ => false
def locB (sc : Scope) (x : Str) : Bool := match sc.names.lookup x with
  | some .local => true
  | some .cell => true
  | _ => false
def cfB (sc : Scope) (x : Str) : Bool := match sc.names.lookup x with
  | some .cell => true
  | some .free => true
  | _ => false
def glB (sc : Scope) (x : Str) : Bool := match sc.names.lookup x with
  | some .globalImplicit => true
  | _ => false
structure Fit (W : Wd) (N : List Str) (sc : Scope) (k : Nat) (X : Cx) : Prop where
  pr : X.prog = W.P
  wo : X.w = W.w
  kk : X.K = W.K
  mg : X.mg = W.mg
  ba : X.base = W.base
  nn : X.N = N
  nd : N.Nodup
  calm : X.calm = true
  room : Room k X.A
  vis : ∀ x, visB sc x = true → Vis X.env.scope x
  loc : ∀ x, locB sc x = true → Loc X.env.scope x ∧ (X.fn x = true ∨ X.env.scope.names.lookup x = some .local)
  cf : ∀ x, cfB sc x = true → X.env.scope.names.lookup x = some .cell ∨ X.env.scope.names.lookup x = some .free
  gl : ∀ x, glB sc x = true → Gl X x
structure FitF (W : Wd) (N : List Str) (sc : Scope) (k : Nat) (X : Cx) : Prop where
  fit : Fit W N sc k X
  sce : X.env.scope = sc
  kind : sc.kind = .function
  xe : X.xe = fun _ _ => False
  st : X.stack = X.env :: X.outer
  fr : X.env.frame = some X.env.locals
  ex : X.ex = []
theorem lookup_relabel (scope : Scope) (env : PySem.Env) (x : Str) : (relabel scope env).names.lookup x = (scope.names.lookup x).map fun k => if (k == .free && env.scope.kind == .function && env.kindOf x == some .cell) = true then .cell else k := by
  unfold relabel
  dsimp only
  induction scope.names with
  | nil => rfl
  | cons p r ih =>
    obtain ⟨n, k⟩ := p
    rw [List.map_cons]
    dsimp only
    by_cases c : (k == NameKind.free && env.scope.kind == ScopeKind.function && env.kindOf n == some NameKind.cell) = true
    · rw [if_pos c]
      cases hx : x == n with
      | true =>
        have e := beq_iff_eq.mp hx
        subst e
        rw [List.lookup_cons, List.lookup_cons, hx]
        dsimp only [Option.map]
        rw [if_pos c]
      | false =>
        rw [List.lookup_cons, List.lookup_cons, hx]
        exact ih
    · rw [if_neg c]
      cases hx : x == n with
      | true =>
        have e := beq_iff_eq.mp hx
        subst e
        rw [List.lookup_cons, List.lookup_cons, hx]
        dsimp only [Option.map]
        rw [if_neg c]
      | false =>
        rw [List.lookup_cons, List.lookup_cons, hx]
        exact ih
theorem fit_blk {W : Wd} {N : List Str} {sc scope : Scope} {k : Nat} {X : Cx} (F : Fit W N sc k X) (s : Shared) (H : Hp) (a : Addr) (cl : List (Str × Addr)) (fp : List Addr) : Fit W N scope k (X.blk s H scope (compEnvC scope cl a X.env) fp) := by
  have lk : ∀ x, (X.blk s H scope (compEnvC scope cl a X.env) fp).env.scope.names.lookup x = (scope.names.lookup x).map fun k => if (k == .free && X.env.scope.kind == .function && X.env.kindOf x == some .cell) = true then .cell else k := fun x => lookup_relabel scope X.env x
  refine ⟨F.pr, F.wo, F.kk, F.mg, F.ba, F.nn, F.nd, F.calm, F.room, fun x h => ?_, fun x h => ?_, fun x h => ?_, fun x h => ?_⟩
  · unfold Vis
    rw [lk]
    unfold visB at h
    split at h <;> try cases h
    all_goals (rename_i e; rw [e]; dsimp only [Option.map])
    · exact .inl rfl
    · exact .inr (.inl rfl)
    · split
      · exact .inr (.inl rfl)
      · exact .inr (.inr rfl)
  · unfold locB at h
    split at h
    · rename_i e
      have q := lk x
      rw [e] at q
      exact ⟨.inl q, .inr q⟩
    · rename_i e
      have q := lk x
      rw [e] at q
      refine ⟨.inr q, .inl ?_⟩
      show (scope.names.lookup x == some .cell) = true
      rw [e]
      rfl
    · cases h
  · rw [lk]
    unfold cfB at h
    split at h
    · rename_i e
      rw [e]
      exact .inl rfl
    · rename_i e
      rw [e]
      dsimp only [Option.map]
      split
      · exact .inl rfl
      · exact .inr rfl
    · cases h
  · show (X.blk s H scope (compEnvC scope cl a X.env) fp).env.scope.names.lookup x = some .globalImplicit
    rw [lk]
    unfold glB at h
    split at h
    · rename_i e
      rw [e]
      rfl
    · cases h
theorem blk_fit {W : Wd} {N : List Str} {sc scope : Scope} {k : Nat} : ∀ Y, BlkP (Fit W N sc k) scope Y → Fit W N scope k Y := fun Y ⟨X, s, H, a, cl, fp, F, e⟩ => by rw [e]; exact fit_blk F s H a cl fp
section
variable {C : Cf} {P P' : Cx → Prop}
theorem OkE.sub {e : Expr} {f : FE} (h : OkE C P e f) (s : ∀ X, P' X → P X) : OkE C P' e f := let ⟨t, hp, k⟩ := h; ⟨t, fun X hX => hp X (s X hX), k⟩
theorem OkD.sub {e : Expr} {f : FD} (h : OkD C P e f) (s : ∀ X, P' X → P X) : OkD C P' e f := let ⟨t, hp, k⟩ := h; ⟨t, fun X hX => hp X (s X hX), k⟩
theorem OkT.sub {e : Expr} {f : FT} (h : OkT C P e f) (s : ∀ X, P' X → P X) : OkT C P' e f := let ⟨t, hp, k⟩ := h; ⟨t, fun X hX => hp X (s X hX), k⟩
theorem OkTs.sub {e : List Expr} {f : FT} (h : OkTs C P e f) (s : ∀ X, P' X → P X) : OkTs C P' e f := let ⟨t, hp, k⟩ := h; ⟨t, fun X hX => hp X (s X hX), k⟩
theorem OkG.sub {e : Expr} {ts : List Nat} {f : FG} (h : OkG C P e ts f) (s : ∀ X, P' X → P X) : OkG C P' e ts f := let ⟨t, hp, k⟩ := h; ⟨t, fun X hX => hp X (s X hX), k⟩
theorem OkI.sub {t i : Expr} {f : FL} (h : OkI C P t i f) (s : ∀ X, P' X → P X) : OkI C P' t i f := let ⟨t, hp, k⟩ := h; ⟨t, fun X hX => hp X (s X hX), k⟩
end
theorem FitF.f {W : Wd} {N : List Str} {sc : Scope} {k : Nat} : ∀ X, FitF W N sc k X → Fit W N sc k X := fun _ h => h.fit

/-! ### the words for expressions -/
section
variable {C : Cf} {W : Wd} {N : List Str} {sc : Scope} {k : Nat} {e a b : Expr} {es : List Expr} {p pos : Pos}
abbrev ndb (x : Str) : Bool := !(x == ("__debug__" : Str)) && !(x == ("__classdict__" : Str))
theorem Fit.name {i : Nat} {x : Str} (h : N[i]? = some x) (hv : visB sc x = true) (hd : ndb x = true) : NameAt (Fit W N sc k) i x := by
  have hd := Bool.and_eq_true_iff.mp hd
  exact ⟨fun X hX => by rw [hX.nn]; exact h, fun X hX => hX.vis x hv, by simpa using hd.1, by simpa using hd.2⟩
theorem Fit.store {i : Nat} {x : Str} (h : N[i]? = some x) (hv : locB sc x = true) : StoreAt (Fit W N sc k) i x :=
  ⟨fun X hX => by rw [hX.nn]; exact hX.nd, fun X hX => by rw [hX.nn]; exact h, fun X hX => (hX.loc x hv).1, fun X hX => (hX.loc x hv).2⟩
theorem Fit.K : ∀ X, Fit W N sc k X → X.K = W.K := fun _ h => h.kk
theorem Fit.u64 : ∀ X, Fit W N sc k X → X.A.units + 64 < cLine := fun _ h => h.room.units
theorem Fit.u65 : ∀ X, Fit W N sc k X → X.A.units + 65 < cLine := fun _ h => by have := h.room.un; omega
theorem Fit.u1 : ∀ X, Fit W N sc k X → X.A.units + 1 < cLine := fun _ h => by have := h.room.un; omega
abbrev XE (C : Cf) (W : Wd) (N : List Str) (sc : Scope) (k : Nat) := OkE C (Fit W N sc k)
abbrev XD (C : Cf) (W : Wd) (N : List Str) (sc : Scope) (k : Nat) := OkD C (Fit W N sc k)
abbrev XO (C : Cf) (W : Wd) (N : List Str) (sc : Scope) (k : Nat) := OkO C (Fit W N sc k)
abbrev XT (C : Cf) (W : Wd) (N : List Str) (sc : Scope) (k : Nat) := OkT C (Fit W N sc k)
abbrev XL (C : Cf) (W : Wd) (N : List Str) (sc : Scope) (k : Nat) := OkL C (Fit W N sc k)
theorem x_var (i : Nat) {x : Str} (h : N[i]? = some x) (hv : visB sc x = true) (hd : ndb x = true) : XD C W N sc k (.Name x pos) (fVar i) := ok_var (Fit.name h hv hd)
theorem x_see (i : Nat) {x : Str} (h : N[i]? = some x) (hv : visB sc x = true) (hd : ndb x = true) : XO C W N sc k (.Name x pos) (fSee i) := ok_see (Fit.name h hv hd)
theorem x_int {i : Int} {j : Nat} : XD C W N sc k (.Constant (.int i) j pos) (fLit (.int i)) := ok_lit (fun _ _ => pe_int) fun _ _ => den_int.mpr rfl
theorem x_str {i : Str} {j : Nat} : XD C W N sc k (.Constant (.str i) j pos) (fLit (.str i)) := ok_lit (fun _ _ => pe_str) fun _ _ => den_str.mpr rfl
theorem x_bl {i : Bool} {j : Nat} : XD C W N sc k (.Constant (.bool i) j pos) (fLit (.bl i)) := ok_lit (fun _ _ => pe_bl) fun _ _ => den_bl.mpr rfl
theorem x_non {j : Nat} : XD C W N sc k (.Constant .none j pos) (fLit .non) := ok_lit (fun _ _ => pe_non) fun _ _ => den_non.mpr rfl
/-- a text of the module's own -/
theorem x_gstr {x z : Str} {tk : Tok} (hm : W.mg x = some (.str z tk)) (hg : glB sc x = true) (hd : ndb x = true) : XD C W N sc k (.Name x pos) (fLit (.str z)) := by
  have hd := Bool.and_eq_true_iff.mp hd
  exact ok_lit (v := .str z) (fun X hX => pe_glob (v := .str z) (u := .str z tk) (hX.gl x hg) (by rw [hX.mg]; exact hm) ⟨tk, rfl⟩ (by simpa using hd.1)) fun _ _ => den_str.mpr rfl
theorem x_add (g : Nat) {f h : FD} (ha : XD C W N sc k a f) (hb : XO C W N sc k b h) : XE C W N sc k (.BinOp a .Add b pos) (fOp2 (dAdd g) f h) := ok_bin (r := rAdd W.K) (fun X hX => by rw [← hX.kk]; exact op_addAll) (snd_add g) ha hb
theorem x_sub {f h : FD} (ha : XD C W N sc k a f) (hb : XO C W N sc k b h) : XE C W N sc k (.BinOp a .Sub b pos) (fOp2 (onInts iSub) f h) := ok_bin (fun X hX => op_sub) snd_sub ha hb
theorem x_mul {f h : FD} (ha : XD C W N sc k a f) (hb : XO C W N sc k b h) : XE C W N sc k (.BinOp a .Mult b pos) (fOp2 (onInts iMul) f h) := ok_bin (fun X hX => op_mul) snd_mul ha hb
theorem x_mod {f h : FD} (ha : XD C W N sc k a f) (hb : XO C W N sc k b h) : XE C W N sc k (.BinOp a .Mod b pos) (fOp2 (onInts iMod) f h) := ok_bin (fun X hX => op_mod) snd_mod ha hb
theorem x_div {f h : FD} (ha : XD C W N sc k a f) (hb : XO C W N sc k b h) : XE C W N sc k (.BinOp a .FloorDiv b pos) (fOp2 (onInts iDiv) f h) := ok_bin (fun X hX => op_fdivW) snd_div ha hb
theorem x_pow {f h : FD} (ha : XD C W N sc k a f) (hb : XO C W N sc k b h) : XE C W N sc k (.BinOp a .Pow b pos) (fOp2 (onInts iPow) f h) := ok_bin (fun X hX => op_powW) snd_pow ha hb
theorem x_neg {f : FD} (ha : XO C W N sc k a f) : XE C W N sc k (.UnaryOp .USub a pos) (fOp1 dNeg f) := ok_neg ha
/-! comparisons: as a value, as a test; the left one a name that is looked at -/
structure CmpK (C : Cf) (W : Wd) (N : List Str) (sc : Scope) (k : Nat) (op : CmpOp) (F : D → D → Option Sl) (r : R2) : Prop where
  op : ∀ X, Fit W N sc k X → OpR X (compareOp op) r
  sn : Snd2 C r F
theorem k_eq : CmpK C W N sc k .Eq sEq (rEqAll W.K) := ⟨fun X hX => by rw [← hX.kk]; exact op_eqAll (Fit.u64 X hX), snd_eq⟩
theorem k_ne : CmpK C W N sc k .NotEq sNe (rNeAll W.K) := ⟨fun X hX => by rw [← hX.kk]; exact op_neAll (Fit.u64 X hX), snd_ne⟩
theorem k_lt : CmpK C W N sc k .Lt (onInts iLt) (rI0 fun i j => .bl (decide (i < j))) := ⟨fun X hX => op_lt, snd_lt⟩
theorem k_le : CmpK C W N sc k .LtE (onInts iLe) (rI0 fun i j => .bl (decide (i ≤ j))) := ⟨fun X hX => op_le, snd_le⟩
theorem k_gt : CmpK C W N sc k .Gt (onInts iGt) (rI0 fun i j => .bl (decide (j < i))) := ⟨fun X hX => op_gt, snd_gt⟩
theorem k_ge : CmpK C W N sc k .GtE (onInts iGe) (rI0 fun i j => .bl (decide (j ≤ i))) := ⟨fun X hX => op_ge, snd_ge⟩
theorem k_in : CmpK C W N sc k .In sIn (rInAll W.K) := ⟨fun X hX => by rw [← hX.kk]; exact op_inAll (Fit.u65 X hX), snd_in⟩
theorem k_nin : CmpK C W N sc k .NotIn sNin (rNinAll W.K) := ⟨fun X hX => by rw [← hX.kk]; exact op_ninAll (Fit.u65 X hX), snd_nin⟩
theorem k_is : CmpK C W N sc k .Is sIs (fun x y H Q => y = .non ∧ Q (.bl (decide (x = .non))) H) := ⟨fun X hX => op_isN, snd_is⟩
theorem k_isn : CmpK C W N sc k .IsNot sIsNot (fun x y H Q => y = .non ∧ Q (.bl (!decide (x = .non))) H) := ⟨fun X hX => op_notN, snd_isnot⟩
variable {op : CmpOp} {F : D → D → Option Sl} {r : R2} {f h : FD}
theorem x_cmp (K : CmpK C W N sc k op F r) (ha : XD C W N sc k a f) (hb : XO C W N sc k b h) (hm : behindInMarks op b = false) : XE C W N sc k (.Compare a [op] [b] pos) (fOp2 F f h) := ok_cmp K.op K.sn ha hb hm
theorem t_cmp (K : CmpK C W N sc k op F r) (ha : XD C W N sc k a f) (hb : XO C W N sc k b h) (hm : behindInMarks op b = false) : XT C W N sc k (.Compare a [op] [b] pos) (fOp2 F f h).d.t := ok_twoT K.op K.sn ha hb hm
theorem x_cmpP (K : CmpK C W N sc k op F r) (i : Nat) {x : Str} {px : Pos} (hi : N[i]? = some x) (hv : visB sc x = true) (hd : ndb x = true) (hb : XO C W N sc k b h) (hm : behindInMarks op b = false) : XE C W N sc k (.Compare (.Name x px) [op] [b] pos) (fOp2P F i h) := ok_cmpP K.op K.sn (Fit.name hi hv hd) hb hm
theorem t_cmpP (K : CmpK C W N sc k op F r) (i : Nat) {x : Str} {px : Pos} (hi : N[i]? = some x) (hv : visB sc x = true) (hd : ndb x = true) (hb : XO C W N sc k b h) (hm : behindInMarks op b = false) : XT C W N sc k (.Compare (.Name x px) [op] [b] pos) (fOp2P F i h).d.t := ok_twoPT K.op K.sn (Fit.name hi hv hd) hb hm
/-- in, not in of a dict or a list -/
theorem x_in (ha : XD C W N sc k a f) (hb : XO C W N sc k b h) (hm : behindInMarks .In b = false) : XE C W N sc k (.Compare a [.In] [b] pos) (fAlt (fOp2 sIn f h) (fOp2 (dHas false) f h)) := (x_cmp k_in ha hb hm).alt (ok_dhas Fit.u1 ha hb hm)
theorem t_in (ha : XD C W N sc k a f) (hb : XO C W N sc k b h) (hm : behindInMarks .In b = false) : XT C W N sc k (.Compare a [.In] [b] pos) (fAlt (fOp2 sIn f h).d.t (fOp2 (dHas false) f h).d.t) := (t_cmp k_in ha hb hm).alt (okT_dhas Fit.u1 ha hb hm)
theorem t_nin (ha : XD C W N sc k a f) (hb : XO C W N sc k b h) (hm : behindInMarks .NotIn b = false) : XT C W N sc k (.Compare a [.NotIn] [b] pos) (fAlt (fOp2 sNin f h).d.t (fOp2 (dHas true) f h).d.t) := (t_cmp k_nin ha hb hm).alt (okT_dnhas Fit.u1 ha hb hm)
/-- a[i] -/
theorem x_ix (ha : XD C W N sc k a f) (hb : XO C W N sc k b h) (hi : PlainIx b) : XE C W N sc k (.Subscript a b pos) (fAlt (fOp2 dIx f h) (fOp2 dGet f h)) := (ok_sub Fit.K ha hb hi).alt (ok_dget Fit.u1 ha hb hi)
theorem x_ixP (i : Nat) {x : Str} {px : Pos} (hn : N[i]? = some x) (hv : visB sc x = true) (hd : ndb x = true) (hb : XO C W N sc k b h) (hi : PlainIx b) : XE C W N sc k (.Subscript (.Name x px) b pos) (fAlt (fOp2P dIx i h) (fOp2P dGet i h)) :=
  (ok_subP Fit.K (Fit.name hn hv hd) hb hi).alt (ok_dgetP Fit.u1 (Fit.name hn hv hd) hb hi)
end
end Ev

set_option Elab.async false
set_option linter.all false
set_option maxRecDepth 100000
set_option maxHeartbeats 4000000
namespace Ev
open PySem L2

/-! ### chains, isinstance, methods, dict comprehensions -/
section
variable {C : Cf} {P : Cx → Prop} {a b c e : Expr} {es : List Expr} {p pos : Pos} {K : PySem.W.Frag}
def fChain (F G : D → D → Option Sl) (f g h : FD) : FD := fun Γ => match f Γ with
  | none => none
  | some (x, Γ1) => (match g Γ1 with
    | none => none
    | some (y, Γ2) => (match F x y with
      | some (.sh (.bl true)) => (match h Γ2 with
        | none => none
        | some (z, Γ3) => (match G y z with
          | some (.sh (.bl q)) => some (.bl q, Γ3)
          | _ => none))
      | some (.sh (.bl false)) => some (.bl false, Γ2)
      | _ => none))
theorem chain_reads {F G : D → D → Option Sl} {f g h : FD} {r r' : R2} {ta tb tc : TE} (hr : Snd2 C r F) (hr' : Snd2 C r' G)
    (ka : ∀ (A : Act) (ρ : Addr → Nat) (S : Hp) (Γ : Env) (σ : St) (H : Hp) (Q : VK) (d : D) (Γ' : Env), Sto C A ρ S Γ σ H → f Γ = some (d, Γ') → (∀ v ρ' S' H', Ext ρ S ρ' S' → Sto C A ρ' S' Γ' σ H' → Den C ρ' S' d v → Q v H') → ta σ H Q)
    (kb : ∀ (A : Act) (ρ : Addr → Nat) (S : Hp) (Γ : Env) (σ : St) (H : Hp) (Q : VK) (d : D) (Γ' : Env), Sto C A ρ S Γ σ H → g Γ = some (d, Γ') → (∀ v ρ' S' H', Ext ρ S ρ' S' → Sto C A ρ' S' Γ' σ H' → Den C ρ' S' d v → Q v H') → tb σ H Q)
    (kc : ∀ (A : Act) (ρ : Addr → Nat) (S : Hp) (Γ : Env) (σ : St) (H : Hp) (Q : VK) (d : D) (Γ' : Env), Sto C A ρ S Γ σ H → h Γ = some (d, Γ') → (∀ v ρ' S' H', Ext ρ S ρ' S' → Sto C A ρ' S' Γ' σ H' → Den C ρ' S' d v → Q v H') → tc σ H Q)
    {A : Act} {ρ : Addr → Nat} {S : Hp} {Γ : Env} {σ : St} {H : Hp} {Q : VK} {d : D} {Γ' : Env} (T : Sto C A ρ S Γ σ H) (hf : fChain F G f g h Γ = some (d, Γ'))
    (hQ : ∀ v ρ' S' H', Ext ρ S ρ' S' → Sto C A ρ' S' Γ' σ H' → Den C ρ' S' d v → Q v H') : tChain r r' ta tb tc σ H Q := by
  unfold fChain at hf
  split at hf
  · cases hf
  · rename_i x Γ1 e1
    split at hf
    · cases hf
    · rename_i y Γ2 e2
      refine ka A ρ S Γ σ H _ x Γ1 T e1 fun v ρ1 S1 H1 E1 T1 d1 => kb A ρ1 S1 Γ1 σ H1 _ y Γ2 T1 e2 fun w ρ2 S2 H2 E2 T2 d2 => ?_
      split at hf
      · rename_i e3
        split at hf
        · cases hf
        · rename_i z Γ3 e4
          split at hf
          · rename_i q e5
            cases hf
            refine hr A ρ2 S2 Γ2 σ H2 v w x y _ _ T2 ((d1.mono E2).one T2.sub) (d2.one T2.sub) e3 fun u ρ3 S3 H3 E3 T3 r3 => ?_
            obtain ⟨⟨u', eu, du⟩, _⟩ := r3
            cases eu
            refine ⟨true, den_bl.mp du, ?_⟩
            rw [if_pos rfl]
            refine kc A ρ3 S3 Γ2 σ H3 _ z _ T3 e4 fun u2 ρ4 S4 H4 E4 T4 d4 => ?_
            refine hr' A ρ4 S4 _ σ H4 w u2 y z _ _ T4 (((d2.mono E3).mono E4).one T4.sub) (d4.one T4.sub) e5 fun u3 ρ5 S5 H5 E5 T5 r5 => ?_
            obtain ⟨⟨u', eu, du⟩, _⟩ := r5
            cases eu
            exact hQ u3 ρ5 S5 H5 ((((E1.trans E2).trans E3).trans E4).trans E5) T5 du
          · cases hf
      · rename_i e3
        cases hf
        refine hr A ρ2 S2 _ σ H2 v w x y _ _ T2 ((d1.mono E2).one T2.sub) (d2.one T2.sub) e3 fun u ρ3 S3 H3 E3 T3 r3 => ?_
        obtain ⟨⟨u', eu, du⟩, _⟩ := r3
        cases eu
        refine ⟨false, den_bl.mp du, ?_⟩
        rw [if_neg (by decide)]
        exact hQ _ ρ3 S3 H3 ((E1.trans E2).trans E3) T3 (den_bl.mpr rfl)
      · cases hf
theorem ok_chainT {op op' : CmpOp} {F G : D → D → Option Sl} {f g h : FD} {r r' : R2} (ho : ∀ X, P X → OpR X (compareOp op) r) (ho' : ∀ X, P X → OpR X (compareOp op') r') (hr : Snd2 C r F) (hr' : Snd2 C r' G) (ha : OkD C P a f) (hb : OkD C P b g) (hc : OkD C P c h) (hm : lastMarks [op, op'] [b, c] = false) :
    OkT C P (.Compare a [op, op'] [b, c] pos) (fChain F G f g h).t := by
  obtain ⟨ta, hpa, ka⟩ := ha
  obtain ⟨tb, hpb, kb⟩ := hb
  obtain ⟨tc, hpc, kc⟩ := hc
  refine ⟨_, fun X hX => pt_chain (ho X hX) (ho' X hX) (hpa X hX) (hpb X hX) (hpc X hX) hm, fun A ρ S Γ σ H Q q Γ' T hf hQ => ?_⟩
  exact chain_reads hr hr' ka kb kc T (FD.t_some hf) fun v ρ' S' H' E' T' d => ⟨q, den_bl.mp d, hQ ρ' S' H' E' T'⟩

/-! isinstance -/
inductive Ty where
  | int | bool | str | list | tuple | dict
  | cls (c : Nat)
  | xcls (c : Nat)
def isB : Ty → D → Bool
  | .int, .int _ => true
  | .int, .bl _ => true
  | .bool, .bl _ => true
  | .str, .str _ => true
  | .list, .lst _ _ => true
  | .list, .scr _ => true
  | .tuple, .tup _ => true
  | .dict, .dct _ _ _ => true
  | .cls c, .ins c' _ => c' == c
  | .xcls c, .exc c' _ => c' == c || c == 0
  | _, _ => false
def Ty.nm : Ty → String
  | .int => "int" | .bool => "bool" | .str => "str" | .list => "list" | .tuple => "tuple" | .dict => "dict" | .cls _ => "" | .xcls _ => ""
def D.tn : D → String
  | .non => "NoneType" | .bl _ => "bool" | .int _ => "int" | .str _ => "str" | .lst _ _ => "list" | .tup _ => "tuple" | .dct _ _ _ => "dict" | .ins _ _ => "" | .scr _ => "list" | .exc _ _ => ""
/-- what isinstance asks of the classes -/
structure IsiFact (C : Cf) (K : PySem.W.Frag) : Prop where
  ins : ∀ c, c < C.n → InsFact C K c
  oo : ∀ c c', c < C.n → c' < C.n → PySem.W.kitOne K (.ref (C.at_ c')) (.ref (C.at_ c)) = some (c' == c)
  ob : ∀ c, c < C.n → ∀ b ∈ ["int", "bool", "str", "list", "tuple", "dict"], PySem.W.kitOne K (.ref (C.at_ c)) (.type b) = some false
  bo : ∀ c, c < C.n → ∀ b ∈ ["NoneType", "int", "bool", "str", "list", "tuple", "dict"], PySem.W.kitOne K (.type b) (.ref (C.at_ c)) = some false
  xc : ∀ c, c < C.xn → ExcC K (C.xat c)
  xx : ∀ c c', c < C.xn → c' < C.xn → PySem.W.kitOne K (.ref (C.xat c')) (.ref (C.xat c)) = some (c' == c || c == 0)
  xb : ∀ c, c < C.xn → ∀ b ∈ ["int", "bool", "str", "list", "tuple", "dict"], PySem.W.kitOne K (.ref (C.xat c)) (.type b) = some false
  bx : ∀ c, c < C.xn → ∀ b ∈ ["NoneType", "int", "bool", "str", "list", "tuple", "dict"], PySem.W.kitOne K (.type b) (.ref (C.xat c)) = some false
  ox : ∀ c c', c < C.xn → c' < C.n → PySem.W.kitOne K (.ref (C.at_ c')) (.ref (C.xat c)) = some false
  xm : ∀ c c', c < C.xn → c' < C.xn → PySem.W.exmOne K (.ref (C.xat c')) (.ref (C.xat c)) = some (c' == c || c == 0)
  xo : ∀ c c', c < C.n → c' < C.xn → PySem.W.kitOne K (.ref (C.xat c')) (.ref (C.at_ c)) = some false
def Ty.v (C : Cf) : Ty → V
  | .cls c => .ref (C.at_ c)
  | .xcls c => .ref (C.xat c)
  | t => .ty t.nm
/-- a value's type, exceptions too -/
inductive TyY (K : PySem.W.Frag) (H : Hp) : V → Value → Prop where
  | x {v : V} {t : Value} (h : TyX K H v t) : TyY K H v t
  | exc {a D : Addr} {d : Option Addr} (e : H a = some (exv a (.ref D) d)) (hd : d = none ∨ ∃ dx fs, d = some dx ∧ H dx = some (.xd fs)) (c : ExcC K D) : TyY K H (.ref a) (.ref D)
theorem exv_at {P : Program} {w : World} {H : Hp} {h : Heap} {a : Addr} {cls : Value} {d : Option Addr} (hok : HOk P w H h) (he : H a = some (exv a cls d)) : ∃ oe vs, h.get? a = some oe ∧ Zc cls d oe ∧ oe.data = .fields vs := by
  have x : ObjOk P w H h a (.ext fun h => ∃ oe vs, h.get? a = some oe ∧ Zc cls d oe ∧ oe.data = .fields vs) := hok a _ he
  exact x.1
theorem exv_inst {P : Program} {w : World} {H : Hp} {h : Heap} {a D : Addr} {d : Option Addr} (hok : HOk P w H h) (e : H a = some (exv a (.ref D) d)) (hd : d = none ∨ ∃ dx fs, d = some dx ∧ H dx = some (.xd fs)) : ∃ oe od, PySem.W.InstAt h a oe D od := by
  obtain ⟨oe, vs, h1, hz, h2⟩ := exv_at hok e
  have nc : PySem.W.notCls oe = true := by unfold PySem.W.notCls; rw [h2] <;> rfl
  rcases hd with rfl | ⟨dx, fs, rfl, ex⟩
  · exact ⟨oe, none, h1, hz.1, nc, by rw [hz.2]; trivial⟩
  · have hx : ObjOk P w H h dx (.xd fs) := hok dx _ ex
    obtain ⟨mA, hns, hr⟩ := hx
    obtain ⟨od, ho, hl⟩ := lookIn_ns hns
    exact ⟨oe, some od, h1, hz.1, nc, by rw [hz.2]; exact ho⟩
theorem kit_ofY {X : Cx} {pins : List (Addr × Obj)} {σ : St} {H : Hp} {s : Shared} {x : V} {u t : Value} (I : Inv X pins σ H s) (rx : RelV x u) (ty : TyY X.K H x t) : ∃ P : Heap → Prop, PySem.W.KitX X.K u t P ∧ P s.heap ∧ u ≠ .builtin "__main__.__loader__#opaque" := by
  cases ty with
  | x h => exact kit_of I rx h
  | @exc a D d e hd c =>
    cases (show u = Value.ref a from rx)
    obtain ⟨oe, od, J⟩ := exv_inst I.hok e hd
    exact ⟨_, PySem.W.kitx_exc (by obtain ⟨cd, hc, _⟩ := PySem.W.any_some c.hd; rw [hc]; rfl) c.hg c.hk c.hs c.ha c.hn c.ht c.hm, J, fun z => nomatch z⟩
def rIsiY (K : PySem.W.Frag) : List V → Hp → VK → Prop := fun xs H Q => ∃ (x c : V) (t u : Value) (b : Bool), xs = [x, c] ∧ ClsV c u ∧ TyY K H x t ∧ PySem.W.kitOne K t u = some b ∧ Q (.bl b) H
theorem call_isiY {X : Cx} : CallR X (.builtin "isinstance") (rIsiY X.K) := by
  intro pins s σ H xs us Q I r h
  obtain ⟨x, c, t, u, b, rfl, k, ty, e, q⟩ := h
  obtain ⟨u1, u2, rfl, r1, r2⟩ := vals2 r
  have e2 := k.eq r2
  subst e2
  obtain ⟨P, Z, p, hx⟩ := kit_ofY I r1 ty
  exact PySem.W.kia_one Z I.kIn p e hx fun tk => ⟨.bl b, H, I.tok tk, rfl, q⟩
theorem den_ty {ρ : Addr → Nat} {S H : Hp} {d : D} {v : V} (hI : IsiFact C K) (s : Sub S H) (h : Den1 C ρ S H d v) : (∃ c xs, d = .ins c xs ∧ c < C.n ∧ TyY K H v (.ref (C.at_ c))) ∨ (∃ c xs, d = .exc c xs ∧ c < C.xn ∧ TyY K H v (.ref (C.xat c))) ∨ ((∀ c xs, d ≠ .ins c xs) ∧ (∀ c xs, d ≠ .exc c xs) ∧ TyY K H v (.type d.tn)) := by
  cases d with
  | non => rw [den1_non h]; exact .inr (.inr ⟨fun _ _ q => (by cases q), fun _ _ q => (by cases q), .x (.base .non)⟩)
  | bl b => rw [den1_bl h]; exact .inr (.inr ⟨fun _ _ q => (by cases q), fun _ _ q => (by cases q), .x (.base (.bl b))⟩)
  | int b => rw [den1_int h]; exact .inr (.inr ⟨fun _ _ q => (by cases q), fun _ _ q => (by cases q), .x (.base (.int b))⟩)
  | str b => rw [den1_str h]; exact .inr (.inr ⟨fun _ _ q => (by cases q), fun _ _ q => (by cases q), .x (.base (.str b))⟩)
  | lst t xs => obtain ⟨a, vs, rfl, _, ha, _⟩ := h; exact .inr (.inr ⟨fun _ _ q => (by cases q), fun _ _ q => (by cases q), .x (.base (.lst ha))⟩)
  | dct t ks xs => obtain ⟨a, vs, rfl, _, ha, _⟩ := h; exact .inr (.inr ⟨fun _ _ q => (by cases q), fun _ _ q => (by cases q), .x (.base (.dK ha))⟩)
  | tup xs => obtain ⟨a, vs, rfl, ha, _⟩ := den1_tup h; exact .inr (.inr ⟨fun _ _ q => (by cases q), fun _ _ q => (by cases q), .x (.base (.tup (s _ _ ha)))⟩)
  | ins c xs =>
    have h : Den C ρ S (.ins c xs) v := h
    unfold Den at h
    obtain ⟨hc, a, dx, vs, rfl, ha, _⟩ := h
    have I := hI.ins c hc
    exact .inl ⟨c, xs, rfl, hc, .x (.base (.ins (s _ _ ha) I.cl I.ha I.hn I.htk I.hm))⟩
  | exc c xs =>
    have h : Den C ρ S (.exc c xs) v := h
    unfold Den at h
    obtain ⟨hc, a, d, vs, rfl, ha, hl, hd, _⟩ := h
    refine .inr (.inl ⟨c, xs, rfl, hc, .exc (s _ _ ha) ?_ (hI.xc c hc)⟩)
    rcases hd with ⟨_, e⟩ | ⟨dx, e, hx⟩
    · exact .inl e
    · exact .inr ⟨dx, _, e, s _ _ hx⟩
  | scr ns =>
    have h : Den C ρ S (.scr ns) v := h
    unfold Den at h
    obtain ⟨a, rfl, ha⟩ := h
    refine .inr (.inr ⟨fun _ _ q => (by cases q), fun _ _ q => (by cases q), ?_⟩)
    rcases ha with ha | ⟨o, ha⟩
    · exact .x (.base (.lst (s _ _ ha)))
    · exact .x (.base (.frz (s _ _ ha)))
theorem isB_kit {t : Ty} {d : D} (ht : ∀ c, t ≠ .cls c) (htx : ∀ c, t ≠ .xcls c) (hd : ∀ c xs, d ≠ .ins c xs) (hx : ∀ c xs, d ≠ .exc c xs) : PySem.W.kitOne K (.type d.tn) (.type t.nm) = some (isB t d) := by
  cases t with
  | cls c => exact absurd rfl (ht c)
  | xcls c => exact absurd rfl (htx c)
  | int => cases d with
    | ins c xs => exact absurd rfl (hd c xs)
    | exc c xs => exact absurd rfl (hx c xs)
    | non => exact kit_ty (show kitB "NoneType" "int" = some false by decide +kernel)
    | bl b => exact kit_ty (show kitB "bool" "int" = some true by decide +kernel)
    | int b => exact kit_ty (show kitB "int" "int" = some true by decide +kernel)
    | str b => exact kit_ty (show kitB "str" "int" = some false by decide +kernel)
    | lst b c => exact kit_ty (show kitB "list" "int" = some false by decide +kernel)
    | tup b => exact kit_ty (show kitB "tuple" "int" = some false by decide +kernel)
    | dct b c e => exact kit_ty (show kitB "dict" "int" = some false by decide +kernel)
    | scr b => exact kit_ty (show kitB "list" "int" = some false by decide +kernel)
  | bool => cases d with
    | ins c xs => exact absurd rfl (hd c xs)
    | exc c xs => exact absurd rfl (hx c xs)
    | non => exact kit_ty (show kitB "NoneType" "bool" = some false by decide +kernel)
    | bl b => exact kit_ty (show kitB "bool" "bool" = some true by decide +kernel)
    | int b => exact kit_ty (show kitB "int" "bool" = some false by decide +kernel)
    | str b => exact kit_ty (show kitB "str" "bool" = some false by decide +kernel)
    | lst b c => exact kit_ty (show kitB "list" "bool" = some false by decide +kernel)
    | tup b => exact kit_ty (show kitB "tuple" "bool" = some false by decide +kernel)
    | dct b c e => exact kit_ty (show kitB "dict" "bool" = some false by decide +kernel)
    | scr b => exact kit_ty (show kitB "list" "bool" = some false by decide +kernel)
  | str => cases d with
    | ins c xs => exact absurd rfl (hd c xs)
    | exc c xs => exact absurd rfl (hx c xs)
    | non => exact kit_ty (show kitB "NoneType" "str" = some false by decide +kernel)
    | bl b => exact kit_ty (show kitB "bool" "str" = some false by decide +kernel)
    | int b => exact kit_ty (show kitB "int" "str" = some false by decide +kernel)
    | str b => exact kit_ty (show kitB "str" "str" = some true by decide +kernel)
    | lst b c => exact kit_ty (show kitB "list" "str" = some false by decide +kernel)
    | tup b => exact kit_ty (show kitB "tuple" "str" = some false by decide +kernel)
    | dct b c e => exact kit_ty (show kitB "dict" "str" = some false by decide +kernel)
    | scr b => exact kit_ty (show kitB "list" "str" = some false by decide +kernel)
  | list => cases d with
    | ins c xs => exact absurd rfl (hd c xs)
    | exc c xs => exact absurd rfl (hx c xs)
    | non => exact kit_ty (show kitB "NoneType" "list" = some false by decide +kernel)
    | bl b => exact kit_ty (show kitB "bool" "list" = some false by decide +kernel)
    | int b => exact kit_ty (show kitB "int" "list" = some false by decide +kernel)
    | str b => exact kit_ty (show kitB "str" "list" = some false by decide +kernel)
    | lst b c => exact kit_ty (show kitB "list" "list" = some true by decide +kernel)
    | tup b => exact kit_ty (show kitB "tuple" "list" = some false by decide +kernel)
    | dct b c e => exact kit_ty (show kitB "dict" "list" = some false by decide +kernel)
    | scr b => exact kit_ty (show kitB "list" "list" = some true by decide +kernel)
  | tuple => cases d with
    | ins c xs => exact absurd rfl (hd c xs)
    | exc c xs => exact absurd rfl (hx c xs)
    | non => exact kit_ty (show kitB "NoneType" "tuple" = some false by decide +kernel)
    | bl b => exact kit_ty (show kitB "bool" "tuple" = some false by decide +kernel)
    | int b => exact kit_ty (show kitB "int" "tuple" = some false by decide +kernel)
    | str b => exact kit_ty (show kitB "str" "tuple" = some false by decide +kernel)
    | lst b c => exact kit_ty (show kitB "list" "tuple" = some false by decide +kernel)
    | tup b => exact kit_ty (show kitB "tuple" "tuple" = some true by decide +kernel)
    | dct b c e => exact kit_ty (show kitB "dict" "tuple" = some false by decide +kernel)
    | scr b => exact kit_ty (show kitB "list" "tuple" = some false by decide +kernel)
  | dict => cases d with
    | ins c xs => exact absurd rfl (hd c xs)
    | exc c xs => exact absurd rfl (hx c xs)
    | non => exact kit_ty (show kitB "NoneType" "dict" = some false by decide +kernel)
    | bl b => exact kit_ty (show kitB "bool" "dict" = some false by decide +kernel)
    | int b => exact kit_ty (show kitB "int" "dict" = some false by decide +kernel)
    | str b => exact kit_ty (show kitB "str" "dict" = some false by decide +kernel)
    | lst b c => exact kit_ty (show kitB "list" "dict" = some false by decide +kernel)
    | tup b => exact kit_ty (show kitB "tuple" "dict" = some false by decide +kernel)
    | dct b c e => exact kit_ty (show kitB "dict" "dict" = some true by decide +kernel)
    | scr b => exact kit_ty (show kitB "list" "dict" = some false by decide +kernel)
def dIsi (t : Ty) (d : D) : Option Sl := some (.sh (.bl (isB t d)))
theorem isi_ok {ρ : Addr → Nat} {S H : Hp} {d : D} {v : V} {t : Ty} (I : IsiFact C K) (ht : ∀ c, t = .cls c → c < C.n) (htx : ∀ c, t = .xcls c → c < C.xn) (s : Sub S H) (h : Den1 C ρ S H d v) : ∃ tv u, ClsV (t.v C) u ∧ TyY K H v tv ∧ PySem.W.kitOne K tv u = some (isB t d) := by
  rcases den_ty I s h with ⟨c, xs, rfl, hc, ty⟩ | ⟨c, xs, rfl, hc, ty⟩ | ⟨hd, hx, ty⟩
  · cases t with
    | cls c' => exact ⟨_, _, .own _, ty, I.oo c' c (ht c' rfl) hc⟩
    | xcls c' => exact ⟨_, _, .own _, ty, I.ox c' c (htx c' rfl) hc⟩
    | int => exact ⟨_, _, .ty _, ty, I.ob c hc _ (by decide)⟩
    | bool => exact ⟨_, _, .ty _, ty, I.ob c hc _ (by decide)⟩
    | str => exact ⟨_, _, .ty _, ty, I.ob c hc _ (by decide)⟩
    | list => exact ⟨_, _, .ty _, ty, I.ob c hc _ (by decide)⟩
    | tuple => exact ⟨_, _, .ty _, ty, I.ob c hc _ (by decide)⟩
    | dict => exact ⟨_, _, .ty _, ty, I.ob c hc _ (by decide)⟩
  · cases t with
    | cls c' => exact ⟨_, _, .own _, ty, I.xo c' c (ht c' rfl) hc⟩
    | xcls c' => exact ⟨_, _, .own _, ty, I.xx c' c (htx c' rfl) hc⟩
    | int => exact ⟨_, _, .ty _, ty, I.xb c hc _ (by decide)⟩
    | bool => exact ⟨_, _, .ty _, ty, I.xb c hc _ (by decide)⟩
    | str => exact ⟨_, _, .ty _, ty, I.xb c hc _ (by decide)⟩
    | list => exact ⟨_, _, .ty _, ty, I.xb c hc _ (by decide)⟩
    | tuple => exact ⟨_, _, .ty _, ty, I.xb c hc _ (by decide)⟩
    | dict => exact ⟨_, _, .ty _, ty, I.xb c hc _ (by decide)⟩
  · cases t with
    | cls c' =>
      refine ⟨_, _, .own _, ty, ?_⟩
      have hc := ht c' rfl
      cases d with
      | ins c xs => exact absurd rfl (hd c xs)
      | exc c xs => exact absurd rfl (hx c xs)
      | non => exact I.bo c' hc _ (by decide)
      | bl b => exact I.bo c' hc _ (show ("bool" : String) ∈ _ by decide)
      | int b => exact I.bo c' hc _ (show ("int" : String) ∈ _ by decide)
      | str b => exact I.bo c' hc _ (show ("str" : String) ∈ _ by decide)
      | lst b c => exact I.bo c' hc _ (show ("list" : String) ∈ _ by decide)
      | tup b => exact I.bo c' hc _ (show ("tuple" : String) ∈ _ by decide)
      | dct b c e => exact I.bo c' hc _ (show ("dict" : String) ∈ _ by decide)
      | scr b => exact I.bo c' hc _ (show ("list" : String) ∈ _ by decide)
    | xcls c' =>
      refine ⟨_, _, .own _, ty, ?_⟩
      have hc := htx c' rfl
      cases d with
      | ins c xs => exact absurd rfl (hd c xs)
      | exc c xs => exact absurd rfl (hx c xs)
      | non => exact I.bx c' hc _ (by decide)
      | bl b => exact I.bx c' hc _ (show ("bool" : String) ∈ _ by decide)
      | int b => exact I.bx c' hc _ (show ("int" : String) ∈ _ by decide)
      | str b => exact I.bx c' hc _ (show ("str" : String) ∈ _ by decide)
      | lst b c => exact I.bx c' hc _ (show ("list" : String) ∈ _ by decide)
      | tup b => exact I.bx c' hc _ (show ("tuple" : String) ∈ _ by decide)
      | dct b c e => exact I.bx c' hc _ (show ("dict" : String) ∈ _ by decide)
      | scr b => exact I.bx c' hc _ (show ("list" : String) ∈ _ by decide)
    | int => exact ⟨_, _, .ty _, ty, isB_kit (fun _ q => (by cases q)) (fun _ q => (by cases q)) hd hx⟩
    | bool => exact ⟨_, _, .ty _, ty, isB_kit (fun _ q => (by cases q)) (fun _ q => (by cases q)) hd hx⟩
    | str => exact ⟨_, _, .ty _, ty, isB_kit (fun _ q => (by cases q)) (fun _ q => (by cases q)) hd hx⟩
    | list => exact ⟨_, _, .ty _, ty, isB_kit (fun _ q => (by cases q)) (fun _ q => (by cases q)) hd hx⟩
    | tuple => exact ⟨_, _, .ty _, ty, isB_kit (fun _ q => (by cases q)) (fun _ q => (by cases q)) hd hx⟩
    | dict => exact ⟨_, _, .ty _, ty, isB_kit (fun _ q => (by cases q)) (fun _ q => (by cases q)) hd hx⟩
theorem ok_isi {t : Ty} {f : FD} (I : IsiFact C K) (ht : ∀ c, t = .cls c → c < C.n) (htx : ∀ c, t = .xcls c → c < C.xn) (hK : ∀ X, P X → X.K = K) (hg : ∀ X, P X → Gl X "isinstance") (hm : ∀ X, P X → X.mg "isinstance" = none) (ha : OkO C P a f) (hb : ∀ X, P X → PE X b (tC (t.v C)))
    (hst : ∀ X, P X → starEach [a, b] X.env = (false, eval a X.env) :: starEach [b] X.env) (hst2 : ∀ X, P X → starEach [b] X.env = [(false, eval b X.env)]) : OkE C P (.Call (.Name "isinstance" p) [a, b] [] pos) (fOp1 (dIsi t) f) := by
  refine ok_one (r := fun xs H Q => ∃ x, xs = [x] ∧ rIsiY K [x, t.v C] H Q) ?_ ha fun ta h => ⟨tCB (rIsiY K) (tCons ta (tCons (tC (t.v C)) tNil)), fun X hX => ?_, ?_⟩
  · intro A ρ S Γ σ H x d s Q T hx hF hQ
    cases hF
    obtain ⟨tv, u, h1, h2, h3⟩ := isi_ok I ht htx T.sub hx
    exact ⟨x, rfl, x, t.v C, tv, u, _, rfl, h1, h2, h3, hQ _ ρ S H Ext.refl T (.sh (den_bl.mpr rfl))⟩
  · rw [← hK X hX]
    exact pe_callB call_isiY (hg X hX) (hm X hX) PyProof.Rows.boot_isinstance (pa_cons (h X hX) (pa_cons (hb X hX) pa_nil (hst2 X hX)) (hst X hX)) (by decide) (by decide) (hst X hX) (by rw [hst2 X hX]; rfl)
  · intro σ H Q q
    have e : (fun (x : V) (H1 : Hp) => ∃ y, [x] = [y] ∧ rIsiY K [y, t.v C] H1 Q) = fun x H1 => rIsiY K [x, t.v C] H1 Q := by
      funext x H1
      apply propext
      exact ⟨fun ⟨y, e, q⟩ => by cases e; exact q, fun q => ⟨x, rfl, q⟩⟩
    show ta σ H fun x H1 => rIsiY K [x, t.v C] H1 Q
    rw [← e]
    exact q

/-! o.m(..), o an object of an own class -/
structure MethAt (P : Cx → Prop) (Ca : Addr) (m : Str) (sp : Sp) : Prop where
  ex : ∃ (k : Nat) (f : Addr) (fd : FuncData) (ps : List Str), ∀ X, P X → FnOk X.prog X.w X.K X.mg X.base (L2.CX X.prog X.w) k f fd ps sp ∧ Room k X.A ∧ Meth X.K Ca m f ∧ Binds X.K fd ps []
def fMeth (c n : Nat) (F : FF) (g : Nat) (fo : FD) (fa : FL) : FE := fun Γ => match fo Γ with
  | some (.ins c' xs, Γ1) => if c' = c then (match fa Γ1 with
    | some (ds, Γ2) => if ds.length + 1 = n then (match F g (.ins c' xs :: ds) with
      | some s => some (s, Γ2)
      | none => none) else none
    | none => none) else none
  | _ => none
theorem fMeth_some {c n : Nat} {F : FF} {g : Nat} {fo : FD} {fa : FL} {Γ Γ' : Env} {s : Sl} (h : fMeth c n F g fo fa Γ = some (s, Γ')) : ∃ xs Γ1 ds, fo Γ = some (.ins c xs, Γ1) ∧ fa Γ1 = some (ds, Γ') ∧ ds.length + 1 = n ∧ F g (.ins c xs :: ds) = some s := by
  unfold fMeth at h
  split at h
  · rename_i c' xs Γ1 e1
    split at h
    · rename_i ec
      subst ec
      split at h
      · rename_i ds Γ2 e2
        split at h
        · rename_i hl
          split at h
          · rename_i s' e3
            cases h
            exact ⟨xs, Γ1, ds, e1, e2, hl, e3⟩
          · cases h
        · cases h
      · cases h
    · cases h
  · cases h
theorem ok_meth0 {c : Nat} {F : FF} {g : Nat} {m : Str} {apos : Pos} {fo : FD} (I : InsFact C K c) (hK : ∀ X, P X → X.K = K) (hm : m ∉ C.fs c) (M : MethAt P (C.at_ c) m (spF C 1 F)) (ho : OkD C P a fo) {pl : Cx → Sem Bool}
    (ht : ∀ X, P X → eval (.Call (.Attribute a m apos) [] [] pos) X.env = (do
      let ov ← eval a X.env
      standAt apos.atName
      let (f, first) ← holding [ov] (getMethod ov m (pl X))
      callWith pos f first (backTo pos (starEach [] X.env)) (backToKw pos (keywordEach [] X.env)))) :
    OkE C P (.Call (.Attribute a m apos) [] [] pos) (fMeth c 1 F g fo fNil) := by
  obtain ⟨to, hpo, ko⟩ := ho
  obtain ⟨k, f, fd, ps, hc⟩ := M.ex
  refine ⟨tMeth (C.at_ c) m (spF C 1 F) [] E0 to tNil, fun X hX => ?_, fun A ρ S Γ σ H Q s Γ' T hf hQ => ?_⟩
  · obtain ⟨h1, h2, h3, h4⟩ := hc X hX
    exact pe_meth0 (hpo X hX) (by rw [hK X hX]; exact I.cl) h3 h1 h2 h4 .nil passL (ht X hX)
  · obtain ⟨xs, Γ1, ds, e1, e2, hl, e3⟩ := fMeth_some hf
    cases e2
    refine ko A ρ S Γ σ H _ _ _ T e1 fun v ρ1 S1 H1 E1 T1 d1 => ?_
    have d1' := d1
    unfold Den at d1'
    obtain ⟨_, b, dx, vs, rfl, hH, _⟩ := d1'
    refine ⟨b, dx, _, rfl, T1.sub _ _ hH, lookup_zip_no hm, ?_⟩
    show spF C 1 F [.ref b] H1 Q E0
    exact ⟨rfl, ρ1, S1, g, _, s, denL_cons.mpr ⟨d1, denL_nil.mpr rfl⟩, T1.sub, e3, fun v ρ3 S3 H3 p r => hQ v ρ3 S3 H3 (E1.trans p.ext) (T1.call p) (r.toRes T1 fun i a q => ⟨i, q⟩)⟩
end
end Ev

set_option Elab.async false
set_option linter.all false
set_option maxRecDepth 100000
set_option maxHeartbeats 4000000
namespace Ev
open PySem L2

/-! ### the words, on -/
/-- what the module's names are -/
structure Bt (W : Wd) : Prop where
  range : W.mg "range" = none
  enumerate : W.mg "enumerate" = none
  len : W.mg "len" = none
  sum : W.mg "sum" = none
  max : W.mg "max" = none
  min : W.mg "min" = none
  list : W.mg "list" = none
  tuple : W.mg "tuple" = none
  int : W.mg "int" = none
  bool : W.mg "bool" = none
  str : W.mg "str" = none
  dict : W.mg "dict" = none
  abs : W.mg "abs" = none
  isinstance : W.mg "isinstance" = none
  sorted : W.mg "sorted" = none
section
variable {C : Cf} {W : Wd} {N : List Str} {sc : Scope} {k : Nat} {e a b : Expr} {es : List Expr} {p pos : Pos} {f : FD}
abbrev Pl (e : Expr) : Prop := ∀ env : PySem.Env, starEach [e] env = [(false, eval e env)]
theorem x_len (B : Bt W) (hg : glB sc "len" = true) (hs : Pl a) (ha : XO C W N sc k a f) : XE C W N sc k (.Call (.Name "len" p) [a] [] pos) (fOp1 dLen f) :=
  ok_call1 (r := rLenAll W.K) (fun X hX => by rw [← hX.kk]; exact cr_lenAll) snd_len (fun X hX => hX.gl _ hg) (fun X hX => by rw [hX.mg]; exact B.len) PySem.boot_len (by decide) (by decide) (fun X _ => hs X.env) ha
theorem x_sum (B : Bt W) (hg : glB sc "sum" = true) (hs : Pl a) (ha : XO C W N sc k a f) : XE C W N sc k (.Call (.Name "sum" p) [a] [] pos) (fOp1 dSum f) :=
  ok_call1 (r := rSum W.K) (fun X hX => by rw [← hX.kk]; exact cr_sum hX.calm) snd_sum (fun X hX => hX.gl _ hg) (fun X hX => by rw [hX.mg]; exact B.sum) (by decide +kernel) (by decide) (by decide) (fun X _ => hs X.env) ha
theorem x_max (B : Bt W) (hg : glB sc "max" = true) (hs : Pl a) (ha : XO C W N sc k a f) : XE C W N sc k (.Call (.Name "max" p) [a] [] pos) (fOp1 dMax f) :=
  ok_call1 (r := rMax W.K) (fun X hX => by rw [← hX.kk]; exact cr_max hX.calm) snd_max (fun X hX => hX.gl _ hg) (fun X hX => by rw [hX.mg]; exact B.max) (by decide +kernel) (by decide) (by decide) (fun X _ => hs X.env) ha
theorem x_min (B : Bt W) (hg : glB sc "min" = true) (hs : Pl a) (ha : XO C W N sc k a f) : XE C W N sc k (.Call (.Name "min" p) [a] [] pos) (fOp1 dMin f) :=
  ok_call1 (r := rMin W.K) (fun X hX => by rw [← hX.kk]; exact cr_min hX.calm) snd_min (fun X hX => hX.gl _ hg) (fun X hX => by rw [hX.mg]; exact B.min) (by decide +kernel) (by decide) (by decide) (fun X _ => hs X.env) ha
theorem x_list (g : Nat) (B : Bt W) (hg : glB sc "list" = true) (hs : Pl a) (ha : XO C W N sc k a f) : XE C W N sc k (.Call (.Name "list" p) [a] [] pos) (fOp1 (dList g) f) :=
  ok_callT1 (r := fun xs H Q => ∃ p ys, xs = [.ref p] ∧ (SqL W.K H p ys ∨ SqT W.K H p ys) ∧ ∀ l, H l = none → Q (.ref l) (upd H l (.lst ys))) (fun X hX => by rw [← hX.kk]; exact call_list_of) (snd_list g) (fun X hX => hX.gl _ hg) (fun X hX => by rw [hX.mg]; exact B.list) (by decide +kernel) (by decide) (by decide) (fun X _ => hs X.env) ha
theorem x_tuple (B : Bt W) (hg : glB sc "tuple" = true) (hs : Pl a) (ha : XO C W N sc k a f) : XE C W N sc k (.Call (.Name "tuple" p) [a] [] pos) (fOp1 dTuple f) :=
  ok_callT1 (r := fun xs H Q => ∃ p ys, xs = [.ref p] ∧ ((SqL W.K H p ys ∧ ∀ l, H l = none → Q (.ref l) (upd H l (.tup ys))) ∨ (SqT W.K H p ys ∧ Q (.ref p) H))) (fun X hX => by rw [← hX.kk]; exact call_tuple_of) snd_tuple (fun X hX => hX.gl _ hg) (fun X hX => by rw [hX.mg]; exact B.tuple) (by decide +kernel) (by decide) (by decide) (fun X _ => hs X.env) ha
theorem x_max2 (B : Bt W) (hg : glB sc "max" = true) {fa : FL} (hst : ∀ env : PySem.Env, starEach [a, b] env = (false, eval a env) :: starEach [b] env) (hs : Pl b) (ha : XL C W N sc k [a, b] fa) : XE C W N sc k (.Call (.Name "max" p) [a, b] [] pos) (fOp2L (onInts iMax) fa) :=
  ok_call2 (fun X hX => call_max2 hX.calm) max2_snd (fun X hX => hX.gl _ hg) (fun X hX => by rw [hX.mg]; exact B.max) (by decide +kernel) (by decide) (by decide) (fun X _ => hst X.env) (fun X _ => by rw [hs]; rfl) ha
theorem x_bits (ha : XO C W N sc k a f) {apos : Pos} (hb : ∀ env : PySem.Env, attributeBase a "bit_length" env (eval a env) = eval a env) (hl : (apos.endLine == pos.line) = true) : XE C W N sc k (.Call (.Attribute a "bit_length" apos) [] [] pos) (fOp1 dBits f) := ok_bits ha (fun X _ => hb X.env) hl
/-- isinstance -/
theorem x_isi (t : Ty) {x : Str} {px : Pos} (B : Bt W) (I : IsiFact C W.K) (hg : glB sc "isinstance" = true) (hx : glB sc x = true) (hm : W.mg x = none) (hv : bootBuiltins x = some (.type t.nm)) (ht : t.v C = .ty t.nm) (htc : ∀ c, t ≠ .cls c) (hn : x ≠ "__name__") (hd : ndb x = true)
    (hs : ∀ env : PySem.Env, starEach [a, .Name x px] env = (false, eval a env) :: starEach [.Name x px] env) (ha : XO C W N sc k a f) (htx : ∀ c, t ≠ .xcls c := by intro c q; cases q) : XE C W N sc k (.Call (.Name "isinstance" p) [a, .Name x px] [] pos) (fOp1 (dIsi t) f) := by
  have hd := Bool.and_eq_true_iff.mp hd
  exact ok_isi I (fun c q => absurd q (htc c)) (fun c q => absurd q (htx c)) Fit.K (fun X hX => hX.gl _ hg) (fun X hX => by rw [hX.mg]; exact B.isinstance) ha (fun X hX => by rw [ht]; exact pe_bltn (hX.gl _ hx) (by rw [hX.mg]; exact hm) hv rfl hn (by simpa using hd.1)) (fun X _ => hs X.env) (fun X _ => rfl)
theorem x_isc (c : Nat) {x : Str} {px : Pos} (B : Bt W) (I : IsiFact C W.K) (hc : c < C.n) (hg : glB sc "isinstance" = true) (hx : glB sc x = true) (hm : W.mg x = some (.ref (C.at_ c))) (hd : ndb x = true)
    (hs : ∀ env : PySem.Env, starEach [a, .Name x px] env = (false, eval a env) :: starEach [.Name x px] env) (ha : XO C W N sc k a f) : XE C W N sc k (.Call (.Name "isinstance" p) [a, .Name x px] [] pos) (fOp1 (dIsi (.cls c)) f) := by
  have hd := Bool.and_eq_true_iff.mp hd
  exact ok_isi I (fun c' q => by cases q; exact hc) (fun c' q => by cases q) Fit.K (fun X hX => hX.gl _ hg) (fun X hX => by rw [hX.mg]; exact B.isinstance) ha (fun X hX => pe_glob (v := .ref (C.at_ c)) (u := .ref (C.at_ c)) (hX.gl _ hx) (by rw [hX.mg]; exact hm) rfl (by simpa using hd.1)) (fun X _ => hs X.env) (fun X _ => rfl)
/-- .. of an error class -/
theorem x_isx (c : Nat) {x : Str} {px : Pos} (B : Bt W) (I : IsiFact C W.K) (hc : c < C.xn) (hg : glB sc "isinstance" = true) (hx : glB sc x = true) (hm : W.mg x = some (.ref (C.xat c))) (hd : ndb x = true)
    (hs : ∀ env : PySem.Env, starEach [a, .Name x px] env = (false, eval a env) :: starEach [.Name x px] env) (ha : XO C W N sc k a f) : XE C W N sc k (.Call (.Name "isinstance" p) [a, .Name x px] [] pos) (fOp1 (dIsi (.xcls c)) f) := by
  have hd := Bool.and_eq_true_iff.mp hd
  exact ok_isi I (fun c' q => by cases q) (fun c' q => by cases q; exact hc) Fit.K (fun X hX => hX.gl _ hg) (fun X hX => by rw [hX.mg]; exact B.isinstance) ha (fun X hX => pe_glob (v := .ref (C.xat c)) (u := .ref (C.xat c)) (hX.gl _ hx) (by rw [hX.mg]; exact hm) rfl (by simpa using hd.1)) (fun X _ => hs X.env) (fun X _ => rfl)
theorem t_chain {c : Expr} {op op' : CmpOp} {F G : D → D → Option Sl} {g h : FD} {r r' : R2} (K : CmpK C W N sc k op F r) (K' : CmpK C W N sc k op' G r') (ha : XD C W N sc k a f) (hb : XD C W N sc k b g) (hc : XD C W N sc k c h) (hm : lastMarks [op, op'] [b, c] = false) :
    XT C W N sc k (.Compare a [op, op'] [b, c] pos) (fChain F G f g h).t := ok_chainT K.op K'.op K.sn K'.sn ha hb hc hm
/-! iterables, targets, comprehensions -/
abbrev XI (C : Cf) (W : Wd) (N : List Str) (sc : Scope) (k : Nat) := OkI C (Fit W N sc k)
abbrev XG (C : Cf) (W : Wd) (N : List Str) (sc : Scope) (k : Nat) := OkG C (Fit W N sc k)
variable {tg : Expr}
theorem i_seq (h : XD C W N sc k e f) : XI C W N sc k tg e (fSeq f) := ok_seq Fit.K h
theorem i_range1 (B : Bt W) (hg : glB sc "range" = true) (hs : Pl a) (h : XD C W N sc k a f) : XI C W N sc k tg (.Call (.Name "range" p) [a] [] pos) (fRange1 f) := ok_range1 (fun X hX => hX.gl _ hg) (fun X hX => by rw [hX.mg]; exact B.range) (fun X _ => hs X.env) h
theorem i_enum {elts : List Expr} {kk : Nat} {tpos : Pos} (B : Bt W) (hg : glB sc "enumerate" = true) (hs : Pl a) (h : XD C W N sc k a f) : XI C W N sc k (.Tuple elts kk tpos) (.Call (.Name "enumerate" p) [a] [] pos) (fEnum f) :=
  ok_enum Fit.K (fun X hX => hX.gl _ hg) (fun X hX => by rw [hX.mg]; exact B.enumerate) (fun X _ => hs X.env) h
theorem g_name (i : Nat) {x : Str} (h : N[i]? = some x) (hv : locB sc x = true) : XG C W N sc k (.Name x pos) [i] (gNam i) := ok_gname (Fit.store h hv)
theorem n_nil : Stores (Fit W N sc k) [] [] := .nil
theorem n_cons (i : Nat) {x : Str} {is : List Nat} (h : N[i]? = some x) (hv : locB sc x = true) (r : Stores (Fit W N sc k) is es) : Stores (Fit W N sc k) (i :: is) (.Name x pos :: es) := .cons (Fit.store h hv) r
theorem g_tup {is : List Nat} {kk : Nat} (h : Stores (Fit W N sc k) is es) : XG C W N sc k (.Tuple es kk pos) is (gTupN is) := ok_gtup Fit.K (fun _ h => h.calm) h
theorem blk_of {scope : Scope} {own : List (Str × Nat)} (hb : blkC N sc scope own = true) : ∀ X, Fit W N sc k X → BlkOk X.N X.env.scope scope own := fun X hX => by
  have B := blkOk_by hb
  rw [hX.nn]
  refine ⟨B.kind, B.uniq, B.ix, fun y hy e => hX.cf _ ?_, B.own⟩
  unfold cfB
  rcases B.free y hy e with q | q <;> rw [q]
theorem x_lc (g : Nat) (own : List (Str × Nat)) {iter elt : Expr} {ifs : List Expr} {scope : Scope} {ts : List Nat} {fi : FL} {fg : FG} {ft : FT} {fe : FD} (hb : blkC N sc scope own = true) (hi : XI C W N sc k tg iter fi) (hg : XG C W N scope k tg ts fg) (hts : (ts.all fun i => (own.map (·.2)).contains i) = true)
    (ht : OkTs C (Fit W N scope k) ifs ft) (he : XD C W N scope k elt fe) (hs : ∀ (env : PySem.Env) x, foldedSetIterable iter env x = pure x) : XE C W N sc k (.ListComp elt [⟨tg, iter, ifs, 0⟩] scope pos) (fLc g (own.map (·.2)) fi fg ft fe) :=
  ok_lc (fun _ h => h.calm) (fun X hX => by rw [hX.nn]; exact hX.nd) hi (blk_of hb) (hg.sub blk_fit) (fun i hi => by simpa using List.all_eq_true.mp hts i hi) (ht.sub blk_fit) (he.sub blk_fit) fun X _ => hs X.env
/-! calls -/
/-- a def of the module: its level, its promise -/
structure Def (W : Wd) (x : Str) (k : Nat) (sp : Sp) : Prop where
  ex : ∃ (f : Addr) (fd : FuncData) (ps : List Str), FnOk W.P W.w W.K W.mg W.base (L2.CX W.P W.w) k f fd ps sp ∧ W.mg x = some (.ref f) ∧ PySem.W.keepIn W.K (.ref f) = true ∧ Binds W.K fd ps []
theorem Def.at {x : Str} {j : Nat} {sp : Sp} (d : Def W x j sp) (hj : j ≤ k) (hg : glB sc x = true) (hd : ndb x = true) : CallAt (Fit W N sc k) x sp := by
  obtain ⟨f, fd, ps, h1, h2, h3, h4⟩ := d.ex
  have hd := Bool.and_eq_true_iff.mp hd
  exact ⟨⟨j, f, fd, ps, fun X hX => ⟨by rw [hX.pr, hX.wo, hX.kk, hX.mg, hX.ba]; exact h1, hX.room.mono hj, hX.gl x hg, by rw [hX.mg]; exact h2, by rw [hX.kk]; exact h3, by rw [hX.kk]; exact h4⟩⟩, by simpa using hd.1⟩
theorem any_pl : ∀ {es : List Expr} {env : PySem.Env}, (∀ x ∈ es, ∀ v q, x ≠ .Starred v q) → (backTo pos (starEach es env)).any (·.1) = false
  | [], _, _ => rfl
  | x :: r, env, h => by
    have h1 : starEach (x :: r) env = (false, eval x env) :: starEach r env := by
      cases x <;> first | rfl | exact absurd rfl (h _ List.mem_cons_self _ _)
    rw [h1]
    show (false || (backTo pos (starEach r env)).any (·.1)) = false
    rw [any_pl (es := r) fun y hy => h y (List.mem_cons_of_mem _ hy)]
    rfl
def noSt : List Expr → Bool
  | [] => true
  | .Starred _ _ :: _ => false
  | _ :: r => noSt r
theorem noSt_all : ∀ {es : List Expr}, noSt es = true → ∀ x ∈ es, ∀ v q, x ≠ .Starred v q
  | [], _, x, hx, _, _, _ => by cases hx
  | y :: r, h, x, hx, v, q, e => by
    have hy : ∀ v q, y ≠ .Starred v q := fun v q e => by subst e; cases h
    have hr : noSt r = true := by
      cases y <;> first | exact h | cases h
    rcases List.mem_cons.mp hx with z | z
    · subst z; exact hy v q e
    · exact noSt_all hr x z v q e
theorem star_cons {env : PySem.Env} (h : noSt (e :: es) = true) : starEach (e :: es) env = (false, eval e env) :: starEach es env := by
  cases e <;> first | rfl | cases h
theorem noSt_tail (h : noSt (e :: es) = true) : noSt es = true := by
  cases e <;> first | exact h | cases h
theorem l_cons {f : FD} {g : FL} (h : XD C W N sc k e f) (hr : XL C W N sc k es g) (hs : noSt (e :: es) = true) : XL C W N sc k (e :: es) (fCons f g) := ok_cons h hr fun X _ => star_cons hs
theorem l_nil : XL C W N sc k [] fNil := ok_nil
theorem x_call (g : Nat) {j n : Nat} {F : FF} {x : Str} {fa : FL} (d : Def W x j (spF C n F)) (hj : j ≤ k) (hg : glB sc x = true) (hd : ndb x = true) (hs : noSt (e :: es) = true) (ha : XL C W N sc k (e :: es) fa) : XE C W N sc k (.Call (.Name x p) (e :: es) [] pos) (fCall n F g fa) :=
  ok_call (d.at hj hg hd) ha (fun X _ => star_cons hs) fun X _ => any_pl (noSt_all (noSt_tail hs))
theorem x_callM (g i : Nat) {j n : Nat} {F : FM} {x y : Str} {py : Pos} {fa : FL} (d : Def W x j (spM C n F)) (hj : j ≤ k) (hg : glB sc x = true) (hd : ndb x = true) (hi : N[i]? = some y) (hv : visB sc y = true) (hdy : ndb y = true) (hs : noSt es = true) (ha : XL C W N sc k es fa) :
    XE C W N sc k (.Call (.Name x p) (.Name y py :: es) [] pos) (fCallM n F g i fa) := ok_callM (d.at hj hg hd) (Fit.name hi hv hdy) ha fun X _ => any_pl (noSt_all hs)
/-! statements -/
abbrev XS (C : Cf) (W : Wd) (N : List Str) (sc : Scope) (k : Nat) := OkS C (FitF W N sc k)
abbrev XB (C : Cf) (W : Wd) (N : List Str) (sc : Scope) (k : Nat) := OkB C (FitF W N sc k)
theorem s_ret {f : FE} (h : XE C W N sc k e f) : XS C W N sc k (.Return (some e) pos) (fRet f) := ok_ret (h.sub FitF.f)
theorem x_move (i : Nat) {x : Str} (h : N[i]? = some x) (hv : visB sc x = true) (hd : ndb x = true) : XE C W N sc k (.Name x pos) (fMove i) := ok_move (Fit.name h hv hd)
def noComp : Expr → Bool
  | .ListComp _ _ _ _ => false
  | .SetComp _ _ _ _ => false
  | .DictComp _ _ _ _ _ => false
  | _ => true
theorem sw_no {e : Expr} (h : noComp e = true) (t : Option Expr) (l : Nat) (env : PySem.Env) : swapsWith e t l env = pure false := by
  cases e <;> first | rfl | cases h
theorem sw_cellD {kx vx : Expr} {gs : List Comprehension} {scope : Scope} {cpos py : Pos} {y : Str} {l : Nat} {env : PySem.Env} (hk : env.kindOf y = some .cell) : swapsWith (.DictComp kx vx gs scope cpos) (some (.Name y py)) l env = pure false := by
  unfold swapsWith
  simp only [hk]
  have : ((some NameKind.cell : Option NameKind) == some NameKind.local) = false := by decide
  simp only [this, Bool.and_false, Bool.false_and]
theorem StoreAt.sub {P P' : Cx → Prop} {i : Nat} {x : Str} (h : StoreAt P i x) (s : ∀ X, P' X → P X) : StoreAt P' i x := ⟨fun X hX => h.nd X (s X hX), fun X hX => h.hN X (s X hX), fun X hX => h.hx X (s X hX), fun X hX => h.hf X (s X hX)⟩
theorem NameAt.sub {P P' : Cx → Prop} {i : Nat} {x : Str} (h : NameAt P i x) (s : ∀ X, P' X → P X) : NameAt P' i x := ⟨fun X hX => h.hN X (s X hX), fun X hX => h.hv X (s X hX), h.hd, h.hcd⟩
theorem Stores.sub {P P' : Cx → Prop} {is : List Nat} {es : List Expr} (h : Stores P is es) (s : ∀ X, P' X → P X) : Stores P' is es := by
  induction h with
  | nil => exact .nil
  | cons h r ih => exact .cons (h.sub s) ih
theorem s_set (i : Nat) {x : Str} {px : Pos} {f : FE} (h : N[i]? = some x) (hv : locB sc x = true) (hs : noComp e = true) (he : XE C W N sc k e f) : XS C W N sc k (.Assign [.Name x px] e pos) (fSet i f) := ok_set ((Fit.store h hv).sub FitF.f) (he.sub FitF.f) fun X _ => sw_no hs _ _ _
theorem s_setDC (i : Nat) {x : Str} {px : Pos} {f : FE} {kx vx : Expr} {gs : List Comprehension} {scope : Scope} {cpos : Pos} (h : N[i]? = some x) (hv : sc.names.lookup x = some .cell) (he : XE C W N sc k (.DictComp kx vx gs scope cpos) f) : XS C W N sc k (.Assign [.Name x px] (.DictComp kx vx gs scope cpos) pos) (fSet i f) :=
  ok_set ((Fit.store h (by unfold locB; rw [hv])).sub FitF.f) (he.sub FitF.f) fun X hX => sw_cellD (by show X.env.scope.names.lookup x = _; rw [hX.sce]; exact hv)
theorem s_setL (g i : Nat) (own : List (Str × Nat)) {y : Str} {py : Pos} {iter elt : Expr} {ifs : List Expr} {scope : Scope} {cpos : Pos} {ts : List Nat} {fi : FL} {fg : FG} {ft : FT} {fe : FD} (h : N[i]? = some y) (hv : sc.names.lookup y = some .local) (hl : (py.line == cpos.line) = true)
    (hno : (scope.names.any fun (n, k) => n == y && (k == .local || k == .cell)) = false) (hb : blkC N sc scope own = true) (hi : XI C W N sc k tg iter fi) (hg : XG C W N scope k tg ts fg) (hts : (ts.all fun i => (own.map (·.2)).contains i) = true)
    (ht : OkTs C (Fit W N scope k) ifs ft) (he : XD C W N scope k elt fe) (hs : ∀ (env : PySem.Env) x, foldedSetIterable iter env x = pure x) : XS C W N sc k (.Assign [.Name y py] (.ListComp elt [⟨tg, iter, ifs, 0⟩] scope cpos) pos) (fSet i (fLc g (own.map (·.2)) fi fg ft fe)) :=
  ok_setLc (fun _ h => h.fit.calm) (fun X hX => by rw [hX.fit.nn]; exact hX.fit.nd) (fun X hX => by rw [hX.fit.nn]; exact h) (fun X hX => by rw [hX.sce]; exact hv) (fun X hX => sw_true (by rw [hX.sce]; exact hX.kind) (by rw [hX.sce]; exact hv) hl hno) (hi.sub FitF.f) (fun X hX => blk_of hb X hX.fit)
    (hg.sub fun Y hY => blk_fit (sc := sc) Y (let ⟨X, s, H, a, cl, fp, F, e⟩ := hY; ⟨X, s, H, a, cl, fp, F.fit, e⟩)) (fun i hi => by simpa using List.all_eq_true.mp hts i hi) (ht.sub fun Y hY => blk_fit (sc := sc) Y (let ⟨X, s, H, a, cl, fp, F, e⟩ := hY; ⟨X, s, H, a, cl, fp, F.fit, e⟩))
    (he.sub fun Y hY => blk_fit (sc := sc) Y (let ⟨X, s, H, a, cl, fp, F, e⟩ := hY; ⟨X, s, H, a, cl, fp, F.fit, e⟩)) fun X _ => hs X.env
def noTup : Expr → Bool
  | .Tuple _ _ _ => false
  | _ => true
theorem s_setT {is : List Nat} {kk : Nat} (h : Stores (Fit W N sc k) is es) (he : XD C W N sc k e f) (hs : noComp e = true) (ht : noTup e = true) : XS C W N sc k (.Assign [.Tuple es kk p] e pos) (fSetT is f) :=
  ok_setT (K := W.K) (fun X hX => hX.fit.kk) (fun _ h => h.fit.calm) (h.sub FitF.f) (he.sub FitF.f) (fun X _ => by unfold swapsWithSole; exact sw_no hs _ _ _) fun X _ => by cases e <;> first | rfl | cases ht
theorem s_if {c : Expr} {a b : List Stmt} {fc : FT} {f g : FS} (hc : XT C W N sc k c fc) (h : XB C W N sc k a f) (h' : XB C W N sc k b g) : XS C W N sc k (.If c a b pos) (fIf fc f g) := ok_if (hc.sub FitF.f) h h'
theorem s_for {iter : Expr} {body : List Stmt} {ts : List Nat} {fi : FL} {fg : FG} {fb : FS} (hi : XI C W N sc k tg iter fi) (hg : XG C W N sc k tg ts fg) (hb : XB C W N sc k body fb) (hs : ∀ (env : PySem.Env) x, foldedSetIterable iter env x = pure x) : XS C W N sc k (.For tg iter body [] pos) (fFor fi fg fb) :=
  ok_for (fun X hX => by rw [hX.xe]; exact PassesOwn.never) (fun _ h => h.fit.calm) (hi.sub FitF.f) (hg.sub FitF.f) hb fun X _ => hs X.env
theorem s_while (n : Nat) {c : Expr} {body : List Stmt} {fc : FT} {fb : FS} (hc : XT C W N sc k c fc) (hb : XB C W N sc k body fb) : XS C W N sc k (.While c body [] pos) (whileRun fc fb n) := ok_while n (fun X hX => by rw [hX.xe]; exact PassesOwn.never) (hc.sub FitF.f) hb
theorem s_expr (he : XD C W N sc k e f) (hs : noComp e = true) : XS C W N sc k (.Expr e pos) (fExpr f) := ok_expr (he.sub FitF.f) fun X _ => sw_no hs _ _ _
theorem s_app (i : Nat) {x : Str} {px apos cpos : Pos} (h : N[i]? = some x) (hv : visB sc x = true) (hd : ndb x = true) (he : XD C W N sc k e f) (hs : Pl e) (hl : (apos.endLine == cpos.line) = true) : XS C W N sc k (.Expr (.Call (.Attribute (.Name x px) "append" apos) [e] [] cpos) pos) (fApp i f) :=
  ok_append (fun X hX => hX.fit.kk) ((Fit.name h hv hd).sub FitF.f) (he.sub FitF.f) (fun X _ => hs X.env) hl
theorem s_setI (i : Nat) {x : Str} {ix : Expr} {px ps : Pos} {fk fe : FD} (h : N[i]? = some x) (hv : visB sc x = true) (hd : ndb x = true) (hk : XD C W N sc k ix fk) (he : XD C W N sc k e fe) (hs : noComp e = true) (hw : ∀ env : PySem.Env, swappedStores [.Subscript (.Name x px) ix ps] e env = pure none)
    (ha : ∀ (env : PySem.Env) v, assign (.Subscript (.Name x px) ix ps) env v = (do
      let ov ← holding [v] (eval (.Name x px) env)
      let iv ← holding [v, ov] (eval ix env)
      standAt ps
      holding [v, ov, iv] (setItem ov iv v)
      release [v, ov, iv] [])) : XS C W N sc k (.Assign [.Subscript (.Name x px) ix ps] e pos) (fSetI i fk fe) :=
  ok_setI ((Fit.name h hv hd).sub FitF.f) (hk.sub FitF.f) (he.sub FitF.f) (fun X _ => by unfold swapsWithSole; exact sw_no hs _ _ _) (fun X _ => hw X.env) fun X _ => ha X.env
theorem s_setK (i : Nat) {x : Str} {ix : Expr} {px ps : Pos} {fk fe : FD} (h : N[i]? = some x) (hv : visB sc x = true) (hd : ndb x = true) (hk : XD C W N sc k ix fk) (he : XD C W N sc k e fe) (hs : noComp e = true) : XS C W N sc k (.Assign [.Subscript (.Name x px) ix ps] e pos) (fSetK i fk fe) :=
  ok_setK (fun X hX => Fit.u1 X hX.fit) ((Fit.name h hv hd).sub FitF.f) (hk.sub FitF.f) (he.sub FitF.f) fun X _ => sw_no hs _ _ _
end
/-! ### a def -/
section
variable {C : Cf} {W : Wd} {N ps : List Str} {k n : Nat} {x qual : Str} {params : Arguments} {body : List Stmt} {scope : Scope} {dvs : List V} {kws : List (Str × V)} {f : Addr} {fd : FuncData}
theorem fitF_of {CX : CXT} (S : FnScope N ps scope) {cdv : Value} {A : Around} {outer : List PySem.Env} {s : Shared} {H : Hp} {E : XK} (hr : Room k (A.deeper (PyProof.Rows.envOfC qual scope s.heap.objs.size f cdv))) : FitF W N scope k (cxOf CX W.P W.w W.K W.mg W.base N qual scope f cdv A outer s H E).nox := by
  refine ⟨⟨rfl, rfl, rfl, rfl, rfl, rfl, S.nd, rfl, hr, fun x h => ?_, fun x h => ?_, fun x h => ?_, fun x h => ?_⟩, rfl, S.kind, rfl, rfl, rfl, rfl⟩
  · unfold visB at h
    split at h
    · rename_i e; exact .inl e
    · rename_i e; exact .inr (.inl e)
    · rename_i e; exact .inr (.inr e)
    · cases h
  · unfold locB at h
    split at h
    · rename_i e; exact ⟨.inl e, .inr e⟩
    · rename_i e; exact ⟨.inr e, .inl rfl⟩
    · cases h
  · unfold cfB at h
    split at h
    · rename_i e; exact .inl e
    · rename_i e; exact .inr e
    · cases h
  · unfold glB at h
    split at h
    · rename_i e; exact e
    · cases h
theorem fn_F {CX : CXT} {F : FF} {fb : Nat → FS} (D : FunD W.K x qual params body scope dvs kws f fd) (S : FnScope N ps scope) (hn : ps.length = n) (hN : n ≤ N.length) (hF : ∀ g args s, F g args = some s → runF N.length (fb g) args = some s) (hb : ∀ g, XB C W N scope k body (fb g)) :
    FnOk W.P W.w W.K W.mg W.base CX (k + 1) f fd ps (spF C n F) :=
  D.ok S (fun vs H Q E h => h.1.trans hn.symm) fun cdv A outer s H vs Q E hr h => by
    obtain ⟨t, hp, q⟩ := body_reads (P := FitF W N scope k) hF hb hN h
    exact ⟨t, (hp _ (fitF_of S hr)).nox, q⟩
theorem fn_M {CX : CXT} {F : FM} {fb : Nat → FS} (D : FunD W.K x qual params body scope dvs kws f fd) (S : FnScope N ps scope) (hn : ps.length = n) (hN : n ≤ N.length) (hF : ∀ g t xs args q, F g t xs args = some q → runM N.length (fb g) t xs args = some q) (hb : ∀ g, XB C W N scope k body (fb g)) :
    FnOk W.P W.w W.K W.mg W.base CX (k + 1) f fd ps (spM C n F) :=
  D.ok S (fun vs H Q E h => h.1.trans hn.symm) fun cdv A outer s H vs Q E hr h => by
    obtain ⟨t, hp, q⟩ := body_readsM (P := FitF W N scope k) hF hb hN h
    exact ⟨t, (hp _ (fitF_of S hr)).nox, q⟩
theorem fn_I {CX : CXT} {c : Nat} {F : FI} {fb : Nat → FS} (D : FunD W.K x qual params body scope dvs kws f fd) (S : FnScope N ps scope) (hn : ps.length = n) (hN : n ≤ N.length) (hF : ∀ g args fs, F g args = some fs → runI c N.length (fb g) args = some fs ∧ fs.length = (C.fs c).length) (hb : ∀ g, XB C W N scope k body (fb g)) :
    FnOk W.P W.w W.K W.mg W.base CX (k + 1) f fd ps (spI C c n F) :=
  D.ok S (fun vs H Q E h => h.1.trans hn.symm) fun cdv A outer s H vs Q E hr h => by
    obtain ⟨t, hp, q⟩ := body_readsI (P := FitF W N scope k) hF hb hN h
    exact ⟨t, (hp _ (fitF_of S hr)).nox, q⟩
end
end Ev

set_option Elab.async false
set_option linter.all false
set_option maxRecDepth 100000
set_option maxHeartbeats 4000000
namespace Ev
open PySem L2

section
variable {C : Cf} {W : Wd} {N : List Str} {sc : Scope} {k : Nat} {e a b : Expr} {es : List Expr} {p pos : Pos} {f : FD}
/-! objects: made, their methods, their fields while they are made -/
structure Mth (C : Cf) (W : Wd) (c : Nat) (m : Str) (k : Nat) (sp : Sp) : Prop where
  ex : ∃ (f : Addr) (fd : FuncData) (ps : List Str), FnOk W.P W.w W.K W.mg W.base (L2.CX W.P W.w) k f fd ps sp ∧ Meth W.K (C.at_ c) m f ∧ Binds W.K fd ps []
structure Mkr (C : Cf) (W : Wd) (x : Str) (c k : Nat) (sp : Sp) : Prop where
  cn : c < C.n
  ex : ∃ (f : Addr) (fd : FuncData) (ps : List Str), FnOk W.P W.w W.K W.mg W.base (L2.CX W.P W.w) k f fd ps sp ∧ W.mg x = some (.ref (C.at_ c)) ∧ Mk W.K (C.at_ c) f ∧ Binds W.K fd ps []
theorem Mth.at {c j : Nat} {m : Str} {sp : Sp} (d : Mth C W c m j sp) (hj : j ≤ k) : MethAt (Fit W N sc k) (C.at_ c) m sp := by
  obtain ⟨f, fd, ps, h1, h2, h3⟩ := d.ex
  exact ⟨⟨j, f, fd, ps, fun X hX => ⟨by rw [hX.pr, hX.wo, hX.kk, hX.mg, hX.ba]; exact h1, hX.room.mono hj, by rw [hX.kk]; exact h2, by rw [hX.kk]; exact h3⟩⟩⟩
theorem x_make (g : Nat) {c j n : Nat} {F : FI} {x : Str} {fa : FL} (d : Mkr C W x c j (spI C c n F)) (hj : j + 1 ≤ k) (hg : glB sc x = true) (hd : ndb x = true) (hs : noSt (e :: es) = true) (ha : XL C W N sc k (e :: es) fa) : XD C W N sc k (.Call (.Name x p) (e :: es) [] pos) (fMake c n F g fa) := by
  obtain ⟨f, fd, ps, h1, h2, h3, h4⟩ := d.ex
  have hd := Bool.and_eq_true_iff.mp hd
  exact ok_make d.cn ⟨⟨j, f, fd, ps, fun X hX => ⟨by rw [hX.pr, hX.wo, hX.kk, hX.mg, hX.ba]; exact h1, hX.room.mono hj, hX.gl x hg, by rw [hX.mg]; exact h2, by rw [hX.kk]; exact h3, by rw [hX.kk]; exact h4⟩⟩, by simpa using hd.1⟩ ha (fun X _ => star_cons hs) fun X _ => any_pl (noSt_all (noSt_tail hs))
theorem x_meth0 (g : Nat) {c j : Nat} {F : FF} {m : Str} {apos : Pos} {fs : List Str} (I : InsFact C W.K c) (hf : C.fs c = fs) (d : Mth C W c m j (spF C 1 F)) (hj : j ≤ k) (hm : (fs.contains m) = false) (ho : XD C W N sc k a f) {pl : PySem.Env → Sem Bool}
    (ht : ∀ env : PySem.Env, eval (.Call (.Attribute a m apos) [] [] pos) env = (do
      let ov ← eval a env
      standAt apos.atName
      let (f, first) ← holding [ov] (getMethod ov m (pl env))
      callWith pos f first (backTo pos (starEach [] env)) (backToKw pos (keywordEach [] env)))) : XE C W N sc k (.Call (.Attribute a m apos) [] [] pos) (fMeth c 1 F g f fNil) :=
  ok_meth0 I Fit.K (by rw [hf]; intro q; rw [List.contains_iff_mem.mpr q] at hm; cases hm) (d.at hj) ho (pl := fun X => pl X.env) fun X _ => ht X.env
theorem x_fld (c j : Nat) {x : Str} {fs : List Str} (I : InsFact C W.K c) (hf : C.fs c = fs) (hj : fs[j]? = some x) (h : XD C W N sc k a f) (hb : ∀ env : PySem.Env, attributeBase a x env (eval a env) = eval a env) : XE C W N sc k (.Attribute a x pos) (fOp1 (dFld c j) f) :=
  ok_fld Fit.K I (by rw [hf]; exact hj) h fun X _ => hb X.env
theorem x_fldI (c j : Nat) {x y : Str} {px : Pos} {fs : List Str} (I : InsFact C W.K c) (hf : C.fs c = fs) (hj : fs[j]? = some x) (hn : N[0]? = some y) (hv : visB sc y = true) (hd : ndb y = true) : XE C W N sc k (.Attribute (.Name y px) x pos) (fFldI 0 c j) :=
  ok_fldI Fit.K I (by rw [hf]; exact hj) (Fit.name hn hv hd)
theorem s_setF (c j : Nat) {x y : Str} {px pf : Pos} {fs : List Str} (I : InsFact C W.K c) (hf : C.fs c = fs) (hj : fs[j]? = some x) (hn : N[0]? = some y) (hv : visB sc y = true) (hd : ndb y = true) (hs : noComp e = true ∨ True) (h : XD C W N sc k e f)
    (hw : ∀ env : PySem.Env, swapsWith e (some (.Attribute (.Name y px) x pf)) pos.line env = pure false) : XS C W N sc k (.Assign [.Attribute (.Name y px) x pf] e pos) (fSetF 0 c j f) :=
  ok_setF (K := W.K) (fun X hX => hX.fit.kk) I ((Fit.name hn hv hd).sub FitF.f) (h.sub FitF.f) (fun X _ => hw X.env) (by rw [hf]; exact hj)

/-! a, b = e1, e2 -/
def fPar (i j : Nat) (f h : FE) : FS := fun Γ => match f Γ with
  | none => none
  | some (s1, Γ1) => (match h Γ1 with
    | none => none
    | some (s2, Γ2) => some (.nx, (Γ2.set i s1).set j s2))
theorem ok_par {P : Cx → Prop} {i j : Nat} {x y : Str} {px py pt pt2 : Pos} {kt k2 : Nat} {f h : FE} (hc : ∀ X, P X → X.calm = true) (nd : ∀ X, P X → X.N.Nodup) (hi : ∀ X, P X → X.N[i]? = some x) (hj : ∀ X, P X → X.N[j]? = some y) (hij : i ≠ j) (hx : ∀ X, P X → X.env.scope.names.lookup x = some .local)
    (hy : ∀ X, P X → X.env.scope.names.lookup y = some .local) (ha : OkE C P a f) (hb : OkE C P b h) (hst : ∀ X, P X → starEach [a, b] X.env = (false, eval a X.env) :: starEach [b] X.env) (hst2 : ∀ X, P X → starEach [b] X.env = [(false, eval b X.env)])
    (hw : ∀ X, P X → swappedStores [.Tuple [.Name x px, .Name y py] kt pt] (.Tuple [a, b] k2 pt2) X.env = pure (some [x, y])) (hs : ∀ X, P X → swapsWithSole [.Tuple [.Name x px, .Name y py] kt pt] (.Tuple [a, b] k2 pt2) pos.line X.env = pure false) :
    OkS C P (.Assign [.Tuple [.Name x px, .Name y py] kt pt] (.Tuple [a, b] k2 pt2) pos) (fPar i j f h) := by
  obtain ⟨t, hp, ka⟩ := ha
  obtain ⟨u, hq, kb⟩ := hb
  refine ⟨tPar i j (tCons t (tCons u tNil)), fun X hX => ps_par (hc X hX) (nd X hX) (hi X hX) (hj X hX) hij (hx X hX) (hy X hX) (pa_cons (hp X hX) (pa_cons (hq X hX) pa_nil (hst2 X hX)) (hst X hX)) (hw X hX) (hs X hX), fun A ρ S Γ σ H D fl Γ' T hf hW => ?_⟩
  unfold fPar at hf
  split at hf
  · cases hf
  · rename_i s1 Γ1 e1
    split at hf
    · cases hf
    · rename_i s2 Γ2 e2
      cases hf
      refine ka A ρ S Γ σ H _ s1 Γ1 T e1 fun v ρ1 S1 H1 E1 T1 r1 => ?_
      refine kb (snap A ρ1 S1 Γ1 σ H1) ρ1 S1 Γ1 σ H1 _ s2 Γ2 T1.snap e2 fun w ρ2 S2 H2 E2 T2 r2 => ?_
      have T3 := T1.back T2
      -- the first result stands aside
      have q1 : SlOk C A ρ2 S2 H2 s1 (some v) ∧ (s1.isOwn = true → ∀ z, v = .ref z → (∀ i, ¬ OwnAt Γ2 σ i z) ∧ w ≠ v ∨ s2.isOwn = false ∧ ∀ i, ¬ OwnAt Γ2 σ i z) := by
        by_cases ho : s1.isOwn = true
        · obtain ⟨z, o, ez, hz, sz, h0⟩ := r1.1.ownd ho
          cases ez
          have As : Aside S1 Γ1 σ H1 z o := ⟨hz, sz, fun i => r1.2.1 ho i z rfl⟩
          obtain ⟨As2, hρ⟩ := As.keep T2
          refine ⟨r1.1.go E2 fun z' u' ez' _ hz' => ?_, fun _ z' ez' => ?_⟩
          · cases ez'
            rw [hz] at hz'
            cases hz'
            exact ⟨As2.at_, As2.ns, hρ⟩
          · cases ez'
            by_cases ho2 : s2.isOwn = true
            · obtain ⟨b, ob, eb, hb, sb, hb0⟩ := r2.1.ownd ho2
              cases eb
              refine .inl ⟨As2.no, fun q => ?_⟩
              cases q
              rcases hb0 with hb0 | hb0
              · rw [show H1 z = none from hb0] at hz; cases hz
              · obtain ⟨i', q⟩ := mem_ownL.mp hb0
                exact As.no i' q
            · exact .inr ⟨by simpa using ho2, As2.no⟩
        · refine ⟨r1.1.go E2 fun z' u' _ hs' _ => absurd hs' ho, fun hs' => absurd hs' ho⟩
      have res1 : ResOk C A ρ2 S2 Γ2 σ H2 s1 v := ⟨q1.1, fun ho i z ez => by
        rcases q1.2 ho z ez with ⟨n, _⟩ | ⟨_, n⟩
        · exact n i
        · exact n i, r1.2.2⟩
      have T4 := T3.assign res1 i
      have res2 : ResOk C A ρ2 S2 (Γ2.set i s1) (σ.set i (some v)) H2 s2 w := by
        refine ⟨r2.1.act rfl fun z _ _ hz => ?_, fun ho j z ez q => ?_, r2.2.2⟩
        · rcases hz with hz | hz
          · exact .inl (T1.new hz)
          · obtain ⟨i', q⟩ := mem_ownL.mp hz
            obtain ⟨_, _, _, k⟩ := T1.own q
            exact k
        · obtain ⟨sl, e', hs', eo'⟩ := q
          rcases get_set e' with ⟨q, rfl, hl⟩ | ⟨ne, e'⟩
          · subst q
            rw [List.getElem?_set, if_pos rfl, if_pos (by rw [← T3.len]; exact hl)] at eo'
            have ev : v = .ref z := Option.some.inj eo'
            rcases q1.2 hs' z ev with ⟨_, n⟩ | ⟨n, _⟩
            · exact n (ez.trans ev.symm)
            · rw [ho] at n; cases n
          · rw [List.getElem?_set, if_neg ne] at eo'
            exact r2.2.1 ho j z ez ⟨sl, e', hs', eo'⟩
      exact ⟨v, w, rfl, hW _ ρ2 S2 H2 (E1.trans E2) (T4.assign res2 j)⟩
theorem sw_par {x y : Str} {px py pt pt2 : Pos} {kt k2 : Nat} {env : PySem.Env} (hb : env.scope.kind = .function) (hx : env.kindOf x = some .local) (hy : env.kindOf y = some .local) (hxy : (x == y) = false) (hl : (py.line == px.line) = true) (hf : ([a, b].all (foldedForSure 8)) = false) (hc : ([a, b].all (constantsAlone 8)) = false) (hs : noSt [a, b] = true) :
    swappedStores [.Tuple [.Name x px, .Name y py] kt pt] (.Tuple [a, b] k2 pt2) env = pure (some [x, y]) := by
  have hbk : env.blockKind = .function := by unfold Env.blockKind; rw [hb]; rfl
  have h1 := noSt_all hs
  have e1 : ∀ z, z ∈ [a, b] → (match z with | .Starred .. => true | _ => false) = false := fun z hz => by
    cases z <;> first | rfl | exact absurd rfl (h1 _ hz _ _)
  have st : ([a, b].any fun | .Starred .. => true | _ => false) = false := List.any_eq_false.mpr fun z hz => by rw [e1 z hz]; decide
  have hl2 : (px.line == px.line) = true := beq_self_eq_true _
  unfold swappedStores
  simp only [List.length_cons, List.length_nil, hbk, st, List.head?_cons, Option.map_some, Option.getD_some, Expr.pos, List.filterMap_cons, List.filterMap_nil, hx, hy, hl, hl2, hf, hc]
  have e2 : ([x, y] : List Str).eraseDups = [x, y] := by
    rw [List.eraseDups_cons]
    simp [hxy, List.filter_cons]
    by_cases q : y = x
    · subst q; simp at hxy
    · simp [q, List.eraseDups_cons]
  simp [e2]
  intro h
  rcases h with h | h
  · cases a <;> first | exact absurd rfl (h1 _ List.mem_cons_self _ _) | cases h
  · cases b <;> first | exact absurd rfl (h1 _ (List.mem_cons_of_mem _ List.mem_cons_self) _ _) | cases h
theorem s_par (i j : Nat) {x y : Str} {px py pt pt2 : Pos} {kt k2 : Nat} {f h : FE} (hi : N[i]? = some x) (hj : N[j]? = some y) (hij : i ≠ j) (hx : sc.names.lookup x = some .local) (hy : sc.names.lookup y = some .local) (hxy : (x == y) = false) (hl : (py.line == px.line) = true)
    (hf : ([a, b].all (foldedForSure 8)) = false) (hc : ([a, b].all (constantsAlone 8)) = false) (hs : noSt [a, b] = true) (ha : XE C W N sc k a f) (hb : XE C W N sc k b h) : XS C W N sc k (.Assign [.Tuple [.Name x px, .Name y py] kt pt] (.Tuple [a, b] k2 pt2) pos) (fPar i j f h) :=
  ok_par (fun _ h => h.fit.calm) (fun X hX => by rw [hX.fit.nn]; exact hX.fit.nd) (fun X hX => by rw [hX.fit.nn]; exact hi) (fun X hX => by rw [hX.fit.nn]; exact hj) hij (fun X hX => by rw [hX.sce]; exact hx) (fun X hX => by rw [hX.sce]; exact hy) (ha.sub FitF.f) (hb.sub FitF.f) (fun X _ => star_cons hs) (fun X _ => star_cons (noSt_tail hs))
    (fun X hX => sw_par (by rw [hX.sce]; exact hX.kind) (by show X.env.scope.names.lookup x = _; rw [hX.sce]; exact hx) (by show X.env.scope.names.lookup y = _; rw [hX.sce]; exact hy) hxy hl hf hc hs) fun X _ => rfl
end
end Ev

set_option Elab.async false
set_option linter.all false
set_option maxRecDepth 100000
set_option maxHeartbeats 4000000
namespace Ev
open PySem L2

/-! ### dict comprehensions -/
theorem putD_keys : ∀ {ks : List Key} {xs : List D} {q : Key} {d : D} {k : Key}, ks.length = xs.length → k ∈ (putD ks xs q d).1 → k ∈ ks ∨ k = q
  | [], [], q, d, k, _, h => by unfold putD at h; simp at h; exact .inr h
  | [], _ :: _, _, _, _, h, _ => by cases h
  | _ :: _, [], _, _, _, h, _ => by cases h
  | k' :: ks, x :: xs, q, d, k, hl, h => by
    unfold putD at h
    split at h
    · exact .inl h
    · rcases List.mem_cons.mp h with e | e
      · exact .inl (by rw [e]; simp)
      · rcases putD_keys (ks := ks) (xs := xs) (by simpa using hl) e with z | z
        · exact .inl (List.mem_cons_of_mem _ z)
        · exact .inr z
theorem putD_nodup : ∀ {ks : List Key} {xs : List D} {q : Key} {d : D}, ks.Nodup → ks.length = xs.length → (putD ks xs q d).1.Nodup
  | [], [], q, d, _, _ => by unfold putD; simp
  | [], _ :: _, _, _, _, h => by cases h
  | _ :: _, [], _, _, _, h => by cases h
  | k :: ks, x :: xs, q, d, nd, hl => by
    unfold putD
    split
    · exact nd
    · rename_i ne
      rw [List.nodup_cons] at nd ⊢
      refine ⟨fun h => ?_, putD_nodup nd.2 (by simpa using hl)⟩
      rcases putD_keys (ks := ks) (xs := xs) (by simpa using hl) h with z | z
      · exact nd.1 z
      · exact ne z
def dcRun (own : List Nat) (tg : FG) (cond : FT) (fk fv : FD) : List D → List Key → List D → Env → Option ((List Key × List D) × Env)
  | [], ks, xs, Γ => some ((ks, xs), Γ)
  | d :: r, ks, xs, Γ => match tg d Γ with
    | none => none
    | some Γ1 => match cond Γ1 with
      | none => none
      | some (false, Γ2) => dcRun own tg cond fk fv r ks xs (wipeG Γ2 own)
      | some (true, Γ2) => match fk Γ2 with
        | none => none
        | some (dk, Γ3) => match dk.key with
          | none => none
          | some q => match fv Γ3 with
            | none => none
            | some (e, Γ4) => dcRun own tg cond fk fv r (putD ks xs q e).1 (putD ks xs q e).2 (wipeG Γ4 own)
def fDc (g : Nat) (own : List Nat) (it : FL) (tg : FG) (cond : FT) (fk fv : FD) : FE := fun Γ => match it Γ with
  | none => none
  | some (ds, Γ1) => match dcRun own tg cond fk fv ds [] [] (wipeG Γ1 own) with
    | none => none
    | some ((ks, xs), Γ2) => some (.ownD g ks xs, Γ2)
theorem dcRun_cons {own : List Nat} {tg : FG} {cond : FT} {fk fv : FD} {d : D} {r : List D} {ks : List Key} {xs : List D} {Γ Γ' : Env} {es : List Key × List D} (h : dcRun own tg cond fk fv (d :: r) ks xs Γ = some (es, Γ')) :
    ∃ Γ1 b Γ2, tg d Γ = some Γ1 ∧ cond Γ1 = some (b, Γ2) ∧ ((b = false ∧ dcRun own tg cond fk fv r ks xs (wipeG Γ2 own) = some (es, Γ')) ∨
      (b = true ∧ ∃ dk Γ3 q e Γ4, fk Γ2 = some (dk, Γ3) ∧ dk.key = some q ∧ fv Γ3 = some (e, Γ4) ∧ dcRun own tg cond fk fv r (putD ks xs q e).1 (putD ks xs q e).2 (wipeG Γ4 own) = some (es, Γ'))) := by
  unfold dcRun at h
  split at h
  · cases h
  · rename_i Γ1 e1
    split at h
    · cases h
    · rename_i Γ2 e2
      exact ⟨Γ1, false, Γ2, e1, e2, .inl ⟨rfl, h⟩⟩
    · rename_i Γ2 e2
      split at h
      · cases h
      · rename_i dk Γ3 e3
        split at h
        · cases h
        · rename_i q eq
          split at h
          · cases h
          · rename_i e Γ4 e4
            exact ⟨Γ1, true, Γ2, e1, e2, .inr ⟨rfl, dk, Γ3, q, e, Γ4, e3, eq, e4, h⟩⟩
section
variable {C : Cf} {P : Cx → Prop} {tg iter kx vx : Expr} {ifs : List Expr} {scope : Scope} {pos : Pos}
theorem dc_reads {g : Nat} {vs ts : List Nat} {fi : FL} {fg : FG} {ft : FT} {fk fe : FD} {wi : TI} {gg : TG} {tt : TT} {tk te : TE}
    (ki : ∀ (A : Act) (ρ : Addr → Nat) (S : Hp) (Γ : Env) (σ : St) (H : Hp) (R : It → Hp → Prop) (ds : List D) (Γ' : Env), Sto C A ρ S Γ σ H → fi Γ = some (ds, Γ') →
      (∀ J ρ' S' H', Ext ρ S ρ' S' → Sto C A ρ' S' Γ' σ H' → Walks C J ds ρ' S' → R J H') → wi σ H R)
    (kg : ∀ (A : Act) (ρ : Addr → Nat) (S : Hp) (Γ : Env) (σ : St) (H : Hp) (v : V) (d : D) (Γ' : Env) (Q : St → Hp → Prop), Sto C A ρ S Γ σ H → Den C ρ S d v → fg d Γ = some Γ' →
      (∀ σ', Sto C A ρ S Γ' σ' H → Sames ts σ σ' → Q σ' H) → gg v σ H Q) (hts : ∀ i ∈ ts, i ∈ vs)
    (kt : ∀ (A : Act) (ρ : Addr → Nat) (S : Hp) (Γ : Env) (σ : St) (H : Hp) (Q : Bool → Hp → Prop) (b : Bool) (Γ' : Env), Sto C A ρ S Γ σ H → ft Γ = some (b, Γ') →
      (∀ ρ' S' H', Ext ρ S ρ' S' → Sto C A ρ' S' Γ' σ H' → Q b H') → tt σ H Q)
    (kk : ∀ (A : Act) (ρ : Addr → Nat) (S : Hp) (Γ : Env) (σ : St) (H : Hp) (Q : VK) (d : D) (Γ' : Env), Sto C A ρ S Γ σ H → fk Γ = some (d, Γ') →
      (∀ v ρ' S' H', Ext ρ S ρ' S' → Sto C A ρ' S' Γ' σ H' → Den C ρ' S' d v → Q v H') → tk σ H Q)
    (ke : ∀ (A : Act) (ρ : Addr → Nat) (S : Hp) (Γ : Env) (σ : St) (H : Hp) (Q : VK) (d : D) (Γ' : Env), Sto C A ρ S Γ σ H → fe Γ = some (d, Γ') →
      (∀ v ρ' S' H', Ext ρ S ρ' S' → Sto C A ρ' S' Γ' σ H' → Den C ρ' S' d v → Q v H') → te σ H Q)
    {A : Act} {ρ : Addr → Nat} {S : Hp} {Γ : Env} {σ : St} {H : Hp} {Q : VK} {s : Sl} {Γ' : Env} (T : Sto C A ρ S Γ σ H) (hf : fDc g vs fi fg ft fk fe Γ = some (s, Γ'))
    (hQ : ∀ v ρ' S' H', Ext ρ S ρ' S' → Sto C A ρ' S' Γ' σ H' → ResOk C A ρ' S' Γ' σ H' s v → Q v H') : tDc wi gg tt tk te vs σ H Q := by
  unfold fDc at hf
  split at hf
  · cases hf
  · rename_i ds Γ1 e1
    split at hf
    · cases hf
    · rename_i es ek Γ2 e2
      cases hf
      refine ki A ρ S Γ σ H _ ds Γ1 T e1 fun J ρ1 S1 H1 E1 T1 Wk p hp => ?_
      obtain ⟨hlen, walk⟩ := Wk
      -- the list is laid
      obtain ⟨T2, E2, sp, h0, hn⟩ := T1.lay hp (.dK []) g
      have A0 : Aside S1 (wipeG Γ1 vs) (L2.wipe σ vs) (upd H1 p (.dK [])) p (.dK []) := ⟨upd_same, sp, fun i q => by
        obtain ⟨sl, e, hs, eo⟩ := q
        by_cases hi : i ∈ vs
        · rw [wipeG_in e hi] at hs; cases hs
        · have := (T2.wipe vs).own ⟨sl, e, hs, eo⟩
          have q1 := hn i
          rw [wipe_out hi] at eo
          -- the slot stood so ahead
          have key : ∀ (ws : List Nat), i ∉ ws → (wipeG Γ1 ws)[i]? = Γ1[i]? := by
            intro ws
            induction ws with
            | nil => intro _; rfl
            | cons w ws ih =>
              intro h
              unfold wipeG
              rw [List.getElem?_set, if_neg (fun q => h (by rw [q]; simp)), ih fun q => h (List.mem_cons_of_mem _ q)]
          rw [key vs hi] at e
          exact q1 ⟨sl, e, hs, eo⟩⟩
      refine ⟨fun i m H' => m = ds.length - i ∧ i ≤ ds.length ∧ ∃ (ρ' : Addr → Nat) (S' : Hp) (Γi : Env) (ks : List Key) (acc : List D) (ws : List V), Sto C A ρ' S' Γi (L2.wipe σ vs) H' ∧ Ext ρ1 S1 ρ' S' ∧ Aside S' Γi (L2.wipe σ vs) H' p (.dK (ks.zip ws)) ∧ ρ' p = g ∧ ks.Nodup ∧ ks.length = acc.length ∧ DenL C ρ' S' acc ws ∧ acc.length ≤ i ∧
          dcRun vs fg ft fk fe (ds.drop i) ks acc Γi = some ((es, ek), Γ') ∧ (∃ Γ0, Γi = wipeG Γ0 vs),
        ⟨ds.length, by simp, Nat.zero_le _, tagAt ρ1 p g, S1, wipeG Γ1 vs, [], [], [], T2.wipe vs, E2, A0, tagAt_same, List.nodup_nil, rfl, denL_nil.mpr rfl, Nat.zero_le _, by rw [List.drop_zero]; exact e2, _, rfl⟩, ?_⟩
      rintro i m H2 ⟨rfl, hi, ρ2, S2, Γi, ks, acc, ws, T2', E2', Ad, hg, hnd, hkl, hacc, hal, hrun, hw⟩
      obtain ⟨wgo, wstop⟩ := walk (snap A ρ2 S2 Γi (L2.wipe σ vs) H2) ρ2 S2 Γi (L2.wipe σ vs) H2 T2'.snap E2' i
      by_cases hlt : i < ds.length
      · have ed : ds[i]? = some ds[i] := List.getElem?_eq_getElem hlt
        obtain ⟨go, yld⟩ := wgo _ ed
        refine .inr ⟨go, fun H' => ∃ m', m' < ds.length - i ∧ (m' = ds.length - (i + 1) ∧ i + 1 ≤ ds.length ∧ ∃ (ρ' : Addr → Nat) (S' : Hp) (Γi : Env) (ks : List Key) (acc : List D) (ws : List V), Sto C A ρ' S' Γi (L2.wipe σ vs) H' ∧ Ext ρ1 S1 ρ' S' ∧ Aside S' Γi (L2.wipe σ vs) H' p (.dK (ks.zip ws)) ∧ ρ' p = g ∧ ks.Nodup ∧ ks.length = acc.length ∧ DenL C ρ' S' acc ws ∧ acc.length ≤ i + 1 ∧
          dcRun vs fg ft fk fe (ds.drop (i + 1)) ks acc Γi = some ((es, ek), Γ') ∧ (∃ Γ0, Γi = wipeG Γ0 vs)), fun H' h => h, fun x H3 hy => ?_⟩
        have dr : ds.drop i = ds[i] :: ds.drop (i + 1) := List.drop_eq_getElem_cons hlt
        rw [dr] at hrun
        obtain ⟨Γa, b, Γb, h1, h2, h3⟩ := dcRun_cons hrun
        obtain ⟨ρ3, S3, E3, T3, d3⟩ := yld x H3 hy
        have ww : L2.wipe (L2.wipe σ vs) vs = L2.wipe σ vs := by
          apply List.ext_getElem?
          intro j
          by_cases hj : j ∈ vs
          · by_cases hl : j < σ.length
            · have n1 := wipe_in (σ := σ) hj
              have n2 := wipe_in (σ := L2.wipe σ vs) hj
              have l1 : j < (L2.wipe σ vs).length := by rw [L2.wipe_length]; exact hl
              have l2 : j < (L2.wipe (L2.wipe σ vs) vs).length := by rw [L2.wipe_length]; exact l1
              rw [List.getElem?_eq_getElem l1] at n1
              rw [List.getElem?_eq_getElem l2] at n2
              rw [List.getElem?_eq_getElem l1, List.getElem?_eq_getElem l2]
              exact congrArg some ((show (L2.wipe (L2.wipe σ vs) vs)[j] = none from n2).trans (show (L2.wipe σ vs)[j] = none from n1).symm)
            · rw [List.getElem?_eq_none (by rw [L2.wipe_length, L2.wipe_length]; omega), List.getElem?_eq_none (by rw [L2.wipe_length]; omega)]
          · rw [wipe_out hj]
        refine kg _ ρ3 S3 Γi (L2.wipe σ vs) H3 x _ Γa _ T3 d3 h1 fun σ2 T4 sm => ?_
        have wp : L2.wipe σ2 vs = L2.wipe σ vs := (sm.wipe hts).trans ww
        refine ⟨wp, kt _ ρ3 S3 Γa σ2 H3 _ b Γb T4 h2 fun ρ5 S5 H5 E5 T5 => ?_⟩
        rcases h3 with ⟨rfl, h3⟩ | ⟨rfl, dk, Γd, q, e, Γc, h6, h7, h4, h5⟩
        · rw [if_neg (by decide)]
          obtain ⟨Ad5, hg5⟩ := Ad.keep T5
          have Tb := T2'.back T5
          have Tw := Tb.wipe vs
          rw [wp] at Tw
          have E15 : Ext ρ2 S2 ρ5 S5 := E3.trans E5
          refine ⟨ds.length - (i + 1), by omega, rfl, hlt, ρ5, S5, wipeG Γb vs, ks, acc, ws, Tw, E2'.trans E15, ⟨Ad5.at_, Ad5.ns, fun j q => ?_⟩, hg5.trans hg, hnd, hkl, hacc.mono E15, by omega, h3, _, rfl⟩
          obtain ⟨sl, e', hs', eo'⟩ := q
          by_cases hj : j ∈ vs
          · rw [wipeG_in e' hj] at hs'; cases hs'
          · rw [wipe_out hj] at eo'
            have key : ∀ (zs : List Nat), j ∉ zs → (wipeG Γb zs)[j]? = Γb[j]? := by
              intro zs
              induction zs with
              | nil => intro _; rfl
              | cons w zs ih =>
                intro h
                unfold wipeG
                rw [List.getElem?_set, if_neg (fun q => h (by rw [q]; simp)), ih fun q => h (List.mem_cons_of_mem _ q)]
            rw [key vs hj] at e'
            refine Ad5.no j ⟨sl, e', hs', ?_⟩
            have : σ2[j]? = σ[j]? := by rw [sm.2 j fun q => hj (hts j q), wipe_out hj]
            rw [this]
            exact eo'
        · rw [if_pos rfl]
          refine kk _ ρ5 S5 Γb σ2 H5 _ dk Γd T5 h6 fun yk ρ55 S55 H55 E55 T55 d55 => ?_
          refine ke _ ρ55 S55 Γd σ2 H55 _ e Γc T55 h4 fun y ρ6 S6 H6 E6 T6 d6 => ?_
          obtain ⟨Ad6, hg6⟩ := Ad.keep T6
          have Tb := T2'.back T6
          have E16 : Ext ρ2 S2 ρ6 S6 := ((E3.trans E5).trans E55).trans E6
          have hz : ws.length = acc.length := hacc.length
          obtain ⟨ws', hput, hden'⟩ := putD_den (q := q) d6 hnd hkl (hacc.mono E16)
          obtain ⟨pl1, pl2⟩ := putD_len (q := q) (d := e) hkl
          refine ⟨ks.zip ws, q, key_den (d55.one T55.sub) h7, Ad6.at_, by rw [List.length_zip, hz, hkl, Nat.min_self]; have := lim_lt; omega, ?_⟩
          obtain ⟨T7, Ad7⟩ := Tb.putA Ad6 h0 (.dK (putK (ks.zip ws) q y))
          have Tw := T7.wipe vs
          rw [wp] at Tw
          refine ⟨ds.length - (i + 1), by omega, rfl, hlt, ρ6, S6, wipeG Γc vs, (putD ks acc q e).1, (putD ks acc q e).2, ws', Tw, E2'.trans E16, ⟨by rw [Ad7.at_, hput], Ad7.ns, fun j q => ?_⟩, hg6.trans hg, putD_nodup hnd hkl, pl1, hden', by omega, h5, _, rfl⟩
          obtain ⟨sl, e', hs', eo'⟩ := q
          by_cases hj : j ∈ vs
          · rw [wipeG_in e' hj] at hs'; cases hs'
          · rw [wipe_out hj] at eo'
            have key : ∀ (zs : List Nat), j ∉ zs → (wipeG Γc zs)[j]? = Γc[j]? := by
              intro zs
              induction zs with
              | nil => intro _; rfl
              | cons w zs ih =>
                intro h
                unfold wipeG
                rw [List.getElem?_set, if_neg (fun q => h (by rw [q]; simp)), ih fun q => h (List.mem_cons_of_mem _ q)]
            rw [key vs hj] at e'
            refine Ad7.no j ⟨sl, e', hs', ?_⟩
            have : σ2[j]? = σ[j]? := by rw [sm.2 j fun q => hj (hts j q), wipe_out hj]
            rw [this]
            exact eo'
      · have ei : i = ds.length := by omega
        subst ei
        refine .inl ⟨wstop (Nat.le_refl _), ?_⟩
        rw [List.drop_length] at hrun
        have hr : (ks, acc) = (es, ek) ∧ Γi = Γ' := by
          have : dcRun vs fg ft fk fe [] ks acc Γi = some ((ks, acc), Γi) := rfl
          rw [this] at hrun
          cases hrun
          exact ⟨rfl, rfl⟩
        obtain ⟨hr, rfl⟩ := hr
        cases hr
        obtain ⟨Γ0, rfl⟩ := hw
        have Tu := T2'.unwipe fun j sl e hj => wipeG_in e hj
        refine hQ (.ref p) ρ2 S2 H2 (E1.trans E2') Tu ⟨⟨p, ws, rfl, hg, Ad.at_, Ad.ns, by omega, hkl, hacc, .inl h0⟩, fun _ j a e q => ?_, fun _ _ q => (by cases q), fun _ _ q => (by cases q), fun q => (by cases q)⟩
        cases e
        obtain ⟨sl, e', hs', eo'⟩ := q
        have hj : j ∉ vs := fun hj => by rw [wipeG_in e' hj] at hs'; cases hs'
        exact Ad.no j ⟨sl, e', hs', by rw [wipe_out hj]; exact eo'⟩
theorem ok_dc {g : Nat} {own : List (Str × Nat)} {ts : List Nat} {fi : FL} {fg : FG} {ft : FT} {fk fe : FD} (hc : ∀ X, P X → X.calm = true) (nd : ∀ X, P X → X.N.Nodup) (hi : OkI C P tg iter fi) (ok : ∀ X, P X → BlkOk X.N X.env.scope scope own)
    (hg : OkG C (BlkP P scope) tg ts fg) (hts : ∀ i ∈ ts, i ∈ own.map (·.2)) (ht : OkTs C (BlkP P scope) ifs ft) (hk : OkD C (BlkP P scope) kx fk) (he : OkD C (BlkP P scope) vx fe) (hs : ∀ X, P X → ∀ x, foldedSetIterable iter X.env x = pure x) :
    OkE C P (.DictComp kx vx [⟨tg, iter, ifs, 0⟩] scope pos) (fDc g (own.map (·.2)) fi fg ft fk fe) := by
  obtain ⟨wi, hpi, ki⟩ := hi
  obtain ⟨gg, hpg, kg⟩ := hg
  obtain ⟨tt, hpt, kt⟩ := ht
  obtain ⟨tk, hpk, kk⟩ := hk
  obtain ⟨te, hpe, ke⟩ := he
  exact ⟨_, fun X hX => pe_dc (hc X hX) (nd X hX) (hpi X hX) (ok X hX) (fun s H a cl fp => hpg _ ⟨X, s, H, a, cl, fp, hX, rfl⟩) (fun s H a cl fp => hpt _ ⟨X, s, H, a, cl, fp, hX, rfl⟩) (fun s H a cl fp => hpk _ ⟨X, s, H, a, cl, fp, hX, rfl⟩) (fun s H a cl fp => hpe _ ⟨X, s, H, a, cl, fp, hX, rfl⟩) (hs X hX),
    fun A ρ S Γ σ H Q s Γ' T hf hQ => dc_reads ki kg hts kt kk ke T hf hQ⟩
end
section
variable {C : Cf} {W : Wd} {N : List Str} {sc : Scope} {k : Nat} {tg : Expr} {pos : Pos}
theorem x_dc (g : Nat) (own : List (Str × Nat)) {iter kx vx : Expr} {ifs : List Expr} {scope : Scope} {ts : List Nat} {fi : FL} {fg : FG} {ft : FT} {fk fe : FD} (hb : blkC N sc scope own = true) (hi : XI C W N sc k tg iter fi) (hg : XG C W N scope k tg ts fg) (hts : (ts.all fun i => (own.map (·.2)).contains i) = true)
    (ht : OkTs C (Fit W N scope k) ifs ft) (hk : XD C W N scope k kx fk) (he : XD C W N scope k vx fe) (hs : ∀ (env : PySem.Env) x, foldedSetIterable iter env x = pure x) : XE C W N sc k (.DictComp kx vx [⟨tg, iter, ifs, 0⟩] scope pos) (fDc g (own.map (·.2)) fi fg ft fk fe) :=
  ok_dc (fun _ h => h.calm) (fun X hX => by rw [hX.nn]; exact hX.nd) hi (blk_of hb) (hg.sub blk_fit) (fun i hi => by simpa using List.all_eq_true.mp hts i hi) (ht.sub blk_fit) (hk.sub blk_fit) (he.sub blk_fit) fun X _ => hs X.env
end
end Ev

set_option Elab.async false
set_option linter.all false
set_option maxRecDepth 100000
set_option maxHeartbeats 4000000
namespace Ev
open PySem L2

section
variable {X : Cx} {pins : List (Addr × Obj)} {σ : St} {H : Hp} {s : Shared}
end

section
variable {X : Cx} {k : Nat} {f Ca : Addr} {fd : FuncData} {ps : List Str} {sp : Sp}

/-- what an own `__add__` must have -/
structure AddF (K : PySem.W.Frag) (Ca : Addr) (T : String) : Prop where
  sf : PySem.W.selfFirst K Ca = true
  ex : ∃ fo ro, PySem.W.findIn K (.type T) (PySem.dunder "add") = some fo ∧ PySem.W.findIn K (.type T) (dunderR "add") = some ro ∧ ((fo.isSome && !isSeqSlot fo) || (ro.isSome && !isSeqSlot ro)) = false
/-! x != y where only `__eq__` is own -/
end
end Ev

set_option Elab.async false
set_option linter.all false
set_option maxRecDepth 100000
set_option maxHeartbeats 4000000
namespace Ev
open PySem L2

/-! own operators, by data -/
def Snd2D (C : Cf) (r : R2) (F : D → D → Option Sl) : Prop :=
  ∀ (A : Act) (ρ : Addr → Nat) (S : Hp) (Γ : Env) (σ : St) (H : Hp) (x y : V) (d e : D) (s : Sl) (Q : VK), Sto C A ρ S Γ σ H → Den C ρ S d x → Den C ρ S e y → F d e = some s →
    (∀ v ρ' S' H', Ext ρ S ρ' S' → Sto C A ρ' S' Γ σ H' → ResOk C A ρ' S' Γ σ H' s v → Q v H') → r x y H Q
section
variable {C : Cf} {P : Cx → Prop} {a b : Expr} {pos : Pos}
end
structure DunF (C : Cf) (K : PySem.W.Frag) (c : Nat) : Prop where
  add : AddF K (C.at_ c) "list"
  nf1 : ∀ c', c' < C.n → PySem.W.notFirst K (C.at_ c) (.ref (C.at_ c')) = true
  nf2 : ∀ b ∈ ["NoneType", "int", "bool", "str", "list", "tuple", "dict"], PySem.W.notFirst K (C.at_ c) (.type b) = true
  ne : PySem.W.findIn K (.ref (C.at_ c)) "__ne__" = some (some (.builtin "object.__ne__"))
section
variable {C : Cf} {K : PySem.W.Frag} {c : Nat} {F : FF}
theorem ret_bl {ρ : Addr → Nat} {S H H' : Hp} {k : Bool} {v : V} (r : RetOk C ρ S H H' (.sh (.bl k)) v) : v = .bl k := by
  exact r
end
section
variable {C : Cf} {W : Wd} {N : List Str} {sc : Scope} {k : Nat} {e a b : Expr} {es : List Expr} {p pos : Pos} {f h : FD}
structure CmpD (C : Cf) (W : Wd) (N : List Str) (sc : Scope) (k : Nat) (op : CmpOp) (F : D → D → Option Sl) (r : R2) : Prop where
  op : ∀ X, Fit W N sc k X → OpR X (compareOp op) r
  sn : Snd2D C r F
/-- a method that may be a subscript -/
structure Mth2 (C : Cf) (W : Wd) (c : Nat) (m : Str) (k : Nat) (sp : Sp) : Prop where
  ex : ∃ (f : Addr) (fd : FuncData) (ps : List Str), FnOk W.P W.w W.K W.mg W.base (L2.CX W.P W.w) k f fd ps sp ∧ Meth W.K (C.at_ c) m f ∧ Binds W.K fd ps [] ∧ PySem.W.fnIn W.K f = true
end
end Ev

set_option Elab.async false
set_option linter.all false
set_option maxRecDepth 100000
set_option maxHeartbeats 4000000
namespace Ev
open PySem L2

/-! sorted texts -/
def leS (a b : Str) : Bool := !PySem.Spec.ltCps b.cps.toList a.cps.toList
def sortS (xs : List Str) : List Str := xs.mergeSort leS
theorem leS_iff {a b : Str} : leS a b = true ↔ ¬ (b.cps.toList < a.cps.toList) := by
  unfold leS
  rw [PyProof.Rows.ltCps_eq]
  simp
theorem leS_trans {a b c : Str} (h : leS a b = true) (k : leS b c = true) : leS a c = true := by
  rw [leS_iff] at *
  rw [List.not_lt] at *
  exact List.le_trans h k
theorem leS_anti {a b : Str} (h : leS a b = true) (k : leS b a = true) : a = b := by
  rw [leS_iff] at *
  rw [List.not_lt] at *
  have e := List.le_antisymm h k
  cases a with | mk x => cases b with | mk y =>
  exact congrArg Str.mk (Array.toList_inj.mp e)
theorem leS_total (a b : Str) : (leS a b || leS b a) = true := by
  rw [Bool.or_eq_true, leS_iff, leS_iff, List.not_lt, List.not_lt]
  exact List.le_total _ _
theorem risingS_pw : ∀ {xs : List Str} {p : Str}, PyProof.Rows.risingS p xs = true → (∀ x ∈ xs, leS p x = true) ∧ xs.Pairwise (fun a b => leS a b = true)
  | [], _, _ => ⟨fun _ h => (by cases h), .nil⟩
  | x :: r, p, h => by
    obtain ⟨h1, h2⟩ := Bool.and_eq_true_iff.mp (show (!PySem.Spec.ltCps x.cps.toList p.cps.toList && PyProof.Rows.risingS x r) = true from h)
    obtain ⟨i1, i2⟩ := risingS_pw h2
    refine ⟨fun y hy => ?_, .cons i1 i2⟩
    rcases List.mem_cons.mp hy with rfl | hy
    · exact h1
    · exact leS_trans h1 (i1 y hy)
theorem sortedS_pw {xs : List Str} (h : PyProof.Rows.sortedS xs = true) : xs.Pairwise (fun a b => leS a b = true) := by
  cases xs with
  | nil => exact .nil
  | cons x r => obtain ⟨a, b⟩ := risingS_pw (show PyProof.Rows.risingS x r = true from h); exact .cons a b
theorem sortS_pw (xs : List Str) : (sortS xs).Pairwise (fun a b => leS a b = true) := List.pairwise_mergeSort (le := leS) (fun _ _ _ => leS_trans) leS_total xs
theorem sortS_eq {xs ys : List Str} (p : ys.Perm xs) (h : PyProof.Rows.sortedS ys = true) : ys = sortS xs :=
  List.Perm.eq_of_pairwise (le := fun a b => leS a b = true) (fun _ _ _ _ => leS_anti) (sortedS_pw h) (sortS_pw xs) (p.trans (List.mergeSort_perm _ _).symm)
def dSorted (g : Nat) : D → Option Sl
  | .lst _ xs => (match strsOf xs with
    | some ns => if ns.length < 64 then some (.own g ((sortS ns).map .str)) else none
    | none => none)
  | _ => none
section
variable {C : Cf}
theorem snd_sorted (g : Nat) {K : PySem.W.Frag} : Snd1 C (rSortedS K) (dSorted g) := by
  intro A ρ S Γ σ H x d s Q T hx hF hQ
  cases d with
  | lst t xs =>
    have hF : (match strsOf xs with | some ns => if ns.length < 64 then some (Sl.own g ((sortS ns).map .str)) else none | none => none) = some s := hF
    split at hF
    · rename_i ns en
      obtain ⟨h64, rfl⟩ := if_some hF
      obtain ⟨a, vs, rfl, _, ha, _, r⟩ := hx
      refine ⟨a, ns, rfl, SqL.of (by rw [ha, strsOf_den r en]), h64, fun ys p hp hs hn => ?_⟩
      rw [sortS_eq hp hs]
      have hl : (sortS ns).length ≤ lim := by
        have := (List.mergeSort_perm ns leS).length_eq
        show (ns.mergeSort leS).length ≤ lim
        unfold lim
        omega
      obtain ⟨E2, T2, rr⟩ := new_lst T hn g (vs := (sortS ns).map V.str) (ds := (sortS ns).map D.str) (by rw [List.length_map]; exact hl) (denL_strs _)
      exact hQ _ _ _ _ E2 T2 rr
    · cases hF
  | _ => cases hF
/-! dicts of flat values, where they are equal -/
def eqKs (ls : List Key) (ys : List D) : List Key → List D → Bool
  | k :: ks, x :: xs => (match lookD ls ys k with
    | some y => decide (dEqF x y = some true)
    | none => false) && eqKs ls ys ks xs
  | _, _ => true
def dEqK (b : Bool) (d e : D) : Option Sl := match d, e with
  | .dct _ ks xs, .dct _ ls ys => if ks.length = ls.length ∧ eqKs ls ys ks xs = true then some (.sh (.bl b)) else none
  | _, _ => none
theorem dEqF_flat {ρ : Addr → Nat} {S : Hp} {d e : D} {x y : V} (hx : Den C ρ S d x) (hy : Den C ρ S e y) (h : dEqF d e = some true) : y = x ∧ flatB x = true := by
  have s : Sub S S := fun _ _ q => q
  obtain ⟨_, h2⟩ := dEqF_ok (hx.one s) (hy.one s) h
  have e := of_decide_eq_true h2
  subst e
  refine ⟨rfl, ?_⟩
  cases d with
  | int i => rw [den_int.mp hx]; rfl
  | str i => rw [den_str.mp hx]; rfl
  | bl i => rw [den_bl.mp hx]; rfl
  | non => rw [den1_non (hx.one s)]; rfl
  | _ => cases e <;> simp [dEqF] at h
theorem eqKs_den {ρ : Addr → Nat} {S : Hp} {ls : List Key} {ys : List D} {ws : List V} (hl : ls.length = ys.length) (hw : DenL C ρ S ys ws) : ∀ {ks : List Key} {xs : List D} {vs : List V}, ks.length = xs.length → DenL C ρ S xs vs → eqKs ls ys ks xs = true → ∀ p ∈ ks.zip vs, valV (ls.zip ws) p.1 = some p.2 ∧ flatB p.2 = true
  | [], [], vs, _, h, _ => fun p hp => by simp at hp
  | [], _ :: _, _, hl, _, _ => by cases hl
  | _ :: _, [], _, hl, _, _ => by cases hl
  | k :: ks, x :: xs, vs, hk, h, e => fun p hp => by
    unfold DenL at h
    obtain ⟨v, r, rfl, h1, h2⟩ := h
    obtain ⟨e1, e2⟩ := Bool.and_eq_true_iff.mp (show ((match lookD ls ys k with | some y => decide (dEqF x y = some true) | none => false) && eqKs ls ys ks xs) = true from e)
    rw [List.zip_cons_cons] at hp
    rcases List.mem_cons.mp hp with rfl | hp
    · split at e1
      · rename_i y ey
        obtain ⟨w, hv, hd⟩ := (look_den hl hw).1 y ey
        obtain ⟨q1, q2⟩ := dEqF_flat h1 hd (of_decide_eq_true e1)
        subst q1
        exact ⟨hv, q2⟩
      · cases e1
    · exact eqKs_den hl hw (by simpa using hk) h2 e2 p hp
theorem dEqK_den {b : Bool} {ρ : Addr → Nat} {S H : Hp} {d e : D} {x y : V} {s : Sl} (hx : Den1 C ρ S H d x) (hy : Den1 C ρ S H e y) (h : dEqK b d e = some s) : s = .sh (.bl b) ∧ ∃ a c ks ls, x = .ref a ∧ y = .ref c ∧ H a = some (.dK ks) ∧ H c = some (.dK ls) ∧ ks.length = ls.length ∧ ∀ p ∈ ks, valV ls p.1 = some p.2 ∧ flatB p.2 = true := by
  unfold dEqK at h
  split at h
  · rename_i t ks xs t' ls ys
    obtain ⟨c, rfl⟩ := if_some h
    obtain ⟨a, vs, rfl, _, ha, _, hk, r⟩ := hx
    obtain ⟨a', ws, rfl, _, ha', _, hk', r'⟩ := hy
    refine ⟨rfl, a, a', _, _, rfl, rfl, ha, ha', ?_, eqKs_den hk' r' hk r c.2⟩
    rw [List.length_zip, List.length_zip, r.length, r'.length, ← hk, ← hk', c.1]
  · cases h
theorem snd_eqK : Snd2 C rEqDA (dEqK true) := by
  intro A ρ S Γ σ H x y d e s Q T hx hy hF hQ
  obtain ⟨rfl, a, c, ks, ls, rfl, rfl, h1, h2, h3, h4⟩ := dEqK_den hx hy hF
  exact ⟨a, c, ks, ls, rfl, rfl, h1, h2, h3, h4, hQ _ ρ S H Ext.refl T (.sh (den_bl.mpr rfl))⟩
end
section
variable {C : Cf} {W : Wd} {N : List Str} {sc : Scope} {k : Nat} {e a b : Expr} {p pos : Pos} {f h : FD}
theorem x_sorted (g : Nat) (B : Bt W) (hg : glB sc "sorted" = true) (hs : Pl a) (ha : XO C W N sc k a f) : XE C W N sc k (.Call (.Name "sorted" p) [a] [] pos) (fOp1 (dSorted g) f) :=
  ok_call1 (r := rSortedS W.K) (fun X hX => by rw [← hX.kk]; exact cr_sortedS) (snd_sorted g) (fun X hX => hX.gl _ hg) (fun X hX => by rw [hX.mg]; exact B.sorted) (by decide +kernel) (by decide) (by decide) (fun X _ => hs X.env) ha
theorem k_eqK : CmpK C W N sc k .Eq (dEqK true) rEqDA := ⟨fun X hX => op_eq_dictA (by have := Fit.u1 X hX; omega), snd_eqK⟩
end
end Ev

set_option Elab.async false
set_option linter.all false
set_option maxRecDepth 100000
set_option maxHeartbeats 4000000
namespace Ev
open PySem L2

/-! the head's facts, with those of own classes -/
def eqB (a b : Option Bool) : Bool := decide (a = b)
def tyNs : List String := ["NoneType", "int", "bool", "str", "list", "tuple", "dict"]
def clsA (K : PySem.W.Frag) (x : Str) (fs : List Str) : Bool :=
  (He.Fa.cls x).ok K && (fs.all (fun f => (He.Fa.noat x f).ok K) && (He.eqO (PySem.W.findIn K (.ref (He.ga K x)) "__class__") (some (some (.builtin "object.__class__"))) && (He.eqO (PySem.W.specialIn K (.builtin "object.__class__") "__get__") (some (some (.builtin "getset_descriptor.__get__"))) &&
    (eqB (PySem.W.takesIn K (.builtin "object.__class__")) (some true) && (eqB (PySem.W.mroIn K (He.ga K x) (.type "object")) (some true) && (decide (fs.Nodup) && (decide (fs.length < 1000) &&
    (tyNs.all (fun b => (b == "NoneType") || eqB (PySem.W.kitOne K (.ref (He.ga K x)) (.type b)) (some false)) && tyNs.all (fun b => eqB (PySem.W.kitOne K (.type b) (.ref (He.ga K x))) (some false))))))))))
def clsB (K : PySem.W.Frag) : List Str → List Str → Bool
  | x :: r, all => (all.all fun y => eqB (PySem.W.kitOne K (.ref (He.ga K y)) (.ref (He.ga K x))) (some (y == x))) && clsB K r all
  | [], _ => true
def addB (K : PySem.W.Frag) (T : String) : Bool := match PySem.W.findIn K (.type T) (PySem.dunder "add"), PySem.W.findIn K (.type T) (dunderR "add") with
  | some fo, some ro => !((fo.isSome && !isSeqSlot fo) || (ro.isSome && !isSeqSlot ro))
  | _, _ => false
theorem addB_ok {K : PySem.W.Frag} {T : String} (h : addB K T = true) : ∃ fo ro, PySem.W.findIn K (.type T) (PySem.dunder "add") = some fo ∧ PySem.W.findIn K (.type T) (dunderR "add") = some ro ∧ ((fo.isSome && !isSeqSlot fo) || (ro.isSome && !isSeqSlot ro)) = false := by
  unfold addB at h
  split at h
  · rename_i fo ro e1 e2
    refine ⟨fo, ro, e1, e2, ?_⟩
    revert h
    generalize ((fo.isSome && !isSeqSlot fo) || (ro.isSome && !isSeqSlot ro)) = z
    cases z <;> intro h <;> first | rfl | cases h
  · cases h
def dunB (K : PySem.W.Frag) (x : Str) (all : List Str) : Bool :=
  PySem.W.selfFirst K (He.ga K x) && (addB K "list" && (all.all (fun y => PySem.W.notFirst K (He.ga K x) (.ref (He.ga K y))) && (tyNs.all (fun b => PySem.W.notFirst K (He.ga K x) (.type b)) &&
    He.eqO (PySem.W.findIn K (.ref (He.ga K x)) "__ne__") (some (some (.builtin "object.__ne__"))))))
def noLst (K : PySem.W.Frag) : Bool := K.all fun p => match p.2.cls with
  | .type c => !(c == "list")
  | _ => true
/-! error classes: the base first -/
def oexB (K : PySem.W.Frag) (C : Addr) : Bool := match K.lookup C with
  | some ⟨.type "type", _, .cls dta, slts⟩ => (match dta.mro, slts.toList with
    | .ref C' :: up, [_, _, _, _, some (.builtin nw), _] => (C' == C) && ((nw == "ValueError.__new__") && (!dta.hasDel && (dta.hasDict && PySem.HandSPX.refsVE up)))
    | _, _ => false)
  | _ => false
def xcsA (K : PySem.W.Frag) (x : Str) (fs : List Str) : Bool :=
  He.eqO (PySem.W.findIn K (.ref (He.ga K x)) "__getattribute__") (some (some (.builtin "BaseException.__getattribute__"))) && (He.eqO (PySem.W.findIn K (.ref (He.ga K x)) "__getattr__") (some none) && (eqB (PySem.W.subIn K (.ref (He.ga K x)) (.type "BaseException")) (some true) && (PySem.W.hasDictIn K (He.ga K x) &&
    (He.eqO (PySem.W.findIn K (.ref (He.ga K x)) "__class__") (some (some (.builtin "object.__class__"))) && (He.eqO (PySem.W.specialIn K (.builtin "object.__class__") "__get__") (some (some (.builtin "getset_descriptor.__get__"))) && (eqB (PySem.W.takesIn K (.builtin "object.__class__")) (some true) && (eqB (PySem.W.mroIn K (He.ga K x) (.type "object")) (some true) &&
    (oexB K (He.ga K x) && (He.eqO (PySem.W.findIn K (.ref (He.ga K x)) "__setattr__") (some (some (.builtin "object.__setattr__"))) && (decide (PySem.W.typeIn K (.ref (He.ga K x)) = some (.type "type")) && (PySem.W.keepIn K (.ref (He.ga K x)) && (fs.all (fun f => (He.Fa.noat x f).ok K) &&
    (tyNs.all (fun b => (b == "NoneType") || eqB (PySem.W.kitOne K (.ref (He.ga K x)) (.type b)) (some false)) && tyNs.all (fun b => eqB (PySem.W.kitOne K (.type b) (.ref (He.ga K x))) (some false)))))))))))))))
def xcsB (K : PySem.W.Frag) (t : Str) : List Str → List Str → Bool
  | x :: r, all => (all.all fun y => eqB (PySem.W.kitOne K (.ref (He.ga K y)) (.ref (He.ga K x))) (some (y == x || x == t)) && eqB (PySem.W.exmOne K (.ref (He.ga K y)) (.ref (He.ga K x))) (some (y == x || x == t))) && xcsB K t r all
  | [], _ => true
def xcsO (K : PySem.W.Frag) (cs xs : List Str) : Bool := cs.all fun c => xs.all fun x => eqB (PySem.W.kitOne K (.ref (He.ga K c)) (.ref (He.ga K x))) (some false) && eqB (PySem.W.kitOne K (.ref (He.ga K x)) (.ref (He.ga K c))) (some false)
def xbB (K : PySem.W.Frag) (t : Str) : Bool := He.eqO (PySem.W.specialIn K (.ref (He.ga K t)) "__getattribute__") (some (some (.builtin "type.__getattribute__"))) && (PySem.W.readsIn K (He.ga K t) (.type "type") && (match PySem.W.findCls K (.ref (He.ga K t)) (.type "type") "__init__" with
  | some (.val (.builtin n)) => n == "ValueError.__init__"
  | _ => false))
def xtX (cs xs : List (Str × List Str)) (K : PySem.W.Frag) : Bool :=
  xs.all (fun c => xcsA K c.1 c.2) && (xcsB K ((xs.map (·.1)).getD 0 Str.empty) (xs.map (·.1)) (xs.map (·.1)) && (xcsO K (cs.map (·.1)) (xs.map (·.1)) && (xs.isEmpty || xbB K ((xs.map (·.1)).getD 0 Str.empty))))
/-- cs: the classes with their fields; ds: those with operators; ix: methods that subscripts call; xs: the error classes -/
def xt (cs : List (Str × List Str)) (ds : List Str) (ix : List (Str × Str)) (xs : List (Str × List Str)) (K : PySem.W.Frag) : Bool :=
  noLst K && (cs.all (fun c => clsA K c.1 c.2) && (clsB K (cs.map (·.1)) (cs.map (·.1)) && (ds.all (fun x => dunB K x (cs.map (·.1))) && (ix.all (fun p => PySem.W.fnIn K (He.ma K (He.ga K p.1) p.2)) && xtX cs xs K))))
def SaysX (x : PySem.W.Frag → Bool) (fa : List He.Fa) (fn : List He.DefD) (K : PySem.W.Frag) : Prop := He.SaysD fa fn K ∧ x K = true
abbrev AlX : Type := Bool × He.AlD
def obsX (x : PySem.W.Frag → Bool) (fa : List He.Fa) (fn : List He.DefD) (K : PySem.W.Frag) : AlX := (x K, He.obsD fa fn K)
def obsXG (x : PySem.W.Frag → Bool) (n : Nat) (fa : List He.Fa) (fn : List He.DefD) (g : Addr → Option Obj) : AlX := obsX x fa fn (He.frG g (He.asD g n ++ [cStatics]))
def hookX (x : PySem.W.Frag → Bool) (n : Nat) (fa : List He.Fa) (fn : List He.DefD) : PySem.W.Hook where
  α := AlX
  obs := fun s => obsXG x n fa fn s.heap.get?
  val := fun _ => (true, He.valD fn)
  says := fun _ h => ∃ K : PySem.W.Frag, K.In h ∧ SaysX x fa fn K
  of := fun _ _ e => ⟨_, He.frG_in, congrArg (fun z : AlX => z.2) e, congrArg (fun z : AlX => z.1) e⟩
  keeps := fun _ _ _ ⟨K, hK, c⟩ k => ⟨K, PySem.W.Frag.In.keeps hK k, c⟩
theorem obsXG_eq {x : PySem.W.Frag → Bool} {n : Nat} {fa : List He.Fa} {fn : List He.DefD} {g : Addr → Option Obj} {s : Shared} (h : ∀ a, g a = s.heap.get? a) : obsXG x n fa fn g = (hookX x n fa fn).obs s := by
  have e : g = s.heap.get? := funext h
  rw [e] <;> rfl
def cfOf (K : PySem.W.Frag) (cs xs : List (Str × List Str)) : Cf where
  n := cs.length
  at_ := fun i => He.ga K ((cs.map (·.1)).getD i Str.empty)
  fs := fun i => (cs.map (·.2)).getD i []
  xn := xs.length
  xat := fun i => He.ga K ((xs.map (·.1)).getD i Str.empty)
  xfs := fun i => (xs.map (·.2)).getD i []
section
variable {K : PySem.W.Frag} {cs xs : List (Str × List Str)} {ds : List Str} {ix : List (Str × Str)}
theorem getD_of {α β : Type} {l : List α} {f : α → β} {i : Nat} {d : β} (h : i < l.length) : ∃ x, x ∈ l ∧ l[i]? = some x ∧ (l.map f).getD i d = f x := by
  refine ⟨l[i], List.getElem_mem h, List.getElem?_eq_getElem h, ?_⟩
  rw [List.getD_eq_getElem?_getD, List.getElem?_map, List.getElem?_eq_getElem h]
  rfl
theorem clsB_all {all : List Str} : ∀ {xs : List Str}, clsB K xs all = true → ∀ x ∈ xs, ∀ y ∈ all, PySem.W.kitOne K (.ref (He.ga K y)) (.ref (He.ga K x)) = some (y == x)
  | [], _, x, h, _, _ => by cases h
  | z :: r, h, x, hx, y, hy => by
    obtain ⟨h1, h2⟩ := He.ba (show ((all.all fun y => eqB (PySem.W.kitOne K (.ref (He.ga K y)) (.ref (He.ga K z))) (some (y == z))) && clsB K r all) = true from h)
    rcases List.mem_cons.mp hx with rfl | hx
    · exact of_decide_eq_true (List.all_eq_true.mp h1 y hy)
    · exact clsB_all h2 x hx y hy
theorem xcsB_all {t : Str} {all : List Str} : ∀ {xs : List Str}, xcsB K t xs all = true → ∀ x ∈ xs, ∀ y ∈ all, PySem.W.kitOne K (.ref (He.ga K y)) (.ref (He.ga K x)) = some (y == x || x == t) ∧ PySem.W.exmOne K (.ref (He.ga K y)) (.ref (He.ga K x)) = some (y == x || x == t)
  | [], _, x, h, _, _ => by cases h
  | z :: r, h, x, hx, y, hy => by
    obtain ⟨h1, h2⟩ := He.ba h
    rcases List.mem_cons.mp hx with e | hx
    · subst e
      obtain ⟨k1, k2⟩ := He.ba (List.all_eq_true.mp h1 y hy)
      exact ⟨of_decide_eq_true k1, of_decide_eq_true k2⟩
    · exact xcsB_all h2 x hx y hy
theorem xcsO_all {cs xs : List Str} (h : xcsO K cs xs = true) {c x : Str} (hc : c ∈ cs) (hx : x ∈ xs) : PySem.W.kitOne K (.ref (He.ga K c)) (.ref (He.ga K x)) = some false ∧ PySem.W.kitOne K (.ref (He.ga K x)) (.ref (He.ga K c)) = some false := by
  obtain ⟨h1, h2⟩ := He.ba (List.all_eq_true.mp (List.all_eq_true.mp h c hc) x hx)
  exact ⟨of_decide_eq_true h1, of_decide_eq_true h2⟩
theorem exc_of {x : Str} {fs : List Str} (q : xcsA K x fs = true) : ExcC K (He.ga K x) := by
  obtain ⟨q1, q⟩ := He.ba q
  obtain ⟨q2, q⟩ := He.ba q
  obtain ⟨q3, q⟩ := He.ba q
  obtain ⟨q4, q⟩ := He.ba q
  obtain ⟨q5, q⟩ := He.ba q
  obtain ⟨q6, q⟩ := He.ba q
  obtain ⟨q7, q⟩ := He.ba q
  obtain ⟨q8, q⟩ := He.ba q
  exact ⟨He.eqO_ok q1, He.eqO_ok q2, of_decide_eq_true q3, q4, He.eqO_ok q5, He.eqO_ok q6, of_decide_eq_true q7, of_decide_eq_true q8⟩
theorem xcs_mid {x : Str} {fs : List Str} (q : xcsA K x fs = true) : oexB K (He.ga K x) = true ∧ PySem.W.findIn K (.ref (He.ga K x)) "__setattr__" = some (some (.builtin "object.__setattr__")) ∧ PySem.W.typeIn K (.ref (He.ga K x)) = some (.type "type") ∧ PySem.W.keepIn K (.ref (He.ga K x)) = true := by
  obtain ⟨_, q⟩ := He.ba q
  obtain ⟨_, q⟩ := He.ba q
  obtain ⟨_, q⟩ := He.ba q
  obtain ⟨_, q⟩ := He.ba q
  obtain ⟨_, q⟩ := He.ba q
  obtain ⟨_, q⟩ := He.ba q
  obtain ⟨_, q⟩ := He.ba q
  obtain ⟨_, q⟩ := He.ba q
  obtain ⟨q1, q⟩ := He.ba q
  obtain ⟨q2, q⟩ := He.ba q
  obtain ⟨q3, q⟩ := He.ba q
  obtain ⟨q4, _⟩ := He.ba q
  exact ⟨q1, He.eqO_ok q2, of_decide_eq_true q3, q4⟩
theorem xcs_tail {x : Str} {fs : List Str} (q : xcsA K x fs = true) : (∀ f ∈ fs, PySem.W.findIn K (.ref (He.ga K x)) f = some none) ∧ (tyNs.all (fun b => (b == "NoneType") || eqB (PySem.W.kitOne K (.ref (He.ga K x)) (.type b)) (some false)) && tyNs.all (fun b => eqB (PySem.W.kitOne K (.type b) (.ref (He.ga K x))) (some false))) = true := by
  obtain ⟨_, q⟩ := He.ba q
  obtain ⟨_, q⟩ := He.ba q
  obtain ⟨_, q⟩ := He.ba q
  obtain ⟨_, q⟩ := He.ba q
  obtain ⟨_, q⟩ := He.ba q
  obtain ⟨_, q⟩ := He.ba q
  obtain ⟨_, q⟩ := He.ba q
  obtain ⟨_, q⟩ := He.ba q
  obtain ⟨_, q⟩ := He.ba q
  obtain ⟨_, q⟩ := He.ba q
  obtain ⟨_, q⟩ := He.ba q
  obtain ⟨_, q⟩ := He.ba q
  obtain ⟨q1, q⟩ := He.ba q
  exact ⟨fun f hf => He.eqO_ok (List.all_eq_true.mp q1 f hf), q⟩
theorem nd_beq {l : List (Str × List Str)} (nd : (l.map (·.1)).Nodup) {i j : Nat} {p q : Str × List Str} (h1 : l[i]? = some p) (h2 : l[j]? = some q) : (p.1 == q.1) = (i == j) := by
  have e1 : (l.map (·.1))[i]? = some p.1 := by rw [List.getElem?_map, h1]; rfl
  have e2 : (l.map (·.1))[j]? = some q.1 := by rw [List.getElem?_map, h2]; rfl
  by_cases z : i = j
  · subst z
    rw [h1] at h2
    cases h2
    simp
  · have : p.1 ≠ q.1 := fun k => z (nodup_ix nd e1 (by rw [k]; exact e2))
    rw [beq_eq_false_iff_ne.mpr this, beq_eq_false_iff_ne.mpr z]
theorem isi_of (nd : (cs.map (·.1)).Nodup) (ndx : (xs.map (·.1)).Nodup) (h : xt cs ds ix xs K = true) : IsiFact (cfOf K cs xs) K := by
  obtain ⟨_, h⟩ := He.ba h
  obtain ⟨hA, h⟩ := He.ba h
  obtain ⟨hB, h⟩ := He.ba h
  obtain ⟨_, h⟩ := He.ba h
  obtain ⟨_, h⟩ := He.ba h
  obtain ⟨xA, h⟩ := He.ba h
  obtain ⟨xB, h⟩ := He.ba h
  obtain ⟨xO, _⟩ := He.ba h
  have keyX : ∀ c, c < (cfOf K cs xs).xn → ∃ p, p ∈ xs ∧ xs[c]? = some p ∧ (cfOf K cs xs).xat c = He.ga K p.1 ∧ (cfOf K cs xs).xfs c = p.2 ∧ xcsA K p.1 p.2 = true := fun c hc => by
    obtain ⟨p, hp, e, e1⟩ := getD_of (f := fun q : Str × List Str => q.1) (d := Str.empty) hc
    obtain ⟨p', _, e', e2⟩ := getD_of (f := fun q : Str × List Str => q.2) (d := ([] : List Str)) hc
    rw [e] at e'
    cases e'
    exact ⟨p, hp, e, congrArg (He.ga K) e1, e2, List.all_eq_true.mp xA p hp⟩
  have key : ∀ c, c < (cfOf K cs xs).n → ∃ p, cs[c]? = some p ∧ (cfOf K cs xs).at_ c = He.ga K p.1 ∧ (cfOf K cs xs).fs c = p.2 ∧ clsA K p.1 p.2 = true := fun c hc => by
    obtain ⟨p, hp, e, e1⟩ := getD_of (f := fun q : Str × List Str => q.1) (d := Str.empty) hc
    obtain ⟨p', _, e', e2⟩ := getD_of (f := fun q : Str × List Str => q.2) (d := ([] : List Str)) hc
    rw [e] at e'
    cases e'
    exact ⟨p, e, congrArg (He.ga K) e1, e2, List.all_eq_true.mp hA p hp⟩
  refine ⟨fun c hc => ?_, fun c c' hc hc' => ?_, fun c hc b hb => ?_, fun c hc b hb => ?_, fun c hc => ?_, fun c c' hc hc' => ?_, fun c hc b hb => ?_, fun c hc b hb => ?_, fun c c' hc hc' => ?_, fun c c' hc hc' => ?_, fun c c' hc hc' => ?_⟩
  · obtain ⟨p, _, e1, e2, q⟩ := key c hc
    obtain ⟨q1, q⟩ := He.ba q
    obtain ⟨q2, q⟩ := He.ba q
    obtain ⟨q3, q⟩ := He.ba q
    obtain ⟨q4, q⟩ := He.ba q
    obtain ⟨q5, q⟩ := He.ba q
    obtain ⟨q6, q⟩ := He.ba q
    obtain ⟨q7, q⟩ := He.ba q
    obtain ⟨q8, q⟩ := He.ba q
    exact ⟨by rw [e1]; exact He.cls_ok q1, by rw [e2]; exact of_decide_eq_true q7, fun f hf => by rw [e1]; exact He.noat_ok (List.all_eq_true.mp q2 f (by rw [← e2]; exact hf)), by rw [e1]; exact He.eqO_ok q3, He.eqO_ok q4, of_decide_eq_true q5, by rw [e1]; exact of_decide_eq_true q6, by rw [e2]; exact of_decide_eq_true q8⟩
  · obtain ⟨p, i1, e1, _, _⟩ := key c hc
    obtain ⟨p', i2, e2, _, _⟩ := key c' hc'
    rw [e1, e2]
    rw [clsB_all hB p.1 (List.mem_map_of_mem (List.mem_of_getElem? i1)) p'.1 (List.mem_map_of_mem (List.mem_of_getElem? i2))]
    congr 1
    by_cases q : c' = c
    · subst q
      rw [i1] at i2
      cases i2
      simp
    · have : p'.1 ≠ p.1 := fun z => q (by
        have j1 : (cs.map (·.1))[c']? = some p'.1 := by rw [List.getElem?_map, i2]; rfl
        have j2 : (cs.map (·.1))[c]? = some p.1 := by rw [List.getElem?_map, i1]; rfl
        rw [z] at j1
        obtain ⟨l1, g1⟩ := List.getElem?_eq_some_iff.mp j1
        obtain ⟨l2, g2⟩ := List.getElem?_eq_some_iff.mp j2
        exact (List.getElem_inj nd).mp (g1.trans g2.symm))
      rw [beq_eq_false_iff_ne.mpr this, beq_eq_false_iff_ne.mpr q]
  · obtain ⟨p, _, e1, _, q⟩ := key c hc
    obtain ⟨_, q⟩ := He.ba q
    obtain ⟨_, q⟩ := He.ba q
    obtain ⟨_, q⟩ := He.ba q
    obtain ⟨_, q⟩ := He.ba q
    obtain ⟨_, q⟩ := He.ba q
    obtain ⟨_, q⟩ := He.ba q
    obtain ⟨_, q⟩ := He.ba q
    obtain ⟨_, q⟩ := He.ba q
    obtain ⟨q, _⟩ := He.ba q
    rw [e1]
    have hb2 : b ∈ tyNs := List.mem_cons_of_mem _ hb
    rcases Bool.or_eq_true_iff.mp (List.all_eq_true.mp q b hb2) with z | z
    · rw [beq_iff_eq.mp z] at hb
      simp at hb
    · exact of_decide_eq_true z
  · obtain ⟨p, _, e1, _, q⟩ := key c hc
    obtain ⟨_, q⟩ := He.ba q
    obtain ⟨_, q⟩ := He.ba q
    obtain ⟨_, q⟩ := He.ba q
    obtain ⟨_, q⟩ := He.ba q
    obtain ⟨_, q⟩ := He.ba q
    obtain ⟨_, q⟩ := He.ba q
    obtain ⟨_, q⟩ := He.ba q
    obtain ⟨_, q⟩ := He.ba q
    obtain ⟨_, q⟩ := He.ba q
    rw [e1]
    exact of_decide_eq_true (List.all_eq_true.mp q b hb)
  · obtain ⟨p, _, _, e1, e2, q⟩ := keyX c hc
    rw [e1]
    exact exc_of q
  · obtain ⟨p, hp, e, e1, _⟩ := keyX c hc
    obtain ⟨p', hp', e', e1', _⟩ := keyX c' hc'
    rw [e1, e1']
    have q := xcsB_all xB p.1 (List.mem_map_of_mem hp) p'.1 (List.mem_map_of_mem hp')
    rw [q.1]
    have k1 : (p'.1 == p.1) = (c' == c) := nd_beq ndx e' e
    have k2 : (p.1 == (xs.map (·.1)).getD 0 Str.empty) = (c == 0) := by
      have h0 : 0 < xs.length := Nat.lt_of_le_of_lt (Nat.zero_le c) hc
      obtain ⟨p0, _, e0, e3⟩ := getD_of (f := fun q : Str × List Str => q.1) (d := Str.empty) h0
      rw [e3]
      exact nd_beq ndx e e0
    rw [k1, k2]
  · obtain ⟨p, _, _, e1, e2, q⟩ := keyX c hc
    rw [e1]
    obtain ⟨_, q⟩ := xcs_tail q
    obtain ⟨q, _⟩ := He.ba q
    have hb' : b ∈ tyNs ∧ (b == "NoneType") = false := by
      simp only [List.mem_cons, List.not_mem_nil, or_false] at hb
      rcases hb with rfl | rfl | rfl | rfl | rfl | rfl <;> exact ⟨by decide, by decide⟩
    have z := List.all_eq_true.mp q b hb'.1
    rw [hb'.2, Bool.false_or] at z
    exact of_decide_eq_true z
  · obtain ⟨p, _, _, e1, e2, q⟩ := keyX c hc
    rw [e1]
    obtain ⟨_, q⟩ := xcs_tail q
    obtain ⟨_, q⟩ := He.ba q
    exact of_decide_eq_true (List.all_eq_true.mp q b hb)
  · obtain ⟨p, hp, e, e1, _⟩ := keyX c hc
    obtain ⟨p', e', e1', _⟩ := key c' hc'
    rw [e1, e1']
    exact (xcsO_all xO (List.mem_map_of_mem (List.mem_of_getElem? e')) (List.mem_map_of_mem hp)).1
  · obtain ⟨p, hp, e, e1, _⟩ := keyX c hc
    obtain ⟨p', hp', e', e1', _⟩ := keyX c' hc'
    rw [e1, e1']
    have q := xcsB_all xB p.1 (List.mem_map_of_mem hp) p'.1 (List.mem_map_of_mem hp')
    rw [q.2]
    have k1 : (p'.1 == p.1) = (c' == c) := nd_beq ndx e' e
    have k2 : (p.1 == (xs.map (·.1)).getD 0 Str.empty) = (c == 0) := by
      have h0 : 0 < xs.length := Nat.lt_of_le_of_lt (Nat.zero_le c) hc
      obtain ⟨p0, _, e0, e3⟩ := getD_of (f := fun q : Str × List Str => q.1) (d := Str.empty) h0
      rw [e3]
      exact nd_beq ndx e e0
    rw [k1, k2]
  · obtain ⟨p, e, e1, _⟩ := key c hc
    obtain ⟨p', hp', e', e1', _⟩ := keyX c' hc'
    rw [e1, e1']
    exact (xcsO_all xO (List.mem_map_of_mem (List.mem_of_getElem? e)) (List.mem_map_of_mem hp')).2
theorem dun_of (h : xt cs ds ix xs K = true) {c : Nat} {x : Str} (hx : x ∈ ds) (hc : (cs.map (·.1)).getD c Str.empty = x) : DunF (cfOf K cs xs) K c := by
  obtain ⟨_, h⟩ := He.ba h
  obtain ⟨_, h⟩ := He.ba h
  obtain ⟨_, h⟩ := He.ba h
  obtain ⟨h, _⟩ := He.ba h
  have q := List.all_eq_true.mp h x hx
  have e : (cfOf K cs xs).at_ c = He.ga K x := congrArg (He.ga K) hc
  obtain ⟨q1, q⟩ := He.ba q
  obtain ⟨q2, q⟩ := He.ba q
  obtain ⟨q6, q⟩ := He.ba q
  obtain ⟨q7, q8⟩ := He.ba q
  refine ⟨⟨by rw [e]; exact q1, addB_ok q2⟩, fun c' hc' => ?_, fun b hb => by rw [e]; exact List.all_eq_true.mp q7 b hb, by rw [e]; exact He.eqO_ok q8⟩
  obtain ⟨p, hp, _, e1⟩ := getD_of (f := fun q : Str × List Str => q.1) (d := Str.empty) hc'
  rw [e, show (cfOf K cs xs).at_ c' = He.ga K p.1 from congrArg (He.ga K) e1]
  exact List.all_eq_true.mp q6 p.1 (List.mem_map_of_mem hp)
theorem rd_of (h : xt cs ds ix xs K = true) {H : Hp} {a : Addr} {vs : List V} (hs : SqL K H a vs) : Rd H a (.lst vs) := by
  obtain ⟨h, _⟩ := He.ba h
  rcases hs with hs | ⟨o, its, n, l, c, _⟩
  · exact hs
  · have : ∀ {L : PySem.W.Frag}, L.lookup a = some o → (a, o) ∈ L := fun {L} e => by
      induction L with
      | nil => cases e
      | cons p r ih =>
        obtain ⟨b, o'⟩ := p
        rw [List.lookup_cons] at e
        split at e
        · rename_i z
          cases e
          rw [beq_iff_eq.mp z]
          exact List.mem_cons_self
        · exact List.mem_cons_of_mem _ (ih e)
    have q := List.all_eq_true.mp h _ (this l)
    dsimp only at q
    rw [c] at q
    simp at q
end
/-! defs -/
section
variable {C : Cf} {W : Wd} {N ps : List Str} {k n : Nat} {x qual : Str} {params : Arguments} {body : List Stmt} {scope : Scope} {f : Addr} {fd : FuncData}
abbrev BindF (x qual : Str) (params : Arguments) (body : List Stmt) (scope : Scope) (ps : List Str) : Prop := ∀ (kV doc pm : Value) (an : Option Addr) (cdv ct : Value) (us : List Value), us.length = ps.length → bindArgs (PySem.W.fnOf x qual params body scope .none kV doc pm an cdv ct) ⟨us, []⟩ = pure (ps.zip us)
theorem def_F {F : FF} {fb : Nat → FS} (D : FunD W.K x x params body scope [] [] f fd) (S : FnScope N ps scope) (hn : ps.length = n) (hN : n ≤ N.length) (hF : ∀ g args s, F g args = some s → runF N.length (fb g) args = some s) (hb : ∀ g, XB C W N scope k body (fb g)) (hm : W.mg x = some (.ref f)) (hB : BindF x x params body scope ps) : Def W x (k + 1) (spF C n F) :=
  ⟨⟨f, fd, ps, fn_F D S hn hN hF hb, hm, D.kp, D.bindsN hB⟩⟩
theorem def_M {F : FM} {fb : Nat → FS} (D : FunD W.K x x params body scope [] [] f fd) (S : FnScope N ps scope) (hn : ps.length = n) (hN : n ≤ N.length) (hF : ∀ g t xs args q, F g t xs args = some q → runM N.length (fb g) t xs args = some q) (hb : ∀ g, XB C W N scope k body (fb g)) (hm : W.mg x = some (.ref f)) (hB : BindF x x params body scope ps) : Def W x (k + 1) (spM C n F) :=
  ⟨⟨f, fd, ps, fn_M D S hn hN hF hb, hm, D.kp, D.bindsN hB⟩⟩
theorem def_T {c : Nat} {F : FF} {fb : Nat → FS} (D : FunD W.K x qual params body scope [] [] f fd) (S : FnScope N ps scope) (hn : ps.length = n) (hN : n ≤ N.length) (hF : ∀ g args s, F g args = some s → runF N.length (fb g) args = some s) (hb : ∀ g, XB C W N scope k body (fb g)) (hm : Meth W.K (C.at_ c) x f) (hB : BindF x qual params body scope ps) : Mth C W c x (k + 1) (spF C n F) :=
  ⟨⟨f, fd, ps, fn_F D S hn hN hF hb, hm, D.bindsN hB⟩⟩
theorem def_I {c : Nat} {y : Str} {F : FI} {fb : Nat → FS} (D : FunD W.K x qual params body scope [] [] f fd) (S : FnScope N ps scope) (hn : ps.length = n) (hN : n ≤ N.length) (hF : ∀ g args fs, F g args = some fs → runI c N.length (fb g) args = some fs ∧ fs.length = (C.fs c).length) (hb : ∀ g, XB C W N scope k body (fb g)) (hc : c < C.n) (hy : W.mg y = some (.ref (C.at_ c))) (hm : Mk W.K (C.at_ c) f) (hB : BindF x qual params body scope ps) : Mkr C W y c (k + 1) (spI C c n F) :=
  ⟨hc, ⟨f, fd, ps, fn_I D S hn hN hF hb, hy, hm, D.bindsN hB⟩⟩
def lenN (n : Nat) (o : Option (List D)) : Option (List D) := match o with
  | some fs => if fs.length = n then some fs else none
  | none => none
theorem lenN_some {n : Nat} {o : Option (List D)} {fs : List D} (h : lenN n o = some fs) : o = some fs ∧ fs.length = n := by
  unfold lenN at h
  split at h
  · obtain ⟨c, e⟩ := if_some h
    subst e
    exact ⟨rfl, c⟩
  · cases h
/-- the law's promise at a script -/
theorem law_sp {F : FF} {K : PySem.W.Frag} {cs xs : List (Str × List Str)} {ds : List Str} {ix : List (Str × Str)} (h : xt cs ds ix xs K = true) (hF : ∀ ns : List Int, ns.length ≤ 63 → F 0 [.scr ns] = some (.sh (.bl true))) {H : Hp} {a : Addr} {ns : List Int} {E : XK} (hl : ns.length ≤ 63) (hS : SqL K H a (ns.map V.int)) : spF C 1 F [.ref a] H (fun v _ => v = .bl true) E := by
  refine ⟨rfl, fun _ => 0, H, 0, [.scr ns], _, ?_, Sub.refl _, hF ns hl, fun v ρ' S' H' _ r => ret_bl r⟩
  refine denL_cons.mpr ⟨?_, denL_nil.mpr rfl⟩
  unfold Den
  exact ⟨a, rfl, rd_of h hS⟩
end
end Ev

set_option Elab.async false
set_option linter.all false
set_option maxRecDepth 100000
set_option maxHeartbeats 4000000
namespace Ev
open PySem L2
/-! the head in two runs: the defs; all else -/
def obX (x : PySem.W.Frag → Bool) (n : Nat) (fa : List He.Fa) (fn : List He.DefD) (s : PySem.W.SharedT) : AlX := obsXG x n fa fn (HandSHeadRun.getT s)
theorem run_two {r : PySem.W.OpenRow} {q : Program} {x : PySem.W.Frag → Bool} {n M : Nat} {fa : List He.Fa} {fn : List He.DefD} {loose : List Str} {w : World} (hA : HandSHeadRun.RunEq r q (hookX (fun _ => true) n [] fn) (obX (fun _ => true) n [] fn) M loose w) (hB : HandSHeadRun.RunEq r q (hookX x n fa []) (obX x n fa []) M loose w) :
    HandSHeadRun.RunEq r q (hookX x n fa fn) (obX x n fa fn) M loose w := by
  intro os
  have ea := hA os
  have eb := hB os
  revert ea eb
  generalize HandSHeadRun.endF _ _ _ _ _ = o
  cases o with
  | none => intro ea; cases ea
  | some s =>
    intro ea eb
    have ea := Option.some.inj ea
    have eb := Option.some.inj eb
    have a1 := congrArg (fun z => z.1) ea
    have a2 := congrArg (fun z => z.2.1) ea
    have a3 : (true, He.obsD [] fn (He.frG (HandSHeadRun.getT s) (He.asD (HandSHeadRun.getT s) n ++ [cStatics]))) = (true, He.valD fn) := congrArg (fun z => z.2.2) ea
    have b3 : (x (He.frG (HandSHeadRun.getT s) (He.asD (HandSHeadRun.getT s) n ++ [cStatics])), He.obsD fa [] (He.frG (HandSHeadRun.getT s) (He.asD (HandSHeadRun.getT s) n ++ [cStatics]))) = (true, He.valD []) := congrArg (fun z => z.2.2) eb
    refine congrArg some (Prod.ext a1 (Prod.ext a2 ?_))
    show (x (He.frG (HandSHeadRun.getT s) (He.asD (HandSHeadRun.getT s) n ++ [cStatics])), He.obsD fa fn (He.frG (HandSHeadRun.getT s) (He.asD (HandSHeadRun.getT s) n ++ [cStatics]))) = (true, He.valD fn)
    revert a3 b3
    generalize He.frG (HandSHeadRun.getT s) (He.asD (HandSHeadRun.getT s) n ++ [cStatics]) = K
    intro a3 b3
    have c1 : (fn.all fun d => d.ok K) = true := by
      have z := congrArg (fun z => z.2.1) a3
      simpa [He.obsD, He.valD] using z
    have c2 : (fn.map fun d => He.fnW K d.at_) = fn.map He.DefD.val := congrArg (fun z => z.2.2) a3
    have c3 : x K = true := congrArg (fun z => z.1) b3
    have c4 : (fa.all fun f => f.ok K) = true := by
      have z := congrArg (fun z => z.2.1) b3
      simpa [He.obsD, He.valD] using z
    unfold He.obsD He.valD
    rw [c1, c2, c3, c4]
    rfl
end Ev

namespace Ev
open PySem L2
def top (i : Nat) : Stmt := PySem.Challenge.pw_laterthemes_k19_layers_by_name.main.body.getD i (.Pass ⟨0, 0, 0, 0⟩)
def dd_is_known : He.DefD := ⟨("is_known", none), "is_known", "is_known", defArgs (top 12), defBody (top 12), defScope (top 12), [], []⟩
def dd_is_whole : He.DefD := ⟨("is_whole", none), "is_whole", "is_whole", defArgs (top 10), defBody (top 10), defScope (top 10), [], []⟩
def dd_is_operand : He.DefD := ⟨("is_operand", none), "is_operand", "is_operand", defArgs (top 13), defBody (top 13), defScope (top 13), [], []⟩
def dd_are_operands : He.DefD := ⟨("are_operands", none), "are_operands", "are_operands", defArgs (top 15), defBody (top 15), defScope (top 15), [], []⟩
def dd_has_word : He.DefD := ⟨("has_word", none), "has_word", "has_word", defArgs (top 14), defBody (top 14), defScope (top 14), [], []⟩
def dd_is_definition : He.DefD := ⟨("is_definition", none), "is_definition", "is_definition", defArgs (top 16), defBody (top 16), defScope (top 16), [], []⟩
def dd_is_name : He.DefD := ⟨("is_name", none), "is_name", "is_name", defArgs (top 11), defBody (top 11), defScope (top 11), [], []⟩
def dd_are_limits : He.DefD := ⟨("are_limits", none), "are_limits", "are_limits", defArgs (top 17), defBody (top 17), defScope (top 17), [], []⟩
def dd_are_names : He.DefD := ⟨("are_names", none), "are_names", "are_names", defArgs (top 18), defBody (top 18), defScope (top 18), [], []⟩
def dd_is_alias : He.DefD := ⟨("is_alias", none), "is_alias", "is_alias", defArgs (top 19), defBody (top 19), defScope (top 19), [], []⟩
def dd_is_permitted : He.DefD := ⟨("is_permitted", none), "is_permitted", "is_permitted", defArgs (top 20), defBody (top 20), defScope (top 20), [], []⟩
def dd_are_settings : He.DefD := ⟨("are_settings", none), "are_settings", "are_settings", defArgs (top 21), defBody (top 21), defScope (top 21), [], []⟩
def dd_copied : He.DefD := ⟨("copied", none), "copied", "copied", defArgs (top 22), defBody (top 22), defScope (top 22), [], []⟩
def dd_copied_setting : He.DefD := ⟨("copied_setting", none), "copied_setting", "copied_setting", defArgs (top 23), defBody (top 23), defScope (top 23), [], []⟩
def dd_operands_of : He.DefD := ⟨("operands_of", none), "operands_of", "operands_of", defArgs (top 24), defBody (top 24), defScope (top 24), [], []⟩
def dd_names_in : He.DefD := ⟨("names_in", none), "names_in", "names_in", defArgs (top 25), defBody (top 25), defScope (top 25), [], []⟩
def dd_permitted_names : He.DefD := ⟨("permitted_names", none), "permitted_names", "permitted_names", defArgs (top 26), defBody (top 26), defScope (top 26), [], []⟩
def dd_mentions : He.DefD := ⟨("mentions", none), "mentions", "mentions", defArgs (top 27), defBody (top 27), defScope (top 27), [], []⟩
def dd_ranks_of : He.DefD := ⟨("ranks_of", none), "ranks_of", "ranks_of", defArgs (top 35), defBody (top 35), defScope (top 35), [], []⟩
def dd_ring_in : He.DefD := ⟨("ring_in", none), "ring_in", "ring_in", defArgs (top 36), defBody (top 36), defScope (top 36), [], []⟩
def dd_operand_value : He.DefD := ⟨("operand_value", none), "operand_value", "operand_value", defArgs (top 37), defBody (top 37), defScope (top 37), [], []⟩
def dd_definition_value : He.DefD := ⟨("definition_value", none), "definition_value", "definition_value", defArgs (top 38), defBody (top 38), defScope (top 38), [], []⟩
def dd_limits_of : He.DefD := ⟨("limits_of", none), "limits_of", "limits_of", defArgs (top 28), defBody (top 28), defScope (top 28), [], []⟩
def dd_setting_value : He.DefD := ⟨("setting_value", none), "setting_value", "setting_value", defArgs (top 39), defBody (top 39), defScope (top 39), [], []⟩
def dd_values_of : He.DefD := ⟨("values_of", none), "values_of", "values_of", defArgs (top 40), defBody (top 40), defScope (top 40), [], []⟩
def dd_Book_init : He.DefD := ⟨("Book", some "__init__"), "__init__", "Book.__init__", defArgs (inClass (top 42) 0), defBody (inClass (top 42) 0), defScope (inClass (top 42) 0), [], []⟩
def dd_Book_names : He.DefD := ⟨("Book", some "names"), "names", "Book.names", defArgs (inClass (top 42) 1), defBody (inClass (top 42) 1), defScope (inClass (top 42) 1), [], []⟩
def dd_allows : He.DefD := ⟨("allows", none), "allows", "allows", defArgs (top 32), defBody (top 32), defScope (top 32), [], []⟩
def dd_sealed : He.DefD := ⟨("sealed", none), "sealed", "sealed", defArgs (top 29), defBody (top 29), defScope (top 29), [], []⟩
def dd_applied : He.DefD := ⟨("applied", none), "applied", "applied", defArgs (top 33), defBody (top 33), defScope (top 33), [], []⟩
def dd_after_rows : He.DefD := ⟨("after_rows", none), "after_rows", "after_rows", defArgs (top 41), defBody (top 41), defScope (top 41), [], []⟩
def dd_check_book : He.DefD := ⟨("check_book", none), "check_book", "check_book", defArgs (top 43), defBody (top 43), defScope (top 43), [], []⟩
def dd_is_row : He.DefD := ⟨("is_row", none), "is_row", "is_row", defArgs (top 30), defBody (top 30), defScope (top 30), [], []⟩
def dd_is_layer : He.DefD := ⟨("is_layer", none), "is_layer", "is_layer", defArgs (top 31), defBody (top 31), defScope (top 31), [], []⟩
def dd_behind : He.DefD := ⟨("behind", none), "behind", "behind", defArgs (top 45), defBody (top 45), defScope (top 45), [], []⟩
def dd_plain_row : He.DefD := ⟨("plain_row", none), "plain_row", "plain_row", defArgs (top 48), defBody (top 48), defScope (top 48), [], []⟩
def dd_touching : He.DefD := ⟨("touching", none), "touching", "touching", defArgs (top 46), defBody (top 46), defScope (top 46), [], []⟩
def dd_plain : He.DefD := ⟨("plain", none), "plain", "plain", defArgs (top 49), defBody (top 49), defScope (top 49), [], []⟩
def dd_law_fails : He.DefD := ⟨("_law_fails", none), "_law_fails", "_law_fails", defArgs (top 55), defBody (top 55), defScope (top 55), [], []⟩
def dd_law_mixed : He.DefD := ⟨("_law_mixed", none), "_law_mixed", "_law_mixed", defArgs (top 52), defBody (top 52), defScope (top 52), [], []⟩
def dd_law_draw : He.DefD := ⟨("_law_draw", none), "_law_draw", "_law_draw", defArgs (top 53), defBody (top 53), defScope (top 53), [], []⟩
def dd_law_number : He.DefD := ⟨("_law_number", none), "_law_number", "_law_number", defArgs (top 54), defBody (top 54), defScope (top 54), [], []⟩
def dd_law_purse : He.DefD := ⟨("_law_purse", none), "_law_purse", "_law_purse", defArgs (top 51), defBody (top 51), defScope (top 51), [], []⟩
def dd_touched : He.DefD := ⟨("touched", none), "touched", "touched", defArgs (top 47), defBody (top 47), defScope (top 47), [], []⟩
def dd_law : He.DefD := ⟨("law", none), "law", "law", defArgs (top 56), defBody (top 56), defScope (top 56), [], []⟩
def dd_InvalidBook_init : He.DefD := ⟨("InvalidBook", some "__init__"), "__init__", "InvalidBook.__init__", defArgs (inClass (top 3) 0), defBody (inClass (top 3) 0), defScope (inClass (top 3) 0), [.non], []⟩
def dd_InvalidLayer_init : He.DefD := ⟨("InvalidLayer", some "__init__"), "__init__", "InvalidLayer.__init__", defArgs (inClass (top 6) 0), defBody (inClass (top 6) 0), defScope (inClass (top 6) 0), [.non], []⟩
def dd_NotAllowed_init : He.DefD := ⟨("NotAllowed", some "__init__"), "__init__", "NotAllowed.__init__", defArgs (inClass (top 7) 0), defBody (inClass (top 7) 0), defScope (inClass (top 7) 0), [.non], []⟩
def fn0 : List He.DefD := [dd_is_known, dd_is_whole, dd_is_operand, dd_are_operands, dd_has_word, dd_is_definition, dd_is_name, dd_are_limits, dd_are_names, dd_is_alias, dd_is_permitted, dd_are_settings, dd_copied, dd_copied_setting, dd_operands_of, dd_names_in, dd_permitted_names, dd_mentions, dd_ranks_of, dd_ring_in, dd_operand_value, dd_definition_value, dd_limits_of, dd_setting_value, dd_values_of]
def fn1 : List He.DefD := [dd_Book_init, dd_Book_names, dd_allows, dd_sealed, dd_applied, dd_after_rows, dd_check_book, dd_is_row, dd_is_layer, dd_behind, dd_plain_row, dd_touching, dd_plain, dd_law_fails, dd_law_mixed, dd_law_draw, dd_law_number, dd_law_purse, dd_touched, dd_law, dd_InvalidBook_init, dd_InvalidLayer_init, dd_NotAllowed_init]
def fn : List He.DefD := fn0 ++ fn1
def fa0 : List He.Fa := [.glo "is_known", .glo "is_whole", .glo "is_operand", .glo "are_operands", .glo "has_word", .glo "is_definition", .glo "is_name", .glo "are_limits", .glo "are_names", .glo "is_alias", .glo "is_permitted", .glo "are_settings", .glo "copied", .glo "copied_setting", .glo "operands_of", .glo "names_in", .glo "permitted_names", .glo "mentions", .glo "ranks_of", .glo "ring_in", .glo "operand_value", .glo "definition_value", .glo "limits_of", .glo "setting_value", .glo "values_of"]
def fa1 : List He.Fa := [.glo "Book", .mkr "Book", .meth "Book" "names", .glo "allows", .glo "sealed", .glo "applied", .glo "after_rows", .glo "check_book", .glo "is_row", .glo "is_layer", .glo "behind", .glo "plain_row", .glo "touching", .glo "plain", .glo "_law_fails", .glo "_law_mixed", .glo "_law_draw", .glo "_law_number", .glo "_law_purse", .glo "touched", .glo "law", .glo "ThemeError", .glo "InvalidBook", .glo "PossibleRing", .glo "UnknownName"]
def fa2 : List He.Fa := [.glo "InvalidLayer", .glo "NotAllowed", .meth "InvalidBook" "__init__", .meth "InvalidLayer" "__init__", .meth "NotAllowed" "__init__", .free "range", .free "enumerate", .free "len", .free "sum", .free "max", .free "min", .free "list", .free "tuple", .free "int", .free "bool", .free "str", .free "dict", .free "abs", .free "isinstance", .free "sorted", .str "LETTERS" "abcdefghijklmnopqrstuvwxyz"]
def fa : List He.Fa := fa0 ++ fa1 ++ fa2
def nms0 : List Str := ["_wall", "ThemeError", "InvalidBook", "PossibleRing", "UnknownName", "InvalidLayer", "NotAllowed", "LETTERS", "is_whole", "is_name", "is_known", "is_operand", "has_word", "are_operands", "is_definition", "are_limits", "are_names", "is_alias", "is_permitted", "are_settings", "copied", "copied_setting", "operands_of", "names_in", "permitted_names"]
def nms1 : List Str := ["mentions", "limits_of", "sealed", "is_row", "is_layer", "allows", "applied", "ranks_of", "ring_in", "operand_value", "definition_value", "setting_value", "values_of", "after_rows", "Book", "check_book", "behind", "touching", "touched", "plain_row", "plain", "_law_purse", "_law_mixed", "_law_draw", "_law_number"]
def nms2 : List Str := ["_law_fails"]
def nms : List Str := nms0 ++ nms1 ++ nms2
def cs : List (Str × List Str) := [("Book", ["rows", "found"])]
def ds : List Str := ["Book"]
def ix : List (Str × Str) := []
def xs : List (Str × List Str) := [("ThemeError", []), ("InvalidBook", ["value"]), ("PossibleRing", ["ring"]), ("UnknownName", ["name"]), ("InvalidLayer", ["value"]), ("NotAllowed", ["index"])]
abbrev R : PySem.W.OpenRow := PySem.W.OpenLaw.row PySem.Challenge.rw_laterthemes_k19_layers_by_name
abbrev hk : PySem.W.Hook := hookX (xt cs ds ix xs) 5 fa fn
def ob (s : PySem.W.SharedT) : AlX := obX (xt cs ds ix xs) 5 fa fn s
theorem ob_eq (s : PySem.W.SharedT) : ob s = hk.obs s.abs := obsXG_eq (HandSHeadRun.getT_eq s)
set_option maxHeartbeats 0 in
theorem runA (w : World) : HandSHeadRun.RunEq R (PySem.W.view R.prog [56]) (hookX (fun _ => true) 5 [] fn) (obX (fun _ => true) 5 [] fn) 6000 nms w := by
  intro os
  kernel_rfl
set_option maxHeartbeats 0 in
theorem runB (w : World) : HandSHeadRun.RunEq R (PySem.W.view R.prog [56]) (hookX (xt cs ds ix xs) 5 fa []) (obX (xt cs ds ix xs) 5 fa []) 6000 nms w := by
  intro os
  kernel_rfl
theorem run (w : World) : HandSHeadRun.RunEq R (PySem.W.view R.prog [56]) hk ob 6000 nms w := run_two (runA w) (runB w)
end Ev

set_option Elab.async false
set_option linter.all false
set_option maxRecDepth 100000
set_option maxHeartbeats 4000000
namespace Ev
open PySem L2

/-! a list of one's own is handed to a call, and stays one's own -/
mutual
def noT (t : Nat) : D → Bool
  | .lst u xs => !(u == t) && noTL t xs
  | .tup xs => noTL t xs
  | .dct u _ xs => !(u == t) && noTL t xs
  | .ins _ xs => noTL t xs
  | .scr _ => false
  | .exc _ _ => false
  | .non => true
  | .bl _ => true
  | .int _ => true
  | .str _ => true
def noTL (t : Nat) : List D → Bool
  | [] => true
  | d :: r => noT t d && noTL t r
end
def noTS (t : Nat) : Sl → Bool
  | .non => true
  | .sh d => noT t d
  | .own _ xs => noTL t xs
  | .ownD _ _ xs => noTL t xs
  | .bor _ xs => noTL t xs
  | .ini _ xs => noTL t xs
def cutH (S : Hp) (a : Addr) : Hp := fun b => if b = a then none else S b
theorem cutH_same {S : Hp} {a : Addr} : cutH S a a = none := if_pos rfl
theorem cutH_ne {S : Hp} {a b : Addr} (h : b ≠ a) : cutH S a b = S b := if_neg h
theorem cutH_some {S : Hp} {a b : Addr} {o : HO} (h : cutH S a b = some o) : b ≠ a ∧ S b = some o := by
  by_cases q : b = a
  · subst q; rw [cutH_same] at h; cases h
  · exact ⟨q, by rw [cutH_ne q] at h; exact h⟩
def LD (o : HO) : Prop := (∃ vs, o = .lst vs) ∨ ∃ kvs, o = .dK kvs
section
variable {C : Cf} {ρ : Addr → Nat} {S : Hp} {a : Addr} {o0 : HO} {t : Nat}
mutual
theorem Den.cut (ha : S a = some o0) (h0 : LD o0) (ht : ρ a = t) : ∀ (d : D) (v : V), noT t d = true → Den C ρ S d v → Den C ρ (cutH S a) d v
  | .non, _, _, h => by unfold Den at h ⊢; exact h
  | .bl _, _, _, h => by unfold Den at h ⊢; exact h
  | .int _, _, _, h => by unfold Den at h ⊢; exact h
  | .str _, _, _, h => by unfold Den at h ⊢; exact h
  | .lst u xs, v, n, h => by
    unfold noT at n
    obtain ⟨n1, n2⟩ := Bool.and_eq_true_iff.mp n
    unfold Den at h ⊢
    obtain ⟨b, vs, rfl, hb, e, hl, r⟩ := h
    have nb : b ≠ a := fun q => by
      subst q
      rw [ht] at hb
      subst hb
      simp at n1
    exact ⟨b, vs, rfl, hb, by rw [cutH_ne nb]; exact e, hl, DenL.cut ha h0 ht xs vs n2 r⟩
  | .tup xs, v, n, h => by
    unfold noT at n
    unfold Den at h ⊢
    obtain ⟨b, vs, rfl, e, hl, r⟩ := h
    have nb : b ≠ a := fun q => by subst q; rw [ha] at e; cases e; rcases h0 with ⟨_, z⟩ | ⟨_, z⟩ <;> cases z
    exact ⟨b, vs, rfl, by rw [cutH_ne nb]; exact e, hl, DenL.cut ha h0 ht xs vs n r⟩
  | .dct u ks xs, v, n, h => by
    unfold noT at n
    obtain ⟨n1, n2⟩ := Bool.and_eq_true_iff.mp n
    unfold Den at h ⊢
    obtain ⟨b, vs, rfl, hb, e, hl, hk, r⟩ := h
    have nb : b ≠ a := fun q => by
      subst q
      rw [ht] at hb
      subst hb
      simp at n1
    exact ⟨b, vs, rfl, hb, by rw [cutH_ne nb]; exact e, hl, hk, DenL.cut ha h0 ht xs vs n2 r⟩
  | .ins c xs, v, n, h => by
    unfold noT at n
    unfold Den at h ⊢
    obtain ⟨hc, b, dx, vs, rfl, e, hl, r⟩ := h
    have nb : b ≠ a := fun q => by subst q; rw [ha] at e; cases e; rcases h0 with ⟨_, z⟩ | ⟨_, z⟩ <;> cases z
    exact ⟨hc, b, dx, vs, rfl, by rw [cutH_ne nb]; exact e, hl, DenL.cut ha h0 ht xs vs n r⟩
  | .scr ns, _, n, _ => by unfold noT at n; cases n
  | .exc _ _, _, n, _ => by unfold noT at n; cases n
theorem DenL.cut (ha : S a = some o0) (h0 : LD o0) (ht : ρ a = t) : ∀ (ds : List D) (vs : List V), noTL t ds = true → DenL C ρ S ds vs → DenL C ρ (cutH S a) ds vs
  | [], _, _, h => by unfold DenL at h ⊢; exact h
  | d :: ds, vs, n, h => by
    unfold noTL at n
    obtain ⟨n1, n2⟩ := Bool.and_eq_true_iff.mp n
    unfold DenL at h ⊢
    obtain ⟨v, r, rfl, h1, h2⟩ := h
    exact ⟨v, r, rfl, Den.cut ha h0 ht d v n1 h1, DenL.cut ha h0 ht ds r n2 h2⟩
end
theorem cutH_none {b : Addr} (h : S b = none) : cutH S a b = none := by
  by_cases q : b = a
  · subst q; exact cutH_same
  · rw [cutH_ne q]; exact h
theorem SlOk.cut {A : Act} {H : Hp} {s : Sl} {o : Option V} (ha : S a = some o0) (h0 : LD o0) (ht : ρ a = t) (n : noTS t s = true) (h : SlOk C A ρ S H s o) : SlOk C A ρ (cutH S a) H s o := by
  cases s with
  | non => trivial
  | sh d =>
    obtain ⟨v, e, h1⟩ := h
    exact ⟨v, e, h1.cut ha h0 ht _ _ n⟩
  | own t xs =>
    obtain ⟨b, vs, e, hb, h1, h2, hl, r, h3⟩ := h
    exact ⟨b, vs, e, hb, h1, cutH_none h2, hl, r.cut ha h0 ht _ _ n, h3⟩
  | ownD t ks xs =>
    obtain ⟨b, vs, e, hb, h1, h2, hl, hq, r, h3⟩ := h
    exact ⟨b, vs, e, hb, h1, cutH_none h2, hl, hq, r.cut ha h0 ht _ _ n, h3⟩
  | bor t xs =>
    obtain ⟨b, vs, e, hb, h1, h2, hl, r, h3⟩ := h
    exact ⟨b, vs, e, hb, h1, cutH_none h2, hl, r.cut ha h0 ht _ _ n, h3⟩
  | ini c xs =>
    obtain ⟨b, dx, vs, e, h1, h2, hl, r, h3⟩ := h
    exact ⟨b, dx, vs, e, h1, cutH_none h2, hl, r.cut ha h0 ht _ _ n, h3⟩
end
theorem if_some' {α : Type} {p : Prop} [Decidable p] {o : Option α} {x : α} (h : (if p then o else none) = some x) : p ∧ o = some x := by
  by_cases q : p
  · rw [if_pos q] at h; exact ⟨q, h⟩
  · rw [if_neg q] at h; cases h
def unpub (t : Nat) : Sl → Option Sl
  | .sh (.lst u ys) => if u = t ∧ noTL t ys = true then some (.own t ys) else none
  | .sh (.dct u ks ys) => if u = t ∧ noTL t ys = true then some (.ownD t ks ys) else none
  | _ => none
def isPriv : Sl → Bool
  | .own _ _ => true
  | .ownD _ _ _ => true
  | _ => false
theorem unpub_ok {C : Cf} {A : Act} {ρ : Addr → Nat} {S H : Hp} {a : Addr} {t : Nat} {sl sl' : Sl} (sb : Sub S H) (ha0 : A.H0 a = none ∨ a ∈ A.M) (e : unpub t sl = some sl') (h : SlOk C A ρ S H sl (some (.ref a))) : ρ a = t ∧ (∃ o, S a = some o ∧ LD o) ∧ sl'.isOwn = true ∧ SlOk C A ρ (cutH S a) H sl' (some (.ref a)) := by
  unfold unpub at e
  split at e
  · obtain ⟨⟨rfl, n⟩, q⟩ := if_some e
    subst q
    obtain ⟨v, ev, hd⟩ := h
    cases ev
    unfold Den at hd
    obtain ⟨a', vs', q, ht, ha, hl, rl⟩ := hd
    cases q
    exact ⟨ht, ⟨_, ha, .inl ⟨_, rfl⟩⟩, rfl, a, vs', rfl, ht, sb _ _ ha, cutH_same, hl, rl.cut ha (.inl ⟨_, rfl⟩) ht _ _ n, ha0⟩
  · obtain ⟨⟨rfl, n⟩, q⟩ := if_some e
    subst q
    obtain ⟨v, ev, hd⟩ := h
    cases ev
    unfold Den at hd
    obtain ⟨a', vs', q, ht, ha, hl, hk, rl⟩ := hd
    cases q
    exact ⟨ht, ⟨_, ha, .inr ⟨_, rfl⟩⟩, rfl, a, vs', rfl, ht, sb _ _ ha, cutH_same, hl, hk, rl.cut ha (.inr ⟨_, rfl⟩) ht _ _ n, ha0⟩
  · cases e
def fKeep (j t : Nat) (f : FE) : FE := fun Γ => match Γ[j]? with
  | some s0 => if isPriv s0 = true then (match f Γ with
    | some (s, Γ') => (match Γ'[j]? with
      | some sl => (match unpub t sl with
        | some sl' => if noTS t s = true ∧ (Γ'.set j .non).all (noTS t) = true then some (s, Γ'.set j sl') else none
        | none => none)
      | none => none)
    | none => none) else none
  | none => none
theorem fKeep_some {j t : Nat} {f : FE} {Γ Γ'' : Env} {s : Sl} (h : fKeep j t f Γ = some (s, Γ'')) : ∃ s0 Γ' sl sl', Γ[j]? = some s0 ∧ isPriv s0 = true ∧ f Γ = some (s, Γ') ∧ Γ'[j]? = some sl ∧ unpub t sl = some sl' ∧ noTS t s = true ∧ (Γ'.set j .non).all (noTS t) = true ∧ Γ'' = Γ'.set j sl' := by
  unfold fKeep at h
  split at h
  · rename_i s0 e0
    obtain ⟨p0, h⟩ := if_some' h
    split at h
    · rename_i s' Γ' e1
      split at h
      · rename_i sl e2
        split at h
        · rename_i sl' e3
          obtain ⟨⟨c1, c2⟩, e⟩ := if_some h
          cases e
          exact ⟨s0, Γ', sl, sl', e0, p0, e1, e2, e3, c1, c2, rfl⟩
        · cases h
      · cases h
    · cases h
  · cases h
theorem ok_keep {C : Cf} {P : Cx → Prop} {e : Expr} {f : FE} (j t : Nat) (h : OkE C P e f) : OkE C P e (fKeep j t f) := by
  obtain ⟨tr, hp, k⟩ := h
  refine ⟨tr, hp, fun A ρ S Γ σ H Q s Γ'' T hf hQ => ?_⟩
  obtain ⟨s0, Γ', sl, sl', e0, p0, e1, e2, e3, n1, n3, rfl⟩ := fKeep_some hf
  refine k A ρ S Γ σ H Q s Γ' T e1 fun v ρ' S' H' E T' r => ?_
  obtain ⟨a, eσ, sa, ha0⟩ : ∃ a, σ[j]?.join = some (.ref a) ∧ S a = none ∧ (A.H0 a = none ∨ a ∈ A.M) := by
    have q := T.slot j _ e0
    have : s0.isOwn = true := by cases s0 <;> first | rfl | cases p0
    obtain ⟨a, _, h1, _, h2, h3⟩ := q.ownd this
    exact ⟨a, h1, h2, h3⟩
  have q := T'.slot j _ e2
  rw [eσ] at q
  obtain ⟨ht, ⟨o0, ha, h0⟩, io, hnew⟩ := unpub_ok T'.sub ha0 e3 q
  have gs : ∀ i sl, i ≠ j → Γ'[i]? = some sl → noTS t sl = true := fun i sl hi hg => by
    have : (Γ'.set j .non)[i]? = some sl := by rw [List.getElem?_set, if_neg (fun q => hi q.symm)]; exact hg
    exact List.all_eq_true.mp n3 sl (List.mem_of_getElem? this)
  have E2 : Ext ρ S ρ' (cutH S' a) := ⟨fun b o hb => by
    have nb : b ≠ a := fun q => by subst q; rw [sa] at hb; cases hb
    rw [cutH_ne nb]
    exact E.sub b o hb, E.tag⟩
  have own' : ∀ i b, OwnAt (Γ'.set j sl') σ i b → (i = j ∧ b = a) ∨ (i ≠ j ∧ OwnAt Γ' σ i b) := fun i b ⟨sl, h1, h2, h3⟩ => by
    by_cases q : i = j
    · subst q
      rw [eσ] at h3
      cases h3
      exact .inl ⟨rfl, rfl⟩
    · rw [List.getElem?_set, if_neg (fun z => q z.symm)] at h1
      exact .inr ⟨q, sl, h1, h2, h3⟩
  have T2 : Sto C A ρ' (cutH S' a) (Γ'.set j sl') σ H' := by
    refine ⟨fun b o hb => T'.sub b o (cutH_some hb).2, by rw [List.length_set]; exact T'.len, fun i sl hg => ?_, fun i i' b hi h1 h2 => ?_, T'.frame, ⟨fun b o hb => ?_, T'.ext0.tag⟩, fun b o hb => T'.news b o (cutH_some hb).2, T'.rho, T'.old⟩
    · by_cases q : i = j
      · subst q
        rw [List.getElem?_set, if_pos rfl] at hg
        split at hg
        · cases hg
          rw [eσ]
          exact hnew
        · cases hg
      · rw [List.getElem?_set, if_neg (fun z => q z.symm)] at hg
        exact (T'.slot i sl hg).cut ha h0 ht (gs i sl q hg)
    · rcases own' i b h1 with ⟨rfl, rfl⟩ | ⟨q1, o1⟩
      · rcases own' i' b h2 with ⟨rfl, _⟩ | ⟨_, o2⟩
        · exact hi rfl
        · obtain ⟨_, _, z, _⟩ := T'.own o2
          rw [ha] at z; cases z
      · rcases own' i' b h2 with ⟨rfl, rfl⟩ | ⟨_, o2⟩
        · obtain ⟨_, _, z, _⟩ := T'.own o1
          rw [ha] at z; cases z
        · exact T'.sep i i' b hi o1 o2
    · have nb : b ≠ a := fun q => by subst q; rw [T.ext0.sub _ _ hb] at sa; cases sa
      rw [cutH_ne nb]
      exact T'.ext0.sub b o hb
  refine hQ v ρ' (cutH S' a) H' E2 T2 ⟨r.1.cut ha h0 ht n1, fun ho i b ev q => ?_, r.2.2⟩
  rcases own' i b q with ⟨rfl, rfl⟩ | ⟨_, o1⟩
  · obtain ⟨c, _, ec, _, z, _⟩ := r.1.ownd ho
    rw [ev] at ec
    cases ec
    rw [ha] at z; cases z
  · exact r.2.1 ho i b ev o1
end Ev

set_option Elab.async false
set_option linter.all false
set_option maxRecDepth 100000
set_option maxHeartbeats 4000000
namespace Ev
open PySem L2

/-! ### shared lists of one tag are cleared: what is known of data then -/
mutual
def nsc : D → Bool
  | .lst _ xs => nscL xs
  | .tup xs => nscL xs
  | .dct _ _ xs => nscL xs
  | .ins _ xs => nscL xs
  | .scr _ => false
  | .exc _ _ => false
  | .non => true
  | .bl _ => true
  | .int _ => true
  | .str _ => true
def nscL : List D → Bool
  | [] => true
  | d :: r => nsc d && nscL r
end
def nscS : Sl → Bool
  | .non => true
  | .sh d => nsc d
  | .own _ xs => nscL xs
  | .ownD _ _ xs => nscL xs
  | .bor _ xs => nscL xs
  | .ini _ xs => nscL xs
mutual
/-- the lists of the tag may be another's content -/
def wkR (R : Nat → Bool) : D → D → Prop
  | .lst u xs, d => ∃ ys, d = .lst u ys ∧ (R u = false → wkL R xs ys)
  | .tup xs, d => ∃ ys, d = .tup ys ∧ wkL R xs ys
  | .dct u ks xs, d => ∃ ys, d = .dct u ks ys ∧ wkL R xs ys
  | .ins c xs, d => ∃ ys, d = .ins c ys ∧ wkL R xs ys
  | .scr ns, d => d = .scr ns
  | .exc c xs, d => d = .exc c xs
  | .non, d => d = .non
  | .bl b, d => d = .bl b
  | .int i, d => d = .int i
  | .str x, d => d = .str x
def wkL (R : Nat → Bool) : List D → List D → Prop
  | [], ds => ds = []
  | d :: r, ds => ∃ e s, ds = e :: s ∧ wkR R d e ∧ wkL R r s
end
def wkS (R : Nat → Bool) : Sl → Sl → Prop
  | .non, s => s = .non
  | .sh d, s => ∃ d', s = .sh d' ∧ wkR R d d'
  | .own u xs, s => ∃ ys, s = .own u ys ∧ wkL R xs ys
  | .ownD u ks xs, s => ∃ ys, s = .ownD u ks ys ∧ wkL R xs ys
  | .bor u xs, s => ∃ ys, s = .bor u ys ∧ wkL R xs ys
  | .ini c xs, s => ∃ ys, s = .ini c ys ∧ wkL R xs ys
theorem wkL_len {R : Nat → Bool} : ∀ {xs ys : List D}, wkL R xs ys → ys.length = xs.length
  | [], ys, h => by unfold wkL at h; rw [h]
  | d :: r, ys, h => by
    unfold wkL at h
    obtain ⟨e, s, rfl, _, h2⟩ := h
    rw [List.length_cons, List.length_cons, wkL_len h2]
def WkE (R : Nat → Bool) (Γ Γ' : Env) : Prop := Γ'.length = Γ.length ∧ ∀ (i : Nat) (s : Sl), Γ[i]? = some s → ∃ s', Γ'[i]? = some s' ∧ wkS R s s'
/-- the shared heap, where lists of the tag may have been cleared -/
structure ExtW (R : Nat → Bool) (ρ : Addr → Nat) (S : Hp) (ρ' : Addr → Nat) (S' : Hp) : Prop where
  keep : ∀ a o, S a = some o → (R (ρ a) = true ∧ S' a = some (.lst []) ∧ ∃ vs, o = .lst vs) ∨ S' a = some o
  tag : ∀ a o, S a = some o → ρ' a = ρ a
theorem Ext.weak {R : Nat → Bool} {ρ ρ' : Addr → Nat} {S S' : Hp} (E : Ext ρ S ρ' S') : ExtW R ρ S ρ' S' := ⟨fun a o e => .inr (E.sub a o e), E.tag⟩
theorem ExtW.trans {R : Nat → Bool} {ρ ρ' ρ'' : Addr → Nat} {S S' S'' : Hp} (E : ExtW R ρ S ρ' S') (F : ExtW R ρ' S' ρ'' S'') : ExtW R ρ S ρ'' S'' where
  keep := fun a o e => by
    rcases E.keep a o e with ⟨h1, h2, h3⟩ | h
    · rcases F.keep a _ h2 with ⟨_, k, _⟩ | k
      · exact .inl ⟨h1, k, h3⟩
      · exact .inl ⟨h1, k, h3⟩
    · rcases F.keep a o h with ⟨k1, k2, k3⟩ | k
      · exact .inl ⟨by rw [← E.tag a o e]; exact k1, k2, k3⟩
      · exact .inr k
  tag := fun a o e => by
    rcases E.keep a o e with ⟨_, h2, _⟩ | h
    · rw [F.tag a _ h2, E.tag a o e]
    · rw [F.tag a o h, E.tag a o e]
section
variable {C : Cf} {R : Nat → Bool} {ρ ρ' : Addr → Nat} {S S' : Hp}
mutual
theorem Den.weak (E : ExtW R ρ S ρ' S') : ∀ (d : D) (v : V), nsc d = true → Den C ρ S d v → ∃ d', wkR R d d' ∧ nsc d' = true ∧ Den C ρ' S' d' v
  | .non, v, n, h => ⟨.non, by unfold wkR; rfl, rfl, by unfold Den at h ⊢; exact h⟩
  | .bl b, v, n, h => ⟨.bl b, by unfold wkR; rfl, rfl, by unfold Den at h ⊢; exact h⟩
  | .int b, v, n, h => ⟨.int b, by unfold wkR; rfl, rfl, by unfold Den at h ⊢; exact h⟩
  | .str b, v, n, h => ⟨.str b, by unfold wkR; rfl, rfl, by unfold Den at h ⊢; exact h⟩
  | .scr _, _, n, _ => by unfold nsc at n; cases n
  | .exc _ _, _, n, _ => by unfold nsc at n; cases n
  | .lst u xs, v, n, h => by
    unfold nsc at n
    unfold Den at h
    obtain ⟨a, vs, rfl, hu, ha, hl, r⟩ := h
    obtain ⟨ys, k1, k2, k3⟩ := DenL.weak E xs vs n r
    have hl2 := wkL_len k1
    rcases E.keep a _ ha with ⟨h1, h2, _⟩ | h2
    · refine ⟨.lst u [], by unfold wkR; exact ⟨[], rfl, fun q => (by rw [hu, q] at h1; cases h1)⟩, by unfold nsc nscL; rfl, ?_⟩
      unfold Den
      exact ⟨a, [], rfl, (E.tag a _ ha).trans hu, h2, Nat.zero_le _, by unfold DenL; rfl⟩
    · refine ⟨.lst u ys, by unfold wkR; exact ⟨ys, rfl, fun _ => k1⟩, by unfold nsc; exact k2, ?_⟩
      unfold Den
      exact ⟨a, vs, rfl, (E.tag a _ ha).trans hu, h2, by rw [hl2]; exact hl, k3⟩
  | .tup xs, v, n, h => by
    unfold nsc at n
    unfold Den at h
    obtain ⟨a, vs, rfl, ha, hl, r⟩ := h
    obtain ⟨ys, k1, k2, k3⟩ := DenL.weak E xs vs n r
    have hl2 := wkL_len k1
    rcases E.keep a _ ha with ⟨_, _, _, q⟩ | h2
    · cases q
    · refine ⟨.tup ys, by unfold wkR; exact ⟨ys, rfl, k1⟩, by unfold nsc; exact k2, ?_⟩
      unfold Den
      exact ⟨a, vs, rfl, h2, by rw [hl2]; exact hl, k3⟩
  | .dct u ks xs, v, n, h => by
    unfold nsc at n
    unfold Den at h
    obtain ⟨a, vs, rfl, hu, ha, hl, hk, r⟩ := h
    obtain ⟨ys, k1, k2, k3⟩ := DenL.weak E xs vs n r
    have hl2 := wkL_len k1
    rcases E.keep a _ ha with ⟨_, _, _, q⟩ | h2
    · cases q
    · refine ⟨.dct u ks ys, by unfold wkR; exact ⟨ys, rfl, k1⟩, by unfold nsc; exact k2, ?_⟩
      unfold Den
      exact ⟨a, vs, rfl, (E.tag a _ ha).trans hu, h2, by rw [hl2]; exact hl, by rw [hl2]; exact hk, k3⟩
  | .ins c xs, v, n, h => by
    unfold nsc at n
    unfold Den at h
    obtain ⟨hc, a, dx, vs, rfl, ha, hl, r⟩ := h
    obtain ⟨ys, k1, k2, k3⟩ := DenL.weak E xs vs n r
    have hl2 := wkL_len k1
    rcases E.keep a _ ha with ⟨_, _, _, q⟩ | h2
    · cases q
    · refine ⟨.ins c ys, by unfold wkR; exact ⟨ys, rfl, k1⟩, by unfold nsc; exact k2, ?_⟩
      unfold Den
      exact ⟨hc, a, dx, vs, rfl, h2, by rw [hl2]; exact hl, k3⟩
theorem DenL.weak (E : ExtW R ρ S ρ' S') : ∀ (ds : List D) (vs : List V), nscL ds = true → DenL C ρ S ds vs → ∃ es, wkL R ds es ∧ nscL es = true ∧ DenL C ρ' S' es vs
  | [], vs, n, h => ⟨[], by unfold wkL; rfl, by unfold nscL; rfl, by unfold DenL at h ⊢; exact h⟩
  | d :: r, vs, n, h => by
    unfold nscL at n
    obtain ⟨n1, n2⟩ := Bool.and_eq_true_iff.mp n
    unfold DenL at h
    obtain ⟨v, ws, rfl, h1, h2⟩ := h
    obtain ⟨e, k1, k2, k3⟩ := Den.weak E d v n1 h1
    obtain ⟨es, l1, l2, l3⟩ := DenL.weak E r ws n2 h2
    refine ⟨e :: es, by unfold wkL; exact ⟨e, es, rfl, k1, l1⟩, by unfold nscL; rw [k2, l2]; rfl, ?_⟩
    unfold DenL
    exact ⟨v, ws, rfl, k3, l3⟩
end
theorem SlOk.weak {A : Act} {H H' : Hp} {s : Sl} {o : Option V} (E : ExtW R ρ S ρ S') (n : nscS s = true) (h : SlOk C A ρ S H s o) (hk : ∀ a, S a = none → S' a = none ∧ H' a = H a) : ∃ s', wkS R s s' ∧ nscS s' = true ∧ SlOk C A ρ S' H' s' o := by
  cases s with
  | non => exact ⟨.non, rfl, rfl, trivial⟩
  | sh d =>
    obtain ⟨v, e, h1⟩ := h
    obtain ⟨d', k1, k2, k3⟩ := Den.weak E d v n h1
    exact ⟨.sh d', ⟨d', rfl, k1⟩, k2, v, e, k3⟩
  | own u xs =>
    obtain ⟨a, vs, e, hb, h1, h2, hl, r, h3⟩ := h
    obtain ⟨ys, k1, k2, k3⟩ := DenL.weak E xs vs n r
    exact ⟨.own u ys, ⟨ys, rfl, k1⟩, k2, a, vs, e, hb, (hk a h2).2.trans h1, (hk a h2).1, by rw [wkL_len k1]; exact hl, k3, h3⟩
  | ownD u ks xs =>
    obtain ⟨a, vs, e, hb, h1, h2, hl, hq, r, h3⟩ := h
    obtain ⟨ys, k1, k2, k3⟩ := DenL.weak E xs vs n r
    exact ⟨.ownD u ks ys, ⟨ys, rfl, k1⟩, k2, a, vs, e, hb, (hk a h2).2.trans h1, (hk a h2).1, by rw [wkL_len k1]; exact hl, by rw [wkL_len k1]; exact hq, k3, h3⟩
  | bor u xs =>
    obtain ⟨a, vs, e, hb, h1, h2, hl, r, h3, h4⟩ := h
    obtain ⟨ys, k1, k2, k3⟩ := DenL.weak E xs vs n r
    exact ⟨.bor u ys, ⟨ys, rfl, k1⟩, k2, a, vs, e, hb, (hk a h2).2.trans h1, (hk a h2).1, by rw [wkL_len k1]; exact hl, k3, h3, h4⟩
  | ini c xs =>
    obtain ⟨a, dx, vs, e, h1, h2, hl, r, h3, h4⟩ := h
    obtain ⟨ys, k1, k2, k3⟩ := DenL.weak E xs vs n r
    exact ⟨.ini c ys, ⟨ys, rfl, k1⟩, k2, a, dx, vs, e, (hk a h2).2.trans h1, (hk a h2).1, by rw [wkL_len k1]; exact hl, k3, h3, h4⟩
end
theorem wkS_own {R : Nat → Bool} {s s' : Sl} (h : wkS R s s') : s'.isOwn = s.isOwn := by
  cases s with
  | non => rw [show s' = .non from h]
  | sh d => obtain ⟨_, rfl, _⟩ := h; rfl
  | own u xs => obtain ⟨_, rfl, _⟩ := h; rfl
  | ownD u ks xs => obtain ⟨_, rfl, _⟩ := h; rfl
  | bor u xs => obtain ⟨_, rfl, _⟩ := h; rfl
  | ini c xs => obtain ⟨_, rfl, _⟩ := h; rfl
theorem choose_env {Pr : Nat → Sl → Sl → Prop} : ∀ (Γ : Env) (k : Nat), (∀ (i : Nat) (s : Sl), Γ[i]? = some s → ∃ s', Pr (k + i) s s') → ∃ Γ' : Env, Γ'.length = Γ.length ∧ ∀ (i : Nat) (s : Sl), Γ[i]? = some s → ∃ s', Γ'[i]? = some s' ∧ Pr (k + i) s s'
  | [], k, _ => ⟨[], rfl, fun i s e => (by cases e)⟩
  | x :: r, k, h => by
    obtain ⟨x', hx⟩ := h 0 x rfl
    obtain ⟨r', l, hr⟩ := choose_env (Pr := Pr) r (k + 1) fun i s e => by
      obtain ⟨s', q⟩ := h (i + 1) s e
      exact ⟨s', by rw [show k + 1 + i = k + (i + 1) by omega]; exact q⟩
    refine ⟨x' :: r', by rw [List.length_cons, l]; rfl, fun i s e => ?_⟩
    cases i with
    | zero => cases e; exact ⟨x', rfl, hx⟩
    | succ i =>
      obtain ⟨s', e', q⟩ := hr i s e
      exact ⟨s', e', by rw [show k + (i + 1) = k + 1 + i by omega]; exact q⟩
/-- at the entry no shared list bears the tag -/
def NoTag (A : Act) (R : Nat → Bool) : Prop := ∀ a vs, A.S0 a = some (.lst vs) → R (A.ρ0 a) = false
section
variable {C : Cf} {A : Act} {R : Nat → Bool} {ρ : Addr → Nat} {S H : Hp} {Γ : Env} {σ : St}
theorem Sto.fresh (T : Sto C A ρ S Γ σ H) (N : NoTag A R) {b : Addr} {vs : List V} (hb : S b = some (.lst vs)) (ht : R (ρ b) = true) : A.S0 b = none ∧ (A.H0 b = none ∨ b ∈ A.M) := by
  have h0 : A.S0 b = none := by
    cases q : A.S0 b with
    | none => rfl
    | some o =>
      have := T.ext0.sub b o q
      rw [hb] at this
      cases this
      have z := N b vs q
      rw [← T.ext0.tag b _ q, ht] at z
      cases z
  refine ⟨h0, ?_⟩
  rcases T.news b _ hb with k | k
  · rw [h0] at k; cases k
  · exact k
/-- a shared list of the tag is cleared -/
theorem Sto.clear (T : Sto C A ρ S Γ σ H) (N : NoTag A R) (n : Γ.all nscS = true) {b : Addr} {vs : List V} (hb : S b = some (.lst vs)) (ht : R (ρ b) = true) :
    ∃ Γ', WkE R Γ Γ' ∧ Γ'.all nscS = true ∧ ExtW R ρ S ρ (upd S b (.lst [])) ∧ Sto C A ρ (upd S b (.lst [])) Γ' σ (upd H b (.lst [])) := by
  obtain ⟨f1, f2⟩ := T.fresh N hb ht
  have E : ExtW R ρ S ρ (upd S b (.lst [])) := ⟨fun a o e => by
    by_cases q : a = b
    · subst q
      rw [hb] at e
      exact .inl ⟨ht, upd_same, vs, (Option.some.inj e).symm⟩
    · exact .inr (by rw [upd_ne q]; exact e), fun _ _ _ => rfl⟩
  have hk : ∀ a, S a = none → (upd S b (.lst [])) a = none ∧ (upd H b (.lst [])) a = H a := fun a e => by
    have q : a ≠ b := fun q => by subst q; rw [hb] at e; cases e
    exact ⟨by rw [upd_ne q]; exact e, upd_ne q⟩
  obtain ⟨Γ', l, h⟩ := choose_env (Pr := fun i s s' => wkS R s s' ∧ nscS s' = true ∧ SlOk C A ρ (upd S b (.lst [])) (upd H b (.lst [])) s' (σ[i]?.join)) Γ 0 fun i s e => by
    rw [Nat.zero_add]
    exact SlOk.weak E (List.all_eq_true.mp n s (List.mem_of_getElem? e)) (T.slot i s e) hk
  have back : ∀ (i : Nat) (s' : Sl), Γ'[i]? = some s' → ∃ s, Γ[i]? = some s ∧ wkS R s s' ∧ nscS s' = true ∧ SlOk C A ρ (upd S b (.lst [])) (upd H b (.lst [])) s' (σ[i]?.join) := fun i s' e => by
    have hi : i < Γ.length := by rw [← l]; exact (List.getElem?_eq_some_iff.mp e).1
    obtain ⟨s2, e2, k⟩ := h i _ (List.getElem?_eq_getElem hi)
    rw [e] at e2
    cases e2
    rw [Nat.zero_add] at k
    exact ⟨_, List.getElem?_eq_getElem hi, k⟩
  have own : ∀ i a, OwnAt Γ' σ i a → OwnAt Γ σ i a := fun i a ⟨s', e, hs, ho⟩ => by
    obtain ⟨s, e2, k, _⟩ := back i s' e
    exact ⟨s, e2, by rw [← wkS_own k]; exact hs, ho⟩
  refine ⟨Γ', ⟨l, fun i s e => ?_⟩, List.all_eq_true.mpr fun s' hs => ?_, E, ?_⟩
  · obtain ⟨s', e', k⟩ := h i s e
    exact ⟨s', e', k.1⟩
  · obtain ⟨i, e⟩ := List.mem_iff_getElem?.mp hs
    obtain ⟨_, _, _, k, _⟩ := back i s' e
    exact k
  · refine ⟨fun a o e => ?_, by rw [l]; exact T.len, fun i s' e => ?_, fun i j a ne h1 h2 => T.sep i j a ne (own i a h1) (own j a h2), fun a o e hm => ?_, ⟨fun a o e => ?_, T.ext0.tag⟩, fun a o e => ?_, T.rho, fun a o e => ?_⟩
    · by_cases q : a = b
      · subst q
        rw [upd_same] at e ⊢
        exact e
      · rw [upd_ne q] at e ⊢
        exact T.sub a o e
    · obtain ⟨_, _, _, _, k⟩ := back i s' e
      exact k
    · have q : a ≠ b := fun q => by
        subst q
        rcases f2 with f2 | f2
        · rw [f2] at e; cases e
        · exact hm f2
      rw [upd_ne q]
      exact T.frame a o e hm
    · have q : a ≠ b := fun q => by subst q; rw [f1] at e; cases e
      rw [upd_ne q]
      exact T.ext0.sub a o e
    · by_cases q : a = b
      · subst q
        exact .inr f2
      · rw [upd_ne q] at e
        exact T.news a o e
    · by_cases q : a = b
      · subst q
        rw [upd_same]
        exact fun z => (by cases z)
      · rw [upd_ne q]
        exact T.old a o e
end
end Ev

set_option Elab.async false
set_option linter.all false
set_option maxRecDepth 100000
set_option maxHeartbeats 4000000
namespace Ev
open PySem L2

/-! ### statements that clear shared lists of one tag: what is wanted is said backwards -/
abbrev QW := Fl → Env → Prop
def WantsW (C : Cf) (A : Act) (R : Nat → Bool) (ρ : Addr → Nat) (S : Hp) (D : Ends) : QW
  | .nx, Γ' => ∀ σ' ρ' S' H', ExtW R ρ S ρ' S' → Sto C A ρ' S' Γ' σ' H' → D.nx σ' H'
  | .ret s, Γ' => ∀ v σ' ρ' S' H', ExtW R ρ S ρ' S' → Sto C A ρ' S' Γ' σ' H' → ResOk C A ρ' S' Γ' σ' H' s v → D.rt v H'
section
variable {C : Cf} {R : Nat → Bool} {P : Cx → Prop} {e : Expr} {st : Stmt} {sts : List Stmt} {pos : Pos}
theorem WantsW.ext {A : Act} {ρ ρ1 : Addr → Nat} {S S1 : Hp} {D : Ends} {fl : Fl} {Γ' : Env} (h : WantsW C A R ρ S D fl Γ') (E : ExtW R ρ S ρ1 S1) : WantsW C A R ρ1 S1 D fl Γ' := by
  cases fl with
  | nx => exact fun σ' ρ' S' H' E' T' => h σ' ρ' S' H' (E.trans E') T'
  | ret s => exact fun v σ' ρ' S' H' E' T' r => h v σ' ρ' S' H' (E.trans E') T' r
/-! x.clear(), x a shared list of the tag -/
/-! x.clear(), x a list of one's own -/
/-! what is walked while lists of the tag are cleared -/
/-- more tags -/
theorem ExtW.mono {R' : Nat → Bool} (hR : ∀ u, R u = true → R' u = true) {ρ ρ' : Addr → Nat} {S S' : Hp} (E : ExtW R ρ S ρ' S') : ExtW R' ρ S ρ' S' := ⟨fun a o e => (E.keep a o e).imp (fun h => ⟨hR _ h.1, h.2⟩) id, E.tag⟩
end
end Ev

set_option Elab.async false
set_option linter.all false
set_option maxRecDepth 100000
set_option maxHeartbeats 4000000
namespace Ev
open PySem L2

/-! ### a def that clears lists of its own region -/
mutual
def noRD (R : Nat → Bool) : D → Bool
  | .lst u xs => !R u && noRDL R xs
  | .tup xs => noRDL R xs
  | .dct u _ xs => !R u && noRDL R xs
  | .ins _ xs => noRDL R xs
  | .scr _ => false
  | .exc _ _ => false
  | .non => true
  | .bl _ => true
  | .int _ => true
  | .str _ => true
def noRDL (R : Nat → Bool) : List D → Bool
  | [] => true
  | d :: r => noRD R d && noRDL R r
end
section
variable {C : Cf} {R : Nat → Bool} {ρ1 ρ2 : Addr → Nat} {S : Hp}
mutual
theorem Den.tags (hr : ∀ a, R (ρ1 a) = false → ρ2 a = ρ1 a) : ∀ (d : D) (v : V), noRD R d = true → Den C ρ1 S d v → Den C ρ2 S d v
  | .non, _, _, h => by unfold Den at h ⊢; exact h
  | .bl _, _, _, h => by unfold Den at h ⊢; exact h
  | .int _, _, _, h => by unfold Den at h ⊢; exact h
  | .str _, _, _, h => by unfold Den at h ⊢; exact h
  | .scr _, _, n, _ => by unfold noRD at n; cases n
  | .exc _ _, _, n, _ => by unfold noRD at n; cases n
  | .lst u xs, v, n, h => by
    unfold noRD at n
    obtain ⟨n1, n2⟩ := Bool.and_eq_true_iff.mp n
    unfold Den at h ⊢
    obtain ⟨a, vs, rfl, hu, ha, hl, r⟩ := h
    exact ⟨a, vs, rfl, (hr a (by rw [hu]; simpa using n1)).trans hu, ha, hl, DenL.tags hr xs vs n2 r⟩
  | .tup xs, v, n, h => by
    unfold noRD at n
    unfold Den at h ⊢
    obtain ⟨a, vs, rfl, ha, hl, r⟩ := h
    exact ⟨a, vs, rfl, ha, hl, DenL.tags hr xs vs n r⟩
  | .dct u ks xs, v, n, h => by
    unfold noRD at n
    obtain ⟨n1, n2⟩ := Bool.and_eq_true_iff.mp n
    unfold Den at h ⊢
    obtain ⟨a, vs, rfl, hu, ha, hl, hk, r⟩ := h
    exact ⟨a, vs, rfl, (hr a (by rw [hu]; simpa using n1)).trans hu, ha, hl, hk, DenL.tags hr xs vs n2 r⟩
  | .ins c xs, v, n, h => by
    unfold noRD at n
    unfold Den at h ⊢
    obtain ⟨hc, a, dx, vs, rfl, ha, hl, r⟩ := h
    exact ⟨hc, a, dx, vs, rfl, ha, hl, DenL.tags hr xs vs n r⟩
theorem DenL.tags (hr : ∀ a, R (ρ1 a) = false → ρ2 a = ρ1 a) : ∀ (ds : List D) (vs : List V), noRDL R ds = true → DenL C ρ1 S ds vs → DenL C ρ2 S ds vs
  | [], _, _, h => by unfold DenL at h ⊢; exact h
  | d :: ds, vs, n, h => by
    unfold noRDL at n
    obtain ⟨n1, n2⟩ := Bool.and_eq_true_iff.mp n
    unfold DenL at h ⊢
    obtain ⟨v, r, rfl, h1, h2⟩ := h
    exact ⟨v, r, rfl, Den.tags hr d v n1 h1, DenL.tags hr ds r n2 h2⟩
end
end
section
variable {C : Cf} {P : Cx → Prop}
end
section
variable {C : Cf} {W : Wd} {N ps : List Str} {k n : Nat} {x qual : Str} {params : Arguments} {body : List Stmt} {scope : Scope} {f : Addr} {fd : FuncData}
end
/-! words -/
section
variable {C : Cf} {R : Nat → Bool} {W : Wd} {N : List Str} {sc : Scope} {k : Nat} {e tg : Expr} {st : Stmt} {sts : List Stmt} {pos : Pos} {f : FD}
end
end Ev

set_option Elab.async false
set_option linter.all false
set_option maxRecDepth 100000
set_option maxHeartbeats 4000000
namespace Ev
open PySem L2

/-! ### a, b, .. = a list -/
def gLstN (is : List Nat) : FG := fun d Γ => match d with
  | .lst _ ds => gNams is ds Γ
  | _ => none
section
variable {C : Cf} {P : Cx → Prop} {e : Expr} {pos : Pos}
theorem ok_glst {K : PySem.W.Frag} {is : List Nat} {es : List Expr} {kk : Nat} {pos : Pos} (hK : ∀ X, P X → X.K = K) (hc : ∀ X, P X → X.calm = true) (h : Stores P is es) : OkG C P (.Tuple es kk pos) is (gLstN is) := by
  obtain ⟨g, hg, k⟩ := ok_gnames (C := C) h
  refine ⟨gUnl K is.length g, fun X hX => by rw [← hK X hX]; exact pg_unl (hc X hX) (hg X hX).1 (hg X hX).2.1 (hg X hX).2.2, fun A ρ S Γ σ H v d Γ' Q T hd hf hQ => ?_⟩
  cases d with
  | lst t ds =>
    unfold Den at hd
    obtain ⟨a, vs, rfl, _, ha, _, r⟩ := hd
    exact ⟨a, vs, rfl, SqL.of (T.sub _ _ ha), by rw [r.length, gNams_len hf], k A ρ S Γ σ H vs ds Γ' Q T r hf hQ⟩
  | _ => cases hf
def fSetL (is : List Nat) (f : FD) : FS := fun Γ => match f Γ with
  | some (d, Γ1) => (match gLstN is d Γ1 with
    | some Γ2 => some (.nx, Γ2)
    | none => none)
  | none => none
theorem ok_setL {K : PySem.W.Frag} {is : List Nat} {es : List Expr} {kk : Nat} {p : Pos} {f : FD} (hK : ∀ X, P X → X.K = K) (hc : ∀ X, P X → X.calm = true) (h : Stores P is es) (he : OkD C P e f)
    (hs : ∀ X, P X → swapsWithSole [.Tuple es kk p] e pos.line X.env = pure false) (hw : ∀ X, P X → swappedStores [.Tuple es kk p] e X.env = pure none) : OkS C P (.Assign [.Tuple es kk p] e pos) (fSetL is f) := by
  obtain ⟨t, hp, k⟩ := he
  obtain ⟨g, hg, l⟩ := ok_glst (C := C) (kk := kk) (pos := p) hK hc h
  refine ⟨_, fun X hX => ps_asg (hp X hX) (hg X hX) (hs X hX) (hw X hX) rfl, fun A ρ S Γ σ H D fl Γ' T hf hW => ?_⟩
  unfold fSetL at hf
  split at hf
  · rename_i d Γ1 e1
    split at hf
    · rename_i Γ2 e2
      cases hf
      exact k A ρ S Γ σ H _ d _ T e1 fun v ρ1 S1 H1 E1 T1 d1 => l A ρ1 S1 Γ1 σ H1 v d _ _ T1 d1 e2 fun σ' T2 _ => hW σ' ρ1 S1 H1 E1 T2
    · cases hf
  · cases hf
/-! ### statements that store nothing: the names stay -/
def Wants0 (C : Cf) (A : Act) (ρ : Addr → Nat) (S : Hp) (Γ' : Env) (σ : St) (D : Ends) : Fl → Prop
  | .nx => ∀ ρ' S' H', Ext ρ S ρ' S' → Sto C A ρ' S' Γ' σ H' → D.nx σ H'
  | .ret s => ∀ v ρ' S' H', Ext ρ S ρ' S' → Sto C A ρ' S' Γ' σ H' → ResOk C A ρ' S' Γ' σ H' s v → D.rt v H'
def S0 (C : Cf) (P : Cx → Prop) (st : Stmt) (f : FS) : Prop := ∃ t : TS, (∀ X, P X → PS X st t) ∧ ∀ (A : Act) (ρ : Addr → Nat) (S : Hp) (Γ : Env) (σ : St) (H : Hp) (D : Ends) (fl : Fl) (Γ' : Env), Sto C A ρ S Γ σ H → f Γ = some (fl, Γ') →
  Wants0 C A ρ S Γ' σ D fl → t D σ H
theorem Wants0.ext {A : Act} {ρ ρ1 : Addr → Nat} {S S1 : Hp} {Γ' : Env} {σ : St} {D : Ends} {fl : Fl} (h : Wants0 C A ρ S Γ' σ D fl) (E : Ext ρ S ρ1 S1) : Wants0 C A ρ1 S1 Γ' σ D fl := by
  cases fl with
  | nx => exact fun ρ' S' H' E' T' => h ρ' S' H' (E.trans E') T'
  | ret s => exact fun v ρ' S' H' E' T' r => h v ρ' S' H' (E.trans E') T' r
variable {st : Stmt} {sts : List Stmt}
/-! for .. in a list of one's own that stays one's own -/
end
section
variable {C : Cf} {W : Wd} {N : List Str} {sc : Scope} {k : Nat} {e tg : Expr} {es : List Expr} {st : Stmt} {sts : List Stmt} {p pos : Pos} {f : FD}
theorem s_setLs {is : List Nat} {kk : Nat} (h : Stores (Fit W N sc k) is es) (he : XD C W N sc k e f) (ht : noTup e = true) (hs : ∀ env : PySem.Env, swapsWithSole [.Tuple es kk p] e pos.line env = pure false) : XS C W N sc k (.Assign [.Tuple es kk p] e pos) (fSetL is f) :=
  ok_setL (K := W.K) (fun X hX => hX.fit.kk) (fun _ h => h.fit.calm) (h.sub FitF.f) (he.sub FitF.f) (fun X _ => hs X.env) fun X _ => by cases e <;> first | rfl | cases ht
end
end Ev

set_option Elab.async false
set_option linter.all false
set_option maxRecDepth 100000
set_option maxHeartbeats 4000000
namespace Ev
open PySem L2

/-! ### x.insert(k, e), x.index(e), x[::-1] -/
section
variable {C : Cf} {P : Cx → Prop} {K : PySem.W.Frag} {a b e : Expr} {pos : Pos}
end
/-! words -/
section
variable {C : Cf} {W : Wd} {N : List Str} {sc : Scope} {k : Nat} {a e : Expr} {pos : Pos} {f : FD}
end
end Ev

set_option Elab.async false
set_option linter.all false
set_option maxRecDepth 100000
set_option maxHeartbeats 4000000
namespace Ev
open PySem L2
/-! ### a list that is kept, where slot 0 holds the script -/
end Ev

set_option Elab.async false
set_option linter.all false
set_option maxRecDepth 100000
set_option maxHeartbeats 4000000
namespace Ev
open PySem L2
/-! ### x.pop(k), x a list of one's own -/
section
variable {C : Cf} {P : Cx → Prop} {K : PySem.W.Frag} {a b e : Expr} {pos : Pos}
theorem DenL.erase {ρ : Addr → Nat} {S : Hp} : ∀ (k : Nat) {ds : List D} {vs : List V}, DenL C ρ S ds vs → DenL C ρ S (ds.eraseIdx k) (vs.eraseIdx k)
  | _, [], vs, h => by rw [denL_nil.mp h]; exact denL_nil.mpr rfl
  | 0, d :: ds, vs, h => by
    obtain ⟨v, r, rfl, h1, h2⟩ : ∃ v r, vs = v :: r ∧ Den C ρ S d v ∧ DenL C ρ S ds r := by unfold DenL at h; exact h
    exact h2
  | k + 1, d :: ds, vs, h => by
    obtain ⟨v, r, rfl, h1, h2⟩ : ∃ v r, vs = v :: r ∧ Den C ρ S d v ∧ DenL C ρ S ds r := by unfold DenL at h; exact h
    exact denL_cons.mpr ⟨h1, DenL.erase k h2⟩
variable {W : Wd} {N : List Str} {sc : Scope} {k : Nat}
end
end Ev

set_option Elab.async false
set_option linter.all false
set_option maxRecDepth 100000
set_option maxHeartbeats 4000000
namespace Ev
open PySem L2
/-! ### Base.__init__(self, ..), Base a class of the program over ValueError -/
theorem pe_cinit {X : Cx} {x : Str} {B : Addr} {mc : Value} {e : Expr} {es : List Expr} {ta : TA} {p1 p2 pos : Pos} {pl : Sem Bool} (hg : Gl X x) (hm : X.mg x = some (.ref B)) (hdb : (x == ("__debug__" : Str)) = false)
    (hs : PySem.W.specialIn X.K (.ref B) "__getattribute__" = some (some (.builtin "type.__getattribute__"))) (hr : PySem.W.readsIn X.K B mc = true) (vV : PySem.W.findCls X.K (.ref B) mc "__init__" = some (.val (.builtin "ValueError.__init__"))) (ha : PA X (e :: es) ta)
    (hc : eval (.Call (.Attribute (.Name x p1) "__init__" p2) (e :: es) [] pos) X.env = (do
      let ov ← eval (.Name x p1) X.env
      standAt p2.atName
      let (f, first) ← holding [ov] (getMethod ov "__init__" pl)
      callWith pos f first (backTo pos (starEach (e :: es) X.env)) (backToKw pos (keywordEach [] X.env))) := by rfl)
    (he : starEach (e :: es) X.env = (false, eval e X.env) :: starEach es X.env := by rfl) (hpl : (backTo pos (starEach es X.env)).any (·.1) = false := by rfl) :
    PE X (.Call (.Attribute (.Name x p1) "__init__" p2) (e :: es) [] pos) (tVeI X.K ta) := by
  refine ⟨fun pins s σ H Q I h => ?_⟩
  refine PySem.W.methodCall_KW (ld_glob I hg hm ?_ hdb) hc
  refine PySem.W.method_cls I.kIn hs ?_
  refine PySem.W.cls_value I.kIn hr vV (by decide +kernel) ?_
  show wpAny _ _ (callWith pos (Value.builtin "ValueError.__init__") [] (backTo pos (starEach (e :: es) X.env)) []) _ _ _
  refine PyProof.Rows.callWith_method1 (thn (ha.run pos pins _ σ H _ (I.tok _) h) fun us s1 ⟨vs, H1, I1, r1, a, C, ws, ev, hl, T, ea, q⟩ => ?_) he hpl
  subst ev
  cases r1 with
  | @cons _ u0 _ ur ra rw' =>
    obtain rfl : u0 = Value.ref a := ra
    have hlen : ur.length ≤ sizeLine := by
      rw [← Paired.length rw', sizeLine_eq]
      omega
    exact oinit_ok T I1 ea hlen fun s' J => ⟨.non, H1, J, rfl, q⟩
end Ev

set_option Elab.async false
set_option linter.all false
set_option maxRecDepth 100000
set_option maxHeartbeats 4000000
namespace Ev
open PySem L2
/-! ### an error class: __init__(self, f): Base.__init__(self, ".."); self.f = f -/
def spX (K : PySem.W.Frag) (fld : Str) : Sp := fun vs H Q _ => ∃ (a C : Addr) (y : V), vs = [.ref a, y] ∧ OexC K C ∧ PySem.W.findIn K (.ref C) fld = some none ∧ H a = some (exo a C none) ∧ ∀ dx, H dx = none → dx ≠ a → Q .non (upd (upd H dx (exd dx [(fld, y)])) a (exo a C (some dx)))
/-- what is known of the base class -/
structure XBase (W : Wd) (x : Str) (B : Addr) (mc : Value) : Prop where
  mg : W.mg x = some (.ref B)
  ga : PySem.W.specialIn W.K (.ref B) "__getattribute__" = some (some (.builtin "type.__getattribute__"))
  rd : PySem.W.readsIn W.K B mc = true
  fi : PySem.W.findCls W.K (.ref B) mc "__init__" = some (.val (.builtin "ValueError.__init__"))
theorem fn_X {W : Wd} {x bx fld msg qual : Str} {B : Addr} {mc : Value} {params : Arguments} {scope : Scope} {dvs : List V} {kws : List (Str × V)} {f : Addr} {fd : FuncData} {p1 p2 p3 p4 p5 p6 p7 p8 p9 p10 : Pos} {j : Nat}
    (D : FunD W.K x qual params [.Expr (.Call (.Attribute (.Name bx p1) "__init__" p2) [.Name "self" p3, .Constant (.str msg) j p4] [] p5) p6, .Assign [.Attribute (.Name "self" p7) fld p8] (.Name fld p9) p10] scope dvs kws f fd)
    (S : FnScope ["self", fld] ["self", fld] scope) (b : XBase W bx B mc) (hdb : (bx == ("__debug__" : Str)) = false) (hg : glB scope bx = true) (hv0 : visB scope "self" = true) (hv1 : visB scope fld = true) (hd0 : ndb "self" = true) (hd1 : ndb fld = true) {pl : PySem.Env → Sem Bool}
    (hc : ∀ env : PySem.Env, eval (.Call (.Attribute (.Name bx p1) "__init__" p2) [.Name "self" p3, .Constant (.str msg) j p4] [] p5) env = (do
      let ov ← eval (.Name bx p1) env
      standAt p2.atName
      let (f, first) ← holding [ov] (getMethod ov "__init__" (pl env))
      callWith p5 f first (backTo p5 (starEach [.Name "self" p3, .Constant (.str msg) j p4] env)) (backToKw p5 (keywordEach [] env)))) :
    FnOk W.P W.w W.K W.mg W.base (L2.CX W.P W.w) 1 f fd ["self", fld] (spX W.K fld) :=
  D.ok S (fun vs H Q E h => by obtain ⟨a, C, y, rfl, _⟩ := h; rfl) fun cdv A outer s H vs Q E hr h => by
    have F := fitF_of (CX := L2.CX W.P W.w) (W := W) (k := 0) S (cdv := cdv) (A := A) (outer := outer) (s := s) (H := H) (E := E) hr
    have n0 := (Fit.name (W := W) (N := ["self", fld]) (sc := scope) (k := 0) (i := 0) (x := "self") rfl hv0 hd0)
    have n1 := (Fit.name (W := W) (N := ["self", fld]) (sc := scope) (k := 0) (i := 1) (x := fld) rfl hv1 hd1)
    obtain ⟨a, C, y, rfl, T, hno, ea, q⟩ := h
    refine ⟨_, (pss_cons (ps_expr (pe_cinit (F.fit.gl bx hg) b.mg hdb b.ga b.rd b.fi (pa_cons (n0.pe _ F.fit) (pa_cons pe_str pa_nil)) (hc _))) (pss_cons (ps_ost (n0.pe _ F.fit) (n1.pe _ F.fit)) pss_nil)).nox, ?_⟩
    refine ⟨.ref a, rfl, a, C, [.str msg], rfl, by simp, T, ea, ?_⟩
    exact ⟨y, rfl, .ref a, rfl, a, C, rfl, T, hno, .inl ⟨ea, fun dx h1 h2 => q dx h1 h2⟩⟩
end Ev

set_option Elab.async false
set_option linter.all false
set_option maxRecDepth 100000
set_option maxHeartbeats 4000000
namespace Ev
open PySem L2

/-! ### raising: what is in the air -/
abbrev Xo := Nat × List D
abbrev FX := Env → Option (Xo × Env)
def XDen (C : Cf) (ρ : Addr → Nat) (S : Hp) (x : Xo) (d : Option Addr) : Prop := x.1 < C.xn ∧ ∃ vs, (C.xfs x.1).length = x.2.length ∧ ((x.2 = [] ∧ d = none) ∨ ∃ dx, d = some dx ∧ S dx = some (.xd ((C.xfs x.1).zip vs))) ∧ DenL C ρ S x.2 vs
theorem XDen.mono {C : Cf} {ρ ρ' : Addr → Nat} {S S' : Hp} {x : Xo} {d : Option Addr} (E : Ext ρ S ρ' S') (h : XDen C ρ S x d) : XDen C ρ' S' x d := by
  obtain ⟨hc, vs, hl, hd, r⟩ := h
  refine ⟨hc, vs, hl, ?_, r.mono E⟩
  rcases hd with hd | ⟨dx, e, hx⟩
  · exact .inl hd
  · exact .inr ⟨dx, e, E.sub _ _ hx⟩
def WantsX (C : Cf) (A : Act) (ρ : Addr → Nat) (S : Hp) (Γ' : Env) (Wx : WX) (x : Xo) : Prop := ∀ σ' ρ' S' H' d, Ext ρ S ρ' S' → Sto C A ρ' S' Γ' σ' H' → XDen C ρ' S' x d → Wx (.ref (C.xat x.1)) d σ' H'
theorem WantsX.ext {C : Cf} {A : Act} {ρ ρ1 : Addr → Nat} {S S1 : Hp} {Γ' : Env} {Wx : WX} {x : Xo} (h : WantsX C A ρ S Γ' Wx x) (E : Ext ρ S ρ1 S1) : WantsX C A ρ1 S1 Γ' Wx x := fun σ' ρ' S' H' d E' T' k => h σ' ρ' S' H' d (E.trans E') T' k
structure FitX (W : Wd) (N : List Str) (sc : Scope) (k : Nat) (X : Cx) : Prop where
  fit : Fit W N sc k X
  sce : X.env.scope = sc
  kind : sc.kind = .function
  st : X.stack = X.env :: X.outer
  fr : X.env.frame = some X.env.locals
  ex : X.ex = []
  po : PassesOwn (model X.prog X.w) X.A X.env X.xe
theorem FitX.nox {W : Wd} {N : List Str} {sc : Scope} {k : Nat} {X : Cx} (F : FitX W N sc k X) : FitF W N sc k X.nox :=
  ⟨⟨F.fit.pr, F.fit.wo, F.fit.kk, F.fit.mg, F.fit.ba, F.fit.nn, F.fit.nd, F.fit.calm, F.fit.room, F.fit.vis, F.fit.loc, F.fit.cf, F.fit.gl⟩, F.sce, F.kind, rfl, F.st, F.fr, F.ex⟩
theorem FitX.f {W : Wd} {N : List Str} {sc : Scope} {k : Nat} : ∀ X, FitX W N sc k X → Fit W N sc k X := fun _ h => h.fit
theorem PS_nox {X : Cx} {st : Stmt} {t : TS} (h : PS X.nox st t) : PS X st t := ⟨fun pins s σ H D I hw => wpAny_mono (h.run pins s σ H D (I.wish _) hw) (fun _ _ q => q.unwish) fun _ _ z => z.elim⟩
theorem PS_or {X : Cx} {st : Stmt} {t u : TS} (h : PS X st t) (k : PS X st u) : PS X st (fun D σ H => t D σ H ∨ u D σ H) := ⟨fun pins s σ H D I hw => hw.elim (h.run pins s σ H D I) (k.run pins s σ H D I)⟩
theorem PSs_or {X : Cx} {st : List Stmt} {t u : TS} (h : PSs X st t) (k : PSs X st u) : PSs X st (fun D σ H => t D σ H ∨ u D σ H) := ⟨fun pins s σ H D I hw => hw.elim (h.run pins s σ H D I) (k.run pins s σ H D I)⟩

theorem PA_no {X : Cx} {es : List Expr} : PA X es (fun _ _ _ => False) := ⟨fun _ _ _ _ _ _ _ h => h.elim⟩
section
variable (C : Cf) (W : Wd) (N : List Str) (sc : Scope) (k : Nat)
def RE (e : Expr) (f : FX) : Prop := ∃ tb : WX → TE, (∀ Wx X, FitX W N sc k X → Takes X Wx → PE X e (tb Wx)) ∧ ∀ (Wx : WX) (A : Act) (ρ : Addr → Nat) (S : Hp) (Γ : Env) (σ : St) (H : Hp) (Q : VK) (x : Xo) (Γ' : Env), Sto C A ρ S Γ σ H → f Γ = some (x, Γ') → WantsX C A ρ S Γ' Wx x → tb Wx σ H Q
def RA (es : List Expr) (f : FX) : Prop := ∃ tb : WX → TA, (∀ Wx X, FitX W N sc k X → Takes X Wx → PA X es (tb Wx)) ∧ ∀ (Wx : WX) (A : Act) (ρ : Addr → Nat) (S : Hp) (Γ : Env) (σ : St) (H : Hp) (Q : List V → Hp → Prop) (x : Xo) (Γ' : Env), Sto C A ρ S Γ σ H → f Γ = some (x, Γ') → WantsX C A ρ S Γ' Wx x → tb Wx σ H Q
def RS (st : Stmt) (f : FX) : Prop := ∃ tb : WX → TS, (∀ Wx X, FitX W N sc k X → Takes X Wx → PS X st (tb Wx)) ∧ ∀ (Wx : WX) (A : Act) (ρ : Addr → Nat) (S : Hp) (Γ : Env) (σ : St) (H : Hp) (D : Ends) (x : Xo) (Γ' : Env), Sto C A ρ S Γ σ H → f Γ = some (x, Γ') → WantsX C A ρ S Γ' Wx x → tb Wx D σ H
def RB (st : List Stmt) (f : FX) : Prop := ∃ tb : WX → TS, (∀ Wx X, FitX W N sc k X → Takes X Wx → PSs X st (tb Wx)) ∧ ∀ (Wx : WX) (A : Act) (ρ : Addr → Nat) (S : Hp) (Γ : Env) (σ : St) (H : Hp) (D : Ends) (x : Xo) (Γ' : Env), Sto C A ρ S Γ σ H → f Γ = some (x, Γ') → WantsX C A ρ S Γ' Wx x → tb Wx D σ H
end
section
variable {C : Cf} {W : Wd} {N : List Str} {sc : Scope} {k : Nat} {e a b : Expr} {es : List Expr} {st : Stmt} {sts : List Stmt} {p pos : Pos} {f g : FX}
/-! what never raises; the one or the other -/
def xNo : FX := fun _ => none
def xAlt (f g : FX) : FX := fun Γ => match f Γ with
  | some r => some r
  | none => g Γ
theorem xAlt_some {Γ : Env} {r : Xo × Env} (h : xAlt f g Γ = some r) : f Γ = some r ∨ (f Γ = none ∧ g Γ = some r) := by
  unfold xAlt at h
  split at h
  · rename_i r' e; cases h; exact .inl e
  · rename_i e; exact .inr ⟨e, h⟩
theorem rb_alt (h : RB C W N sc k sts f) (h' : RB C W N sc k sts g) : RB C W N sc k sts (xAlt f g) := by
  obtain ⟨t, hp, l⟩ := h
  obtain ⟨u, hq, m⟩ := h'
  refine ⟨fun Wx D σ H => t Wx D σ H ∨ u Wx D σ H, fun Wx X F K => PSs_or (hp Wx X F K) (hq Wx X F K), fun Wx A ρ S Γ σ H Q x Γ' T hf hW => ?_⟩
  rcases xAlt_some hf with q | ⟨_, q⟩
  · exact .inl (l Wx A ρ S Γ σ H Q x Γ' T q hW)
  · exact .inr (m Wx A ρ S Γ σ H Q x Γ' T q hW)
theorem rb_no : RB C W N sc k sts xNo := ⟨fun _ => tNever, fun _ _ _ _ => pss_never, fun _ _ _ _ _ _ _ _ _ _ _ h => by cases h⟩
/-! blocks -/
def xTl (f : FS) (g : FX) : FX := fun Γ => match f Γ with
  | some (.nx, Γ1) => g Γ1
  | _ => none
theorem rb_hd (h : RS C W N sc k st f) : RB C W N sc k (st :: sts) f := by
  obtain ⟨t, hp, l⟩ := h
  exact ⟨fun Wx => tSeq (t Wx) tNever, fun Wx X F K => pss_cons (hp Wx X F K) pss_never, fun Wx A ρ S Γ σ H D x Γ' T hf hW => l Wx A ρ S Γ σ H _ x Γ' T hf hW⟩
theorem rb_tl {fs : FS} (h : XS C W N sc k st fs) (h' : RB C W N sc k sts g) : RB C W N sc k (st :: sts) (xTl fs g) := by
  obtain ⟨t, hp, l⟩ := h
  obtain ⟨u, hq, m⟩ := h'
  refine ⟨fun Wx => tSeq t (u Wx), fun Wx X F K => pss_cons (PS_nox (hp _ F.nox)) (hq Wx X F K), fun Wx A ρ S Γ σ H D x Γ' T hf hW => ?_⟩
  unfold xTl at hf
  split at hf
  · rename_i Γ1 e1
    exact l A ρ S Γ σ H _ .nx Γ1 T e1 fun σ1 ρ1 S1 H1 E1 T1 => m Wx A ρ1 S1 Γ1 σ1 H1 D x Γ' T1 hf (hW.ext E1)
  · cases hf
/-! statements around an expression that raises -/
theorem rs_expr (h : RE C W N sc k e f) (hs : noComp e = true) : RS C W N sc k (.Expr e pos) f := by
  obtain ⟨t, hp, l⟩ := h
  exact ⟨fun Wx => tDrop (t Wx), fun Wx X F K => ps_expr (hp Wx X F K) (sw_no hs _ _ _), fun Wx A ρ S Γ σ H D x Γ' T hf hW => l Wx A ρ S Γ σ H _ x Γ' T hf hW⟩
theorem rs_ret (h : RE C W N sc k e f) : RS C W N sc k (.Return (some e) pos) f := by
  obtain ⟨t, hp, l⟩ := h
  exact ⟨fun Wx => tRet (t Wx), fun Wx X F K => ps_ret (hp Wx X F K), fun Wx A ρ S Γ σ H D x Γ' T hf hW => l Wx A ρ S Γ σ H _ x Γ' T hf hW⟩
theorem rs_set (i : Nat) {x : Str} {px : Pos} (hx : N[i]? = some x) (hv : locB sc x = true) (hs : noComp e = true) (h : RE C W N sc k e f) : RS C W N sc k (.Assign [.Name x px] e pos) f := by
  obtain ⟨t, hp, l⟩ := h
  have s := Fit.store (W := W) (k := k) hx hv
  exact ⟨fun Wx => tAsg (t Wx) (gName i), fun Wx X F K => ps_set (s.nd X F.fit) (s.hN X F.fit) (s.hx X F.fit) (hp Wx X F K) (sw_no hs _ _ _) (s.hf X F.fit), fun Wx A ρ S Γ σ H D x Γ' T hf hW => l Wx A ρ S Γ σ H _ x Γ' T hf hW⟩
def xIf (c : FT) (f g : FX) : FX := fun Γ => match c Γ with
  | some (true, Γ1) => f Γ1
  | some (false, Γ1) => g Γ1
  | none => none
theorem rs_if {c : Expr} {xa xb : List Stmt} {fc : FT} (hc : XT C W N sc k c fc) (h : RB C W N sc k xa f) (h' : RB C W N sc k xb g) : RS C W N sc k (.If c xa xb pos) (xIf fc f g) := by
  obtain ⟨t0, hp0, k0⟩ := hc
  obtain ⟨t, hp, l⟩ := h
  obtain ⟨u, hq, m⟩ := h'
  refine ⟨fun Wx => tIfS t0 (t Wx) (u Wx), fun Wx X F K => ps_if (hp0 X F.fit) (hp Wx X F K) (hq Wx X F K), fun Wx A ρ S Γ σ H D x Γ' T hf hW => ?_⟩
  unfold xIf at hf
  split at hf
  · rename_i Γ1 e1
    exact k0 A ρ S Γ σ H _ _ _ T e1 fun ρ1 S1 H1 E1 T1 => by
      rw [if_pos rfl]
      exact l Wx A ρ1 S1 Γ1 σ H1 D x Γ' T1 hf (hW.ext E1)
  · rename_i Γ1 e1
    exact k0 A ρ S Γ σ H _ _ _ T e1 fun ρ1 S1 H1 E1 T1 => by
      rw [if_neg (by decide)]
      exact m Wx A ρ1 S1 Γ1 σ H1 D x Γ' T1 hf (hW.ext E1)
  · cases hf
/-! for -/
def forX (tg : FG) (body : FS) (bx : FX) : List D → FX
  | [], _ => none
  | d :: r, Γ => match tg d Γ with
    | none => none
    | some Γ1 => match bx Γ1 with
      | some x => some x
      | none => match body Γ1 with
        | some (.nx, Γ2) => forX tg body bx r Γ2
        | _ => none
def xFor (it : FL) (tg : FG) (body : FS) (bx : FX) : FX := fun Γ => match it Γ with
  | some (ds, Γ1) => forX tg body bx ds Γ1
  | none => none
theorem rs_for {tg iter : Expr} {body : List Stmt} {ts : List Nat} {fi : FL} {fg : FG} {fb : FS} (hi : XI C W N sc k tg iter fi) (hg : XG C W N sc k tg ts fg) (hb : XB C W N sc k body fb) (hx : RB C W N sc k body f) (hs : ∀ (env : PySem.Env) x, foldedSetIterable iter env x = pure x) :
    RS C W N sc k (.For tg iter body [] pos) (xFor fi fg fb f) := by
  obtain ⟨wi, hpi, ki⟩ := hi
  obtain ⟨gg, hpg, kg⟩ := hg
  obtain ⟨tb, hpb, kb⟩ := hb
  obtain ⟨tx, hpx, kx⟩ := hx
  refine ⟨fun Wx => tFor wi gg (fun D σ H => tb D σ H ∨ tx Wx D σ H), fun Wx X F K => ps_for F.po F.fit.calm (hpi X F.fit) (hpg X F.fit) (PSs_or (hpb _ F.nox).nox (hpx Wx X F K)) (hs X.env), fun Wx A ρ S Γ σ H D x Γ' T hf hW => ?_⟩
  unfold xFor at hf
  split at hf
  · rename_i ds Γ1 e1
    refine ki A ρ S Γ σ H _ ds Γ1 T e1 fun J ρ1 S1 H1 E1 T1 Wk => ?_
    obtain ⟨hlen, walk⟩ := Wk
    refine ⟨fun i m σ' H' => m = ds.length - i ∧ i ≤ ds.length ∧ ∃ (ρ' : Addr → Nat) (S' : Hp) (Γi : Env), Sto C A ρ' S' Γi σ' H' ∧ Ext ρ1 S1 ρ' S' ∧ forX fg fb f (ds.drop i) Γi = some (x, Γ'),
      ⟨ds.length, by simp, Nat.zero_le _, ρ1, S1, Γ1, T1, Ext.refl, by rw [List.drop_zero]; exact hf⟩, ?_⟩
    rintro i m σ2 H2 ⟨rfl, hi, ρ2, S2, Γi, T2, E2, hrun⟩
    obtain ⟨wgo, wstop⟩ := walk A ρ2 S2 Γi σ2 H2 T2 E2 i
    by_cases hlt : i < ds.length
    · obtain ⟨go, yld⟩ := wgo _ (List.getElem?_eq_getElem hlt)
      refine .inr ⟨go, fun σ' H' => ∃ m', m' < ds.length - i ∧ (m' = ds.length - (i + 1) ∧ i + 1 ≤ ds.length ∧ ∃ (ρ' : Addr → Nat) (S' : Hp) (Γi : Env), Sto C A ρ' S' Γi σ' H' ∧ Ext ρ1 S1 ρ' S' ∧ forX fg fb f (ds.drop (i + 1)) Γi = some (x, Γ')), fun σ' H' h => h, fun v H3 hy => ?_⟩
      have dr : ds.drop i = ds[i] :: ds.drop (i + 1) := List.drop_eq_getElem_cons hlt
      rw [dr] at hrun
      unfold forX at hrun
      obtain ⟨ρ3, S3, E3, T3, d3⟩ := yld v H3 hy
      split at hrun
      · cases hrun
      · rename_i Γa e2
        refine kg A ρ3 S3 Γi σ2 H3 v _ Γa _ T3 d3 e2 fun σ3 T4 _ => ?_
        split at hrun
        · rename_i r e3
          cases hrun
          exact .inr (kx Wx A ρ3 S3 Γa σ3 H3 _ x Γ' T4 e3 (hW.ext (E1.trans (E2.trans E3))))
        · split at hrun
          · rename_i Γb e3
            exact .inl (kb A ρ3 S3 Γa σ3 H3 _ .nx Γb T4 e3 fun σ5 ρ5 S5 H5 E5 T5 => ⟨ds.length - (i + 1), by omega, rfl, hlt, ρ5, S5, Γb, T5, (E2.trans E3).trans E5, hrun⟩)
          · cases hrun
    · have ei : i = ds.length := by omega
      subst ei
      rw [List.drop_length] at hrun
      cases hrun
  · cases hf
/-! arguments -/
theorem ra_hd (h : RE C W N sc k e f) (hs : noSt (e :: es) = true) : RA C W N sc k (e :: es) f := by
  obtain ⟨t, hp, l⟩ := h
  exact ⟨fun Wx => tCons (t Wx) (fun _ _ _ => False), fun Wx X F K => pa_cons (hp Wx X F K) PA_no (star_cons hs), fun Wx A ρ S Γ σ H D x Γ' T hf hW => l Wx A ρ S Γ σ H _ x Γ' T hf hW⟩
end
end Ev

set_option Elab.async false
set_option linter.all false
set_option maxRecDepth 100000
set_option maxHeartbeats 4000000
namespace Ev
open PySem L2

/-! ### raise C(e) -/
structure XCls (C : Cf) (W : Wd) (x : Str) (c : Nat) (fld : Str) (j : Nat) : Prop where
  hc : c < C.xn
  fs : C.xfs c = [fld]
  mg : W.mg x = some (.ref (C.xat c))
  ox : OexC W.K (C.xat c)
  no : PySem.W.findIn W.K (.ref (C.xat c)) fld = some none
  ini : ∃ (fI : Addr) (fd : FuncData), PySem.W.findIn W.K (.ref (C.xat c)) "__init__" = some (some (.ref fI)) ∧ PySem.W.typeIn W.K (.ref fI) = some (.type "function") ∧
    FnOk W.P W.w W.K W.mg W.base (L2.CX W.P W.w) j fI fd ["self", fld] (spX W.K fld) ∧ Binds W.K fd ["self", fld] []
def xRaise (c : Nat) (f : FD) : FX := fun Γ => match f Γ with
  | some (d, Γ1) => some ((c, [d]), Γ1)
  | none => none
section
variable {C : Cf} {W : Wd} {N : List Str} {sc : Scope} {k : Nat} {e a b : Expr} {es : List Expr} {st : Stmt} {sts : List Stmt} {p pos : Pos} {f g : FX}
theorem rs_raise {x fld : Str} {c j : Nat} {fe : FD} {pos' : Pos} (T : XCls C W x c fld j) (hj : j + 1 ≤ k) (hg : glB sc x = true) (hd : ndb x = true) (hs : noSt [e] = true) (h : XD C W N sc k e fe) :
    RS C W N sc k (.Raise (some (.Call (.Name x p) [e] [] pos)) none pos') (xRaise c fe) := by
  obtain ⟨t, hp, l⟩ := h
  obtain ⟨fI, fd, i1, i2, i3, i4⟩ := T.ini
  have hd := Bool.and_eq_true_iff.mp hd
  refine ⟨fun Wx _ σ H => tMkO (C.xat c) (spX W.K fld) [] (tCons t tNil) σ H fun cls d H' => Wx cls d σ H', fun Wx X F K => ?_, fun Wx A ρ S Γ σ H D x Γ' T0 hf hW => ?_⟩
  · refine ps_raise F.fit.calm K (pmk_oex (by rw [F.fit.kk]; exact T.ox) (by rw [F.fit.kk]; exact i1) (by rw [F.fit.kk]; exact i2) (k := j) (fd := fd) (ps := ["self", fld]) (by rw [F.fit.pr, F.fit.wo, F.fit.kk, F.fit.mg, F.fit.ba]; exact i3) (F.fit.room.mono hj) (by rw [F.fit.kk]; exact i4) .nil (fun pins σ H s e s' I q => ?_) (F.fit.gl x hg) (by rw [F.fit.mg]; exact T.mg) (pa_cons (hp X F.fit) pa_nil (star_cons hs)) (by simpa using hd.1) (star_cons hs) rfl)
    have := passL (X := X) pins σ H s e s' I (by rw [F.fit.pr, F.fit.wo]; exact q)
    exact this
  · unfold xRaise at hf
    split at hf
    · rename_i d Γ1 e1
      cases hf
      refine l A ρ S Γ σ H _ d _ T0 e1 fun v ρ1 S1 H1 E1 T1 d1 => ?_
      refine ⟨by simp, fun a ha => ⟨a, C.xat c, v, rfl, T.ox, T.no, upd_same, fun dx hdx hne => ?_⟩⟩
      have h0 : H1 dx = none := by rw [upd_ne hne] at hdx; exact hdx
      refine ⟨rfl, dx, [(fld, v)], upd_same, by rw [upd_ne hne, upd_same], h0, ?_⟩
      have eq : upd (del (upd (upd (upd H1 a (exo a (C.xat c) none)) dx (exd dx [(fld, v)])) a (exo a (C.xat c) (some dx))) a) dx (.xd [(fld, v)]) = upd H1 dx (.xd [(fld, v)]) := by
        funext b
        by_cases hb : b = dx
        · rw [hb, upd_same, upd_same]
        · rw [upd_ne hb, upd_ne hb]
          by_cases hba : b = a
          · rw [hba, del_same, ha]
          · rw [del_ne hba, upd_ne hba, upd_ne hb, upd_ne hba]
      show Wx (.ref (C.xat c)) (some dx) σ (upd (del (upd (upd (upd H1 a (exo a (C.xat c) none)) dx (exd dx [(fld, v)])) a (exo a (C.xat c) (some dx))) a) dx (.xd [(fld, v)]))
      rw [eq]
      obtain ⟨T2, E2, sp, h02, hn⟩ := T1.lay h0 (.xd [(fld, v)]) 0
      obtain ⟨T3, E3⟩ := T2.pub upd_same sp (.inl h02) hn
      refine hW σ _ _ _ (some dx) ((E1.trans E2).trans E3) T3 ⟨T.hc, [v], by rw [T.fs]; rfl, .inr ⟨dx, rfl, ?_⟩, denL_cons.mpr ⟨(d1.mono E2).mono E3, denL_nil.mpr rfl⟩⟩
      show upd S1 dx (.xd [(fld, v)]) dx = some (.xd ((C.xfs c).zip [v]))
      rw [T.fs, upd_same]
      rfl
    · cases hf
/-! ### a def that may raise -/
abbrev FFX := Nat → List D → Option Xo
def spFX (C : Cf) (n : Nat) (F : FF) (Fx : FFX) : Sp := fun vs H Q E => spF C n F vs H Q E ∨ (vs.length = n ∧ ∃ (ρ : Addr → Nat) (S : Hp) (g : Nat) (args : List D) (x : Xo), DenL C ρ S args vs ∧ Sub S H ∧ Fx g args = some x ∧
  ∀ ρ' S' H' d, Post ρ S H ρ' S' H' [] → XDen C ρ' S' x d → E (.ref (C.xat x.1)) d H')
theorem spFX.len {n : Nat} {F : FF} {Fx : FFX} {vs : List V} {H : Hp} {Q : VK} {E : XK} (h : spFX C n F Fx vs H Q E) : vs.length = n := by
  rcases h with h | h
  · exact h.1
  · exact h.1
theorem Def.nrm {x : Str} {j n : Nat} {F : FF} {Fx : FFX} (d : Def W x j (spFX C n F Fx)) : Def W x j (spF C n F) := by
  obtain ⟨⟨f, fd, ps, h1, h2, h3, h4⟩⟩ := d
  exact ⟨⟨f, fd, ps, h1.imp fun _ _ _ _ h => .inl h, h2, h3, h4⟩⟩
theorem Mth.nrm {x : Str} {c j n : Nat} {F : FF} {Fx : FFX} (d : Mth C W c x j (spFX C n F Fx)) : Mth C W c x j (spF C n F) := by
  obtain ⟨⟨f, fd, ps, h1, h2, h3⟩⟩ := d
  exact ⟨⟨f, fd, ps, h1.imp fun _ _ _ _ h => .inl h, h2, h3⟩⟩
theorem Mth2.nrm {x : Str} {c j n : Nat} {F : FF} {Fx : FFX} (d : Mth2 C W c x j (spFX C n F Fx)) : Mth2 C W c x j (spF C n F) := by
  obtain ⟨⟨f, fd, ps, h1, h2, h3, h4⟩⟩ := d
  exact ⟨⟨f, fd, ps, h1.imp fun _ _ _ _ h => .inl h, h2, h3, h4⟩⟩
def runX (m : Nat) (bx : FX) : List D → Option Xo := fun args => match bx (envOf m (args.map .sh)) with
  | some (x, _) => some x
  | none => none
theorem fn_FX {N ps : List Str} {n : Nat} {x qual : Str} {params : Arguments} {body : List Stmt} {scope : Scope} {dvs : List V} {kws : List (Str × V)} {f : Addr} {fd : FuncData} {F : FF} {Fx : FFX} {fb : Nat → FS} {xb : Nat → FX} (D : FunD W.K x qual params body scope dvs kws f fd) (S : FnScope N ps scope) (hn : ps.length = n) (hN : n ≤ N.length)
    (hF : ∀ g args s, F g args = some s → runF N.length (fb g) args = some s) (hFx : ∀ g args x, Fx g args = some x → runX N.length (xb g) args = some x) (hb : ∀ g, XB C W N scope k body (fb g)) (hx : ∀ g, RB C W N scope k body (xb g)) :
    FnOk W.P W.w W.K W.mg W.base (L2.CX W.P W.w) (k + 1) f fd ps (spFX C n F Fx) :=
  D.ok S (fun vs H Q E h => h.len.trans hn.symm) fun cdv A outer s H vs Q E hr h => by
    rcases h with h | ⟨hlen, ρ, S0, g, args, x, hd, sb, h0, hE⟩
    · obtain ⟨t, hp, q⟩ := body_reads (P := FitF W N scope k) hF hb hN h
      exact ⟨t, (hp _ (fitF_of S hr)).nox, q⟩
    · obtain ⟨tb, hp, l⟩ := hx g
      have FF := fitF_of (CX := L2.CX W.P W.w) (W := W) (k := k) S (cdv := cdv) (A := A) (outer := outer) (s := s) (H := H) (E := E) hr
      refine ⟨tb (fun cls d _ H => E cls d H), hp _ _ ⟨⟨rfl, rfl, rfl, rfl, rfl, rfl, S.nd, rfl, hr, FF.fit.vis, FF.fit.loc, FF.fit.cf, FF.fit.gl⟩, rfl, S.kind, rfl, rfl, rfl, passes_of rfl⟩ (takes_of rfl rfl rfl rfl), ?_⟩
      have T := sto_entry (N := N) hd sb (by omega)
      have hr := hFx g args x h0
      unfold runX at hr
      split at hr
      · rename_i x' Γ' e1
        cases hr
        exact l _ _ ρ S0 _ _ H _ x Γ' T e1 fun σ' ρ' S' H' d E' T' q => hE ρ' S' H' d (sto_post T') q
      · cases hr
theorem def_FX {N ps : List Str} {n : Nat} {x : Str} {params : Arguments} {body : List Stmt} {scope : Scope} {f : Addr} {fd : FuncData} {F : FF} {Fx : FFX} {fb : Nat → FS} {xb : Nat → FX} (D : FunD W.K x x params body scope [] [] f fd) (S : FnScope N ps scope) (hn : ps.length = n) (hN : n ≤ N.length)
    (hF : ∀ g args s, F g args = some s → runF N.length (fb g) args = some s) (hFx : ∀ g args x, Fx g args = some x → runX N.length (xb g) args = some x) (hb : ∀ g, XB C W N scope k body (fb g)) (hx : ∀ g, RB C W N scope k body (xb g)) (hm : W.mg x = some (.ref f)) (hB : BindF x x params body scope ps) : Def W x (k + 1) (spFX C n F Fx) :=
  ⟨⟨f, fd, ps, fn_FX D S hn hN hF hFx hb hx, hm, D.kp, D.bindsN hB⟩⟩
/-! ### calls that raise -/
def xCall (n : Nat) (Fx : FFX) (g : Nat) (fa : FL) : FX := fun Γ => match fa Γ with
  | some (ds, Γ1) => if ds.length = n then (match Fx g ds with
    | some x => some (x, Γ1)
    | none => none) else none
  | none => none
theorem xCall_some {n : Nat} {Fx : FFX} {g : Nat} {fa : FL} {Γ Γ' : Env} {x : Xo} (h : xCall n Fx g fa Γ = some (x, Γ')) : ∃ ds, fa Γ = some (ds, Γ') ∧ ds.length = n ∧ Fx g ds = some x := by
  unfold xCall at h
  split at h
  · rename_i ds Γ1 e1
    split at h
    · rename_i hl
      split at h
      · rename_i x' e2
        cases h
        exact ⟨ds, e1, hl, e2⟩
      · cases h
    · cases h
  · cases h
theorem re_call (g : Nat) {j n : Nat} {F : FF} {Fx : FFX} {x : Str} {fa : FL} (d : Def W x j (spFX C n F Fx)) (hj : j ≤ k) (hg : glB sc x = true) (hd : ndb x = true) (hs : noSt (e :: es) = true) (ha : XL C W N sc k (e :: es) fa) : RE C W N sc k (.Call (.Name x p) (e :: es) [] pos) (xCall n Fx g fa) := by
  obtain ⟨t, hp, l⟩ := ha
  obtain ⟨⟨j', f, fd, ps, hc⟩, db⟩ := d.at (N := N) (sc := sc) hj hg hd
  refine ⟨fun Wx => tCallS (spFX C n F Fx) (WE Wx) t, fun Wx X FX K => ?_, fun Wx A ρ S Γ σ H Q x Γ' T hf hW => ?_⟩
  · obtain ⟨h1, h2, h3, h4, h5, h6⟩ := hc X FX.fit
    exact pe_callS h1 h2 h3 h4 h5 h6 (fun σ => passAt K σ) (hp X FX.fit) db (star_cons hs) (any_pl (noSt_all (noSt_tail hs)))
  · obtain ⟨ds, e1, hl, e2⟩ := xCall_some hf
    exact l A ρ S Γ σ H _ ds Γ' T e1 fun vs ρ1 S1 H1 E1 T1 d1 => .inr ⟨by rw [d1.length]; exact hl, ρ1, S1, g, ds, x, d1, T1.sub, e2, fun ρ2 S2 H2 d p q => hW σ ρ2 S2 H2 d (E1.trans p.ext) (T1.call p) q⟩
/-- an argument raises -/
theorem re_callA {j : Nat} {sp : Sp} {x : Str} (d : Def W x j sp) (hj : j ≤ k) (hg : glB sc x = true) (hd : ndb x = true) (hs : noSt (e :: es) = true) (ha : RA C W N sc k (e :: es) f) : RE C W N sc k (.Call (.Name x p) (e :: es) [] pos) f := by
  obtain ⟨t, hp, l⟩ := ha
  obtain ⟨⟨j', f', fd, ps, hc⟩, db⟩ := d.at (N := N) (sc := sc) hj hg hd
  refine ⟨fun Wx => tCall sp [] E0 (t Wx), fun Wx X FX K => ?_, fun Wx A ρ S Γ σ H Q x Γ' T hf hW => l Wx A ρ S Γ σ H _ x Γ' T hf hW⟩
  obtain ⟨h1, h2, h3, h4, h5, h6⟩ := hc X FX.fit
  exact pe_call h1 h2 h3 h4 h5 h6 .nil passL (hp Wx X FX K) db (star_cons hs) (any_pl (noSt_all (noSt_tail hs)))
/-! ### x + y, x[y] by a method that raises -/
end
end Ev

set_option Elab.async false
set_option linter.all false
set_option maxRecDepth 100000
set_option maxHeartbeats 4000000
namespace Ev
open PySem L2

/-! ### try: .. except C as n: y = n -/
def wKeep (K : PySem.W.Frag) (c : Value) (i j : Nat) (Wo : WX) (D : Ends) : WX := fun cls d σ H =>
  ∃ q, PySem.W.exmOne K cls c = some q ∧ (q = true → ∀ a, H a = none → D.nx (((σ.set i (some (.ref a))).set j (some (.ref a))).set i none) (upd H a (exv a cls d))) ∧ (q = false → Wo cls d σ H)
theorem exv_ok {P : Program} {w : World} {H : Hp} {h : Heap} {a : Addr} {cls : Value} {d : Option Addr} {oe : Obj} {vs : Array Value} (h1 : h.get? a = some oe) (hz : Zc cls d oe) (h2 : oe.data = .fields vs) : ObjOk P w H h a (exv a cls d) :=
  ⟨⟨oe, vs, h1, hz, h2⟩, ⟨oe, h1⟩, fun g1 g2 z kp => by
    obtain ⟨o', vs', q1, q2, q3⟩ := z
    exact ⟨o', vs', kp _ q1, q2, q3⟩⟩
/-- an object that stood aside is tracked from here on -/
theorem inv_track {X : Cx} {pins : List (Addr × Obj)} {σ : St} {H : Hp} {s : Shared} {a : Addr} {oe : Obj} {vs : Array Value} {cls : Value} {d : Option Addr} (J : Inv X ((a, oe) :: pins) σ H s) (hz : Zc cls d oe) (hd : oe.data = .fields vs) (n0 : X.s_0.heap.get? a = none) (np : ∀ p ∈ X.pn ++ pins, p.1 ≠ a) :
    Inv X pins σ (upd H a (exv a cls d)) s := by
  obtain ⟨ha, na, nL, nF, nC⟩ := J.pin (a, oe) (List.mem_append_right _ List.mem_cons_self)
  refine ⟨J.ok, J.os, J.bare, ⟨J.base.keep, J.base.slot, fun b o eb nb hx => ?_, J.base.there, fun b xs eb => ?_, fun b o u eb => ?_, fun b ps eb => ?_⟩, J.loc, J.cell, ?_, fun x c ec => ?_, fun p hp => ?_, fun b o eb => ?_, J.len⟩
  · have : b ≠ a := fun q => by subst q; rw [n0] at eb; cases eb
    rw [upd_ne this]
    exact J.base.free b o eb nb hx
  · have z := J.base.tups b xs eb
    rw [upd_ne (ne_of_none z na)]; exact z
  · have z := J.base.frzs b o u eb
    rw [upd_ne (ne_of_none z na)]; exact z
  · obtain ⟨m, z⟩ := J.base.tbls b ps eb
    exact ⟨m, by rw [upd_ne (ne_of_none z na)]; exact z⟩
  · rw [upd_ne (Ne.symm nL)]; exact J.free
  · have : c ≠ a := fun q => by
      subst q
      obtain ⟨v, o, ho, hdd⟩ := J.cell x c ec
      rw [ha] at ho
      cases ho
      exact nC v hdd
    rw [upd_ne this]; exact J.freeC x c ec
  · have hp' : p ∈ X.pn ++ (a, oe) :: pins := by
      rcases List.mem_append.mp hp with q | q
      · exact List.mem_append_left _ q
      · exact List.mem_append_right _ (List.mem_cons_of_mem _ q)
    obtain ⟨k1, k2, k3, k4, k5⟩ := J.pin p hp'
    exact ⟨k1, by rw [upd_ne (np p hp)]; exact k2, k3, k4, k5⟩
  · by_cases q : b = a
    · subst q
      rw [upd_same] at eb
      cases eb
      exact exv_ok ha hz hd
    · rw [upd_ne q] at eb
      exact (J.hok b o eb).stay (fun _ _ _ z => z) (fun c z => by rw [upd_ne (ne_of_none z na)]; exact z) fun c xs z => by rw [upd_ne (ne_of_none z na)]; exact z
theorem ps_tryK {X : Cx} {x n y : Str} {c : Value} {i j : Nat} {body : List Stmt} {np yp mp ap pos pos' : Pos} {tb : WX → TS} {Wo : WX} (hs : X.stack = X.env :: X.outer) (hf : X.env.frame = some X.env.locals) (hex : X.ex = []) (hN : X.N.Nodup) (hi : X.N[i]? = some n) (hj : X.N[j]? = some y) (hln : X.env.kindOf n = some .local)
    (hly : Loc X.env.scope y) (hfy : X.fn y = true ∨ X.env.scope.names.lookup y = some .local) (hd1 : (n == ("__debug__" : Str)) = false) (hd2 : (n == ("__classdict__" : Str)) = false) (hc : Names X x c) (tk : Takes X Wo)
    (hb : ∀ (Wx : WX) (pn : List (Addr × Obj)) (xe : Value → Shared → Prop), Takes (X.tr pn xe) Wx → PassesOwn (model X.prog X.w) X.A X.env xe → PSs (X.tr pn xe) body (tb Wx)) :
    PS X (.Try body [.ExceptHandler (some (.Name x np)) (some n) [.Assign [.Name y yp] (.Name n mp) ap] pos'] [] [] pos) (fun D σ H => tb (wKeep X.K c i j Wo D) D σ H) := by
  refine ⟨fun pins s σ H D I h => ?_⟩
  have ok := I.ok
  have frm : X.A.frames = some (X.env :: X.outer) := by rw [ok.frames, hs]
  have hloc : Loc X.env.scope n := .inl hln
  refine wpAny_Try_except ?_
  refine wpAny_mono ((hb (wKeep X.K c i j Wo D) (X.pn ++ pins) (fun e s₁ => wpAny (model X.prog X.w) X.A (noteFrame e X.env) (fun _ s₂ => wpAny (model X.prog X.w) X.A (setFlight e none) (fun _ s₃ =>
    wpAny (model X.prog X.w) X.A (handleBy e X.env [.ExceptHandler (some (.Name x np)) (some n) [.Assign [.Name y yp] (.Name n mp) ap] pos']) (SP X pins D) X.xe s₃) X.xe s₂) X.xe s₁) (fun u s' xx => ?_) PassesOwn.looking).run [] s σ H D (I.toTry _) h) (fun f s1 hsp => ?_) (fun e s1 he => he)
  · obtain ⟨a, B, sI, pinsI, σI, HI, cls, d, rfl, J0, nb, up, sky, na, os, ag, q, hq1, yes, nay⟩ := xx
    have J : Inv X pins σI HI sI := J0.ofTry ok
    have skyX : Sky B (X.env :: X.outer) a (Zc cls d) X.env.locals s'.heap := by rw [← hs]; exact sky
    show wpAny (model X.prog X.w) X.A (noteFrame (.ref a) X.env) _ _ _
    refine Sky.land Zc.steady frm hf skyX fun g3 fl3 up3 => ?_
    have J3 : Inv X pins σI HI { s' with heap := g3 } := J.landed nb fl3.1 (up.trans up3) os ag
    obtain ⟨o3, v3, at3, z3, dt3⟩ := fl3.there
    have noFr : a ∉ frs (X.env :: X.outer) := fun hm => by
      obtain ⟨_, o', e', hnf⟩ := (fl3.2.2.1).mem hm
      rw [at3] at e'; cases e'
      exact hnf _ dt3
    have nL : a ≠ X.env.locals := fun z => noFr (List.mem_filterMap.mpr ⟨X.env, List.mem_cons_self, by rw [hf, z]⟩)
    have nF : a ∉ X.fs := fun hm => by
      obtain ⟨e, he, q⟩ := List.mem_filterMap.mp hm
      exact noFr (List.mem_filterMap.mpr ⟨e, List.mem_cons_of_mem _ he, q⟩)
    have newI : sI.heap.get? a = none := by
      cases z : sI.heap.get? a with
      | none => rfl
      | some o =>
        have z2 := nb a o z (by rw [hs]; exact noFr)
        rw [fl3.2.1] at z2
        cases z2
    have new0 : X.s_0.heap.get? a = none := by
      cases z : X.s_0.heap.get? a with
      | none => rfl
      | some o =>
        obtain ⟨o', z2⟩ := J.base.there a o z (by rw [hex]; simp)
        rw [newI] at z2
        cases z2
    have newP : ∀ p ∈ X.pn ++ pins, p.1 ≠ a := fun p hp z => by
      obtain ⟨z2, _⟩ := J.pin p hp
      rw [z, newI] at z2
      cases z2
    have S3 := J3.suite at3 dt3 na nL nF
    refine wpAny_handleBy_cons (codeAny_handlers_test ?_) (by intro z; cases z)
    have LT : PySem.W.Looks (model X.prog X.w) g3 (typeOf (.ref a)) cls := fun A Q E s kp z => wpAny_typeOf_ref (kp _ _ at3) (by rw [z3.1]; exact z)
    have LM := PySem.W.exm_one (M := model X.prog X.w) (J3.kIn) LT hq1
    have look : ∀ {Q : Value → Shared → Prop} {E : Value → Shared → Prop}, Q c { s' with heap := g3 } → wpAny (model X.prog X.w) (X.A.mark (some (.ref a))) (eval (.Name x np) X.env) Q E { s' with heap := g3 } := fun {Q E} z => by
      obtain ⟨hg, hdbg, hm | ⟨hm, hv, hnn⟩⟩ := hc
      · exact ld_glob (X := X.suite a ((a, o3) :: (X.pn ++ pins))) S3 hg hm z hdbg
      · exact ld_blt (X := X.suite a ((a, o3) :: (X.pn ++ pins))) S3 hg hm hv z hnn hdbg
    refine look (LM.here ?_)
    cases q with
    | true =>
      refine codeAny_handlers_suite_as ?_
      refine HandSPX.lands_againZ fl3 fun g4 fl4 up4 => ?_
      have J4 : Inv X pins σI HI { s' with heap := g4 } := J.landed nb fl4.1 ((up.trans up3).trans up4) os ag
      obtain ⟨o4, v4, at4, z4, dt4⟩ := fl4.there
      have S4 := J4.suite at4 dt4 na nL nF
      refine store_ok (X := X.suite a ((a, o4) :: (X.pn ++ pins))) (v := .ref a) S4 hN hi hloc rfl (fun s5 S5 => ?_) (.inr hln)
      have hil : i < σI.length := by rw [J.len]; exact (List.getElem?_eq_some_iff.mp hi).1
      have rd : PSs (X.suite a ((a, o4) :: (X.pn ++ pins))) [.Assign [.Name y yp] (.Name n mp) ap] (tAsg (tVar i) (gName j)) := pss_one (ps_set hN hj hly (pe_var hi (.inl hln) hd1 hd2) rfl hfy)
      refine wpAny_mono (rd.run [] s5 _ HI { nx := fun σ6 H6 => H6 = HI ∧ σ6 = (σI.set i (some (.ref a))).set j (some (.ref a)), rt := fun _ _ => False } S5 ⟨.ref a, List.getElem?_set_self hil, rfl, rfl⟩) (fun f s6 hsp => ?_) (fun _ _ z => z.elim)
      cases f with
      | next =>
        obtain ⟨σ6, H6, S6, rfl, rfl⟩ := hsp
        have P6 : Inv X ((a, o4) :: pins) ((σI.set i (some (.ref a))).set j (some (.ref a))) H6 s6 := ⟨ok, S6.os, S6.bare, S6.base, S6.loc, S6.cell, S6.free, S6.freeC, fun p hp => S6.pin p (by
          rw [List.append_nil]
          show p ∈ (a, o4) :: (X.pn ++ pins)
          rcases List.mem_append.mp hp with z | z
          · exact List.mem_cons_of_mem _ (List.mem_append_left _ z)
          · rcases List.mem_cons.mp z with z | z
            · rw [z]; exact List.mem_cons_self
            · exact List.mem_cons_of_mem _ (List.mem_append_right _ z)), S6.hok, S6.len⟩
        exact gone_ok P6 hN hi hln fun s7 P7 => ⟨_, _, inv_track P7 z4 dt4 new0 newP, yes rfl a na⟩
      | brk =>
        obtain ⟨σ6, H6, S6, q6⟩ := hsp
        exact q6.elim
      | cont =>
        obtain ⟨σ6, H6, S6, q6⟩ := hsp
        exact q6.elim
      | ret u =>
        obtain ⟨v6, σ6, H6, S6, r6, q6⟩ := hsp
        exact q6.elim
    | false =>
      show wpAny _ X.A (handleBy (.ref a) X.env []) _ _ _
      refine wpAny_handleBy_nil ?_
      obtain ⟨k1, k2, k3, oz, vz, T, oT, tz, hez, hzz, hdz, h1z, hrz⟩ := id fl3
      unfold PySem.passOn
      refine wpAny_bind (wpAny_field hez hdz h1z ?_)
      rw [if_neg (show ¬ ((Value.ref T == Value.none) = true) from by simp)]
      have fin : wpAny (model X.prog X.w) X.A (setFlight (.ref a) X.env.frame) (fun _ s4 => wpAny (model X.prog X.w) X.A (throw (.ref a) : Sem Flow) (SP X pins D) X.xe s4) X.xe { s' with heap := g3 } := by
        rw [hf]
        refine HandSPX.setFlight_upZ fl3 fun g4 hh4 up4 => wpAny_throw (tk _ _ ?_)
        exact ⟨a, B, sI, pins, σI, HI, cls, d, rfl, J, nb, (up.trans up3).trans up4, .inr (.inr (by rw [hs]; exact hh4)), na, os, ag, nay rfl⟩
      first
        | exact wpAny_bind (wpAny_pure (wpAny_bind fin))
        | exact wpAny_bind fin
  · cases f with
    | next =>
      obtain ⟨σe, He, Je, qe⟩ := hsp
      exact wpAny_execs_nil ⟨σe, He, Je.ofTry ok, qe⟩
    | brk =>
      obtain ⟨σe, He, Je, qe⟩ := hsp
      exact ⟨σe, He, Je.ofTry ok, qe⟩
    | cont =>
      obtain ⟨σe, He, Je, qe⟩ := hsp
      exact ⟨σe, He, Je.ofTry ok, qe⟩
    | ret u =>
      obtain ⟨ve, σe, He, Je, re, qe⟩ := hsp
      exact ⟨ve, σe, He, Je.ofTry ok, re, qe⟩
/-- a name goes -/
theorem Sto.gone {C : Cf} {A : Act} {ρ : Addr → Nat} {S : Hp} {Γ : Env} {σ : St} {H : Hp} (T : Sto C A ρ S Γ σ H) (i : Nat) : Sto C A ρ S (Γ.set i .non) (σ.set i none) H := by
  have jn : ∀ {j : Nat}, i ≠ j → (σ.set i none)[j]?.join = σ[j]?.join := fun {j} ne => by rw [List.getElem?_set, if_neg ne]
  have ow : ∀ j a, OwnAt (Γ.set i .non) (σ.set i none) j a → OwnAt Γ σ j a := fun j a ⟨s, e, hs, ho⟩ => by
    rcases get_set e with ⟨_, rfl, _⟩ | ⟨ne, e⟩
    · cases hs
    · rw [jn ne] at ho
      exact ⟨s, e, hs, ho⟩
  refine ⟨T.sub, by rw [List.length_set, List.length_set]; exact T.len, fun j s e => ?_, fun j k a ne hj hk => T.sep j k a ne (ow _ _ hj) (ow _ _ hk), T.frame, T.ext0, T.news, T.rho, T.old⟩
  rcases get_set e with ⟨_, rfl, _⟩ | ⟨ne, e⟩
  · trivial
  · rw [jn ne]
    exact T.slot j s e
def fTry (c0 i j : Nat) (fb : FS) (fx : FX) : FS := fun Γ => match fb Γ with
  | some r => some r
  | none => (match fx Γ with
    | some (x, Γ1) => if (x.1 == c0 || c0 == 0) = true then some (.nx, ((Γ1.set i (.sh (.exc x.1 x.2))).set j (.sh (.exc x.1 x.2))).set i .non) else none
    | none => none)
section
variable {C : Cf} {W : Wd} {N : List Str} {sc : Scope} {k : Nat} {e a b : Expr} {es : List Expr} {st : Stmt} {sts body : List Stmt} {p pos : Pos} {f g : FX}
theorem s_try (c0 i j : Nat) {x n y : Str} {np yp mp ap pos pos' : Pos} {fb : FS} {fx : FX} (I : IsiFact C W.K) (hc0 : c0 < C.xn) (hm : W.mg x = some (.ref (C.xat c0))) (hg : glB sc x = true) (hd : ndb x = true) (hi : N[i]? = some n) (hj : N[j]? = some y) (hln : sc.names.lookup n = some .local) (hly : locB sc y = true) (hdn : ndb n = true)
    (hb : XB C W N sc k body fb) (hx : RB C W N sc k body fx) : XS C W N sc k (.Try body [.ExceptHandler (some (.Name x np)) (some n) [.Assign [.Name y yp] (.Name n mp) ap] pos'] [] [] pos) (fTry c0 i j fb fx) := by
  obtain ⟨t, hp, l⟩ := hb
  obtain ⟨tb, hq, m⟩ := hx
  have hd := Bool.and_eq_true_iff.mp hd
  have hdn := Bool.and_eq_true_iff.mp hdn
  refine ⟨fun D σ H => t D σ H ∨ tb (wKeep W.K (.ref (C.xat c0)) i j (fun _ _ _ _ => False) D) D σ H, fun X F => PS_or (ps_try_thru0 (hp _ ?_)) ?_, fun A ρ S Γ σ H D fl Γ' T hf hW => ?_⟩
  · exact ⟨⟨F.fit.pr, F.fit.wo, F.fit.kk, F.fit.mg, F.fit.ba, F.fit.nn, F.fit.nd, F.fit.calm, F.fit.room, F.fit.vis, F.fit.loc, F.fit.cf, F.fit.gl⟩, F.sce, F.kind, rfl, F.st, F.fr, F.ex⟩
  · rw [← F.fit.kk]
    have s := Fit.store (W := W) (k := k) hj hly
    refine ps_tryK F.st F.fr F.ex (by rw [F.fit.nn]; exact F.fit.nd) (by rw [F.fit.nn]; exact hi) (by rw [F.fit.nn]; exact hj) (by show X.env.scope.names.lookup n = _; rw [F.sce]; exact hln) (s.hx X F.fit) (s.hf X F.fit) (by simpa using hdn.1) (by simpa using hdn.2) ⟨F.fit.gl x hg, by simpa using hd.1, .inl (by rw [F.fit.mg]; exact hm)⟩ takes0 fun Wx pn xe K po => ?_
    exact hq Wx _ ⟨⟨F.fit.pr, F.fit.wo, F.fit.kk, F.fit.mg, F.fit.ba, F.fit.nn, F.fit.nd, F.fit.calm, F.fit.room, F.fit.vis, F.fit.loc, F.fit.cf, F.fit.gl⟩, F.sce, F.kind, F.st, F.fr, F.ex, po⟩ K
  · unfold fTry at hf
    split at hf
    · rename_i r e1
      cases hf
      exact .inl (l A ρ S Γ σ H D fl Γ' T e1 hW)
    · split at hf
      · rename_i x' Γ1 e1
        split at hf
        · rename_i hm
          cases hf
          refine .inr (m _ A ρ S Γ σ H D x' Γ1 T e1 fun σ1 ρ1 S1 H1 d E1 T1 q => ?_)
          refine ⟨true, by rw [I.xm c0 x'.1 hc0 q.1, hm], fun _ a ha => ?_, fun z => by cases z⟩
          obtain ⟨T2, E2, sp, h02, hn⟩ := T1.lay ha (exv a (.ref (C.xat x'.1)) d) 0
          obtain ⟨T3, E3⟩ := T2.pub upd_same sp (.inl h02) hn
          have q3 := (q.mono E2).mono E3
          obtain ⟨hc, vs, hl, hdd, r⟩ := q3
          have den : Den C (tagAt ρ1 a 0) (upd S1 a (exv a (.ref (C.xat x'.1)) d)) (.exc x'.1 x'.2) (.ref a) := by
            unfold Den
            exact ⟨hc, a, d, vs, rfl, upd_same, hl, hdd, r⟩
          have T4 := (T3.assign (ResOk.sh den) i).assign (ResOk.sh den) j
          exact hW _ _ _ _ ((E1.trans E2).trans E3) (T4.gone i)
        · cases hf
      · cases hf
/-! ### x.f of an error -/
/-! ### C(e, ..) where an argument raises -/
end
end Ev

set_option Elab.async false
set_option linter.all false
set_option maxRecDepth 100000
set_option maxHeartbeats 4000000
namespace Ev
open PySem L2
/-! ### error classes, by the head's facts -/
theorem oexB_ok {K : PySem.W.Frag} {C : Addr} (h : oexB K C = true) : ∃ nm q N bs bm sn sub ab col dd k0 k1 k2 k3 k5, K.lookup C = some (excClassObj nm q C N bs bm true sn sub ab col dd k0 k1 k2 k3 k5 "ValueError.__new__") ∧ PySem.HandSPX.refsVE bm = true := by
  unfold oexB at h
  split at h
  · rename_i dd cd sl ho
    split at h
    · rename_i C' up k0 k1 k2 k3 nw k5 hm hs
      obtain ⟨h1, h⟩ := He.ba h
      obtain ⟨h2, h⟩ := He.ba h
      obtain ⟨h3, h⟩ := He.ba h
      obtain ⟨h4, h5⟩ := He.ba h
      obtain ⟨nm, bs, mro, ns, qn, hd, sn, sub, ab, col, del⟩ := cd
      dsimp only at hm h3 h4
      have e1 : C' = C := beq_iff_eq.mp h1
      have e2 : nw = "ValueError.__new__" := beq_iff_eq.mp h2
      subst e1 e2 hm
      have hsl : sl = #[k0, k1, k2, k3, some (.builtin "ValueError.__new__"), k5] := by
        obtain ⟨l⟩ := sl
        simp only at hs
        rw [hs]
      subst hsl
      have hde : del = false := by cases del <;> simp_all
      subst hde
      subst h4
      exact ⟨nm, qn, ns, bs, up, sn, sub, ab, col, dd, k0, k1, k2, k3, k5, ho, h5⟩
    · cases h
  · cases h
section
variable {P : Program} {w : World} {K : PySem.W.Frag} {mg : Str → Option Value} {base : Heap} {cs xs : List (Str × List Str)} {ds : List Str} {ix : List (Str × Str)}
theorem xbase_of (h : xt cs ds ix xs K = true) {t : Str} (ht : (xs.map (·.1)).getD 0 Str.empty = t) (hne : xs.isEmpty = false) (hm : mg t = some (.ref (He.ga K t))) : XBase ⟨P, w, K, mg, base⟩ t (He.ga K t) (.type "type") := by
  obtain ⟨_, h⟩ := He.ba h
  obtain ⟨_, h⟩ := He.ba h
  obtain ⟨_, h⟩ := He.ba h
  obtain ⟨_, h⟩ := He.ba h
  obtain ⟨_, h⟩ := He.ba h
  obtain ⟨_, h⟩ := He.ba h
  obtain ⟨_, h⟩ := He.ba h
  obtain ⟨_, h⟩ := He.ba h
  rw [hne, Bool.false_or, ht] at h
  obtain ⟨h1, h⟩ := He.ba h
  obtain ⟨h2, h3⟩ := He.ba h
  refine ⟨hm, He.eqO_ok h1, h2, ?_⟩
  split at h3
  · rename_i n e
    rw [e, beq_iff_eq.mp h3]
  · cases h3
theorem xcls_of (h : xt cs ds ix xs K = true) {x fld : Str} {c j : Nat} {f : Addr} {fd : FuncData} (hx : xs[c]? = some (x, [fld])) (hm : mg x = some (.ref (He.ga K x))) (M : Meth K (He.ga K x) "__init__" f) (F : FnOk P w K mg base (L2.CX P w) j f fd ["self", fld] (spX K fld)) (B : Binds K fd ["self", fld] []) : XCls (cfOf K cs xs) ⟨P, w, K, mg, base⟩ x c fld j := by
  obtain ⟨_, h⟩ := He.ba h
  obtain ⟨_, h⟩ := He.ba h
  obtain ⟨_, h⟩ := He.ba h
  obtain ⟨_, h⟩ := He.ba h
  obtain ⟨_, h⟩ := He.ba h
  obtain ⟨hA, _⟩ := He.ba h
  have q := List.all_eq_true.mp hA _ (List.mem_of_getElem? hx)
  obtain ⟨q1, q2, q3, q4⟩ := xcs_mid q
  have q5 := (exc_of q).hs
  have q6 := (xcs_tail q).1 fld (by simp)
  have hl : c < xs.length := (List.getElem?_eq_some_iff.mp hx).1
  have ea : (cfOf K cs xs).xat c = He.ga K x := by
    show He.ga K ((xs.map (·.1)).getD c Str.empty) = _
    rw [List.getD_eq_getElem?_getD, List.getElem?_map, hx]
    rfl
  have ef : (cfOf K cs xs).xfs c = [fld] := by
    show (xs.map (·.2)).getD c [] = _
    rw [List.getD_eq_getElem?_getD, List.getElem?_map, hx]
    rfl
  refine ⟨hl, ef, by rw [ea]; exact hm, by rw [ea]; exact ⟨oexB_ok q1, q2, q5, q3, q4⟩, by rw [ea]; exact q6, f, fd, by rw [ea]; exact M.at_, beq_iff_eq.mp M.fn, F, B⟩
theorem binds_d {x qual : Str} {params : Arguments} {body : List Stmt} {scope : Scope} {f : Addr} {fd : FuncData} {ps : List Str} (F : FunD K x qual params body scope [.non] [] f fd) (n : Nat) (hn : n = ps.length)
    (h : ∀ (T : Addr) (kV doc pm : Value) (an : Option Addr) (cdv ct : Value) (us its : List Value), us.length = n → its.length = 1 → ∃ k, bindArgs (PySem.W.fnOf x qual params body scope (.ref T) kV doc pm an cdv ct) ⟨us, []⟩ = seqItems? (.ref T) >>= k ∧ k (some its.toArray) = pure (ps.zip (us ++ its.drop 1))) : Binds K fd ps [] := by
  obtain ⟨dz, r, b⟩ := F.binds1 n 1 (by simp) (by simpa using hn) h
  cases r
  exact b
end
end Ev

set_option Elab.async false
set_option linter.all false
set_option maxRecDepth 100000
set_option maxHeartbeats 4000000
namespace Ev
open PySem L2
/-! ### what raises has no other end -/
def ExD (f : FD) (x : FX) : Prop := ∀ Γ r, x Γ = some r → f Γ = none
def ExE (f : FE) (x : FX) : Prop := ∀ Γ r, x Γ = some r → f Γ = none
def ExL (f : FL) (x : FX) : Prop := ∀ Γ r, x Γ = some r → f Γ = none
def ExS (f : FS) (x : FX) : Prop := ∀ Γ r, x Γ = some r → f Γ = none
def ExF (F : FF) (Fx : FFX) : Prop := ∀ g a x, Fx g a = some x → F g a = none
section
variable {f g : FS} {x y : FX} {fe : FE} {fd gd : FD} {fl gl : FL} {F : FF} {Fx : FFX}
theorem exE_d (h : ExE fe x) : ExD (FE.d fe) x := fun Γ r q => by unfold FE.d; rw [h Γ r q]
theorem exS_set {i : Nat} (h : ExE fe x) : ExS (fSet i fe) x := fun Γ r q => by unfold fSet; rw [h Γ r q]
theorem exS_expr (h : ExD fd x) : ExS (fExpr fd) x := fun Γ r q => by unfold fExpr; rw [h Γ r q]
theorem exS_ret (h : ExE fe x) : ExS (fRet fe) x := fun Γ r q => by unfold fRet; rw [h Γ r q]
theorem exS_no : ExS f xNo := fun Γ r q => by cases q
theorem exS_raise : ExS fNo x := fun Γ r q => rfl
theorem exS_if {c : FT} (h : ExS f x) (k : ExS g y) : ExS (fIf c f g) (xIf c x y) := fun Γ r q => by
  unfold xIf at q
  unfold fIf
  cases e : c Γ with
  | none => rfl
  | some p =>
    obtain ⟨b, Γ1⟩ := p
    rw [e] at q
    cases b with
    | true => exact h _ _ q
    | false => exact k _ _ q
theorem exS_hd (h : ExS f x) : ExS (fThen f g) x := fun Γ r q => by unfold fThen; rw [h Γ r q]
theorem exS_tl (h : ExS g y) : ExS (fThen f g) (xTl f y) := fun Γ r q => by
  unfold xTl at q
  unfold fThen
  split at q
  · rename_i Γ1 e; rw [e]; exact h _ _ q
  · cases q
theorem exS_alt (h : ExS f x) (k : ExS f y) : ExS f (xAlt x y) := fun Γ r q => (xAlt_some q).elim (h Γ r) fun z => k Γ r z.2
theorem exS_for {it : FL} {tg : FG} (h : ExS f x) : ExS (fFor it tg f) (xFor it tg f x) := fun Γ r q => by
  unfold xFor at q
  unfold fFor
  cases e : it Γ with
  | none => rfl
  | some p =>
    obtain ⟨ds, Γ1⟩ := p
    rw [e] at q
    have q : forX tg f x ds Γ1 = some r := q
    show forRun tg f ds Γ1 = none
    revert Γ1
    suffices ∀ (ds : List D) (Γ1 : Env), forX tg f x ds Γ1 = some r → forRun tg f ds Γ1 = none from fun Γ1 _ _ q => this ds Γ1 q
    intro ds
    induction ds with
    | nil => intro Γ1 q; cases q
    | cons d ds ih =>
      intro Γ1 q
      unfold forX at q
      unfold forRun
      cases e2 : tg d Γ1 with
      | none => rfl
      | some Γ2 =>
        simp only [e2] at q
        show (match f Γ2 with | none => none | some (.nx, Γ2) => forRun tg f ds Γ2 | some (.ret s, Γ2) => some (.ret s, Γ2)) = none
        cases e3 : x Γ2 with
        | some z => rw [h Γ2 z e3]
        | none =>
          simp only [e3] at q
          cases e4 : f Γ2 with
          | none => rfl
          | some p =>
            obtain ⟨fl, Γ3⟩ := p
            simp only [e4] at q
            cases fl with
            | nx => exact ih Γ3 q
            | ret s => cases q
theorem exL_hd (h : ExD fd x) : ExL (fCons fd gl) x := fun Γ r q => by unfold fCons; rw [h Γ r q]
theorem exE_call {n g0 : Nat} (h : ExF F Fx) : ExE (fCall n F g0 fl) (xCall n Fx g0 fl) := fun Γ r q => by
  obtain ⟨z, Γ'⟩ := r
  obtain ⟨ds, e1, hl, e2⟩ := xCall_some q
  unfold fCall
  rw [e1]
  simp only [if_pos hl, h _ _ _ e2]
theorem exE_callA {n g0 : Nat} (h : ExL fl x) : ExE (fCall n F g0 fl) x := fun Γ r q => by unfold fCall; rw [h Γ r q]
theorem exF_run {m : Nat} {fb : Nat → FS} {xb : Nat → FX} (h : ∀ g, ExS (fb g) (xb g)) : ExF (fun g a => runF m (fb g) a) (fun g a => runX m (xb g) a) := fun g a x q => by
  have q : runX m (xb g) a = some x := q
  show runF m (fb g) a = none
  unfold runX at q
  unfold runF
  split at q
  · rename_i z Γ' e
    rw [h g _ _ e]
  · cases q
/-! big steps -/
theorem r_tryX {c0 i j : Nat} {Γ Γ1 Γ2 : Env} {z : Xo} (E : ExS f x) (h : x Γ = some (z, Γ1)) (hc : (z.1 == c0 || c0 == 0) = true) (l : ((Γ1.set i (.sh (.exc z.1 z.2))).set j (.sh (.exc z.1 z.2))).set i .non = Γ2) : fTry c0 i j f x Γ = some (.nx, Γ2) := by
  unfold fTry
  rw [E _ _ h]
  simp only [h, if_pos hc, l]
theorem x_runX {m : Nat} {b : FX} {args : List D} {z : Xo} {Γ' : Env} (h : b (envOf m (args.map .sh)) = some (z, Γ')) : runX m b args = some z := by unfold runX; rw [h]
theorem x_altL {Γ : Env} {r : Xo × Env} (h : x Γ = some r) : xAlt x y Γ = some r := by unfold xAlt; rw [h]
theorem x_tl {Γ Γ1 : Env} {r : Option (Xo × Env)} (h : f Γ = some (.nx, Γ1)) (k : x Γ1 = r) : xTl f x Γ = r := by unfold xTl; rw [h]; exact k
theorem x_raise {c : Nat} {Γ Γ1 : Env} {d : D} (h : fd Γ = some (d, Γ1)) : xRaise c fd Γ = some ((c, [d]), Γ1) := by unfold xRaise; rw [h]
theorem x_callS {n g0 : Nat} {Γ Γ1 : Env} {ds : List D} {z : Xo} (h : fl Γ = some (ds, Γ1)) (hl : ds.length = n) (k : Fx g0 ds = some z) : xCall n Fx g0 fl Γ = some (z, Γ1) := by
  unfold xCall
  rw [h]
  simp only [if_pos hl, k]
theorem exS_none {Γ : Env} {r : Fl × Env} (E : ExS f x) (h : f Γ = some r) : x Γ = none := by
  cases e : x Γ with
  | none => rfl
  | some z => rw [E Γ z e] at h; cases h
theorem x_altTl {Γ Γ1 : Env} {r : Option (Xo × Env)} (E : ExS f x) (h : f Γ = some (.nx, Γ1)) (k : y Γ1 = r) : xAlt x (xTl f y) Γ = r := by
  unfold xAlt
  rw [exS_none E h]
  exact x_tl h k
end
end Ev

set_option Elab.async false
set_option linter.all false
set_option maxRecDepth 100000
set_option maxHeartbeats 4000000
namespace Ev
open PySem L2
/-! ### a call with keywords alone -/
def pick {α : Type} (pm : List Nat) (ws : List α) : List α := pm.filterMap fun i => ws[i]?
theorem vals_get {vs : List V} {us : List Value} (h : Vals vs us) : ∀ i : Nat, (vs[i]? = none ∧ us[i]? = none) ∨ ∃ v u, vs[i]? = some v ∧ us[i]? = some u ∧ RelV v u := by
  induction h with
  | nil => exact fun i => .inl ⟨by simp, by simp⟩
  | cons r _ ih => exact fun i => match i with
    | 0 => .inr ⟨_, _, rfl, rfl, r⟩
    | i + 1 => by simpa using ih i
theorem vals_pick {vs : List V} {us : List Value} (h : Vals vs us) : ∀ pm : List Nat, Vals (pick pm vs) (pick pm us)
  | [] => .nil
  | i :: pm => by
    have ih := vals_pick h pm
    unfold pick at ih ⊢
    rw [List.filterMap_cons, List.filterMap_cons]
    rcases vals_get h i with ⟨a, b⟩ | ⟨v, u, a, b, r⟩
    · rw [a, b]; exact ih
    · rw [a, b]; exact .cons r ih
theorem den_pick {C : Cf} {ρ : Addr → Nat} {S : Hp} {ds : List D} {vs : List V} (h : DenL C ρ S ds vs) : ∀ pm : List Nat, DenL C ρ S (pick pm ds) (pick pm vs)
  | [] => denL_nil.mpr rfl
  | i :: pm => by
    have ih := den_pick h pm
    unfold pick at ih ⊢
    rw [List.filterMap_cons, List.filterMap_cons]
    cases e : ds[i]? with
    | none =>
      have e2 : vs[i]? = none := by
        cases e3 : vs[i]? with
        | none => rfl
        | some v =>
          obtain ⟨d, q, _⟩ := h.getV i e3
          rw [e] at q
          cases q
      rw [e2]
      exact ih
    | some d =>
      obtain ⟨v, e2, k⟩ := h.get i e
      rw [e2]
      exact denL_cons.mpr ⟨k, ih⟩
structure DefK (W : Wd) (x : Str) (k : Nat) (sp : Sp) (ks : List Str) (pm : List Nat) : Prop where
  ex : ∃ (f : Addr) (fd : FuncData) (ps : List Str), FnOk W.P W.w W.K W.mg W.base (L2.CX W.P W.w) k f fd ps sp ∧ W.mg x = some (.ref f) ∧ PySem.W.keepIn W.K (.ref f) = true ∧ ∀ (s : Shared) (ws : List Value), ws.length = ks.length → BindsTo s fd ⟨[], ks.zip ws⟩ (ps.zip (pick pm ws))
abbrev BindK (x qual : Str) (params : Arguments) (body : List Stmt) (scope : Scope) (ps ks : List Str) (pm : List Nat) : Prop := ∀ (kV doc pm' : Value) (an : Option Addr) (cdv ct : Value) (ws : List Value), ws.length = ks.length → bindArgs (PySem.W.fnOf x qual params body scope .none kV doc pm' an cdv ct) ⟨[], ks.zip ws⟩ = pure (ps.zip (pick pm ws))
theorem def_K {W : Wd} {x : Str} {k : Nat} {sp : Sp} {ks ps : List Str} {pm : List Nat} {params : Arguments} {body : List Stmt} {scope : Scope} {f : Addr} {fd : FuncData} (D : FunD W.K x x params body scope [] [] f fd) (F : FnOk W.P W.w W.K W.mg W.base (L2.CX W.P W.w) k f fd ps sp) (hm : W.mg x = some (.ref f)) (hB : BindK x x params body scope ps ks pm) : DefK W x k sp ks pm := by
  refine ⟨⟨f, fd, ps, F, hm, D.kp, ?_⟩⟩
  obtain ⟨oc, od, dV, kV, doc, pm', an, cdv, ct, osl, rfl, lk, hcd, hD, hK⟩ := D.ex
  rcases hD with ⟨_, rfl⟩ | ⟨e, _⟩
  · exact fun s ws hl => .of_eq (hB kV doc pm' an cdv ct ws hl)
  · exact absurd rfl e
theorem DefK.nrm {C : Cf} {W : Wd} {x : Str} {j n : Nat} {F : FF} {Fx : FFX} {ks : List Str} {pm : List Nat} (d : DefK W x j (spFX C n F Fx) ks pm) : DefK W x j (spF C n F) ks pm := by
  obtain ⟨⟨f, fd, ps, h1, h2, h3, h4⟩⟩ := d
  exact ⟨⟨f, fd, ps, h1.imp fun _ _ _ _ h => .inl h, h2, h3, h4⟩⟩
/-- the keywords' values -/
def OkK (C : Cf) (P : Cx → Prop) (kws : List Keyword) (f : FL) : Prop := ∃ t : TA, (∀ X, P X → PK X kws t) ∧ ∀ (A : Act) (ρ : Addr → Nat) (S : Hp) (Γ : Env) (σ : St) (H : Hp) (Q : List V → Hp → Prop) (ds : List D) (Γ' : Env), Sto C A ρ S Γ σ H → f Γ = some (ds, Γ') →
  (∀ vs ρ' S' H', Ext ρ S ρ' S' → Sto C A ρ' S' Γ' σ H' → DenL C ρ' S' ds vs → Q vs H') → t σ H Q
section
variable {C : Cf} {W : Wd} {N : List Str} {sc : Scope} {k : Nat} {e : Expr} {kws : List Keyword} {p pos kpos : Pos} {x : Str} {nm : Option Str}
theorem k_nil : OkK C (Fit W N sc k) [] fNil := ⟨_, fun X hX => pk_nil, fun A ρ S Γ σ H Q ds Γ' T hf hq => by cases hf; exact hq [] ρ S H Ext.refl T (denL_nil.mpr rfl)⟩
theorem k_cons {f : FD} {g : FL} (h : XD C W N sc k e f) (hr : OkK C (Fit W N sc k) kws g) : OkK C (Fit W N sc k) (⟨nm, e, kpos⟩ :: kws) (fCons f g) := by
  obtain ⟨t, hp, l1⟩ := h
  obtain ⟨u, hq, l⟩ := hr
  refine ⟨_, fun X hX => pk_cons (hp X hX) (hq X hX), fun A ρ S Γ σ H Q ds Γ' T hf hQ => ?_⟩
  obtain ⟨d, r, Γ1, rfl, h1, h2⟩ := fCons_some hf
  refine l1 A ρ S Γ σ H _ d Γ1 T h1 fun v ρ1 S1 H1 E1 T1 d1 => ?_
  refine l A ρ1 S1 Γ1 σ H1 _ r Γ' T1 h2 fun vs ρ2 S2 H2 E2 T2 d2 => ?_
  exact hQ (v :: vs) ρ2 S2 H2 (E1.trans E2) T2 (denL_cons.mpr ⟨d1.mono E2, d2⟩)
def tCallKS (sp : Sp) (n : Nat) (pm : List Nat) (E : St → XK) (t : TA) : TE := fun σ H Q => t σ H fun vs H1 => vs.length = n ∧ sp (pick pm vs) H1 Q (E σ)
def kwN : List Keyword → Option (List Str)
  | [] => some []
  | ⟨some x, _, _⟩ :: r => (kwN r).map (x :: ·)
  | _ => none
theorem kw_facts {env : PySem.Env} : ∀ {kws : List Keyword} {ks : List Str}, kwN kws = some ks → (backToKw pos (keywordEach kws env)).all (·.1.isSome) = true ∧ (backToKw pos (keywordEach kws env)).filterMap (·.1) = ks ∧ (backToKw pos (keywordEach kws env)).any (·.1.isNone) = false
  | [], _, h => by cases h; exact ⟨rfl, rfl, rfl⟩
  | ⟨none, _, _⟩ :: r, _, h => by cases h
  | ⟨some x, v, kp⟩ :: r, _, h => by
    unfold kwN at h
    cases e : kwN r with
    | none => rw [e] at h; cases h
    | some l =>
      rw [e] at h
      cases h
      obtain ⟨a, b, c⟩ := kw_facts e
      refine ⟨?_, ?_, ?_⟩
      · show (true && (backToKw pos (keywordEach r env)).all (·.1.isSome)) = true
        rw [a]; rfl
      · show x :: (backToKw pos (keywordEach r env)).filterMap (·.1) = _
        rw [b]
      · show (false || (backToKw pos (keywordEach r env)).any (·.1.isNone)) = false
        rw [c]; rfl
theorem pe_callKS {X : Cx} {CX : CXT} {j : Nat} {f : Addr} {fd : FuncData} {ps ks : List Str} {pm : List Nat} {sp : Sp} {E : St → XK} {t : TA} (F : FnOk X.prog X.w X.K X.mg X.base CX j f fd ps sp) (hr : Room j X.A) (hg : Gl X x) (hm : X.mg x = some (.ref f)) (hk : PySem.W.keepIn X.K (.ref f) = true)
    (hb : ∀ (s : Shared) (ws : List Value), ws.length = ks.length → BindsTo s fd ⟨[], ks.zip ws⟩ (ps.zip (pick pm ws))) (hx : ∀ σ, PassesAt CX X σ (E σ)) (ha : PK X kws t) (hn : kwN kws = some ks) (hdb : (x == ("__debug__" : Str)) = false) :
    PE X (.Call (.Name x p) [] kws pos) (tCallKS sp ks.length pm E t) := by
  refine ⟨fun pins s σ H Q I h => ?_⟩
  obtain ⟨k1, k2, k3⟩ := kw_facts (pos := pos) (env := X.env) hn
  refine wpAny_Call_Name_kw (ld_glob I hg hm ?_ hdb)
  refine PySem.W.callWith_KW0 (h₀ := X.base) I.ok.mod.kin hk k1 (thn (ha.run pos pins s σ H _ I h) fun ws s1 ⟨vs, H1, I1, r, hl, q⟩ => ⟨I1.kIn, ?_⟩) (by rw [k3]; rfl)
  rw [k2]
  refine wpAny_call (codeAny_mono (F.run X.A X.stack s1 H1 ⟨[], ks.zip ws⟩ (pick pm ws) (pick pm vs) Q (E σ) hr I1.env0 (hb s1 ws (by rw [← r.length]; exact hl)) (vals_pick r pm) q) fun r s' hq => ?_)
  cases r with
  | error e => exact hx σ pins H1 s1 e s' I1 hq
  | ok fl =>
    cases fl with
    | ret u => exact I1.after hq
    | next => exact False.elim hq
    | brk => exact False.elim hq
    | cont => exact False.elim hq
def fPick (n : Nat) (pm : List Nat) (fa : FL) : FL := fun Γ => match fa Γ with
  | some (ds, Γ1) => if ds.length = n then some (pick pm ds, Γ1) else none
  | none => none
theorem fPick_some {n : Nat} {pm : List Nat} {fa : FL} {Γ Γ' : Env} {es : List D} (h : fPick n pm fa Γ = some (es, Γ')) : ∃ ds, fa Γ = some (ds, Γ') ∧ ds.length = n ∧ es = pick pm ds := by
  unfold fPick at h
  split at h
  · rename_i ds Γ1 e1
    split at h
    · rename_i hl
      cases h
      exact ⟨ds, e1, hl, rfl⟩
    · cases h
  · cases h
theorem x_callK (g : Nat) {j n m : Nat} {F : FF} {ks : List Str} {pm : List Nat} {fa : FL} (d : DefK W x j (spF C n F) ks pm) (hj : j ≤ k) (hg : glB sc x = true) (hd : ndb x = true) (hn : kwN kws = some ks) (hm : ks.length = m) (ha : OkK C (Fit W N sc k) kws fa) :
    XE C W N sc k (.Call (.Name x p) [] kws pos) (fCall n F g (fPick m pm fa)) := by
  obtain ⟨t, hp, l⟩ := ha
  obtain ⟨f, fd, ps, h1, h2, h3, h4⟩ := d.ex
  have hd := Bool.and_eq_true_iff.mp hd
  refine ⟨tCallKS (spF C n F) ks.length pm (fun _ => E0) t, fun X hX => ?_, fun A ρ S Γ σ H Q s Γ' T hf hQ => ?_⟩
  · exact pe_callKS (by rw [hX.pr, hX.wo, hX.kk, hX.mg, hX.ba]; exact h1) (hX.room.mono hj) (hX.gl x hg) (by rw [hX.mg]; exact h2) (by rw [hX.kk]; exact h3) h4 (fun σ pins H s e s' I q => by
      have := passL (X := X) pins σ H s e s' I (by rw [hX.pr, hX.wo]; exact q)
      exact this) (hp X hX) hn (by simpa using hd.1)
  · obtain ⟨es, e1, hl, e2⟩ := fCall_some hf
    obtain ⟨ds, e3, hl2, rfl⟩ := fPick_some e1
    refine l A ρ S Γ σ H _ ds Γ' T e3 fun vs ρ1 S1 H1 E1 T1 d1 => ⟨by rw [d1.length, hl2, hm], ?_⟩
    have d2 := den_pick d1 pm
    exact ⟨by rw [d2.length]; exact hl, ρ1, S1, g, pick pm ds, s, d2, T1.sub, e2, fun v ρ2 S2 H2 p r => hQ v ρ2 S2 H2 (E1.trans p.ext) (T1.call p) (r.toRes T1 fun i a q => ⟨i, q⟩)⟩
theorem re_callK (g : Nat) {j n m : Nat} {F : FF} {Fx : FFX} {ks : List Str} {pm : List Nat} {fa : FL} (d : DefK W x j (spFX C n F Fx) ks pm) (hj : j ≤ k) (hg : glB sc x = true) (hd : ndb x = true) (hn : kwN kws = some ks) (hm : ks.length = m) (ha : OkK C (Fit W N sc k) kws fa) :
    RE C W N sc k (.Call (.Name x p) [] kws pos) (xCall n Fx g (fPick m pm fa)) := by
  obtain ⟨t, hp, l⟩ := ha
  obtain ⟨f, fd, ps, h1, h2, h3, h4⟩ := d.ex
  have hd := Bool.and_eq_true_iff.mp hd
  refine ⟨fun Wx => tCallKS (spFX C n F Fx) ks.length pm (WE Wx) t, fun Wx X FX K => ?_, fun Wx A ρ S Γ σ H Q x Γ' T hf hW => ?_⟩
  · have hX := FX.fit
    exact pe_callKS (by rw [hX.pr, hX.wo, hX.kk, hX.mg, hX.ba]; exact h1) (hX.room.mono hj) (hX.gl _ hg) (by rw [hX.mg]; exact h2) (by rw [hX.kk]; exact h3) h4 (fun σ => by
      have := passAt K σ
      rw [hX.pr, hX.wo] at this
      exact this) (hp X hX) hn (by simpa using hd.1)
  · obtain ⟨es, e1, hl, e2⟩ := xCall_some hf
    obtain ⟨ds, e3, hl2, rfl⟩ := fPick_some e1
    refine l A ρ S Γ σ H _ ds Γ' T e3 fun vs ρ1 S1 H1 E1 T1 d1 => ⟨by rw [d1.length, hl2, hm], ?_⟩
    have d2 := den_pick d1 pm
    exact .inr ⟨by rw [d2.length]; exact hl, ρ1, S1, g, pick pm ds, x, d2, T1.sub, e2, fun ρ2 S2 H2 d p q => hW σ ρ2 S2 H2 d (E1.trans p.ext) (T1.call p) q⟩
end
end Ev

set_option Elab.async false
set_option linter.all false
set_option maxRecDepth 100000
set_option maxHeartbeats 1000000
namespace Ev
open PySem L2
/-! ### big steps -/
def thenC : Fl → FS → Env → Option (Fl × Env)
  | .nx, g, Γ => g Γ
  | .ret s, _, Γ => some (.ret s, Γ)
def ifC {α : Type} (b : Bool) (x y : α) : α := match b with | true => x | false => y
section
variable {Γ Γ1 Γ2 Γ3 : Env} {i j n : Nat} {s s' : Sl} {d e x y z : D} {b c : Bool} {ds : List D} {lo hi : Option Int}
theorem c_nx {g : FS} {r : Option (Fl × Env)} (k : g Γ = r) : thenC .nx g Γ = r := k
theorem c_ret {g : FS} : thenC (.ret s) g Γ = some (.ret s, Γ) := rfl
theorem c_t {α : Type} {u v r : α} (hb : b = true) (k : u = r) : ifC b u v = r := by subst hb; exact k
theorem c_f {α : Type} {u v r : α} (hb : b = false) (k : v = r) : ifC b u v = r := by subst hb; exact k
theorem r_then {f g : FS} {fl : Fl} {r : Option (Fl × Env)} (h : f Γ = some (fl, Γ1)) (k : thenC fl g Γ1 = r) : fThen f g Γ = r := by
  unfold fThen; rw [h]; subst k; cases fl <;> rfl
theorem r_skip : fSkip Γ = some (.nx, Γ) := rfl
theorem r_ret {f : FE} (h : f Γ = some (s, Γ1)) : fRet f Γ = some (.ret s, Γ1) := by unfold fRet; rw [h]
theorem r_if {c : FT} {f g : FS} {r : Option (Fl × Env)} (h : c Γ = some (b, Γ1)) (k : ifC b (f Γ1) (g Γ1) = r) : fIf c f g Γ = r := by
  unfold fIf; rw [h]; subst k; cases b <;> rfl
theorem r_ite {c : FT} {f g : FE} {r : Option (Sl × Env)} (h : c Γ = some (b, Γ1)) (k : ifC b (f Γ1) (g Γ1) = r) : fIte c f g Γ = r := by
  unfold fIte; rw [h]; subst k; cases b <;> rfl
theorem r_and {f g : FT} {r : Option (Bool × Env)} (h : f Γ = some (b, Γ1)) (k : ifC b (g Γ1) (some (false, Γ1)) = r) : fAnd f g Γ = r := by
  unfold fAnd; rw [h]; subst k; cases b <;> rfl
theorem r_or {f g : FT} {r : Option (Bool × Env)} (h : f Γ = some (b, Γ1)) (k : ifC b (some (true, Γ1)) (g Γ1) = r) : fOr f g Γ = r := by
  unfold fOr; rw [h]; subst k; cases b <;> rfl
theorem r_not {f : FT} (h : f Γ = some (b, Γ1)) (k : (!b) = c) : fNot f Γ = some (c, Γ1) := by unfold fNot; rw [h, ← k]
theorem r_andV {f g : FD} {r : Option (D × Env)} (h : f Γ = some (.bl b, Γ1)) (k : ifC b (g Γ1) (some (.bl false, Γ1)) = r) : fAndV f g Γ = r := by
  unfold fAndV; rw [h]; subst k; cases b <;> rfl
theorem r_orV {f g : FD} {r : Option (D × Env)} (h : f Γ = some (.bl b, Γ1)) (k : ifC b (some (.bl true, Γ1)) (g Γ1) = r) : fOrV f g Γ = r := by
  unfold fOrV; rw [h]; subst k; cases b <;> rfl
theorem c_both {g : FD} (h : g Γ = some (.bl c, Γ)) : ifC b (g Γ) (some (.bl false, Γ)) = some (.bl (b && c), Γ) := by rw [h]; cases b <;> rfl
theorem r_d {f : FE} (h : f Γ = some (s, Γ1)) (k : s.toD = some d) : FE.d f Γ = some (d, Γ1) := by unfold FE.d; rw [h]; simp only [k]
theorem r_toE {f : FD} (h : f Γ = some (d, Γ1)) : FD.toE f Γ = some (.sh d, Γ1) := by unfold FD.toE; rw [h]
theorem r_t {f : FD} (h : f Γ = some (.bl b, Γ1)) : FD.t f Γ = some (b, Γ1) := by unfold FD.t; rw [h]
theorem r_lit : fLit d Γ = some (d, Γ) := rfl
theorem r_var (h : Γ[i]? = some s) (k : s.toD = some d) (l : Γ.set i (.sh d) = Γ1) : fVar i Γ = some (d, Γ1) := by unfold fVar; rw [h]; simp only [k, l]
theorem r_see (h : Γ[i]? = some s) (k : s.see = some d) : fSee i Γ = some (d, Γ) := by unfold fSee; rw [h]; simp only [k]
theorem r_move_sh (h : Γ[i]? = some (.sh d)) : fMove i Γ = some (.sh d, Γ) := by unfold fMove; rw [h]
theorem r_move_own {t : Nat} (h : Γ[i]? = some (.own t ds)) (l : Γ.set i .non = Γ1) : fMove i Γ = some (.own t ds, Γ1) := by unfold fMove; rw [h, ← l]
theorem r_move_ownD {t : Nat} {ks : List Key} (h : Γ[i]? = some (.ownD t ks ds)) (l : Γ.set i .non = Γ1) : fMove i Γ = some (.ownD t ks ds, Γ1) := by unfold fMove; rw [h, ← l]
theorem r_nil : fNil Γ = some ([], Γ) := rfl
theorem r_cons {f : FD} {g : FL} (h : f Γ = some (d, Γ1)) (k : g Γ1 = some (ds, Γ2)) : fCons f g Γ = some (d :: ds, Γ2) := by unfold fCons; rw [h]; simp only [k]
theorem r_tup {f : FL} (h : f Γ = some (ds, Γ1)) (l : ds.length ≤ lim) : fTup f Γ = some (.tup ds, Γ1) := by unfold fTup; rw [h]; simp only [if_pos l]
theorem r_lst {f : FL} {g : Nat} (h : f Γ = some (ds, Γ1)) (l : ds.length ≤ lim) : fLst g f Γ = some (.own g ds, Γ1) := by unfold fLst; rw [h]; simp only [if_pos l]
theorem r_dct0 {g : Nat} : fDct0 g Γ = some (.ownD g [] [], Γ) := rfl
theorem r_set {f : FE} (h : f Γ = some (s, Γ1)) (l : Γ1.set i s = Γ2) : fSet i f Γ = some (.nx, Γ2) := by unfold fSet; rw [h, ← l]
theorem r_setT {f : FD} {is : List Nat} (h : f Γ = some (d, Γ1)) (l : gTupN is d Γ1 = some Γ2) : fSetT is f Γ = some (.nx, Γ2) := by unfold fSetT; rw [h]; simp only [l]
theorem r_par {f h : FE} (h1 : f Γ = some (s, Γ1)) (h2 : h Γ1 = some (s', Γ2)) (l : (Γ2.set i s).set j s' = Γ3) : fPar i j f h Γ = some (.nx, Γ3) := by unfold fPar; rw [h1]; simp only [h2, l]
theorem r_expr {f : FD} (h : f Γ = some (d, Γ1)) : fExpr f Γ = some (.nx, Γ1) := by unfold fExpr; rw [h]
theorem r_op1 {F : D → Option Sl} {f : FD} (h : f Γ = some (d, Γ1)) (k : F d = some s) : fOp1 F f Γ = some (s, Γ1) := by unfold fOp1; rw [h]; simp only [k]
theorem r_op2 {F : D → D → Option Sl} {f g : FD} (h : f Γ = some (d, Γ1)) (k : g Γ1 = some (e, Γ2)) (l : F d e = some s) : fOp2 F f g Γ = some (s, Γ2) := by unfold fOp2; rw [h]; simp only [k, l]
theorem r_op2P {F : D → D → Option Sl} {g : FD} (h : fSee i Γ = some (x, Γ)) (k : g Γ = some (e, Γ1)) (m : fSee i Γ1 = some (d, Γ1)) (l : F d e = some s) : fOp2P F i g Γ = some (s, Γ1) := by unfold fOp2P; rw [h]; simp only [k, m, l]
theorem r_op2L {F : D → D → Option Sl} {fa : FL} (h : fa Γ = some ([d, e], Γ1)) (l : F d e = some s) : fOp2L F fa Γ = some (s, Γ1) := by unfold fOp2L; rw [h]; simp only [l]
theorem r_call {F : FF} {g : Nat} {fa : FL} (h : fa Γ = some (ds, Γ1)) (l : ds.length = n) (k : F g ds = some s) : fCall n F g fa Γ = some (s, Γ1) := by unfold fCall; rw [h]; simp only [if_pos l, k]
theorem r_callM {F : FM} {g t t0 : Nat} {fa : FL} {xs xs0 xs' : List D} {s0 s1 : Sl} (h0 : Γ[i]? = some s0) (h1 : s0.lists = some (t0, xs0)) (h : fa Γ = some (ds, Γ1)) (h2 : Γ1[i]? = some s1) (h3 : s1.lists = some (t, xs)) (l : ds.length + 1 = n) (k : F g t xs ds = some (s, xs')) (m : Γ1.set i (s1.with xs') = Γ2) : fCallM n F g i fa Γ = some (s, Γ2) := by
  unfold fCallM; rw [h0]; simp only [h1, h, h2, h3, if_pos l, k, m]
theorem r_make {F : FI} {g c : Nat} {fa : FL} {fs : List D} (h : fa Γ = some (ds, Γ1)) (l : ds.length + 1 = n) (k : F g ds = some fs) : fMake c n F g fa Γ = some (.ins c fs, Γ1) := by unfold fMake; rw [h]; simp only [if_pos l, k]
theorem r_meth {F : FF} {g c : Nat} {fo : FD} {fa : FL} {xs : List D} (h0 : fo Γ = some (.ins c xs, Γ1)) (h : fa Γ1 = some (ds, Γ2)) (l : ds.length + 1 = n) (k : F g (.ins c xs :: ds) = some s) : fMeth c n F g fo fa Γ = some (s, Γ2) := by unfold fMeth; rw [h0]; simp only [if_true, h, if_pos l, k]
theorem r_part {f : FD} {m : Int} (h : f Γ = some (.int m, Γ1)) : fPart f Γ = some (some m, Γ1) := by unfold fPart; rw [h]
theorem r_nopart : fNoPart Γ = some (none, Γ) := rfl
theorem r_sliceP {g : Nat} {fl fh : FO} (h : fSee i Γ = some (x, Γ)) (h1 : fl Γ = some (lo, Γ1)) (h2 : fh Γ1 = some (hi, Γ2)) (m : fSee i Γ2 = some (d, Γ2)) (k : dSl g d lo hi = some s) : fSliceP g i fl fh Γ = some (s, Γ2) := by unfold fSliceP; rw [h]; simp only [h1, h2, m, k]
theorem r_seq {f : FD} (h : f Γ = some (d, Γ1)) (k : seqOf d = some ds) : fSeq f Γ = some (ds, Γ1) := by unfold fSeq; rw [h]; simp only [k]
theorem r_enum {f : FD} {t : Nat} (h : f Γ = some (.lst t ds, Γ1)) : fEnum f Γ = some (enumD 0 ds, Γ1) := by unfold fEnum; rw [h]
theorem r_range1 {f : FD} {m : Int} (h : f Γ = some (.int m, Γ1)) (l : -(2 ^ 62) ≤ m ∧ m < 2 ^ 62 ∧ m.toNat ≤ lim) : fRange1 f Γ = some (rangeD 0 m.toNat, Γ1) := by unfold fRange1; rw [h]; simp only [if_pos l]
theorem r_yes : fYes Γ = some (true, Γ) := rfl
theorem r_for {it : FL} {tg : FG} {body : FS} {r : Option (Fl × Env)} (h : it Γ = some (ds, Γ1)) (k : forRun tg body ds Γ1 = r) : fFor it tg body Γ = r := by unfold fFor; rw [h]; exact k
theorem r_lc {g : Nat} {own : List Nat} {it : FL} {tg : FG} {cond : FT} {elt : FD} {es : List D} (h : it Γ = some (ds, Γ1)) (l : wipeG Γ1 own = Γ2) (k : lcRun own tg cond elt ds Γ2 = some (es, Γ3)) : fLc g own it tg cond elt Γ = some (.own g es, Γ3) := by unfold fLc; rw [h]; simp only [l, k]
theorem r_chain {F G : D → D → Option Sl} {f g h : FD} {r : Option (D × Env)} (h1 : f Γ = some (x, Γ1)) (h2 : g Γ1 = some (y, Γ2)) (h3 : F x y = some (.sh (.bl b))) (h4 : h Γ2 = some (z, Γ3)) (h5 : G y z = some (.sh (.bl c))) (k : ifC b (some (.bl c, Γ3)) (some (.bl false, Γ2)) = r) : fChain F G f g h Γ = r := by
  unfold fChain; rw [h1]; simp only [h2, h3]; subst k; cases b
  · rfl
  · simp only [h4, h5]; rfl
theorem r_app {f : FD} {s0 s1 : Sl} {t t0 : Nat} {xs xs0 : List D} (h0 : Γ[i]? = some s0) (h1 : s0.lists = some (t0, xs0)) (h : f Γ = some (d, Γ1)) (h2 : Γ1[i]? = some s1) (h3 : s1.lists = some (t, xs)) (l : xs.length < lim) (m : Γ1.set i (s1.with (xs ++ [d])) = Γ2) : fApp i f Γ = some (.nx, Γ2) := by
  unfold fApp; rw [h0]; simp only [h1, h, h2, h3, m]; first | rfl | rw [if_pos l]
theorem r_setI {fk fe : FD} {s0 s1 : Sl} {t t0 k : Nat} {m : Int} {xs xs0 : List D} (h0 : Γ[i]? = some s0) (h1 : s0.lists = some (t0, xs0)) (h : fe Γ = some (d, Γ1)) (hk : fk Γ1 = some (.int m, Γ2)) (h2 : Γ2[i]? = some s1) (h3 : s1.lists = some (t, xs)) (l : ixN xs.length m = some k) (w : Γ2.set i (s1.with (xs.set k d)) = Γ3) : fSetI i fk fe Γ = some (.nx, Γ3) := by
  unfold fSetI; rw [h0]; simp only [h1, h, hk, h2, h3, l, w]
theorem r_setK {fk fe : FD} {t t0 : Nat} {q : Key} {ks ks0 : List Key} {xs xs0 : List D} (h0 : Γ[i]? = some (.ownD t0 ks0 xs0)) (h : fe Γ = some (d, Γ1)) (hk : fk Γ1 = some (e, Γ2)) (hq : e.key = some q) (h2 : Γ2[i]? = some (.ownD t ks xs)) (l : xs.length < lim ∧ ks.Nodup) (w : Γ2.set i (.ownD t (putD ks xs q d).1 (putD ks xs q d).2) = Γ3) : fSetK i fk fe Γ = some (.nx, Γ3) := by
  unfold fSetK; rw [h0]; simp only [h, hk, hq, h2, if_pos l, w]
theorem r_keep {t : Nat} {f : FE} {s0 sl sl' : Sl} (h0 : Γ[j]? = some s0) (h1 : isPriv s0 = true) (h : f Γ = some (s, Γ1)) (h2 : Γ1[j]? = some sl) (h3 : unpub t sl = some sl') (h4 : noTS t s = true ∧ (Γ1.set j .non).all (noTS t) = true) (m : Γ1.set j sl' = Γ2) : fKeep j t f Γ = some (s, Γ2) := by
  unfold fKeep; rw [h0]; simp only [h1, h, h2, h3, if_pos h4, m, if_true]
theorem runF_ret {m : Nat} {body : FS} {args : List D} {Γ0 : Env} (l : envOf m (args.map .sh) = Γ0) (h : body Γ0 = some (.ret s, Γ1)) : runF m body args = some s := by unfold runF; rw [l]; simp only [h]
theorem runM_ret {m t u : Nat} {xs ys : List D} {body : FS} {args : List D} {Γ0 : Env} (l : envOf m (.bor t xs :: args.map .sh) = Γ0) (h : body Γ0 = some (.ret s, Γ1)) (k : Γ1[0]? = some (.bor u ys)) : runM m body t xs args = some (s, ys) := by unfold runM; rw [l]; simp only [h, k]
end
section
variable {i j : Int} {t u : Nat} {xs : List D} {d : D}
theorem o_mul (h : (-(2 ^ 64) < i ∧ i < 2 ^ 64) ∨ (-(2 ^ 64) < j ∧ j < 2 ^ 64)) : onInts iMul (.int i) (.int j) = some (.sh (.int (i * j))) := by unfold onInts iMul; simp only [if_pos h]
theorem o_mod (h : 0 < j) : onInts iMod (.int i) (.int j) = some (.sh (.int (i % j))) := by unfold onInts iMod; simp only [if_pos h]
theorem o_div (h : 0 < j ∧ j.natAbs < 2 ^ 1000) : onInts iDiv (.int i) (.int j) = some (.sh (.int (i / j))) := by unfold onInts iDiv; simp only [if_pos h]
theorem o_pow (h : 0 ≤ j ∧ (Builtin.Int.intBits i : Int) * j ≤ 2 ^ 27) : onInts iPow (.int i) (.int j) = some (.sh (.int (i ^ j.toNat))) := by unfold onInts iPow; simp only [if_pos h]
theorem o_ixL (h : atI xs i = some d) : dIx (.lst t xs) (.int i) = some (.sh d) := by unfold dIx; simp only [h]
theorem o_ixT (h : atI xs i = some d) : dIx (.tup xs) (.int i) = some (.sh d) := by unfold dIx; simp only [h]
end
/-! a[i] of a list, a tuple, a text, a dict; in, not in -/
def dIG (d e : D) : Option Sl := match dIx d e with
  | some s => some s
  | none => dGet d e
def inH (n : Bool) (d e : D) : Option Sl := match (if n then sNin d e else sIn d e) with
  | some s => some s
  | none => dHas n d e
section
variable {Γ Γ1 Γ2 : Env} {i : Nat} {d e x : D} {s : Sl} {b : Bool} {f g : FD}
theorem r_ix (h : f Γ = some (d, Γ1)) (k : g Γ1 = some (e, Γ2)) (l : dIG d e = some s) : fAlt (fOp2 dIx f g) (fOp2 dGet f g) Γ = some (s, Γ2) := by
  unfold dIG at l
  unfold fAlt fOp2
  rw [h]
  simp only [k]
  split at l
  · rename_i s' e1
    cases l
    first | rw [e1] | rfl
  · rename_i e1
    first | (rw [e1]; simp only [l]) | simp only [l]
theorem r_ixP (h : fSee i Γ = some (x, Γ)) (k : g Γ = some (e, Γ1)) (m : fSee i Γ1 = some (d, Γ1)) (l : dIG d e = some s) : fAlt (fOp2P dIx i g) (fOp2P dGet i g) Γ = some (s, Γ1) := by
  unfold dIG at l
  unfold fAlt fOp2P
  rw [h]
  simp only [k, m]
  split at l
  · rename_i s' e1
    cases l
    first | rw [e1] | rfl
  · rename_i e1
    first | (rw [e1]; simp only [l]) | simp only [l]
theorem r_inV (h : f Γ = some (d, Γ1)) (k : g Γ1 = some (e, Γ2)) (l : inH false d e = some s) : fAlt (fOp2 sIn f g) (fOp2 (dHas false) f g) Γ = some (s, Γ2) := by
  unfold inH at l
  unfold fAlt fOp2
  rw [h]
  simp only [k]
  simp only [Bool.false_eq_true, if_false] at l
  split at l
  · rename_i s' e1
    cases l
    first | rw [e1] | rfl
  · rename_i e1
    first | (rw [e1]; simp only [l]) | simp only [l]
theorem r_in (h : f Γ = some (d, Γ1)) (k : g Γ1 = some (e, Γ2)) (l : inH false d e = some (.sh (.bl b))) : fAlt (FD.t (FE.d (fOp2 sIn f g))) (FD.t (FE.d (fOp2 (dHas false) f g))) Γ = some (b, Γ2) := by
  unfold inH at l
  simp only [Bool.false_eq_true, if_false] at l
  unfold fAlt FD.t FE.d fOp2
  rw [h]
  simp only [k]
  split at l
  · rename_i s' e1
    cases l
    first | (rw [e1]; rfl) | rfl
  · rename_i e1
    first | (rw [e1]; simp only [l]; rfl) | (simp only [l]; rfl)
theorem r_nin (h : f Γ = some (d, Γ1)) (k : g Γ1 = some (e, Γ2)) (l : inH true d e = some (.sh (.bl b))) : fAlt (FD.t (FE.d (fOp2 sNin f g))) (FD.t (FE.d (fOp2 (dHas true) f g))) Γ = some (b, Γ2) := by
  unfold inH at l
  simp only [if_true] at l
  unfold fAlt FD.t FE.d fOp2
  rw [h]
  simp only [k]
  split at l
  · rename_i s' e1
    cases l
    first | (rw [e1]; rfl) | rfl
  · rename_i e1
    first | (rw [e1]; simp only [l]; rfl) | (simp only [l]; rfl)
theorem o_igL {i : Int} {t : Nat} {xs : List D} (h : atI xs i = some d) : dIG (.lst t xs) (.int i) = some (.sh d) := by unfold dIG; rw [o_ixL h]
theorem o_igT {i : Int} {xs : List D} (h : atI xs i = some d) : dIG (.tup xs) (.int i) = some (.sh d) := by unfold dIG; rw [o_ixT h]
theorem o_igD {t : Nat} {ks : List Key} {xs : List D} {q : Key} (hq : e.key = some q) (h : lookD ks xs q = some d) : dIG (.dct t ks xs) e = some (.sh d) := by
  unfold dIG
  have : dIx (.dct t ks xs) e = none := by unfold dIx; rfl
  rw [this]
  unfold dGet
  simp only [hq, h]
end
theorem eqD0_str (x y : Str) : eqD0 (.str x) (.str y) = decide (x = y) := by first | rfl | (unfold eqD0; rfl) | (unfold eqD0; simp)
theorem all_flat_strs (ns : List Str) : (ns.map D.str).all flatD = true := by
  rw [List.all_map]; exact List.all_eq_true.mpr fun _ _ => rfl
theorem any_strs (x : Str) : ∀ ns : List Str, (ns.map D.str).any (fun z => eqD0 z (.str x)) = decide (x ∈ ns)
  | [] => by simp
  | y :: r => by
    rw [List.map_cons, List.any_cons, any_strs x r, eqD0_str]
    by_cases h : x = y
    · subst h; simp
    · have h' : ¬ y = x := fun q => h q.symm
      simp [h, h']
theorem dIn_strs (x : Str) (t : Nat) (ns : List Str) : dIn (.str x) (.lst t (ns.map .str)) = some (decide (x ∈ ns)) := by
  have h : flatD (D.str x) = true ∧ (ns.map D.str).all flatD = true := ⟨rfl, all_flat_strs ns⟩
  unfold dIn
  dsimp only
  rw [if_pos h, any_strs]
theorem dIn_strsT (x : Str) (ns : List Str) : dIn (.str x) (.tup (ns.map .str)) = some (decide (x ∈ ns)) := by
  have h : flatD (D.str x) = true ∧ (ns.map D.str).all flatD = true := ⟨rfl, all_flat_strs ns⟩
  unfold dIn
  dsimp only
  rw [if_pos h, any_strs]
theorem inH_strs (x : Str) (t : Nat) (ns : List Str) : inH false (.str x) (.lst t (ns.map .str)) = some (.sh (.bl (decide (x ∈ ns)))) := by
  unfold inH sIn; simp only [Bool.false_eq_true, if_false, dIn_strs]
theorem ninH_strs (x : Str) (t : Nat) (ns : List Str) : inH true (.str x) (.lst t (ns.map .str)) = some (.sh (.bl (!decide (x ∈ ns)))) := by
  unfold inH sNin; simp only [if_true, dIn_strs]
/-! list comprehensions over encoded lists, targets, loops -/
def LcStep (own : List Nat) (tg : FG) (cond : FT) (elt : FD) (Γ : Env) (d : D) (b : Bool) (r : D) : Prop := ∃ Γ1 Γ2, tg d Γ = some Γ1 ∧ cond Γ1 = some (b, Γ2) ∧ (b = false → wipeG Γ2 own = Γ) ∧ (b = true → ∃ Γ3, elt Γ2 = some (r, Γ3) ∧ wipeG Γ3 own = Γ)
section
variable {own : List Nat} {tg : FG} {cond : FT} {elt : FD} {Γ Γ1 Γ2 Γ3 : Env} {d r : D} {b : Bool}
theorem lcs_f (h1 : tg d Γ = some Γ1) (h2 : cond Γ1 = some (false, Γ2)) (h3 : wipeG Γ2 own = Γ) : LcStep own tg cond elt Γ d false r := ⟨Γ1, Γ2, h1, h2, fun _ => h3, fun q => (by cases q)⟩
theorem lcs_t (h1 : tg d Γ = some Γ1) (h2 : cond Γ1 = some (true, Γ2)) (h4 : elt Γ2 = some (r, Γ3)) (h3 : wipeG Γ3 own = Γ) : LcStep own tg cond elt Γ d true r := ⟨Γ1, Γ2, h1, h2, fun q => (by cases q), fun _ => ⟨Γ3, h4, h3⟩⟩
theorem lcs (h1 : tg d Γ = some Γ1) (h2 : cond Γ1 = some (b, Γ2)) (h4 : elt Γ2 = some (r, Γ2)) (h3 : wipeG Γ2 own = Γ) : LcStep own tg cond elt Γ d b r := ⟨Γ1, Γ2, h1, h2, fun _ => h3, fun _ => ⟨Γ2, h4, h3⟩⟩
theorem lc_map {α : Type} (enc : α → D) (p : α → Bool) (q : α → D) (xs : List α) (h : ∀ x ∈ xs, LcStep own tg cond elt Γ (enc x) (p x) (q x)) : lcRun own tg cond elt (xs.map enc) Γ = some ((xs.filter p).map q, Γ) := by
  induction xs with
  | nil => rfl
  | cons x r ih =>
    obtain ⟨Γ1, Γ2, h1, h2, h3, h4⟩ := h x List.mem_cons_self
    have ih := ih fun y hy => h y (List.mem_cons_of_mem _ hy)
    rw [List.map_cons]
    unfold lcRun
    rw [h1]
    simp only [h2]
    cases hp : p x with
    | false => simp only [h3 hp, ih, List.filter_cons, hp]; rfl
    | true =>
      obtain ⟨Γ3, h5, h6⟩ := h4 hp
      simp only [h5, h6, ih, List.filter_cons, hp]
      rfl
theorem lc_none {α : Type} {enc : α → D} {xs : List α} (h : ∀ x ∈ xs, LcStep own tg cond elt Γ (enc x) false .non) : lcRun own tg cond elt (xs.map enc) Γ = some ([], Γ) := by
  rw [lc_map enc (fun _ => false) (fun _ => .non) xs h]
  simp
theorem lc_every {α : Type} {enc : α → D} (q : α → D) {xs : List α} (h : ∀ x ∈ xs, LcStep own tg cond elt Γ (enc x) true (q x)) : lcRun own tg cond elt (xs.map enc) Γ = some (xs.map q, Γ) := by
  rw [lc_map enc (fun _ => true) q xs h, List.filter_eq_self.mpr fun _ _ => rfl]
theorem g_nam' {i : Nat} (l : Γ.set i (.sh d) = Γ1) : gNam i d Γ = some Γ1 := by unfold gNam; rw [l]
theorem g_tupN {is : List Nat} {ds : List D} (h : gNams is ds Γ = some Γ1) : gTupN is (.tup ds) Γ = some Γ1 := h
theorem g_nil' : gNams [] [] Γ = some Γ := rfl
theorem g_cons' {i : Nat} {is : List Nat} {ds : List D} (l : Γ.set i (.sh d) = Γ1) (h : gNams is ds Γ1 = some Γ2) : gNams (i :: is) (d :: ds) Γ = some Γ2 := by rw [← h, ← l]; rfl
theorem fr_cons {body : FS} {ds : List D} {fl : Fl} {q : Option (Fl × Env)} (h1 : tg d Γ = some Γ1) (h2 : body Γ1 = some (fl, Γ2)) (k : thenC fl (forRun tg body ds) Γ2 = q) : forRun tg body (d :: ds) Γ = q := by
  unfold forRun; rw [h1]; simp only [h2]; subst k; cases fl <;> rfl
end
theorem atI_nat {α : Type} {xs : List α} {n : Nat} {d : α} (h : xs[n]? = some d) : atI xs (n : Int) = some d := by
  have hl : n < xs.length := (List.getElem?_eq_some_iff.mp h).1
  unfold atI ixN
  rw [if_pos (Int.natCast_nonneg n), if_pos (by exact_mod_cast hl)]
  exact h
section
variable {a b c d e : D} {r : List D}
theorem at0 : atI (a :: r) 0 = some a := atI_nat (n := 0) rfl
theorem at1 : atI (a :: b :: r) 1 = some b := atI_nat (n := 1) rfl
theorem at2 : atI (a :: b :: c :: r) 2 = some c := atI_nat (n := 2) rfl
theorem at3 : atI (a :: b :: c :: d :: r) 3 = some d := atI_nat (n := 3) rfl
theorem at4 : atI (a :: b :: c :: d :: e :: r) 4 = some e := atI_nat (n := 4) rfl
end
theorem cut_from {α : Type} (xs : List α) (n : Nat) : cutD xs (some (n : Int)) none = xs.drop n := by
  unfold cutD HT.sIx
  dsimp only
  rw [if_neg (by omega), Int.toNat_natCast]
  by_cases h : n ≤ xs.length
  · rw [Nat.min_eq_left h, List.take_of_length_le]
    rw [List.length_drop]; exact Nat.le_refl _
  · rw [Nat.min_eq_right (by omega), List.drop_eq_nil_of_le (Nat.le_refl _), List.drop_eq_nil_of_le (by omega), List.take_nil]
theorem cut_to {α : Type} (xs : List α) (n : Nat) : cutD xs none (some (n : Int)) = xs.take n := by
  unfold cutD HT.sIx
  dsimp only
  rw [if_neg (by omega), Int.toNat_natCast, List.drop_zero, Nat.sub_zero]
  by_cases h : n ≤ xs.length
  · rw [Nat.min_eq_left h]
  · rw [Nat.min_eq_right (by omega), List.take_of_length_le (Nat.le_refl _), List.take_of_length_le (by omega)]
theorem o_slT1 {g : Nat} {d : D} {r : List D} : dSl g (.tup (d :: r)) (some 1) none = some (.sh (.tup r)) := by
  unfold dSl
  dsimp only
  rw [show ((1 : Int)) = ((1 : Nat) : Int) from rfl, cut_from]
  rfl
theorem o_slLt {g t n : Nat} {xs : List D} : dSl g (.lst t xs) none (some (n : Int)) = some (.own g (xs.take n)) := by unfold dSl; dsimp only; rw [cut_to]
theorem r_dc {Γ Γ1 Γ2 Γ3 : Env} {g : Nat} {own : List Nat} {it : FL} {tg : FG} {cond : FT} {fk fv : FD} {ds : List D} {ks : List Key} {xs : List D} (h : it Γ = some (ds, Γ1)) (l : wipeG Γ1 own = Γ2) (k : dcRun own tg cond fk fv ds [] [] Γ2 = some ((ks, xs), Γ3)) : fDc g own it tg cond fk fv Γ = some (.ownD g ks xs, Γ3) := by
  unfold fDc; rw [h]; simp only [l, k]
theorem r_setF {Γ Γ1 Γ2 : Env} {i c c1 n : Nat} {f : FD} {xs xs1 : List D} {d : D} (h0 : Γ[i]? = some (.ini c1 xs1)) (h : f Γ = some (d, Γ1)) (h2 : Γ1[i]? = some (.ini c xs)) (l : xs.length = n) (m : Γ1.set i (.ini c (xs ++ [d])) = Γ2) : fSetF i c n f Γ = some (.nx, Γ2) := by
  unfold fSetF; rw [h0]; simp [h, h2, l, m]
theorem r_fldI {Γ : Env} {i c j : Nat} {xs : List D} {d : D} (h0 : Γ[i]? = some (.ini c xs)) (h : xs[j]? = some d) : fFldI i c j Γ = some (.sh d, Γ) := by
  unfold fFldI; rw [h0]; dsimp only; rw [if_pos rfl, h]
theorem runI_nx {c m n : Nat} {body : FS} {args : List D} {Γ0 Γ1 : Env} {ys : List D} (l : envOf m (.ini c [] :: args.map .sh) = Γ0) (h : body Γ0 = some (.nx, Γ1)) (k : Γ1[0]? = some (.ini c ys)) (hl : ys.length = n) : lenN n (runI c m body args) = some ys := by
  unfold runI; rw [l]; simp only [h, k]; unfold lenN; simp [hl]
theorem st0 {z0 s : Sl} {r : Env} : List.set (z0 :: r) 0 s = s :: r := rfl
theorem st1 {z0 z1 s : Sl} {r : Env} : List.set (z0 :: z1 :: r) 1 s = z0 :: s :: r := rfl
theorem wp1 {z0 z1 : Sl} {r : Env} : wipeG (z0 :: z1 :: r) [1] = z0 :: .non :: r := rfl
theorem st2 {z0 z1 z2 s : Sl} {r : Env} : List.set (z0 :: z1 :: z2 :: r) 2 s = z0 :: z1 :: s :: r := rfl
theorem wp2 {z0 z1 z2 : Sl} {r : Env} : wipeG (z0 :: z1 :: z2 :: r) [2] = z0 :: z1 :: .non :: r := rfl
theorem st3 {z0 z1 z2 z3 s : Sl} {r : Env} : List.set (z0 :: z1 :: z2 :: z3 :: r) 3 s = z0 :: z1 :: z2 :: s :: r := rfl
theorem wp3 {z0 z1 z2 z3 : Sl} {r : Env} : wipeG (z0 :: z1 :: z2 :: z3 :: r) [3] = z0 :: z1 :: z2 :: .non :: r := rfl
theorem st4 {z0 z1 z2 z3 z4 s : Sl} {r : Env} : List.set (z0 :: z1 :: z2 :: z3 :: z4 :: r) 4 s = z0 :: z1 :: z2 :: z3 :: s :: r := rfl
theorem st5 {z0 z1 z2 z3 z4 z5 s : Sl} {r : Env} : List.set (z0 :: z1 :: z2 :: z3 :: z4 :: z5 :: r) 5 s = z0 :: z1 :: z2 :: z3 :: z4 :: s :: r := rfl
theorem wp5 {z0 z1 z2 z3 z4 z5 : Sl} {r : Env} : wipeG (z0 :: z1 :: z2 :: z3 :: z4 :: z5 :: r) [5] = z0 :: z1 :: z2 :: z3 :: z4 :: .non :: r := rfl
theorem st6 {z0 z1 z2 z3 z4 z5 z6 s : Sl} {r : Env} : List.set (z0 :: z1 :: z2 :: z3 :: z4 :: z5 :: z6 :: r) 6 s = z0 :: z1 :: z2 :: z3 :: z4 :: z5 :: s :: r := rfl
theorem wp6 {z0 z1 z2 z3 z4 z5 z6 : Sl} {r : Env} : wipeG (z0 :: z1 :: z2 :: z3 :: z4 :: z5 :: z6 :: r) [6] = z0 :: z1 :: z2 :: z3 :: z4 :: z5 :: .non :: r := rfl
theorem st7 {z0 z1 z2 z3 z4 z5 z6 z7 s : Sl} {r : Env} : List.set (z0 :: z1 :: z2 :: z3 :: z4 :: z5 :: z6 :: z7 :: r) 7 s = z0 :: z1 :: z2 :: z3 :: z4 :: z5 :: z6 :: s :: r := rfl
theorem wp7 {z0 z1 z2 z3 z4 z5 z6 z7 : Sl} {r : Env} : wipeG (z0 :: z1 :: z2 :: z3 :: z4 :: z5 :: z6 :: z7 :: r) [7] = z0 :: z1 :: z2 :: z3 :: z4 :: z5 :: z6 :: .non :: r := rfl
theorem st8 {z0 z1 z2 z3 z4 z5 z6 z7 z8 s : Sl} {r : Env} : List.set (z0 :: z1 :: z2 :: z3 :: z4 :: z5 :: z6 :: z7 :: z8 :: r) 8 s = z0 :: z1 :: z2 :: z3 :: z4 :: z5 :: z6 :: z7 :: s :: r := rfl
theorem st9 {z0 z1 z2 z3 z4 z5 z6 z7 z8 z9 s : Sl} {r : Env} : List.set (z0 :: z1 :: z2 :: z3 :: z4 :: z5 :: z6 :: z7 :: z8 :: z9 :: r) 9 s = z0 :: z1 :: z2 :: z3 :: z4 :: z5 :: z6 :: z7 :: z8 :: s :: r := rfl
theorem wp9 {z0 z1 z2 z3 z4 z5 z6 z7 z8 z9 : Sl} {r : Env} : wipeG (z0 :: z1 :: z2 :: z3 :: z4 :: z5 :: z6 :: z7 :: z8 :: z9 :: r) [9] = z0 :: z1 :: z2 :: z3 :: z4 :: z5 :: z6 :: z7 :: z8 :: .non :: r := rfl
theorem st10 {z0 z1 z2 z3 z4 z5 z6 z7 z8 z9 z10 s : Sl} {r : Env} : List.set (z0 :: z1 :: z2 :: z3 :: z4 :: z5 :: z6 :: z7 :: z8 :: z9 :: z10 :: r) 10 s = z0 :: z1 :: z2 :: z3 :: z4 :: z5 :: z6 :: z7 :: z8 :: z9 :: s :: r := rfl
theorem st11 {z0 z1 z2 z3 z4 z5 z6 z7 z8 z9 z10 z11 s : Sl} {r : Env} : List.set (z0 :: z1 :: z2 :: z3 :: z4 :: z5 :: z6 :: z7 :: z8 :: z9 :: z10 :: z11 :: r) 11 s = z0 :: z1 :: z2 :: z3 :: z4 :: z5 :: z6 :: z7 :: z8 :: z9 :: z10 :: s :: r := rfl
theorem st12 {z0 z1 z2 z3 z4 z5 z6 z7 z8 z9 z10 z11 z12 s : Sl} {r : Env} : List.set (z0 :: z1 :: z2 :: z3 :: z4 :: z5 :: z6 :: z7 :: z8 :: z9 :: z10 :: z11 :: z12 :: r) 12 s = z0 :: z1 :: z2 :: z3 :: z4 :: z5 :: z6 :: z7 :: z8 :: z9 :: z10 :: z11 :: s :: r := rfl
theorem rf_1_1 {body : FS} {z0 : D} {s : Sl} {Γ1 : Env} (h : body [.sh z0] = some (.ret s, Γ1)) : runF 1 body [z0] = some s := runF_ret rfl h
theorem rm_2_0 {body : FS} {t u : Nat} {xs ys : List D} {s : Sl} {Γ1 : Env} (h : body [.bor t xs, .non] = some (.ret s, Γ1)) (k : Γ1[0]? = some (.bor u ys)) : runM 2 body t xs [] = some (s, ys) := runM_ret rfl h k
theorem rf_2_1 {body : FS} {z0 : D} {s : Sl} {Γ1 : Env} (h : body [.sh z0, .non] = some (.ret s, Γ1)) : runF 2 body [z0] = some s := runF_ret rfl h
theorem rf_2_2 {body : FS} {z0 z1 : D} {s : Sl} {Γ1 : Env} (h : body [.sh z0, .sh z1] = some (.ret s, Γ1)) : runF 2 body [z0, z1] = some s := runF_ret rfl h
theorem rf_3_1 {body : FS} {z0 : D} {s : Sl} {Γ1 : Env} (h : body [.sh z0, .non, .non] = some (.ret s, Γ1)) : runF 3 body [z0] = some s := runF_ret rfl h
theorem rf_3_2 {body : FS} {z0 z1 : D} {s : Sl} {Γ1 : Env} (h : body [.sh z0, .sh z1, .non] = some (.ret s, Γ1)) : runF 3 body [z0, z1] = some s := runF_ret rfl h
theorem rf_3_3 {body : FS} {z0 z1 z2 : D} {s : Sl} {Γ1 : Env} (h : body [.sh z0, .sh z1, .sh z2] = some (.ret s, Γ1)) : runF 3 body [z0, z1, z2] = some s := runF_ret rfl h
theorem ri_4_1 {c n : Nat} {body : FS} {ys : List D} {z0 : D} {Γ1 : Env} (h : body [.ini c [], .sh z0, .non, .non] = some (.nx, Γ1)) (k : Γ1[0]? = some (.ini c ys)) (hl : ys.length = n) : lenN n (runI c 4 body [z0]) = some ys := runI_nx rfl h k hl
theorem rf_4_2 {body : FS} {z0 z1 : D} {s : Sl} {Γ1 : Env} (h : body [.sh z0, .sh z1, .non, .non] = some (.ret s, Γ1)) : runF 4 body [z0, z1] = some s := runF_ret rfl h
theorem rf_4_3 {body : FS} {z0 z1 z2 : D} {s : Sl} {Γ1 : Env} (h : body [.sh z0, .sh z1, .sh z2, .non] = some (.ret s, Γ1)) : runF 4 body [z0, z1, z2] = some s := runF_ret rfl h
theorem rf_5_1 {body : FS} {z0 : D} {s : Sl} {Γ1 : Env} (h : body [.sh z0, .non, .non, .non, .non] = some (.ret s, Γ1)) : runF 5 body [z0] = some s := runF_ret rfl h
theorem rm_5_1 {body : FS} {t u : Nat} {xs ys : List D} {z0 : D} {s : Sl} {Γ1 : Env} (h : body [.bor t xs, .sh z0, .non, .non, .non] = some (.ret s, Γ1)) (k : Γ1[0]? = some (.bor u ys)) : runM 5 body t xs [z0] = some (s, ys) := runM_ret rfl h k
theorem rf_5_2 {body : FS} {z0 z1 : D} {s : Sl} {Γ1 : Env} (h : body [.sh z0, .sh z1, .non, .non, .non] = some (.ret s, Γ1)) : runF 5 body [z0, z1] = some s := runF_ret rfl h
theorem rf_6_1 {body : FS} {z0 : D} {s : Sl} {Γ1 : Env} (h : body [.sh z0, .non, .non, .non, .non, .non] = some (.ret s, Γ1)) : runF 6 body [z0] = some s := runF_ret rfl h
theorem rf_6_2 {body : FS} {z0 z1 : D} {s : Sl} {Γ1 : Env} (h : body [.sh z0, .sh z1, .non, .non, .non, .non] = some (.ret s, Γ1)) : runF 6 body [z0, z1] = some s := runF_ret rfl h
theorem rf_7_2 {body : FS} {z0 z1 : D} {s : Sl} {Γ1 : Env} (h : body [.sh z0, .sh z1, .non, .non, .non, .non, .non] = some (.ret s, Γ1)) : runF 7 body [z0, z1] = some s := runF_ret rfl h
theorem rf_7_3 {body : FS} {z0 z1 z2 : D} {s : Sl} {Γ1 : Env} (h : body [.sh z0, .sh z1, .sh z2, .non, .non, .non, .non] = some (.ret s, Γ1)) : runF 7 body [z0, z1, z2] = some s := runF_ret rfl h
theorem rf_8_1 {body : FS} {z0 : D} {s : Sl} {Γ1 : Env} (h : body [.sh z0, .non, .non, .non, .non, .non, .non, .non] = some (.ret s, Γ1)) : runF 8 body [z0] = some s := runF_ret rfl h
theorem rf_10_2 {body : FS} {z0 z1 : D} {s : Sl} {Γ1 : Env} (h : body [.sh z0, .sh z1, .non, .non, .non, .non, .non, .non, .non, .non] = some (.ret s, Γ1)) : runF 10 body [z0, z1] = some s := runF_ret rfl h
theorem rf_13_1 {body : FS} {z0 : D} {s : Sl} {Γ1 : Env} (h : body [.sh z0, .non, .non, .non, .non, .non, .non, .non, .non, .non, .non, .non, .non] = some (.ret s, Γ1)) : runF 13 body [z0] = some s := runF_ret rfl h
theorem sb0 {z0 : Sl} {t : Nat} {a b : List D} {r : Env} : List.set (z0 :: r) 0 ((Sl.bor t a).with b) = .bor t b :: r := rfl
theorem so1 {z0 z1 : Sl} {t : Nat} {a b : List D} {r : Env} : List.set (z0 :: z1 :: r) 1 ((Sl.own t a).with b) = z0 :: .own t b :: r := rfl
theorem so2 {z0 z1 z2 : Sl} {t : Nat} {a b : List D} {r : Env} : List.set (z0 :: z1 :: z2 :: r) 2 ((Sl.own t a).with b) = z0 :: z1 :: .own t b :: r := rfl
theorem so3 {z0 z1 z2 z3 : Sl} {t : Nat} {a b : List D} {r : Env} : List.set (z0 :: z1 :: z2 :: z3 :: r) 3 ((Sl.own t a).with b) = z0 :: z1 :: z2 :: .own t b :: r := rfl
theorem so11 {z0 z1 z2 z3 z4 z5 z6 z7 z8 z9 z10 z11 : Sl} {t : Nat} {a b : List D} {r : Env} : List.set (z0 :: z1 :: z2 :: z3 :: z4 :: z5 :: z6 :: z7 :: z8 :: z9 :: z10 :: z11 :: r) 11 ((Sl.own t a).with b) = z0 :: z1 :: z2 :: z3 :: z4 :: z5 :: z6 :: z7 :: z8 :: z9 :: z10 :: .own t b :: r := rfl
theorem so12 {z0 z1 z2 z3 z4 z5 z6 z7 z8 z9 z10 z11 z12 : Sl} {t : Nat} {a b : List D} {r : Env} : List.set (z0 :: z1 :: z2 :: z3 :: z4 :: z5 :: z6 :: z7 :: z8 :: z9 :: z10 :: z11 :: z12 :: r) 12 ((Sl.own t a).with b) = z0 :: z1 :: z2 :: z3 :: z4 :: z5 :: z6 :: z7 :: z8 :: z9 :: z10 :: z11 :: .own t b :: r := rfl
end Ev

set_option Elab.async false
set_option linter.all false
set_option maxRecDepth 100000
set_option maxHeartbeats 4000000
namespace Ev
open PySem L2
noncomputable section
def fb_is_known (g : Nat) : FS := (fThen (fRet ((FD.toE (fAndV ((FE.d (fOp1 (dIsi .str) (fSee 0)))) ((FE.d (fAlt (fOp2 sIn ((fVar 0)) (fSee 1)) (fOp2 (dHas false) ((fVar 0)) (fSee 1))))))))) fSkip)
def F_is_known : FF := fun g a => runF 2 (fb_is_known g) a
def fb_is_whole (g : Nat) : FS := (fThen (fRet ((FD.toE (fAndV ((FE.d (fOp1 (dIsi .int) (fSee 0)))) ((fNotV ((FE.d (fOp1 (dIsi .bool) (fSee 0)))))))))) fSkip)
def F_is_whole : FF := fun g a => runF 1 (fb_is_whole g) a
def fb_is_operand (g : Nat) : FS := (fThen (fRet ((FD.toE (fOrV ((FE.d (fCall 1 F_is_whole g (fCons ((fVar 0)) fNil)))) ((FE.d (fCall 2 F_is_known g (fCons ((fVar 0)) (fCons ((fVar 1)) fNil))))))))) fSkip)
def F_is_operand : FF := fun g a => runF 2 (fb_is_operand g) a
def fb_are_operands (g : Nat) : FS := (fThen (fRet (fOp2 sEq ((FE.d (fLc g [2] (fSeq ((fVar 0))) (gNam 2) (fNot ((FD.t (FE.d (fCall 2 F_is_operand g (fCons ((fVar 2)) (fCons ((fVar 1)) fNil))))))) ((fVar 2))))) ((FE.d (fLst g fNil))))) fSkip)
def F_are_operands : FF := fun g a => runF 3 (fb_are_operands g) a
def fb_has_word (g : Nat) : FS := (fThen (fRet ((FD.toE (fAndV ((FE.d (fOp1 (dIsi .tuple) (fSee 0)))) (fAndV ((FE.d (fOp2 sEq ((FE.d (fOp1 dLen (fSee 0)))) (fSee 2)))) (fAndV ((FE.d (fOp1 (dIsi .str) ((FE.d (fAlt (fOp2P dIx 0 ((fLit (.int 0)))) (fOp2P dGet 0 ((fLit (.int 0)))))))))) ((FE.d (fOp2 sEq ((FE.d (fAlt (fOp2P dIx 0 ((fLit (.int 0)))) (fOp2P dGet 0 ((fLit (.int 0))))))) (fSee 1)))))))))) fSkip)
def F_has_word : FF := fun g a => runF 3 (fb_has_word g) a
def fb_is_definition (g : Nat) : FS := (fThen (fIf ((FD.t (FE.d (fCall 3 F_has_word g (fCons ((fVar 0)) (fCons ((fLit (.str "number"))) (fCons ((fLit (.int 2))) fNil))))))) (fThen (fRet (fCall 1 F_is_whole g (fCons ((FE.d (fAlt (fOp2P dIx 0 ((fLit (.int 1)))) (fOp2P dGet 0 ((fLit (.int 1))))))) fNil))) fSkip) fSkip) (fThen (fIf ((FD.t (FE.d (fCall 3 F_has_word g (fCons ((fVar 0)) (fCons ((fLit (.str "plus"))) (fCons ((fLit (.int 3))) fNil))))))) (fThen (fRet ((FD.toE (fAndV ((FE.d (fCall 2 F_is_known g (fCons ((FE.d (fAlt (fOp2P dIx 0 ((fLit (.int 1)))) (fOp2P dGet 0 ((fLit (.int 1))))))) (fCons ((fVar 1)) fNil))))) ((FE.d (fCall 1 F_is_whole g (fCons ((FE.d (fAlt (fOp2P dIx 0 ((fLit (.int 2)))) (fOp2P dGet 0 ((fLit (.int 2))))))) fNil)))))))) fSkip) fSkip) (fThen (fIf ((fOr ((FD.t (FE.d (fCall 3 F_has_word g (fCons ((fVar 0)) (fCons ((fLit (.str "max"))) (fCons ((fLit (.int 2))) fNil))))))) ((FD.t (FE.d (fCall 3 F_has_word g (fCons ((fVar 0)) (fCons ((fLit (.str "min"))) (fCons ((fLit (.int 2))) fNil))))))))) (fThen (fRet ((FD.toE (fAndV ((FE.d (fOp1 (dIsi .list) ((FE.d (fAlt (fOp2P dIx 0 ((fLit (.int 1)))) (fOp2P dGet 0 ((fLit (.int 1)))))))))) (fAndV ((FE.d (fOp2 sNe ((FE.d (fAlt (fOp2P dIx 0 ((fLit (.int 1)))) (fOp2P dGet 0 ((fLit (.int 1))))))) ((FE.d (fLst g fNil)))))) ((FE.d (fCall 2 F_are_operands g (fCons ((FE.d (fAlt (fOp2P dIx 0 ((fLit (.int 1)))) (fOp2P dGet 0 ((fLit (.int 1))))))) (fCons ((fVar 1)) fNil)))))))))) fSkip) fSkip) (fThen (fRet ((FD.toE (fAndV ((FE.d (fCall 3 F_has_word g (fCons ((fVar 0)) (fCons ((fLit (.str "if"))) (fCons ((fLit (.int 5))) fNil)))))) ((FE.d (fCall 2 F_are_operands g (fCons ((FE.d (fSliceP g 0 (fPart ((fLit (.int 1)))) fNoPart))) (fCons ((fVar 1)) fNil))))))))) fSkip))))
def F_is_definition : FF := fun g a => runF 2 (fb_is_definition g) a
def fb_is_name (g : Nat) : FS := (fThen (fIf ((fOr (fNot ((FD.t (FE.d (fOp1 (dIsi .str) (fSee 0)))))) (fNot (FD.t (fChain (onInts iLe) (onInts iLe) ((fLit (.int 1))) ((FE.d (fOp1 dLen (fSee 0)))) ((fLit (.int 10)))))))) (fThen (fRet ((FD.toE (fLit (.bl false))))) fSkip) fSkip) (fThen (fRet (fOp2 sEq ((FE.d (fLc g [1] (fSeq ((fVar 0))) (gNam 1) (fAlt (FD.t (FE.d (fOp2 sNin ((fVar 1)) ((fLit (.str "abcdefghijklmnopqrstuvwxyz")))))) (FD.t (FE.d (fOp2 (dHas true) ((fVar 1)) ((fLit (.str "abcdefghijklmnopqrstuvwxyz"))))))) ((fVar 1))))) ((FE.d (fLst g fNil))))) fSkip))
def F_is_name : FF := fun g a => runF 2 (fb_is_name g) a
def lb_are_limits_0 (g : Nat) : FS := (fThen (fIf ((fAnd (FD.t (FE.d (fOp2P sIsNot 2 ((fLit .non))))) (fNot ((FD.t (FE.d (fCall 1 F_is_whole g (fCons ((fVar 2)) fNil)))))))) (fThen (fRet ((FD.toE (fLit (.bl false))))) fSkip) fSkip) fSkip)
def fb_are_limits (g : Nat) : FS := (fThen (fFor (fSeq ((fTup (fCons ((fVar 0)) (fCons ((fVar 1)) fNil))))) (gNam 2) (lb_are_limits_0 g)) (fThen (fRet ((FD.toE (fOrV ((FE.d (fOp2P sIs 0 ((fLit .non))))) (fOrV ((FE.d (fOp2P sIs 1 ((fLit .non))))) ((FE.d (fOp2P (onInts iLe) 0 (fSee 1))))))))) fSkip))
def F_are_limits : FF := fun g a => runF 3 (fb_are_limits g) a
def lb_are_names_0 (g : Nat) : FS := (fThen (fIf ((fOr (fNot ((FD.t (FE.d (fCall 2 F_is_known g (fCons ((fVar 3)) (fCons ((fVar 1)) fNil))))))) (fAlt (FD.t (FE.d (fOp2 sIn ((fVar 3)) ((FE.d (fSliceP g 0 fNoPart (fPart ((fVar 2))))))))) (FD.t (FE.d (fOp2 (dHas false) ((fVar 3)) ((FE.d (fSliceP g 0 fNoPart (fPart ((fVar 2)))))))))))) (fThen (fRet ((FD.toE (fLit (.bl false))))) fSkip) fSkip) fSkip)
def fb_are_names (g : Nat) : FS := (fThen (fIf (fNot ((FD.t (FE.d (fOp1 (dIsi .list) (fSee 0)))))) (fThen (fRet ((FD.toE (fLit (.bl false))))) fSkip) fSkip) (fThen (fFor (fEnum ((fVar 0))) (gTupN [2, 3]) (lb_are_names_0 g)) (fThen (fRet ((FD.toE (fLit (.bl true))))) fSkip)))
def F_are_names : FF := fun g a => runF 4 (fb_are_names g) a
def fb_is_alias (g : Nat) : FS := (fThen (fRet ((FD.toE (fAndV ((FE.d (fOp2 sEq ((FE.d (fAlt (fOp2P dIx 0 ((fLit (.int 0)))) (fOp2P dGet 0 ((fLit (.int 0))))))) ((fLit (.str "plus")))))) (fAndV ((FE.d (fAlt (fOp2 sIn ((FE.d (fAlt (fOp2P dIx 0 ((fLit (.int 1)))) (fOp2P dGet 0 ((fLit (.int 1))))))) (fSee 1)) (fOp2 (dHas false) ((FE.d (fAlt (fOp2P dIx 0 ((fLit (.int 1)))) (fOp2P dGet 0 ((fLit (.int 1))))))) (fSee 1))))) ((FE.d (fOp2 sEq ((FE.d (fAlt (fOp2P dIx 0 ((fLit (.int 2)))) (fOp2P dGet 0 ((fLit (.int 2))))))) ((fLit (.int 0))))))))))) fSkip)
def F_is_alias : FF := fun g a => runF 2 (fb_is_alias g) a
def fb_is_permitted (g : Nat) : FS := (fThen (fIf ((FD.t (FE.d (fCall 3 F_has_word g (fCons ((fVar 0)) (fCons ((fLit (.str "sealed"))) (fCons ((fLit (.int 3))) fNil))))))) (fThen (fRet (fCall 2 F_are_limits g (fCons ((FE.d (fAlt (fOp2P dIx 0 ((fLit (.int 1)))) (fOp2P dGet 0 ((fLit (.int 1))))))) (fCons ((FE.d (fAlt (fOp2P dIx 0 ((fLit (.int 2)))) (fOp2P dGet 0 ((fLit (.int 2))))))) fNil)))) fSkip) fSkip) (fThen (fIf ((FD.t (FE.d (fCall 3 F_has_word g (fCons ((fVar 0)) (fCons ((fLit (.str "free"))) (fCons ((fLit (.int 4))) fNil))))))) (fThen (fRet ((FD.toE (fAndV ((FE.d (fCall 2 F_are_limits g (fCons ((FE.d (fAlt (fOp2P dIx 0 ((fLit (.int 1)))) (fOp2P dGet 0 ((fLit (.int 1))))))) (fCons ((FE.d (fAlt (fOp2P dIx 0 ((fLit (.int 2)))) (fOp2P dGet 0 ((fLit (.int 2))))))) fNil))))) ((FE.d (fCall 2 F_are_names g (fCons ((FE.d (fAlt (fOp2P dIx 0 ((fLit (.int 3)))) (fOp2P dGet 0 ((fLit (.int 3))))))) (fCons ((fVar 2)) fNil))))))))) fSkip) fSkip) (fThen (fIf ((FD.t (FE.d (fCall 3 F_has_word g (fCons ((fVar 0)) (fCons ((fLit (.str "choice"))) (fCons ((fLit (.int 2))) fNil))))))) (fThen (fRet ((FD.toE (fAndV ((FE.d (fCall 2 F_are_names g (fCons ((FE.d (fAlt (fOp2P dIx 0 ((fLit (.int 1)))) (fOp2P dGet 0 ((fLit (.int 1))))))) (fCons ((fVar 2)) fNil))))) ((FE.d (fCall 2 F_is_alias g (fCons ((fVar 1)) (fCons ((FE.d (fAlt (fOp2P dIx 0 ((fLit (.int 1)))) (fOp2P dGet 0 ((fLit (.int 1))))))) fNil))))))))) fSkip) fSkip) (fThen (fRet ((FD.toE (fAndV ((FE.d (fCall 3 F_has_word g (fCons ((fVar 0)) (fCons ((fLit (.str "extend"))) (fCons ((fLit (.int 2))) fNil)))))) (fAndV ((FE.d (fCall 2 F_are_names g (fCons ((FE.d (fAlt (fOp2P dIx 0 ((fLit (.int 1)))) (fOp2P dGet 0 ((fLit (.int 1))))))) (fCons ((fVar 2)) fNil))))) ((FE.d (fAlt (fOp2 sIn ((FE.d (fAlt (fOp2P dIx 1 ((fLit (.int 0)))) (fOp2P dGet 1 ((fLit (.int 0))))))) ((fTup (fCons ((fLit (.str "max"))) (fCons ((fLit (.str "min"))) fNil))))) (fOp2 (dHas false) ((FE.d (fAlt (fOp2P dIx 1 ((fLit (.int 0)))) (fOp2P dGet 1 ((fLit (.int 0))))))) ((fTup (fCons ((fLit (.str "max"))) (fCons ((fLit (.str "min"))) fNil))))))))))))) fSkip))))
def F_is_permitted : FF := fun g a => runF 3 (fb_is_permitted g) a
def lb_are_settings_0 (g : Nat) : FS := (fThen (fIf ((fOr (fNot ((FD.t (FE.d (fCall 2 F_is_definition g (fCons ((fVar 5)) (fCons ((fVar 1)) fNil))))))) (fNot ((FD.t (FE.d (fCall 3 F_is_permitted g (fCons ((fVar 4)) (fCons ((fVar 5)) (fCons ((fVar 1)) fNil)))))))))) (fThen (fRet ((FD.toE (fLit (.bl false))))) fSkip) fSkip) fSkip)
def lb_are_settings_1 (g : Nat) : FS := (fThen (fIf ((fOr (fNot ((FD.t (FE.d (fOp1 (dIsi .tuple) (fSee 2)))))) (fOr (FD.t (FE.d (fOp2 sNe ((FE.d (fOp1 dLen (fSee 2)))) ((fLit (.int 3)))))) (fOr (fNot ((FD.t (FE.d (fCall 1 F_is_name g (fCons ((FE.d (fAlt (fOp2P dIx 2 ((fLit (.int 0)))) (fOp2P dGet 2 ((fLit (.int 0))))))) fNil)))))) (fAlt (FD.t (FE.d (fOp2 sIn ((FE.d (fAlt (fOp2P dIx 2 ((fLit (.int 0)))) (fOp2P dGet 2 ((fLit (.int 0))))))) (fSee 1)))) (FD.t (FE.d (fOp2 (dHas false) ((FE.d (fAlt (fOp2P dIx 2 ((fLit (.int 0)))) (fOp2P dGet 2 ((fLit (.int 0))))))) (fSee 1))))))))) (fThen (fRet ((FD.toE (fLit (.bl false))))) fSkip) fSkip) (fThen (fApp 1 ((FE.d (fAlt (fOp2P dIx 2 ((fLit (.int 0)))) (fOp2P dGet 2 ((fLit (.int 0)))))))) fSkip))
def fb_are_settings (g : Nat) : FS := (fThen (fIf (fNot ((FD.t (FE.d (fOp1 (dIsi .list) (fSee 0)))))) (fThen (fRet ((FD.toE (fLit (.bl false))))) fSkip) fSkip) (fThen (fSet 1 (fLst g fNil)) (fThen (fFor (fSeq ((fVar 0))) (gNam 2) (lb_are_settings_1 g)) (fThen (fFor (fSeq ((fVar 0))) (gTupN [3, 4, 5]) (lb_are_settings_0 g)) (fThen (fRet ((FD.toE (fLit (.bl true))))) fSkip)))))
def F_are_settings : FF := fun g a => runF 6 (fb_are_settings g) a
def fb_copied (g : Nat) : FS := (fThen (fRet (fOp1 dTuple ((FE.d (fLc g [1] (fSeq ((fVar 0))) (gNam 1) fYes ((FE.d (fIte ((FD.t (FE.d (fOp1 (dIsi .list) (fSee 1))))) (fOp1 (dList g) (fSee 1)) ((FD.toE (fVar 1))))))))))) fSkip)
def F_copied : FF := fun g a => runF 2 (fb_copied g) a
def fb_copied_setting (g : Nat) : FS := (fThen (fRet ((FD.toE (fTup (fCons ((FE.d (fAlt (fOp2P dIx 0 ((fLit (.int 0)))) (fOp2P dGet 0 ((fLit (.int 0))))))) (fCons ((FE.d (fCall 1 F_copied g (fCons ((FE.d (fAlt (fOp2P dIx 0 ((fLit (.int 1)))) (fOp2P dGet 0 ((fLit (.int 1))))))) fNil)))) (fCons ((FE.d (fCall 1 F_copied g (fCons ((FE.d (fAlt (fOp2P dIx 0 ((fLit (.int 2)))) (fOp2P dGet 0 ((fLit (.int 2))))))) fNil)))) fNil))))))) fSkip)
def F_copied_setting : FF := fun g a => runF 1 (fb_copied_setting g) a
def fb_operands_of (g : Nat) : FS := (fThen (fIf (FD.t (FE.d (fOp2 sEq ((FE.d (fAlt (fOp2P dIx 0 ((fLit (.int 0)))) (fOp2P dGet 0 ((fLit (.int 0))))))) ((fLit (.str "plus")))))) (fThen (fRet (fLst g (fCons ((FE.d (fAlt (fOp2P dIx 0 ((fLit (.int 1)))) (fOp2P dGet 0 ((fLit (.int 1))))))) fNil))) fSkip) fSkip) (fThen (fIf (fAlt (FD.t (FE.d (fOp2 sIn ((FE.d (fAlt (fOp2P dIx 0 ((fLit (.int 0)))) (fOp2P dGet 0 ((fLit (.int 0))))))) ((fTup (fCons ((fLit (.str "max"))) (fCons ((fLit (.str "min"))) fNil))))))) (FD.t (FE.d (fOp2 (dHas false) ((FE.d (fAlt (fOp2P dIx 0 ((fLit (.int 0)))) (fOp2P dGet 0 ((fLit (.int 0))))))) ((fTup (fCons ((fLit (.str "max"))) (fCons ((fLit (.str "min"))) fNil)))))))) (fThen (fRet (fOp1 (dList g) ((FE.d (fAlt (fOp2P dIx 0 ((fLit (.int 1)))) (fOp2P dGet 0 ((fLit (.int 1))))))))) fSkip) fSkip) (fThen (fRet (fOp1 (dList g) ((FE.d (fSliceP g 0 (fPart ((fLit (.int 1)))) fNoPart))))) fSkip)))
def F_operands_of : FF := fun g a => runF 1 (fb_operands_of g) a
def fb_names_in (g : Nat) : FS := (fThen (fRet (fLc g [1] (fSeq ((FE.d (fCall 1 F_operands_of g (fCons ((fVar 0)) fNil))))) (gNam 1) ((FD.t (FE.d (fOp1 (dIsi .str) (fSee 1))))) ((fVar 1)))) fSkip)
def F_names_in : FF := fun g a => runF 2 (fb_names_in g) a
def fb_permitted_names (g : Nat) : FS := (fThen (fIf (FD.t (FE.d (fOp2 sEq ((FE.d (fAlt (fOp2P dIx 0 ((fLit (.int 0)))) (fOp2P dGet 0 ((fLit (.int 0))))))) ((fLit (.str "sealed")))))) (fThen (fRet (fLst g fNil)) fSkip) fSkip) (fThen (fRet (fOp1 (dList g) ((FE.d (fAlt (fOp2P dIx 0 ((FE.d (fOp1 dNeg ((fLit (.int 1))))))) (fOp2P dGet 0 ((FE.d (fOp1 dNeg ((fLit (.int 1)))))))))))) fSkip))
def F_permitted_names : FF := fun g a => runF 1 (fb_permitted_names g) a
def fb_mentions (g : Nat) : FS := (fThen (fRet (fOp2 (dAdd g) ((FE.d (fCall 1 F_names_in g (fCons ((FE.d (fAlt (fOp2P dIx 0 ((fLit (.int 2)))) (fOp2P dGet 0 ((fLit (.int 2))))))) fNil)))) ((FE.d (fCall 1 F_permitted_names g (fCons ((FE.d (fAlt (fOp2P dIx 0 ((fLit (.int 1)))) (fOp2P dGet 0 ((fLit (.int 1))))))) fNil)))))) fSkip)
def F_mentions : FF := fun g a => runF 1 (fb_mentions g) a
def lb_ranks_of_0 (g : Nat) : FS := (fThen (fSet 4 (fCall 1 F_mentions g (fCons ((fVar 3)) fNil))) (fThen (fIf ((fAnd (fAlt (FD.t (FE.d (fOp2 sNin ((FE.d (fAlt (fOp2P dIx 3 ((fLit (.int 0)))) (fOp2P dGet 3 ((fLit (.int 0))))))) (fSee 1)))) (FD.t (FE.d (fOp2 (dHas true) ((FE.d (fAlt (fOp2P dIx 3 ((fLit (.int 0)))) (fOp2P dGet 3 ((fLit (.int 0))))))) (fSee 1))))) (FD.t (FE.d (fOp2 sEq ((FE.d (fLc g [5] (fSeq ((fVar 4))) (gNam 5) (fAlt (FD.t (FE.d (fOp2 sNin ((fVar 5)) (fSee 1)))) (FD.t (FE.d (fOp2 (dHas true) ((fVar 5)) (fSee 1))))) ((fVar 5))))) ((FE.d (fLst g fNil)))))))) (fThen (fSetK 1 ((FE.d (fAlt (fOp2P dIx 3 ((fLit (.int 0)))) (fOp2P dGet 3 ((fLit (.int 0))))))) ((FE.d (fOp2 (dAdd g) ((fLit (.int 1))) ((FE.d (fOp1 dMax ((FE.d (fOp2 (dAdd g) ((FE.d (fLc g [5] (fSeq ((fVar 4))) (gNam 5) fYes ((FE.d (fAlt (fOp2P dIx 1 (fSee 5)) (fOp2P dGet 1 (fSee 5)))))))) ((FE.d (fLst g (fCons ((FE.d (fOp1 dNeg ((fLit (.int 1)))))) fNil)))))))))))))) fSkip) fSkip) fSkip))
def lb_ranks_of_1 (g : Nat) : FS := (fThen (fFor (fSeq ((fVar 0))) (gNam 3) (lb_ranks_of_0 g)) fSkip)
def fb_ranks_of (g : Nat) : FS := (fThen (fSet 1 (fDct0 g)) (fThen (fFor (fRange1 ((FE.d (fOp1 dLen (fSee 0))))) (gNam 2) (lb_ranks_of_1 g)) (fThen (fRet (fMove 1)) fSkip)))
def F_ranks_of : FF := fun g a => runF 6 (fb_ranks_of g) a
def fb_ring_in (g : Nat) : FS := (fThen (fSet 1 (fCall 1 F_ranks_of g (fCons ((fVar 0)) fNil))) (fThen (fSet 2 (fDc g [3] (fSeq ((fVar 0))) (gNam 3) (fAlt (FD.t (FE.d (fOp2 sNin ((FE.d (fAlt (fOp2P dIx 3 ((fLit (.int 0)))) (fOp2P dGet 3 ((fLit (.int 0))))))) (fSee 1)))) (FD.t (FE.d (fOp2 (dHas true) ((FE.d (fAlt (fOp2P dIx 3 ((fLit (.int 0)))) (fOp2P dGet 3 ((fLit (.int 0))))))) (fSee 1))))) ((FE.d (fAlt (fOp2P dIx 3 ((fLit (.int 0)))) (fOp2P dGet 3 ((fLit (.int 0))))))) ((FE.d (fCall 1 F_mentions g (fCons ((fVar 3)) fNil)))))) (fThen (fIf (FD.t (FE.d (fOp2P (dEqK true) 2 ((FE.d (fDct0 g)))))) (fThen (fRet ((FD.toE (fLit .non)))) fSkip) fSkip) (fThen (fSet 4 (fSlice g ((FE.d (fLc g [3] (fSeq ((fVar 0))) (gNam 3) (fAlt (FD.t (FE.d (fOp2 sIn ((FE.d (fAlt (fOp2P dIx 3 ((fLit (.int 0)))) (fOp2P dGet 3 ((fLit (.int 0))))))) (fSee 2)))) (FD.t (FE.d (fOp2 (dHas false) ((FE.d (fAlt (fOp2P dIx 3 ((fLit (.int 0)))) (fOp2P dGet 3 ((fLit (.int 0))))))) (fSee 2))))) ((FE.d (fAlt (fOp2P dIx 3 ((fLit (.int 0)))) (fOp2P dGet 3 ((fLit (.int 0)))))))))) fNoPart (fPart ((fLit (.int 1)))))) (fThen (whileRun ((FD.t (fLit (.bl true)))) (fThen (fSet 5 (fAlt (fOp2 dIx ((FE.d (fLc g [6] (fSeq ((FE.d (fAlt (fOp2P dIx 2 ((FE.d (fAlt (fOp2P dIx 4 ((FE.d (fOp1 dNeg ((fLit (.int 1))))))) (fOp2P dGet 4 ((FE.d (fOp1 dNeg ((fLit (.int 1))))))))))) (fOp2P dGet 2 ((FE.d (fAlt (fOp2P dIx 4 ((FE.d (fOp1 dNeg ((fLit (.int 1))))))) (fOp2P dGet 4 ((FE.d (fOp1 dNeg ((fLit (.int 1))))))))))))))) (gNam 6) (fAlt (FD.t (FE.d (fOp2 sIn ((fVar 6)) (fSee 2)))) (FD.t (FE.d (fOp2 (dHas false) ((fVar 6)) (fSee 2))))) ((fVar 6))))) ((fLit (.int 0)))) (fOp2 dGet ((FE.d (fLc g [6] (fSeq ((FE.d (fAlt (fOp2P dIx 2 ((FE.d (fAlt (fOp2P dIx 4 ((FE.d (fOp1 dNeg ((fLit (.int 1))))))) (fOp2P dGet 4 ((FE.d (fOp1 dNeg ((fLit (.int 1))))))))))) (fOp2P dGet 2 ((FE.d (fAlt (fOp2P dIx 4 ((FE.d (fOp1 dNeg ((fLit (.int 1))))))) (fOp2P dGet 4 ((FE.d (fOp1 dNeg ((fLit (.int 1))))))))))))))) (gNam 6) (fAlt (FD.t (FE.d (fOp2 sIn ((fVar 6)) (fSee 2)))) (FD.t (FE.d (fOp2 (dHas false) ((fVar 6)) (fSee 2))))) ((fVar 6))))) ((fLit (.int 0)))))) (fThen (fIf (fAlt (FD.t (FE.d (fOp2 sIn ((fVar 5)) (fSee 4)))) (FD.t (FE.d (fOp2 (dHas false) ((fVar 5)) (fSee 4))))) (fThen (fRet (fLc g [7, 6] (fEnum ((fVar 4))) (gTupN [7, 6]) (fAlt (FD.t (FE.d (fOp2 sIn ((fVar 5)) ((FE.d (fSliceP g 4 fNoPart (fPart ((FE.d (fOp2 (dAdd g) ((fVar 7)) ((fLit (.int 1))))))))))))) (FD.t (FE.d (fOp2 (dHas false) ((fVar 5)) ((FE.d (fSliceP g 4 fNoPart (fPart ((FE.d (fOp2 (dAdd g) ((fVar 7)) ((fLit (.int 1)))))))))))))) ((fVar 6)))) fSkip) fSkip) (fThen (fSet 4 (fOp2 (dAdd g) ((fVar 4)) ((FE.d (fLst g (fCons ((fVar 5)) fNil)))))) fSkip))) 100) fSkip)))))
def F_ring_in : FF := fun g a => runF 8 (fb_ring_in g) a
def fb_operand_value (g : Nat) : FS := (fThen (fRet (fIte ((FD.t (FE.d (fCall 1 F_is_whole g (fCons ((fVar 0)) fNil))))) ((FD.toE (fVar 0))) (fAlt (fOp2P dIx 1 (fSee 0)) (fOp2P dGet 1 (fSee 0))))) fSkip)
def F_operand_value : FF := fun g a => runF 2 (fb_operand_value g) a
def fb_definition_value (g : Nat) : FS := (fThen (fSet 2 (fAlt (fOp2P dIx 0 ((fLit (.int 0)))) (fOp2P dGet 0 ((fLit (.int 0)))))) (fThen (fIf (FD.t (FE.d (fOp2P sEq 2 ((fLit (.str "number")))))) (fThen (fRet (fAlt (fOp2P dIx 0 ((fLit (.int 1)))) (fOp2P dGet 0 ((fLit (.int 1)))))) fSkip) fSkip) (fThen (fIf (FD.t (FE.d (fOp2P sEq 2 ((fLit (.str "plus")))))) (fThen (fRet (fOp2 (dAdd g) ((FE.d (fAlt (fOp2P dIx 1 ((FE.d (fAlt (fOp2P dIx 0 ((fLit (.int 1)))) (fOp2P dGet 0 ((fLit (.int 1)))))))) (fOp2P dGet 1 ((FE.d (fAlt (fOp2P dIx 0 ((fLit (.int 1)))) (fOp2P dGet 0 ((fLit (.int 1))))))))))) ((FE.d (fAlt (fOp2P dIx 0 ((fLit (.int 2)))) (fOp2P dGet 0 ((fLit (.int 2))))))))) fSkip) fSkip) (fThen (fIf (FD.t (FE.d (fOp2P sEq 2 ((fLit (.str "if")))))) (fThen (fSetT [3, 4, 5, 6] ((FE.d (fSliceP g 0 (fPart ((fLit (.int 1)))) fNoPart)))) (fThen (fSet 7 (fIte (FD.t (FE.d (fOp2 (onInts iGe) ((FE.d (fCall 2 F_operand_value g (fCons ((fVar 3)) (fCons ((fVar 1)) fNil))))) ((FE.d (fCall 2 F_operand_value g (fCons ((fVar 4)) (fCons ((fVar 1)) fNil)))))))) ((FD.toE (fVar 5))) ((FD.toE (fVar 6))))) (fThen (fRet (fCall 2 F_operand_value g (fCons ((fVar 7)) (fCons ((fVar 1)) fNil)))) fSkip))) fSkip) (fThen (fSet 8 (fLc g [9] (fSeq ((FE.d (fAlt (fOp2P dIx 0 ((fLit (.int 1)))) (fOp2P dGet 0 ((fLit (.int 1)))))))) (gNam 9) fYes ((FE.d (fCall 2 F_operand_value g (fCons ((fVar 9)) (fCons ((fVar 1)) fNil))))))) (fThen (fRet (fIte (FD.t (FE.d (fOp2P sEq 2 ((fLit (.str "max")))))) (fOp1 dMax (fSee 8)) (fOp1 dMin (fSee 8)))) fSkip))))))
def F_definition_value : FF := fun g a => runF 10 (fb_definition_value g) a
def fb_limits_of (g : Nat) : FS := (fThen (fIf (fAlt (FD.t (FE.d (fOp2 sIn ((FE.d (fAlt (fOp2P dIx 0 ((fLit (.int 0)))) (fOp2P dGet 0 ((fLit (.int 0))))))) ((fTup (fCons ((fLit (.str "sealed"))) (fCons ((fLit (.str "free"))) fNil))))))) (FD.t (FE.d (fOp2 (dHas false) ((FE.d (fAlt (fOp2P dIx 0 ((fLit (.int 0)))) (fOp2P dGet 0 ((fLit (.int 0))))))) ((fTup (fCons ((fLit (.str "sealed"))) (fCons ((fLit (.str "free"))) fNil)))))))) (fThen (fRet ((FD.toE (fTup (fCons ((FE.d (fAlt (fOp2P dIx 0 ((fLit (.int 1)))) (fOp2P dGet 0 ((fLit (.int 1))))))) (fCons ((FE.d (fAlt (fOp2P dIx 0 ((fLit (.int 2)))) (fOp2P dGet 0 ((fLit (.int 2))))))) fNil)))))) fSkip) fSkip) (fThen (fRet ((FD.toE (fTup (fCons ((fLit .non)) (fCons ((fLit .non)) fNil)))))) fSkip))
def F_limits_of : FF := fun g a => runF 1 (fb_limits_of g) a
def fb_setting_value (g : Nat) : FS := (fThen (fSet 2 (fCall 2 F_definition_value g (fCons ((FE.d (fAlt (fOp2P dIx 0 ((fLit (.int 2)))) (fOp2P dGet 0 ((fLit (.int 2))))))) (fCons ((fVar 1)) fNil)))) (fThen (fSetT [3, 4] ((FE.d (fCall 1 F_limits_of g (fCons ((FE.d (fAlt (fOp2P dIx 0 ((fLit (.int 1)))) (fOp2P dGet 0 ((fLit (.int 1))))))) fNil))))) (fThen (fIf ((fAnd (FD.t (FE.d (fOp2P sIsNot 3 ((fLit .non))))) (FD.t (FE.d (fOp2P (onInts iLt) 2 (fSee 3)))))) (fThen (fRet (fMove 3)) fSkip) fSkip) (fThen (fIf ((fAnd (FD.t (FE.d (fOp2P sIsNot 4 ((fLit .non))))) (FD.t (FE.d (fOp2P (onInts iGt) 2 (fSee 4)))))) (fThen (fRet (fMove 4)) fSkip) fSkip) (fThen (fRet (fMove 2)) fSkip)))))
def F_setting_value : FF := fun g a => runF 5 (fb_setting_value g) a
def lb_values_of_0 (g : Nat) : FS := (fThen (fIf (FD.t (FE.d (fOp2 sEq ((FE.d (fAlt (fOp2P dIx 2 ((FE.d (fAlt (fOp2P dIx 4 ((fLit (.int 0)))) (fOp2P dGet 4 ((fLit (.int 0)))))))) (fOp2P dGet 2 ((FE.d (fAlt (fOp2P dIx 4 ((fLit (.int 0)))) (fOp2P dGet 4 ((fLit (.int 0))))))))))) (fSee 3)))) (fThen (fSetK 1 ((FE.d (fAlt (fOp2P dIx 4 ((fLit (.int 0)))) (fOp2P dGet 4 ((fLit (.int 0))))))) ((FE.d (fKeep 1 (g+1) (fCall 2 F_setting_value g (fCons ((fVar 4)) (fCons ((fVar 1)) fNil))))))) fSkip) fSkip) fSkip)
def lb_values_of_1 (g : Nat) : FS := (fThen (fFor (fSeq ((fVar 0))) (gNam 4) (lb_values_of_0 g)) fSkip)
def fb_values_of (g : Nat) : FS := (fThen (fSet 1 (fDct0 (g+1))) (fThen (fSet 2 (fCall 1 F_ranks_of g (fCons ((fVar 0)) fNil))) (fThen (fFor (fRange1 ((FE.d (fOp1 dLen (fSee 0))))) (gNam 3) (lb_values_of_1 g)) (fThen (fRet (fMove 1)) fSkip))))
def F_values_of : FF := fun g a => runF 5 (fb_values_of g) a
def fb_Book_init (g : Nat) : FS := (fThen (fIf (fNot ((FD.t (FE.d (fCall 1 F_are_settings g (fCons ((fVar 1)) fNil)))))) (fThen (fNo) fSkip) fSkip) (fThen (fSet 2 (fCall 1 F_ring_in g (fCons ((fVar 1)) fNil))) (fThen (fIf (FD.t (FE.d (fOp2P sIsNot 2 ((fLit .non))))) (fThen (fNo) fSkip) fSkip) (fThen (fSetF 0 0 0 ((FE.d (fLc g [3] (fSeq ((fVar 1))) (gNam 3) fYes ((FE.d (fCall 1 F_copied_setting g (fCons ((fVar 3)) fNil)))))))) (fThen (fSetF 0 0 1 ((FE.d (fCall 1 F_values_of g (fCons ((FE.d (fFldI 0 0 0))) fNil))))) fSkip)))))
def F_Book_init : FI := fun g a => lenN 2 (runI 0 4 (fb_Book_init g) a)
def fb_Book_names (g : Nat) : FS := (fThen (fRet (fLc g [1] (fSeq ((FE.d (fOp1 (dFld 0 0) ((fVar 0)))))) (gNam 1) fYes ((FE.d (fAlt (fOp2P dIx 1 ((fLit (.int 0)))) (fOp2P dGet 1 ((fLit (.int 0))))))))) fSkip)
def F_Book_names : FF := fun g a => runF 2 (fb_Book_names g) a
def fb_allows (g : Nat) : FS := (fThen (fIf (FD.t (FE.d (fOp2 sEq ((FE.d (fAlt (fOp2P dIx 1 ((fLit (.int 0)))) (fOp2P dGet 1 ((fLit (.int 0))))))) ((fLit (.str "seal")))))) (fThen (fRet (fOp2 sNe ((FE.d (fAlt (fOp2P dIx 0 ((fLit (.int 0)))) (fOp2P dGet 0 ((fLit (.int 0))))))) ((fLit (.str "sealed"))))) fSkip) fSkip) (fThen (fIf (FD.t (FE.d (fOp2 sEq ((FE.d (fAlt (fOp2P dIx 1 ((fLit (.int 0)))) (fOp2P dGet 1 ((fLit (.int 0))))))) ((fLit (.str "add")))))) (fThen (fRet ((FD.toE (fAndV ((FE.d (fOp2 sEq ((FE.d (fAlt (fOp2P dIx 0 ((fLit (.int 0)))) (fOp2P dGet 0 ((fLit (.int 0))))))) ((fLit (.str "extend")))))) ((fOrV ((FE.d (fCall 1 F_is_whole g (fCons ((FE.d (fAlt (fOp2P dIx 1 ((fLit (.int 2)))) (fOp2P dGet 1 ((fLit (.int 2))))))) fNil)))) ((FE.d (fAlt (fOp2 sIn ((FE.d (fAlt (fOp2P dIx 1 ((fLit (.int 2)))) (fOp2P dGet 1 ((fLit (.int 2))))))) ((FE.d (fAlt (fOp2P dIx 0 ((fLit (.int 1)))) (fOp2P dGet 0 ((fLit (.int 1)))))))) (fOp2 (dHas false) ((FE.d (fAlt (fOp2P dIx 1 ((fLit (.int 2)))) (fOp2P dGet 1 ((fLit (.int 2))))))) ((FE.d (fAlt (fOp2P dIx 0 ((fLit (.int 1)))) (fOp2P dGet 0 ((fLit (.int 1))))))))))))))))) fSkip) fSkip) (fThen (fIf (FD.t (FE.d (fOp2 sEq ((FE.d (fAlt (fOp2P dIx 0 ((fLit (.int 0)))) (fOp2P dGet 0 ((fLit (.int 0))))))) ((fLit (.str "choice")))))) (fThen (fRet (fCall 2 F_is_alias g (fCons ((FE.d (fAlt (fOp2P dIx 1 ((fLit (.int 2)))) (fOp2P dGet 1 ((fLit (.int 2))))))) (fCons ((FE.d (fAlt (fOp2P dIx 0 ((fLit (.int 1)))) (fOp2P dGet 0 ((fLit (.int 1))))))) fNil)))) fSkip) fSkip) (fThen (fRet ((FD.toE (fAndV ((FE.d (fOp2 sEq ((FE.d (fAlt (fOp2P dIx 0 ((fLit (.int 0)))) (fOp2P dGet 0 ((fLit (.int 0))))))) ((fLit (.str "free")))))) ((FE.d (fOp2 sEq ((FE.d (fLc g [2] (fSeq ((FE.d (fCall 1 F_names_in g (fCons ((FE.d (fAlt (fOp2P dIx 1 ((fLit (.int 2)))) (fOp2P dGet 1 ((fLit (.int 2))))))) fNil))))) (gNam 2) (fAlt (FD.t (FE.d (fOp2 sNin ((fVar 2)) ((FE.d (fAlt (fOp2P dIx 0 ((fLit (.int 3)))) (fOp2P dGet 0 ((fLit (.int 3)))))))))) (FD.t (FE.d (fOp2 (dHas true) ((fVar 2)) ((FE.d (fAlt (fOp2P dIx 0 ((fLit (.int 3)))) (fOp2P dGet 0 ((fLit (.int 3))))))))))) ((fVar 2))))) ((FE.d (fLst g fNil)))))))))) fSkip))))
def F_allows : FF := fun g a => runF 3 (fb_allows g) a
def fb_sealed (g : Nat) : FS := (fThen (fSetT [1, 2] ((FE.d (fCall 1 F_limits_of g (fCons ((FE.d (fAlt (fOp2P dIx 0 ((fLit (.int 1)))) (fOp2P dGet 0 ((fLit (.int 1))))))) fNil))))) (fThen (fRet ((FD.toE (fTup (fCons ((FE.d (fAlt (fOp2P dIx 0 ((fLit (.int 0)))) (fOp2P dGet 0 ((fLit (.int 0))))))) (fCons ((fTup (fCons ((fLit (.str "sealed"))) (fCons ((fVar 1)) (fCons ((fVar 2)) fNil))))) (fCons ((FE.d (fCall 1 F_copied g (fCons ((FE.d (fAlt (fOp2P dIx 0 ((fLit (.int 2)))) (fOp2P dGet 0 ((fLit (.int 2))))))) fNil)))) fNil))))))) fSkip))
def F_sealed : FF := fun g a => runF 3 (fb_sealed g) a
def fb_applied (g : Nat) : FS := (fThen (fIf (FD.t (FE.d (fOp2 sEq ((FE.d (fAlt (fOp2P dIx 1 ((fLit (.int 0)))) (fOp2P dGet 1 ((fLit (.int 0))))))) ((fLit (.str "seal")))))) (fThen (fRet (fCall 1 F_sealed g (fCons ((fVar 0)) fNil))) fSkip) fSkip) (fThen (fIf (FD.t (FE.d (fOp2 sEq ((FE.d (fAlt (fOp2P dIx 1 ((fLit (.int 0)))) (fOp2P dGet 1 ((fLit (.int 0))))))) ((fLit (.str "set")))))) (fThen (fRet ((FD.toE (fTup (fCons ((FE.d (fAlt (fOp2P dIx 0 ((fLit (.int 0)))) (fOp2P dGet 0 ((fLit (.int 0))))))) (fCons ((FE.d (fCall 1 F_copied g (fCons ((FE.d (fAlt (fOp2P dIx 0 ((fLit (.int 1)))) (fOp2P dGet 0 ((fLit (.int 1))))))) fNil)))) (fCons ((FE.d (fCall 1 F_copied g (fCons ((FE.d (fAlt (fOp2P dIx 1 ((fLit (.int 2)))) (fOp2P dGet 1 ((fLit (.int 2))))))) fNil)))) fNil))))))) fSkip) fSkip) (fThen (fSetT [2, 3] ((FE.d (fAlt (fOp2P dIx 0 ((fLit (.int 2)))) (fOp2P dGet 0 ((fLit (.int 2)))))))) (fThen (fRet ((FD.toE (fTup (fCons ((FE.d (fAlt (fOp2P dIx 0 ((fLit (.int 0)))) (fOp2P dGet 0 ((fLit (.int 0))))))) (fCons ((FE.d (fCall 1 F_copied g (fCons ((FE.d (fAlt (fOp2P dIx 0 ((fLit (.int 1)))) (fOp2P dGet 0 ((fLit (.int 1))))))) fNil)))) (fCons ((fTup (fCons ((fVar 2)) (fCons ((FE.d (fOp2 (dAdd g) ((fVar 3)) ((FE.d (fLst g (fCons ((FE.d (fAlt (fOp2P dIx 1 ((fLit (.int 2)))) (fOp2P dGet 1 ((fLit (.int 2))))))) fNil))))))) fNil)))) fNil))))))) fSkip))))
def F_applied : FF := fun g a => runF 4 (fb_applied g) a
def lb_after_rows_0 (g : Nat) : FS := (fThen (fIf ((fAnd (FD.t (FE.d (fOp2 sEq ((FE.d (fAlt (fOp2P dIx 6 ((fLit (.int 0)))) (fOp2P dGet 6 ((fLit (.int 0))))))) ((FE.d (fAlt (fOp2P dIx 5 ((fLit (.int 1)))) (fOp2P dGet 5 ((fLit (.int 1)))))))))) (fNot ((FD.t (FE.d (fCall 2 F_allows g (fCons ((FE.d (fAlt (fOp2P dIx 6 ((fLit (.int 1)))) (fOp2P dGet 6 ((fLit (.int 1))))))) (fCons ((fVar 5)) fNil))))))))) (fThen (fNo) fSkip) fSkip) fSkip)
def lb_after_rows_1 (g : Nat) : FS := (fThen (fFor (fSeq ((fVar 2))) (gNam 6) (lb_after_rows_0 g)) (fThen (fSet 2 (fLc g [6] (fSeq ((fVar 2))) (gNam 6) fYes ((FE.d (fIte (FD.t (FE.d (fOp2 sEq ((FE.d (fAlt (fOp2P dIx 6 ((fLit (.int 0)))) (fOp2P dGet 6 ((fLit (.int 0))))))) ((FE.d (fAlt (fOp2P dIx 5 ((fLit (.int 1)))) (fOp2P dGet 5 ((fLit (.int 1)))))))))) (fCall 2 F_applied g (fCons ((fVar 6)) (fCons ((fVar 5)) fNil))) ((FD.toE (fVar 6)))))))) fSkip))
def fb_after_rows (g : Nat) : FS := (fThen (fSet 2 (fLc g [3] (fSeq ((fVar 0))) (gNam 3) fYes ((FE.d (fCall 1 F_copied_setting g (fCons ((fVar 3)) fNil)))))) (fThen (fFor (fEnum ((fVar 1))) (gTupN [4, 5]) (lb_after_rows_1 g)) (fThen (fRet (fMove 2)) fSkip)))
def F_after_rows : FF := fun g a => runF 7 (fb_after_rows g) a
def fb_is_row (g : Nat) : FS := (fThen (fIf ((FD.t (FE.d (fCall 3 F_has_word g (fCons ((fVar 0)) (fCons ((fLit (.str "set"))) (fCons ((fLit (.int 3))) fNil))))))) (fThen (fRet ((FD.toE (fAndV ((FE.d (fCall 2 F_is_known g (fCons ((FE.d (fAlt (fOp2P dIx 0 ((fLit (.int 1)))) (fOp2P dGet 0 ((fLit (.int 1))))))) (fCons ((fVar 1)) fNil))))) ((FE.d (fCall 2 F_is_definition g (fCons ((FE.d (fAlt (fOp2P dIx 0 ((fLit (.int 2)))) (fOp2P dGet 0 ((fLit (.int 2))))))) (fCons ((fVar 1)) fNil))))))))) fSkip) fSkip) (fThen (fIf ((FD.t (FE.d (fCall 3 F_has_word g (fCons ((fVar 0)) (fCons ((fLit (.str "add"))) (fCons ((fLit (.int 3))) fNil))))))) (fThen (fRet ((FD.toE (fAndV ((FE.d (fCall 2 F_is_known g (fCons ((FE.d (fAlt (fOp2P dIx 0 ((fLit (.int 1)))) (fOp2P dGet 0 ((fLit (.int 1))))))) (fCons ((fVar 1)) fNil))))) ((FE.d (fCall 2 F_is_operand g (fCons ((FE.d (fAlt (fOp2P dIx 0 ((fLit (.int 2)))) (fOp2P dGet 0 ((fLit (.int 2))))))) (fCons ((fVar 1)) fNil))))))))) fSkip) fSkip) (fThen (fRet ((FD.toE (fAndV ((FE.d (fCall 3 F_has_word g (fCons ((fVar 0)) (fCons ((fLit (.str "seal"))) (fCons ((fLit (.int 2))) fNil)))))) ((FE.d (fCall 2 F_is_known g (fCons ((FE.d (fAlt (fOp2P dIx 0 ((fLit (.int 1)))) (fOp2P dGet 0 ((fLit (.int 1))))))) (fCons ((fVar 1)) fNil))))))))) fSkip)))
def F_is_row : FF := fun g a => runF 2 (fb_is_row g) a
def fb_is_layer (g : Nat) : FS := (fThen (fRet ((FD.toE (fAndV ((FE.d (fOp1 (dIsi .list) (fSee 0)))) ((FE.d (fOp2 sEq ((FE.d (fLc g [2] (fSeq ((fVar 0))) (gNam 2) (fNot ((FD.t (FE.d (fCall 2 F_is_row g (fCons ((fVar 2)) (fCons ((fVar 1)) fNil))))))) ((fVar 2))))) ((FE.d (fLst g fNil)))))))))) fSkip)
def F_is_layer : FF := fun g a => runF 3 (fb_is_layer g) a
def fb_law_mixed (g : Nat) : FS := (fThen (fSet 3 (fOp2 (dAdd g) ((FE.d (fOp2 (onInts iMul) ((fVar 0)) ((fLit (.int 69069)))))) ((FE.d (fOp2 (onInts iMul) ((FE.d (fOp2 (onInts iMul) ((fLit (.int 104729))) (fSee 1)))) (fSee 1)))))) (fThen (fSet 3 (fOp2 (onInts iMod) ((FE.d (fOp2 (dAdd g) ((FE.d (fOp2 (dAdd g) ((fVar 3)) ((FE.d (fOp2 (onInts iMul) ((fLit (.int 7919))) (fSee 2))))))) (fSee 1)))) ((fLit (.int 2147483647))))) (fThen (fSet 3 (fOp2 (onInts iMod) ((FE.d (fOp2 (dAdd g) ((FE.d (fOp2 (onInts iMul) ((fVar 3)) (fSee 3)))) ((fLit (.int 40503)))))) ((fLit (.int 2147483629))))) (fThen (fRet (fOp2 (onInts iMod) ((FE.d (fOp2 (onInts iMul) ((fVar 3)) ((fLit (.int 48271)))))) ((fLit (.int 2147483587))))) fSkip))))
def F_law_mixed : FF := fun g a => runF 4 (fb_law_mixed g) a
def lb_law_draw_0 (g : Nat) : FS := (fThen (fSetI 0 ((fLit (.int 2))) ((FE.d (fOp2 (dAdd g) ((FE.d (fAlt (fOp2P dIx 0 ((fLit (.int 2)))) (fOp2P dGet 0 ((fLit (.int 2))))))) ((fLit (.int 1))))))) (fThen (fSet 3 (fOp2 (dAdd g) ((FE.d (fOp2 (onInts iMul) ((fVar 3)) ((fLit (.int 2147483587)))))) ((FE.d (fCall 3 F_law_mixed g (fCons ((FE.d (fAlt (fOp2P dIx 0 ((fLit (.int 1)))) (fOp2P dGet 0 ((fLit (.int 1))))))) (fCons ((FE.d (fAlt (fOp2P dIx 0 ((fLit (.int 2)))) (fOp2P dGet 0 ((fLit (.int 2))))))) (fCons ((FE.d (fAlt (fOp2P dIx 0 ((fLit (.int 3)))) (fOp2P dGet 0 ((fLit (.int 3))))))) fNil)))))))) fSkip))
def fb_law_draw (g : Nat) : FS := (fThen (fIf (FD.t (FE.d (fOp2 (onInts iGt) ((FE.d (fAlt (fOp2P dIx 0 ((fLit (.int 0)))) (fOp2P dGet 0 ((fLit (.int 0))))))) ((fLit (.int 0)))))) (fThen (fSet 2 (fOp2 (onInts iMod) ((FE.d (fAlt (fOp2P dIx 0 ((fLit (.int 0)))) (fOp2P dGet 0 ((fLit (.int 0))))))) (fSee 1))) (fThen (fSetI 0 ((fLit (.int 0))) ((FE.d (fOp2 (onInts iDiv) ((FE.d (fAlt (fOp2P dIx 0 ((fLit (.int 0)))) (fOp2P dGet 0 ((fLit (.int 0))))))) (fSee 1))))) (fThen (fRet (fMove 2)) fSkip))) fSkip) (fThen (fSet 3 ((FD.toE (fLit (.int 0))))) (fThen (fFor (fRange1 ((FE.d (fOp2 (dAdd g) ((fLit (.int 1))) ((FE.d (fOp2 (onInts iDiv) ((FE.d (fOp1 dBits (fSee 1)))) ((fLit (.int 28)))))))))) (gNam 4) (lb_law_draw_0 g)) (fThen (fRet (fOp2 (onInts iMod) ((fVar 3)) (fSee 1))) fSkip))))
def F_law_draw : FM := fun g t xs a => runM 5 (fb_law_draw g) t xs a
def fb_law_number (g : Nat) : FS := (fThen (fSet 1 (fAlt (fOp2 dIx ((FE.d (fLst g (fCons ((fLit (.int 4))) (fCons ((fLit (.int 4))) (fCons ((fLit (.int 4))) (fCons ((fLit (.int 4))) (fCons ((fLit (.int 100))) (fCons ((FE.d (fOp2 (onInts iPow) ((fLit (.int 10))) ((fLit (.int 6)))))) (fCons ((FE.d (fOp2 (onInts iPow) ((fLit (.int 10))) ((fLit (.int 38)))))) fNil)))))))))) ((FE.d (fCallM 2 F_law_draw g 0 (fCons ((fLit (.int 7))) fNil))))) (fOp2 dGet ((FE.d (fLst g (fCons ((fLit (.int 4))) (fCons ((fLit (.int 4))) (fCons ((fLit (.int 4))) (fCons ((fLit (.int 4))) (fCons ((fLit (.int 100))) (fCons ((FE.d (fOp2 (onInts iPow) ((fLit (.int 10))) ((fLit (.int 6)))))) (fCons ((FE.d (fOp2 (onInts iPow) ((fLit (.int 10))) ((fLit (.int 38)))))) fNil)))))))))) ((FE.d (fCallM 2 F_law_draw g 0 (fCons ((fLit (.int 7))) fNil))))))) (fThen (fRet (fOp2 (onInts iSub) ((FE.d (fCallM 2 F_law_draw g 0 (fCons ((FE.d (fOp2 (dAdd g) ((FE.d (fOp2 (onInts iMul) ((fLit (.int 2))) (fSee 1)))) ((fLit (.int 1)))))) fNil)))) (fSee 1))) fSkip))
def F_law_number : FM := fun g t xs a => runM 2 (fb_law_number g) t xs a
def fb_law_purse (g : Nat) : FS := (fThen (fSet 2 (fOp1 dSum ((FE.d (fSliceP g 0 (fPart ((fVar 1))) (fPart ((FE.d (fOp2 (dAdd g) ((fVar 1)) ((fLit (.int 1)))))))))))) (fThen (fRet (fLst g (fCons ((FE.d (fOp2 (onInts iMod) ((FE.d (fOp2L (onInts iMax) (fCons ((FE.d (fOp2 (onInts iSub) ((fVar 2)) ((FE.d (fOp2 (onInts iPow) ((fLit (.int 10))) ((fLit (.int 18))))))))) (fCons ((fLit (.int 0))) fNil))))) ((FE.d (fOp2 (onInts iPow) ((FE.d (fOp2 (onInts iPow) ((fLit (.int 10))) ((fLit (.int 60)))))) ((fLit (.int 8))))))))) (fCons ((FE.d (fOp2 (onInts iMod) ((fVar 2)) ((fLit (.int 2147483629)))))) (fCons ((fLit (.int 0))) (fCons ((fVar 1)) fNil)))))) fSkip))
def F_law_purse : FF := fun g a => runF 3 (fb_law_purse g) a
def fb_check_book (g : Nat) : FS := (fThen (fIf (fNot ((FD.t (FE.d (fOp1 (dIsi (.cls 0)) (fSee 0)))))) (fThen (fNo) fSkip) fSkip) fSkip)
def F_check_book : FF := fun g a => runF 1 (fb_check_book g) a
def fb_behind (g : Nat) : FS := (fThen (fExpr ((FE.d (fCall 1 F_check_book g (fCons ((fVar 0)) fNil))))) (fThen (fIf (fNot ((FD.t (FE.d (fCall 2 F_is_layer g (fCons ((fVar 1)) (fCons ((FE.d (fMeth 0 1 F_Book_names g ((fVar 0)) fNil))) fNil))))))) (fThen (fNo) fSkip) fSkip) (fThen (fRet (fCall 2 F_after_rows g (fCons ((FE.d (fOp1 (dFld 0 0) ((fVar 0))))) (fCons ((fVar 1)) fNil)))) fSkip)))
def F_behind : FF := fun g a => runF 2 (fb_behind g) a
def fb_plain_row (g : Nat) : FS := (fThen (fPar 3 4 (fAlt (fOp2P dIx 0 ((fLit (.int 0)))) (fOp2P dGet 0 ((fLit (.int 0))))) (fAlt (fOp2 dIx ((FE.d (fAlt (fOp2P dIx 0 ((fLit (.int 1)))) (fOp2P dGet 0 ((fLit (.int 1))))))) ((fLit (.int 0)))) (fOp2 dGet ((FE.d (fAlt (fOp2P dIx 0 ((fLit (.int 1)))) (fOp2P dGet 0 ((fLit (.int 1))))))) ((fLit (.int 0)))))) (fThen (fIf (FD.t (FE.d (fOp2P sEq 4 ((fLit (.str "free")))))) (fThen (fRet ((FD.toE (fTup (fCons ((fLit (.str "set"))) (fCons ((fVar 3)) (fCons ((fTup (fCons ((fLit (.str "number"))) (fCons ((FE.d (fAlt (fOp2P dIx 2 (fSee 3)) (fOp2P dGet 2 (fSee 3))))) fNil)))) fNil))))))) fSkip) fSkip) (fThen (fIf (FD.t (FE.d (fOp2P sEq 4 ((fLit (.str "choice")))))) (fThen (fRet ((FD.toE (fTup (fCons ((fLit (.str "set"))) (fCons ((fVar 3)) (fCons ((FE.d (fAlt (fOp2 dIx ((FE.d (fAlt (fOp2P dIx 1 ((FE.d (fOp1 dNeg ((fLit (.int 1))))))) (fOp2P dGet 1 ((FE.d (fOp1 dNeg ((fLit (.int 1)))))))))) ((fLit (.int 2)))) (fOp2 dGet ((FE.d (fAlt (fOp2P dIx 1 ((FE.d (fOp1 dNeg ((fLit (.int 1))))))) (fOp2P dGet 1 ((FE.d (fOp1 dNeg ((fLit (.int 1)))))))))) ((fLit (.int 2))))))) fNil))))))) fSkip) fSkip) (fThen (fSet 5 (fLc g [6] (fSeq ((fVar 1))) (gNam 6) fYes ((FE.d (fIte ((FD.t (FE.d (fCall 1 F_is_whole g (fCons ((FE.d (fAlt (fOp2P dIx 6 ((fLit (.int 2)))) (fOp2P dGet 6 ((fLit (.int 2))))))) fNil))))) (fAlt (fOp2P dIx 6 ((fLit (.int 2)))) (fOp2P dGet 6 ((fLit (.int 2))))) (fAlt (fOp2P dIx 2 ((FE.d (fAlt (fOp2P dIx 6 ((fLit (.int 2)))) (fOp2P dGet 6 ((fLit (.int 2)))))))) (fOp2P dGet 2 ((FE.d (fAlt (fOp2P dIx 6 ((fLit (.int 2)))) (fOp2P dGet 6 ((fLit (.int 2)))))))))))))) (fThen (fRet ((FD.toE (fTup (fCons ((fLit (.str "add"))) (fCons ((fVar 3)) (fCons ((FE.d (fIte (FD.t (FE.d (fOp2 sEq ((FE.d (fAlt (fOp2 dIx ((FE.d (fAlt (fOp2P dIx 0 ((fLit (.int 2)))) (fOp2P dGet 0 ((fLit (.int 2))))))) ((fLit (.int 0)))) (fOp2 dGet ((FE.d (fAlt (fOp2P dIx 0 ((fLit (.int 2)))) (fOp2P dGet 0 ((fLit (.int 2))))))) ((fLit (.int 0))))))) ((fLit (.str "max")))))) (fOp1 dMax (fSee 5)) (fOp1 dMin (fSee 5))))) fNil))))))) fSkip)))))
def F_plain_row : FF := fun g a => runF 7 (fb_plain_row g) a
def fb_touching (g : Nat) : FS := (fThen (fRet (fLc g [2] (fSeq ((fVar 0))) (gNam 2) ((fAnd (FD.t (FE.d (fOp2 sNe ((FE.d (fAlt (fOp2P dIx 2 ((fLit (.int 0)))) (fOp2P dGet 2 ((fLit (.int 0))))))) ((fLit (.str "seal")))))) (FD.t (FE.d (fOp2 sEq ((FE.d (fAlt (fOp2P dIx 2 ((fLit (.int 1)))) (fOp2P dGet 2 ((fLit (.int 1))))))) (fSee 1)))))) ((fVar 2)))) fSkip)
def F_touching : FF := fun g a => runF 3 (fb_touching g) a
def lb_plain_0 (g : Nat) : FS := (fThen (fSet 5 (fCall 2 F_touching g (fCons ((fVar 1)) (fCons ((FE.d (fAlt (fOp2P dIx 4 ((fLit (.int 0)))) (fOp2P dGet 4 ((fLit (.int 0))))))) fNil)))) (fThen (fIf (FD.t (FE.d (fOp2P sNe 5 ((FE.d (fLst g fNil)))))) (fThen (fApp 3 ((FE.d (fCall 3 F_plain_row g (fCons ((fVar 4)) (fCons ((fVar 5)) (fCons ((fVar 2)) fNil))))))) fSkip) fSkip) fSkip))
def fb_plain (g : Nat) : FS := (fThen (fSet 2 (fCall 1 F_values_of g (fCons ((FE.d (fCall 2 F_behind g (fCons ((fVar 0)) (fCons ((fVar 1)) fNil))))) fNil))) (fThen (fSet 3 (fLst g fNil)) (fThen (fFor (fSeq ((FE.d (fOp1 (dFld 0 0) ((fVar 0)))))) (gNam 4) (lb_plain_0 g)) (fThen (fRet (fMove 3)) fSkip))))
def F_plain : FF := fun g a => runF 6 (fb_plain g) a
def fb_touched (g : Nat) : FS := (fThen (fExpr ((FE.d (fCall 2 F_behind g (fCons ((fVar 0)) (fCons ((fVar 1)) fNil)))))) (fThen (fRet (fLc g [2] (fSeq ((FE.d (fOp1 (dSorted g) ((FE.d (fMeth 0 1 F_Book_names g ((fVar 0)) fNil))))))) (gNam 2) (FD.t (FE.d (fOp2 sNe ((FE.d (fCall 2 F_touching g (fCons ((fVar 1)) (fCons ((fVar 2)) fNil))))) ((FE.d (fLst g fNil)))))) ((fVar 2)))) fSkip))
def F_touched : FF := fun g a => runF 3 (fb_touched g) a
end
end Ev

set_option Elab.async false
set_option linter.all false
set_option maxRecDepth 100000
set_option maxHeartbeats 1000000
namespace Ev
open PySem L2
/-! ### settings, rows of layers: plain data, and how they stand as data of the walk -/
inductive Opd where
  | n (i : Int)
  | v (x : Str)
inductive Dfn where
  | num (i : Int)
  | plus (x : Str) (i : Int)
  | mx (os : List Opd)
  | mn (os : List Opd)
  | ife (a b c d : Opd)
inductive Prm where
  | sealed (lo hi : Option Int)
  | free (lo hi : Option Int) (ns : List Str)
  | choice (ns : List Str)
  | extend (ns : List Str)
structure Row where
  nm : Str
  pm : Prm
  df : Dfn
inductive Stp where
  | set (x : Str) (d : Dfn)
  | add (x : Str) (o : Opd)
  | sel (x : Str)
def Opd.e : Opd → D
  | .n i => .int i
  | .v x => .str x
def oI : Option Int → D
  | none => .non
  | some i => .int i
def nmL (ns : List Str) : D := .lst 0 (ns.map .str)
def opL (os : List Opd) : D := .lst 0 (os.map Opd.e)
def Dfn.e : Dfn → D
  | .num i => .tup [.str "number", .int i]
  | .plus x i => .tup [.str "plus", .str x, .int i]
  | .mx os => .tup [.str "max", opL os]
  | .mn os => .tup [.str "min", opL os]
  | .ife a b c d => .tup [.str "if", a.e, b.e, c.e, d.e]
def Prm.e : Prm → D
  | .sealed lo hi => .tup [.str "sealed", oI lo, oI hi]
  | .free lo hi ns => .tup [.str "free", oI lo, oI hi, nmL ns]
  | .choice ns => .tup [.str "choice", nmL ns]
  | .extend ns => .tup [.str "extend", nmL ns]
def Row.e (r : Row) : D := .tup [.str r.nm, r.pm.e, r.df.e]
def Stp.e : Stp → D
  | .set x d => .tup [.str "set", .str x, d.e]
  | .add x o => .tup [.str "add", .str x, o.e]
  | .sel x => .tup [.str "seal", .str x]
def Opd.ns : Opd → List Str
  | .n _ => []
  | .v x => [x]
def Dfn.ns : Dfn → List Str
  | .num _ => []
  | .plus x _ => [x]
  | .mx os => os.flatMap Opd.ns
  | .mn os => os.flatMap Opd.ns
  | .ife a b c d => a.ns ++ (b.ns ++ (c.ns ++ d.ns))
def Prm.ns : Prm → List Str
  | .sealed _ _ => []
  | .free _ _ ns => ns
  | .choice ns => ns
  | .extend ns => ns
theorem isWhole_eq (g : Nat) (d : D) : F_is_whole g [d] = some (.sh (.bl (match d with | .int _ => true | _ => false))) := by
  cases d <;> rfl
theorem isKnown_eq (g t : Nat) (x : Str) (ns : List Str) : F_is_known g [.str x, .lst t (ns.map .str)] = some (.sh (.bl (decide (x ∈ ns)))) := by
  unfold F_is_known fb_is_known
  apply rf_2_2
  (with_reducible apply r_then; apply r_ret; apply r_toE; apply r_andV; apply r_d; apply r_op1; apply r_see); exact rfl; exact rfl; exact rfl; exact rfl; (with_reducible apply c_t); exact rfl
  (with_reducible apply r_d; apply r_inV; apply r_var); exact rfl; exact rfl; (with_reducible exact st0; apply r_see); exact rfl; exact rfl; (with_reducible apply inH_strs); exact rfl
  (with_reducible apply c_ret)
theorem isKnown_t (g t : Nat) {x : Str} {ns : List Str} (h : x ∈ ns) : F_is_known g [.str x, .lst t (ns.map .str)] = some (.sh (.bl true)) := by rw [isKnown_eq, decide_eq_true h]
theorem hasWord (g : Nat) (x w : Str) (ds : List D) (n : Int) : F_has_word g [.tup (.str x :: ds), .str w, .int n] = some (.sh (.bl (decide (((ds.length + 1 : Nat) : Int) = n) && decide (x = w)))) := by
  unfold F_has_word fb_has_word
  apply rf_3_3
  (with_reducible apply r_then; apply r_ret; apply r_toE; apply r_andV; apply r_d; apply r_op1; apply r_see); exact rfl; exact rfl; exact rfl; exact rfl; (with_reducible apply c_t); exact rfl
  (with_reducible apply r_andV; apply r_d; apply r_op2; apply r_d; apply r_op1; apply r_see); exact rfl; exact rfl; exact rfl; exact rfl; (with_reducible apply r_see); exact rfl; exact rfl
  exact rfl; exact rfl; (with_reducible apply c_both; apply r_andV; apply r_d; apply r_op1; apply r_d; apply r_ixP; apply r_see); exact rfl; exact rfl; (with_reducible apply r_lit; apply r_see)
  exact rfl; exact rfl; (with_reducible apply o_igT; apply at0); exact rfl; exact rfl; exact rfl; (with_reducible apply c_t); exact rfl
  (with_reducible apply r_d; apply r_op2; apply r_d; apply r_ixP; apply r_see); exact rfl; exact rfl; (with_reducible apply r_lit; apply r_see); exact rfl; exact rfl
  (with_reducible apply o_igT; apply at0); exact rfl; (with_reducible apply r_see); exact rfl; exact rfl; exact rfl; exact rfl; exact rfl
theorem hasWord2 (g : Nat) (x w : Str) (a : D) (n : Int) {b : Bool} (h : (decide ((2 : Int) = n) && decide (x = w)) = b) : F_has_word g [.tup [.str x, a], .str w, .int n] = some (.sh (.bl b)) := (hasWord g x w [a] n).trans (by rw [← h]; rfl)
theorem hasWord3 (g : Nat) (x w : Str) (a c : D) (n : Int) {b : Bool} (h : (decide ((3 : Int) = n) && decide (x = w)) = b) : F_has_word g [.tup [.str x, a, c], .str w, .int n] = some (.sh (.bl b)) := (hasWord g x w [a, c] n).trans (by rw [← h]; rfl)
theorem hasWord4 (g : Nat) (x w : Str) (a c d : D) (n : Int) {b : Bool} (h : (decide ((4 : Int) = n) && decide (x = w)) = b) : F_has_word g [.tup [.str x, a, c, d], .str w, .int n] = some (.sh (.bl b)) := (hasWord g x w [a, c, d] n).trans (by rw [← h]; rfl)
theorem hasWord5 (g : Nat) (x w : Str) (a c d e : D) (n : Int) {b : Bool} (h : (decide ((5 : Int) = n) && decide (x = w)) = b) : F_has_word g [.tup [.str x, a, c, d, e], .str w, .int n] = some (.sh (.bl b)) := (hasWord g x w [a, c, d, e] n).trans (by rw [← h]; rfl)
theorem isOperand_eq (g t : Nat) (o : Opd) (ns : List Str) (h : ∀ x ∈ o.ns, x ∈ ns) : F_is_operand g [o.e, .lst t (ns.map .str)] = some (.sh (.bl true)) := by
  unfold F_is_operand fb_is_operand
  cases o with
  | n i =>
    show runF _ _ [.int i, _] = _
    apply rf_2_2
    (with_reducible apply r_then; apply r_ret; apply r_toE; apply r_orV; apply r_d; apply r_call; apply r_cons; apply r_var); exact rfl; exact rfl; (with_reducible exact st0; apply r_nil)
    exact rfl; (with_reducible exact isWhole_eq _ _); exact rfl; (with_reducible apply c_t; rfl); exact rfl; (with_reducible apply c_ret)
  | v x =>
    show runF _ _ [.str x, _] = _
    apply rf_2_2
    (with_reducible apply r_then; apply r_ret; apply r_toE; apply r_orV; apply r_d; apply r_call; apply r_cons; apply r_var); exact rfl; exact rfl; (with_reducible exact st0; apply r_nil)
    exact rfl; (with_reducible exact isWhole_eq _ _); exact rfl; (with_reducible apply c_f; rfl; apply r_d; apply r_call; apply r_cons; apply r_var); exact rfl; exact rfl
    (with_reducible exact st0; apply r_cons; apply r_var); exact rfl; exact rfl; (with_reducible exact st1; apply r_nil); exact rfl; (with_reducible exact isKnown_t _ _ (h x List.mem_cons_self))
    exact rfl; (with_reducible apply c_ret)
theorem areOperands_T (g t : Nat) (os : List Opd) (ns : List Str) (h : ∀ o ∈ os, ∀ x ∈ o.ns, x ∈ ns) : F_are_operands g [.tup (os.map Opd.e), .lst t (ns.map .str)] = some (.sh (.bl true)) := by
  unfold F_are_operands fb_are_operands
  apply rf_3_2
  (with_reducible apply r_then; apply r_ret; apply r_op2; apply r_d; apply r_lc; apply r_seq; apply r_var); exact rfl; exact rfl; (with_reducible exact st0); exact rfl; exact wp2
  · refine lc_none fun o ho => ?_
    apply lcs_f
    (with_reducible apply g_nam'; exact st2; apply r_not; apply r_t; apply r_d; apply r_call; apply r_cons; apply r_var); exact rfl; exact rfl
    (with_reducible exact st2; apply r_cons; apply r_var); exact rfl; exact rfl; (with_reducible exact st1; apply r_nil); exact rfl; (with_reducible exact isOperand_eq _ _ _ _ (h o ho))
    exact rfl; exact rfl; exact wp2
  exact rfl; (with_reducible apply r_d; apply r_lst; apply r_nil); exact Nat.le_of_ble_eq_true rfl; exact rfl; exact rfl; exact rfl
theorem areOperands_eq (g t u : Nat) (os : List Opd) (ns : List Str) (h : ∀ o ∈ os, ∀ x ∈ o.ns, x ∈ ns) : F_are_operands g [.lst u (os.map Opd.e), .lst t (ns.map .str)] = some (.sh (.bl true)) := by
  unfold F_are_operands fb_are_operands
  apply rf_3_2
  (with_reducible apply r_then; apply r_ret; apply r_op2; apply r_d; apply r_lc; apply r_seq; apply r_var); exact rfl; exact rfl; (with_reducible exact st0); exact rfl; exact wp2
  · refine lc_none fun o ho => ?_
    apply lcs_f
    (with_reducible apply g_nam'; exact st2; apply r_not; apply r_t; apply r_d; apply r_call; apply r_cons; apply r_var); exact rfl; exact rfl
    (with_reducible exact st2; apply r_cons; apply r_var); exact rfl; exact rfl; (with_reducible exact st1; apply r_nil); exact rfl; (with_reducible exact isOperand_eq _ _ _ _ (h o ho))
    exact rfl; exact rfl; exact wp2
  exact rfl; (with_reducible apply r_d; apply r_lst; apply r_nil); exact Nat.le_of_ble_eq_true rfl; exact rfl; exact rfl; exact rfl
theorem sEq_nil {t u : Nat} {xs : List D} (h : okdL xs 59 = true) : sEq (.lst t xs) (.lst u []) = some (.sh (.bl xs.isEmpty)) := by
  have c : okd (.lst t xs) 60 = true ∧ okd (.lst u []) 60 = true := ⟨by unfold okd; exact h, rfl⟩
  unfold sEq dEq dEqF
  simp only [if_pos c]
  cases xs <;> rfl
theorem sNe_nil {t u : Nat} {xs : List D} (h : okdL xs 59 = true) : sNe (.lst t xs) (.lst u []) = some (.sh (.bl (!xs.isEmpty))) := by
  have c : okd (.lst t xs) 60 = true ∧ okd (.lst u []) 60 = true := ⟨by unfold okd; exact h, rfl⟩
  unfold sNe dEq dEqF
  simp only [if_pos c]
  cases xs <;> rfl
def Sk (ns : List Str) : Prop := ∀ x ∈ ns, PyData.strOk x = true
theorem okd_opd {o : Opd} {n : Nat} (h : ∀ x ∈ o.ns, PyData.strOk x = true) : okd o.e n = true := by
  cases o with
  | n i => unfold Opd.e okd; rfl
  | v x => unfold Opd.e okd; exact h x List.mem_cons_self
theorem okdL_opds {n : Nat} : ∀ {os : List Opd}, (∀ o ∈ os, ∀ x ∈ o.ns, PyData.strOk x = true) → okdL (os.map Opd.e) n = true
  | [], _ => by unfold okdL; rfl
  | o :: r, h => by
    rw [List.map_cons]
    unfold okdL
    rw [okd_opd (h o List.mem_cons_self), okdL_opds fun o ho => h o (List.mem_cons_of_mem _ ho)]
    rfl
theorem okdL_strs {n : Nat} : ∀ {ns : List Str}, Sk ns → okdL (ns.map .str) n = true
  | [], _ => by unfold okdL; rfl
  | x :: r, h => by
    rw [List.map_cons]
    unfold okdL
    rw [show okd (.str x) n = true by unfold okd; exact h x List.mem_cons_self, okdL_strs fun y hy => h y (List.mem_cons_of_mem _ hy)]
    rfl
def Dfn.ok (ns : List Str) : Dfn → Prop
  | .mx os => os ≠ [] ∧ ∀ o ∈ os, ∀ x ∈ o.ns, x ∈ ns
  | .mn os => os ≠ [] ∧ ∀ o ∈ os, ∀ x ∈ o.ns, x ∈ ns
  | .plus x _ => x ∈ ns
  | .num _ => True
  | .ife a b c d => ∀ o ∈ [a, b, c, d], ∀ x ∈ o.ns, x ∈ ns
theorem isE {os : List Opd} (h : os ≠ []) : (!(os.map Opd.e).isEmpty) = true := by cases os <;> simp_all
theorem isDef_eq (t : Nat) (d : Dfn) (ns : List Str) (hk : Sk ns) (h : d.ok ns) : F_is_definition 0 [d.e, .lst t (ns.map .str)] = some (.sh (.bl true)) := by
  unfold F_is_definition fb_is_definition
  cases d with
  | num i =>
    show runF _ _ [.tup [.str "number", .int i], _] = _
    apply rf_2_2
    (with_reducible apply r_then; apply r_if; apply r_t; apply r_d; apply r_call; apply r_cons; apply r_var); exact rfl; exact rfl
    (with_reducible exact st0; apply r_cons; apply r_lit; apply r_cons; apply r_lit; apply r_nil); exact rfl; (with_reducible exact hasWord2 _ _ _ _ _ (b := true) (by decide +kernel)); exact rfl
    (with_reducible apply c_t; rfl; apply r_then; apply r_ret; apply r_call; apply r_cons; apply r_d; apply r_ixP; apply r_see); exact rfl; exact rfl; (with_reducible apply r_lit; apply r_see)
    exact rfl; exact rfl; (with_reducible apply o_igT; apply at1); exact rfl; (with_reducible apply r_nil); exact rfl; (with_reducible exact isWhole_eq _ _; apply c_ret; apply c_ret)
  | plus x i =>
    have hx := isKnown_t 0 t (show x ∈ ns from h)
    show runF _ _ [.tup [.str "plus", .str x, .int i], _] = _
    apply rf_2_2
    (with_reducible apply r_then; apply r_if; apply r_t; apply r_d; apply r_call; apply r_cons; apply r_var); exact rfl; exact rfl
    (with_reducible exact st0; apply r_cons; apply r_lit; apply r_cons; apply r_lit; apply r_nil); exact rfl; (with_reducible exact hasWord3 _ _ _ _ _ _ (b := false) (by decide +kernel))
    exact rfl; (with_reducible apply c_f; rfl; apply r_skip; apply c_nx; apply r_then; apply r_if; apply r_t; apply r_d; apply r_call; apply r_cons; apply r_var); exact rfl; exact rfl
    (with_reducible exact st0; apply r_cons; apply r_lit; apply r_cons; apply r_lit; apply r_nil); exact rfl; (with_reducible exact hasWord3 _ _ _ _ _ _ (b := true) (by decide +kernel))
    exact rfl; (with_reducible apply c_t; rfl; apply r_then; apply r_ret; apply r_toE; apply r_andV; apply r_d; apply r_call; apply r_cons; apply r_d; apply r_ixP; apply r_see); exact rfl
    exact rfl; (with_reducible apply r_lit; apply r_see); exact rfl; exact rfl; (with_reducible apply o_igT; apply at1); exact rfl; (with_reducible apply r_cons; apply r_var); exact rfl
    exact rfl; (with_reducible exact st1; apply r_nil); exact rfl; (with_reducible assumption); exact rfl
    (with_reducible apply c_t; rfl; apply r_d; apply r_call; apply r_cons; apply r_d; apply r_ixP; apply r_see); exact rfl; exact rfl; (with_reducible apply r_lit; apply r_see); exact rfl
    exact rfl; (with_reducible apply o_igT; apply at2); exact rfl; (with_reducible apply r_nil); exact rfl; (with_reducible exact isWhole_eq _ _); exact rfl
    (with_reducible apply c_ret; apply c_ret)
  | mx os =>
    have e := isE h.1
    have q := sNe_nil (t := 0) (u := 0) (okdL_opds (n := 59) fun o ho x hx => hk x (h.2 o ho x hx))
    have hx := areOperands_eq 0 t 0 _ _ h.2
    show runF _ _ [.tup [.str "max", .lst 0 (os.map Opd.e)], _] = _
    apply rf_2_2
    (with_reducible apply r_then; apply r_if; apply r_t; apply r_d; apply r_call; apply r_cons; apply r_var); exact rfl; exact rfl
    (with_reducible exact st0; apply r_cons; apply r_lit; apply r_cons; apply r_lit; apply r_nil); exact rfl; (with_reducible exact hasWord2 _ _ _ _ _ (b := false) (by decide +kernel)); exact rfl
    (with_reducible apply c_f; rfl; apply r_skip; apply c_nx; apply r_then; apply r_if; apply r_t; apply r_d; apply r_call; apply r_cons; apply r_var); exact rfl; exact rfl
    (with_reducible exact st0; apply r_cons; apply r_lit; apply r_cons; apply r_lit; apply r_nil); exact rfl; (with_reducible exact hasWord2 _ _ _ _ _ (b := false) (by decide +kernel)); exact rfl
    (with_reducible apply c_f; rfl; apply r_skip; apply c_nx; apply r_then; apply r_if; apply r_or; apply r_t; apply r_d; apply r_call; apply r_cons; apply r_var); exact rfl; exact rfl
    (with_reducible exact st0; apply r_cons; apply r_lit; apply r_cons; apply r_lit; apply r_nil); exact rfl; (with_reducible exact hasWord2 _ _ _ _ _ (b := true) (by decide +kernel)); exact rfl
    (with_reducible apply c_t; rfl); exact rfl; (with_reducible apply c_t; rfl; apply r_then; apply r_ret; apply r_toE; apply r_andV; apply r_d; apply r_op1; apply r_d; apply r_ixP; apply r_see)
    exact rfl; exact rfl; (with_reducible apply r_lit; apply r_see); exact rfl; exact rfl; (with_reducible apply o_igT; apply at1); exact rfl; exact rfl; exact rfl; (with_reducible apply c_t)
    exact rfl; (with_reducible apply r_andV; apply r_d; apply r_op2; apply r_d; apply r_ixP; apply r_see); exact rfl; exact rfl; (with_reducible apply r_lit; apply r_see); exact rfl; exact rfl
    (with_reducible apply o_igT; apply at1); exact rfl; (with_reducible apply r_d; apply r_lst; apply r_nil); exact Nat.le_of_ble_eq_true rfl; exact rfl; (with_reducible assumption); exact rfl
    (with_reducible apply c_t; assumption; apply r_d; apply r_call; apply r_cons; apply r_d; apply r_ixP; apply r_see); exact rfl; exact rfl; (with_reducible apply r_lit; apply r_see); exact rfl
    exact rfl; (with_reducible apply o_igT; apply at1); exact rfl; (with_reducible apply r_cons; apply r_var); exact rfl; exact rfl; (with_reducible exact st1; apply r_nil); exact rfl
    (with_reducible assumption); exact rfl; (with_reducible apply c_ret; apply c_ret)
  | mn os =>
    have e := isE h.1
    have q := sNe_nil (t := 0) (u := 0) (okdL_opds (n := 59) fun o ho x hx => hk x (h.2 o ho x hx))
    have hx := areOperands_eq 0 t 0 _ _ h.2
    show runF _ _ [.tup [.str "min", .lst 0 (os.map Opd.e)], _] = _
    apply rf_2_2
    (with_reducible apply r_then; apply r_if; apply r_t; apply r_d; apply r_call; apply r_cons; apply r_var); exact rfl; exact rfl
    (with_reducible exact st0; apply r_cons; apply r_lit; apply r_cons; apply r_lit; apply r_nil); exact rfl; (with_reducible exact hasWord2 _ _ _ _ _ (b := false) (by decide +kernel)); exact rfl
    (with_reducible apply c_f; rfl; apply r_skip; apply c_nx; apply r_then; apply r_if; apply r_t; apply r_d; apply r_call; apply r_cons; apply r_var); exact rfl; exact rfl
    (with_reducible exact st0; apply r_cons; apply r_lit; apply r_cons; apply r_lit; apply r_nil); exact rfl; (with_reducible exact hasWord2 _ _ _ _ _ (b := false) (by decide +kernel)); exact rfl
    (with_reducible apply c_f; rfl; apply r_skip; apply c_nx; apply r_then; apply r_if; apply r_or; apply r_t; apply r_d; apply r_call; apply r_cons; apply r_var); exact rfl; exact rfl
    (with_reducible exact st0; apply r_cons; apply r_lit; apply r_cons; apply r_lit; apply r_nil); exact rfl; (with_reducible exact hasWord2 _ _ _ _ _ (b := false) (by decide +kernel)); exact rfl
    (with_reducible apply c_f; rfl; apply r_t; apply r_d; apply r_call; apply r_cons; apply r_var); exact rfl; exact rfl
    (with_reducible exact st0; apply r_cons; apply r_lit; apply r_cons; apply r_lit; apply r_nil); exact rfl; (with_reducible exact hasWord2 _ _ _ _ _ (b := true) (by decide +kernel)); exact rfl
    (with_reducible apply c_t; rfl; apply r_then; apply r_ret; apply r_toE; apply r_andV; apply r_d; apply r_op1; apply r_d; apply r_ixP; apply r_see); exact rfl; exact rfl
    (with_reducible apply r_lit; apply r_see); exact rfl; exact rfl; (with_reducible apply o_igT; apply at1); exact rfl; exact rfl; exact rfl; (with_reducible apply c_t); exact rfl
    (with_reducible apply r_andV; apply r_d; apply r_op2; apply r_d; apply r_ixP; apply r_see); exact rfl; exact rfl; (with_reducible apply r_lit; apply r_see); exact rfl; exact rfl
    (with_reducible apply o_igT; apply at1); exact rfl; (with_reducible apply r_d; apply r_lst; apply r_nil); exact Nat.le_of_ble_eq_true rfl; exact rfl; (with_reducible assumption); exact rfl
    (with_reducible apply c_t; assumption; apply r_d; apply r_call; apply r_cons; apply r_d; apply r_ixP; apply r_see); exact rfl; exact rfl; (with_reducible apply r_lit; apply r_see); exact rfl
    exact rfl; (with_reducible apply o_igT; apply at1); exact rfl; (with_reducible apply r_cons; apply r_var); exact rfl; exact rfl; (with_reducible exact st1; apply r_nil); exact rfl
    (with_reducible assumption); exact rfl; (with_reducible apply c_ret; apply c_ret)
  | ife a b c d =>
    have hx : F_are_operands 0 [.tup [a.e, b.e, c.e, d.e], .lst t (ns.map .str)] = some (.sh (.bl true)) := areOperands_T 0 t [a, b, c, d] _ h
    show runF _ _ [.tup [.str "if", a.e, b.e, c.e, d.e], _] = _
    apply rf_2_2
    (with_reducible apply r_then; apply r_if; apply r_t; apply r_d; apply r_call; apply r_cons; apply r_var); exact rfl; exact rfl
    (with_reducible exact st0; apply r_cons; apply r_lit; apply r_cons; apply r_lit; apply r_nil); exact rfl; (with_reducible exact hasWord5 _ _ _ _ _ _ _ _ (b := false) (by decide +kernel))
    exact rfl; (with_reducible apply c_f; rfl; apply r_skip; apply c_nx; apply r_then; apply r_if; apply r_t; apply r_d; apply r_call; apply r_cons; apply r_var); exact rfl; exact rfl
    (with_reducible exact st0; apply r_cons; apply r_lit; apply r_cons; apply r_lit; apply r_nil); exact rfl; (with_reducible exact hasWord5 _ _ _ _ _ _ _ _ (b := false) (by decide +kernel))
    exact rfl; (with_reducible apply c_f; rfl; apply r_skip; apply c_nx; apply r_then; apply r_if; apply r_or; apply r_t; apply r_d; apply r_call; apply r_cons; apply r_var); exact rfl; exact rfl
    (with_reducible exact st0; apply r_cons; apply r_lit; apply r_cons; apply r_lit; apply r_nil); exact rfl; (with_reducible exact hasWord5 _ _ _ _ _ _ _ _ (b := false) (by decide +kernel))
    exact rfl; (with_reducible apply c_f; rfl; apply r_t; apply r_d; apply r_call; apply r_cons; apply r_var); exact rfl; exact rfl
    (with_reducible exact st0; apply r_cons; apply r_lit; apply r_cons; apply r_lit; apply r_nil); exact rfl; (with_reducible exact hasWord5 _ _ _ _ _ _ _ _ (b := false) (by decide +kernel))
    exact rfl; (with_reducible apply c_f; rfl; apply r_skip; apply c_nx; apply r_then; apply r_ret; apply r_toE; apply r_andV; apply r_d; apply r_call; apply r_cons; apply r_var); exact rfl
    exact rfl; (with_reducible exact st0; apply r_cons; apply r_lit; apply r_cons; apply r_lit; apply r_nil); exact rfl
    (with_reducible exact hasWord5 _ _ _ _ _ _ _ _ (b := true) (by decide +kernel)); exact rfl
    (with_reducible apply c_t; rfl; apply r_d; apply r_call; apply r_cons; apply r_d; apply r_sliceP; apply r_see); exact rfl; exact rfl
    (with_reducible apply r_part; apply r_lit; apply r_nopart; apply r_see); exact rfl; exact rfl; (with_reducible apply o_slT1); exact rfl; (with_reducible apply r_cons; apply r_var); exact rfl
    exact rfl; (with_reducible exact st1; apply r_nil); exact rfl; (with_reducible assumption); exact rfl; (with_reducible apply c_ret)
end Ev

set_option Elab.async false
set_option linter.all false
set_option maxRecDepth 100000
set_option maxHeartbeats 1000000
namespace Ev
open PySem L2
def letters : Str := "abcdefghijklmnopqrstuvwxyz"
def Nm (x : Str) : Prop := 1 ≤ x.length ∧ x.length ≤ 10 ∧ ∀ c ∈ x.cps.toList, c ∈ letters.cps.toList
theorem nin_letter {c : Nat} (h : c ∈ letters.cps.toList) : inH true (.str ⟨#[c]⟩) (.str "abcdefghijklmnopqrstuvwxyz") = some (.sh (.bl false)) := by
  have : decide (c ∈ letters.cps.toList) = true := decide_eq_true h
  unfold inH sNin dIn
  simp only [if_true]
  show some (Sl.sh (D.bl (!decide (c ∈ letters.cps.toList)))) = _
  rw [this]
  rfl
theorem isName_eq (x : Str) (h : Nm x) : F_is_name 0 [.str x] = some (.sh (.bl true)) := by
  obtain ⟨h1, h2, h3⟩ := h
  have hl : x.length ≤ lim := Nat.le_trans h2 (by decide)
  have hd : dLen (.str x) = some (.sh (.int x.length)) := by unfold dLen; simp only [if_pos hl]
  have hs : seqOf (.str x) = some (signs x) := by unfold seqOf; simp only [if_pos hl]
  have q1 : onInts iLe (.int 1) (.int x.length) = some (.sh (.bl true)) := by
    unfold onInts iLe
    simp only [decide_eq_true (show (1 : Int) ≤ (x.length : Int) by exact_mod_cast h1)]
  have q2 : onInts iLe (.int x.length) (.int 10) = some (.sh (.bl true)) := by
    unfold onInts iLe
    simp only [decide_eq_true (show (x.length : Int) ≤ 10 by exact_mod_cast h2)]
  unfold F_is_name fb_is_name
  apply rf_2_1
  (with_reducible apply r_then; apply r_if; apply r_or; apply r_not; apply r_t; apply r_d; apply r_op1; apply r_see); exact rfl; exact rfl; exact rfl; exact rfl; exact rfl
  (with_reducible apply c_f); exact rfl; (with_reducible apply r_not; apply r_t; apply r_chain; apply r_lit; apply r_d; apply r_op1; apply r_see); exact rfl; exact rfl
  (with_reducible assumption); exact rfl; (with_reducible assumption; apply r_lit; assumption; apply c_t; rfl); exact rfl; exact rfl; (with_reducible apply c_f); decide +kernel
  (with_reducible apply r_skip; apply c_nx; apply r_then; apply r_ret; apply r_op2; apply r_d; apply r_lc; apply r_seq; apply r_var); exact rfl; exact rfl
  (with_reducible exact st0; assumption); exact wp1
  · unfold signs
    refine lc_none fun c hc => ?_
    have := nin_letter (h3 c hc)
    apply lcs_f
    (with_reducible apply g_nam'; exact st1; apply r_nin; apply r_var); exact rfl; exact rfl; (with_reducible exact st1; apply r_lit; assumption); exact wp1
  exact rfl; (with_reducible apply r_d; apply r_lst; apply r_nil); exact Nat.le_of_ble_eq_true rfl; exact rfl; exact rfl; exact rfl
def limOk : Option Int → Option Int → Prop
  | some a, some b => a ≤ b
  | _, _ => True
theorem areLimits_eq (lo hi : Option Int) (h : limOk lo hi) : F_are_limits 0 [oI lo, oI hi] = some (.sh (.bl true)) := by
  unfold F_are_limits fb_are_limits
  cases lo with
  | none =>
    cases hi with
    | none => rfl
    | some b => rfl
  | some a =>
    cases hi with
    | none => rfl
    | some b =>
      have q : onInts iLe (.int a) (.int b) = some (.sh (.bl true)) := by
        unfold onInts iLe
        simp only [decide_eq_true (show a ≤ b from h)]
      show runF _ _ [.int a, .int b] = _
      apply rf_3_2
      (with_reducible apply r_then; apply r_for; apply r_seq; apply r_tup; apply r_cons; apply r_var); exact rfl; exact rfl; (with_reducible exact st0; apply r_cons; apply r_var); exact rfl
      exact rfl; (with_reducible exact st1; apply r_nil); exact Nat.le_of_ble_eq_true rfl; exact rfl; exact rfl
      (with_reducible apply c_nx; apply r_then; apply r_ret; apply r_toE; apply r_orV; apply r_d; apply r_op2P; apply r_see); exact rfl; exact rfl; (with_reducible apply r_lit; apply r_see)
      exact rfl; exact rfl; exact rfl; exact rfl; (with_reducible apply c_f); exact rfl; (with_reducible apply r_orV; apply r_d; apply r_op2P; apply r_see); exact rfl; exact rfl
      (with_reducible apply r_lit; apply r_see); exact rfl; exact rfl; exact rfl; exact rfl; (with_reducible apply c_f); exact rfl; (with_reducible apply r_d; apply r_op2P; apply r_see); exact rfl
      exact rfl; (with_reducible apply r_see); exact rfl; exact rfl; (with_reducible apply r_see); exact rfl; exact rfl; (with_reducible assumption); exact rfl; (with_reducible apply c_ret)
theorem isAlias_eq (x : Str) (ns : List Str) (h : x ∈ ns) : F_is_alias 0 [.tup [.str "plus", .str x, .int 0], nmL ns] = some (.sh (.bl true)) := by
  have hd : decide (x ∈ ns) = true := decide_eq_true h
  unfold F_is_alias fb_is_alias
  show runF _ _ [_, .lst 0 (ns.map .str)] = _
  apply rf_2_2
  (with_reducible apply r_then; apply r_ret; apply r_toE; apply r_andV; apply r_d; apply r_op2; apply r_d; apply r_ixP; apply r_see); exact rfl; exact rfl
  (with_reducible apply r_lit; apply r_see); exact rfl; exact rfl; (with_reducible apply o_igT; apply at0); exact rfl; (with_reducible apply r_lit); exact rfl; exact rfl
  (with_reducible apply c_t); decide +kernel; (with_reducible apply r_andV; apply r_d; apply r_inV; apply r_d; apply r_ixP; apply r_see); exact rfl; exact rfl
  (with_reducible apply r_lit; apply r_see); exact rfl; exact rfl; (with_reducible apply o_igT; apply at1); exact rfl; (with_reducible apply r_see); exact rfl; exact rfl
  (with_reducible apply inH_strs); exact rfl; (with_reducible apply c_t; assumption; apply r_d; apply r_op2; apply r_d; apply r_ixP; apply r_see); exact rfl; exact rfl
  (with_reducible apply r_lit; apply r_see); exact rfl; exact rfl; (with_reducible apply o_igT; apply at2); exact rfl; (with_reducible apply r_lit); exact rfl; exact rfl; exact rfl
theorem areNames_loop (t : Nat) (names ns : List Str) (hn : ∀ x ∈ ns, x ∈ names) (nd : ns.Nodup) : ∀ (suf pre : List Str) (a b : Sl), ns = pre ++ suf → ∃ a' b', forRun (gTupN [2, 3]) (lb_are_names_0 0)
    (enumD pre.length (suf.map .str)) [.sh (.lst 0 (ns.map .str)), .sh (.lst t (names.map .str)), a, b] = some (.nx, [.sh (.lst 0 (ns.map .str)), .sh (.lst t (names.map .str)), a', b'])
  | [], pre, a, b, _ => ⟨a, b, rfl⟩
  | x :: r, pre, a, b, e => by
    obtain ⟨a', b', ih⟩ := areNames_loop t names ns hn nd r (pre ++ [x]) (.sh (.int pre.length)) (.sh (.str x)) (by rw [e]; simp)
    have hx : x ∈ ns := by rw [e]; simp
    have h1 := isKnown_t 0 t (hn x hx)
    have hp : (ns.map D.str).take pre.length = pre.map D.str := by rw [e, List.map_append, List.take_left' (by simp)]
    have h2 : inH false (.str x) (.lst 0 ((ns.map D.str).take pre.length)) = some (.sh (.bl false)) := by
      rw [hp, inH_strs, decide_eq_false]
      intro q
      rw [e] at nd
      exact (List.nodup_append.mp nd).2.2 x q x List.mem_cons_self rfl
    refine ⟨a', b', ?_⟩
    rw [List.map_cons]
    unfold enumD
    apply fr_cons
    (with_reducible apply g_tupN; apply g_cons'; exact st2; apply g_cons'; exact st3; apply g_nil'); unfold lb_are_names_0
    (with_reducible apply r_then; apply r_if; apply r_or; apply r_not; apply r_t; apply r_d; apply r_call; apply r_cons; apply r_var); exact rfl; exact rfl
    (with_reducible exact st3; apply r_cons; apply r_var); exact rfl; exact rfl; (with_reducible exact st1; apply r_nil); exact rfl; (with_reducible assumption); exact rfl; exact rfl
    (with_reducible apply c_f); decide +kernel; (with_reducible apply r_in; apply r_var); exact rfl; exact rfl; (with_reducible exact st3; apply r_d; apply r_sliceP; apply r_see); exact rfl
    exact rfl; (with_reducible apply r_nopart; apply r_part; apply r_var); exact rfl; exact rfl; (with_reducible exact st2; apply r_see); exact rfl; exact rfl; (with_reducible apply o_slLt)
    exact rfl; (with_reducible assumption; apply c_f; rfl; apply r_skip; apply c_nx; apply r_skip; apply c_nx)
    rw [List.length_append] at ih
    exact ih
theorem areNames_eq (t : Nat) (names ns : List Str) (hn : ∀ x ∈ ns, x ∈ names) (nd : ns.Nodup) : F_are_names 0 [.lst 0 (ns.map .str), .lst t (names.map .str)] = some (.sh (.bl true)) := by
  obtain ⟨a', b', h⟩ := areNames_loop t names ns hn nd ns [] .non .non rfl
  have h : forRun _ _ (enumD 0 (ns.map D.str)) _ = _ := h
  unfold F_are_names fb_are_names
  apply rf_4_2
  (with_reducible apply r_then; apply r_if; apply r_not; apply r_t; apply r_d; apply r_op1; apply r_see); exact rfl; exact rfl; exact rfl; exact rfl; exact rfl; (with_reducible apply c_f)
  exact rfl; (with_reducible apply r_skip; apply c_nx; apply r_then; apply r_for; apply r_enum; apply r_var); exact rfl; exact rfl
  (with_reducible exact st0; assumption; apply c_nx; apply r_then; apply r_ret; apply r_toE; apply r_lit; apply c_ret)
def Prm.ok (names : List Str) (d : Dfn) : Prm → Prop
  | .sealed lo hi => limOk lo hi
  | .free lo hi ns => limOk lo hi ∧ (∀ x ∈ ns, x ∈ names) ∧ ns.Nodup
  | .choice ns => (∀ x ∈ ns, x ∈ names) ∧ ns.Nodup ∧ ∃ x ∈ ns, d = .plus x 0
  | .extend ns => (∀ x ∈ ns, x ∈ names) ∧ ns.Nodup ∧ ∃ os, d = .mx os ∨ d = .mn os
theorem isPermitted_eq (t : Nat) (names : List Str) (d : Dfn) (p : Prm) (h : p.ok names d) : F_is_permitted 0 [p.e, d.e, .lst t (names.map .str)] = some (.sh (.bl true)) := by
  unfold F_is_permitted fb_is_permitted
  cases p with
  | sealed lo hi =>
    have q := areLimits_eq lo hi h
    show runF _ _ [.tup [.str "sealed", oI lo, oI hi], d.e, _] = _
    apply rf_3_3
    (with_reducible apply r_then; apply r_if; apply r_t; apply r_d; apply r_call; apply r_cons; apply r_var); exact rfl; exact rfl
    (with_reducible exact st0; apply r_cons; apply r_lit; apply r_cons; apply r_lit; apply r_nil); exact rfl; (with_reducible exact hasWord3 _ _ _ _ _ _ (b := true) (by decide +kernel))
    exact rfl; (with_reducible apply c_t; rfl; apply r_then; apply r_ret; apply r_call; apply r_cons; apply r_d; apply r_ixP; apply r_see); exact rfl; exact rfl
    (with_reducible apply r_lit; apply r_see); exact rfl; exact rfl; (with_reducible apply o_igT; apply at1); exact rfl; (with_reducible apply r_cons; apply r_d; apply r_ixP; apply r_see)
    exact rfl; exact rfl; (with_reducible apply r_lit; apply r_see); exact rfl; exact rfl; (with_reducible apply o_igT; apply at2); exact rfl; (with_reducible apply r_nil); exact rfl
    (with_reducible assumption; apply c_ret; apply c_ret)
  | free lo hi ns =>
    have q := areLimits_eq lo hi h.1
    have q2 := areNames_eq t names ns h.2.1 h.2.2
    show runF _ _ [.tup [.str "free", oI lo, oI hi, .lst 0 (ns.map .str)], d.e, _] = _
    apply rf_3_3
    (with_reducible apply r_then; apply r_if; apply r_t; apply r_d; apply r_call; apply r_cons; apply r_var); exact rfl; exact rfl
    (with_reducible exact st0; apply r_cons; apply r_lit; apply r_cons; apply r_lit; apply r_nil); exact rfl; (with_reducible exact hasWord4 _ _ _ _ _ _ _ (b := false) (by decide +kernel))
    exact rfl; (with_reducible apply c_f; rfl; apply r_skip; apply c_nx; apply r_then; apply r_if; apply r_t; apply r_d; apply r_call; apply r_cons; apply r_var); exact rfl; exact rfl
    (with_reducible exact st0; apply r_cons; apply r_lit; apply r_cons; apply r_lit; apply r_nil); exact rfl; (with_reducible exact hasWord4 _ _ _ _ _ _ _ (b := true) (by decide +kernel))
    exact rfl; (with_reducible apply c_t; rfl; apply r_then; apply r_ret; apply r_toE; apply r_andV; apply r_d; apply r_call; apply r_cons; apply r_d; apply r_ixP; apply r_see); exact rfl
    exact rfl; (with_reducible apply r_lit; apply r_see); exact rfl; exact rfl; (with_reducible apply o_igT; apply at1); exact rfl
    (with_reducible apply r_cons; apply r_d; apply r_ixP; apply r_see); exact rfl; exact rfl; (with_reducible apply r_lit; apply r_see); exact rfl; exact rfl
    (with_reducible apply o_igT; apply at2); exact rfl; (with_reducible apply r_nil); exact rfl; (with_reducible assumption); exact rfl
    (with_reducible apply c_t; rfl; apply r_d; apply r_call; apply r_cons; apply r_d; apply r_ixP; apply r_see); exact rfl; exact rfl; (with_reducible apply r_lit; apply r_see); exact rfl
    exact rfl; (with_reducible apply o_igT; apply at3); exact rfl; (with_reducible apply r_cons; apply r_var); exact rfl; exact rfl; (with_reducible exact st2; apply r_nil); exact rfl
    (with_reducible assumption); exact rfl; (with_reducible apply c_ret; apply c_ret)
  | choice ns =>
    obtain ⟨h1, h2, x, hx, rfl⟩ := h
    have q2 := areNames_eq t names ns h1 h2
    have q3 : F_is_alias 0 [.tup [.str "plus", .str x, .int 0], .lst 0 (ns.map .str)] = some (.sh (.bl true)) := isAlias_eq x ns hx
    show runF _ _ [.tup [.str "choice", .lst 0 (ns.map .str)], .tup [.str "plus", .str x, .int 0], _] = _
    apply rf_3_3
    (with_reducible apply r_then; apply r_if; apply r_t; apply r_d; apply r_call; apply r_cons; apply r_var); exact rfl; exact rfl
    (with_reducible exact st0; apply r_cons; apply r_lit; apply r_cons; apply r_lit; apply r_nil); exact rfl; (with_reducible exact hasWord2 _ _ _ _ _ (b := false) (by decide +kernel)); exact rfl
    (with_reducible apply c_f; rfl; apply r_skip; apply c_nx; apply r_then; apply r_if; apply r_t; apply r_d; apply r_call; apply r_cons; apply r_var); exact rfl; exact rfl
    (with_reducible exact st0; apply r_cons; apply r_lit; apply r_cons; apply r_lit; apply r_nil); exact rfl; (with_reducible exact hasWord2 _ _ _ _ _ (b := false) (by decide +kernel)); exact rfl
    (with_reducible apply c_f; rfl; apply r_skip; apply c_nx; apply r_then; apply r_if; apply r_t; apply r_d; apply r_call; apply r_cons; apply r_var); exact rfl; exact rfl
    (with_reducible exact st0; apply r_cons; apply r_lit; apply r_cons; apply r_lit; apply r_nil); exact rfl; (with_reducible exact hasWord2 _ _ _ _ _ (b := true) (by decide +kernel)); exact rfl
    (with_reducible apply c_t; rfl; apply r_then; apply r_ret; apply r_toE; apply r_andV; apply r_d; apply r_call; apply r_cons; apply r_d; apply r_ixP; apply r_see); exact rfl; exact rfl
    (with_reducible apply r_lit; apply r_see); exact rfl; exact rfl; (with_reducible apply o_igT; apply at1); exact rfl; (with_reducible apply r_cons; apply r_var); exact rfl; exact rfl
    (with_reducible exact st2; apply r_nil); exact rfl; (with_reducible assumption); exact rfl; (with_reducible apply c_t; rfl; apply r_d; apply r_call; apply r_cons; apply r_var); exact rfl
    exact rfl; (with_reducible exact st1; apply r_cons; apply r_d; apply r_ixP; apply r_see); exact rfl; exact rfl; (with_reducible apply r_lit; apply r_see); exact rfl; exact rfl
    (with_reducible apply o_igT; apply at1); exact rfl; (with_reducible apply r_nil); exact rfl; (with_reducible assumption); exact rfl; (with_reducible apply c_ret; apply c_ret)
  | extend ns =>
    obtain ⟨h1, h2, os, hd⟩ := h
    have q2 := areNames_eq t names ns h1 h2
    rcases hd with rfl | rfl
    · show runF _ _ [.tup [.str "extend", .lst 0 (ns.map .str)], .tup [.str "max", .lst 0 (os.map Opd.e)], _] = _
      apply rf_3_3
      (with_reducible apply r_then; apply r_if; apply r_t; apply r_d; apply r_call; apply r_cons; apply r_var); exact rfl; exact rfl
      (with_reducible exact st0; apply r_cons; apply r_lit; apply r_cons; apply r_lit; apply r_nil); exact rfl; (with_reducible exact hasWord2 _ _ _ _ _ (b := false) (by decide +kernel)); exact rfl
      (with_reducible apply c_f; rfl; apply r_skip; apply c_nx; apply r_then; apply r_if; apply r_t; apply r_d; apply r_call; apply r_cons; apply r_var); exact rfl; exact rfl
      (with_reducible exact st0; apply r_cons; apply r_lit; apply r_cons; apply r_lit; apply r_nil); exact rfl; (with_reducible exact hasWord2 _ _ _ _ _ (b := false) (by decide +kernel)); exact rfl
      (with_reducible apply c_f; rfl; apply r_skip; apply c_nx; apply r_then; apply r_if; apply r_t; apply r_d; apply r_call; apply r_cons; apply r_var); exact rfl; exact rfl
      (with_reducible exact st0; apply r_cons; apply r_lit; apply r_cons; apply r_lit; apply r_nil); exact rfl; (with_reducible exact hasWord2 _ _ _ _ _ (b := false) (by decide +kernel)); exact rfl
      (with_reducible apply c_f; rfl; apply r_skip; apply c_nx; apply r_then; apply r_ret; apply r_toE; apply r_andV; apply r_d; apply r_call; apply r_cons; apply r_var); exact rfl; exact rfl
      (with_reducible exact st0; apply r_cons; apply r_lit; apply r_cons; apply r_lit; apply r_nil); exact rfl; (with_reducible exact hasWord2 _ _ _ _ _ (b := true) (by decide +kernel)); exact rfl
      (with_reducible apply c_t; rfl; apply r_andV; apply r_d; apply r_call; apply r_cons; apply r_d; apply r_ixP; apply r_see); exact rfl; exact rfl; (with_reducible apply r_lit; apply r_see)
      exact rfl; exact rfl; (with_reducible apply o_igT; apply at1); exact rfl; (with_reducible apply r_cons; apply r_var); exact rfl; exact rfl; (with_reducible exact st2; apply r_nil); exact rfl
      (with_reducible assumption); exact rfl; (with_reducible apply c_t; rfl; apply r_d; apply r_inV; apply r_d; apply r_ixP; apply r_see); exact rfl; exact rfl
      (with_reducible apply r_lit; apply r_see); exact rfl; exact rfl; (with_reducible apply o_igT; apply at0); exact rfl
      (with_reducible apply r_tup; apply r_cons; apply r_lit; apply r_cons; apply r_lit; apply r_nil); exact Nat.le_of_ble_eq_true rfl; exact rfl; exact rfl; exact rfl
    · show runF _ _ [.tup [.str "extend", .lst 0 (ns.map .str)], .tup [.str "min", .lst 0 (os.map Opd.e)], _] = _
      apply rf_3_3
      (with_reducible apply r_then; apply r_if; apply r_t; apply r_d; apply r_call; apply r_cons; apply r_var); exact rfl; exact rfl
      (with_reducible exact st0; apply r_cons; apply r_lit; apply r_cons; apply r_lit; apply r_nil); exact rfl; (with_reducible exact hasWord2 _ _ _ _ _ (b := false) (by decide +kernel)); exact rfl
      (with_reducible apply c_f; rfl; apply r_skip; apply c_nx; apply r_then; apply r_if; apply r_t; apply r_d; apply r_call; apply r_cons; apply r_var); exact rfl; exact rfl
      (with_reducible exact st0; apply r_cons; apply r_lit; apply r_cons; apply r_lit; apply r_nil); exact rfl; (with_reducible exact hasWord2 _ _ _ _ _ (b := false) (by decide +kernel)); exact rfl
      (with_reducible apply c_f; rfl; apply r_skip; apply c_nx; apply r_then; apply r_if; apply r_t; apply r_d; apply r_call; apply r_cons; apply r_var); exact rfl; exact rfl
      (with_reducible exact st0; apply r_cons; apply r_lit; apply r_cons; apply r_lit; apply r_nil); exact rfl; (with_reducible exact hasWord2 _ _ _ _ _ (b := false) (by decide +kernel)); exact rfl
      (with_reducible apply c_f; rfl; apply r_skip; apply c_nx; apply r_then; apply r_ret; apply r_toE; apply r_andV; apply r_d; apply r_call; apply r_cons; apply r_var); exact rfl; exact rfl
      (with_reducible exact st0; apply r_cons; apply r_lit; apply r_cons; apply r_lit; apply r_nil); exact rfl; (with_reducible exact hasWord2 _ _ _ _ _ (b := true) (by decide +kernel)); exact rfl
      (with_reducible apply c_t; rfl; apply r_andV; apply r_d; apply r_call; apply r_cons; apply r_d; apply r_ixP; apply r_see); exact rfl; exact rfl; (with_reducible apply r_lit; apply r_see)
      exact rfl; exact rfl; (with_reducible apply o_igT; apply at1); exact rfl; (with_reducible apply r_cons; apply r_var); exact rfl; exact rfl; (with_reducible exact st2; apply r_nil); exact rfl
      (with_reducible assumption); exact rfl; (with_reducible apply c_t; rfl; apply r_d; apply r_inV; apply r_d; apply r_ixP; apply r_see); exact rfl; exact rfl
      (with_reducible apply r_lit; apply r_see); exact rfl; exact rfl; (with_reducible apply o_igT; apply at0); exact rfl
      (with_reducible apply r_tup; apply r_cons; apply r_lit; apply r_cons; apply r_lit; apply r_nil); exact Nat.le_of_ble_eq_true rfl; exact rfl; exact rfl; exact rfl
end Ev

set_option Elab.async false
set_option linter.all false
set_option maxRecDepth 100000
set_option maxHeartbeats 1000000
namespace Ev
open PySem L2
theorem sets_loop0 (v : D) : ∀ (suf : List Row) (pre : List Str) (a : Sl), (∀ r ∈ suf, Nm r.nm) → (pre ++ suf.map Row.nm).Nodup → (pre ++ suf.map Row.nm).length < lim → ∃ a', forRun (gNam 2) (lb_are_settings_1 0) (suf.map Row.e) [.sh v, .own 0 (pre.map .str), a, .non, .non, .non] = some (.nx, [.sh v, .own 0 ((pre ++ suf.map Row.nm).map .str), a', .non, .non, .non])
  | [], pre, a, _, _, _ => ⟨a, by simp; rfl⟩
  | r :: rs, pre, a, hn, nd, hl => by
    have h0 := isName_eq r.nm (hn r List.mem_cons_self)
    have h1 : decide (r.nm ∈ pre) = false := by
      refine decide_eq_false fun q => ?_
      rw [List.map_cons] at nd
      exact (List.nodup_append.mp nd).2.2 r.nm q r.nm List.mem_cons_self rfl
    have hl2 : (pre.map D.str).length < lim := by
      rw [List.length_map]
      rw [List.length_append] at hl
      omega
    obtain ⟨a', ih⟩ := sets_loop0 v rs (pre ++ [r.nm]) (.sh (.tup [.str r.nm, r.pm.e, r.df.e])) (fun r hr => hn r (List.mem_cons_of_mem _ hr)) (by simpa using nd) (by simpa using hl)
    refine ⟨a', ?_⟩
    rw [List.map_cons]
    show forRun _ _ (.tup [.str r.nm, r.pm.e, r.df.e] :: _) _ = _
    apply fr_cons
    (with_reducible apply g_nam'; exact st2); unfold lb_are_settings_1; (with_reducible apply r_then; apply r_if; apply r_or; apply r_not; apply r_t; apply r_d; apply r_op1; apply r_see)
    exact rfl; exact rfl; exact rfl; exact rfl; exact rfl; (with_reducible apply c_f); exact rfl
    (with_reducible apply r_or; apply r_t; apply r_d; apply r_op2; apply r_d; apply r_op1; apply r_see); exact rfl; exact rfl; exact rfl; exact rfl; (with_reducible apply r_lit); exact rfl
    exact rfl; (with_reducible apply c_f); exact rfl; (with_reducible apply r_or; apply r_not; apply r_t; apply r_d; apply r_call; apply r_cons; apply r_d; apply r_ixP; apply r_see); exact rfl
    exact rfl; (with_reducible apply r_lit; apply r_see); exact rfl; exact rfl; (with_reducible apply o_igT; apply at0); exact rfl; (with_reducible apply r_nil); exact rfl
    (with_reducible assumption); exact rfl; exact rfl; (with_reducible apply c_f); decide +kernel; (with_reducible apply r_in; apply r_d; apply r_ixP; apply r_see); exact rfl; exact rfl
    (with_reducible apply r_lit; apply r_see); exact rfl; exact rfl; (with_reducible apply o_igT; apply at0); exact rfl; (with_reducible apply r_see); exact rfl; exact rfl
    (with_reducible apply inH_strs; apply c_f; assumption; apply r_skip; apply c_nx; apply r_then; apply r_app); exact rfl; exact rfl; (with_reducible apply r_d; apply r_ixP; apply r_see)
    exact rfl; exact rfl; (with_reducible apply r_lit; apply r_see); exact rfl; exact rfl; (with_reducible apply o_igT; apply at0); exact rfl; exact rfl; exact rfl
    (with_reducible assumption; exact so1; apply c_nx; apply r_skip; apply c_nx)
    simpa using ih
def Row.ok (names : List Str) (r : Row) : Prop := r.df.ok names ∧ r.pm.ok names r.df
theorem sets_loop1 (v : D) (names : List Str) (hk : Sk names) : ∀ (suf : List Row) (s1 a b c d : Sl), s1.toD = some (.lst 0 (names.map .str)) → (∀ r ∈ suf, r.ok names) → ∃ s1' b' c' d', forRun (gTupN [3, 4, 5]) (lb_are_settings_0 0) (suf.map Row.e) [.sh v, s1, a, b, c, d] = some (.nx, [.sh v, s1', a, b', c', d'])
  | [], s1, a, b, c, d, _, _ => ⟨s1, b, c, d, rfl⟩
  | r :: rs, s1, a, b, c, d, hs, h => by
    obtain ⟨h1, h2⟩ := h r List.mem_cons_self
    have q1 := isDef_eq 0 r.df names hk h1
    have q2 := isPermitted_eq 0 names r.df r.pm h2
    obtain ⟨s1', b', c', d', ih⟩ := sets_loop1 v names hk rs (.sh (.lst 0 (names.map .str))) a (.sh (.str r.nm)) (.sh r.pm.e) (.sh r.df.e) rfl fun r hr => h r (List.mem_cons_of_mem _ hr)
    refine ⟨s1', b', c', d', ?_⟩
    rw [List.map_cons]
    show forRun _ _ (.tup [.str r.nm, r.pm.e, r.df.e] :: _) _ = _
    apply fr_cons
    (with_reducible apply g_tupN; apply g_cons'; exact st3; apply g_cons'; exact st4; apply g_cons'; exact st5; apply g_nil'); unfold lb_are_settings_0
    (with_reducible apply r_then; apply r_if; apply r_or; apply r_not; apply r_t; apply r_d; apply r_call; apply r_cons; apply r_var); exact rfl; exact rfl
    (with_reducible exact st5; apply r_cons; apply r_var); exact rfl; (with_reducible assumption; exact st1; apply r_nil); exact rfl; (with_reducible assumption); exact rfl; exact rfl
    (with_reducible apply c_f); decide +kernel; (with_reducible apply r_not; apply r_t; apply r_d; apply r_call; apply r_cons; apply r_var); exact rfl; exact rfl
    (with_reducible exact st4; apply r_cons; apply r_var); exact rfl; exact rfl; (with_reducible exact st5; apply r_cons; apply r_var); exact rfl; exact rfl
    (with_reducible exact st1; apply r_nil); exact rfl; (with_reducible assumption); exact rfl; exact rfl; (with_reducible apply c_f); decide +kernel
    (with_reducible apply r_skip; apply c_nx; apply r_skip; apply c_nx; assumption)
theorem areSettings_eq (rows : List Row) (hn : ∀ r ∈ rows, Nm r.nm) (nd : (rows.map Row.nm).Nodup) (hl : rows.length < lim) (hk : Sk (rows.map Row.nm)) (h : ∀ r ∈ rows, r.ok (rows.map Row.nm)) : F_are_settings 0 [.lst 0 (rows.map Row.e)] = some (.sh (.bl true)) := by
  obtain ⟨a', h1⟩ := sets_loop0 (.lst 0 (rows.map Row.e)) rows [] .non hn nd (by simpa using hl)
  obtain ⟨s1', b', c', d', h2⟩ := sets_loop1 (.lst 0 (rows.map Row.e)) (rows.map Row.nm) hk rows (.own 0 ((rows.map Row.nm).map .str)) a' .non .non .non rfl h
  simp only [List.map_nil, List.nil_append] at h1
  unfold F_are_settings fb_are_settings
  apply rf_6_1
  (with_reducible apply r_then; apply r_if; apply r_not; apply r_t; apply r_d; apply r_op1; apply r_see); exact rfl; exact rfl; exact rfl; exact rfl; exact rfl; (with_reducible apply c_f)
  exact rfl; (with_reducible apply r_skip; apply c_nx; apply r_then; apply r_set; apply r_lst; apply r_nil); exact Nat.le_of_ble_eq_true rfl
  (with_reducible exact st1; apply c_nx; apply r_then; apply r_for; apply r_seq; apply r_var); exact rfl; exact rfl; (with_reducible exact st0); exact rfl
  (with_reducible assumption; apply c_nx; apply r_then; apply r_for; apply r_seq; apply r_var); exact rfl; exact rfl; (with_reducible exact st0); exact rfl
  (with_reducible assumption; apply c_nx; apply r_then; apply r_ret; apply r_toE; apply r_lit; apply c_ret)
end Ev

set_option Elab.async false
set_option linter.all false
set_option maxRecDepth 100000
set_option maxHeartbeats 1000000
namespace Ev
open PySem L2
def cpD : D → Prop
  | .lst t _ => t = 0
  | .scr _ => False
  | .exc _ _ => False
  | _ => True
theorem copied_eq (ds : List D) (h : ∀ d ∈ ds, cpD d) (hl : ds.length ≤ lim) : F_copied 0 [.tup ds] = some (.sh (.tup ds)) := by
  have hm : lcRun [1] (gNam 1) fYes (FE.d (fIte (FD.t (FE.d (fOp1 (dIsi .list) (fSee 1)))) (fOp1 (dList 0) (fSee 1)) (FD.toE (fVar 1)))) ds [.sh (.tup ds), .non] = some (ds, [.sh (.tup ds), .non]) := by
    have := lc_every (own := [1]) (tg := gNam 1) (cond := fYes) (elt := FE.d (fIte (FD.t (FE.d (fOp1 (dIsi .list) (fSee 1)))) (fOp1 (dList 0) (fSee 1)) (FD.toE (fVar 1)))) (Γ := [.sh (.tup ds), .non]) (enc := fun d : D => d) (fun d => d) (xs := ds) fun d hd => by
      have q := h d hd
      cases d with
      | lst t xs => cases (show t = 0 from q); exact ⟨_, _, rfl, rfl, fun z => (by cases z), fun _ => ⟨_, rfl, rfl⟩⟩
      | scr ns => exact q.elim
      | exc _ _ => exact q.elim
      | non => exact ⟨_, _, rfl, rfl, fun z => (by cases z), fun _ => ⟨_, rfl, rfl⟩⟩
      | bl b => exact ⟨_, _, rfl, rfl, fun z => (by cases z), fun _ => ⟨_, rfl, rfl⟩⟩
      | int b => exact ⟨_, _, rfl, rfl, fun z => (by cases z), fun _ => ⟨_, rfl, rfl⟩⟩
      | str b => exact ⟨_, _, rfl, rfl, fun z => (by cases z), fun _ => ⟨_, rfl, rfl⟩⟩
      | tup b => exact ⟨_, _, rfl, rfl, fun z => (by cases z), fun _ => ⟨_, rfl, rfl⟩⟩
      | dct a b c => exact ⟨_, _, rfl, rfl, fun z => (by cases z), fun _ => ⟨_, rfl, rfl⟩⟩
      | ins a b => exact ⟨_, _, rfl, rfl, fun z => (by cases z), fun _ => ⟨_, rfl, rfl⟩⟩
    simpa using this
  unfold F_copied fb_copied
  apply rf_2_1
  (with_reducible apply r_then; apply r_ret; apply r_op1; apply r_d; apply r_lc; apply r_seq; apply r_var); exact rfl; exact rfl; (with_reducible exact st0); exact rfl; exact wp1
  (with_reducible assumption); exact rfl; exact rfl; (with_reducible apply c_ret)
theorem copied_df (d : Dfn) : F_copied 0 [d.e] = some (.sh d.e) := by
  cases d with
  | num i => exact copied_eq _ (by simp [cpD]) (Nat.le_of_ble_eq_true rfl)
  | plus x i => exact copied_eq _ (by simp [cpD]) (Nat.le_of_ble_eq_true rfl)
  | mx os => exact copied_eq _ (by simp [cpD, opL]) (Nat.le_of_ble_eq_true rfl)
  | mn os => exact copied_eq _ (by simp [cpD, opL]) (Nat.le_of_ble_eq_true rfl)
  | ife a b c d =>
    refine copied_eq _ ?_ (Nat.le_of_ble_eq_true rfl)
    have : ∀ o : Opd, cpD o.e := fun o => by cases o <;> trivial
    intro z hz
    simp at hz
    rcases hz with rfl | rfl | rfl | rfl | rfl
    · trivial
    · exact this _
    · exact this _
    · exact this _
    · exact this _
theorem cp_oI (o : Option Int) : cpD (oI o) := by cases o <;> trivial
theorem copied_pm (p : Prm) : F_copied 0 [p.e] = some (.sh p.e) := by
  cases p with
  | sealed lo hi => exact copied_eq _ (by intro z hz; simp at hz; rcases hz with rfl | rfl | rfl <;> first | exact cp_oI _ | trivial) (Nat.le_of_ble_eq_true rfl)
  | free lo hi ns => exact copied_eq _ (by intro z hz; simp at hz; rcases hz with rfl | rfl | rfl | rfl <;> first | exact cp_oI _ | trivial | rfl) (Nat.le_of_ble_eq_true rfl)
  | choice ns => exact copied_eq _ (by intro z hz; simp at hz; rcases hz with rfl | rfl <;> first | trivial | rfl) (Nat.le_of_ble_eq_true rfl)
  | extend ns => exact copied_eq _ (by intro z hz; simp at hz; rcases hz with rfl | rfl <;> first | trivial | rfl) (Nat.le_of_ble_eq_true rfl)
theorem copied_row (r : Row) : F_copied_setting 0 [r.e] = some (.sh r.e) := by
  have h1 := copied_df r.df
  have h2 := copied_pm r.pm
  unfold F_copied_setting fb_copied_setting
  show runF _ _ [.tup [.str r.nm, r.pm.e, r.df.e]] = _
  apply rf_1_1
  (with_reducible apply r_then; apply r_ret; apply r_toE; apply r_tup; apply r_cons; apply r_d; apply r_ixP; apply r_see); exact rfl; exact rfl; (with_reducible apply r_lit; apply r_see)
  exact rfl; exact rfl; (with_reducible apply o_igT; apply at0); exact rfl; (with_reducible apply r_cons; apply r_d; apply r_call; apply r_cons; apply r_d; apply r_ixP; apply r_see); exact rfl
  exact rfl; (with_reducible apply r_lit; apply r_see); exact rfl; exact rfl; (with_reducible apply o_igT; apply at1); exact rfl; (with_reducible apply r_nil); exact rfl
  (with_reducible assumption); exact rfl; (with_reducible apply r_cons; apply r_d; apply r_call; apply r_cons; apply r_d; apply r_ixP; apply r_see); exact rfl; exact rfl
  (with_reducible apply r_lit; apply r_see); exact rfl; exact rfl; (with_reducible apply o_igT; apply at2); exact rfl; (with_reducible apply r_nil); exact rfl; (with_reducible assumption)
  exact rfl; (with_reducible apply r_nil); exact Nat.le_of_ble_eq_true rfl; exact rfl
end Ev

set_option Elab.async false
set_option linter.all false
set_option maxRecDepth 100000
set_option maxHeartbeats 1000000
namespace Ev
open PySem L2
theorem inT_lit (x : Str) (ns : List Str) {b : Bool} (h : decide (x ∈ ns) = b) : inH false (.str x) (.tup (ns.map .str)) = some (.sh (.bl b)) := by
  unfold inH sIn; simp only [Bool.false_eq_true, if_false, dIn_strsT, h]
def Dfn.os : Dfn → List D
  | .num i => [.int i]
  | .plus x _ => [.str x]
  | .mx os => os.map Opd.e
  | .mn os => os.map Opd.e
  | .ife a b c d => [a.e, b.e, c.e, d.e]
theorem operandsOf_eq (d : Dfn) : F_operands_of 0 [d.e] = some (.own 0 d.os) := by
  unfold F_operands_of fb_operands_of
  cases d with
  | num i =>
    have q : inH false (.str "number") (.tup [.str "max", .str "min"]) = some (.sh (.bl false)) := inT_lit "number" ["max", "min"] (by decide +kernel)
    show runF _ _ [.tup [.str "number", .int i]] = some (.own 0 [.int i])
    apply rf_1_1
    (with_reducible apply r_then; apply r_if; apply r_t; apply r_d; apply r_op2; apply r_d; apply r_ixP; apply r_see); exact rfl; exact rfl; (with_reducible apply r_lit; apply r_see); exact rfl
    exact rfl; (with_reducible apply o_igT; apply at0); exact rfl; (with_reducible apply r_lit); exact rfl; exact rfl; (with_reducible apply c_f); decide +kernel
    (with_reducible apply r_skip; apply c_nx; apply r_then; apply r_if; apply r_in; apply r_d; apply r_ixP; apply r_see); exact rfl; exact rfl; (with_reducible apply r_lit; apply r_see)
    exact rfl; exact rfl; (with_reducible apply o_igT; apply at0); exact rfl; (with_reducible apply r_tup; apply r_cons; apply r_lit; apply r_cons; apply r_lit; apply r_nil)
    exact Nat.le_of_ble_eq_true rfl; (with_reducible assumption; apply c_f; rfl; apply r_skip; apply c_nx; apply r_then; apply r_ret; apply r_op1; apply r_d; apply r_sliceP; apply r_see)
    exact rfl; exact rfl; (with_reducible apply r_part; apply r_lit; apply r_nopart; apply r_see); exact rfl; exact rfl; (with_reducible apply o_slT1); exact rfl; exact rfl
    (with_reducible apply c_ret)
  | plus x i =>
    show runF _ _ [.tup [.str "plus", .str x, .int i]] = some (.own 0 [.str x])
    apply rf_1_1
    (with_reducible apply r_then; apply r_if; apply r_t; apply r_d; apply r_op2; apply r_d; apply r_ixP; apply r_see); exact rfl; exact rfl; (with_reducible apply r_lit; apply r_see); exact rfl
    exact rfl; (with_reducible apply o_igT; apply at0); exact rfl; (with_reducible apply r_lit); exact rfl; exact rfl; (with_reducible apply c_t); decide +kernel
    (with_reducible apply r_then; apply r_ret; apply r_lst; apply r_cons; apply r_d; apply r_ixP; apply r_see); exact rfl; exact rfl; (with_reducible apply r_lit; apply r_see); exact rfl
    exact rfl; (with_reducible apply o_igT; apply at1); exact rfl; (with_reducible apply r_nil); exact Nat.le_of_ble_eq_true rfl; (with_reducible apply c_ret; apply c_ret)
  | mx os =>
    have q : inH false (.str "max") (.tup [.str "max", .str "min"]) = some (.sh (.bl true)) := inT_lit "max" ["max", "min"] (by decide +kernel)
    show runF _ _ [.tup [.str "max", .lst 0 (os.map Opd.e)]] = some (.own 0 (os.map Opd.e))
    apply rf_1_1
    (with_reducible apply r_then; apply r_if; apply r_t; apply r_d; apply r_op2; apply r_d; apply r_ixP; apply r_see); exact rfl; exact rfl; (with_reducible apply r_lit; apply r_see); exact rfl
    exact rfl; (with_reducible apply o_igT; apply at0); exact rfl; (with_reducible apply r_lit); exact rfl; exact rfl; (with_reducible apply c_f); decide +kernel
    (with_reducible apply r_skip; apply c_nx; apply r_then; apply r_if; apply r_in; apply r_d; apply r_ixP; apply r_see); exact rfl; exact rfl; (with_reducible apply r_lit; apply r_see)
    exact rfl; exact rfl; (with_reducible apply o_igT; apply at0); exact rfl; (with_reducible apply r_tup; apply r_cons; apply r_lit; apply r_cons; apply r_lit; apply r_nil)
    exact Nat.le_of_ble_eq_true rfl; (with_reducible assumption; apply c_t; rfl; apply r_then; apply r_ret; apply r_op1; apply r_d; apply r_ixP; apply r_see); exact rfl; exact rfl
    (with_reducible apply r_lit; apply r_see); exact rfl; exact rfl; (with_reducible apply o_igT; apply at1); exact rfl; exact rfl; (with_reducible apply c_ret; apply c_ret)
  | mn os =>
    have q : inH false (.str "min") (.tup [.str "max", .str "min"]) = some (.sh (.bl true)) := inT_lit "min" ["max", "min"] (by decide +kernel)
    show runF _ _ [.tup [.str "min", .lst 0 (os.map Opd.e)]] = some (.own 0 (os.map Opd.e))
    apply rf_1_1
    (with_reducible apply r_then; apply r_if; apply r_t; apply r_d; apply r_op2; apply r_d; apply r_ixP; apply r_see); exact rfl; exact rfl; (with_reducible apply r_lit; apply r_see); exact rfl
    exact rfl; (with_reducible apply o_igT; apply at0); exact rfl; (with_reducible apply r_lit); exact rfl; exact rfl; (with_reducible apply c_f); decide +kernel
    (with_reducible apply r_skip; apply c_nx; apply r_then; apply r_if; apply r_in; apply r_d; apply r_ixP; apply r_see); exact rfl; exact rfl; (with_reducible apply r_lit; apply r_see)
    exact rfl; exact rfl; (with_reducible apply o_igT; apply at0); exact rfl; (with_reducible apply r_tup; apply r_cons; apply r_lit; apply r_cons; apply r_lit; apply r_nil)
    exact Nat.le_of_ble_eq_true rfl; (with_reducible assumption; apply c_t; rfl; apply r_then; apply r_ret; apply r_op1; apply r_d; apply r_ixP; apply r_see); exact rfl; exact rfl
    (with_reducible apply r_lit; apply r_see); exact rfl; exact rfl; (with_reducible apply o_igT; apply at1); exact rfl; exact rfl; (with_reducible apply c_ret; apply c_ret)
  | ife a b c d =>
    have q : inH false (.str "if") (.tup [.str "max", .str "min"]) = some (.sh (.bl false)) := inT_lit "if" ["max", "min"] (by decide +kernel)
    show runF _ _ [.tup [.str "if", a.e, b.e, c.e, d.e]] = some (.own 0 [a.e, b.e, c.e, d.e])
    apply rf_1_1
    (with_reducible apply r_then; apply r_if; apply r_t; apply r_d; apply r_op2; apply r_d; apply r_ixP; apply r_see); exact rfl; exact rfl; (with_reducible apply r_lit; apply r_see); exact rfl
    exact rfl; (with_reducible apply o_igT; apply at0); exact rfl; (with_reducible apply r_lit); exact rfl; exact rfl; (with_reducible apply c_f); decide +kernel
    (with_reducible apply r_skip; apply c_nx; apply r_then; apply r_if; apply r_in; apply r_d; apply r_ixP; apply r_see); exact rfl; exact rfl; (with_reducible apply r_lit; apply r_see)
    exact rfl; exact rfl; (with_reducible apply o_igT; apply at0); exact rfl; (with_reducible apply r_tup; apply r_cons; apply r_lit; apply r_cons; apply r_lit; apply r_nil)
    exact Nat.le_of_ble_eq_true rfl; (with_reducible assumption; apply c_f; rfl; apply r_skip; apply c_nx; apply r_then; apply r_ret; apply r_op1; apply r_d; apply r_sliceP; apply r_see)
    exact rfl; exact rfl; (with_reducible apply r_part; apply r_lit; apply r_nopart; apply r_see); exact rfl; exact rfl; (with_reducible apply o_slT1); exact rfl; exact rfl
    (with_reducible apply c_ret)
def isS : D → Bool
  | .str _ => true
  | _ => false
theorem filt_opds : ∀ os : List Opd, (os.map Opd.e).filter isS = (os.flatMap Opd.ns).map .str
  | [] => rfl
  | .n i :: r => by rw [List.map_cons, List.flatMap_cons]; exact filt_opds r
  | .v x :: r => by
    rw [List.map_cons, List.flatMap_cons, List.map_append, ← filt_opds r]
    rfl
theorem filt_os (d : Dfn) : d.os.filter isS = d.ns.map .str := by
  cases d with
  | num i => rfl
  | plus x i => rfl
  | mx os => exact filt_opds os
  | mn os => exact filt_opds os
  | ife a b c d =>
    have := filt_opds [a, b, c, d]
    show List.filter isS [a.e, b.e, c.e, d.e] = (a.ns ++ (b.ns ++ (c.ns ++ d.ns))).map .str
    simpa using this
theorem namesIn_eq (d : Dfn) : F_names_in 0 [d.e] = some (.own 0 (d.ns.map .str)) := by
  have h := operandsOf_eq d
  have hm : lcRun [1] (gNam 1) (FD.t (FE.d (fOp1 (dIsi .str) (fSee 1)))) (fVar 1) d.os [.sh d.e, .non] = some (d.ns.map .str, [.sh d.e, .non]) := by
    have := lc_map (own := [1]) (tg := gNam 1) (cond := FD.t (FE.d (fOp1 (dIsi .str) (fSee 1)))) (elt := fVar 1) (Γ := [.sh d.e, .non]) (fun z : D => z) isS (fun z => z) d.os fun z hz => by
      cases z <;> exact ⟨_, _, rfl, rfl, fun _ => rfl, fun _ => ⟨_, rfl, rfl⟩⟩
    rw [List.map_id', List.map_id', filt_os] at this
    exact this
  unfold F_names_in fb_names_in
  apply rf_2_1
  (with_reducible apply r_then; apply r_ret; apply r_lc; apply r_seq; apply r_d; apply r_call; apply r_cons; apply r_var); exact rfl; exact rfl; (with_reducible exact st0; apply r_nil)
  exact rfl; (with_reducible assumption); exact rfl; exact rfl; exact wp1; (with_reducible assumption; apply c_ret)
theorem permittedNames_eq (p : Prm) : F_permitted_names 0 [p.e] = some (.own 0 (p.ns.map .str)) := by
  unfold F_permitted_names fb_permitted_names
  cases p with
  | sealed lo hi =>
    show runF _ _ [.tup [.str "sealed", oI lo, oI hi]] = some (.own 0 [])
    apply rf_1_1
    (with_reducible apply r_then; apply r_if; apply r_t; apply r_d; apply r_op2; apply r_d; apply r_ixP; apply r_see); exact rfl; exact rfl; (with_reducible apply r_lit; apply r_see); exact rfl
    exact rfl; (with_reducible apply o_igT; apply at0); exact rfl; (with_reducible apply r_lit); exact rfl; exact rfl; (with_reducible apply c_t); decide +kernel
    (with_reducible apply r_then; apply r_ret; apply r_lst; apply r_nil); exact Nat.le_of_ble_eq_true rfl; (with_reducible apply c_ret; apply c_ret)
  | free lo hi ns =>
    have q : atI [D.str "free", oI lo, oI hi, .lst 0 (ns.map .str)] (-1) = some (.lst 0 (ns.map .str)) := rfl
    show runF _ _ [.tup [.str "free", oI lo, oI hi, .lst 0 (ns.map .str)]] = some (.own 0 (ns.map .str))
    apply rf_1_1
    (with_reducible apply r_then; apply r_if; apply r_t; apply r_d; apply r_op2; apply r_d; apply r_ixP; apply r_see); exact rfl; exact rfl; (with_reducible apply r_lit; apply r_see); exact rfl
    exact rfl; (with_reducible apply o_igT; apply at0); exact rfl; (with_reducible apply r_lit); exact rfl; exact rfl; (with_reducible apply c_f); decide +kernel
    (with_reducible apply r_skip; apply c_nx; apply r_then; apply r_ret; apply r_op1; apply r_d; apply r_ixP; apply r_see); exact rfl; exact rfl
    (with_reducible apply r_d; apply r_op1; apply r_lit); exact rfl; exact rfl; (with_reducible apply r_see); exact rfl; exact rfl; (with_reducible apply o_igT; assumption); exact rfl; exact rfl
    (with_reducible apply c_ret)
  | choice ns =>
    have q : atI [D.str "choice", .lst 0 (ns.map .str)] (-1) = some (.lst 0 (ns.map .str)) := rfl
    show runF _ _ [.tup [.str "choice", .lst 0 (ns.map .str)]] = some (.own 0 (ns.map .str))
    apply rf_1_1
    (with_reducible apply r_then; apply r_if; apply r_t; apply r_d; apply r_op2; apply r_d; apply r_ixP; apply r_see); exact rfl; exact rfl; (with_reducible apply r_lit; apply r_see); exact rfl
    exact rfl; (with_reducible apply o_igT; apply at0); exact rfl; (with_reducible apply r_lit); exact rfl; exact rfl; (with_reducible apply c_f); decide +kernel
    (with_reducible apply r_skip; apply c_nx; apply r_then; apply r_ret; apply r_op1; apply r_d; apply r_ixP; apply r_see); exact rfl; exact rfl
    (with_reducible apply r_d; apply r_op1; apply r_lit); exact rfl; exact rfl; (with_reducible apply r_see); exact rfl; exact rfl; (with_reducible apply o_igT; assumption); exact rfl; exact rfl
    (with_reducible apply c_ret)
  | extend ns =>
    have q : atI [D.str "extend", .lst 0 (ns.map .str)] (-1) = some (.lst 0 (ns.map .str)) := rfl
    show runF _ _ [.tup [.str "extend", .lst 0 (ns.map .str)]] = some (.own 0 (ns.map .str))
    apply rf_1_1
    (with_reducible apply r_then; apply r_if; apply r_t; apply r_d; apply r_op2; apply r_d; apply r_ixP; apply r_see); exact rfl; exact rfl; (with_reducible apply r_lit; apply r_see); exact rfl
    exact rfl; (with_reducible apply o_igT; apply at0); exact rfl; (with_reducible apply r_lit); exact rfl; exact rfl; (with_reducible apply c_f); decide +kernel
    (with_reducible apply r_skip; apply c_nx; apply r_then; apply r_ret; apply r_op1; apply r_d; apply r_ixP; apply r_see); exact rfl; exact rfl
    (with_reducible apply r_d; apply r_op1; apply r_lit); exact rfl; exact rfl; (with_reducible apply r_see); exact rfl; exact rfl; (with_reducible apply o_igT; assumption); exact rfl; exact rfl
    (with_reducible apply c_ret)
def Row.ms (r : Row) : List Str := r.df.ns ++ r.pm.ns
theorem mentions_eq (r : Row) (hl : r.ms.length ≤ lim) : F_mentions 0 [r.e] = some (.own 0 (r.ms.map .str)) := by
  have h1 := namesIn_eq r.df
  have h2 := permittedNames_eq r.pm
  have h3 : dAdd 0 (.lst 0 (r.df.ns.map .str)) (.lst 0 (r.pm.ns.map .str)) = some (.own 0 (r.ms.map .str)) := by
    unfold dAdd
    dsimp only
    rw [if_pos (by unfold Row.ms at hl; simpa using hl), Row.ms, List.map_append]
  unfold F_mentions fb_mentions
  show runF _ _ [.tup [.str r.nm, r.pm.e, r.df.e]] = _
  apply rf_1_1
  (with_reducible apply r_then; apply r_ret; apply r_op2; apply r_d; apply r_call; apply r_cons; apply r_d; apply r_ixP; apply r_see); exact rfl; exact rfl
  (with_reducible apply r_lit; apply r_see); exact rfl; exact rfl; (with_reducible apply o_igT; apply at2); exact rfl; (with_reducible apply r_nil); exact rfl; (with_reducible assumption)
  exact rfl; (with_reducible apply r_d; apply r_call; apply r_cons; apply r_d; apply r_ixP; apply r_see); exact rfl; exact rfl; (with_reducible apply r_lit; apply r_see); exact rfl; exact rfl
  (with_reducible apply o_igT; apply at1); exact rfl; (with_reducible apply r_nil); exact rfl; (with_reducible assumption); exact rfl; (with_reducible assumption; apply c_ret)
end Ev

set_option Elab.async false
set_option linter.all false
set_option maxRecDepth 100000
set_option maxHeartbeats 1000000
namespace Ev
open PySem L2
def Prm.lo : Prm → Option Int
  | .sealed lo _ => lo
  | .free lo _ _ => lo
  | _ => none
def Prm.hi : Prm → Option Int
  | .sealed _ hi => hi
  | .free _ hi _ => hi
  | _ => none
theorem limitsOf_eq (p : Prm) : F_limits_of 0 [p.e] = some (.sh (.tup [oI p.lo, oI p.hi])) := by
  unfold F_limits_of fb_limits_of
  cases p with
  | sealed lo hi =>
    have q : inH false (.str "sealed") (.tup [.str "sealed", .str "free"]) = some (.sh (.bl true)) := inT_lit "sealed" ["sealed", "free"] (by decide +kernel)
    show runF _ _ [.tup [.str "sealed", oI lo, oI hi]] = some (.sh (.tup [oI lo, oI hi]))
    apply rf_1_1
    (with_reducible apply r_then; apply r_if; apply r_in; apply r_d; apply r_ixP; apply r_see); exact rfl; exact rfl; (with_reducible apply r_lit; apply r_see); exact rfl; exact rfl
    (with_reducible apply o_igT; apply at0); exact rfl; (with_reducible apply r_tup; apply r_cons; apply r_lit; apply r_cons; apply r_lit; apply r_nil); exact Nat.le_of_ble_eq_true rfl
    (with_reducible assumption; apply c_t; rfl; apply r_then; apply r_ret; apply r_toE; apply r_tup; apply r_cons; apply r_d; apply r_ixP; apply r_see); exact rfl; exact rfl
    (with_reducible apply r_lit; apply r_see); exact rfl; exact rfl; (with_reducible apply o_igT; apply at1); exact rfl; (with_reducible apply r_cons; apply r_d; apply r_ixP; apply r_see)
    exact rfl; exact rfl; (with_reducible apply r_lit; apply r_see); exact rfl; exact rfl; (with_reducible apply o_igT; apply at2); exact rfl; (with_reducible apply r_nil)
    exact Nat.le_of_ble_eq_true rfl; (with_reducible apply c_ret; apply c_ret)
  | free lo hi ns =>
    have q : inH false (.str "free") (.tup [.str "sealed", .str "free"]) = some (.sh (.bl true)) := inT_lit "free" ["sealed", "free"] (by decide +kernel)
    show runF _ _ [.tup [.str "free", oI lo, oI hi, nmL ns]] = some (.sh (.tup [oI lo, oI hi]))
    apply rf_1_1
    (with_reducible apply r_then; apply r_if; apply r_in; apply r_d; apply r_ixP; apply r_see); exact rfl; exact rfl; (with_reducible apply r_lit; apply r_see); exact rfl; exact rfl
    (with_reducible apply o_igT; apply at0); exact rfl; (with_reducible apply r_tup; apply r_cons; apply r_lit; apply r_cons; apply r_lit; apply r_nil); exact Nat.le_of_ble_eq_true rfl
    (with_reducible assumption; apply c_t; rfl; apply r_then; apply r_ret; apply r_toE; apply r_tup; apply r_cons; apply r_d; apply r_ixP; apply r_see); exact rfl; exact rfl
    (with_reducible apply r_lit; apply r_see); exact rfl; exact rfl; (with_reducible apply o_igT; apply at1); exact rfl; (with_reducible apply r_cons; apply r_d; apply r_ixP; apply r_see)
    exact rfl; exact rfl; (with_reducible apply r_lit; apply r_see); exact rfl; exact rfl; (with_reducible apply o_igT; apply at2); exact rfl; (with_reducible apply r_nil)
    exact Nat.le_of_ble_eq_true rfl; (with_reducible apply c_ret; apply c_ret)
  | choice ns =>
    have q : inH false (.str "choice") (.tup [.str "sealed", .str "free"]) = some (.sh (.bl false)) := inT_lit "choice" ["sealed", "free"] (by decide +kernel)
    show runF _ _ [.tup [.str "choice", nmL ns]] = some (.sh (.tup [.non, .non]))
    apply rf_1_1
    (with_reducible apply r_then; apply r_if; apply r_in; apply r_d; apply r_ixP; apply r_see); exact rfl; exact rfl; (with_reducible apply r_lit; apply r_see); exact rfl; exact rfl
    (with_reducible apply o_igT; apply at0); exact rfl; (with_reducible apply r_tup; apply r_cons; apply r_lit; apply r_cons; apply r_lit; apply r_nil); exact Nat.le_of_ble_eq_true rfl
    (with_reducible assumption; apply c_f; rfl; apply r_skip; apply c_nx; apply r_then; apply r_ret; apply r_toE; apply r_tup; apply r_cons; apply r_lit; apply r_cons; apply r_lit; apply r_nil)
    exact Nat.le_of_ble_eq_true rfl; (with_reducible apply c_ret)
  | extend ns =>
    have q : inH false (.str "extend") (.tup [.str "sealed", .str "free"]) = some (.sh (.bl false)) := inT_lit "extend" ["sealed", "free"] (by decide +kernel)
    show runF _ _ [.tup [.str "extend", nmL ns]] = some (.sh (.tup [.non, .non]))
    apply rf_1_1
    (with_reducible apply r_then; apply r_if; apply r_in; apply r_d; apply r_ixP; apply r_see); exact rfl; exact rfl; (with_reducible apply r_lit; apply r_see); exact rfl; exact rfl
    (with_reducible apply o_igT; apply at0); exact rfl; (with_reducible apply r_tup; apply r_cons; apply r_lit; apply r_cons; apply r_lit; apply r_nil); exact Nat.le_of_ble_eq_true rfl
    (with_reducible assumption; apply c_f; rfl; apply r_skip; apply c_nx; apply r_then; apply r_ret; apply r_toE; apply r_tup; apply r_cons; apply r_lit; apply r_cons; apply r_lit; apply r_nil)
    exact Nat.le_of_ble_eq_true rfl; (with_reducible apply c_ret)
def Row.sel (r : Row) : Row := ⟨r.nm, .sealed r.pm.lo r.pm.hi, r.df⟩
theorem sealed_eq (r : Row) : F_sealed 0 [r.e] = some (.sh r.sel.e) := by
  have h1 := limitsOf_eq r.pm
  have h2 := copied_df r.df
  unfold F_sealed fb_sealed
  show runF _ _ [.tup [.str r.nm, r.pm.e, r.df.e]] = some (.sh (.tup [.str r.nm, .tup [.str "sealed", oI r.pm.lo, oI r.pm.hi], r.df.e]))
  apply rf_3_1
  (with_reducible apply r_then; apply r_setT; apply r_d; apply r_call; apply r_cons; apply r_d; apply r_ixP; apply r_see); exact rfl; exact rfl; (with_reducible apply r_lit; apply r_see)
  exact rfl; exact rfl; (with_reducible apply o_igT; apply at1); exact rfl; (with_reducible apply r_nil); exact rfl; (with_reducible assumption); exact rfl
  (with_reducible apply g_tupN; apply g_cons'; exact st1; apply g_cons'; exact st2; apply g_nil'; apply c_nx; apply r_then; apply r_ret; apply r_toE; apply r_tup; apply r_cons; apply r_d; apply r_ixP)
  (with_reducible apply r_see); exact rfl; exact rfl; (with_reducible apply r_lit; apply r_see); exact rfl; exact rfl; (with_reducible apply o_igT; apply at0); exact rfl
  (with_reducible apply r_cons; apply r_tup; apply r_cons; apply r_lit; apply r_cons; apply r_var); exact rfl; exact rfl; (with_reducible exact st1; apply r_cons; apply r_var); exact rfl
  exact rfl; (with_reducible exact st2; apply r_nil); exact Nat.le_of_ble_eq_true rfl; (with_reducible apply r_cons; apply r_d; apply r_call; apply r_cons; apply r_d; apply r_ixP; apply r_see)
  exact rfl; exact rfl; (with_reducible apply r_lit; apply r_see); exact rfl; exact rfl; (with_reducible apply o_igT; apply at2); exact rfl; (with_reducible apply r_nil); exact rfl
  (with_reducible assumption); exact rfl; (with_reducible apply r_nil); exact Nat.le_of_ble_eq_true rfl; (with_reducible apply c_ret)
def Stp.nm : Stp → Str
  | .set x _ => x
  | .add x _ => x
  | .sel x => x
def Dfn.len : Dfn → Nat
  | .mx os => os.length
  | .mn os => os.length
  | _ => 4
def Dfn.isM : Dfn → Prop
  | .mx _ => True
  | .mn _ => True
  | _ => False
/-- a row that the permission allows -/
def allowed (p : Prm) : Stp → Prop
  | .sel _ => ∀ lo hi, p ≠ .sealed lo hi
  | .add _ o => ∃ ns, p = .extend ns ∧ ∀ x ∈ o.ns, x ∈ ns
  | .set _ d => (∃ ns x, p = .choice ns ∧ x ∈ ns ∧ d = .plus x 0) ∨ ∃ lo hi ns, p = .free lo hi ns ∧ ∀ x ∈ d.ns, x ∈ ns
theorem allows_eq (p : Prm) (s : Stp) (h : allowed p s) : F_allows 0 [p.e, s.e] = some (.sh (.bl true)) := by
  unfold F_allows fb_allows
  cases s with
  | sel x =>
    cases p with
    | sealed lo hi => exact (h lo hi rfl).elim
    | free lo hi ns =>
      show runF _ _ [.tup [.str "free", oI lo, oI hi, nmL ns], .tup [.str "seal", .str x]] = some (.sh (.bl true))
      apply rf_3_2
      (with_reducible apply r_then; apply r_if; apply r_t; apply r_d; apply r_op2; apply r_d; apply r_ixP; apply r_see); exact rfl; exact rfl; (with_reducible apply r_lit; apply r_see); exact rfl
      exact rfl; (with_reducible apply o_igT; apply at0); exact rfl; (with_reducible apply r_lit); exact rfl; exact rfl; (with_reducible apply c_t); decide +kernel
      (with_reducible apply r_then; apply r_ret; apply r_op2; apply r_d; apply r_ixP; apply r_see); exact rfl; exact rfl; (with_reducible apply r_lit; apply r_see); exact rfl; exact rfl
      (with_reducible apply o_igT; apply at0); exact rfl; (with_reducible apply r_lit); exact rfl; (with_reducible apply c_ret); exact rfl
    | choice ns =>
      show runF _ _ [.tup [.str "choice", nmL ns], .tup [.str "seal", .str x]] = some (.sh (.bl true))
      apply rf_3_2
      (with_reducible apply r_then; apply r_if; apply r_t; apply r_d; apply r_op2; apply r_d; apply r_ixP; apply r_see); exact rfl; exact rfl; (with_reducible apply r_lit; apply r_see); exact rfl
      exact rfl; (with_reducible apply o_igT; apply at0); exact rfl; (with_reducible apply r_lit); exact rfl; exact rfl; (with_reducible apply c_t); decide +kernel
      (with_reducible apply r_then; apply r_ret; apply r_op2; apply r_d; apply r_ixP; apply r_see); exact rfl; exact rfl; (with_reducible apply r_lit; apply r_see); exact rfl; exact rfl
      (with_reducible apply o_igT; apply at0); exact rfl; (with_reducible apply r_lit); exact rfl; (with_reducible apply c_ret); exact rfl
    | extend ns =>
      show runF _ _ [.tup [.str "extend", nmL ns], .tup [.str "seal", .str x]] = some (.sh (.bl true))
      apply rf_3_2
      (with_reducible apply r_then; apply r_if; apply r_t; apply r_d; apply r_op2; apply r_d; apply r_ixP; apply r_see); exact rfl; exact rfl; (with_reducible apply r_lit; apply r_see); exact rfl
      exact rfl; (with_reducible apply o_igT; apply at0); exact rfl; (with_reducible apply r_lit); exact rfl; exact rfl; (with_reducible apply c_t); decide +kernel
      (with_reducible apply r_then; apply r_ret; apply r_op2; apply r_d; apply r_ixP; apply r_see); exact rfl; exact rfl; (with_reducible apply r_lit; apply r_see); exact rfl; exact rfl
      (with_reducible apply o_igT; apply at0); exact rfl; (with_reducible apply r_lit); exact rfl; (with_reducible apply c_ret); exact rfl
  | add x o =>
    obtain ⟨ns, rfl, ho⟩ := h
    cases o with
    | n i =>
      show runF _ _ [.tup [.str "extend", nmL ns], .tup [.str "add", .str x, .int i]] = some (.sh (.bl true))
      apply rf_3_2
      (with_reducible apply r_then; apply r_if; apply r_t; apply r_d; apply r_op2; apply r_d; apply r_ixP; apply r_see); exact rfl; exact rfl; (with_reducible apply r_lit; apply r_see); exact rfl
      exact rfl; (with_reducible apply o_igT; apply at0); exact rfl; (with_reducible apply r_lit); exact rfl; exact rfl; (with_reducible apply c_f); decide +kernel
      (with_reducible apply r_skip; apply c_nx; apply r_then; apply r_if; apply r_t; apply r_d; apply r_op2; apply r_d; apply r_ixP; apply r_see); exact rfl; exact rfl
      (with_reducible apply r_lit; apply r_see); exact rfl; exact rfl; (with_reducible apply o_igT; apply at0); exact rfl; (with_reducible apply r_lit); exact rfl; exact rfl
      (with_reducible apply c_t); decide +kernel; (with_reducible apply r_then; apply r_ret; apply r_toE; apply r_andV; apply r_d; apply r_op2; apply r_d; apply r_ixP; apply r_see); exact rfl
      exact rfl; (with_reducible apply r_lit; apply r_see); exact rfl; exact rfl; (with_reducible apply o_igT; apply at0); exact rfl; (with_reducible apply r_lit); exact rfl; exact rfl
      (with_reducible apply c_t); decide +kernel; (with_reducible apply r_orV; apply r_d; apply r_call; apply r_cons; apply r_d; apply r_ixP; apply r_see); exact rfl; exact rfl
      (with_reducible apply r_lit; apply r_see); exact rfl; exact rfl; (with_reducible apply o_igT; apply at2); exact rfl; (with_reducible apply r_nil); exact rfl
      (with_reducible exact isWhole_eq _ _); exact rfl; (with_reducible apply c_t; rfl); exact rfl; (with_reducible apply c_ret; apply c_ret)
    | v y =>
      have hy : inH false (.str y) (.lst 0 (ns.map .str)) = some (.sh (.bl true)) := by rw [inH_strs, decide_eq_true (ho y List.mem_cons_self)]
      show runF _ _ [.tup [.str "extend", .lst 0 (ns.map .str)], .tup [.str "add", .str x, .str y]] = some (.sh (.bl true))
      apply rf_3_2
      (with_reducible apply r_then; apply r_if; apply r_t; apply r_d; apply r_op2; apply r_d; apply r_ixP; apply r_see); exact rfl; exact rfl; (with_reducible apply r_lit; apply r_see); exact rfl
      exact rfl; (with_reducible apply o_igT; apply at0); exact rfl; (with_reducible apply r_lit); exact rfl; exact rfl; (with_reducible apply c_f); decide +kernel
      (with_reducible apply r_skip; apply c_nx; apply r_then; apply r_if; apply r_t; apply r_d; apply r_op2; apply r_d; apply r_ixP; apply r_see); exact rfl; exact rfl
      (with_reducible apply r_lit; apply r_see); exact rfl; exact rfl; (with_reducible apply o_igT; apply at0); exact rfl; (with_reducible apply r_lit); exact rfl; exact rfl
      (with_reducible apply c_t); decide +kernel; (with_reducible apply r_then; apply r_ret; apply r_toE; apply r_andV; apply r_d; apply r_op2; apply r_d; apply r_ixP; apply r_see); exact rfl
      exact rfl; (with_reducible apply r_lit; apply r_see); exact rfl; exact rfl; (with_reducible apply o_igT; apply at0); exact rfl; (with_reducible apply r_lit); exact rfl; exact rfl
      (with_reducible apply c_t); decide +kernel; (with_reducible apply r_orV; apply r_d; apply r_call; apply r_cons; apply r_d; apply r_ixP; apply r_see); exact rfl; exact rfl
      (with_reducible apply r_lit; apply r_see); exact rfl; exact rfl; (with_reducible apply o_igT; apply at2); exact rfl; (with_reducible apply r_nil); exact rfl
      (with_reducible exact isWhole_eq _ _); exact rfl; (with_reducible apply c_f; rfl; apply r_d; apply r_inV; apply r_d; apply r_ixP; apply r_see); exact rfl; exact rfl
      (with_reducible apply r_lit; apply r_see); exact rfl; exact rfl; (with_reducible apply o_igT; apply at2); exact rfl; (with_reducible apply r_d; apply r_ixP; apply r_see); exact rfl; exact rfl
      (with_reducible apply r_lit; apply r_see); exact rfl; exact rfl; (with_reducible apply o_igT; apply at1); exact rfl; (with_reducible assumption); exact rfl
      (with_reducible apply c_ret; apply c_ret)
  | set x d =>
    rcases h with ⟨ns, y, rfl, hy, rfl⟩ | ⟨lo, hi, ns, rfl, hy⟩
    · have q := isAlias_eq y ns hy
      show runF _ _ [.tup [.str "choice", nmL ns], .tup [.str "set", .str x, .tup [.str "plus", .str y, .int 0]]] = some (.sh (.bl true))
      apply rf_3_2
      (with_reducible apply r_then; apply r_if; apply r_t; apply r_d; apply r_op2; apply r_d; apply r_ixP; apply r_see); exact rfl; exact rfl; (with_reducible apply r_lit; apply r_see); exact rfl
      exact rfl; (with_reducible apply o_igT; apply at0); exact rfl; (with_reducible apply r_lit); exact rfl; exact rfl; (with_reducible apply c_f); decide +kernel
      (with_reducible apply r_skip; apply c_nx; apply r_then; apply r_if; apply r_t; apply r_d; apply r_op2; apply r_d; apply r_ixP; apply r_see); exact rfl; exact rfl
      (with_reducible apply r_lit; apply r_see); exact rfl; exact rfl; (with_reducible apply o_igT; apply at0); exact rfl; (with_reducible apply r_lit); exact rfl; exact rfl
      (with_reducible apply c_f); decide +kernel; (with_reducible apply r_skip; apply c_nx; apply r_then; apply r_if; apply r_t; apply r_d; apply r_op2; apply r_d; apply r_ixP; apply r_see)
      exact rfl; exact rfl; (with_reducible apply r_lit; apply r_see); exact rfl; exact rfl; (with_reducible apply o_igT; apply at0); exact rfl; (with_reducible apply r_lit); exact rfl; exact rfl
      (with_reducible apply c_t); decide +kernel; (with_reducible apply r_then; apply r_ret; apply r_call; apply r_cons; apply r_d; apply r_ixP; apply r_see); exact rfl; exact rfl
      (with_reducible apply r_lit; apply r_see); exact rfl; exact rfl; (with_reducible apply o_igT; apply at2); exact rfl; (with_reducible apply r_cons; apply r_d; apply r_ixP; apply r_see)
      exact rfl; exact rfl; (with_reducible apply r_lit; apply r_see); exact rfl; exact rfl; (with_reducible apply o_igT; apply at1); exact rfl; (with_reducible apply r_nil); exact rfl
      (with_reducible assumption; apply c_ret; apply c_ret)
    · have q := namesIn_eq d
      show runF _ _ [.tup [.str "free", oI lo, oI hi, .lst 0 (ns.map .str)], .tup [.str "set", .str x, d.e]] = some (.sh (.bl true))
      apply rf_3_2
      (with_reducible apply r_then; apply r_if; apply r_t; apply r_d; apply r_op2; apply r_d; apply r_ixP; apply r_see); exact rfl; exact rfl; (with_reducible apply r_lit; apply r_see); exact rfl
      exact rfl; (with_reducible apply o_igT; apply at0); exact rfl; (with_reducible apply r_lit); exact rfl; exact rfl; (with_reducible apply c_f); decide +kernel
      (with_reducible apply r_skip; apply c_nx; apply r_then; apply r_if; apply r_t; apply r_d; apply r_op2; apply r_d; apply r_ixP; apply r_see); exact rfl; exact rfl
      (with_reducible apply r_lit; apply r_see); exact rfl; exact rfl; (with_reducible apply o_igT; apply at0); exact rfl; (with_reducible apply r_lit); exact rfl; exact rfl
      (with_reducible apply c_f); decide +kernel; (with_reducible apply r_skip; apply c_nx; apply r_then; apply r_if; apply r_t; apply r_d; apply r_op2; apply r_d; apply r_ixP; apply r_see)
      exact rfl; exact rfl; (with_reducible apply r_lit; apply r_see); exact rfl; exact rfl; (with_reducible apply o_igT; apply at0); exact rfl; (with_reducible apply r_lit); exact rfl; exact rfl
      (with_reducible apply c_f); decide +kernel
      (with_reducible apply r_skip; apply c_nx; apply r_then; apply r_ret; apply r_toE; apply r_andV; apply r_d; apply r_op2; apply r_d; apply r_ixP; apply r_see); exact rfl; exact rfl
      (with_reducible apply r_lit; apply r_see); exact rfl; exact rfl; (with_reducible apply o_igT; apply at0); exact rfl; (with_reducible apply r_lit); exact rfl; exact rfl
      (with_reducible apply c_t); decide +kernel
      (with_reducible apply r_d; apply r_op2; apply r_d; apply r_lc; apply r_seq; apply r_d; apply r_call; apply r_cons; apply r_d; apply r_ixP; apply r_see); exact rfl; exact rfl
      (with_reducible apply r_lit; apply r_see); exact rfl; exact rfl; (with_reducible apply o_igT; apply at2); exact rfl; (with_reducible apply r_nil); exact rfl; (with_reducible assumption)
      exact rfl; exact rfl; exact wp2
      · refine lc_none fun z hz => ?_
        have hd : decide (z ∈ ns) = true := decide_eq_true (hy z hz)
        have hn : inH true (.str z) (.lst 0 (ns.map .str)) = some (.sh (.bl false)) := by rw [ninH_strs, hd]; rfl
        apply lcs_f
        (with_reducible apply g_nam'; exact st2; apply r_nin; apply r_var); exact rfl; exact rfl; (with_reducible exact st2; apply r_d; apply r_ixP; apply r_see); exact rfl; exact rfl
        (with_reducible apply r_lit; apply r_see); exact rfl; exact rfl; (with_reducible apply o_igT; apply at3); exact rfl; (with_reducible assumption); exact wp2
      exact rfl; (with_reducible apply r_d; apply r_lst; apply r_nil); exact Nat.le_of_ble_eq_true rfl; exact rfl; exact rfl; exact rfl; exact rfl
def Row.app (r : Row) : Stp → Row
  | .sel _ => r.sel
  | .set _ d => ⟨r.nm, r.pm, d⟩
  | .add _ o => ⟨r.nm, r.pm, match r.df with
    | .mx os => .mx (os ++ [o])
    | .mn os => .mn (os ++ [o])
    | d => d⟩
def addOk (r : Row) : Stp → Prop
  | .add _ _ => r.df.isM ∧ r.df.len + 1 ≤ lim
  | _ => True
theorem applied_eq (r : Row) (s : Stp) (h : addOk r s) : F_applied 0 [r.e, s.e] = some (.sh (r.app s).e) := by
  have h1 := copied_pm r.pm
  unfold F_applied fb_applied
  cases s with
  | sel x =>
    have h2 := sealed_eq r
    show runF _ _ [r.e, .tup [.str "seal", .str x]] = some (.sh r.sel.e)
    apply rf_4_2
    (with_reducible apply r_then; apply r_if; apply r_t; apply r_d; apply r_op2; apply r_d; apply r_ixP; apply r_see); exact rfl; exact rfl; (with_reducible apply r_lit; apply r_see); exact rfl
    exact rfl; (with_reducible apply o_igT; apply at0); exact rfl; (with_reducible apply r_lit); exact rfl; exact rfl; (with_reducible apply c_t); decide +kernel
    (with_reducible apply r_then; apply r_ret; apply r_call; apply r_cons; apply r_var); exact rfl; exact rfl; (with_reducible exact st0; apply r_nil); exact rfl
    (with_reducible assumption; apply c_ret; apply c_ret)
  | set x d =>
    have h2 := copied_df d
    show runF _ _ [.tup [.str r.nm, r.pm.e, r.df.e], .tup [.str "set", .str x, d.e]] = some (.sh (.tup [.str r.nm, r.pm.e, d.e]))
    apply rf_4_2
    (with_reducible apply r_then; apply r_if; apply r_t; apply r_d; apply r_op2; apply r_d; apply r_ixP; apply r_see); exact rfl; exact rfl; (with_reducible apply r_lit; apply r_see); exact rfl
    exact rfl; (with_reducible apply o_igT; apply at0); exact rfl; (with_reducible apply r_lit); exact rfl; exact rfl; (with_reducible apply c_f); decide +kernel
    (with_reducible apply r_skip; apply c_nx; apply r_then; apply r_if; apply r_t; apply r_d; apply r_op2; apply r_d; apply r_ixP; apply r_see); exact rfl; exact rfl
    (with_reducible apply r_lit; apply r_see); exact rfl; exact rfl; (with_reducible apply o_igT; apply at0); exact rfl; (with_reducible apply r_lit); exact rfl; exact rfl
    (with_reducible apply c_t); decide +kernel; (with_reducible apply r_then; apply r_ret; apply r_toE; apply r_tup; apply r_cons; apply r_d; apply r_ixP; apply r_see); exact rfl; exact rfl
    (with_reducible apply r_lit; apply r_see); exact rfl; exact rfl; (with_reducible apply o_igT; apply at0); exact rfl
    (with_reducible apply r_cons; apply r_d; apply r_call; apply r_cons; apply r_d; apply r_ixP; apply r_see); exact rfl; exact rfl; (with_reducible apply r_lit; apply r_see); exact rfl
    exact rfl; (with_reducible apply o_igT; apply at1); exact rfl; (with_reducible apply r_nil); exact rfl; (with_reducible assumption); exact rfl
    (with_reducible apply r_cons; apply r_d; apply r_call; apply r_cons; apply r_d; apply r_ixP; apply r_see); exact rfl; exact rfl; (with_reducible apply r_lit; apply r_see); exact rfl
    exact rfl; (with_reducible apply o_igT; apply at2); exact rfl; (with_reducible apply r_nil); exact rfl; (with_reducible assumption); exact rfl; (with_reducible apply r_nil)
    exact Nat.le_of_ble_eq_true rfl; (with_reducible apply c_ret; apply c_ret)
  | add x o =>
    obtain ⟨h2, h3⟩ := h
    obtain ⟨nm, pm, df⟩ := r
    cases df with
    | mx os =>
      have q : dAdd 0 (.lst 0 (os.map Opd.e)) (.lst 0 [o.e]) = some (.own 0 ((os ++ [o]).map Opd.e)) := by
        unfold dAdd
        dsimp only
        rw [if_pos (by simpa [Dfn.len] using h3), List.map_append]
        rfl
      show runF _ _ [.tup [.str nm, pm.e, .tup [.str "max", .lst 0 (os.map Opd.e)]], .tup [.str "add", .str x, o.e]] = some (.sh (.tup [.str nm, pm.e, .tup [.str "max", .lst 0 ((os ++ [o]).map Opd.e)]]))
      apply rf_4_2
      (with_reducible apply r_then; apply r_if; apply r_t; apply r_d; apply r_op2; apply r_d; apply r_ixP; apply r_see); exact rfl; exact rfl; (with_reducible apply r_lit; apply r_see); exact rfl
      exact rfl; (with_reducible apply o_igT; apply at0); exact rfl; (with_reducible apply r_lit); exact rfl; exact rfl; (with_reducible apply c_f); decide +kernel
      (with_reducible apply r_skip; apply c_nx; apply r_then; apply r_if; apply r_t; apply r_d; apply r_op2; apply r_d; apply r_ixP; apply r_see); exact rfl; exact rfl
      (with_reducible apply r_lit; apply r_see); exact rfl; exact rfl; (with_reducible apply o_igT; apply at0); exact rfl; (with_reducible apply r_lit); exact rfl; exact rfl
      (with_reducible apply c_f); decide +kernel; (with_reducible apply r_skip; apply c_nx; apply r_then; apply r_setT; apply r_d; apply r_ixP; apply r_see); exact rfl; exact rfl
      (with_reducible apply r_lit; apply r_see); exact rfl; exact rfl; (with_reducible apply o_igT; apply at2); exact rfl
      (with_reducible apply g_tupN; apply g_cons'; exact st2; apply g_cons'; exact st3; apply g_nil'; apply c_nx; apply r_then; apply r_ret; apply r_toE; apply r_tup; apply r_cons; apply r_d; apply r_ixP)
      (with_reducible apply r_see); exact rfl; exact rfl; (with_reducible apply r_lit; apply r_see); exact rfl; exact rfl; (with_reducible apply o_igT; apply at0); exact rfl
      (with_reducible apply r_cons; apply r_d; apply r_call; apply r_cons; apply r_d; apply r_ixP; apply r_see); exact rfl; exact rfl; (with_reducible apply r_lit; apply r_see); exact rfl
      exact rfl; (with_reducible apply o_igT; apply at1); exact rfl; (with_reducible apply r_nil); exact rfl; (with_reducible assumption); exact rfl
      (with_reducible apply r_cons; apply r_tup; apply r_cons; apply r_var); exact rfl; exact rfl; (with_reducible exact st2; apply r_cons; apply r_d; apply r_op2; apply r_var); exact rfl
      exact rfl; (with_reducible exact st3; apply r_d; apply r_lst; apply r_cons; apply r_d; apply r_ixP; apply r_see); exact rfl; exact rfl; (with_reducible apply r_lit; apply r_see); exact rfl
      exact rfl; (with_reducible apply o_igT; apply at2); exact rfl; (with_reducible apply r_nil); exact Nat.le_of_ble_eq_true rfl; exact rfl; (with_reducible assumption); exact rfl
      (with_reducible apply r_nil); exact Nat.le_of_ble_eq_true rfl; (with_reducible apply r_nil); exact Nat.le_of_ble_eq_true rfl; (with_reducible apply c_ret)
    | mn os =>
      have q : dAdd 0 (.lst 0 (os.map Opd.e)) (.lst 0 [o.e]) = some (.own 0 ((os ++ [o]).map Opd.e)) := by
        unfold dAdd
        dsimp only
        rw [if_pos (by simpa [Dfn.len] using h3), List.map_append]
        rfl
      show runF _ _ [.tup [.str nm, pm.e, .tup [.str "min", .lst 0 (os.map Opd.e)]], .tup [.str "add", .str x, o.e]] = some (.sh (.tup [.str nm, pm.e, .tup [.str "min", .lst 0 ((os ++ [o]).map Opd.e)]]))
      apply rf_4_2
      (with_reducible apply r_then; apply r_if; apply r_t; apply r_d; apply r_op2; apply r_d; apply r_ixP; apply r_see); exact rfl; exact rfl; (with_reducible apply r_lit; apply r_see); exact rfl
      exact rfl; (with_reducible apply o_igT; apply at0); exact rfl; (with_reducible apply r_lit); exact rfl; exact rfl; (with_reducible apply c_f); decide +kernel
      (with_reducible apply r_skip; apply c_nx; apply r_then; apply r_if; apply r_t; apply r_d; apply r_op2; apply r_d; apply r_ixP; apply r_see); exact rfl; exact rfl
      (with_reducible apply r_lit; apply r_see); exact rfl; exact rfl; (with_reducible apply o_igT; apply at0); exact rfl; (with_reducible apply r_lit); exact rfl; exact rfl
      (with_reducible apply c_f); decide +kernel; (with_reducible apply r_skip; apply c_nx; apply r_then; apply r_setT; apply r_d; apply r_ixP; apply r_see); exact rfl; exact rfl
      (with_reducible apply r_lit; apply r_see); exact rfl; exact rfl; (with_reducible apply o_igT; apply at2); exact rfl
      (with_reducible apply g_tupN; apply g_cons'; exact st2; apply g_cons'; exact st3; apply g_nil'; apply c_nx; apply r_then; apply r_ret; apply r_toE; apply r_tup; apply r_cons; apply r_d; apply r_ixP)
      (with_reducible apply r_see); exact rfl; exact rfl; (with_reducible apply r_lit; apply r_see); exact rfl; exact rfl; (with_reducible apply o_igT; apply at0); exact rfl
      (with_reducible apply r_cons; apply r_d; apply r_call; apply r_cons; apply r_d; apply r_ixP; apply r_see); exact rfl; exact rfl; (with_reducible apply r_lit; apply r_see); exact rfl
      exact rfl; (with_reducible apply o_igT; apply at1); exact rfl; (with_reducible apply r_nil); exact rfl; (with_reducible assumption); exact rfl
      (with_reducible apply r_cons; apply r_tup; apply r_cons; apply r_var); exact rfl; exact rfl; (with_reducible exact st2; apply r_cons; apply r_d; apply r_op2; apply r_var); exact rfl
      exact rfl; (with_reducible exact st3; apply r_d; apply r_lst; apply r_cons; apply r_d; apply r_ixP; apply r_see); exact rfl; exact rfl; (with_reducible apply r_lit; apply r_see); exact rfl
      exact rfl; (with_reducible apply o_igT; apply at2); exact rfl; (with_reducible apply r_nil); exact Nat.le_of_ble_eq_true rfl; exact rfl; (with_reducible assumption); exact rfl
      (with_reducible apply r_nil); exact Nat.le_of_ble_eq_true rfl; (with_reducible apply r_nil); exact Nat.le_of_ble_eq_true rfl; (with_reducible apply c_ret)
    | num i => exact h2.elim
    | plus x i => exact h2.elim
    | ife a b c d => exact h2.elim
def Stp.ok (names : List Str) : Stp → Prop
  | .set x d => x ∈ names ∧ d.ok names
  | .add x o => x ∈ names ∧ ∀ y ∈ o.ns, y ∈ names
  | .sel x => x ∈ names
theorem isRow_eq (t : Nat) (s : Stp) (names : List Str) (hk : Sk names) (h : s.ok names) : F_is_row 0 [s.e, .lst t (names.map .str)] = some (.sh (.bl true)) := by
  unfold F_is_row fb_is_row
  cases s with
  | set x d =>
    have q1 := isKnown_t 0 t h.1
    have q2 := isDef_eq t d names hk h.2
    show runF _ _ [.tup [.str "set", .str x, d.e], _] = _
    apply rf_2_2
    (with_reducible apply r_then; apply r_if; apply r_t; apply r_d; apply r_call; apply r_cons; apply r_var); exact rfl; exact rfl
    (with_reducible exact st0; apply r_cons; apply r_lit; apply r_cons; apply r_lit; apply r_nil); exact rfl; (with_reducible exact hasWord3 _ _ _ _ _ _ (b := true) (by decide +kernel))
    exact rfl; (with_reducible apply c_t; rfl; apply r_then; apply r_ret; apply r_toE; apply r_andV; apply r_d; apply r_call; apply r_cons; apply r_d; apply r_ixP; apply r_see); exact rfl
    exact rfl; (with_reducible apply r_lit; apply r_see); exact rfl; exact rfl; (with_reducible apply o_igT; apply at1); exact rfl; (with_reducible apply r_cons; apply r_var); exact rfl
    exact rfl; (with_reducible exact st1; apply r_nil); exact rfl; (with_reducible assumption); exact rfl
    (with_reducible apply c_t; rfl; apply r_d; apply r_call; apply r_cons; apply r_d; apply r_ixP; apply r_see); exact rfl; exact rfl; (with_reducible apply r_lit; apply r_see); exact rfl
    exact rfl; (with_reducible apply o_igT; apply at2); exact rfl; (with_reducible apply r_cons; apply r_var); exact rfl; exact rfl; (with_reducible exact st1; apply r_nil); exact rfl
    (with_reducible assumption); exact rfl; (with_reducible apply c_ret; apply c_ret)
  | add x o =>
    have q1 := isKnown_t 0 t h.1
    have q2 := isOperand_eq 0 t o names h.2
    show runF _ _ [.tup [.str "add", .str x, o.e], _] = _
    apply rf_2_2
    (with_reducible apply r_then; apply r_if; apply r_t; apply r_d; apply r_call; apply r_cons; apply r_var); exact rfl; exact rfl
    (with_reducible exact st0; apply r_cons; apply r_lit; apply r_cons; apply r_lit; apply r_nil); exact rfl; (with_reducible exact hasWord3 _ _ _ _ _ _ (b := false) (by decide +kernel))
    exact rfl; (with_reducible apply c_f; rfl; apply r_skip; apply c_nx; apply r_then; apply r_if; apply r_t; apply r_d; apply r_call; apply r_cons; apply r_var); exact rfl; exact rfl
    (with_reducible exact st0; apply r_cons; apply r_lit; apply r_cons; apply r_lit; apply r_nil); exact rfl; (with_reducible exact hasWord3 _ _ _ _ _ _ (b := true) (by decide +kernel))
    exact rfl; (with_reducible apply c_t; rfl; apply r_then; apply r_ret; apply r_toE; apply r_andV; apply r_d; apply r_call; apply r_cons; apply r_d; apply r_ixP; apply r_see); exact rfl
    exact rfl; (with_reducible apply r_lit; apply r_see); exact rfl; exact rfl; (with_reducible apply o_igT; apply at1); exact rfl; (with_reducible apply r_cons; apply r_var); exact rfl
    exact rfl; (with_reducible exact st1; apply r_nil); exact rfl; (with_reducible assumption); exact rfl
    (with_reducible apply c_t; rfl; apply r_d; apply r_call; apply r_cons; apply r_d; apply r_ixP; apply r_see); exact rfl; exact rfl; (with_reducible apply r_lit; apply r_see); exact rfl
    exact rfl; (with_reducible apply o_igT; apply at2); exact rfl; (with_reducible apply r_cons; apply r_var); exact rfl; exact rfl; (with_reducible exact st1; apply r_nil); exact rfl
    (with_reducible assumption); exact rfl; (with_reducible apply c_ret; apply c_ret)
  | sel x =>
    have q1 := isKnown_t 0 t (show x ∈ names from h)
    show runF _ _ [.tup [.str "seal", .str x], _] = _
    apply rf_2_2
    (with_reducible apply r_then; apply r_if; apply r_t; apply r_d; apply r_call; apply r_cons; apply r_var); exact rfl; exact rfl
    (with_reducible exact st0; apply r_cons; apply r_lit; apply r_cons; apply r_lit; apply r_nil); exact rfl; (with_reducible exact hasWord2 _ _ _ _ _ (b := false) (by decide +kernel)); exact rfl
    (with_reducible apply c_f; rfl; apply r_skip; apply c_nx; apply r_then; apply r_if; apply r_t; apply r_d; apply r_call; apply r_cons; apply r_var); exact rfl; exact rfl
    (with_reducible exact st0; apply r_cons; apply r_lit; apply r_cons; apply r_lit; apply r_nil); exact rfl; (with_reducible exact hasWord2 _ _ _ _ _ (b := false) (by decide +kernel)); exact rfl
    (with_reducible apply c_f; rfl; apply r_skip; apply c_nx; apply r_then; apply r_ret; apply r_toE; apply r_andV; apply r_d; apply r_call; apply r_cons; apply r_var); exact rfl; exact rfl
    (with_reducible exact st0; apply r_cons; apply r_lit; apply r_cons; apply r_lit; apply r_nil); exact rfl; (with_reducible exact hasWord2 _ _ _ _ _ (b := true) (by decide +kernel)); exact rfl
    (with_reducible apply c_t; rfl; apply r_d; apply r_call; apply r_cons; apply r_d; apply r_ixP; apply r_see); exact rfl; exact rfl; (with_reducible apply r_lit; apply r_see); exact rfl
    exact rfl; (with_reducible apply o_igT; apply at1); exact rfl; (with_reducible apply r_cons; apply r_var); exact rfl; exact rfl; (with_reducible exact st1; apply r_nil); exact rfl
    (with_reducible assumption); exact rfl; (with_reducible apply c_ret)
theorem isLayer_eq (t u : Nat) (ss : List Stp) (names : List Str) (hk : Sk names) (h : ∀ s ∈ ss, s.ok names) : F_is_layer 0 [.lst u (ss.map Stp.e), .lst t (names.map .str)] = some (.sh (.bl true)) := by
  unfold F_is_layer fb_is_layer
  apply rf_3_2
  (with_reducible apply r_then; apply r_ret; apply r_toE; apply r_andV; apply r_d; apply r_op1; apply r_see); exact rfl; exact rfl; exact rfl; exact rfl; (with_reducible apply c_t); exact rfl
  (with_reducible apply r_d; apply r_op2; apply r_d; apply r_lc; apply r_seq; apply r_var); exact rfl; exact rfl; (with_reducible exact st0); exact rfl; exact wp2
  · refine lc_none fun s hs => ?_
    have q := isRow_eq t s names hk (h s hs)
    apply lcs_f
    (with_reducible apply g_nam'; exact st2; apply r_not; apply r_t; apply r_d; apply r_call; apply r_cons; apply r_var); exact rfl; exact rfl
    (with_reducible exact st2; apply r_cons; apply r_var); exact rfl; exact rfl; (with_reducible exact st1; apply r_nil); exact rfl; (with_reducible assumption); exact rfl; exact rfl; exact wp2
  exact rfl; (with_reducible apply r_d; apply r_lst; apply r_nil); exact Nat.le_of_ble_eq_true rfl; exact rfl; exact rfl; exact rfl; exact rfl
end Ev

set_option Elab.async false
set_option linter.all false
set_option maxRecDepth 100000
set_option maxHeartbeats 1000000
namespace Ev
open PySem L2
/-- a setting behind one row, behind rows -/
def Row.stp (r : Row) (s : Stp) : Row := if r.nm = s.nm then r.app s else r
def Row.run (r : Row) (ss : List Stp) : Row := ss.foldl Row.stp r
def okS : Row → List Stp → Prop
  | _, [] => True
  | r, s :: ss => (r.nm = s.nm → allowed r.pm s ∧ addOk r s) ∧ okS (r.stp s) ss
theorem app_nm (r : Row) (s : Stp) : (r.app s).nm = r.nm := by cases s <;> rfl
theorem stp_nm (r : Row) (s : Stp) : (r.stp s).nm = r.nm := by
  unfold Row.stp
  split
  · exact app_nm r s
  · rfl
theorem run_nm : ∀ (ss : List Stp) (r : Row), (r.run ss).nm = r.nm
  | [], r => rfl
  | s :: ss, r => (run_nm ss (r.stp s)).trans (stp_nm r s)
theorem stp_e (s : Stp) : ∃ w a r, s.e = .tup (.str w :: .str s.nm :: r) ∧ a = r := by
  cases s with
  | set x d => exact ⟨_, _, _, rfl, rfl⟩
  | add x d => exact ⟨_, _, _, rfl, rfl⟩
  | sel x => exact ⟨_, _, _, rfl, rfl⟩
theorem stp_at1 (s : Stp) : ∃ ds, s.e = .tup ds ∧ atI ds 1 = some (.str s.nm) := by
  obtain ⟨w, a, r, h, _⟩ := stp_e s
  exact ⟨_, h, at1⟩
theorem ar_loop0 (a b k : D) (m c : Sl) (ds : List D) (s : Stp) (hs : s.e = .tup ds) (h1 : atI ds 1 = some (.str s.nm)) : ∀ (rows : List Row) (x : Sl), (∀ r ∈ rows, r.nm = s.nm → allowed r.pm s) → ∃ x', forRun (gNam 6) (lb_after_rows_0 0) (rows.map Row.e) [.sh a, .sh b, m, c, .sh k, .sh (.tup ds), x] = some (.nx, [.sh a, .sh b, m, c, .sh k, .sh (.tup ds), x'])
  | [], x, _ => ⟨x, rfl⟩
  | r :: rs, x, h => by
    obtain ⟨x', ih⟩ := ar_loop0 a b k m c ds s hs h1 rs (.sh (.tup [.str r.nm, r.pm.e, r.df.e])) fun r hr => h r (List.mem_cons_of_mem _ hr)
    refine ⟨x', ?_⟩
    rw [List.map_cons]
    show forRun _ _ (.tup [.str r.nm, r.pm.e, r.df.e] :: _) _ = _
    by_cases e : r.nm = s.nm
    · have q := allows_eq r.pm s (h r List.mem_cons_self e)
      rw [hs] at q
      have e2 : decide (r.nm = s.nm) = true := decide_eq_true e
      apply fr_cons
      (with_reducible apply g_nam'; exact st6); unfold lb_after_rows_0
      (with_reducible apply r_then; apply r_if; apply r_and; apply r_t; apply r_d; apply r_op2; apply r_d; apply r_ixP; apply r_see); exact rfl; exact rfl; (with_reducible apply r_lit; apply r_see)
      exact rfl; exact rfl; (with_reducible apply o_igT; apply at0); exact rfl; (with_reducible apply r_d; apply r_ixP; apply r_see); exact rfl; exact rfl; (with_reducible apply r_lit; apply r_see)
      exact rfl; exact rfl; (with_reducible apply o_igT; assumption); exact rfl; exact rfl; exact rfl
      (with_reducible apply c_t; assumption; apply r_not; apply r_t; apply r_d; apply r_call; apply r_cons; apply r_d; apply r_ixP; apply r_see); exact rfl; exact rfl
      (with_reducible apply r_lit; apply r_see); exact rfl; exact rfl; (with_reducible apply o_igT; apply at1); exact rfl; (with_reducible apply r_cons; apply r_var); exact rfl; exact rfl
      (with_reducible exact st5; apply r_nil); exact rfl; (with_reducible assumption); exact rfl; exact rfl; (with_reducible apply c_f); decide +kernel
      (with_reducible apply r_skip; apply c_nx; apply r_skip; apply c_nx; assumption)
    · have e2 : decide (r.nm = s.nm) = false := decide_eq_false e
      apply fr_cons
      (with_reducible apply g_nam'; exact st6); unfold lb_after_rows_0
      (with_reducible apply r_then; apply r_if; apply r_and; apply r_t; apply r_d; apply r_op2; apply r_d; apply r_ixP; apply r_see); exact rfl; exact rfl; (with_reducible apply r_lit; apply r_see)
      exact rfl; exact rfl; (with_reducible apply o_igT; apply at0); exact rfl; (with_reducible apply r_d; apply r_ixP; apply r_see); exact rfl; exact rfl; (with_reducible apply r_lit; apply r_see)
      exact rfl; exact rfl; (with_reducible apply o_igT; assumption); exact rfl; exact rfl; exact rfl; (with_reducible apply c_f; assumption); exact rfl
      (with_reducible apply c_f; rfl; apply r_skip; apply c_nx; apply r_skip; apply c_nx; assumption)
theorem ar_loop1 (a b : D) (c : Sl) : ∀ (ss : List Stp) (rows : List Row) (n : Nat) (t : Nat) (m x y z : Sl), m.toD = some (.lst t (rows.map Row.e)) → (∀ r ∈ rows, okS r ss) → (n ≠ 0 ∨ True) → ∃ m' x' y' z', forRun (gTupN [4, 5]) (lb_after_rows_1 0) (enumD n (ss.map Stp.e)) [.sh a, .sh b, m, c, x, y, z] = some (.nx, [.sh a, .sh b, m', c, x', y', z']) ∧ (ss = [] → m' = m) ∧ (ss ≠ [] → m' = .own 0 ((rows.map (·.run ss)).map Row.e))
  | [], rows, n, t, m, x, y, z, _, _, _ => ⟨m, x, y, z, rfl, fun _ => rfl, fun h => (h rfl).elim⟩
  | s :: ss, rows, n, t, m, x, y, z, hm, h, _ => by
    obtain ⟨ds, hs, h1⟩ := stp_at1 s
    obtain ⟨x1, l0⟩ := ar_loop0 a b (.int n) (.sh (.lst t (rows.map Row.e))) c ds s hs h1 rows z fun r hr e => ((h r hr).1 e).1
    have l1 : lcRun [6] (gNam 6) fYes (FE.d (fIte (FD.t (FE.d (fOp2 sEq ((FE.d (fAlt (fOp2P dIx 6 ((fLit (.int 0)))) (fOp2P dGet 6 ((fLit (.int 0))))))) ((FE.d (fAlt (fOp2P dIx 5 ((fLit (.int 1)))) (fOp2P dGet 5 ((fLit (.int 1)))))))))) (fCall 2 F_applied 0 (fCons ((fVar 6)) (fCons ((fVar 5)) fNil))) ((FD.toE (fVar 6))))) (rows.map Row.e) [.sh a, .sh b, .sh (.lst t (rows.map Row.e)), c, .sh (.int n), .sh (.tup ds), .non] = some ((rows.map (·.stp s)).map Row.e, [.sh a, .sh b, .sh (.lst t (rows.map Row.e)), c, .sh (.int n), .sh (.tup ds), .non]) := by
      rw [List.map_map]
      refine lc_every (enc := Row.e) _ fun r hr => ?_
      by_cases e : r.nm = s.nm
      · have q := applied_eq r s ((h r hr).1 e).2
        rw [hs] at q
        have q : F_applied 0 [.tup [.str r.nm, r.pm.e, r.df.e], .tup ds] = _ := q
        have e2 : decide (r.nm = s.nm) = true := decide_eq_true e
        have e3 : Row.e (r.stp s) = (r.app s).e := by unfold Row.stp; rw [if_pos e]
        show LcStep _ _ _ _ _ _ _ (Row.e (r.stp s))
        rw [e3]
        show LcStep _ _ _ _ _ (.tup [.str r.nm, r.pm.e, r.df.e]) _ _
        apply lcs_t
        (with_reducible apply g_nam'; exact st6; apply r_yes; apply r_d; apply r_ite; apply r_t; apply r_d; apply r_op2; apply r_d; apply r_ixP; apply r_see); exact rfl; exact rfl
        (with_reducible apply r_lit; apply r_see); exact rfl; exact rfl; (with_reducible apply o_igT; apply at0); exact rfl; (with_reducible apply r_d; apply r_ixP; apply r_see); exact rfl; exact rfl
        (with_reducible apply r_lit; apply r_see); exact rfl; exact rfl; (with_reducible apply o_igT; assumption); exact rfl; exact rfl; exact rfl
        (with_reducible apply c_t; assumption; apply r_call; apply r_cons; apply r_var); exact rfl; exact rfl; (with_reducible exact st6; apply r_cons; apply r_var); exact rfl; exact rfl
        (with_reducible exact st5; apply r_nil); exact rfl; (with_reducible assumption); exact rfl; exact wp6
      · have e2 : decide (r.nm = s.nm) = false := decide_eq_false e
        have e3 : Row.e (r.stp s) = .tup [.str r.nm, r.pm.e, r.df.e] := by unfold Row.stp; rw [if_neg e]; rfl
        show LcStep _ _ _ _ _ _ _ (Row.e (r.stp s))
        rw [e3]
        show LcStep _ _ _ _ _ (.tup [.str r.nm, r.pm.e, r.df.e]) _ _
        apply lcs_t
        (with_reducible apply g_nam'; exact st6; apply r_yes; apply r_d; apply r_ite; apply r_t; apply r_d; apply r_op2; apply r_d; apply r_ixP; apply r_see); exact rfl; exact rfl
        (with_reducible apply r_lit; apply r_see); exact rfl; exact rfl; (with_reducible apply o_igT; apply at0); exact rfl; (with_reducible apply r_d; apply r_ixP; apply r_see); exact rfl; exact rfl
        (with_reducible apply r_lit; apply r_see); exact rfl; exact rfl; (with_reducible apply o_igT; assumption); exact rfl; exact rfl; exact rfl
        (with_reducible apply c_f; assumption; apply r_toE; apply r_var); exact rfl; exact rfl; (with_reducible exact st6); exact rfl; exact wp6
    obtain ⟨m', x', y', z', ih, i1, i2⟩ := ar_loop1 a b c ss (rows.map (·.stp s)) (n + 1) 0 (.own 0 ((rows.map (·.stp s)).map Row.e)) (.sh (.int n)) (.sh (.tup ds)) .non rfl (fun r hr => by
      obtain ⟨r0, h0, rfl⟩ := List.mem_map.mp hr
      exact (h r0 h0).2) (.inr trivial)
    refine ⟨m', x', y', z', ?_, fun q => (by cases q), fun _ => ?_⟩
    · rw [List.map_cons]
      unfold enumD
      rw [hs]
      apply fr_cons
      (with_reducible apply g_tupN; apply g_cons'; exact st4; apply g_cons'; exact st5; apply g_nil'); unfold lb_after_rows_1; (with_reducible apply r_then; apply r_for; apply r_seq; apply r_var)
      exact rfl; (with_reducible assumption; exact st2); exact rfl; (with_reducible assumption; apply c_nx; apply r_then; apply r_set; apply r_lc; apply r_seq; apply r_var); exact rfl; exact rfl
      (with_reducible exact st2); exact rfl; exact wp6; (with_reducible assumption; exact st2; apply c_nx; apply r_skip; apply c_nx; assumption)
    · by_cases e : ss = []
      · subst e
        rw [i1 rfl]
        rfl
      · rw [i2 e, List.map_map, List.map_map, List.map_map]
        rfl
theorem afterRows_eq (t u : Nat) (rows : List Row) (ss : List Stp) (h : ∀ r ∈ rows, okS r ss) : F_after_rows 0 [.lst t (rows.map Row.e), .lst u (ss.map Stp.e)] = some (.own 0 ((rows.map (·.run ss)).map Row.e)) := by
  obtain ⟨m', x', y', z', h1, h2, h3⟩ := ar_loop1 (.lst t (rows.map Row.e)) (.lst u (ss.map Stp.e)) .non ss rows 0 0 (.own 0 (rows.map Row.e)) .non .non .non rfl h (.inr trivial)
  have hm : m' = .own 0 ((rows.map (·.run ss)).map Row.e) := by
    by_cases e : ss = []
    · subst e
      rw [h2 rfl]
      simp [Row.run]
    · exact h3 e
  subst hm
  unfold F_after_rows fb_after_rows
  apply rf_7_2
  (with_reducible apply r_then; apply r_set; apply r_lc; apply r_seq; apply r_var); exact rfl; exact rfl; (with_reducible exact st0); exact rfl; exact wp3
  · refine lc_every (enc := Row.e) Row.e fun r hr => ?_
    have q := copied_row r
    apply lcs_t
    (with_reducible apply g_nam'; exact st3; apply r_yes; apply r_d; apply r_call; apply r_cons; apply r_var); exact rfl; exact rfl; (with_reducible exact st3; apply r_nil); exact rfl
    (with_reducible assumption); exact rfl; exact wp3
  (with_reducible exact st2; apply c_nx; apply r_then; apply r_for; apply r_enum; apply r_var); exact rfl; exact rfl
  (with_reducible exact st1; assumption; apply c_nx; apply r_then; apply r_ret; apply r_move_own); exact rfl; (with_reducible exact st2; apply c_ret)
end Ev

set_option Elab.async false
set_option linter.all false
set_option maxRecDepth 100000
set_option maxHeartbeats 1000000
namespace Ev
open PySem L2
/-! ### dicts from names to numbers -/
abbrev Fd := List (Str × Int)
def kF (fd : Fd) : List Key := fd.map fun p => Sum.inr p.1
def vF (fd : Fd) : List D := fd.map fun p => D.int p.2
def lkp : Fd → Str → Option Int
  | [], _ => none
  | p :: r, x => if p.1 = x then some p.2 else lkp r x
def putA : Fd → Str → Int → Fd
  | [], x, v => [(x, v)]
  | p :: r, x, v => if p.1 = x then (p.1, v) :: r else p :: putA r x v
theorem look_fd (x : Str) : ∀ fd : Fd, lookD (kF fd) (vF fd) (.inr x) = (lkp fd x).map D.int
  | [] => rfl
  | p :: r => by
    show (if (Sum.inr p.1 : Key) = .inr x then some (D.int p.2) else lookD (kF r) (vF r) (.inr x)) = (if p.1 = x then some p.2 else lkp r x).map D.int
    by_cases h : p.1 = x
    · rw [if_pos (by rw [h]), if_pos h]; rfl
    · rw [if_neg (fun q => h (Sum.inr.inj q)), if_neg h, look_fd x r]
theorem put_fd (x : Str) (v : Int) : ∀ fd : Fd, putD (kF fd) (vF fd) (.inr x) (.int v) = (kF (putA fd x v), vF (putA fd x v))
  | [] => rfl
  | p :: r => by
    show (if (Sum.inr p.1 : Key) = .inr x then ((Sum.inr p.1 : Key) :: kF r, D.int v :: vF r) else ((Sum.inr p.1 : Key) :: (putD (kF r) (vF r) (.inr x) (.int v)).1, D.int p.2 :: (putD (kF r) (vF r) (.inr x) (.int v)).2)) = _
    by_cases h : p.1 = x
    · have e : putA (p :: r) x v = (p.1, v) :: r := if_pos h
      rw [if_pos (by rw [h]), e]; rfl
    · have e : putA (p :: r) x v = p :: putA r x v := if_neg h
      rw [if_neg (fun q => h (Sum.inr.inj q)), e, put_fd x v r]; rfl
theorem lkp_put (x y : Str) (v : Int) : ∀ fd : Fd, lkp (putA fd x v) y = if x = y then some v else lkp fd y
  | [] => rfl
  | p :: r => by
    by_cases h : p.1 = x
    · have e : putA (p :: r) x v = (p.1, v) :: r := if_pos h
      rw [e]
      show (if p.1 = y then some v else lkp r y) = if x = y then some v else if p.1 = y then some p.2 else lkp r y
      rw [h]
      by_cases k : x = y
      · rw [if_pos k, if_pos k]
      · rw [if_neg k, if_neg k, if_neg k]
    · have e : putA (p :: r) x v = p :: putA r x v := if_neg h
      rw [e]
      show (if p.1 = y then some p.2 else lkp (putA r x v) y) = if x = y then some v else if p.1 = y then some p.2 else lkp r y
      rw [lkp_put x y v r]
      by_cases k : p.1 = y
      · rw [if_pos k, if_pos k, if_neg (fun q => h (by rw [k, q]))]
      · rw [if_neg k, if_neg k]
theorem put_mem {x : Str} {v : Int} {y : Str} : ∀ {fd : Fd}, y ∈ (putA fd x v).map Prod.fst → y ∈ fd.map Prod.fst ∨ y = x
  | [], h => by simpa [putA] using h
  | p :: r, h => by
    unfold putA at h
    split at h
    · exact .inl (by simpa using h)
    · rw [List.map_cons] at h ⊢
      rcases List.mem_cons.mp h with e | e
      · exact .inl (by rw [e]; simp)
      · rcases put_mem e with z | z
        · exact .inl (List.mem_cons_of_mem _ z)
        · exact .inr z
theorem put_nd {x : Str} {v : Int} : ∀ {fd : Fd}, (fd.map Prod.fst).Nodup → ((putA fd x v).map Prod.fst).Nodup
  | [], _ => by simp [putA]
  | p :: r, h => by
    rw [List.map_cons, List.nodup_cons] at h
    unfold putA
    split
    · rw [List.map_cons, List.nodup_cons]; exact h
    · rename_i ne
      rw [List.map_cons, List.nodup_cons]
      refine ⟨fun q => ?_, put_nd h.2⟩
      rcases put_mem q with z | z
      · exact h.1 z
      · exact ne z
theorem kF_nd {fd : Fd} (h : (fd.map Prod.fst).Nodup) : (kF fd).Nodup := by
  have e : kF fd = (fd.map Prod.fst).map Sum.inr := by unfold kF; rw [List.map_map]; rfl
  rw [e]
  exact List.Pairwise.map _ (fun a b ne q => ne (Sum.inr.inj q)) h
theorem nd_len {α : Type} [DecidableEq α] : ∀ {l m : List α}, l.Nodup → (∀ x ∈ l, x ∈ m) → l.length ≤ m.length
  | [], m, _, _ => Nat.zero_le _
  | a :: l, m, nd, h => by
    rw [List.nodup_cons] at nd
    have i := nd_len (l := l) (m := m.erase a) nd.2 fun x hx => (List.mem_erase_of_ne (fun q => nd.1 (by rw [← q]; exact hx))).mpr (h x (List.mem_cons_of_mem _ hx))
    have ha := h a List.mem_cons_self
    rw [List.length_erase_of_mem ha] at i
    have := List.length_pos_of_mem ha
    simp only [List.length_cons]
    omega
theorem ninH_fd (x : Str) (t : Nat) (fd : Fd) : inH true (.str x) (.dct t (kF fd) (vF fd)) = some (.sh (.bl (lkp fd x).isNone)) := by
  have h : sNin (.str x) (.dct t (kF fd) (vF fd)) = none := rfl
  unfold inH
  rw [if_pos rfl, h]
  show some (Sl.sh (.bl (lookD (kF fd) (vF fd) (.inr x)).isNone)) = _
  rw [look_fd]
  cases lkp fd x <;> rfl
theorem dIG_fd {x : Str} {t : Nat} {fd : Fd} {v : Int} (h : lkp fd x = some v) : dIG (.dct t (kF fd) (vF fd)) (.str x) = some (.sh (.int v)) :=
  o_igD rfl (by rw [look_fd, h]; rfl)
theorem intsOf_map : ∀ ns : List Int, intsOf (ns.map D.int) = some ns
  | [] => rfl
  | i :: r => by
    show (match intsOf (r.map D.int) with | some ns => some (i :: ns) | none => none) = _
    rw [intsOf_map r]
theorem maxI_some : ∀ {ns : List Int}, ns ≠ [] → ∃ m, maxI ns = some m := fun {ns} h => by
  cases e : maxI ns with
  | none => exact (h (maxI_none e)).elim
  | some m => exact ⟨m, rfl⟩
theorem minI_some : ∀ {ns : List Int}, ns ≠ [] → ∃ m, minI ns = some m := fun {ns} h => by
  cases e : minI ns with
  | none => exact (h (minI_none e)).elim
  | some m => exact ⟨m, rfl⟩
theorem dMax_ok (t : Nat) {ns : List Int} (h : ns ≠ []) : ∃ m, dMax (.lst t (ns.map D.int)) = some (.sh (.int m)) ∧ m ∈ ns ∧ ∀ y ∈ ns, y ≤ m := by
  obtain ⟨m, e⟩ := maxI_some h
  refine ⟨m, ?_, maxI_ok e⟩
  unfold dMax
  simp only [intsOf_map, e]
/-! ### ranks -/
structure Book where
  rows : List Row
  rk : Str → Nat
/-- settings that a book takes: names, forms, no ring -/
structure Book.Ok (B : Book) : Prop where
  nm : ∀ r ∈ B.rows, Nm r.nm
  nd : (B.rows.map Row.nm).Nodup
  len : B.rows.length ≤ 64
  ok : ∀ r ∈ B.rows, r.ok (B.rows.map Row.nm)
  sz : ∀ r ∈ B.rows, r.ms.length ≤ 1000
  up : ∀ r ∈ B.rows, ∀ x ∈ r.ms, x ∈ B.rows.map Row.nm ∧ B.rk x < B.rk r.nm
  rk_lt : ∀ r ∈ B.rows, B.rk r.nm < B.rows.length
structure RInv (B : Book) (fd : Fd) : Prop where
  nd : (fd.map Prod.fst).Nodup
  sub : ∀ x ∈ fd.map Prod.fst, x ∈ B.rows.map Row.nm
  val : ∀ r ∈ B.rows, ∀ v, lkp fd r.nm = some v → 0 ≤ v ∧ v ≤ B.rk r.nm ∧ ∀ y ∈ r.ms, ∃ w, lkp fd y = some w ∧ w < v
theorem letters_ok : ∀ c ∈ letters.cps.toList, c < 0x110000 := by decide +kernel
theorem nm_ok {x : Str} (h : Nm x) : PyData.strOk x = true := by
  unfold PyData.strOk
  rw [Array.all_eq_true_iff_forall_mem]
  intro c hc
  exact decide_eq_true (letters_ok c (h.2.2 c (by simpa using hc)))
theorem Book.Ok.sk {B : Book} (h : B.Ok) : Sk (B.rows.map Row.nm) := fun x hx => by
  obtain ⟨r, hr, rfl⟩ := List.mem_map.mp hx
  exact nm_ok (h.nm r hr)
theorem RInv.size {B : Book} {fd : Fd} (h : B.Ok) (i : RInv B fd) : fd.length ≤ 64 := by
  have := nd_len i.nd i.sub
  rw [List.length_map, List.length_map] at this
  exact Nat.le_trans this h.len
theorem ranks_row (B : Book) (hB : B.Ok) (v0 turn : D) (r : Row) (hr : r ∈ B.rows) (fd : Fd) (I : RInv B fd) (s4 : Sl) :
    ∃ fd' s4', lb_ranks_of_0 0 [.sh v0, .ownD 0 (kF fd) (vF fd), .sh turn, .sh (.tup [.str r.nm, r.pm.e, r.df.e]), s4, .non] = some (.nx, [.sh v0, .ownD 0 (kF fd') (vF fd'), .sh turn, .sh (.tup [.str r.nm, r.pm.e, r.df.e]), s4', .non]) ∧ RInv B fd' ∧ (∀ x v, lkp fd x = some v → lkp fd' x = some v) ∧ ((∀ y ∈ r.ms, (lkp fd y).isSome = true) → (lkp fd' r.nm).isSome = true) := by
  have hm : F_mentions 0 [.tup [.str r.nm, r.pm.e, r.df.e]] = some (.own 0 (r.ms.map .str)) := mentions_eq r (Nat.le_trans (hB.sz r hr) (by decide))
  have sk : Sk r.ms := fun x hx => hB.sk x (hB.up r hr x hx).1
  cases e0 : lkp fd r.nm with
  | some v =>
    have q : inH true (.str r.nm) (.dct 0 (kF fd) (vF fd)) = some (.sh (.bl false)) := by rw [ninH_fd, e0]; rfl
    refine ⟨fd, .own 0 (r.ms.map .str), ?_, I, fun _ _ h => h, fun _ => by rw [e0]; rfl⟩
    unfold lb_ranks_of_0; (with_reducible apply r_then; apply r_set; apply r_call; apply r_cons; apply r_var); exact rfl; exact rfl; (with_reducible exact st3; apply r_nil); exact rfl
    (with_reducible assumption; exact st4; apply c_nx; apply r_then; apply r_if; apply r_and; apply r_nin; apply r_d; apply r_ixP; apply r_see); exact rfl; exact rfl
    (with_reducible apply r_lit; apply r_see); exact rfl; exact rfl; (with_reducible apply o_igT; apply at0); exact rfl; (with_reducible apply r_see); exact rfl; exact rfl
    (with_reducible assumption; apply c_f; rfl); exact rfl; (with_reducible apply c_f; rfl; apply r_skip; apply c_nx; apply r_skip)
  | none =>
    have q : inH true (.str r.nm) (.dct 0 (kF fd) (vF fd)) = some (.sh (.bl true)) := by rw [ninH_fd, e0]; rfl
    have l1 : lcRun [5] (gNam 5) (fAlt (FD.t (FE.d (fOp2 sNin (fVar 5) (fSee 1)))) (FD.t (FE.d (fOp2 (dHas true) (fVar 5) (fSee 1))))) (fVar 5) (r.ms.map .str) [.sh v0, .ownD 0 (kF fd) (vF fd), .sh turn, .sh (.tup [.str r.nm, r.pm.e, r.df.e]), .sh (.lst 0 (r.ms.map .str)), .non] = some ((r.ms.filter fun y => (lkp fd y).isNone).map .str, [.sh v0, .ownD 0 (kF fd) (vF fd), .sh turn, .sh (.tup [.str r.nm, r.pm.e, r.df.e]), .sh (.lst 0 (r.ms.map .str)), .non]) := by
      refine lc_map D.str (fun y => (lkp fd y).isNone) D.str r.ms fun y hy => ?_
      have q := ninH_fd y 0 fd
      apply lcs
      (with_reducible apply g_nam'; exact st5; apply r_nin; apply r_var); exact rfl; exact rfl; (with_reducible exact st5; apply r_see); exact rfl; exact rfl
      (with_reducible assumption; apply r_var); exact rfl; exact rfl; (with_reducible exact st5); exact wp5
    by_cases hall : ∀ y ∈ r.ms, (lkp fd y).isSome = true
    · have hf : (r.ms.filter fun y => (lkp fd y).isNone) = [] := by
        rw [List.filter_eq_nil_iff]
        intro y hy
        have := hall y hy
        cases e : lkp fd y with
        | none => rw [e] at this; cases this
        | some v => simp
      rw [hf] at l1
      have l2 : lcRun [5] (gNam 5) fYes (FE.d (fAlt (fOp2P dIx 1 (fSee 5)) (fOp2P dGet 1 (fSee 5)))) (r.ms.map .str) [.sh v0, .ownD 0 (kF fd) (vF fd), .sh turn, .sh (.tup [.str r.nm, r.pm.e, r.df.e]), .sh (.lst 0 (r.ms.map .str)), .non] = some (r.ms.map fun y => .int ((lkp fd y).getD 0), [.sh v0, .ownD 0 (kF fd) (vF fd), .sh turn, .sh (.tup [.str r.nm, r.pm.e, r.df.e]), .sh (.lst 0 (r.ms.map .str)), .non]) := by
        refine lc_every (enc := D.str) (fun y => .int ((lkp fd y).getD 0)) fun y hy => ?_
        have h := hall y hy
        cases e : lkp fd y with
        | none => rw [e] at h; cases h
        | some v =>
          have q := dIG_fd (t := 0) e
          show LcStep _ _ _ _ _ _ _ (.int v)
          apply lcs_t
          (with_reducible apply g_nam'; exact st5; apply r_yes; apply r_d; apply r_ixP; apply r_see); exact rfl; exact rfl; (with_reducible apply r_see); exact rfl; exact rfl
          (with_reducible apply r_see); exact rfl; exact rfl; (with_reducible assumption); exact rfl; exact wp5
      obtain ⟨m, hm1, hm2, hm3⟩ := dMax_ok 0 (ns := (r.ms.map fun y => (lkp fd y).getD 0) ++ [-1]) (by simp)
      have ha : dAdd 0 (.lst 0 (r.ms.map fun y => .int ((lkp fd y).getD 0))) (.lst 0 [.int (-1)]) = some (.own 0 (((r.ms.map fun y => (lkp fd y).getD 0) ++ [-1]).map D.int)) := by
        unfold dAdd
        dsimp only
        have := hB.sz r hr
        rw [if_pos (by simp only [List.length_map, List.length_cons, List.length_nil]; unfold lim; omega)]
        simp [List.map_map]
      have hl : (vF fd).length < lim ∧ (kF fd).Nodup := ⟨by unfold vF; rw [List.length_map]; have := I.size hB; unfold lim; omega, kF_nd I.nd⟩
      refine ⟨putA fd r.nm (1 + m), .sh (.lst 0 (r.ms.map .str)), ?_, ?_, ?_, ?_⟩
      · rw [show kF (putA fd r.nm (1 + m)) = (putD (kF fd) (vF fd) (.inr r.nm) (.int (1 + m))).1 by rw [put_fd], show vF (putA fd r.nm (1 + m)) = (putD (kF fd) (vF fd) (.inr r.nm) (.int (1 + m))).2 by rw [put_fd]]
        unfold lb_ranks_of_0; (with_reducible apply r_then; apply r_set; apply r_call; apply r_cons; apply r_var); exact rfl; exact rfl; (with_reducible exact st3; apply r_nil); exact rfl
        (with_reducible assumption; exact st4; apply c_nx; apply r_then; apply r_if; apply r_and; apply r_nin; apply r_d; apply r_ixP; apply r_see); exact rfl; exact rfl
        (with_reducible apply r_lit; apply r_see); exact rfl; exact rfl; (with_reducible apply o_igT; apply at0); exact rfl; (with_reducible apply r_see); exact rfl; exact rfl
        (with_reducible assumption; apply c_t; rfl; apply r_t; apply r_d; apply r_op2; apply r_d; apply r_lc; apply r_seq; apply r_var); exact rfl; exact rfl; (with_reducible exact st4); exact rfl
        exact wp5; (with_reducible assumption); exact rfl; (with_reducible apply r_d; apply r_lst; apply r_nil); exact Nat.le_of_ble_eq_true rfl; exact rfl; exact rfl; exact rfl
        (with_reducible apply c_t); decide +kernel; (with_reducible apply r_then; apply r_setK); exact rfl
        (with_reducible apply r_d; apply r_op2; apply r_lit; apply r_d; apply r_op1; apply r_d; apply r_op2; apply r_d; apply r_lc; apply r_seq; apply r_var); exact rfl; exact rfl
        (with_reducible exact st4); exact rfl; exact wp5; (with_reducible assumption); exact rfl; (with_reducible apply r_d; apply r_lst; apply r_cons; apply r_d; apply r_op1; apply r_lit); exact rfl
        exact rfl; (with_reducible apply r_nil); exact Nat.le_of_ble_eq_true rfl; exact rfl; (with_reducible assumption); exact rfl; (with_reducible assumption); exact rfl; exact rfl; exact rfl
        (with_reducible apply r_d; apply r_ixP; apply r_see); exact rfl; exact rfl; (with_reducible apply r_lit; apply r_see); exact rfl; exact rfl; (with_reducible apply o_igT; apply at0); exact rfl
        exact rfl; exact rfl; (with_reducible assumption; exact st1; apply c_nx; apply r_skip; apply c_nx; apply r_skip)
      · have hlow : ∀ y ∈ r.ms, ∃ w, lkp fd y = some w ∧ w ≤ m := fun y hy => by
          have h := hall y hy
          cases e : lkp fd y with
          | none => rw [e] at h; cases h
          | some v =>
            refine ⟨v, rfl, hm3 v ?_⟩
            refine List.mem_append_left _ (List.mem_map.mpr ⟨y, hy, by rw [e]; rfl⟩)
        have hm0 : -1 ≤ m := hm3 (-1) (by simp)
        have hrk : 1 + m ≤ B.rk r.nm := by
          rcases List.mem_append.mp hm2 with z | z
          · obtain ⟨y, hy, e⟩ := List.mem_map.mp z
            obtain ⟨hy1, hy2⟩ := hB.up r hr y hy
            obtain ⟨r', hr', ey⟩ := List.mem_map.mp hy1
            obtain ⟨w, ew, _⟩ := hlow y hy
            rw [ew] at e
            have e : w = m := e
            have := (I.val r' hr' w (by rw [ey]; exact ew)).2.1
            rw [ey] at this
            omega
          · have : m = -1 := by simpa using z
            omega
        refine ⟨put_nd I.nd, fun x hx => ?_, fun r' hr' v hv => ?_⟩
        · rcases put_mem hx with z | z
          · exact I.sub x z
          · rw [z]; exact List.mem_map_of_mem hr
        · rw [lkp_put] at hv
          by_cases e : r.nm = r'.nm
          · rw [if_pos e] at hv
            cases hv
            have er : r' = r := by
              have : ∀ (l : List Row), (l.map Row.nm).Nodup → r ∈ l → r' ∈ l → r' = r := by
                intro l
                induction l with
                | nil => intro _ h; cases h
                | cons a l ih =>
                  intro nd h1 h2
                  rw [List.map_cons, List.nodup_cons] at nd
                  rcases List.mem_cons.mp h1 with k1 | k1
                  · rcases List.mem_cons.mp h2 with k2 | k2
                    · rw [k1, k2]
                    · exact (nd.1 (by rw [← k1, e]; exact List.mem_map_of_mem k2)).elim
                  · rcases List.mem_cons.mp h2 with k2 | k2
                    · exact (nd.1 (by rw [← k2, ← e]; exact List.mem_map_of_mem k1)).elim
                    · exact ih nd.2 k1 k2
              exact this _ hB.nd hr hr'
            subst er
            refine ⟨by omega, hrk, fun y hy => ?_⟩
            obtain ⟨w, ew, hw⟩ := hlow y hy
            have ne : ¬ r'.nm = y := fun q => by have := (hB.up r' hr y hy).2; rw [q] at this; omega
            exact ⟨w, by rw [lkp_put, if_neg ne]; exact ew, by omega⟩
          · rw [if_neg e] at hv
            obtain ⟨a, b, c⟩ := I.val r' hr' v hv
            refine ⟨a, b, fun y hy => ?_⟩
            obtain ⟨w, ew, hw⟩ := c y hy
            refine ⟨w, ?_, hw⟩
            rw [lkp_put, if_neg (fun q => by rw [← q, e0] at ew; cases ew)]
            exact ew
      · intro x v hx
        rw [lkp_put, if_neg (fun q => by rw [← q, e0] at hx; cases hx)]
        exact hx
      · intro _
        rw [lkp_put, if_pos rfl]; rfl
    · have hne : (r.ms.filter fun y => (lkp fd y).isNone) ≠ [] := by
        intro q
        apply hall
        intro y hy
        rw [List.filter_eq_nil_iff] at q
        have := q y hy
        cases e : lkp fd y with
        | none => rw [e] at this; exact (this rfl).elim
        | some v => rfl
      have hs : sEq (.lst 0 ((r.ms.filter fun y => (lkp fd y).isNone).map .str)) (.lst 0 []) = some (.sh (.bl false)) := by
        rw [sEq_nil (okdL_strs fun x hx => sk x (List.mem_filter.mp hx).1)]
        cases e : (r.ms.filter fun y => (lkp fd y).isNone) with
        | nil => exact (hne e).elim
        | cons a b => rfl
      refine ⟨fd, .sh (.lst 0 (r.ms.map .str)), ?_, I, fun _ _ h => h, fun h => (hall h).elim⟩
      unfold lb_ranks_of_0; (with_reducible apply r_then; apply r_set; apply r_call; apply r_cons; apply r_var); exact rfl; exact rfl; (with_reducible exact st3; apply r_nil); exact rfl
      (with_reducible assumption; exact st4; apply c_nx; apply r_then; apply r_if; apply r_and; apply r_nin; apply r_d; apply r_ixP; apply r_see); exact rfl; exact rfl
      (with_reducible apply r_lit; apply r_see); exact rfl; exact rfl; (with_reducible apply o_igT; apply at0); exact rfl; (with_reducible apply r_see); exact rfl; exact rfl
      (with_reducible assumption; apply c_t; rfl; apply r_t; apply r_d; apply r_op2; apply r_d; apply r_lc; apply r_seq; apply r_var); exact rfl; exact rfl; (with_reducible exact st4); exact rfl
      exact wp5; (with_reducible assumption); exact rfl; (with_reducible apply r_d; apply r_lst; apply r_nil); exact Nat.le_of_ble_eq_true rfl; exact rfl; (with_reducible assumption); exact rfl
      (with_reducible apply c_f; rfl; apply r_skip; apply c_nx; apply r_skip)
end Ev

set_option Elab.async false
set_option linter.all false
set_option maxRecDepth 100000
set_option maxHeartbeats 1000000
namespace Ev
open PySem L2
theorem ranks_loop0 (B : Book) (hB : B.Ok) (v0 turn : D) : ∀ (suf : List Row) (fd : Fd) (s3 s4 : Sl), (∀ r ∈ suf, r ∈ B.rows) → RInv B fd →
    ∃ fd' s3' s4', forRun (gNam 3) (lb_ranks_of_0 0) (suf.map Row.e) [.sh v0, .ownD 0 (kF fd) (vF fd), .sh turn, s3, s4, .non] = some (.nx, [.sh v0, .ownD 0 (kF fd') (vF fd'), .sh turn, s3', s4', .non]) ∧ RInv B fd' ∧ (∀ x v, lkp fd x = some v → lkp fd' x = some v) ∧ ∀ r ∈ suf, (∀ y ∈ r.ms, (lkp fd y).isSome = true) → (lkp fd' r.nm).isSome = true
  | [], fd, s3, s4, _, I => ⟨fd, s3, s4, rfl, I, fun _ _ h => h, fun _ h => (by cases h)⟩
  | r :: rs, fd, s3, s4, hs, I => by
    obtain ⟨fd1, s41, h1, I1, m1, f1⟩ := ranks_row B hB v0 turn r (hs r List.mem_cons_self) fd I s4
    obtain ⟨fd2, s32, s42, h2, I2, m2, f2⟩ := ranks_loop0 B hB v0 turn rs fd1 (.sh (.tup [.str r.nm, r.pm.e, r.df.e])) s41 (fun r hr => hs r (List.mem_cons_of_mem _ hr)) I1
    have mon : ∀ (a b : Fd) (y : Str), (∀ x v, lkp a x = some v → lkp b x = some v) → (lkp a y).isSome = true → (lkp b y).isSome = true := fun a b y m h => by
      cases e : lkp a y with
      | none => rw [e] at h; cases h
      | some v => rw [m y v e]; rfl
    refine ⟨fd2, s32, s42, ?_, I2, fun x v h => m2 x v (m1 x v h), fun r' hr' h => ?_⟩
    · rw [List.map_cons]
      show forRun _ _ (.tup [.str r.nm, r.pm.e, r.df.e] :: _) _ = _
      refine fr_cons (Γ1 := [.sh v0, .ownD 0 (kF fd) (vF fd), .sh turn, .sh (.tup [.str r.nm, r.pm.e, r.df.e]), s4, .non]) rfl h1 ?_
      exact h2
    · rcases List.mem_cons.mp hr' with e | e
      · subst e
        exact mon fd1 fd2 _ m2 (f1 h)
      · exact f2 r' e fun y hy => mon fd fd1 y m1 (h y hy)
theorem ranks_loop1 (B : Book) (hB : B.Ok) (t : Nat) : ∀ (ds : List D) (k : Nat) (fd : Fd) (s2 s3 s4 : Sl), RInv B fd → (∀ r ∈ B.rows, B.rk r.nm < k → (lkp fd r.nm).isSome = true) →
    ∃ fd' s2' s3' s4', forRun (gNam 2) (lb_ranks_of_1 0) ds [.sh (.lst t (B.rows.map Row.e)), .ownD 0 (kF fd) (vF fd), s2, s3, s4, .non] = some (.nx, [.sh (.lst t (B.rows.map Row.e)), .ownD 0 (kF fd') (vF fd'), s2', s3', s4', .non]) ∧ RInv B fd' ∧ ∀ r ∈ B.rows, B.rk r.nm < k + ds.length → (lkp fd' r.nm).isSome = true
  | [], k, fd, s2, s3, s4, I, h => ⟨fd, s2, s3, s4, rfl, I, h⟩
  | d :: ds, k, fd, s2, s3, s4, I, h => by
    obtain ⟨fd1, s31, s41, h1, I1, m1, f1⟩ := ranks_loop0 B hB (.lst t (B.rows.map Row.e)) d B.rows fd s3 s4 (fun _ h => h) I
    obtain ⟨fd2, s22, s32, s42, h2, I2, f2⟩ := ranks_loop1 B hB t ds (k + 1) fd1 (.sh d) s31 s41 I1 fun r hr hk => f1 r hr fun y hy => by
      obtain ⟨hy1, hy2⟩ := hB.up r hr y hy
      obtain ⟨r', hr', e⟩ := List.mem_map.mp hy1
      rw [← e]
      exact h r' hr' (by rw [e]; omega)
    refine ⟨fd2, s22, s32, s42, ?_, I2, fun r hr hk => f2 r hr (by simp only [List.length_cons] at hk; omega)⟩
    apply fr_cons
    (with_reducible apply g_nam'; exact st2); unfold lb_ranks_of_1; (with_reducible apply r_then; apply r_for; apply r_seq; apply r_var); exact rfl; exact rfl; (with_reducible exact st0)
    exact rfl; (with_reducible assumption; apply c_nx; apply r_skip; apply c_nx; assumption)
theorem rInv_nil (B : Book) : RInv B [] := ⟨by simp, fun _ h => (by cases h), fun _ _ _ h => (by cases h)⟩
theorem range_ok {n : Nat} (h : n ≤ 64) : -(2 ^ 62) ≤ (n : Int) ∧ (n : Int) < 2 ^ 62 ∧ (n : Int).toNat ≤ lim := by
  unfold lim; omega
theorem ranks_eq (B : Book) (hB : B.Ok) (t : Nat) : ∃ fd, F_ranks_of 0 [.lst t (B.rows.map Row.e)] = some (.ownD 0 (kF fd) (vF fd)) ∧ RInv B fd ∧ ∀ r ∈ B.rows, (lkp fd r.nm).isSome = true := by
  obtain ⟨fd, s2, s3, s4, h, I, f⟩ := ranks_loop1 B hB t (rangeD 0 (((B.rows.map Row.e).length : Nat) : Int).toNat) 0 [] .non .non .non (rInv_nil B) fun _ _ h => (by omega)
  have hr := range_ok (n := (B.rows.map Row.e).length) (by rw [List.length_map]; exact hB.len)
  have h : forRun _ _ _ [.sh (.lst t (B.rows.map Row.e)), .ownD 0 [] [], .non, .non, .non, .non] = _ := h
  refine ⟨fd, ?_, I, fun r hr => f r hr ?_⟩
  · unfold F_ranks_of fb_ranks_of
    apply rf_6_1
    (with_reducible apply r_then; apply r_set; apply r_dct0; exact st1; apply c_nx; apply r_then; apply r_for; apply r_range1; apply r_d; apply r_op1; apply r_see); exact rfl; exact rfl
    exact rfl; exact rfl; (with_reducible assumption; assumption; apply c_nx; apply r_then; apply r_ret; apply r_move_ownD); exact rfl; (with_reducible exact st1; apply c_ret)
  · have := hB.rk_lt r hr
    simp only [rangeD, List.length_map, List.length_range]
    omega
def DcF (own : List Nat) (tg : FG) (cond : FT) (Γ : Env) (d : D) : Prop := ∃ Γ1 Γ2, tg d Γ = some Γ1 ∧ cond Γ1 = some (false, Γ2) ∧ wipeG Γ2 own = Γ
theorem dcs_f {own : List Nat} {tg : FG} {cond : FT} {Γ Γ1 Γ2 : Env} {d : D} (h1 : tg d Γ = some Γ1) (h2 : cond Γ1 = some (false, Γ2)) (h3 : wipeG Γ2 own = Γ) : DcF own tg cond Γ d := ⟨Γ1, Γ2, h1, h2, h3⟩
theorem dc_none {α : Type} {enc : α → D} {own : List Nat} {tg : FG} {cond : FT} {fk fv : FD} {Γ : Env} {ks : List Key} {vs : List D} : ∀ {xs : List α}, (∀ x ∈ xs, DcF own tg cond Γ (enc x)) → dcRun own tg cond fk fv (xs.map enc) ks vs Γ = some ((ks, vs), Γ)
  | [], _ => rfl
  | x :: r, h => by
    obtain ⟨Γ1, Γ2, h1, h2, h3⟩ := h x List.mem_cons_self
    rw [List.map_cons]
    unfold dcRun
    rw [h1]
    simp only [h2, h3]
    exact dc_none fun y hy => h y (List.mem_cons_of_mem _ hy)
theorem ringIn_eq (B : Book) (hB : B.Ok) (t : Nat) : F_ring_in 0 [.lst t (B.rows.map Row.e)] = some (.sh .non) := by
  obtain ⟨fd, h, I, f⟩ := ranks_eq B hB t
  have l : dcRun [3] (gNam 3) (fAlt (FD.t (FE.d (fOp2 sNin ((FE.d (fAlt (fOp2P dIx 3 ((fLit (.int 0)))) (fOp2P dGet 3 ((fLit (.int 0))))))) (fSee 1)))) (FD.t (FE.d (fOp2 (dHas true) ((FE.d (fAlt (fOp2P dIx 3 ((fLit (.int 0)))) (fOp2P dGet 3 ((fLit (.int 0))))))) (fSee 1))))) ((FE.d (fAlt (fOp2P dIx 3 ((fLit (.int 0)))) (fOp2P dGet 3 ((fLit (.int 0))))))) ((FE.d (fCall 1 F_mentions 0 (fCons ((fVar 3)) fNil)))) (B.rows.map Row.e) [] [] [.sh (.lst t (B.rows.map Row.e)), .ownD 0 (kF fd) (vF fd), .non, .non, .non, .non, .non, .non] = some (([], []), [.sh (.lst t (B.rows.map Row.e)), .ownD 0 (kF fd) (vF fd), .non, .non, .non, .non, .non, .non]) := by
    refine dc_none fun r hr => ?_
    have q : inH true (.str r.nm) (.dct 0 (kF fd) (vF fd)) = some (.sh (.bl false)) := by
      rw [ninH_fd]
      have := f r hr
      cases e : lkp fd r.nm with
      | none => rw [e] at this; cases this
      | some v => rfl
    show DcF _ _ _ _ (.tup [.str r.nm, r.pm.e, r.df.e])
    apply dcs_f
    (with_reducible apply g_nam'; exact st3; apply r_nin; apply r_d; apply r_ixP; apply r_see); exact rfl; exact rfl; (with_reducible apply r_lit; apply r_see); exact rfl; exact rfl
    (with_reducible apply o_igT; apply at0); exact rfl; (with_reducible apply r_see); exact rfl; exact rfl; (with_reducible assumption); exact wp3
  unfold F_ring_in fb_ring_in
  apply rf_8_1
  (with_reducible apply r_then; apply r_set; apply r_call; apply r_cons; apply r_var); exact rfl; exact rfl; (with_reducible exact st0; apply r_nil); exact rfl
  (with_reducible assumption; exact st1; apply c_nx; apply r_then; apply r_set; apply r_dc; apply r_seq; apply r_var); exact rfl; exact rfl; (with_reducible exact st0); exact rfl; exact wp3
  (with_reducible assumption; exact st2; apply c_nx; apply r_then; apply r_if; apply r_t; apply r_d; apply r_op2P; apply r_see); exact rfl; exact rfl; (with_reducible apply r_d; apply r_dct0)
  exact rfl; (with_reducible apply r_see); exact rfl; exact rfl; exact rfl; exact rfl
  (with_reducible apply c_t; rfl; apply r_then; apply r_ret; apply r_toE; apply r_lit; apply c_ret; apply c_ret)
end Ev

set_option Elab.async false
set_option linter.all false
set_option maxRecDepth 100000
set_option maxHeartbeats 1000000
namespace Ev
open PySem L2
def opv (f : Str → Int) : Opd → Int
  | .n i => i
  | .v x => f x
def inF (fd : Fd) (x : Str) : Prop := ∃ v, lkp fd x = some v
/-- what is reckoned: the greatest, the least, definitions, limits, settings -/
def mxv (l : List Int) : Int := (maxI l).getD 0
def mnv (l : List Int) : Int := (minI l).getD 0
def dfv (f : Str → Int) : Dfn → Int
  | .num i => i
  | .plus x i => f x + i
  | .mx os => mxv (os.map (opv f))
  | .mn os => mnv (os.map (opv f))
  | .ife a b c d => if opv f b ≤ opv f a then opv f c else opv f d
def lmt (lo hi : Option Int) (v : Int) : Int := match lo with
  | some l => if v < l then l else (match hi with
    | some h => if h < v then h else v
    | none => v)
  | none => (match hi with
    | some h => if h < v then h else v
    | none => v)
def rwv (f : Str → Int) (r : Row) : Int := lmt r.pm.lo r.pm.hi (dfv f r.df)
theorem dMax_v (t : Nat) {ns : List Int} (h : ns ≠ []) : dMax (.lst t (ns.map D.int)) = some (.sh (.int (mxv ns))) := by
  obtain ⟨m, e⟩ := maxI_some h
  unfold dMax mxv
  simp only [intsOf_map, e]
  rfl
theorem dMin_v (t : Nat) {ns : List Int} (h : ns ≠ []) : dMin (.lst t (ns.map D.int)) = some (.sh (.int (mnv ns))) := by
  obtain ⟨m, e⟩ := minI_some h
  unfold dMin mnv
  simp only [intsOf_map, e]
  rfl
theorem opv_congr {f g : Str → Int} {o : Opd} (h : ∀ x ∈ o.ns, f x = g x) : opv f o = opv g o := by
  cases o with
  | n i => rfl
  | v x => exact h x List.mem_cons_self
theorem dfv_congr {f g : Str → Int} {d : Dfn} (h : ∀ x ∈ d.ns, f x = g x) : dfv f d = dfv g d := by
  have hos : ∀ os : List Opd, (∀ x ∈ os.flatMap Opd.ns, f x = g x) → os.map (opv f) = os.map (opv g) := fun os h => List.map_congr_left fun o ho => opv_congr fun x hx => h x (List.mem_flatMap.mpr ⟨o, ho, hx⟩)
  cases d with
  | num i => rfl
  | plus x i => show f x + i = g x + i; rw [h x List.mem_cons_self]
  | mx os => show mxv _ = mxv _; rw [hos os h]
  | mn os => show mnv _ = mnv _; rw [hos os h]
  | ife a b c d =>
    show (if opv f b ≤ opv f a then opv f c else opv f d) = (if opv g b ≤ opv g a then opv g c else opv g d)
    rw [opv_congr (o := a) fun x hx => h x (List.mem_append_left _ hx), opv_congr (o := b) fun x hx => h x (List.mem_append_right _ (List.mem_append_left _ hx)), opv_congr (o := c) fun x hx => h x (List.mem_append_right _ (List.mem_append_right _ (List.mem_append_left _ hx))), opv_congr (o := d) fun x hx => h x (List.mem_append_right _ (List.mem_append_right _ (List.mem_append_right _ hx)))]
theorem rwv_congr {f g : Str → Int} {r : Row} (h : ∀ x ∈ r.df.ns, f x = g x) : rwv f r = rwv g r := by unfold rwv; rw [dfv_congr h]
theorem operandValue_eq (t : Nat) (fd : Fd) (f : Str → Int) (o : Opd) (h : ∀ x ∈ o.ns, lkp fd x = some (f x)) : F_operand_value 0 [o.e, .dct t (kF fd) (vF fd)] = some (.sh (.int (opv f o))) := by
  unfold F_operand_value fb_operand_value
  cases o with
  | n i =>
    show runF _ _ [.int i, _] = some (.sh (.int i))
    apply rf_2_2
    (with_reducible apply r_then; apply r_ret; apply r_ite; apply r_t; apply r_d; apply r_call; apply r_cons; apply r_var); exact rfl; exact rfl; (with_reducible exact st0; apply r_nil)
    exact rfl; (with_reducible exact isWhole_eq _ _); exact rfl; (with_reducible apply c_t; rfl; apply r_toE; apply r_var); exact rfl; exact rfl; (with_reducible exact st0; apply c_ret)
  | v x =>
    have q := dIG_fd (t := t) (h x List.mem_cons_self)
    show runF _ _ [.str x, _] = some (.sh (.int (f x)))
    apply rf_2_2
    (with_reducible apply r_then; apply r_ret; apply r_ite; apply r_t; apply r_d; apply r_call; apply r_cons; apply r_var); exact rfl; exact rfl; (with_reducible exact st0; apply r_nil)
    exact rfl; (with_reducible exact isWhole_eq _ _); exact rfl; (with_reducible apply c_f; rfl; apply r_ixP; apply r_see); exact rfl; exact rfl; (with_reducible apply r_see); exact rfl
    exact rfl; (with_reducible apply r_see); exact rfl; exact rfl; (with_reducible assumption; apply c_ret)
theorem opvs_lc (t : Nat) (fd : Fd) (f : Str → Int) (d : D) (s2 : Sl) (os : List Opd) (h : ∀ o ∈ os, ∀ x ∈ o.ns, lkp fd x = some (f x)) : lcRun [9] (gNam 9) fYes (FE.d (fCall 2 F_operand_value 0 (fCons ((fVar 9)) (fCons ((fVar 1)) fNil)))) (os.map Opd.e) [.sh d, .sh (.dct t (kF fd) (vF fd)), s2, .non, .non, .non, .non, .non, .non, .non] = some ((os.map (opv f)).map D.int, [.sh d, .sh (.dct t (kF fd) (vF fd)), s2, .non, .non, .non, .non, .non, .non, .non]) := by
  rw [List.map_map]
  refine lc_every (enc := Opd.e) (D.int ∘ opv f) fun o ho => ?_
  have q := operandValue_eq t fd f o (h o ho)
  show LcStep _ _ _ _ _ _ _ (.int (opv f o))
  apply lcs_t
  (with_reducible apply g_nam'; exact st9; apply r_yes; apply r_d; apply r_call; apply r_cons; apply r_var); exact rfl; exact rfl; (with_reducible exact st9; apply r_cons; apply r_var)
  exact rfl; exact rfl; (with_reducible exact st1; apply r_nil); exact rfl; (with_reducible assumption); exact rfl; exact wp9
theorem defValue_eq (t : Nat) (fd : Fd) (f : Str → Int) (d : Dfn) (hne : ∀ os, d = .mx os ∨ d = .mn os → os ≠ []) (h : ∀ x ∈ d.ns, lkp fd x = some (f x)) : F_definition_value 0 [d.e, .dct t (kF fd) (vF fd)] = some (.sh (.int (dfv f d))) := by
  unfold F_definition_value fb_definition_value
  cases d with
  | num i =>
    show runF _ _ [.tup [.str "number", .int i], _] = some (.sh (.int i))
    apply rf_10_2
    (with_reducible apply r_then; apply r_set; apply r_ixP; apply r_see); exact rfl; exact rfl; (with_reducible apply r_lit; apply r_see); exact rfl; exact rfl
    (with_reducible apply o_igT; apply at0; exact st2; apply c_nx; apply r_then; apply r_if; apply r_t; apply r_d; apply r_op2P; apply r_see); exact rfl; exact rfl
    (with_reducible apply r_lit; apply r_see); exact rfl; exact rfl; exact rfl; exact rfl; (with_reducible apply c_t); decide +kernel
    (with_reducible apply r_then; apply r_ret; apply r_ixP; apply r_see); exact rfl; exact rfl; (with_reducible apply r_lit; apply r_see); exact rfl; exact rfl
    (with_reducible apply o_igT; apply at1; apply c_ret; apply c_ret)
  | plus x i =>
    have q := dIG_fd (t := t) (h x List.mem_cons_self)
    show runF _ _ [.tup [.str "plus", .str x, .int i], _] = some (.sh (.int (f x + i)))
    apply rf_10_2
    (with_reducible apply r_then; apply r_set; apply r_ixP; apply r_see); exact rfl; exact rfl; (with_reducible apply r_lit; apply r_see); exact rfl; exact rfl
    (with_reducible apply o_igT; apply at0; exact st2; apply c_nx; apply r_then; apply r_if; apply r_t; apply r_d; apply r_op2P; apply r_see); exact rfl; exact rfl
    (with_reducible apply r_lit; apply r_see); exact rfl; exact rfl; exact rfl; exact rfl; (with_reducible apply c_f); decide +kernel
    (with_reducible apply r_skip; apply c_nx; apply r_then; apply r_if; apply r_t; apply r_d; apply r_op2P; apply r_see); exact rfl; exact rfl; (with_reducible apply r_lit; apply r_see)
    exact rfl; exact rfl; exact rfl; exact rfl; (with_reducible apply c_t); decide +kernel; (with_reducible apply r_then; apply r_ret; apply r_op2; apply r_d; apply r_ixP; apply r_see); exact rfl
    exact rfl; (with_reducible apply r_d; apply r_ixP; apply r_see); exact rfl; exact rfl; (with_reducible apply r_lit; apply r_see); exact rfl; exact rfl; (with_reducible apply o_igT; apply at1)
    exact rfl; (with_reducible apply r_see); exact rfl; exact rfl; (with_reducible assumption); exact rfl; (with_reducible apply r_d; apply r_ixP; apply r_see); exact rfl; exact rfl
    (with_reducible apply r_lit; apply r_see); exact rfl; exact rfl; (with_reducible apply o_igT; apply at2); exact rfl; exact rfl; (with_reducible apply c_ret; apply c_ret)
  | mx os =>
    have hm := opvs_lc t fd f (.tup [.str "max", .lst 0 (os.map Opd.e)]) (.sh (.str "max")) os fun o ho x hx => h x (List.mem_flatMap.mpr ⟨o, ho, hx⟩)
    have hm1 := dMax_v 0 (ns := os.map (opv f)) (by simpa using hne os (.inl rfl))
    show runF _ _ [.tup [.str "max", .lst 0 (os.map Opd.e)], _] = some (.sh (.int (mxv (os.map (opv f)))))
    apply rf_10_2
    (with_reducible apply r_then; apply r_set; apply r_ixP; apply r_see); exact rfl; exact rfl; (with_reducible apply r_lit; apply r_see); exact rfl; exact rfl
    (with_reducible apply o_igT; apply at0; exact st2; apply c_nx; apply r_then; apply r_if; apply r_t; apply r_d; apply r_op2P; apply r_see); exact rfl; exact rfl
    (with_reducible apply r_lit; apply r_see); exact rfl; exact rfl; exact rfl; exact rfl; (with_reducible apply c_f); decide +kernel
    (with_reducible apply r_skip; apply c_nx; apply r_then; apply r_if; apply r_t; apply r_d; apply r_op2P; apply r_see); exact rfl; exact rfl; (with_reducible apply r_lit; apply r_see)
    exact rfl; exact rfl; exact rfl; exact rfl; (with_reducible apply c_f); decide +kernel
    (with_reducible apply r_skip; apply c_nx; apply r_then; apply r_if; apply r_t; apply r_d; apply r_op2P; apply r_see); exact rfl; exact rfl; (with_reducible apply r_lit; apply r_see)
    exact rfl; exact rfl; exact rfl; exact rfl; (with_reducible apply c_f); decide +kernel
    (with_reducible apply r_skip; apply c_nx; apply r_then; apply r_set; apply r_lc; apply r_seq; apply r_d; apply r_ixP; apply r_see); exact rfl; exact rfl
    (with_reducible apply r_lit; apply r_see); exact rfl; exact rfl; (with_reducible apply o_igT; apply at1); exact rfl; exact rfl; exact wp9
    (with_reducible assumption; exact st8; apply c_nx; apply r_then; apply r_ret; apply r_ite; apply r_t; apply r_d; apply r_op2P; apply r_see); exact rfl; exact rfl
    (with_reducible apply r_lit; apply r_see); exact rfl; exact rfl; exact rfl; exact rfl; (with_reducible apply c_t); decide +kernel; (with_reducible apply r_op1; apply r_see); exact rfl
    exact rfl; (with_reducible assumption; apply c_ret)
  | mn os =>
    have hm := opvs_lc t fd f (.tup [.str "min", .lst 0 (os.map Opd.e)]) (.sh (.str "min")) os fun o ho x hx => h x (List.mem_flatMap.mpr ⟨o, ho, hx⟩)
    have hm1 := dMin_v 0 (ns := os.map (opv f)) (by simpa using hne os (.inr rfl))
    show runF _ _ [.tup [.str "min", .lst 0 (os.map Opd.e)], _] = some (.sh (.int (mnv (os.map (opv f)))))
    apply rf_10_2
    (with_reducible apply r_then; apply r_set; apply r_ixP; apply r_see); exact rfl; exact rfl; (with_reducible apply r_lit; apply r_see); exact rfl; exact rfl
    (with_reducible apply o_igT; apply at0; exact st2; apply c_nx; apply r_then; apply r_if; apply r_t; apply r_d; apply r_op2P; apply r_see); exact rfl; exact rfl
    (with_reducible apply r_lit; apply r_see); exact rfl; exact rfl; exact rfl; exact rfl; (with_reducible apply c_f); decide +kernel
    (with_reducible apply r_skip; apply c_nx; apply r_then; apply r_if; apply r_t; apply r_d; apply r_op2P; apply r_see); exact rfl; exact rfl; (with_reducible apply r_lit; apply r_see)
    exact rfl; exact rfl; exact rfl; exact rfl; (with_reducible apply c_f); decide +kernel
    (with_reducible apply r_skip; apply c_nx; apply r_then; apply r_if; apply r_t; apply r_d; apply r_op2P; apply r_see); exact rfl; exact rfl; (with_reducible apply r_lit; apply r_see)
    exact rfl; exact rfl; exact rfl; exact rfl; (with_reducible apply c_f); decide +kernel
    (with_reducible apply r_skip; apply c_nx; apply r_then; apply r_set; apply r_lc; apply r_seq; apply r_d; apply r_ixP; apply r_see); exact rfl; exact rfl
    (with_reducible apply r_lit; apply r_see); exact rfl; exact rfl; (with_reducible apply o_igT; apply at1); exact rfl; exact rfl; exact wp9
    (with_reducible assumption; exact st8; apply c_nx; apply r_then; apply r_ret; apply r_ite; apply r_t; apply r_d; apply r_op2P; apply r_see); exact rfl; exact rfl
    (with_reducible apply r_lit; apply r_see); exact rfl; exact rfl; exact rfl; exact rfl; (with_reducible apply c_f); decide +kernel; (with_reducible apply r_op1; apply r_see); exact rfl
    exact rfl; (with_reducible assumption; apply c_ret)
  | ife a b c d =>
    have ha := operandValue_eq t fd f a fun x hx => h x (List.mem_append_left _ hx)
    have hb := operandValue_eq t fd f b fun x hx => h x (List.mem_append_right _ (List.mem_append_left _ hx))
    have hc := operandValue_eq t fd f c fun x hx => h x (List.mem_append_right _ (List.mem_append_right _ (List.mem_append_left _ hx)))
    have hd := operandValue_eq t fd f d fun x hx => h x (List.mem_append_right _ (List.mem_append_right _ (List.mem_append_right _ hx)))
    show runF _ _ [.tup [.str "if", a.e, b.e, c.e, d.e], _] = some (.sh (.int (if opv f b ≤ opv f a then opv f c else opv f d)))
    by_cases q : opv f b ≤ opv f a
    · have q1 : decide (opv f b ≤ opv f a) = true := decide_eq_true q
      rw [if_pos q]
      apply rf_10_2
      (with_reducible apply r_then; apply r_set; apply r_ixP; apply r_see); exact rfl; exact rfl; (with_reducible apply r_lit; apply r_see); exact rfl; exact rfl
      (with_reducible apply o_igT; apply at0; exact st2; apply c_nx; apply r_then; apply r_if; apply r_t; apply r_d; apply r_op2P; apply r_see); exact rfl; exact rfl
      (with_reducible apply r_lit; apply r_see); exact rfl; exact rfl; exact rfl; exact rfl; (with_reducible apply c_f); decide +kernel
      (with_reducible apply r_skip; apply c_nx; apply r_then; apply r_if; apply r_t; apply r_d; apply r_op2P; apply r_see); exact rfl; exact rfl; (with_reducible apply r_lit; apply r_see)
      exact rfl; exact rfl; exact rfl; exact rfl; (with_reducible apply c_f); decide +kernel
      (with_reducible apply r_skip; apply c_nx; apply r_then; apply r_if; apply r_t; apply r_d; apply r_op2P; apply r_see); exact rfl; exact rfl; (with_reducible apply r_lit; apply r_see)
      exact rfl; exact rfl; exact rfl; exact rfl; (with_reducible apply c_t); decide +kernel; (with_reducible apply r_then; apply r_setT; apply r_d; apply r_sliceP; apply r_see); exact rfl
      exact rfl; (with_reducible apply r_part; apply r_lit; apply r_nopart; apply r_see); exact rfl; exact rfl; (with_reducible apply o_slT1); exact rfl
      (with_reducible apply g_tupN; apply g_cons'; exact st3; apply g_cons'; exact st4; apply g_cons'; exact st5; apply g_cons'; exact st6; apply g_nil'; apply c_nx; apply r_then; apply r_set; apply r_ite)
      (with_reducible apply r_t; apply r_d; apply r_op2; apply r_d; apply r_call; apply r_cons; apply r_var); exact rfl; exact rfl; (with_reducible exact st3; apply r_cons; apply r_var); exact rfl
      exact rfl; (with_reducible exact st1; apply r_nil); exact rfl; (with_reducible assumption); exact rfl; (with_reducible apply r_d; apply r_call; apply r_cons; apply r_var); exact rfl
      exact rfl; (with_reducible exact st4; apply r_cons; apply r_var); exact rfl; exact rfl; (with_reducible exact st1; apply r_nil); exact rfl; (with_reducible assumption); exact rfl; exact rfl
      exact rfl; (with_reducible apply c_t; assumption; apply r_toE; apply r_var); exact rfl; exact rfl
      (with_reducible exact st5; exact st7; apply c_nx; apply r_then; apply r_ret; apply r_call; apply r_cons; apply r_var); exact rfl; exact rfl
      (with_reducible exact st7; apply r_cons; apply r_var); exact rfl; exact rfl; (with_reducible exact st1; apply r_nil); exact rfl; (with_reducible assumption; apply c_ret; apply c_ret)
    · have q1 : decide (opv f b ≤ opv f a) = false := decide_eq_false q
      rw [if_neg q]
      apply rf_10_2
      (with_reducible apply r_then; apply r_set; apply r_ixP; apply r_see); exact rfl; exact rfl; (with_reducible apply r_lit; apply r_see); exact rfl; exact rfl
      (with_reducible apply o_igT; apply at0; exact st2; apply c_nx; apply r_then; apply r_if; apply r_t; apply r_d; apply r_op2P; apply r_see); exact rfl; exact rfl
      (with_reducible apply r_lit; apply r_see); exact rfl; exact rfl; exact rfl; exact rfl; (with_reducible apply c_f); decide +kernel
      (with_reducible apply r_skip; apply c_nx; apply r_then; apply r_if; apply r_t; apply r_d; apply r_op2P; apply r_see); exact rfl; exact rfl; (with_reducible apply r_lit; apply r_see)
      exact rfl; exact rfl; exact rfl; exact rfl; (with_reducible apply c_f); decide +kernel
      (with_reducible apply r_skip; apply c_nx; apply r_then; apply r_if; apply r_t; apply r_d; apply r_op2P; apply r_see); exact rfl; exact rfl; (with_reducible apply r_lit; apply r_see)
      exact rfl; exact rfl; exact rfl; exact rfl; (with_reducible apply c_t); decide +kernel; (with_reducible apply r_then; apply r_setT; apply r_d; apply r_sliceP; apply r_see); exact rfl
      exact rfl; (with_reducible apply r_part; apply r_lit; apply r_nopart; apply r_see); exact rfl; exact rfl; (with_reducible apply o_slT1); exact rfl
      (with_reducible apply g_tupN; apply g_cons'; exact st3; apply g_cons'; exact st4; apply g_cons'; exact st5; apply g_cons'; exact st6; apply g_nil'; apply c_nx; apply r_then; apply r_set; apply r_ite)
      (with_reducible apply r_t; apply r_d; apply r_op2; apply r_d; apply r_call; apply r_cons; apply r_var); exact rfl; exact rfl; (with_reducible exact st3; apply r_cons; apply r_var); exact rfl
      exact rfl; (with_reducible exact st1; apply r_nil); exact rfl; (with_reducible assumption); exact rfl; (with_reducible apply r_d; apply r_call; apply r_cons; apply r_var); exact rfl
      exact rfl; (with_reducible exact st4; apply r_cons; apply r_var); exact rfl; exact rfl; (with_reducible exact st1; apply r_nil); exact rfl; (with_reducible assumption); exact rfl; exact rfl
      exact rfl; (with_reducible apply c_f; assumption; apply r_toE; apply r_var); exact rfl; exact rfl
      (with_reducible exact st6; exact st7; apply c_nx; apply r_then; apply r_ret; apply r_call; apply r_cons; apply r_var); exact rfl; exact rfl
      (with_reducible exact st7; apply r_cons; apply r_var); exact rfl; exact rfl; (with_reducible exact st1; apply r_nil); exact rfl; (with_reducible assumption; apply c_ret; apply c_ret)
theorem setValue_eq (t : Nat) (fd : Fd) (f : Str → Int) (r : Row) (hne : ∀ os, r.df = .mx os ∨ r.df = .mn os → os ≠ []) (h : ∀ x ∈ r.df.ns, lkp fd x = some (f x)) : F_setting_value 0 [.tup [.str r.nm, r.pm.e, r.df.e], .dct t (kF fd) (vF fd)] = some (.sh (.int (rwv f r))) := by
  have hv := defValue_eq t fd f r.df hne h
  have hl := limitsOf_eq r.pm
  unfold F_setting_value fb_setting_value rwv lmt
  generalize dfv f r.df = v at *
  cases el : r.pm.lo with
  | none =>
    cases eh : r.pm.hi with
    | none =>
      rw [el, eh] at hl
      have hl : F_limits_of 0 [r.pm.e] = some (.sh (.tup [.non, .non])) := hl
      show runF _ _ _ = some (.sh (.int v))
      apply rf_5_2
      (with_reducible apply r_then; apply r_set; apply r_call; apply r_cons; apply r_d; apply r_ixP; apply r_see); exact rfl; exact rfl; (with_reducible apply r_lit; apply r_see); exact rfl
      exact rfl; (with_reducible apply o_igT; apply at2); exact rfl; (with_reducible apply r_cons; apply r_var); exact rfl; exact rfl; (with_reducible exact st1; apply r_nil); exact rfl
      (with_reducible assumption; exact st2; apply c_nx; apply r_then; apply r_setT; apply r_d; apply r_call; apply r_cons; apply r_d; apply r_ixP; apply r_see); exact rfl; exact rfl
      (with_reducible apply r_lit; apply r_see); exact rfl; exact rfl; (with_reducible apply o_igT; apply at1); exact rfl; (with_reducible apply r_nil); exact rfl; (with_reducible assumption)
      exact rfl
      (with_reducible apply g_tupN; apply g_cons'; exact st3; apply g_cons'; exact st4; apply g_nil'; apply c_nx; apply r_then; apply r_if; apply r_and; apply r_t; apply r_d; apply r_op2P; apply r_see)
      exact rfl; exact rfl; (with_reducible apply r_lit; apply r_see); exact rfl; exact rfl; exact rfl; exact rfl; (with_reducible apply c_f); decide +kernel; exact rfl
      (with_reducible apply c_f; rfl; apply r_skip; apply c_nx; apply r_then; apply r_if; apply r_and; apply r_t; apply r_d; apply r_op2P; apply r_see); exact rfl; exact rfl
      (with_reducible apply r_lit; apply r_see); exact rfl; exact rfl; exact rfl; exact rfl; (with_reducible apply c_f); decide +kernel; exact rfl
      (with_reducible apply c_f; rfl; apply r_skip; apply c_nx; apply r_then; apply r_ret; apply r_move_sh); exact rfl; (with_reducible apply c_ret)
    | some b =>
      rw [el, eh] at hl
      have hl : F_limits_of 0 [r.pm.e] = some (.sh (.tup [.non, .int b])) := hl
      show runF _ _ _ = some (.sh (.int (if b < v then b else v)))
      by_cases qb : b < v
      · have qc : decide (b < v) = true := decide_eq_true qb
        rw [if_pos qb]
        apply rf_5_2
        (with_reducible apply r_then; apply r_set; apply r_call; apply r_cons; apply r_d; apply r_ixP; apply r_see); exact rfl; exact rfl; (with_reducible apply r_lit; apply r_see); exact rfl
        exact rfl; (with_reducible apply o_igT; apply at2); exact rfl; (with_reducible apply r_cons; apply r_var); exact rfl; exact rfl; (with_reducible exact st1; apply r_nil); exact rfl
        (with_reducible assumption; exact st2; apply c_nx; apply r_then; apply r_setT; apply r_d; apply r_call; apply r_cons; apply r_d; apply r_ixP; apply r_see); exact rfl; exact rfl
        (with_reducible apply r_lit; apply r_see); exact rfl; exact rfl; (with_reducible apply o_igT; apply at1); exact rfl; (with_reducible apply r_nil); exact rfl; (with_reducible assumption)
        exact rfl
        (with_reducible apply g_tupN; apply g_cons'; exact st3; apply g_cons'; exact st4; apply g_nil'; apply c_nx; apply r_then; apply r_if; apply r_and; apply r_t; apply r_d; apply r_op2P; apply r_see)
        exact rfl; exact rfl; (with_reducible apply r_lit; apply r_see); exact rfl; exact rfl; exact rfl; exact rfl; (with_reducible apply c_f); decide +kernel; exact rfl
        (with_reducible apply c_f; rfl; apply r_skip; apply c_nx; apply r_then; apply r_if; apply r_and; apply r_t; apply r_d; apply r_op2P; apply r_see); exact rfl; exact rfl
        (with_reducible apply r_lit; apply r_see); exact rfl; exact rfl; exact rfl; exact rfl; (with_reducible apply c_t); exact rfl; (with_reducible apply r_t; apply r_d; apply r_op2P; apply r_see)
        exact rfl; exact rfl; (with_reducible apply r_see); exact rfl; exact rfl; (with_reducible apply r_see); exact rfl; exact rfl; exact rfl; exact rfl
        (with_reducible apply c_t; assumption; apply r_then; apply r_ret; apply r_move_sh); exact rfl; (with_reducible apply c_ret; apply c_ret)
      · have qc : decide (b < v) = false := decide_eq_false qb
        rw [if_neg qb]
        apply rf_5_2
        (with_reducible apply r_then; apply r_set; apply r_call; apply r_cons; apply r_d; apply r_ixP; apply r_see); exact rfl; exact rfl; (with_reducible apply r_lit; apply r_see); exact rfl
        exact rfl; (with_reducible apply o_igT; apply at2); exact rfl; (with_reducible apply r_cons; apply r_var); exact rfl; exact rfl; (with_reducible exact st1; apply r_nil); exact rfl
        (with_reducible assumption; exact st2; apply c_nx; apply r_then; apply r_setT; apply r_d; apply r_call; apply r_cons; apply r_d; apply r_ixP; apply r_see); exact rfl; exact rfl
        (with_reducible apply r_lit; apply r_see); exact rfl; exact rfl; (with_reducible apply o_igT; apply at1); exact rfl; (with_reducible apply r_nil); exact rfl; (with_reducible assumption)
        exact rfl
        (with_reducible apply g_tupN; apply g_cons'; exact st3; apply g_cons'; exact st4; apply g_nil'; apply c_nx; apply r_then; apply r_if; apply r_and; apply r_t; apply r_d; apply r_op2P; apply r_see)
        exact rfl; exact rfl; (with_reducible apply r_lit; apply r_see); exact rfl; exact rfl; exact rfl; exact rfl; (with_reducible apply c_f); decide +kernel; exact rfl
        (with_reducible apply c_f; rfl; apply r_skip; apply c_nx; apply r_then; apply r_if; apply r_and; apply r_t; apply r_d; apply r_op2P; apply r_see); exact rfl; exact rfl
        (with_reducible apply r_lit; apply r_see); exact rfl; exact rfl; exact rfl; exact rfl; (with_reducible apply c_t); exact rfl; (with_reducible apply r_t; apply r_d; apply r_op2P; apply r_see)
        exact rfl; exact rfl; (with_reducible apply r_see); exact rfl; exact rfl; (with_reducible apply r_see); exact rfl; exact rfl; exact rfl; exact rfl
        (with_reducible apply c_f; assumption; apply r_skip; apply c_nx; apply r_then; apply r_ret; apply r_move_sh); exact rfl; (with_reducible apply c_ret)
  | some l =>
    by_cases q : v < l
    · have q1 : decide (v < l) = true := decide_eq_true q
      rw [el] at hl
      have hl : F_limits_of 0 [r.pm.e] = some (.sh (.tup [.int l, oI r.pm.hi])) := hl
      show runF _ _ _ = some (.sh (.int (if v < l then l else _)))
      rw [if_pos q]
      apply rf_5_2
      (with_reducible apply r_then; apply r_set; apply r_call; apply r_cons; apply r_d; apply r_ixP; apply r_see); exact rfl; exact rfl; (with_reducible apply r_lit; apply r_see); exact rfl
      exact rfl; (with_reducible apply o_igT; apply at2); exact rfl; (with_reducible apply r_cons; apply r_var); exact rfl; exact rfl; (with_reducible exact st1; apply r_nil); exact rfl
      (with_reducible assumption; exact st2; apply c_nx; apply r_then; apply r_setT; apply r_d; apply r_call; apply r_cons; apply r_d; apply r_ixP; apply r_see); exact rfl; exact rfl
      (with_reducible apply r_lit; apply r_see); exact rfl; exact rfl; (with_reducible apply o_igT; apply at1); exact rfl; (with_reducible apply r_nil); exact rfl; (with_reducible assumption)
      exact rfl
      (with_reducible apply g_tupN; apply g_cons'; exact st3; apply g_cons'; exact st4; apply g_nil'; apply c_nx; apply r_then; apply r_if; apply r_and; apply r_t; apply r_d; apply r_op2P; apply r_see)
      exact rfl; exact rfl; (with_reducible apply r_lit; apply r_see); exact rfl; exact rfl; exact rfl; exact rfl; (with_reducible apply c_t); exact rfl
      (with_reducible apply r_t; apply r_d; apply r_op2P; apply r_see); exact rfl; exact rfl; (with_reducible apply r_see); exact rfl; exact rfl; (with_reducible apply r_see); exact rfl; exact rfl
      exact rfl; exact rfl; (with_reducible apply c_t; assumption; apply r_then; apply r_ret; apply r_move_sh); exact rfl; (with_reducible apply c_ret; apply c_ret)
    · have q1 : decide (v < l) = false := decide_eq_false q
      cases eh : r.pm.hi with
      | none =>
        rw [el, eh] at hl
        have hl : F_limits_of 0 [r.pm.e] = some (.sh (.tup [.int l, .non])) := hl
        show runF _ _ _ = some (.sh (.int (if v < l then l else v)))
        rw [if_neg q]
        apply rf_5_2
        (with_reducible apply r_then; apply r_set; apply r_call; apply r_cons; apply r_d; apply r_ixP; apply r_see); exact rfl; exact rfl; (with_reducible apply r_lit; apply r_see); exact rfl
        exact rfl; (with_reducible apply o_igT; apply at2); exact rfl; (with_reducible apply r_cons; apply r_var); exact rfl; exact rfl; (with_reducible exact st1; apply r_nil); exact rfl
        (with_reducible assumption; exact st2; apply c_nx; apply r_then; apply r_setT; apply r_d; apply r_call; apply r_cons; apply r_d; apply r_ixP; apply r_see); exact rfl; exact rfl
        (with_reducible apply r_lit; apply r_see); exact rfl; exact rfl; (with_reducible apply o_igT; apply at1); exact rfl; (with_reducible apply r_nil); exact rfl; (with_reducible assumption)
        exact rfl
        (with_reducible apply g_tupN; apply g_cons'; exact st3; apply g_cons'; exact st4; apply g_nil'; apply c_nx; apply r_then; apply r_if; apply r_and; apply r_t; apply r_d; apply r_op2P; apply r_see)
        exact rfl; exact rfl; (with_reducible apply r_lit; apply r_see); exact rfl; exact rfl; exact rfl; exact rfl; (with_reducible apply c_t); exact rfl
        (with_reducible apply r_t; apply r_d; apply r_op2P; apply r_see); exact rfl; exact rfl; (with_reducible apply r_see); exact rfl; exact rfl; (with_reducible apply r_see); exact rfl; exact rfl
        exact rfl; exact rfl; (with_reducible apply c_f; assumption; apply r_skip; apply c_nx; apply r_then; apply r_if; apply r_and; apply r_t; apply r_d; apply r_op2P; apply r_see); exact rfl
        exact rfl; (with_reducible apply r_lit; apply r_see); exact rfl; exact rfl; exact rfl; exact rfl; (with_reducible apply c_f); decide +kernel; exact rfl
        (with_reducible apply c_f; rfl; apply r_skip; apply c_nx; apply r_then; apply r_ret; apply r_move_sh); exact rfl; (with_reducible apply c_ret)
      | some b =>
        rw [el, eh] at hl
        have hl : F_limits_of 0 [r.pm.e] = some (.sh (.tup [.int l, .int b])) := hl
        show runF _ _ _ = some (.sh (.int (if v < l then l else if b < v then b else v)))
        rw [if_neg q]
        by_cases qb : b < v
        · have qc : decide (b < v) = true := decide_eq_true qb
          rw [if_pos qb]
          apply rf_5_2
          (with_reducible apply r_then; apply r_set; apply r_call; apply r_cons; apply r_d; apply r_ixP; apply r_see); exact rfl; exact rfl; (with_reducible apply r_lit; apply r_see); exact rfl
          exact rfl; (with_reducible apply o_igT; apply at2); exact rfl; (with_reducible apply r_cons; apply r_var); exact rfl; exact rfl; (with_reducible exact st1; apply r_nil); exact rfl
          (with_reducible assumption; exact st2; apply c_nx; apply r_then; apply r_setT; apply r_d; apply r_call; apply r_cons; apply r_d; apply r_ixP; apply r_see); exact rfl; exact rfl
          (with_reducible apply r_lit; apply r_see); exact rfl; exact rfl; (with_reducible apply o_igT; apply at1); exact rfl; (with_reducible apply r_nil); exact rfl; (with_reducible assumption)
          exact rfl
          (with_reducible apply g_tupN; apply g_cons'; exact st3; apply g_cons'; exact st4; apply g_nil'; apply c_nx; apply r_then; apply r_if; apply r_and; apply r_t; apply r_d; apply r_op2P; apply r_see)
          exact rfl; exact rfl; (with_reducible apply r_lit; apply r_see); exact rfl; exact rfl; exact rfl; exact rfl; (with_reducible apply c_t); exact rfl
          (with_reducible apply r_t; apply r_d; apply r_op2P; apply r_see); exact rfl; exact rfl; (with_reducible apply r_see); exact rfl; exact rfl; (with_reducible apply r_see); exact rfl; exact rfl
          exact rfl; exact rfl; (with_reducible apply c_f; assumption; apply r_skip; apply c_nx; apply r_then; apply r_if; apply r_and; apply r_t; apply r_d; apply r_op2P; apply r_see); exact rfl
          exact rfl; (with_reducible apply r_lit; apply r_see); exact rfl; exact rfl; exact rfl; exact rfl; (with_reducible apply c_t); exact rfl
          (with_reducible apply r_t; apply r_d; apply r_op2P; apply r_see); exact rfl; exact rfl; (with_reducible apply r_see); exact rfl; exact rfl; (with_reducible apply r_see); exact rfl; exact rfl
          exact rfl; exact rfl; (with_reducible apply c_t; assumption; apply r_then; apply r_ret; apply r_move_sh); exact rfl; (with_reducible apply c_ret; apply c_ret)
        · have qc : decide (b < v) = false := decide_eq_false qb
          rw [if_neg qb]
          apply rf_5_2
          (with_reducible apply r_then; apply r_set; apply r_call; apply r_cons; apply r_d; apply r_ixP; apply r_see); exact rfl; exact rfl; (with_reducible apply r_lit; apply r_see); exact rfl
          exact rfl; (with_reducible apply o_igT; apply at2); exact rfl; (with_reducible apply r_cons; apply r_var); exact rfl; exact rfl; (with_reducible exact st1; apply r_nil); exact rfl
          (with_reducible assumption; exact st2; apply c_nx; apply r_then; apply r_setT; apply r_d; apply r_call; apply r_cons; apply r_d; apply r_ixP; apply r_see); exact rfl; exact rfl
          (with_reducible apply r_lit; apply r_see); exact rfl; exact rfl; (with_reducible apply o_igT; apply at1); exact rfl; (with_reducible apply r_nil); exact rfl; (with_reducible assumption)
          exact rfl
          (with_reducible apply g_tupN; apply g_cons'; exact st3; apply g_cons'; exact st4; apply g_nil'; apply c_nx; apply r_then; apply r_if; apply r_and; apply r_t; apply r_d; apply r_op2P; apply r_see)
          exact rfl; exact rfl; (with_reducible apply r_lit; apply r_see); exact rfl; exact rfl; exact rfl; exact rfl; (with_reducible apply c_t); exact rfl
          (with_reducible apply r_t; apply r_d; apply r_op2P; apply r_see); exact rfl; exact rfl; (with_reducible apply r_see); exact rfl; exact rfl; (with_reducible apply r_see); exact rfl; exact rfl
          exact rfl; exact rfl; (with_reducible apply c_f; assumption; apply r_skip; apply c_nx; apply r_then; apply r_if; apply r_and; apply r_t; apply r_d; apply r_op2P; apply r_see); exact rfl
          exact rfl; (with_reducible apply r_lit; apply r_see); exact rfl; exact rfl; exact rfl; exact rfl; (with_reducible apply c_t); exact rfl
          (with_reducible apply r_t; apply r_d; apply r_op2P; apply r_see); exact rfl; exact rfl; (with_reducible apply r_see); exact rfl; exact rfl; (with_reducible apply r_see); exact rfl; exact rfl
          exact rfl; exact rfl; (with_reducible apply c_f; assumption; apply r_skip; apply c_nx; apply r_then; apply r_ret; apply r_move_sh); exact rfl; (with_reducible apply c_ret)
end Ev

set_option Elab.async false
set_option linter.all false
set_option maxRecDepth 100000
set_option maxHeartbeats 1000000
namespace Ev
open PySem L2
/-! no list of a row has another tag than 0 -/
theorem noT_opd (o : Opd) : noT 1 o.e = true := by cases o <;> rfl
theorem noTL_map {α : Type} {f : α → D} (h : ∀ x, noT 1 (f x) = true) : ∀ xs : List α, noTL 1 (xs.map f) = true
  | [] => by unfold noTL; rfl
  | x :: r => by rw [List.map_cons]; unfold noTL; rw [h x, noTL_map h r]; rfl
theorem noT_l0 {xs : List D} (h : noTL 1 xs = true) : noT 1 (.lst 0 xs) = true := by unfold noT; rw [h]; rfl
theorem noT_df (d : Dfn) : noT 1 d.e = true := by
  cases d with
  | num i => rfl
  | plus x i => rfl
  | mx os =>
    have h : noT 1 (opL os) = true := noT_l0 (noTL_map noT_opd os)
    show noT 1 (.tup [.str "max", opL os]) = true
    unfold noT noTL noT noTL noTL
    rw [h]; rfl
  | mn os =>
    have h : noT 1 (opL os) = true := noT_l0 (noTL_map noT_opd os)
    show noT 1 (.tup [.str "min", opL os]) = true
    unfold noT noTL noT noTL noTL
    rw [h]; rfl
  | ife a b c d => cases a <;> cases b <;> cases c <;> cases d <;> rfl
theorem noT_pm (p : Prm) : noT 1 p.e = true := by
  have q : ∀ ns, noT 1 (nmL ns) = true := fun ns => noT_l0 (noTL_map (fun _ => rfl) ns)
  cases p with
  | sealed lo hi => cases lo <;> cases hi <;> rfl
  | free lo hi ns =>
    have h := q ns
    show noTL 1 [.str "free", oI lo, oI hi, nmL ns] = true
    unfold noTL noTL noTL noTL noTL
    rw [h]
    cases lo <;> cases hi <;> rfl
  | choice ns =>
    have h := q ns
    show noTL 1 [.str "choice", nmL ns] = true
    unfold noTL noTL noTL
    rw [h]; rfl
  | extend ns =>
    have h := q ns
    show noTL 1 [.str "extend", nmL ns] = true
    unfold noTL noTL noTL
    rw [h]; rfl
theorem noT_row (r : Row) : noT 1 r.e = true := by
  show noTL 1 [.str r.nm, r.pm.e, r.df.e] = true
  unfold noTL noTL noTL noTL
  rw [noT_pm, noT_df]; rfl
theorem noTL_vF (fd : Fd) : noTL 1 (vF fd) = true := noTL_map (fun _ => rfl) fd
/-! ### the values, by rank -/
def semN (rows : List Row) : Nat → Str → Int
  | 0, _ => 0
  | n + 1, x => match rows.find? fun r => decide (r.nm = x) with
    | some r => rwv (semN rows n) r
    | none => 0
def semV (B : Book) : Str → Int := semN B.rows 65
theorem find_row : ∀ {rows : List Row}, (rows.map Row.nm).Nodup → ∀ r ∈ rows, rows.find? (fun q => decide (q.nm = r.nm)) = some r
  | [], _, r, h => by cases h
  | a :: rs, nd, r, h => by
    rw [List.map_cons, List.nodup_cons] at nd
    rw [List.find?_cons]
    rcases List.mem_cons.mp h with e | e
    · rw [e]; simp
    · have : decide (a.nm = r.nm) = false := decide_eq_false fun q => nd.1 (by rw [q]; exact List.mem_map_of_mem e)
      rw [this]
      exact find_row nd.2 r e
theorem semN_row {B : Book} (hB : B.Ok) {r : Row} (hr : r ∈ B.rows) (n : Nat) : semN B.rows (n + 1) r.nm = rwv (semN B.rows n) r := by
  show (match B.rows.find? fun q => decide (q.nm = r.nm) with | some r => rwv (semN B.rows n) r | none => 0) = _
  rw [find_row hB.nd r hr]
theorem semN_stable {B : Book} (hB : B.Ok) : ∀ (n m : Nat) (r : Row), r ∈ B.rows → B.rk r.nm < n → B.rk r.nm < m → semN B.rows n r.nm = semN B.rows m r.nm
  | 0, _, _, _, h, _ => by omega
  | n + 1, 0, _, _, _, h => by omega
  | n + 1, m + 1, r, hr, h1, h2 => by
    rw [semN_row hB hr, semN_row hB hr]
    refine rwv_congr fun x hx => ?_
    obtain ⟨hm, hlt⟩ := hB.up r hr x (List.mem_append_left _ hx)
    obtain ⟨q, hq, rfl⟩ := List.mem_map.mp hm
    exact semN_stable hB n m q hq (by omega) (by omega)
theorem semV_eq {B : Book} (hB : B.Ok) {r : Row} (hr : r ∈ B.rows) : semV B r.nm = rwv (semV B) r := by
  have hl := hB.len
  have hk := hB.rk_lt r hr
  unfold semV
  rw [semN_row hB hr]
  refine rwv_congr fun x hx => ?_
  obtain ⟨hm, hlt⟩ := hB.up r hr x (List.mem_append_left _ hx)
  obtain ⟨q, hq, rfl⟩ := List.mem_map.mp hm
  exact semN_stable hB 64 65 q hq (by omega) (by omega)
structure VInv (B : Book) (fd : Fd) : Prop where
  nd : (fd.map Prod.fst).Nodup
  sub : ∀ x ∈ fd.map Prod.fst, x ∈ B.rows.map Row.nm
  val : ∀ x v, lkp fd x = some v → v = semV B x
theorem VInv.at {B : Book} {fd : Fd} (i : VInv B fd) {x : Str} (h : inF fd x) : lkp fd x = some (semV B x) := by
  obtain ⟨v, e⟩ := h
  rw [e, i.val x v e]
theorem VInv.size {B : Book} {fd : Fd} (h : B.Ok) (i : VInv B fd) : fd.length ≤ 64 := by
  have := nd_len i.nd i.sub
  rw [List.length_map, List.length_map] at this
  exact Nat.le_trans this h.len
theorem ok_ne {names : List Str} {r : Row} (h : r.ok names) (os : List Opd) (e : r.df = .mx os ∨ r.df = .mn os) : os ≠ [] := by
  have := h.1
  rcases e with e | e <;> (rw [e] at this; exact this.1)
theorem unpub1 (fd : Fd) : unpub 1 (.sh (.dct 1 (kF fd) (vF fd))) = some (.ownD 1 (kF fd) (vF fd)) := by
  unfold unpub
  dsimp only
  rw [if_pos ⟨rfl, noTL_vF fd⟩]
theorem values_row (B : Book) (hB : B.Ok) (v0 : D) (h0 : noT 1 v0 = true) (rd : Fd) (k : Int) (r : Row) (hr : r ∈ B.rows) (v : Int) (hv : lkp rd r.nm = some v) (fd : Fd) (I : VInv B fd) (hf : v = k → ∀ x ∈ r.ms, inF fd x) :
    ∃ fd', lb_values_of_0 0 [.sh v0, .ownD 1 (kF fd) (vF fd), .ownD 0 (kF rd) (vF rd), .sh (.int k), .sh (.tup [.str r.nm, r.pm.e, r.df.e])] = some (.nx, [.sh v0, .ownD 1 (kF fd') (vF fd'), .ownD 0 (kF rd) (vF rd), .sh (.int k), .sh (.tup [.str r.nm, r.pm.e, r.df.e])]) ∧ VInv B fd' ∧ (∀ x, inF fd x → inF fd' x) ∧ (v = k → inF fd' r.nm) := by
  have q := dIG_fd (t := 0) hv
  by_cases e : v = k
  · have e1 : decide (v = k) = true := decide_eq_true e
    have hu := setValue_eq 1 fd (semV B) r (ok_ne (hB.ok r hr)) fun x hx => I.at (hf e x (List.mem_append_left _ hx))
    rw [← semV_eq hB hr] at hu
    have hval : ∀ x v, lkp (putA fd r.nm (semV B r.nm)) x = some v → v = semV B x := fun x v h => by
      rw [lkp_put] at h
      split at h
      · rename_i q
        rw [← q]; exact (Option.some.inj h).symm
      · exact I.val x v h
    generalize semV B r.nm = u at hu hval
    have hk := unpub1 fd
    have h4 : noTS 1 (.sh (.int u)) = true ∧ (List.set [.sh v0, .sh (.dct 1 (kF fd) (vF fd)), .ownD 0 (kF rd) (vF rd), .sh (.int k), .sh (.tup [.str r.nm, r.pm.e, r.df.e])] 1 Sl.non).all (noTS 1) = true := by
      refine ⟨rfl, ?_⟩
      have a : noTS 1 (.sh v0) = true := h0
      have b : noTS 1 (.ownD 0 (kF rd) (vF rd)) = true := noTL_vF rd
      have c : noTS 1 (.sh (.tup [.str r.nm, r.pm.e, r.df.e])) = true := noT_row r
      simp only [List.set_cons_succ, List.set_cons_zero, List.all_cons, a, b, c]
      rfl
    have hl : (vF fd).length < lim ∧ (kF fd).Nodup := ⟨by unfold vF; rw [List.length_map]; have := I.size hB; unfold lim; omega, kF_nd I.nd⟩
    refine ⟨putA fd r.nm u, ?_, ⟨put_nd I.nd, fun x hx => ?_, hval⟩, fun x hx => ?_, fun _ => ⟨u, by rw [lkp_put, if_pos rfl]⟩⟩
    · rw [show kF (putA fd r.nm u) = (putD (kF fd) (vF fd) (.inr r.nm) (.int u)).1 by rw [put_fd], show vF (putA fd r.nm u) = (putD (kF fd) (vF fd) (.inr r.nm) (.int u)).2 by rw [put_fd]]
      unfold lb_values_of_0; (with_reducible apply r_then; apply r_if; apply r_t; apply r_d; apply r_op2; apply r_d; apply r_ixP; apply r_see); exact rfl; exact rfl
      (with_reducible apply r_d; apply r_ixP; apply r_see); exact rfl; exact rfl; (with_reducible apply r_lit; apply r_see); exact rfl; exact rfl; (with_reducible apply o_igT; apply at0); exact rfl
      (with_reducible apply r_see); exact rfl; exact rfl; (with_reducible assumption); exact rfl; (with_reducible apply r_see); exact rfl; exact rfl; exact rfl; exact rfl
      (with_reducible apply c_t; assumption; apply r_then; apply r_setK); exact rfl; (with_reducible apply r_d; apply r_keep); exact rfl; exact rfl
      (with_reducible apply r_call; apply r_cons; apply r_var); exact rfl; exact rfl; (with_reducible exact st4; apply r_cons; apply r_var); exact rfl; exact rfl
      (with_reducible exact st1; apply r_nil); exact rfl; (with_reducible assumption); exact rfl; (with_reducible assumption; assumption; exact st1); exact rfl
      (with_reducible apply r_d; apply r_ixP; apply r_see); exact rfl; exact rfl; (with_reducible apply r_lit; apply r_see); exact rfl; exact rfl; (with_reducible apply o_igT; apply at0); exact rfl
      exact rfl; exact rfl; (with_reducible assumption; exact st1; apply c_nx; apply r_skip; apply c_nx; apply r_skip)
    · rcases put_mem hx with z | z
      · exact I.sub x z
      · rw [z]; exact List.mem_map_of_mem hr
    · obtain ⟨w, hw⟩ := hx
      by_cases z : r.nm = x
      · exact ⟨u, by rw [lkp_put, if_pos z]⟩
      · exact ⟨w, by rw [lkp_put, if_neg z]; exact hw⟩
  · have e1 : decide (v = k) = false := decide_eq_false e
    refine ⟨fd, ?_, I, fun _ h => h, fun q => (e q).elim⟩
    unfold lb_values_of_0; (with_reducible apply r_then; apply r_if; apply r_t; apply r_d; apply r_op2; apply r_d; apply r_ixP; apply r_see); exact rfl; exact rfl
    (with_reducible apply r_d; apply r_ixP; apply r_see); exact rfl; exact rfl; (with_reducible apply r_lit; apply r_see); exact rfl; exact rfl; (with_reducible apply o_igT; apply at0); exact rfl
    (with_reducible apply r_see); exact rfl; exact rfl; (with_reducible assumption); exact rfl; (with_reducible apply r_see); exact rfl; exact rfl; exact rfl; exact rfl
    (with_reducible apply c_f; assumption; apply r_skip; apply c_nx; apply r_skip)
theorem values_loop0 (B : Book) (hB : B.Ok) (v0 : D) (h0 : noT 1 v0 = true) (rd : Fd) (R : RInv B rd) (hR : ∀ r ∈ B.rows, (lkp rd r.nm).isSome = true) (k : Int) : ∀ (suf : List Row) (fd : Fd) (s4 : Sl), (∀ r ∈ suf, r ∈ B.rows) → VInv B fd → (∀ r ∈ B.rows, ∀ v, lkp rd r.nm = some v → v < k → inF fd r.nm) →
    ∃ fd' s4', forRun (gNam 4) (lb_values_of_0 0) (suf.map Row.e) [.sh v0, .ownD 1 (kF fd) (vF fd), .ownD 0 (kF rd) (vF rd), .sh (.int k), s4] = some (.nx, [.sh v0, .ownD 1 (kF fd') (vF fd'), .ownD 0 (kF rd) (vF rd), .sh (.int k), s4']) ∧ VInv B fd' ∧ (∀ x, inF fd x → inF fd' x) ∧ ∀ r ∈ suf, lkp rd r.nm = some k → inF fd' r.nm
  | [], fd, s4, _, I, _ => ⟨fd, s4, rfl, I, fun _ h => h, fun _ h => (by cases h)⟩
  | r :: rs, fd, s4, hs, I, hlow => by
    have hr := hs r List.mem_cons_self
    obtain ⟨v, hv⟩ := Option.isSome_iff_exists.mp (hR r hr)
    obtain ⟨fd1, h1, I1, m1, f1⟩ := values_row B hB v0 h0 rd k r hr v hv fd I fun e x hx => by
      obtain ⟨hx1, _⟩ := hB.up r hr x hx
      obtain ⟨r', hr', ex⟩ := List.mem_map.mp hx1
      obtain ⟨w, hw, hlt⟩ := (R.val r hr v hv).2.2 x hx
      rw [← ex]
      exact hlow r' hr' w (by rw [ex]; exact hw) (by omega)
    obtain ⟨fd2, s42, h2, I2, m2, f2⟩ := values_loop0 B hB v0 h0 rd R hR k rs fd1 (.sh (.tup [.str r.nm, r.pm.e, r.df.e])) (fun r hr => hs r (List.mem_cons_of_mem _ hr)) I1 fun r hr v hv hk => m1 _ (hlow r hr v hv hk)
    refine ⟨fd2, s42, ?_, I2, fun x h => m2 x (m1 x h), fun r' hr' h => ?_⟩
    · rw [List.map_cons]
      show forRun _ _ (.tup [.str r.nm, r.pm.e, r.df.e] :: _) _ = _
      exact fr_cons (Γ1 := [.sh v0, .ownD 1 (kF fd) (vF fd), .ownD 0 (kF rd) (vF rd), .sh (.int k), .sh (.tup [.str r.nm, r.pm.e, r.df.e])]) rfl h1 h2
    · rcases List.mem_cons.mp hr' with e | e
      · subst e
        rw [hv] at h
        exact m2 _ (f1 (Option.some.inj h))
      · exact f2 r' e h
theorem values_loop1 (B : Book) (hB : B.Ok) (t : Nat) (ht : t ≠ 1) (rd : Fd) (R : RInv B rd) (hR : ∀ r ∈ B.rows, (lkp rd r.nm).isSome = true) : ∀ (m k : Nat) (fd : Fd) (s3 s4 : Sl), VInv B fd → (∀ r ∈ B.rows, ∀ v, lkp rd r.nm = some v → v < k → inF fd r.nm) →
    ∃ fd' s3' s4', forRun (gNam 3) (lb_values_of_1 0) ((List.range' k m).map fun i => D.int (0 + ((i : Nat) : Int))) [.sh (.lst t (B.rows.map Row.e)), .ownD 1 (kF fd) (vF fd), .ownD 0 (kF rd) (vF rd), s3, s4] = some (.nx, [.sh (.lst t (B.rows.map Row.e)), .ownD 1 (kF fd') (vF fd'), .ownD 0 (kF rd) (vF rd), s3', s4']) ∧ VInv B fd' ∧ ∀ r ∈ B.rows, ∀ v, lkp rd r.nm = some v → v < k + m → inF fd' r.nm
  | 0, k, fd, s3, s4, I, h => ⟨fd, s3, s4, rfl, I, by simpa using h⟩
  | m + 1, k, fd, s3, s4, I, h => by
    have n0 : noT 1 (.lst t (B.rows.map Row.e)) = true := by
      unfold noT
      rw [noTL_map noT_row]
      simp [ht]
    obtain ⟨fd1, s41, h1, I1, m1, f1⟩ := values_loop0 B hB (.lst t (B.rows.map Row.e)) n0 rd R hR (0 + (k : Int)) B.rows fd s4 (fun _ h => h) I fun r hr v hv hk => h r hr v hv (by omega)
    obtain ⟨fd2, s32, s42, h2, I2, f2⟩ := values_loop1 B hB t ht rd R hR m (k + 1) fd1 (.sh (.int (0 + (k : Int)))) s41 I1 fun r hr v hv hk => by
      by_cases e : v = k
      · exact f1 r hr (by rw [hv, e]; simp)
      · exact m1 _ (h r hr v hv (by omega))
    refine ⟨fd2, s32, s42, ?_, I2, fun r hr v hv hk => f2 r hr v hv (by omega)⟩
    rw [List.range'_succ, List.map_cons]
    apply fr_cons
    (with_reducible apply g_nam'; exact st3); unfold lb_values_of_1; (with_reducible apply r_then; apply r_for; apply r_seq; apply r_var); exact rfl; exact rfl; (with_reducible exact st0)
    exact rfl; (with_reducible assumption; apply c_nx; apply r_skip; apply c_nx; assumption)
theorem values_eq (B : Book) (hB : B.Ok) (t : Nat) (ht : t ≠ 1) : ∃ fd, F_values_of 0 [.lst t (B.rows.map Row.e)] = some (.ownD 1 (kF fd) (vF fd)) ∧ VInv B fd ∧ ∀ r ∈ B.rows, inF fd r.nm := by
  obtain ⟨rd, hr, R, hR⟩ := ranks_eq B hB t
  obtain ⟨fd, s3, s4, h, I, f⟩ := values_loop1 B hB t ht rd R hR B.rows.length 0 [] .non .non ⟨by simp, fun _ h => (by cases h), fun _ _ h => (by cases h)⟩ fun r hr v hv hk => by
    have := (R.val r hr v hv).1
    omega
  have e : ((List.range' 0 B.rows.length).map fun i => D.int (0 + ((i : Nat) : Int))) = rangeD 0 (((B.rows.map Row.e).length : Nat) : Int).toNat := by
    rw [List.length_map, Int.toNat_natCast, rangeD, List.range_eq_range']
  rw [e] at h
  have hrr := range_ok (n := (B.rows.map Row.e).length) (by rw [List.length_map]; exact hB.len)
  have h : forRun _ _ _ [.sh (.lst t (B.rows.map Row.e)), .ownD 1 [] [], .ownD 0 (kF rd) (vF rd), .non, .non] = _ := h
  refine ⟨fd, ?_, I, fun r hr => ?_⟩
  · unfold F_values_of fb_values_of
    apply rf_5_1
    (with_reducible apply r_then; apply r_set; apply r_dct0; exact st1; apply c_nx; apply r_then; apply r_set; apply r_call; apply r_cons; apply r_var); exact rfl; exact rfl
    (with_reducible exact st0; apply r_nil); exact rfl; (with_reducible assumption; exact st2; apply c_nx; apply r_then; apply r_for; apply r_range1; apply r_d; apply r_op1; apply r_see)
    exact rfl; exact rfl; exact rfl; exact rfl; (with_reducible assumption; assumption; apply c_nx; apply r_then; apply r_ret; apply r_move_ownD); exact rfl
    (with_reducible exact st1; apply c_ret)
  · obtain ⟨v, hv⟩ := Option.isSome_iff_exists.mp (hR r hr)
    have h1 := (R.val r hr v hv).2.1
    have h2 := hB.rk_lt r hr
    exact f r hr v hv (by omega)
end Ev

set_option Elab.async false
set_option linter.all false
set_option maxRecDepth 100000
set_option maxHeartbeats 1000000
namespace Ev
open PySem L2
theorem dEq_same {d : D} (h : okd d 60 = true) (h0 : dEqF d d = none) : dEq d d = some true := by
  unfold dEq
  rw [h0]
  dsimp only
  rw [if_pos ⟨h, h⟩, SeqAt.eqv_refl _ (okd_lay d 60 h).1]
theorem sNe_same {t : Nat} {xs : List D} (h : okdL xs 59 = true) : sNe (.lst t xs) (.lst t xs) = some (.sh (.bl false)) := by
  unfold sNe
  rw [dEq_same (by unfold okd; exact h) rfl]
  rfl
theorem okdL_map {α : Type} {f : α → D} {n : Nat} : ∀ {xs : List α}, (∀ x ∈ xs, okd (f x) n = true) → okdL (xs.map f) n = true
  | [], _ => by unfold okdL; rfl
  | x :: r, h => by
    rw [List.map_cons]
    unfold okdL
    rw [h x List.mem_cons_self, okdL_map fun y hy => h y (List.mem_cons_of_mem _ hy)]
    rfl
theorem okd_strLit : PyData.strOk "max" = true ∧ PyData.strOk "min" = true ∧ PyData.strOk "number" = true ∧ PyData.strOk "plus" = true ∧ PyData.strOk "if" = true ∧ PyData.strOk "sealed" = true ∧ PyData.strOk "free" = true ∧ PyData.strOk "choice" = true ∧ PyData.strOk "extend" = true ∧ PyData.strOk "set" = true ∧ PyData.strOk "add" = true ∧ PyData.strOk "seal" = true := by decide +kernel
theorem okd_str {x : Str} {n : Nat} (h : PyData.strOk x = true) : okd (.str x) n = true := by unfold okd; exact h
theorem okd_oI (o : Option Int) (n : Nat) : okd (oI o) n = true := by cases o <;> (unfold oI okd; rfl)
theorem okd_tup2 {a b : D} {n : Nat} (h : okd a n = true) (k : okd b n = true) : okd (.tup [a, b]) (n + 1) = true := by
  unfold okd okdL okdL okdL; show (okd a n && (okd b n && true)) = true; rw [h, k]; rfl
theorem okd_tup3 {a b c : D} {n : Nat} (h : okd a n = true) (k : okd b n = true) (l : okd c n = true) : okd (.tup [a, b, c]) (n + 1) = true := by
  unfold okd okdL okdL okdL okdL; show (okd a n && (okd b n && (okd c n && true))) = true; rw [h, k, l]; rfl
theorem okd_tup4 {a b c d : D} {n : Nat} (h : okd a n = true) (k : okd b n = true) (l : okd c n = true) (m : okd d n = true) : okd (.tup [a, b, c, d]) (n + 1) = true := by
  unfold okd okdL okdL okdL okdL okdL; show (okd a n && (okd b n && (okd c n && (okd d n && true)))) = true; rw [h, k, l, m]; rfl
theorem okd_tup5 {a b c d e : D} {n : Nat} (h : okd a n = true) (k : okd b n = true) (l : okd c n = true) (m : okd d n = true) (o : okd e n = true) : okd (.tup [a, b, c, d, e]) (n + 1) = true := by
  unfold okd okdL okdL okdL okdL okdL okdL; show (okd a n && (okd b n && (okd c n && (okd d n && (okd e n && true))))) = true; rw [h, k, l, m, o]; rfl
theorem okd_lst {t : Nat} {xs : List D} {n : Nat} (h : okdL xs n = true) : okd (.lst t xs) (n + 1) = true := by unfold okd; exact h
theorem okd_df (d : Dfn) (n : Nat) (h : Sk d.ns) : okd d.e (n + 2) = true := by
  obtain ⟨h1, h2, h3, h4, h5, _⟩ := okd_strLit
  cases d with
  | num i => exact okd_tup2 (okd_str h3) (by unfold okd; rfl)
  | plus x i => exact okd_tup3 (okd_str h4) (okd_str (h x List.mem_cons_self)) (by unfold okd; rfl)
  | mx os => exact okd_tup2 (okd_str h1) (okd_lst (okdL_opds fun o ho x hx => h x (List.mem_flatMap.mpr ⟨o, ho, hx⟩)))
  | mn os => exact okd_tup2 (okd_str h2) (okd_lst (okdL_opds fun o ho x hx => h x (List.mem_flatMap.mpr ⟨o, ho, hx⟩)))
  | ife a b c d => exact okd_tup5 (okd_str h5) (okd_opd fun x hx => h x (List.mem_append_left _ hx)) (okd_opd fun x hx => h x (List.mem_append_right _ (List.mem_append_left _ hx))) (okd_opd fun x hx => h x (List.mem_append_right _ (List.mem_append_right _ (List.mem_append_left _ hx)))) (okd_opd fun x hx => h x (List.mem_append_right _ (List.mem_append_right _ (List.mem_append_right _ hx))))
theorem okd_pm (p : Prm) (n : Nat) (h : Sk p.ns) : okd p.e (n + 2) = true := by
  obtain ⟨_, _, _, _, _, h6, h7, h8, h9, _⟩ := okd_strLit
  cases p with
  | sealed lo hi => exact okd_tup3 (okd_str h6) (okd_oI _ _) (okd_oI _ _)
  | free lo hi ns => exact okd_tup4 (okd_str h7) (okd_oI _ _) (okd_oI _ _) (okd_lst (okdL_strs h))
  | choice ns => exact okd_tup2 (okd_str h8) (okd_lst (okdL_strs h))
  | extend ns => exact okd_tup2 (okd_str h9) (okd_lst (okdL_strs h))
theorem okd_row (r : Row) (n : Nat) (h0 : PyData.strOk r.nm = true) (h : Sk r.ms) : okd r.e (n + 3) = true :=
  okd_tup3 (okd_str h0) (okd_pm _ _ fun x hx => h x (List.mem_append_right _ hx)) (okd_df _ _ fun x hx => h x (List.mem_append_left _ hx))
theorem Book.Ok.okd {B : Book} (h : B.Ok) : okdL (B.rows.map Row.e) 59 = true := okdL_map fun r hr => okd_row r 56 (nm_ok (h.nm r hr)) fun x hx => h.sk x (h.up r hr x hx).1
theorem Book.Ok.settings {B : Book} (h : B.Ok) : F_are_settings 0 [.lst 0 (B.rows.map Row.e)] = some (.sh (.bl true)) :=
  areSettings_eq B.rows h.nm h.nd (by have := h.len; unfold lim; omega) h.sk h.ok
structure Vals (B : Book) (fd : Fd) : Prop where
  I : VInv B fd
  all : ∀ r ∈ B.rows, inF fd r.nm
  eq : F_values_of 0 [.lst 0 (B.rows.map Row.e)] = some (.ownD 1 (kF fd) (vF fd))
theorem Book.Ok.vals {B : Book} (h : B.Ok) : ∃ fd, Vals B fd := by
  obtain ⟨fd, e, I, f⟩ := values_eq B h 0 (by decide)
  exact ⟨fd, I, f, e⟩
theorem rows_copied (B : Book) (s0 s1 s2 : Sl) : lcRun [3] (gNam 3) fYes (FE.d (fCall 1 F_copied_setting 0 (fCons ((fVar 3)) fNil))) (B.rows.map Row.e) [s0, s1, s2, .non] = some (B.rows.map Row.e, [s0, s1, s2, .non]) := by
  refine lc_every (enc := Row.e) Row.e fun r hr => ?_
  have q := copied_row r
  apply lcs_t
  (with_reducible apply g_nam'; exact st3; apply r_yes; apply r_d; apply r_call; apply r_cons; apply r_var); exact rfl; exact rfl; (with_reducible exact st3; apply r_nil); exact rfl
  (with_reducible assumption); exact rfl; exact wp3
theorem init_eq {B : Book} (h : B.Ok) {fd : Fd} (V : Vals B fd) : F_Book_init 0 [.lst 0 (B.rows.map Row.e)] = some [.lst 0 (B.rows.map Row.e), .dct 1 (kF fd) (vF fd)] := by
  have h1 := h.settings
  have h2 := ringIn_eq B h 0
  have h3 := V.eq
  have h4 := rows_copied B (.ini 0 []) (.sh (.lst 0 (B.rows.map Row.e))) (.sh .non)
  unfold F_Book_init fb_Book_init
  apply ri_4_1
  (with_reducible apply r_then; apply r_if; apply r_not; apply r_t; apply r_d; apply r_call; apply r_cons; apply r_var); exact rfl; exact rfl; (with_reducible exact st1; apply r_nil); exact rfl
  (with_reducible assumption); exact rfl; exact rfl; (with_reducible apply c_f); decide +kernel
  (with_reducible apply r_skip; apply c_nx; apply r_then; apply r_set; apply r_call; apply r_cons; apply r_var); exact rfl; exact rfl; (with_reducible exact st1; apply r_nil); exact rfl
  (with_reducible assumption; exact st2; apply c_nx; apply r_then; apply r_if; apply r_t; apply r_d; apply r_op2P; apply r_see); exact rfl; exact rfl; (with_reducible apply r_lit; apply r_see)
  exact rfl; exact rfl; exact rfl; exact rfl; (with_reducible apply c_f); decide +kernel; (with_reducible apply r_skip; apply c_nx; apply r_then; apply r_setF); exact rfl
  (with_reducible apply r_d; apply r_lc; apply r_seq; apply r_var); exact rfl; exact rfl; (with_reducible exact st1); exact rfl; exact wp3; (with_reducible assumption); exact rfl; exact rfl
  exact rfl; (with_reducible exact st0; apply c_nx; apply r_then; apply r_setF); exact rfl; (with_reducible apply r_d; apply r_call; apply r_cons; apply r_d; apply r_fldI); exact rfl; exact rfl
  exact rfl; (with_reducible apply r_nil); exact rfl; (with_reducible assumption); exact rfl; exact rfl; exact rfl; (with_reducible exact st0; apply c_nx; apply r_skip); exact rfl; exact rfl
theorem names_eq (rows : List Row) (x : D) : F_Book_names 0 [.ins 0 [.lst 0 (rows.map Row.e), x]] = some (.own 0 ((rows.map Row.nm).map .str)) := by
  have h : lcRun [1] (gNam 1) fYes (FE.d (fAlt (fOp2P dIx 1 ((fLit (.int 0)))) (fOp2P dGet 1 ((fLit (.int 0)))))) (rows.map Row.e) [.sh (.ins 0 [.lst 0 (rows.map Row.e), x]), .non] = some ((rows.map Row.nm).map .str, [.sh (.ins 0 [.lst 0 (rows.map Row.e), x]), .non]) := by
    rw [List.map_map]
    refine lc_every (enc := Row.e) _ fun r hr => ?_
    show LcStep _ _ _ _ _ (.tup [.str r.nm, r.pm.e, r.df.e]) _ (.str r.nm)
    apply lcs_t
    (with_reducible apply g_nam'; exact st1; apply r_yes; apply r_d; apply r_ixP; apply r_see); exact rfl; exact rfl; (with_reducible apply r_lit; apply r_see); exact rfl; exact rfl
    (with_reducible apply o_igT; apply at0); exact rfl; exact wp1
  unfold F_Book_names fb_Book_names
  apply rf_2_1
  (with_reducible apply r_then; apply r_ret; apply r_lc; apply r_seq; apply r_d; apply r_op1; apply r_var); exact rfl; exact rfl; (with_reducible exact st0); exact rfl; exact rfl; exact rfl
  exact wp1; (with_reducible assumption; apply c_ret)
end Ev

set_option Elab.async false
set_option linter.all false
set_option maxRecDepth 100000
set_option maxHeartbeats 1000000
namespace Ev
open PySem L2
/-! ### rows of layers, in plain terms -/
def Stp.len : Stp → Nat
  | .set _ d => d.len
  | _ => 0
def alS : Row → List Stp → Prop
  | _, [] => True
  | r, s :: ss => (r.nm = s.nm → allowed r.pm s) ∧ alS (r.stp s) ss
structure Gd (names : List Str) (n : Nat) (r : Row) : Prop where
  ok : r.ok names
  len : r.df.len ≤ n
theorem ns_le (d : Dfn) : d.ns.length ≤ d.len := by
  have o1 : ∀ o : Opd, o.ns.length ≤ 1 := fun o => by cases o <;> simp [Opd.ns]
  have o2 : ∀ os : List Opd, (os.flatMap Opd.ns).length ≤ os.length := fun os => by
    induction os with
    | nil => simp
    | cons a r ih => rw [List.flatMap_cons, List.length_append, List.length_cons]; have := o1 a; omega
  cases d with
  | num i => simp [Dfn.ns]
  | plus x i => simp [Dfn.ns, Dfn.len]
  | mx os => exact o2 os
  | mn os => exact o2 os
  | ife a b c d =>
    have := o1 a; have := o1 b; have := o1 c; have := o1 d
    simp only [Dfn.ns, Dfn.len, List.length_append]
    omega
theorem pm_nodup {names : List Str} {r : Row} (h : r.ok names) : r.pm.ns.Nodup ∧ ∀ x ∈ r.pm.ns, x ∈ names := by
  have h := h.2
  cases e : r.pm with
  | sealed lo hi => exact ⟨by simp [Prm.ns], fun _ h => (by cases h)⟩
  | free lo hi ns => rw [e] at h; exact ⟨h.2.2, h.2.1⟩
  | choice ns => rw [e] at h; exact ⟨h.2.1, h.1⟩
  | extend ns => rw [e] at h; exact ⟨h.2.1, h.1⟩
theorem app_gd {names : List Str} {n : Nat} {r : Row} {s : Stp} (g : Gd names n r) (ha : allowed r.pm s) (hs : s.ok names) (hl : s.len ≤ 20) (hn : 20 ≤ n) (hm : n + 1 ≤ lim) : addOk r s ∧ Gd names (n + 1) (r.app s) ∧ (∀ x ∈ (r.app s).ms, x ∈ r.ms) := by
  obtain ⟨⟨h1, h2⟩, h3⟩ := g
  obtain ⟨nm, pm, df⟩ := r
  have h1 : df.ok names := h1
  have h2 : pm.ok names df := h2
  have h3 : df.len ≤ n := h3
  cases s with
  | sel x =>
    refine ⟨trivial, ⟨⟨h1, ?_⟩, Nat.le_succ_of_le h3⟩, fun x hx => ?_⟩
    · show limOk pm.lo pm.hi
      cases pm with
      | sealed lo hi => exact h2
      | free lo hi ns => exact h2.1
      | choice ns => trivial
      | extend ns => trivial
    · have hx : x ∈ df.ns ++ [] := hx
      rw [List.append_nil] at hx
      exact List.mem_append_left _ hx
  | set y d =>
    have hl : d.len ≤ 20 := hl
    rcases ha with ⟨ns, x, e, hx, rfl⟩ | ⟨lo, hi, ns, e, hx⟩
    · have e : pm = .choice ns := e
      subst e
      refine ⟨trivial, ⟨⟨h2.1 x hx, h2.1, h2.2.1, x, hx, rfl⟩, (show 4 ≤ n + 1 by omega)⟩, fun z hz => ?_⟩
      have hz : z ∈ [x] ++ ns := hz
      refine List.mem_append_right _ ?_
      rcases List.mem_append.mp hz with q | q
      · rw [List.mem_singleton.mp q]; exact hx
      · exact q
    · have e : pm = .free lo hi ns := e
      subst e
      refine ⟨trivial, ⟨⟨hs.2, h2⟩, (show d.len ≤ n + 1 by omega)⟩, fun z hz => ?_⟩
      have hz : z ∈ d.ns ++ ns := hz
      refine List.mem_append_right _ ?_
      rcases List.mem_append.mp hz with q | q
      · exact hx z q
      · exact q
  | add y o =>
    obtain ⟨ns, e, hx⟩ := ha
    have e : pm = .extend ns := e
    subst e
    obtain ⟨q1, q2, os, q3⟩ := h2
    have mem : ∀ z, z ∈ (os ++ [o]).flatMap Opd.ns ++ ns → z ∈ os.flatMap Opd.ns ++ ns := fun z hz => by
      rcases List.mem_append.mp hz with q | q
      · rw [List.flatMap_append] at q
        rcases List.mem_append.mp q with q | q
        · exact List.mem_append_left _ q
        · refine List.mem_append_right _ (hx z ?_)
          simpa using q
      · exact List.mem_append_right _ q
    have opk : (∀ p ∈ os, ∀ x ∈ p.ns, x ∈ names) → ∀ p ∈ os ++ [o], ∀ x ∈ p.ns, x ∈ names := fun h p hp x hx' => by
      rcases List.mem_append.mp hp with q | q
      · exact h p q x hx'
      · rw [List.mem_singleton.mp q] at hx'; exact hs.2 x hx'
    rcases q3 with rfl | rfl
    · have h3 : os.length ≤ n := h3
      exact ⟨⟨trivial, (show os.length + 1 ≤ lim by omega)⟩, ⟨⟨⟨by simp, opk h1.2⟩, q1, q2, os ++ [o], .inl rfl⟩, (show (os ++ [o]).length ≤ n + 1 by simp; omega)⟩, mem⟩
    · have h3 : os.length ≤ n := h3
      exact ⟨⟨trivial, (show os.length + 1 ≤ lim by omega)⟩, ⟨⟨⟨by simp, opk h1.2⟩, q1, q2, os ++ [o], .inr rfl⟩, (show (os ++ [o]).length ≤ n + 1 by simp; omega)⟩, mem⟩
theorem Gd.mono {names : List Str} {n m : Nat} {r : Row} (g : Gd names n r) (h : n ≤ m) : Gd names m r := ⟨g.ok, Nat.le_trans g.len h⟩
theorem run_gd {names : List Str} : ∀ (ss : List Stp) (n : Nat) (r : Row), Gd names n r → (∀ s ∈ ss, s.ok names ∧ s.len ≤ 20) → 20 ≤ n → n + ss.length ≤ lim → alS r ss → okS r ss ∧ Gd names (n + ss.length) (r.run ss) ∧ (∀ x ∈ (r.run ss).ms, x ∈ r.ms)
  | [], n, r, g, _, _, _, _ => ⟨trivial, g, fun _ h => h⟩
  | s :: ss, n, r, g, hs, hn, hm, ha => by
    simp only [List.length_cons] at hm ⊢
    obtain ⟨s1, s2⟩ := hs s List.mem_cons_self
    have key : (r.nm = s.nm → allowed r.pm s ∧ addOk r s) ∧ Gd names (n + 1) (r.stp s) ∧ ∀ x ∈ (r.stp s).ms, x ∈ r.ms := by
      unfold Row.stp
      by_cases e : r.nm = s.nm
      · rw [if_pos e]
        obtain ⟨a, b, c⟩ := app_gd g (ha.1 e) s1 s2 hn (by omega)
        exact ⟨fun _ => ⟨ha.1 e, a⟩, b, c⟩
      · rw [if_neg e]
        exact ⟨fun q => (e q).elim, g.mono (Nat.le_succ n), fun _ h => h⟩
    obtain ⟨k1, k2, k3⟩ := key
    obtain ⟨i1, i2, i3⟩ := run_gd ss (n + 1) (r.stp s) k2 (fun s h => hs s (List.mem_cons_of_mem _ h)) (by omega) (by omega) ha.2
    refine ⟨⟨k1, i1⟩, ?_, fun x hx => k3 x (i3 x hx)⟩
    have e : n + 1 + ss.length = n + (ss.length + 1) := by omega
    rw [← e]
    exact i2
/-- the rows of a layer for one setting -/
def fl (x : Str) (ss : List Stp) : List Stp := ss.filter fun s => decide (s.nm = x)
theorem al_fl : ∀ (ss : List Stp) (r : Row), alS r ss ↔ alS r (fl r.nm ss)
  | [], r => Iff.rfl
  | s :: ss, r => by
    unfold fl
    rw [List.filter_cons]
    by_cases e : s.nm = r.nm
    · rw [if_pos (decide_eq_true e)]
      have h := al_fl ss (r.stp s)
      rw [stp_nm] at h
      exact and_congr Iff.rfl h
    · rw [if_neg (by simpa using e)]
      have e2 : r.stp s = r := if_neg fun q => e q.symm
      have h := al_fl ss r
      show (_ ∧ alS (r.stp s) ss) ↔ _
      rw [e2]
      exact ⟨fun q => h.mp q.2, fun q => ⟨fun z => (e z.symm).elim, h.mpr q⟩⟩
def Stp.isSeal : Stp → Bool
  | .sel _ => true
  | _ => false
def tch (ss : List Stp) (x : Str) : List Stp := ss.filter fun s => !s.isSeal && decide (s.nm = x)
theorem al_pm : ∀ (ss : List Stp) (r : Row), alS r ss → ∀ s ∈ ss, s.nm = r.nm → s.isSeal = false → allowed r.pm s
  | [], r, _, s, h, _, _ => by cases h
  | t :: ss, r, ha, s, h, e, n => by
    rcases List.mem_cons.mp h with q | q
    · subst q
      exact ha.1 e.symm
    · have i := al_pm ss (r.stp t) ha.2 s q (by rw [stp_nm]; exact e) n
      by_cases z : r.nm = t.nm
      · have e2 : r.stp t = r.app t := if_pos z
        rw [e2] at i
        cases t with
        | set x d => exact i
        | add x o => exact i
        | sel x =>
          have i : allowed (.sealed r.pm.lo r.pm.hi) s := i
          cases s with
          | set y d => rcases i with ⟨_, _, q, _⟩ | ⟨_, _, _, q, _⟩ <;> cases q
          | add y o => obtain ⟨_, q, _⟩ := i; cases q
          | sel y => cases n
      · have e2 : r.stp t = r := if_neg z
        rw [e2] at i
        exact i
/-- the book behind a layer -/
def Book.aft (B : Book) (ss : List Stp) : Book := ⟨B.rows.map (·.run ss), B.rk⟩
/-- a layer that a book allows -/
structure Lay (B : Book) (ss : List Stp) : Prop where
  ok : ∀ s ∈ ss, s.ok (B.rows.map Row.nm) ∧ s.len ≤ 20
  al : ∀ r ∈ B.rows, alS r ss
  len : ss.length ≤ 100
structure Small (B : Book) : Prop where
  ok : B.Ok
  len : ∀ r ∈ B.rows, r.df.len ≤ 400
theorem aft_names (B : Book) (ss : List Stp) : (B.aft ss).rows.map Row.nm = B.rows.map Row.nm := by
  show (B.rows.map (·.run ss)).map Row.nm = _
  rw [List.map_map]
  exact List.map_congr_left fun r _ => run_nm ss r
theorem Lay.okS {B : Book} {ss : List Stp} (S : Small B) (L : Lay B ss) : ∀ r ∈ B.rows, okS r ss ∧ Gd (B.rows.map Row.nm) (400 + ss.length) (r.run ss) ∧ (∀ x ∈ (r.run ss).ms, x ∈ r.ms) := fun r hr =>
  run_gd ss 400 r ⟨S.ok.ok r hr, S.len r hr⟩ L.ok (by decide) (by have := L.len; unfold lim; omega) (L.al r hr)
theorem Lay.aft {B : Book} {ss : List Stp} (S : Small B) (L : Lay B ss) : (B.aft ss).Ok where
  nm := fun r hr => by
    obtain ⟨r0, h0, rfl⟩ := List.mem_map.mp hr
    rw [run_nm]; exact S.ok.nm r0 h0
  nd := by rw [aft_names]; exact S.ok.nd
  len := by
    show (B.rows.map (·.run ss)).length ≤ 64
    rw [List.length_map]; exact S.ok.len
  ok := fun r hr => by
    obtain ⟨r0, h0, rfl⟩ := List.mem_map.mp hr
    rw [aft_names]
    exact ((L.okS S) r0 h0).2.1.ok
  sz := fun r hr => by
    obtain ⟨r0, h0, rfl⟩ := List.mem_map.mp hr
    have g := ((L.okS S) r0 h0).2.1
    have h1 := Nat.le_trans (ns_le _) g.len
    obtain ⟨p1, p2⟩ := pm_nodup g.ok
    have h2 := nd_len p1 p2
    rw [List.length_map] at h2
    have h3 := S.ok.len
    have h4 := L.len
    unfold Row.ms
    rw [List.length_append]
    omega
  up := fun r hr x hx => by
    obtain ⟨r0, h0, rfl⟩ := List.mem_map.mp hr
    rw [aft_names, run_nm]
    exact S.ok.up r0 h0 x (((L.okS S) r0 h0).2.2 x hx)
  rk_lt := fun r hr => by
    obtain ⟨r0, h0, rfl⟩ := List.mem_map.mp hr
    rw [run_nm]
    show B.rk r0.nm < (B.rows.map (·.run ss)).length
    rw [List.length_map]
    exact S.ok.rk_lt r0 h0
end Ev

set_option Elab.async false
set_option linter.all false
set_option maxRecDepth 100000
set_option maxHeartbeats 1000000
namespace Ev
open PySem L2
theorem Lay.is {B : Book} {ss : List Stp} (S : Small B) (L : Lay B ss) (t u : Nat) : F_is_layer 0 [.lst u (ss.map Stp.e), .lst t ((B.rows.map Row.nm).map .str)] = some (.sh (.bl true)) :=
  isLayer_eq t u ss _ S.ok.sk fun s hs => (L.ok s hs).1
theorem Lay.after {B : Book} {ss : List Stp} (S : Small B) (L : Lay B ss) (t u : Nat) : F_after_rows 0 [.lst t (B.rows.map Row.e), .lst u (ss.map Stp.e)] = some (.own 0 ((B.aft ss).rows.map Row.e)) :=
  afterRows_eq t u B.rows ss fun r hr => ((L.okS S) r hr).1
theorem checkBook_eq (xs : List D) : F_check_book 0 [.ins 0 xs] = some (.sh .non) := rfl
theorem behind_eq {B : Book} {ss : List Stp} (S : Small B) (L : Lay B ss) (x : D) (u : Nat) : F_behind 0 [.ins 0 [.lst 0 (B.rows.map Row.e), x], .lst u (ss.map Stp.e)] = some (.own 0 ((B.aft ss).rows.map Row.e)) := by
  have h0 := checkBook_eq [.lst 0 (B.rows.map Row.e), x]
  have h1 := names_eq B.rows x
  have h2 := L.is S 0 u
  have h3 := L.after S 0 u
  unfold F_behind fb_behind
  apply rf_2_2
  (with_reducible apply r_then; apply r_expr; apply r_d; apply r_call; apply r_cons; apply r_var); exact rfl; exact rfl; (with_reducible exact st0; apply r_nil); exact rfl
  (with_reducible assumption); exact rfl; (with_reducible apply c_nx; apply r_then; apply r_if; apply r_not; apply r_t; apply r_d; apply r_call; apply r_cons; apply r_var); exact rfl; exact rfl
  (with_reducible exact st1; apply r_cons; apply r_d; apply r_meth; apply r_var); exact rfl; exact rfl; (with_reducible exact st0; apply r_nil); exact rfl; (with_reducible assumption)
  exact rfl; (with_reducible apply r_nil); exact rfl; (with_reducible assumption); exact rfl; exact rfl; (with_reducible apply c_f); decide +kernel
  (with_reducible apply r_skip; apply c_nx; apply r_then; apply r_ret; apply r_call; apply r_cons; apply r_d; apply r_op1; apply r_var); exact rfl; exact rfl; (with_reducible exact st0)
  exact rfl; exact rfl; (with_reducible apply r_cons; apply r_var); exact rfl; exact rfl; (with_reducible exact st1; apply r_nil); exact rfl; (with_reducible assumption; apply c_ret)
def Stp.w : Stp → Str
  | .set _ _ => "set"
  | .add _ _ => "add"
  | .sel _ => "seal"
theorem stp_w (s : Stp) : ∃ r, s.e = .tup (.str s.w :: .str s.nm :: r) := by
  cases s with
  | set x d => exact ⟨_, rfl⟩
  | add x d => exact ⟨_, rfl⟩
  | sel x => exact ⟨_, rfl⟩
theorem w_seal (s : Stp) : decide (s.w = "seal") = s.isSeal := by
  cases s with
  | set x d => show decide (("set" : Str) = "seal") = false; decide +kernel
  | add x d => show decide (("add" : Str) = "seal") = false; decide +kernel
  | sel x => show decide (("seal" : Str) = "seal") = true; decide +kernel
theorem touching_eq (u : Nat) (ss : List Stp) (x : Str) : F_touching 0 [.lst u (ss.map Stp.e), .str x] = some (.own 0 ((tch ss x).map Stp.e)) := by
  have h : lcRun [2] (gNam 2) ((fAnd (FD.t (FE.d (fOp2 sNe ((FE.d (fAlt (fOp2P dIx 2 ((fLit (.int 0)))) (fOp2P dGet 2 ((fLit (.int 0))))))) ((fLit (.str "seal")))))) (FD.t (FE.d (fOp2 sEq ((FE.d (fAlt (fOp2P dIx 2 ((fLit (.int 1)))) (fOp2P dGet 2 ((fLit (.int 1))))))) (fSee 1)))))) ((fVar 2)) (ss.map Stp.e) [.sh (.lst u (ss.map Stp.e)), .sh (.str x), .non] = some ((tch ss x).map Stp.e, [.sh (.lst u (ss.map Stp.e)), .sh (.str x), .non]) := by
    refine lc_map Stp.e (fun s => !s.isSeal && decide (s.nm = x)) Stp.e ss fun s hs => ?_
    obtain ⟨r, er⟩ := stp_w s
    rw [er]
    have q : sNe (.str s.w) (.str "seal") = some (.sh (.bl (!s.isSeal))) := by
      show some (Sl.sh (.bl (!decide (s.w = "seal")))) = _
      rw [w_seal]
    cases e : s.isSeal with
    | true =>
      rw [e] at q
      have q : sNe (.str s.w) (.str "seal") = some (.sh (.bl false)) := q
      show LcStep _ _ _ _ _ _ false _
      apply lcs
      (with_reducible apply g_nam'; exact st2; apply r_and; apply r_t; apply r_d; apply r_op2; apply r_d; apply r_ixP; apply r_see); exact rfl; exact rfl; (with_reducible apply r_lit; apply r_see)
      exact rfl; exact rfl; (with_reducible apply o_igT; apply at0); exact rfl; (with_reducible apply r_lit; assumption); exact rfl; (with_reducible apply c_f; rfl); exact rfl
      (with_reducible apply r_var); exact rfl; exact rfl; (with_reducible exact st2); exact wp2
    | false =>
      rw [e] at q
      have q : sNe (.str s.w) (.str "seal") = some (.sh (.bl true)) := q
      show LcStep _ _ _ _ _ _ (decide (s.nm = x)) _
      apply lcs
      (with_reducible apply g_nam'; exact st2; apply r_and; apply r_t; apply r_d; apply r_op2; apply r_d; apply r_ixP; apply r_see); exact rfl; exact rfl; (with_reducible apply r_lit; apply r_see)
      exact rfl; exact rfl; (with_reducible apply o_igT; apply at0); exact rfl; (with_reducible apply r_lit; assumption); exact rfl
      (with_reducible apply c_t; rfl; apply r_t; apply r_d; apply r_op2; apply r_d; apply r_ixP; apply r_see); exact rfl; exact rfl; (with_reducible apply r_lit; apply r_see); exact rfl; exact rfl
      (with_reducible apply o_igT; apply at1); exact rfl; (with_reducible apply r_see); exact rfl; exact rfl; exact rfl; exact rfl; (with_reducible apply r_var); exact rfl; exact rfl
      (with_reducible exact st2); exact wp2
  unfold F_touching fb_touching
  apply rf_3_2
  (with_reducible apply r_then; apply r_ret; apply r_lc; apply r_seq; apply r_var); exact rfl; exact rfl; (with_reducible exact st0); exact rfl; exact wp2
  (with_reducible assumption; apply c_ret)
theorem okd_stp (names : List Str) (hk : Sk names) (s : Stp) (h : s.ok names) (n : Nat) : okd s.e (n + 3) = true := by
  obtain ⟨_, _, _, _, _, _, _, _, _, h10, h11, h12⟩ := okd_strLit
  have dk : ∀ d : Dfn, d.ok names → Sk d.ns := fun d hd x hx => hk x (by
    cases d with
    | num i => cases hx
    | plus y i => rw [List.mem_singleton.mp hx]; exact hd
    | mx os => obtain ⟨o, ho, ho2⟩ := List.mem_flatMap.mp hx; exact hd.2 o ho x ho2
    | mn os => obtain ⟨o, ho, ho2⟩ := List.mem_flatMap.mp hx; exact hd.2 o ho x ho2
    | ife a b c d =>
      have hx : x ∈ a.ns ++ (b.ns ++ (c.ns ++ d.ns)) := hx
      simp only [List.mem_append] at hx
      rcases hx with q | q | q | q
      · exact hd a (by simp) x q
      · exact hd b (by simp) x q
      · exact hd c (by simp) x q
      · exact hd d (by simp) x q)
  cases s with
  | set x d => exact okd_tup3 (okd_str h10) (okd_str (hk x h.1)) (okd_df d n (dk d h.2))
  | add x o => exact okd_tup3 (okd_str h11) (okd_str (hk x h.1)) (okd_opd fun y hy => hk y (h.2 y hy))
  | sel x => exact okd_tup2 (okd_str h12) (okd_str (hk x h))
theorem Lay.okd {B : Book} {ss : List Stp} (S : Small B) (L : Lay B ss) (x : Str) : okdL ((tch ss x).map Stp.e) 59 = true := okdL_map fun s hs => okd_stp _ S.ok.sk s (L.ok s (List.mem_filter.mp hs).1).1 56
theorem strsOf_map : ∀ ns : List Str, strsOf (ns.map D.str) = some ns
  | [] => rfl
  | i :: r => by
    show (match strsOf (r.map D.str) with | some ns => some (i :: ns) | none => none) = _
    rw [strsOf_map r]
theorem sorted_eq (t : Nat) (ns : List Str) (h : ns.length < 64) : dSorted 0 (.lst t (ns.map .str)) = some (.own 0 ((sortS ns).map .str)) := by
  unfold dSorted
  dsimp only
  rw [strsOf_map]
  dsimp only
  rw [if_pos h]
def touchedOf (B : Book) (T : Str → List Stp) : List D := ((sortS (B.rows.map Row.nm)).filter fun x => !(T x).isEmpty).map .str
theorem touched_eq {B : Book} {ss : List Stp} (S : Small B) (hl : B.rows.length < 64) (L : Lay B ss) (x : D) (u : Nat) : F_touched 0 [.ins 0 [.lst 0 (B.rows.map Row.e), x], .lst u (ss.map Stp.e)] = some (.own 0 (touchedOf B (tch ss))) := by
  have h1 := names_eq B.rows x
  have h2 := behind_eq S L x u
  have h3 := sorted_eq 0 (B.rows.map Row.nm) (by rw [List.length_map]; exact hl)
  have h4 : lcRun [2] (gNam 2) (FD.t (FE.d (fOp2 sNe ((FE.d (fCall 2 F_touching 0 (fCons ((fVar 1)) (fCons ((fVar 2)) fNil))))) ((FE.d (fLst 0 fNil)))))) ((fVar 2)) ((sortS (B.rows.map Row.nm)).map .str) [.sh (.ins 0 [.lst 0 (B.rows.map Row.e), x]), .sh (.lst u (ss.map Stp.e)), .non] = some (touchedOf B (tch ss), [.sh (.ins 0 [.lst 0 (B.rows.map Row.e), x]), .sh (.lst u (ss.map Stp.e)), .non]) := by
    refine lc_map D.str (fun y => !(tch ss y).isEmpty) D.str _ fun y hy => ?_
    have q1 := touching_eq u ss y
    have q2 : sNe (.lst 0 ((tch ss y).map Stp.e)) (.lst 0 []) = some (.sh (.bl (!(tch ss y).isEmpty))) := by
      rw [sNe_nil (L.okd S y)]
      cases tch ss y <;> rfl
    apply lcs
    (with_reducible apply g_nam'; exact st2; apply r_t; apply r_d; apply r_op2; apply r_d; apply r_call; apply r_cons; apply r_var); exact rfl; exact rfl
    (with_reducible exact st1; apply r_cons; apply r_var); exact rfl; exact rfl; (with_reducible exact st2; apply r_nil); exact rfl; (with_reducible assumption); exact rfl
    (with_reducible apply r_d; apply r_lst; apply r_nil); exact Nat.le_of_ble_eq_true rfl; exact rfl; (with_reducible assumption); exact rfl; (with_reducible apply r_var); exact rfl; exact rfl
    (with_reducible exact st2); exact wp2
  unfold F_touched fb_touched
  apply rf_3_2
  (with_reducible apply r_then; apply r_expr; apply r_d; apply r_call; apply r_cons; apply r_var); exact rfl; exact rfl; (with_reducible exact st0; apply r_cons; apply r_var); exact rfl
  exact rfl; (with_reducible exact st1; apply r_nil); exact rfl; (with_reducible assumption); exact rfl
  (with_reducible apply c_nx; apply r_then; apply r_ret; apply r_lc; apply r_seq; apply r_d; apply r_op1; apply r_d; apply r_meth; apply r_var); exact rfl; exact rfl
  (with_reducible exact st0; apply r_nil); exact rfl; (with_reducible assumption); exact rfl; (with_reducible assumption); exact rfl; exact rfl; exact wp2
  (with_reducible assumption; apply c_ret)
end Ev

set_option Elab.async false
set_option linter.all false
set_option maxRecDepth 100000
set_option maxHeartbeats 1000000
namespace Ev
open PySem L2
theorem atI_last {α : Type} (xs : List α) (a : α) : atI (xs ++ [a]) (-1) = some a := by
  unfold atI ixN
  rw [if_neg (by omega)]
  have h : (xs ++ [a]).length = xs.length + 1 := by simp
  rw [h, if_pos (by omega)]
  show (xs ++ [a])[(-1 + ((xs.length + 1 : Nat) : Int)).toNat]? = some a
  have : (-1 + ((xs.length + 1 : Nat) : Int)).toNat = xs.length := by omega
  rw [this]
  simp
def Stp.od : Stp → Opd
  | .add _ o => o
  | _ => .n 0
def Stp.dd : Stp → Dfn
  | .set _ d => d
  | _ => .num 0
/-- the one row of a plain layer -/
def plS (f : Str → Int) (r : Row) (T : List Stp) : Stp := match r.pm with
  | .free _ _ _ => .set r.nm (.num (f r.nm))
  | .choice _ => .set r.nm ((T.getLast?.map Stp.dd).getD (.num 0))
  | _ => .add r.nm (.n (match r.df with
    | .mn _ => mnv (T.map fun s => opv f s.od)
    | _ => mxv (T.map fun s => opv f s.od)))
theorem plainRow_ok {names : List Str} (hk : Sk names) (r : Row) (hr : r.ok names) (T : List Stp) (hT : T ≠ []) (hs : ∀ s ∈ T, s.isSeal = false ∧ allowed r.pm s ∧ s.ok names) (fd : Fd) (f : Str → Int) (hf : lkp fd r.nm = some (f r.nm)) (hn : ∀ x ∈ names, lkp fd x = some (f x)) :
    F_plain_row 0 [.tup [.str r.nm, r.pm.e, r.df.e], .lst 0 (T.map Stp.e), .dct 1 (kF fd) (vF fd)] = some (.sh (plS f r T).e) := by
  obtain ⟨nm, pm, df⟩ := r
  unfold F_plain_row fb_plain_row
  have hs : ∀ s ∈ T, s.isSeal = false ∧ allowed pm s ∧ s.ok names := hs
  have hr : (Row.mk nm pm df).ok names := hr
  cases pm with
  | sealed lo hi =>
    exfalso
    cases T with
    | nil => exact hT rfl
    | cons s r =>
      obtain ⟨a, b, _⟩ := hs s List.mem_cons_self
      cases s with
      | set y d => rcases b with ⟨_, _, q, _⟩ | ⟨_, _, _, q, _⟩ <;> cases q
      | add y o => obtain ⟨_, q, _⟩ := b; cases q
      | sel y => cases a
  | free lo hi ns =>
    have q := dIG_fd (t := 1) hf
    show runF _ _ [.tup [.str nm, .tup [.str "free", oI lo, oI hi, nmL ns], df.e], _, _] = some (.sh (.tup [.str "set", .str nm, .tup [.str "number", .int (f nm)]]))
    apply rf_7_3
    (with_reducible apply r_then; apply r_par; apply r_ixP; apply r_see); exact rfl; exact rfl; (with_reducible apply r_lit; apply r_see); exact rfl; exact rfl
    (with_reducible apply o_igT; apply at0; apply r_ix; apply r_d; apply r_ixP; apply r_see); exact rfl; exact rfl; (with_reducible apply r_lit; apply r_see); exact rfl; exact rfl
    (with_reducible apply o_igT; apply at1); exact rfl; (with_reducible apply r_lit; apply o_igT; apply at0)
    simp only [envOf, wipeG, List.set_cons_zero, List.set_cons_succ, List.map_cons, List.map_nil, List.cons_append, List.nil_append, List.length_cons, List.length_nil, Nat.reduceAdd, Nat.reduceSub, List.replicate_succ, List.replicate_zero, Sl.with, List.set_nil]
    exact rfl; (with_reducible apply c_nx; apply r_then; apply r_if; apply r_t; apply r_d; apply r_op2P; apply r_see); exact rfl; exact rfl; (with_reducible apply r_lit; apply r_see); exact rfl
    exact rfl; exact rfl; exact rfl; (with_reducible apply c_t); decide +kernel
    (with_reducible apply r_then; apply r_ret; apply r_toE; apply r_tup; apply r_cons; apply r_lit; apply r_cons; apply r_var); exact rfl; exact rfl
    (with_reducible exact st3; apply r_cons; apply r_tup; apply r_cons; apply r_lit; apply r_cons; apply r_d; apply r_ixP; apply r_see); exact rfl; exact rfl; (with_reducible apply r_see)
    exact rfl; exact rfl; (with_reducible apply r_see); exact rfl; exact rfl; (with_reducible assumption); exact rfl; (with_reducible apply r_nil); exact Nat.le_of_ble_eq_true rfl
    (with_reducible apply r_nil); exact Nat.le_of_ble_eq_true rfl; (with_reducible apply c_ret; apply c_ret)
  | choice ns =>
    obtain ⟨T', s, rfl⟩ : ∃ T' s, T = T' ++ [s] := ⟨T.dropLast, T.getLast hT, (List.dropLast_concat_getLast hT).symm⟩
    obtain ⟨a, b, c⟩ := hs s (by simp)
    cases s with
    | sel y => cases a
    | add y o => obtain ⟨_, q, _⟩ := b; cases q
    | set y d =>
      rcases b with ⟨ns', x, e, hx, rfl⟩ | ⟨_, _, _, q, _⟩
      · have q : atI ((T' ++ [Stp.set y (.plus x 0)]).map Stp.e) (-1) = some (.tup [.str "set", .str y, .tup [.str "plus", .str x, .int 0]]) := by
          rw [List.map_append]
          exact atI_last _ _
        have e9 : (plS f ⟨nm, .choice ns, df⟩ (T' ++ [Stp.set y (.plus x 0)])).e = .tup [.str "set", .str nm, .tup [.str "plus", .str x, .int 0]] := by
          unfold plS
          simp only [List.getLast?_append, List.getLast?_singleton]
          rfl
        rw [e9]
        show runF _ _ [.tup [.str nm, .tup [.str "choice", nmL ns], df.e], _, _] = _
        apply rf_7_3
        (with_reducible apply r_then; apply r_par; apply r_ixP; apply r_see); exact rfl; exact rfl; (with_reducible apply r_lit; apply r_see); exact rfl; exact rfl
        (with_reducible apply o_igT; apply at0; apply r_ix; apply r_d; apply r_ixP; apply r_see); exact rfl; exact rfl; (with_reducible apply r_lit; apply r_see); exact rfl; exact rfl
        (with_reducible apply o_igT; apply at1); exact rfl; (with_reducible apply r_lit; apply o_igT; apply at0)
        simp only [envOf, wipeG, List.set_cons_zero, List.set_cons_succ, List.map_cons, List.map_nil, List.cons_append, List.nil_append, List.length_cons, List.length_nil, Nat.reduceAdd, Nat.reduceSub, List.replicate_succ, List.replicate_zero, Sl.with, List.set_nil]
        exact rfl; (with_reducible apply c_nx; apply r_then; apply r_if; apply r_t; apply r_d; apply r_op2P; apply r_see); exact rfl; exact rfl; (with_reducible apply r_lit; apply r_see); exact rfl
        exact rfl; exact rfl; exact rfl; (with_reducible apply c_f); decide +kernel
        (with_reducible apply r_skip; apply c_nx; apply r_then; apply r_if; apply r_t; apply r_d; apply r_op2P; apply r_see); exact rfl; exact rfl; (with_reducible apply r_lit; apply r_see)
        exact rfl; exact rfl; exact rfl; exact rfl; (with_reducible apply c_t); decide +kernel
        (with_reducible apply r_then; apply r_ret; apply r_toE; apply r_tup; apply r_cons; apply r_lit; apply r_cons; apply r_var); exact rfl; exact rfl
        (with_reducible exact st3; apply r_cons; apply r_d; apply r_ix; apply r_d; apply r_ixP; apply r_see); exact rfl; exact rfl; (with_reducible apply r_d; apply r_op1; apply r_lit); exact rfl
        exact rfl; (with_reducible apply r_see); exact rfl; exact rfl; (with_reducible apply o_igL; assumption); exact rfl; (with_reducible apply r_lit; apply o_igT; apply at2); exact rfl
        (with_reducible apply r_nil); exact Nat.le_of_ble_eq_true rfl; (with_reducible apply c_ret; apply c_ret)
      · cases q
  | extend ns =>
    have hadd : ∀ s ∈ T, ∃ y, s = .add y s.od ∧ ∀ x ∈ s.od.ns, lkp fd x = some (f x) := fun s h => by
      obtain ⟨a, b, c⟩ := hs s h
      cases s with
      | set y d => rcases b with ⟨_, _, q, _⟩ | ⟨_, _, _, q, _⟩ <;> cases q
      | sel y => cases a
      | add y o => exact ⟨y, rfl, fun x hx => hn x (c.2 x hx)⟩
    have l : ∀ (dd : D), lcRun [6] (gNam 6) fYes ((FE.d (fIte ((FD.t (FE.d (fCall 1 F_is_whole 0 (fCons ((FE.d (fAlt (fOp2P dIx 6 ((fLit (.int 2)))) (fOp2P dGet 6 ((fLit (.int 2))))))) fNil))))) (fAlt (fOp2P dIx 6 ((fLit (.int 2)))) (fOp2P dGet 6 ((fLit (.int 2))))) (fAlt (fOp2P dIx 2 ((FE.d (fAlt (fOp2P dIx 6 ((fLit (.int 2)))) (fOp2P dGet 6 ((fLit (.int 2)))))))) (fOp2P dGet 2 ((FE.d (fAlt (fOp2P dIx 6 ((fLit (.int 2)))) (fOp2P dGet 6 ((fLit (.int 2))))))))))))
        (T.map Stp.e) [.sh dd, .sh (.lst 0 (T.map Stp.e)), .sh (.dct 1 (kF fd) (vF fd)), .sh (.str nm), .sh (.str "extend"), .non, .non] = some ((T.map fun s => opv f s.od).map D.int, [.sh dd, .sh (.lst 0 (T.map Stp.e)), .sh (.dct 1 (kF fd) (vF fd)), .sh (.str nm), .sh (.str "extend"), .non, .non]) := fun dd => by
      rw [List.map_map]
      refine lc_every (enc := Stp.e) _ fun s h => ?_
      obtain ⟨y, e, hx⟩ := hadd s h
      show LcStep _ _ _ _ _ _ _ (.int (opv f s.od))
      rw [e]
      cases eo : s.od with
      | n i =>
        show LcStep _ _ _ _ _ (.tup [.str "add", .str y, .int i]) _ (.int i)
        apply lcs_t
        (with_reducible apply g_nam'; exact st6; apply r_yes; apply r_d; apply r_ite; apply r_t; apply r_d; apply r_call; apply r_cons; apply r_d; apply r_ixP; apply r_see); exact rfl; exact rfl
        (with_reducible apply r_lit; apply r_see); exact rfl; exact rfl; (with_reducible apply o_igT; apply at2); exact rfl; (with_reducible apply r_nil); exact rfl
        (with_reducible exact isWhole_eq _ _); exact rfl; (with_reducible apply c_t; rfl; apply r_ixP; apply r_see); exact rfl; exact rfl; (with_reducible apply r_lit; apply r_see); exact rfl
        exact rfl; (with_reducible apply o_igT; apply at2); exact rfl; exact wp6
      | v x =>
        have q := dIG_fd (t := 1) (hx x (by rw [eo]; exact List.mem_cons_self))
        show LcStep _ _ _ _ _ (.tup [.str "add", .str y, .str x]) _ (.int (f x))
        apply lcs_t
        (with_reducible apply g_nam'; exact st6; apply r_yes; apply r_d; apply r_ite; apply r_t; apply r_d; apply r_call; apply r_cons; apply r_d; apply r_ixP; apply r_see); exact rfl; exact rfl
        (with_reducible apply r_lit; apply r_see); exact rfl; exact rfl; (with_reducible apply o_igT; apply at2); exact rfl; (with_reducible apply r_nil); exact rfl
        (with_reducible exact isWhole_eq _ _); exact rfl; (with_reducible apply c_f; rfl; apply r_ixP; apply r_see); exact rfl; exact rfl; (with_reducible apply r_d; apply r_ixP; apply r_see)
        exact rfl; exact rfl; (with_reducible apply r_lit; apply r_see); exact rfl; exact rfl; (with_reducible apply o_igT; apply at2); exact rfl; (with_reducible apply r_see); exact rfl; exact rfl
        (with_reducible assumption); exact rfl; exact wp6
    obtain ⟨_, _, os, ed⟩ := hr.2
    rcases ed with rfl | rfl
    · have l1 := l (.tup [.str nm, .tup [.str "extend", nmL ns], .tup [.str "max", opL os]])
      have hm := dMax_v 0 (ns := T.map fun s => opv f s.od) (by simpa using hT)
      show runF _ _ [.tup [.str nm, .tup [.str "extend", nmL ns], .tup [.str "max", opL os]], _, _] = some (.sh (.tup [.str "add", .str nm, .int (mxv (T.map fun s => opv f s.od))]))
      apply rf_7_3
      (with_reducible apply r_then; apply r_par; apply r_ixP; apply r_see); exact rfl; exact rfl; (with_reducible apply r_lit; apply r_see); exact rfl; exact rfl
      (with_reducible apply o_igT; apply at0; apply r_ix; apply r_d; apply r_ixP; apply r_see); exact rfl; exact rfl; (with_reducible apply r_lit; apply r_see); exact rfl; exact rfl
      (with_reducible apply o_igT; apply at1); exact rfl; (with_reducible apply r_lit; apply o_igT; apply at0)
      simp only [envOf, wipeG, List.set_cons_zero, List.set_cons_succ, List.map_cons, List.map_nil, List.cons_append, List.nil_append, List.length_cons, List.length_nil, Nat.reduceAdd, Nat.reduceSub, List.replicate_succ, List.replicate_zero, Sl.with, List.set_nil]
      exact rfl; (with_reducible apply c_nx; apply r_then; apply r_if; apply r_t; apply r_d; apply r_op2P; apply r_see); exact rfl; exact rfl; (with_reducible apply r_lit; apply r_see); exact rfl
      exact rfl; exact rfl; exact rfl; (with_reducible apply c_f); decide +kernel
      (with_reducible apply r_skip; apply c_nx; apply r_then; apply r_if; apply r_t; apply r_d; apply r_op2P; apply r_see); exact rfl; exact rfl; (with_reducible apply r_lit; apply r_see)
      exact rfl; exact rfl; exact rfl; exact rfl; (with_reducible apply c_f); decide +kernel
      (with_reducible apply r_skip; apply c_nx; apply r_then; apply r_set; apply r_lc; apply r_seq; apply r_var); exact rfl; exact rfl; (with_reducible exact st1); exact rfl; exact wp6
      (with_reducible assumption; exact st5; apply c_nx; apply r_then; apply r_ret; apply r_toE; apply r_tup; apply r_cons; apply r_lit; apply r_cons; apply r_var); exact rfl; exact rfl
      (with_reducible exact st3; apply r_cons; apply r_d; apply r_ite; apply r_t; apply r_d; apply r_op2; apply r_d; apply r_ix; apply r_d; apply r_ixP; apply r_see); exact rfl; exact rfl
      (with_reducible apply r_lit; apply r_see); exact rfl; exact rfl; (with_reducible apply o_igT; apply at2); exact rfl; (with_reducible apply r_lit; apply o_igT; apply at0); exact rfl
      (with_reducible apply r_lit); exact rfl; exact rfl; (with_reducible apply c_t); decide +kernel; (with_reducible apply r_op1; apply r_see); exact rfl; exact rfl; (with_reducible assumption)
      exact rfl; (with_reducible apply r_nil); exact Nat.le_of_ble_eq_true rfl; (with_reducible apply c_ret)
    · have l1 := l (.tup [.str nm, .tup [.str "extend", nmL ns], .tup [.str "min", opL os]])
      have hm := dMin_v 0 (ns := T.map fun s => opv f s.od) (by simpa using hT)
      show runF _ _ [.tup [.str nm, .tup [.str "extend", nmL ns], .tup [.str "min", opL os]], _, _] = some (.sh (.tup [.str "add", .str nm, .int (mnv (T.map fun s => opv f s.od))]))
      apply rf_7_3
      (with_reducible apply r_then; apply r_par; apply r_ixP; apply r_see); exact rfl; exact rfl; (with_reducible apply r_lit; apply r_see); exact rfl; exact rfl
      (with_reducible apply o_igT; apply at0; apply r_ix; apply r_d; apply r_ixP; apply r_see); exact rfl; exact rfl; (with_reducible apply r_lit; apply r_see); exact rfl; exact rfl
      (with_reducible apply o_igT; apply at1); exact rfl; (with_reducible apply r_lit; apply o_igT; apply at0)
      simp only [envOf, wipeG, List.set_cons_zero, List.set_cons_succ, List.map_cons, List.map_nil, List.cons_append, List.nil_append, List.length_cons, List.length_nil, Nat.reduceAdd, Nat.reduceSub, List.replicate_succ, List.replicate_zero, Sl.with, List.set_nil]
      exact rfl; (with_reducible apply c_nx; apply r_then; apply r_if; apply r_t; apply r_d; apply r_op2P; apply r_see); exact rfl; exact rfl; (with_reducible apply r_lit; apply r_see); exact rfl
      exact rfl; exact rfl; exact rfl; (with_reducible apply c_f); decide +kernel
      (with_reducible apply r_skip; apply c_nx; apply r_then; apply r_if; apply r_t; apply r_d; apply r_op2P; apply r_see); exact rfl; exact rfl; (with_reducible apply r_lit; apply r_see)
      exact rfl; exact rfl; exact rfl; exact rfl; (with_reducible apply c_f); decide +kernel
      (with_reducible apply r_skip; apply c_nx; apply r_then; apply r_set; apply r_lc; apply r_seq; apply r_var); exact rfl; exact rfl; (with_reducible exact st1); exact rfl; exact wp6
      (with_reducible assumption; exact st5; apply c_nx; apply r_then; apply r_ret; apply r_toE; apply r_tup; apply r_cons; apply r_lit; apply r_cons; apply r_var); exact rfl; exact rfl
      (with_reducible exact st3; apply r_cons; apply r_d; apply r_ite; apply r_t; apply r_d; apply r_op2; apply r_d; apply r_ix; apply r_d; apply r_ixP; apply r_see); exact rfl; exact rfl
      (with_reducible apply r_lit; apply r_see); exact rfl; exact rfl; (with_reducible apply o_igT; apply at2); exact rfl; (with_reducible apply r_lit; apply o_igT; apply at0); exact rfl
      (with_reducible apply r_lit); exact rfl; exact rfl; (with_reducible apply c_f); decide +kernel; (with_reducible apply r_op1; apply r_see); exact rfl; exact rfl; (with_reducible assumption)
      exact rfl; (with_reducible apply r_nil); exact Nat.le_of_ble_eq_true rfl; (with_reducible apply c_ret)
/-- the plain layer of a book and a layer -/
def plainS (B : Book) (ss : List Stp) : List Stp := (B.rows.filter fun r => !(tch ss r.nm).isEmpty).map fun r => plS (semV (B.aft ss)) r (tch ss r.nm)
theorem Lay.tchs {B : Book} {ss : List Stp} (L : Lay B ss) (r : Row) (hr : r ∈ B.rows) : ∀ s ∈ tch ss r.nm, s.isSeal = false ∧ allowed r.pm s ∧ s.ok (B.rows.map Row.nm) := fun s hs => by
  obtain ⟨a, b⟩ := List.mem_filter.mp hs
  simp only [Bool.and_eq_true, Bool.not_eq_true', decide_eq_true_eq] at b
  exact ⟨b.1, al_pm ss r (L.al r hr) s a b.2 b.1, (L.ok s a).1⟩
theorem Lay.prow {B : Book} {ss : List Stp} (S : Small B) (L : Lay B ss) {fd : Fd} (V : Vals (B.aft ss) fd) (r : Row) (hr : r ∈ B.rows) (hT : tch ss r.nm ≠ []) : F_plain_row 0 [.tup [.str r.nm, r.pm.e, r.df.e], .lst 0 ((tch ss r.nm).map Stp.e), .dct 1 (kF fd) (vF fd)] = some (.sh (plS (semV (B.aft ss)) r (tch ss r.nm)).e) := by
  have hall : ∀ x ∈ B.rows.map Row.nm, lkp fd x = some (semV (B.aft ss) x) := fun x hx => by
    rw [← aft_names B ss] at hx
    obtain ⟨r0, h0, rfl⟩ := List.mem_map.mp hx
    exact V.I.at (V.all r0 h0)
  exact plainRow_ok S.ok.sk r (S.ok.ok r hr) (tch ss r.nm) hT (L.tchs r hr) fd _ (hall _ (List.mem_map_of_mem hr)) hall
theorem plain_loop {B : Book} {ss : List Stp} (S : Small B) (L : Lay B ss) {fd : Fd} (V : Vals (B.aft ss) fd) (b : D) (u : Nat) : ∀ (suf : List Row) (acc : List D) (s2 s4 s5 : Sl), (∀ r ∈ suf, r ∈ B.rows) → acc.length + suf.length < 1000 → s2.toD = some (.dct 1 (kF fd) (vF fd)) →
    ∃ s2' s4' s5', forRun (gNam 4) (lb_plain_0 0) (suf.map Row.e) [.sh b, .sh (.lst u (ss.map Stp.e)), s2, .own 0 acc, s4, s5] = some (.nx, [.sh b, .sh (.lst u (ss.map Stp.e)), s2', .own 0 (acc ++ (suf.filter fun r => !(tch ss r.nm).isEmpty).map (fun r => (plS (semV (B.aft ss)) r (tch ss r.nm)).e)), s4', s5'])
  | [], acc, s2, s4, s5, _, _, _ => ⟨s2, s4, s5, by simp; rfl⟩
  | r :: rs, acc, s2, s4, s5, hs, hl, h2 => by
    have q1 := touching_eq u ss r.nm
    have q2 : sNe (.lst 0 ((tch ss r.nm).map Stp.e)) (.lst 0 []) = some (.sh (.bl (!(tch ss r.nm).isEmpty))) := by
      rw [sNe_nil (L.okd S r.nm)]
      cases tch ss r.nm <;> rfl
    have hl2 : acc.length < lim := by unfold lim; omega
    rw [List.map_cons]
    show ∃ s2' s4' s5', forRun _ _ (.tup [.str r.nm, r.pm.e, r.df.e] :: _) _ = _
    by_cases hT : tch ss r.nm = []
    · have e : (!(tch ss r.nm).isEmpty) = false := by rw [hT]; rfl
      rw [e] at q2
      obtain ⟨s2', s4', s5', ih⟩ := plain_loop S L V b u rs acc s2 (.sh (.tup [.str r.nm, r.pm.e, r.df.e])) (.own 0 ((tch ss r.nm).map Stp.e)) (fun r hr => hs r (List.mem_cons_of_mem _ hr)) (by simp only [List.length_cons] at hl; omega) h2
      refine ⟨s2', s4', s5', ?_⟩
      rw [List.filter_cons, if_neg (by rw [e]; decide)]
      apply fr_cons
      (with_reducible apply g_nam'; exact st4); unfold lb_plain_0; (with_reducible apply r_then; apply r_set; apply r_call; apply r_cons; apply r_var); exact rfl; exact rfl
      (with_reducible exact st1; apply r_cons; apply r_d; apply r_ixP; apply r_see); exact rfl; exact rfl; (with_reducible apply r_lit; apply r_see); exact rfl; exact rfl
      (with_reducible apply o_igT; apply at0); exact rfl; (with_reducible apply r_nil); exact rfl
      (with_reducible assumption; exact st5; apply c_nx; apply r_then; apply r_if; apply r_t; apply r_d; apply r_op2P; apply r_see); exact rfl; exact rfl
      (with_reducible apply r_d; apply r_lst; apply r_nil); exact Nat.le_of_ble_eq_true rfl; exact rfl; (with_reducible apply r_see); exact rfl; exact rfl; (with_reducible assumption); exact rfl
      (with_reducible apply c_f; rfl; apply r_skip; apply c_nx; apply r_skip; apply c_nx; assumption)
    · have e : (!(tch ss r.nm).isEmpty) = true := by cases z : tch ss r.nm with
        | nil => exact (hT z).elim
        | cons a c => rfl
      rw [e] at q2
      have q3 := L.prow S V r (hs r List.mem_cons_self) hT
      obtain ⟨s2', s4', s5', ih⟩ := plain_loop S L V b u rs (acc ++ [(plS (semV (B.aft ss)) r (tch ss r.nm)).e]) (.sh (.dct 1 (kF fd) (vF fd))) (.sh (.tup [.str r.nm, r.pm.e, r.df.e])) (.sh (.lst 0 ((tch ss r.nm).map Stp.e))) (fun r hr => hs r (List.mem_cons_of_mem _ hr)) (by simp only [List.length_cons] at hl; simp; omega) rfl
      refine ⟨s2', s4', s5', ?_⟩
      rw [List.filter_cons, if_pos e, List.map_cons]
      rw [List.append_assoc] at ih
      apply fr_cons
      (with_reducible apply g_nam'; exact st4); unfold lb_plain_0; (with_reducible apply r_then; apply r_set; apply r_call; apply r_cons; apply r_var); exact rfl; exact rfl
      (with_reducible exact st1; apply r_cons; apply r_d; apply r_ixP; apply r_see); exact rfl; exact rfl; (with_reducible apply r_lit; apply r_see); exact rfl; exact rfl
      (with_reducible apply o_igT; apply at0); exact rfl; (with_reducible apply r_nil); exact rfl
      (with_reducible assumption; exact st5; apply c_nx; apply r_then; apply r_if; apply r_t; apply r_d; apply r_op2P; apply r_see); exact rfl; exact rfl
      (with_reducible apply r_d; apply r_lst; apply r_nil); exact Nat.le_of_ble_eq_true rfl; exact rfl; (with_reducible apply r_see); exact rfl; exact rfl; (with_reducible assumption); exact rfl
      (with_reducible apply c_t; rfl; apply r_then; apply r_app); exact rfl; exact rfl; (with_reducible apply r_d; apply r_call; apply r_cons; apply r_var); exact rfl; exact rfl
      (with_reducible exact st4; apply r_cons; apply r_var); exact rfl; exact rfl; (with_reducible exact st5; apply r_cons; apply r_var); exact rfl
      (with_reducible assumption; exact st2; apply r_nil); exact rfl; (with_reducible assumption); exact rfl; exact rfl; exact rfl
      (with_reducible assumption; exact so3; apply c_nx; apply r_skip; apply c_nx; apply r_skip; apply c_nx)
      exact ih
theorem plain_eq {B : Book} {ss : List Stp} (S : Small B) (L : Lay B ss) {fd : Fd} (V : Vals (B.aft ss) fd) (x : D) (u : Nat) : F_plain 0 [.ins 0 [.lst 0 (B.rows.map Row.e), x], .lst u (ss.map Stp.e)] = some (.own 0 ((plainS B ss).map Stp.e)) := by
  have h1 := behind_eq S L x u
  have h2 := V.eq
  obtain ⟨s2', s4', s5', h3⟩ := plain_loop S L V (.ins 0 [.lst 0 (B.rows.map Row.e), x]) u B.rows [] (.ownD 1 (kF fd) (vF fd)) .non .non (fun _ h => h) (by have := S.ok.len; simp; omega) rfl
  unfold F_plain fb_plain plainS
  rw [List.nil_append] at h3
  rw [List.map_map]
  apply rf_6_2
  (with_reducible apply r_then; apply r_set; apply r_call; apply r_cons; apply r_d; apply r_call; apply r_cons; apply r_var); exact rfl; exact rfl
  (with_reducible exact st0; apply r_cons; apply r_var); exact rfl; exact rfl; (with_reducible exact st1; apply r_nil); exact rfl; (with_reducible assumption); exact rfl
  (with_reducible apply r_nil); exact rfl; (with_reducible assumption; exact st2; apply c_nx; apply r_then; apply r_set; apply r_lst; apply r_nil); exact Nat.le_of_ble_eq_true rfl
  (with_reducible exact st3; apply c_nx; apply r_then; apply r_for; apply r_seq; apply r_d; apply r_op1; apply r_var); exact rfl; exact rfl; (with_reducible exact st0); exact rfl; exact rfl
  exact rfl; (with_reducible assumption; apply c_nx; apply r_then; apply r_ret; apply r_move_own); exact rfl; (with_reducible exact st3); exact rfl
end Ev

set_option Elab.async false
set_option linter.all false
set_option maxRecDepth 100000
set_option maxHeartbeats 1000000
namespace Ev
open PySem L2
/-! ### the purse -/
def Pu (T : Nat) (xs : List D) : Prop := ∃ a b c d : Int, xs = [.int a, .int b, .int c, .int d] ∧ 0 ≤ a ∧ 0 ≤ c ∧ c ≤ T
theorem Pu.mono {T U : Nat} {xs : List D} (h : Pu T xs) (l : T ≤ U) : Pu U xs := by
  obtain ⟨a, b, c, d, e, h1, h2, h3⟩ := h
  exact ⟨a, b, c, d, e, h1, h2, by omega⟩
def big : Nat := 1000000000
theorem mixed_ok (a c : Int) (b : Int) (h1 : 0 ≤ b) (h2 : b ≤ 2 * big) : ∃ r, F_law_mixed 0 [.int a, .int b, .int c] = some (.sh (.int r)) := by
  have h2 : b ≤ 2000000000 := h2
  have m1 := o_mul (i := a) (j := 69069) (.inr (by decide))
  have m2 := o_mul (i := 104729) (j := b) (.inl (by decide))
  have m3 := o_mul (i := 104729 * b) (j := b) (.inr (by omega))
  have m4 := o_mul (i := 7919) (j := c) (.inl (by decide))
  have m5 := o_mod (i := a * 69069 + 104729 * b * b + 7919 * c + b) (j := 2147483647) (by decide)
  have r1 := Int.emod_nonneg (a * 69069 + 104729 * b * b + 7919 * c + b) (b := 2147483647) (by decide)
  have r2 := Int.emod_lt_of_pos (a * 69069 + 104729 * b * b + 7919 * c + b) (b := 2147483647) (by decide)
  generalize (a * 69069 + 104729 * b * b + 7919 * c + b) % 2147483647 = x at m5 r1 r2
  have m6 := o_mul (i := x) (j := x) (.inr (by omega))
  have m7 := o_mod (i := x * x + 40503) (j := 2147483629) (by decide)
  generalize (x * x + 40503) % 2147483629 = y at m7
  have m8 := o_mul (i := y) (j := 48271) (.inr (by decide))
  have m9 := o_mod (i := y * 48271) (j := 2147483587) (by decide)
  refine ⟨y * 48271 % 2147483587, ?_⟩
  unfold F_law_mixed fb_law_mixed
  apply rf_4_3
  (with_reducible apply r_then; apply r_set; apply r_op2; apply r_d; apply r_op2; apply r_var); exact rfl; exact rfl; (with_reducible exact st0; apply r_lit; assumption); exact rfl
  (with_reducible apply r_d; apply r_op2; apply r_d; apply r_op2; apply r_lit; apply r_see); exact rfl; exact rfl; (with_reducible assumption); exact rfl; (with_reducible apply r_see)
  exact rfl; exact rfl; (with_reducible assumption); exact rfl; exact rfl
  (with_reducible exact st3; apply c_nx; apply r_then; apply r_set; apply r_op2; apply r_d; apply r_op2; apply r_d; apply r_op2; apply r_var); exact rfl; exact rfl
  (with_reducible exact st3; apply r_d; apply r_op2; apply r_lit; apply r_see); exact rfl; exact rfl; (with_reducible assumption); exact rfl; exact rfl; exact rfl; (with_reducible apply r_see)
  exact rfl; exact rfl; exact rfl; exact rfl
  (with_reducible apply r_lit; assumption; exact st3; apply c_nx; apply r_then; apply r_set; apply r_op2; apply r_d; apply r_op2; apply r_d; apply r_op2; apply r_var); exact rfl; exact rfl
  (with_reducible exact st3; apply r_see); exact rfl; exact rfl; (with_reducible assumption); exact rfl; (with_reducible apply r_lit); exact rfl; exact rfl
  (with_reducible apply r_lit; assumption; exact st3; apply c_nx; apply r_then; apply r_ret; apply r_op2; apply r_d; apply r_op2; apply r_var); exact rfl; exact rfl
  (with_reducible exact st3; apply r_lit; assumption); exact rfl; (with_reducible apply r_lit; assumption; apply c_ret)
theorem draw_loop (t : Nat) (a b d many : Int) (s2 : Sl) : ∀ (ds : List D) (c f : Int) (s4 : Sl), 0 ≤ c → c + ds.length ≤ 2 * big →
    ∃ f' s4', forRun (gNam 4) (lb_law_draw_0 0) ds [.bor t [.int a, .int b, .int c, .int d], .sh (.int many), s2, .sh (.int f), s4] = some (.nx, [.bor t [.int a, .int b, .int (c + ds.length), .int d], .sh (.int many), s2, .sh (.int f'), s4'])
  | [], c, f, s4, _, _ => ⟨f, s4, by simp; rfl⟩
  | x :: ds, c, f, s4, h0, h => by
    simp only [List.length_cons] at h
    obtain ⟨r, hr⟩ := mixed_ok b d (c + 1) (by omega) (by omega)
    have m1 := o_mul (i := f) (j := 2147483587) (.inr (by decide))
    obtain ⟨f', s4', ih⟩ := draw_loop t a b d many s2 ds (c + 1) (f * 2147483587 + r) (.sh x) (by omega) (by omega)
    refine ⟨f', s4', ?_⟩
    have e : c + ((x :: ds).length : Nat) = c + 1 + (ds.length : Nat) := by simp only [List.length_cons]; omega
    rw [e]
    apply fr_cons
    (with_reducible apply g_nam'; exact st4); unfold lb_law_draw_0; (with_reducible apply r_then; apply r_setI); exact rfl; exact rfl
    (with_reducible apply r_d; apply r_op2; apply r_d; apply r_ixP; apply r_see); exact rfl; exact rfl; (with_reducible apply r_lit; apply r_see); exact rfl; exact rfl
    (with_reducible apply o_igL; apply at2); exact rfl; (with_reducible apply r_lit); exact rfl; exact rfl; (with_reducible apply r_lit); exact rfl; exact rfl; exact rfl
    (with_reducible exact sb0; apply c_nx; apply r_then; apply r_set; apply r_op2; apply r_d; apply r_op2; apply r_var); exact rfl; exact rfl; (with_reducible exact st3; apply r_lit; assumption)
    exact rfl; (with_reducible apply r_d; apply r_call; apply r_cons; apply r_d; apply r_ixP; apply r_see); exact rfl; exact rfl; (with_reducible apply r_lit; apply r_see); exact rfl; exact rfl
    (with_reducible apply o_igL); exact rfl; exact rfl; (with_reducible apply r_cons; apply r_d; apply r_ixP; apply r_see); exact rfl; exact rfl; (with_reducible apply r_lit; apply r_see)
    exact rfl; exact rfl; (with_reducible apply o_igL); exact rfl; exact rfl; (with_reducible apply r_cons; apply r_d; apply r_ixP; apply r_see); exact rfl; exact rfl
    (with_reducible apply r_lit; apply r_see); exact rfl; exact rfl; (with_reducible apply o_igL); exact rfl; exact rfl; (with_reducible apply r_nil); exact rfl; (with_reducible assumption)
    exact rfl; exact rfl; (with_reducible exact st3; apply c_nx; apply r_skip; apply c_nx)
    exact ih
theorem bits_le {x : Int} {m : Nat} (h : x.natAbs < 2 ^ m) : Builtin.Int.intBits x ≤ m := by
  unfold Builtin.Int.intBits
  split
  · exact Nat.zero_le _
  · rename_i ne
    have n0 : x.natAbs ≠ 0 := by
      intro q
      exact ne (by simp [Int.natAbs_eq_zero.mp q])
    exact (Nat.log2_lt n0).mpr h
theorem draw_ok {T : Nat} (hT : T ≤ big) {many : Int} (h1 : 1 ≤ many) (h2 : many < 2 ^ 200) (t : Nat) {xs : List D} (hp : Pu T xs) : ∃ r xs', F_law_draw 0 t xs [.int many] = some (.sh (.int r), xs') ∧ 0 ≤ r ∧ r < many ∧ Pu (T + 8) xs' := by
  obtain ⟨a, b, c, d, rfl, h3, h4, h5⟩ := hp
  unfold F_law_draw fb_law_draw
  by_cases ha : 0 < a
  · have q1 : decide (0 < a) = true := decide_eq_true ha
    have m1 := o_mod (i := a) (j := many) (by omega)
    have m2 := o_div (i := a) (j := many) ⟨by omega, by have : (2 : Nat) ^ 200 ≤ 2 ^ 1000 := Nat.pow_le_pow_right (by decide) (by decide); omega⟩
    refine ⟨a % many, [.int (a / many), .int b, .int c, .int d], ?_, Int.emod_nonneg a (by omega), Int.emod_lt_of_pos a (by omega), _, _, _, _, rfl, Int.ediv_nonneg h3 (by omega), h4, by omega⟩
    apply rm_5_1
    (with_reducible apply r_then; apply r_if; apply r_t; apply r_d; apply r_op2; apply r_d; apply r_ixP; apply r_see); exact rfl; exact rfl; (with_reducible apply r_lit; apply r_see); exact rfl
    exact rfl; (with_reducible apply o_igL; apply at0); exact rfl; (with_reducible apply r_lit); exact rfl; exact rfl
    (with_reducible apply c_t; assumption; apply r_then; apply r_set; apply r_op2; apply r_d; apply r_ixP; apply r_see); exact rfl; exact rfl; (with_reducible apply r_lit; apply r_see); exact rfl
    exact rfl; (with_reducible apply o_igL; apply at0); exact rfl; (with_reducible apply r_see); exact rfl; exact rfl
    (with_reducible assumption; exact st2; apply c_nx; apply r_then; apply r_setI); exact rfl; exact rfl; (with_reducible apply r_d; apply r_op2; apply r_d; apply r_ixP; apply r_see); exact rfl
    exact rfl; (with_reducible apply r_lit; apply r_see); exact rfl; exact rfl; (with_reducible apply o_igL; apply at0); exact rfl; (with_reducible apply r_see); exact rfl; exact rfl
    (with_reducible assumption); exact rfl; (with_reducible apply r_lit); exact rfl; exact rfl; exact rfl; (with_reducible exact sb0; apply c_nx; apply r_then; apply r_ret; apply r_move_sh)
    exact rfl; (with_reducible apply c_ret; apply c_ret); exact rfl
  · have q1 : decide (0 < a) = false := decide_eq_false ha
    have hb : Builtin.Int.intBits many ≤ 200 := bits_le (by omega)
    have m1 := o_div (i := ((Builtin.Int.intBits many : Nat) : Int)) (j := 28) ⟨by decide, by decide⟩
    have n1 : 0 ≤ ((Builtin.Int.intBits many : Nat) : Int) / 28 := by omega
    have n2 : ((Builtin.Int.intBits many : Nat) : Int) / 28 ≤ 7 := by omega
    generalize ((Builtin.Int.intBits many : Nat) : Int) / 28 = k at m1 n1 n2
    have m2 : -(2 ^ 62) ≤ 1 + k ∧ 1 + k < 2 ^ 62 ∧ (1 + k).toNat ≤ lim := by unfold lim; omega
    have hlen : (rangeD 0 (1 + k).toNat).length = (1 + k).toNat := by simp [rangeD]
    have hbig : big = 1000000000 := rfl
    obtain ⟨f', s4', hl⟩ := draw_loop t a b d many .non (rangeD 0 (1 + k).toNat) c 0 .non h4 (by rw [hlen]; omega)
    have m3 := o_mod (i := f') (j := many) (by omega)
    refine ⟨f' % many, [.int a, .int b, .int (c + ((rangeD 0 (1 + k).toNat).length : Nat)), .int d], ?_, Int.emod_nonneg f' (by omega), Int.emod_lt_of_pos f' (by omega), _, _, _, _, rfl, h3, by rw [hlen]; omega, by rw [hlen]; omega⟩
    apply rm_5_1
    (with_reducible apply r_then; apply r_if; apply r_t; apply r_d; apply r_op2; apply r_d; apply r_ixP; apply r_see); exact rfl; exact rfl; (with_reducible apply r_lit; apply r_see); exact rfl
    exact rfl; (with_reducible apply o_igL; apply at0); exact rfl; (with_reducible apply r_lit); exact rfl; exact rfl
    (with_reducible apply c_f; assumption; apply r_skip; apply c_nx; apply r_then; apply r_set; apply r_toE; apply r_lit; exact st3; apply c_nx; apply r_then; apply r_for; apply r_range1; apply r_d)
    (with_reducible apply r_op2; apply r_lit; apply r_d; apply r_op2; apply r_d; apply r_op1; apply r_see); exact rfl; exact rfl; exact rfl; exact rfl; (with_reducible apply r_lit; assumption)
    exact rfl; exact rfl; exact rfl; (with_reducible assumption; assumption; apply c_nx; apply r_then; apply r_ret; apply r_op2; apply r_var); exact rfl; exact rfl
    (with_reducible exact st3; apply r_see); exact rfl; exact rfl; (with_reducible assumption; apply c_ret); exact rfl
end Ev

set_option Elab.async false
set_option linter.all false
set_option maxRecDepth 100000
set_option maxHeartbeats 1000000
namespace Ev
open PySem L2
theorem atI_in {α : Type} {xs : List α} {r : Int} (h0 : 0 ≤ r) (h1 : r < xs.length) : ∃ d ∈ xs, atI xs r = some d := by
  obtain ⟨n, rfl⟩ := Int.eq_ofNat_of_zero_le h0
  have hn : n < xs.length := by omega
  exact ⟨xs[n], List.getElem_mem hn, atI_nat (List.getElem?_eq_getElem hn)⟩
section
variable {own : List Nat} {tg : FG} {cond : FT} {elt : FD} {Γ Γ1 Γ2 Γ3 Γ4 Γ5 : Env} {d e : D} {ds es : List D}
end
theorem number_ok {T : Nat} (hT : T + 16 ≤ big) (t : Nat) {xs : List D} (hp : Pu T xs) : ∃ i xs', F_law_number 0 t xs [] = some (.sh (.int i), xs') ∧ Pu (T + 16) xs' := by
  obtain ⟨r, xs1, h1, r0, r1, p1⟩ := draw_ok (T := T) (by omega) (many := 7) (by decide) (by decide) t hp
  have q1 := o_pow (i := 10) (j := 6) ⟨by decide, by decide +kernel⟩
  have q2 := o_pow (i := 10) (j := 38) ⟨by decide, by decide +kernel⟩
  obtain ⟨d, hd, e⟩ := atI_in (xs := [D.int 4, .int 4, .int 4, .int 4, .int 100, .int (10 ^ Int.toNat 6), .int (10 ^ Int.toNat 38)]) r0 r1
  have e6 : (10 : Int) ^ Int.toNat 6 = 1000000 := by decide +kernel
  have e38 : (10 : Int) ^ Int.toNat 38 = 100000000000000000000000000000000000000 := by decide +kernel
  obtain ⟨w, rfl, w0, w1⟩ : ∃ w : Int, d = .int w ∧ 0 ≤ w ∧ w ≤ 10 ^ 38 := by
    simp only [List.mem_cons, List.not_mem_nil, or_false] at hd
    rcases hd with rfl | rfl | rfl | rfl | rfl | rfl | rfl
    · exact ⟨_, rfl, by decide, by decide⟩
    · exact ⟨_, rfl, by decide, by decide⟩
    · exact ⟨_, rfl, by decide, by decide⟩
    · exact ⟨_, rfl, by decide, by decide⟩
    · exact ⟨_, rfl, by decide, by decide⟩
    · exact ⟨_, rfl, by rw [e6]; decide, by rw [e6]; decide⟩
    · exact ⟨_, rfl, by rw [e38]; decide, by rw [e38]; decide⟩
  have q3 := o_mul (i := 2) (j := w) (.inl (by decide))
  obtain ⟨r', xs2, h2, _, _, p2⟩ := draw_ok (T := T + 8) (by omega) (many := 2 * w + 1) (by omega) (by
    have : (2 : Int) * 10 ^ 38 + 1 < 2 ^ 200 := by decide
    omega) t p1
  refine ⟨r' - w, xs2, ?_, p2.mono (by omega)⟩
  unfold F_law_number fb_law_number
  apply rm_2_0
  (with_reducible apply r_then; apply r_set; apply r_ix; apply r_d; apply r_lst; apply r_cons; apply r_lit; apply r_cons; apply r_lit; apply r_cons; apply r_lit; apply r_cons; apply r_lit; apply r_cons)
  (with_reducible apply r_lit; apply r_cons; apply r_d; apply r_op2; apply r_lit; apply r_lit; assumption); exact rfl
  (with_reducible apply r_cons; apply r_d; apply r_op2; apply r_lit; apply r_lit; assumption); exact rfl; (with_reducible apply r_nil); exact Nat.le_of_ble_eq_true rfl; exact rfl
  (with_reducible apply r_d; apply r_callM); exact rfl; exact rfl; (with_reducible apply r_cons; apply r_lit; apply r_nil); exact rfl; exact rfl; exact rfl
  (with_reducible assumption; exact sb0); exact rfl; (with_reducible apply o_igL; assumption; exact st1; apply c_nx; apply r_then; apply r_ret; apply r_op2; apply r_d; apply r_callM); exact rfl
  exact rfl; (with_reducible apply r_cons; apply r_d; apply r_op2; apply r_d; apply r_op2; apply r_lit; apply r_see); exact rfl; exact rfl; (with_reducible assumption); exact rfl
  (with_reducible apply r_lit); exact rfl; exact rfl; (with_reducible apply r_nil); exact rfl; exact rfl; exact rfl; (with_reducible assumption; exact sb0); exact rfl
  (with_reducible apply r_see); exact rfl; exact rfl; exact rfl; (with_reducible apply c_ret); exact rfl
end Ev

set_option Elab.async false
set_option linter.all false
set_option maxRecDepth 100000
set_option maxHeartbeats 1000000
namespace Ev
open PySem L2
end Ev

set_option Elab.async false
set_option linter.all false
set_option maxRecDepth 100000
set_option maxHeartbeats 1000000
namespace Ev
open PySem L2
end Ev

set_option Elab.async false
set_option linter.all false
set_option maxRecDepth 100000
set_option maxHeartbeats 1000000
namespace Ev
open PySem L2
theorem df_sub {names : List Str} {d : Dfn} (hd : d.ok names) : ∀ x ∈ d.ns, x ∈ names := fun x hx => by
  cases d with
  | num i => cases hx
  | plus y i => rw [List.mem_singleton.mp hx]; exact hd
  | mx os => obtain ⟨o, ho, ho2⟩ := List.mem_flatMap.mp hx; exact hd.2 o ho x ho2
  | mn os => obtain ⟨o, ho, ho2⟩ := List.mem_flatMap.mp hx; exact hd.2 o ho x ho2
  | ife a b c d =>
    have hx : x ∈ a.ns ++ (b.ns ++ (c.ns ++ d.ns)) := hx
    simp only [List.mem_append] at hx
    rcases hx with q | q | q | q
    · exact hd a (by simp) x q
    · exact hd b (by simp) x q
    · exact hd c (by simp) x q
    · exact hd d (by simp) x q
theorem ms_sub {names : List Str} {r : Row} (h : r.ok names) : ∀ x ∈ r.ms, x ∈ names := fun x hx => by
  rcases List.mem_append.mp hx with q | q
  · exact df_sub h.1 x q
  · exact (pm_nodup h).2 x q
end Ev

set_option Elab.async false
set_option linter.all false
set_option maxRecDepth 100000
set_option maxHeartbeats 1000000
namespace Ev
open PySem L2
end Ev

set_option Elab.async false
set_option linter.all false
set_option maxRecDepth 100000
set_option maxHeartbeats 1000000
namespace Ev
open PySem L2
/-! ### names -/
def forms : List Str := ["z", "zz", "free", "if", "max", "min", "set", "add", "seal", "plus", "sealed", "choice", "extend", "number"]
def NmB (x : Str) : Bool := decide (1 ≤ x.length) && decide (x.length ≤ 10) && x.cps.toList.all fun c => decide (c ∈ letters.cps.toList)
theorem nmB {x : Str} (h : NmB x = true) : Nm x := by
  unfold NmB at h
  simp only [Bool.and_eq_true, decide_eq_true_eq, List.all_eq_true] at h
  exact ⟨h.1.1, h.1.2, h.2⟩
end Ev

set_option Elab.async false
set_option linter.all false
set_option maxRecDepth 100000
set_option maxHeartbeats 1000000
namespace Ev
open PySem L2
/-! ### a drawn book -/
theorem dfok_mono {d : Dfn} {ns ms : List Str} (s : ∀ x ∈ ns, x ∈ ms) (h : d.ok ns) : d.ok ms := by
  cases d with
  | num i => trivial
  | plus x i => exact s x h
  | mx os => exact ⟨h.1, fun o ho x hx => s x (h.2 o ho x hx)⟩
  | mn os => exact ⟨h.1, fun o ho x hx => s x (h.2 o ho x hx)⟩
  | ife a b c d => exact fun o ho x hx => s x (h o ho x hx)
theorem pmok_mono {p : Prm} {d : Dfn} {ns ms : List Str} (s : ∀ x ∈ ns, x ∈ ms) (h : p.ok ns d) : p.ok ms d := by
  cases p with
  | sealed lo hi => exact h
  | free lo hi l => exact ⟨h.1, fun x hx => s x (h.2.1 x hx), h.2.2⟩
  | choice l => exact ⟨fun x hx => s x (h.1 x hx), h.2⟩
  | extend l => exact ⟨fun x hx => s x (h.1 x hx), h.2⟩
theorem rowok_mono {r : Row} {ns ms : List Str} (s : ∀ x ∈ ns, x ∈ ms) (h : r.ok ns) : r.ok ms := ⟨dfok_mono s h.1, pmok_mono s h.2⟩
structure BInv (ord : List Str) (rows : List Row) : Prop where
  nd : ord.Nodup
  nm : ∀ x ∈ ord, Nm x
  perm : (rows.map Row.nm).Perm ord
  ok : ∀ r ∈ rows, r.ok ord
  up : ∀ r ∈ rows, ∀ x ∈ r.ms, ord.idxOf x < ord.idxOf r.nm
  len : ∀ r ∈ rows, r.df.len ≤ 4
theorem BInv.nil : BInv [] [] := ⟨List.nodup_nil, fun _ h => (by cases h), List.Perm.refl _, fun _ h => (by cases h), fun _ h => (by cases h), fun _ h => (by cases h)⟩
theorem BInv.len_eq {ord : List Str} {rows : List Row} (I : BInv ord rows) : rows.length = ord.length := by
  have := I.perm.length_eq
  rwa [List.length_map] at this
theorem BInv.mem {ord : List Str} {rows : List Row} (I : BInv ord rows) {r : Row} (h : r ∈ rows) : r.nm ∈ ord := I.perm.mem_iff.mp (List.mem_map_of_mem h)
theorem BInv.sk {ord : List Str} {rows : List Row} (I : BInv ord rows) : Sk ord := fun x hx => nm_ok (I.nm x hx)
def bookOf (ord : List Str) (rows : List Row) : Book := ⟨rows, fun x => ord.idxOf x⟩
theorem BInv.small {ord : List Str} {rows : List Row} (I : BInv ord rows) (hl : ord.length ≤ 60) : Small (bookOf ord rows) where
  ok := {
    nm := fun r hr => I.nm _ (I.mem hr)
    nd := I.perm.nodup_iff.mpr I.nd
    len := by show rows.length ≤ 64; rw [I.len_eq]; omega
    ok := fun r hr => rowok_mono (fun x hx => I.perm.mem_iff.mpr hx) (I.ok r hr)
    sz := fun r hr => by
      have h1 := Nat.le_trans (ns_le _) (I.len r hr)
      obtain ⟨p1, p2⟩ := pm_nodup (I.ok r hr)
      have h2 := nd_len p1 p2
      unfold Row.ms
      rw [List.length_append]
      omega
    up := fun r hr x hx => ⟨I.perm.mem_iff.mpr (ms_sub (I.ok r hr) x hx), I.up r hr x hx⟩
    rk_lt := fun r hr => by
      show ord.idxOf r.nm < rows.length
      rw [I.len_eq]
      exact List.idxOf_lt_length_of_mem (I.mem hr) }
  len := fun r hr => Nat.le_trans (I.len r hr) (by decide)
theorem perm_ins (A B : List Row) (r : Row) : ((A ++ [r]) ++ B).Perm ((A ++ B) ++ [r]) := by
  rw [List.append_assoc, List.append_assoc]
  exact List.Perm.append_left A List.perm_append_comm
theorem BInv.add {ord : List Str} {rows : List Row} (I : BInv ord rows) {r : Row} (h1 : Nm r.nm) (h2 : r.nm ∉ ord) (h3 : r.ok ord) (h4 : r.df.len ≤ 4) (n : Nat) : BInv (ord ++ [r.nm]) ((rows.take n ++ [r]) ++ rows.drop n) := by
  have pm := perm_ins (rows.take n) (rows.drop n) r
  rw [List.take_append_drop] at pm
  have mem : ∀ z, z ∈ (rows.take n ++ [r]) ++ rows.drop n → z ∈ rows ∨ z = r := fun z hz => by
    rcases List.mem_append.mp (pm.mem_iff.mp hz) with q | q
    · exact .inl q
    · exact .inr (List.mem_singleton.mp q)
  have sub : ∀ x ∈ ord, x ∈ ord ++ [r.nm] := fun x hx => List.mem_append_left _ hx
  refine ⟨?_, fun x hx => ?_, ?_, fun z hz => ?_, fun z hz x hx => ?_, fun z hz => ?_⟩
  · rw [List.nodup_append]
    refine ⟨I.nd, by simp, fun a ha b hb => ?_⟩
    rw [List.mem_singleton.mp hb]
    exact fun q => h2 (q ▸ ha)
  · rcases List.mem_append.mp hx with q | q
    · exact I.nm x q
    · rw [List.mem_singleton.mp q]; exact h1
  · refine (pm.map Row.nm).trans ?_
    rw [List.map_append]
    exact List.Perm.append_right _ I.perm
  · rcases mem z hz with q | q
    · exact rowok_mono sub (I.ok z q)
    · rw [q]; exact rowok_mono sub h3
  · rcases mem z hz with q | q
    · have := I.up z q x hx
      have hx' := ms_sub (I.ok z q) x hx
      rw [List.idxOf_append, List.idxOf_append, if_pos hx', if_pos (I.mem q)]
      exact this
    · subst q
      have hx' := ms_sub h3 x hx
      rw [List.idxOf_append, List.idxOf_append, if_pos hx', if_neg h2]
      have := List.idxOf_lt_length_of_mem hx'
      omega
  · rcases mem z hz with q | q
    · exact I.len z q
    · rw [q]; exact h4
end Ev

set_option Elab.async false
set_option linter.all false
set_option maxRecDepth 100000
set_option maxHeartbeats 1000000
namespace Ev
open PySem L2
/-! ### copies, the law's own rows behind a step -/
end Ev

set_option Elab.async false
set_option linter.all false
set_option maxRecDepth 100000
set_option maxHeartbeats 1000000
namespace Ev
open PySem L2
/-! ### drawn rows and layers -/
structure StepOk (rows : List Row) (s : Stp) : Prop where
  ok : s.ok (rows.map Row.nm)
  len : s.len ≤ 20
  al : ∀ r ∈ rows, r.nm = s.nm → allowed r.pm s
  se : ∀ r ∈ rows, r.nm = s.nm → allowed r.pm (.sel s.nm)
  mem : s.nm ∈ rows.map Row.nm
theorem StepOk.sel {rows : List Row} {s : Stp} (h : StepOk rows s) : StepOk rows (.sel s.nm) := ⟨h.mem, Nat.zero_le _, h.se, h.se, h.mem⟩
theorem Lay.nil (B : Book) : Lay B [] := ⟨fun _ h => (by cases h), fun _ _ => trivial, by decide⟩
end Ev

set_option Elab.async false
set_option linter.all false
set_option maxRecDepth 100000
set_option maxHeartbeats 4000000
namespace Ev
open PySem L2
end Ev

set_option Elab.async false
set_option linter.all false
set_option maxRecDepth 100000
set_option maxHeartbeats 1000000
namespace Ev
open PySem L2
/-! ### what most laws share: the purse of a cell, layers behind layers, books by name -/
theorem purse_ok (ns : List Int) (hl : ns.length ≤ 63) (n : Int) : ∃ xs, F_law_purse 0 [.scr ns, .int n] = some (.own 0 xs) ∧ Pu 0 xs := by
  have q1 : dSl 0 (.scr ns) (some n) (some (n + 1)) = some (.own 0 ((cutD ns (some n) (some (n + 1))).map .int)) := by
    unfold dSl
    dsimp only
    rw [if_pos (Nat.le_trans hl (by decide))]
  generalize cutD ns (some n) (some (n + 1)) = l at q1
  have q2 : dSum (.lst 0 (l.map .int)) = some (.sh (.int l.sum)) := by
    unfold dSum
    simp only [intsOf_map]
  generalize l.sum = c at q2
  have q3 := o_pow (i := 10) (j := 18) ⟨by decide, by decide +kernel⟩
  have q4 := o_pow (i := 10) (j := 60) ⟨by decide, by decide +kernel⟩
  have e60 : (10 : Int) ^ Int.toNat 60 = 1000000000000000000000000000000000000000000000000000000000000 := by decide +kernel
  have q5 := o_pow (i := 10 ^ Int.toNat 60) (j := 8) ⟨by decide, by rw [e60]; decide +kernel⟩
  have pos : 0 < ((10 : Int) ^ Int.toNat 60) ^ Int.toNat 8 := Int.pow_pos (Int.pow_pos (by decide))
  generalize ((10 : Int) ^ Int.toNat 60) ^ Int.toNat 8 = M at q5 pos
  generalize (10 : Int) ^ Int.toNat 60 = M0 at q4 q5
  generalize (10 : Int) ^ Int.toNat 18 = M1 at q3
  have q6 : onInts iMax (.int (c - M1)) (.int 0) = some (.sh (.int (if 0 > c - M1 then 0 else c - M1))) := rfl
  generalize (if 0 > c - M1 then 0 else c - M1) = v at q6
  have q7 := o_mod (i := v) (j := M) pos
  have q8 := o_mod (i := c) (j := 2147483629) (by decide)
  refine ⟨[.int (v % M), .int (c % 2147483629), .int 0, .int n], ?_, _, _, _, _, rfl, Int.emod_nonneg v (by omega), by decide, by decide⟩
  unfold F_law_purse fb_law_purse
  apply rf_3_2
  (with_reducible apply r_then; apply r_set; apply r_op1; apply r_d; apply r_sliceP; apply r_see); exact rfl; exact rfl; (with_reducible apply r_part; apply r_var); exact rfl; exact rfl
  (with_reducible exact st1; apply r_part; apply r_d; apply r_op2; apply r_var); exact rfl; exact rfl; (with_reducible exact st1; apply r_lit); exact rfl; exact rfl
  (with_reducible apply r_see); exact rfl; exact rfl; (with_reducible assumption); exact rfl
  (with_reducible assumption; exact st2; apply c_nx; apply r_then; apply r_ret; apply r_lst; apply r_cons; apply r_d; apply r_op2; apply r_d; apply r_op2L; apply r_cons; apply r_d; apply r_op2; apply r_var)
  exact rfl; exact rfl; (with_reducible exact st2; apply r_d; apply r_op2; apply r_lit; apply r_lit; assumption); exact rfl; exact rfl; exact rfl
  (with_reducible apply r_cons; apply r_lit; apply r_nil; assumption); exact rfl; (with_reducible apply r_d; apply r_op2; apply r_d; apply r_op2; apply r_lit; apply r_lit; assumption)
  exact rfl; (with_reducible apply r_lit; assumption); exact rfl; (with_reducible assumption); exact rfl; (with_reducible apply r_cons; apply r_d; apply r_op2; apply r_var); exact rfl
  exact rfl; (with_reducible exact st2; apply r_lit; assumption); exact rfl; (with_reducible apply r_cons; apply r_lit; apply r_cons; apply r_var); exact rfl; exact rfl
  (with_reducible exact st1; apply r_nil); exact Nat.le_of_ble_eq_true rfl; (with_reducible apply c_ret)
theorem Lay.same {B : Book} {ss ss' : List Stp} (L : Lay B ss) (h : ∀ x, fl x ss' = fl x ss) (hm : ∀ s ∈ ss', s ∈ ss) (hl : ss'.length = ss.length) : Lay B ss' :=
  ⟨fun s hs => L.ok s (hm s hs), fun r hr => (al_fl ss' r).mpr (by rw [h]; exact (al_fl ss r).mp (L.al r hr)), by rw [hl]; exact L.len⟩
def Bd (B : Book) (n : Nat) : Prop := ∀ r ∈ B.rows, r.df.len ≤ n
theorem Lay.bd {B : Book} {ss : List Stp} {n : Nat} (hB : B.Ok) (b : Bd B n) (L : Lay B ss) (hn : 20 ≤ n) (hm : n + ss.length ≤ lim) : Bd (B.aft ss) (n + ss.length) := fun r hr => by
  obtain ⟨r0, h0, rfl⟩ := List.mem_map.mp hr
  exact (run_gd ss n r0 ⟨hB.ok r0 h0, b r0 h0⟩ L.ok hn hm (L.al r0 h0)).2.1.len
theorem Lay.small {B : Book} {ss : List Stp} {n : Nat} (S : Small B) (b : Bd B n) (L : Lay B ss) (hn : 20 ≤ n) (hm : n + ss.length ≤ 400) : Small (B.aft ss) := ⟨L.aft S, fun r hr => Nat.le_trans (L.bd S.ok b hn (Nat.le_trans hm (by decide)) r hr) hm⟩
end Ev

set_option Elab.async false
set_option linter.all false
set_option maxRecDepth 100000
set_option maxHeartbeats 1000000
namespace Ev
open PySem L2
/-! ### settings whose lists bear another tag: they are read alike -/
end Ev

set_option Elab.async false
set_option linter.all false
set_option maxRecDepth 100000
set_option maxHeartbeats 4000000
namespace Ev
open PySem L2
noncomputable section
end
end Ev

set_option Elab.async false
set_option linter.all false
set_option maxRecDepth 100000
set_option maxHeartbeats 1000000
namespace Ev
open PySem L2
/-! ### a book made of settings whose lists are cleared then -/
section
variable {R : Nat → Bool}
end
/-! the parts of a setting -/
/-! loops over what is cleared, by what stays -/
end Ev

set_option Elab.async false
set_option linter.all false
set_option maxRecDepth 100000
set_option maxHeartbeats 4000000
namespace Ev
open PySem L2
noncomputable section
def lx_after_rows_0 (g : Nat) : FX := (xIf ((fAnd (FD.t (FE.d (fOp2 sEq ((FE.d (fAlt (fOp2P dIx 6 ((fLit (.int 0)))) (fOp2P dGet 6 ((fLit (.int 0))))))) ((FE.d (fAlt (fOp2P dIx 5 ((fLit (.int 1)))) (fOp2P dGet 5 ((fLit (.int 1)))))))))) (fNot ((FD.t (FE.d (fCall 2 F_allows g (fCons ((FE.d (fAlt (fOp2P dIx 6 ((fLit (.int 1)))) (fOp2P dGet 6 ((fLit (.int 1))))))) (fCons ((fVar 5)) fNil))))))))) (xRaise 5 ((fVar 4))) xNo)
def lx_after_rows_1 (g : Nat) : FX := (xFor (fSeq ((fVar 2))) (gNam 6) (lb_after_rows_0 g) (lx_after_rows_0 g))
def xfb_after_rows (g : Nat) : FX := (xTl (fSet 2 (fLc g [3] (fSeq ((fVar 0))) (gNam 3) fYes ((FE.d (fCall 1 F_copied_setting g (fCons ((fVar 3)) fNil)))))) (xFor (fEnum ((fVar 1))) (gTupN [4, 5]) (lb_after_rows_1 g) (lx_after_rows_1 g)))
def Fx_after_rows : FFX := fun g a => runX 7 (xfb_after_rows g) a
def xfb_check_book (g : Nat) : FX := (xIf (fNot ((FD.t (FE.d (fOp1 (dIsi (.cls 0)) (fSee 0)))))) (xRaise 1 ((fVar 0))) xNo)
def Fx_check_book : FFX := fun g a => runX 1 (xfb_check_book g) a
def xfb_behind (g : Nat) : FX := (xAlt (xCall 1 Fx_check_book g (fCons ((fVar 0)) fNil)) (xTl (fExpr ((FE.d (fCall 1 F_check_book g (fCons ((fVar 0)) fNil))))) (xAlt (xIf (fNot ((FD.t (FE.d (fCall 2 F_is_layer g (fCons ((fVar 1)) (fCons ((FE.d (fMeth 0 1 F_Book_names g ((fVar 0)) fNil))) fNil))))))) (xRaise 4 ((fVar 1))) xNo) (xTl (fIf (fNot ((FD.t (FE.d (fCall 2 F_is_layer g (fCons ((fVar 1)) (fCons ((FE.d (fMeth 0 1 F_Book_names g ((fVar 0)) fNil))) fNil))))))) (fThen (fNo) fSkip) fSkip) (xCall 2 Fx_after_rows g (fCons ((FE.d (fOp1 (dFld 0 0) ((fVar 0))))) (fCons ((fVar 1)) fNil)))))))
def Fx_behind : FFX := fun g a => runX 2 (xfb_behind g) a
def xfb_plain (g : Nat) : FX := (xCall 2 Fx_behind g (fCons ((fVar 0)) (fCons ((fVar 1)) fNil)))
def Fx_plain : FFX := fun g a => runX 6 (xfb_plain g) a
end
theorem elx_after_rows_0 (g : Nat) : ExS (lb_after_rows_0 g) (lx_after_rows_0 g) := (exS_hd (exS_if (exS_hd exS_raise) exS_no))
theorem elx_after_rows_1 (g : Nat) : ExS (lb_after_rows_1 g) (lx_after_rows_1 g) := (exS_hd (exS_for (elx_after_rows_0 g)))
theorem ex_after_rows : ExF F_after_rows Fx_after_rows := exF_run fun g => ((exS_tl (exS_hd (exS_for (elx_after_rows_1 g)))) : ExS (fb_after_rows g) (xfb_after_rows g))
theorem ex_check_book : ExF F_check_book Fx_check_book := exF_run fun g => ((exS_hd (exS_if (exS_hd exS_raise) exS_no)) : ExS (fb_check_book g) (xfb_check_book g))
theorem ex_behind : ExF F_behind Fx_behind := exF_run fun g => ((exS_alt (exS_hd (exS_expr (exE_d (exE_call ex_check_book)))) (exS_tl (exS_alt (exS_hd (exS_if (exS_hd exS_raise) exS_no)) (exS_tl (exS_hd (exS_ret (exE_call ex_after_rows))))))) : ExS (fb_behind g) (xfb_behind g))
theorem ex_plain : ExF F_plain Fx_plain := exF_run fun g => ((exS_hd (exS_set (exE_callA (exL_hd (exE_d (exE_call ex_behind)))))) : ExS (fb_plain g) (xfb_plain g))
end Ev

set_option Elab.async false
set_option linter.all false
set_option maxRecDepth 100000
set_option maxHeartbeats 1000000
namespace Ev
open PySem L2
theorem x_ifC {x y : FX} {c : FT} {Γ Γ1 : Env} {b : Bool} {r : Option (Xo × Env)} (h : c Γ = some (b, Γ1)) (k : ifC b (x Γ1) (y Γ1) = r) : xIf c x y Γ = r := by
  unfold xIf
  rw [h]
  subst k
  cases b <;> rfl
/-! ### what a permission does not allow -/
def isAl (ns : List Str) : Dfn → Bool
  | .plus x i => decide (x ∈ ns) && decide (i = 0)
  | _ => false
def alB (p : Prm) : Stp → Bool
  | .sel _ => (match p with
    | .sealed _ _ => false
    | _ => true)
  | .add _ o => (match p with
    | .extend ns => o.ns.all fun x => decide (x ∈ ns)
    | _ => false)
  | .set _ d => (match p with
    | .choice ns => isAl ns d
    | .free _ _ ns => d.ns.all fun x => decide (x ∈ ns)
    | _ => false)
end Ev

set_option Elab.async false
set_option linter.all false
set_option maxRecDepth 100000
set_option maxHeartbeats 1000000
namespace Ev
open PySem L2
/-! ### after_rows raises at the first row that is barred -/
structure Barred (rows : List Row) (pre : List Stp) (s : Stp) : Prop where
  ok : ∀ r ∈ rows, okS r pre
  hit : ∃ r ∈ rows, r.nm = s.nm ∧ alB (r.run pre).pm s = false
  sk : ∀ x d, s = .set x d → ∀ y ∈ d.ns, PyData.strOk y = true
end Ev

set_option Elab.async false
set_option linter.all false
set_option maxRecDepth 100000
set_option maxHeartbeats 1000000
namespace Ev
open PySem L2
end Ev

set_option Elab.async false
set_option linter.all false
set_option maxRecDepth 100000
set_option maxHeartbeats 4000000
namespace Ev
open PySem L2
noncomputable section
def tb_law_fails_0 (g : Nat) : FS := (fThen (fSet 2 (fCall 2 F_plain g (fPick 2 [1, 0] (fCons ((fVar 1)) (fCons ((fVar 0)) fNil))))) fSkip)
def tx_law_fails_0 (g : Nat) : FX := (xCall 2 Fx_plain g (fPick 2 [1, 0] (fCons ((fVar 1)) (fCons ((fVar 0)) fNil))))
def fb_law_fails (g : Nat) : FS := (fThen (fSet 2 ((FD.toE (fLit .non)))) (fThen (fTry 0 3 2 (tb_law_fails_0 g) (tx_law_fails_0 g)) (fThen (fRet (fMove 2)) fSkip)))
def F_law_fails : FF := fun g a => runF 4 (fb_law_fails g) a
def lb_law_0 (g : Nat) : FS := (fThen (fSet 2 (fCall 2 F_law_purse g (fCons ((fVar 0)) (fCons ((fVar 1)) fNil)))) (fThen (fSetL [3, 4, 5, 6] ((FE.d (fLc g [7] (fRange1 ((fLit (.int 4)))) (gNam 7) fYes ((FE.d (fCallM 1 F_law_number g 2 fNil))))))) (fThen (fSet 8 ((FD.toE (fTup (fCons ((fLit (.str "size"))) (fCons ((fTup (fCons ((fLit (.str "free"))) (fCons ((fLit .non)) (fCons ((fLit .non)) (fCons ((FE.d (fLst g fNil))) fNil)))))) (fCons ((fTup (fCons ((fLit (.str "number"))) (fCons ((fVar 3)) fNil)))) fNil))))))) (fThen (fSet 9 ((FD.toE (fTup (fCons ((fLit (.str "wide"))) (fCons ((fTup (fCons ((fLit (.str "extend"))) (fCons ((FE.d (fLst g (fCons ((fLit (.str "size"))) fNil)))) fNil)))) (fCons ((fTup (fCons ((fLit (.str "max"))) (fCons ((FE.d (fLst g (fCons ((fVar 4)) (fCons ((fLit (.str "size"))) fNil))))) fNil)))) fNil))))))) (fThen (fSet 10 ((FD.toE (fMake 0 2 F_Book_init g (fCons ((FE.d (fLst g (fCons ((fVar 8)) (fCons ((fVar 9)) (fCons ((fTup (fCons ((fLit (.str "own"))) (fCons ((fTup (fCons ((fLit (.str "choice"))) (fCons ((FE.d (fLst g (fCons ((fLit (.str "wide"))) (fCons ((fLit (.str "size"))) fNil))))) fNil)))) (fCons ((fTup (fCons ((fLit (.str "plus"))) (fCons ((fLit (.str "size"))) (fCons ((fLit (.int 0))) fNil))))) fNil))))) fNil)))))) fNil))))) (fThen (fSet 11 (fLst g (fCons ((fTup (fCons ((fLit (.str "add"))) (fCons ((fLit (.str "wide"))) (fCons ((fVar 6)) fNil))))) (fCons ((fTup (fCons ((fLit (.str "set"))) (fCons ((fLit (.str "size"))) (fCons ((fTup (fCons ((fLit (.str "number"))) (fCons ((fVar 5)) fNil)))) fNil))))) (fCons ((fTup (fCons ((fLit (.str "add"))) (fCons ((fLit (.str "wide"))) (fCons ((fLit (.str "size"))) fNil))))) fNil))))) (fThen (fApp 11 ((fTup (fCons ((fLit (.str "set"))) (fCons ((fLit (.str "own"))) (fCons ((fTup (fCons ((fLit (.str "plus"))) (fCons ((fLit (.str "wide"))) (fCons ((fLit (.int 0))) fNil))))) fNil)))))) (fThen (fSet 12 (fLst g (fCons ((fTup (fCons ((fLit (.str "set"))) (fCons ((fLit (.str "size"))) (fCons ((fTup (fCons ((fLit (.str "number"))) (fCons ((fVar 5)) fNil)))) fNil))))) (fCons ((fTup (fCons ((fLit (.str "add"))) (fCons ((fLit (.str "wide"))) (fCons ((FE.d (fIte (FD.t (FE.d (fOp2P (onInts iGt) 5 (fSee 6)))) ((FD.toE (fVar 5))) ((FD.toE (fVar 6)))))) fNil))))) fNil)))) (fThen (fApp 12 ((fTup (fCons ((fLit (.str "set"))) (fCons ((fLit (.str "own"))) (fCons ((fTup (fCons ((fLit (.str "plus"))) (fCons ((fLit (.str "wide"))) (fCons ((fLit (.int 0))) fNil))))) fNil)))))) (fThen (fIf ((fOr (FD.t (FE.d (fOp2 sNe ((FE.d (fCall 2 F_plain g (fPick 2 [1, 0] (fCons ((fVar 11)) (fCons ((fVar 10)) fNil)))))) (fSee 12)))) (FD.t (FE.d (fOp2 sNe ((FE.d (fCall 2 F_plain g (fPick 2 [0, 1] (fCons ((fVar 10)) (fCons ((fVar 11)) fNil)))))) (fSee 12)))))) (fThen (fRet ((FD.toE (fLit (.bl false))))) fSkip) fSkip) (fThen (fIf (FD.t (FE.d (fOp2 sNe ((FE.d (fCall 2 F_touched g (fPick 2 [1, 0] (fCons ((fVar 11)) (fCons ((fVar 10)) fNil)))))) ((FE.d (fLst g (fCons ((fLit (.str "own"))) (fCons ((fLit (.str "size"))) (fCons ((fLit (.str "wide"))) fNil))))))))) (fThen (fRet ((FD.toE (fLit (.bl false))))) fSkip) fSkip) (fThen (fIf ((fOr (fNot ((FD.t (FE.d (fOp1 (dIsi (.xcls 1)) ((FE.d (fCall 2 F_law_fails g (fCons ((fVar 11)) (fCons ((fLit (.int 0))) fNil)))))))))) (fNot ((FD.t (FE.d (fOp1 (dIsi (.xcls 4)) ((FE.d (fCall 2 F_law_fails g (fCons ((fVar 10)) (fCons ((fLit (.int 0))) fNil)))))))))))) (fThen (fRet ((FD.toE (fLit (.bl false))))) fSkip) fSkip) fSkip))))))))))))
def fb_law (g : Nat) : FS := (fThen (fFor (fRange1 ((FE.d (fOp2L (onInts iMax) (fCons ((fLit (.int 1))) (fCons ((FE.d (fOp1 dLen ((FE.d (fSliceP g 0 fNoPart (fPart ((fLit (.int 63)))))))))) fNil)))))) (gNam 1) (lb_law_0 g)) (fThen (fRet ((FD.toE (fLit (.bl true))))) fSkip))
def F_law : FF := fun g a => runF 13 (fb_law g) a
end
theorem et_law_fails_0 (g : Nat) : ExS (tb_law_fails_0 g) (tx_law_fails_0 g) := (exS_hd (exS_set (exE_call ex_plain)))
end Ev

set_option Elab.async false
set_option linter.all false
set_option maxRecDepth 100000
set_option maxHeartbeats 1000000
namespace Ev
open PySem L2
def rw19 (a b : Int) : List Row := [⟨"size", .free none none [], .num a⟩, ⟨"wide", .extend ["size"], .mx [.n b, .v "size"]⟩, ⟨"own", .choice ["wide", "size"], .plus "size" 0⟩]
def od19 : List Str := ["size", "wide", "own"]
def ly19 (c d : Int) : List Stp := [.add "wide" (.n d), .set "size" (.num c), .add "wide" (.v "size"), .set "own" (.plus "wide" 0)]
theorem inv19 (a b : Int) : BInv od19 (rw19 a b) where
  nd := by decide +kernel
  nm := fun x hx => nmB (List.all_eq_true.mp (show od19.all NmB = true by decide +kernel) x hx)
  perm := List.Perm.refl _
  ok := fun r hr => by
    have s1 : ("size" : Str) ∈ od19 := by decide +kernel
    have s2 : ("wide" : Str) ∈ od19 := by decide +kernel
    have hr : r ∈ [_, _, _] := hr
    simp only [List.mem_cons, List.not_mem_nil, or_false] at hr
    rcases hr with rfl | rfl | rfl
    · exact ⟨trivial, trivial, fun x hx => (by cases hx), List.nodup_nil⟩
    · refine ⟨⟨by simp, fun o ho x hx => ?_⟩, fun x hx => ?_, by simp, _, .inl rfl⟩
      · simp only [List.mem_cons, List.not_mem_nil, or_false] at ho
        rcases ho with rfl | rfl
        · cases hx
        · simp only [Opd.ns, List.mem_cons, List.not_mem_nil, or_false] at hx
          rw [hx]; exact s1
      · rw [List.mem_singleton.mp hx]; exact s1
    · refine ⟨s1, fun x hx => ?_, by decide +kernel, "size", by decide +kernel, rfl⟩
      simp only [List.mem_cons, List.not_mem_nil, or_false] at hx
      rcases hx with rfl | rfl
      · exact s2
      · exact s1
  up := fun r hr x hx => by
    have hr : r ∈ [_, _, _] := hr
    simp only [List.mem_cons, List.not_mem_nil, or_false] at hr
    rcases hr with rfl | rfl | rfl
    · cases hx
    · have : x ∈ (["size", "size"] : List Str) := hx
      simp only [List.mem_cons, List.not_mem_nil, or_false, or_self] at this
      rw [this]
      show od19.idxOf ("size" : Str) < od19.idxOf ("wide" : Str)
      decide +kernel
    · have : x ∈ (["size", "wide", "size"] : List Str) := hx
      simp only [List.mem_cons, List.not_mem_nil, or_false] at this
      rcases this with rfl | rfl | rfl <;> decide +kernel
  len := fun r hr => by
    have hr : r ∈ [_, _, _] := hr
    simp only [List.mem_cons, List.not_mem_nil, or_false] at hr
    rcases hr with rfl | rfl | rfl <;> exact Nat.le_of_ble_eq_true rfl
def B19 (a b : Int) : Book := bookOf od19 (rw19 a b)
theorem small19 (a b : Int) : Small (B19 a b) := (inv19 a b).small (by decide)
theorem stp_ne {r : Row} {s : Stp} (h : r.nm ≠ s.nm) : r.stp s = r := if_neg h
theorem stp_eq {r : Row} {s : Stp} (h : r.nm = s.nm) : r.stp s = r.app s := if_pos h
theorem alS_ne {r : Row} {s : Stp} {ss : List Stp} (h : r.nm ≠ s.nm) (k : alS r ss) : alS r (s :: ss) := by
  refine ⟨fun q => absurd q h, ?_⟩
  unfold Row.stp
  rw [if_neg h]
  exact k
theorem alS_eq {r : Row} {s : Stp} {ss : List Stp} (h : r.nm = s.nm) (a : allowed r.pm s) (k : alS (r.app s) ss) : alS r (s :: ss) := by
  refine ⟨fun _ => a, ?_⟩
  unfold Row.stp
  rw [if_pos h]
  exact k
theorem lay19 (a b c d : Int) : Lay (B19 a b) (ly19 c d) where
  ok := fun s hs => by
    have s1 : ("size" : Str) ∈ (B19 a b).rows.map Row.nm := by show _ ∈ od19; decide +kernel
    have s2 : ("wide" : Str) ∈ (B19 a b).rows.map Row.nm := by show _ ∈ od19; decide +kernel
    have s3 : ("own" : Str) ∈ (B19 a b).rows.map Row.nm := by show _ ∈ od19; decide +kernel
    have hs : s ∈ [_, _, _, _] := hs
    simp only [List.mem_cons, List.not_mem_nil, or_false] at hs
    rcases hs with rfl | rfl | rfl | rfl
    · exact ⟨⟨s2, fun x hx => by cases hx⟩, Nat.le_of_ble_eq_true rfl⟩
    · exact ⟨⟨s1, trivial⟩, Nat.le_of_ble_eq_true rfl⟩
    · refine ⟨⟨s2, fun x hx => ?_⟩, by decide⟩
      rw [List.mem_singleton.mp hx]; exact s1
    · exact ⟨⟨s3, s2⟩, by decide⟩
  al := fun r hr => by
    have hr : r ∈ [_, _, _] := hr
    simp only [List.mem_cons, List.not_mem_nil, or_false] at hr
    have n1 : ("size" : Str) ≠ "wide" := by decide +kernel
    have n2 : ("size" : Str) ≠ "own" := by decide +kernel
    have n3 : ("wide" : Str) ≠ "own" := by decide +kernel
    rcases hr with rfl | rfl | rfl
    · refine alS_ne n1 (alS_eq rfl (.inr ⟨_, _, _, rfl, fun x hx => by cases hx⟩) ?_)
      exact alS_ne n1 (alS_ne n2 trivial)
    · refine alS_eq rfl ⟨_, rfl, fun x hx => by cases hx⟩ ?_
      refine alS_ne n1.symm (alS_eq rfl ⟨_, rfl, fun x hx => hx⟩ ?_)
      exact alS_ne n3 trivial
    · refine alS_ne n3.symm (alS_ne n2.symm (alS_ne n3.symm (alS_eq rfl (.inl ⟨_, "wide", rfl, List.mem_cons_self, rfl⟩) trivial)))
  len := by show 4 ≤ 100; decide
theorem aft19 (a b c d : Int) : ((B19 a b).aft (ly19 c d)).rows = [⟨"size", .free none none [], .num c⟩, ⟨"wide", .extend ["size"], .mx [.n b, .v "size", .n d, .v "size"]⟩, ⟨"own", .choice ["wide", "size"], .plus "wide" 0⟩] := by
  have n1 : ("size" : Str) ≠ "wide" := by decide +kernel
  have n2 : ("size" : Str) ≠ "own" := by decide +kernel
  have n3 : ("wide" : Str) ≠ "own" := by decide +kernel
  have r1 : Row.run ⟨"size", .free none none [], .num a⟩ (ly19 c d) = ⟨"size", .free none none [], .num c⟩ := by
    show (((Row.stp ⟨"size", .free none none [], .num a⟩ (.add "wide" (.n d))).stp (.set "size" (.num c))).stp (.add "wide" (.v "size"))).stp (.set "own" (.plus "wide" 0)) = _
    rw [stp_ne (s := .add "wide" (.n d)) n1, stp_eq (r := ⟨"size", .free none none [], .num a⟩) (s := .set "size" (.num c)) rfl]
    exact (congrArg (fun z => Row.stp z _) (stp_ne (s := .add "wide" (.v "size")) n1)).trans (stp_ne n2)
  have r2 : Row.run ⟨"wide", .extend ["size"], .mx [.n b, .v "size"]⟩ (ly19 c d) = ⟨"wide", .extend ["size"], .mx [.n b, .v "size", .n d, .v "size"]⟩ := by
    show (((Row.stp ⟨"wide", .extend ["size"], .mx [.n b, .v "size"]⟩ (.add "wide" (.n d))).stp (.set "size" (.num c))).stp (.add "wide" (.v "size"))).stp (.set "own" (.plus "wide" 0)) = _
    rw [stp_eq (r := ⟨"wide", .extend ["size"], .mx [.n b, .v "size"]⟩) (s := .add "wide" (.n d)) rfl, stp_ne (s := .set "size" (.num c)) n1.symm, stp_eq (s := .add "wide" (.v "size")) rfl]
    exact stp_ne n3
  have r3 : Row.run ⟨"own", .choice ["wide", "size"], .plus "size" 0⟩ (ly19 c d) = ⟨"own", .choice ["wide", "size"], .plus "wide" 0⟩ := by
    show (((Row.stp ⟨"own", .choice ["wide", "size"], .plus "size" 0⟩ (.add "wide" (.n d))).stp (.set "size" (.num c))).stp (.add "wide" (.v "size"))).stp (.set "own" (.plus "wide" 0)) = _
    rw [stp_ne (s := .add "wide" (.n d)) n3.symm, stp_ne (s := .set "size" (.num c)) n2.symm, stp_ne (s := .add "wide" (.v "size")) n3.symm]
    exact stp_eq rfl
  show [Row.run _ _, Row.run _ _, Row.run _ _] = _
  rw [r1, r2, r3]
def due19 (c d : Int) : List Stp := [.set "size" (.num c), .add "wide" (.n (if c > d then c else d)), .set "own" (.plus "wide" 0)]
theorem plain19 (a b c d : Int) : plainS (B19 a b) (ly19 c d) = due19 c d := by
  have hv : semV ((B19 a b).aft (ly19 c d)) "size" = c := by
    have h := semV_eq ((lay19 a b c d).aft (small19 a b)) (r := ⟨"size", .free none none [], .num c⟩) (by rw [aft19]; exact List.mem_cons_self)
    exact h
  have e1 : plainS (B19 a b) (ly19 c d) = [.set "size" (.num (semV ((B19 a b).aft (ly19 c d)) "size")), .add "wide" (.n (mxv [d, semV ((B19 a b).aft (ly19 c d)) "size"])), .set "own" (.plus "wide" 0)] := rfl
  rw [e1, hv]
  have e2 : mxv [d, c] = if c > d then c else d := by
    rfl
  rw [e2]
  rfl
theorem touched19 (a b c d : Int) : touchedOf (B19 a b) (tch (ly19 c d)) = [.str "own", .str "size", .str "wide"] := by
  have e0 : sortS ((B19 a b).rows.map Row.nm) = (["own", "size", "wide"] : List Str) := by
    exact (sortS_eq (ys := ["own", "size", "wide"]) (by
      show List.Perm _ (["size", "wide", "own"] : List Str)
      exact (List.Perm.swap _ _ _).trans (((List.Perm.swap _ _ _).cons _))) (by decide +kernel)).symm
  unfold touchedOf
  rw [e0]
  rfl
end Ev

set_option Elab.async false
set_option linter.all false
set_option maxRecDepth 100000
set_option maxHeartbeats 1000000
namespace Ev
open PySem L2
theorem xplainB (u : Nat) (xs : List D) (d : D) : Fx_plain 0 [.lst u xs, d] = some (1, [.lst u xs]) := by
  have h0 : Fx_check_book 0 [.lst u xs] = some (1, [.lst u xs]) := by
    unfold Fx_check_book xfb_check_book
    apply x_runX
    show xIf _ _ _ [.sh (.lst u xs)] = _
    (with_reducible apply x_ifC; apply r_not; apply r_t; apply r_d; apply r_op1; apply r_see); exact rfl; exact rfl; exact rfl; exact rfl; exact rfl; (with_reducible apply c_t); exact rfl
    (with_reducible apply x_raise; apply r_var); exact rfl; exact rfl; (with_reducible exact st0)
  have h : Fx_behind 0 [.lst u xs, d] = some (1, [.lst u xs]) := by
    unfold Fx_behind xfb_behind
    apply x_runX
    show xAlt _ _ [.sh (.lst u xs), .sh d] = _
    apply x_altL
    (with_reducible apply x_callS; apply r_cons; apply r_var); exact rfl; exact rfl; (with_reducible exact st0; apply r_nil); exact rfl; (with_reducible assumption)
  unfold Fx_plain xfb_plain
  apply x_runX
  show xCall _ _ _ _ [.sh (.lst u xs), .sh d, .non, .non, .non, .non] = _
  (with_reducible apply x_callS; apply r_cons; apply r_var); exact rfl; exact rfl; (with_reducible exact st0; apply r_cons; apply r_var); exact rfl; exact rfl
  (with_reducible exact st1; apply r_nil); exact rfl; (with_reducible assumption)
theorem isLayer_int (i : Int) (t : Nat) (ns : List Str) : F_is_layer 0 [.int i, .lst t (ns.map .str)] = some (.sh (.bl false)) := by
  unfold F_is_layer fb_is_layer
  apply rf_3_2
  (with_reducible apply r_then; apply r_ret; apply r_toE; apply r_andV; apply r_d; apply r_op1; apply r_see); exact rfl; exact rfl; exact rfl; exact rfl; (with_reducible apply c_f); exact rfl
  exact rfl; (with_reducible apply c_ret)
theorem xplainL (rows : List Row) (x : D) (i : Int) : Fx_plain 0 [.ins 0 [.lst 0 (rows.map Row.e), x], .int i] = some (4, [.int i]) := by
  have h0 := checkBook_eq [.lst 0 (rows.map Row.e), x]
  have h1 := names_eq rows x
  have h2 := isLayer_int i 0 (rows.map Row.nm)
  have h : Fx_behind 0 [.ins 0 [.lst 0 (rows.map Row.e), x], .int i] = some (4, [.int i]) := by
    unfold Fx_behind xfb_behind
    apply x_runX
    show xAlt _ _ [.sh (.ins 0 [.lst 0 (rows.map Row.e), x]), .sh (.int i)] = _
    apply x_altTl
    · exact exS_expr (exE_d (exE_call ex_check_book))
    · (with_reducible apply r_expr; apply r_d; apply r_call; apply r_cons; apply r_var); exact rfl; exact rfl; (with_reducible exact st0; apply r_nil); exact rfl; (with_reducible assumption)
      exact rfl
    · apply x_altL
      (with_reducible apply x_ifC; apply r_not; apply r_t; apply r_d; apply r_call; apply r_cons; apply r_var); exact rfl; exact rfl
      (with_reducible exact st1; apply r_cons; apply r_d; apply r_meth; apply r_var); exact rfl; exact rfl; (with_reducible exact st0; apply r_nil); exact rfl; (with_reducible assumption)
      exact rfl; (with_reducible apply r_nil); exact rfl; (with_reducible assumption); exact rfl; exact rfl; (with_reducible apply c_t); decide +kernel; (with_reducible apply x_raise; apply r_var)
      exact rfl; exact rfl; (with_reducible exact st1)
  unfold Fx_plain xfb_plain
  apply x_runX
  show xCall _ _ _ _ [.sh (.ins 0 [.lst 0 (rows.map Row.e), x]), .sh (.int i), .non, .non, .non, .non] = _
  (with_reducible apply x_callS; apply r_cons; apply r_var); exact rfl; exact rfl; (with_reducible exact st0; apply r_cons; apply r_var); exact rfl; exact rfl
  (with_reducible exact st1; apply r_nil); exact rfl; (with_reducible assumption)
theorem pick10 {fa : FL} {Γ Γ1 : Env} {a b : D} (h : fa Γ = some ([a, b], Γ1)) : fPick 2 [1, 0] fa Γ = some ([b, a], Γ1) := by
  unfold fPick
  rw [h]
  rfl
theorem pick01 {fa : FL} {Γ Γ1 : Env} {a b : D} (h : fa Γ = some ([a, b], Γ1)) : fPick 2 [0, 1] fa Γ = some ([a, b], Γ1) := by
  unfold fPick
  rw [h]
  rfl
theorem fails_eq {d e : D} {z : Xo} (h : Fx_plain 0 [d, e] = some z) : F_law_fails 0 [d, e] = some (.sh (.exc z.1 z.2)) := by
  have p : fPick 2 [1, 0] (fCons ((fVar 1)) (fCons ((fVar 0)) fNil)) [.sh d, .sh e, .sh .non, .non] = some ([d, e], [.sh d, .sh e, .sh .non, .non]) := by
    refine pick10 ?_
    (with_reducible apply r_cons; apply r_var); exact rfl; exact rfl; (with_reducible exact st1; apply r_cons; apply r_var); exact rfl; exact rfl; (with_reducible exact st0; apply r_nil)
  have t : tx_law_fails_0 0 [.sh d, .sh e, .sh .non, .non] = some (z, [.sh d, .sh e, .sh .non, .non]) := by
    unfold tx_law_fails_0; (with_reducible apply x_callS; assumption); exact rfl; (with_reducible assumption)
  have t2 : fTry 0 3 2 (tb_law_fails_0 0) (tx_law_fails_0 0) [.sh d, .sh e, .sh .non, .non] = some (.nx, [.sh d, .sh e, .sh (.exc z.1 z.2), .non]) := r_tryX (et_law_fails_0 0) t (by simp) rfl
  unfold F_law_fails fb_law_fails
  apply rf_4_2
  apply r_then
  · (with_reducible apply r_set; apply r_toE; apply r_lit; exact st2)
  · apply c_nx
    apply r_then
    · exact t2
    · (with_reducible apply c_nx; apply r_then; apply r_ret; apply r_move_sh); exact rfl; (with_reducible apply c_ret)
theorem lc1 {own : List Nat} {tg : FG} {cond : FT} {elt : FD} {Γ Γ1 Γ2 Γ3 Γ4 Γ5 : Env} {d r : D} {ds es : List D} (h1 : tg d Γ = some Γ1) (h2 : cond Γ1 = some (true, Γ2)) (h3 : elt Γ2 = some (r, Γ3)) (h4 : wipeG Γ3 own = Γ4) (k : lcRun own tg cond elt ds Γ4 = some (es, Γ5)) : lcRun own tg cond elt (d :: ds) Γ = some (r :: es, Γ5) := by
  unfold lcRun
  rw [h1]
  simp only [h2, h3, h4, k]
theorem nums_lc (s0 s1 s3 s4 s5 s6 s8 s9 s10 s11 s12 : Sl) : ∀ (ds : List D) (T : Nat) (xs : List D), T + 16 * ds.length ≤ big → Pu T xs →
    ∃ (is : List Int) (xs' : List D), lcRun [7] (gNam 7) fYes ((FE.d (fCallM 1 F_law_number 0 2 fNil))) ds [s0, s1, .own 0 xs, s3, s4, s5, s6, .non, s8, s9, s10, s11, s12] = some (is.map .int, [s0, s1, .own 0 xs', s3, s4, s5, s6, .non, s8, s9, s10, s11, s12]) ∧ is.length = ds.length ∧ Pu (T + 16 * ds.length) xs'
  | [], T, xs, hT, hp => ⟨[], xs, rfl, rfl, hp⟩
  | d :: ds, T, xs, hT, hp => by
    rw [List.length_cons] at hT
    obtain ⟨i, x1, h1, p1⟩ := number_ok (T := T) (by omega) 0 hp
    obtain ⟨is, x2, h2, l2, p2⟩ := nums_lc s0 s1 s3 s4 s5 s6 s8 s9 s10 s11 s12 ds (T + 16) x1 (by omega) p1
    refine ⟨i :: is, x2, ?_, by rw [List.length_cons, List.length_cons, l2], p2.mono (by rw [List.length_cons]; omega)⟩
    rw [List.map_cons]
    apply lc1
    (with_reducible apply g_nam'; exact st7; apply r_yes; apply r_d; apply r_callM); exact rfl; exact rfl; (with_reducible apply r_nil); exact rfl; exact rfl; exact rfl
    (with_reducible assumption; exact so2); exact rfl; exact wp7; (with_reducible assumption)
end Ev

set_option Elab.async false
set_option linter.all false
set_option maxRecDepth 100000
set_option maxHeartbeats 1000000
namespace Ev
open PySem L2
theorem r_setL {is : List Nat} {f : FD} {Γ Γ1 Γ2 : Env} {t : Nat} {ds : List D} (h : f Γ = some (.lst t ds, Γ1)) (k : gNams is ds Γ1 = some Γ2) : fSetL is f Γ = some (.nx, Γ2) := by
  unfold fSetL
  rw [h]
  show (match gNams is ds Γ1 with | some Γ2 => some (Fl.nx, Γ2) | none => none) = _
  rw [k]
theorem sNe_strs (l : List D) (h : okdL l 59 = true) : sNe (.lst 0 l) (.lst 0 l) = some (.sh (.bl false)) := sNe_same h
theorem law_turn (ns : List Int) (hl : ns.length ≤ 63) (n : Int) (s2 s3 s4 s5 s6 s7 s8 s9 s10 s11 s12 : Sl) : ∃ t2 t3 t4 t5 t6 t7 t8 t9 t10 t11 t12, lb_law_0 0 [.sh (.scr ns), .sh (.int n), s2, s3, s4, s5, s6, s7, s8, s9, s10, s11, s12] = some (.nx, [.sh (.scr ns), .sh (.int n), t2, t3, t4, t5, t6, t7, t8, t9, t10, t11, t12]) := by
  have hbig : big = 1000000000 := rfl
  obtain ⟨x0, a0, p0⟩ := purse_ok ns hl n
  obtain ⟨is, x1, a1, il, p1⟩ := nums_lc (.sh (.scr ns)) (.sh (.int n)) s3 s4 s5 s6 s8 s9 s10 s11 s12 (rangeD 0 (4 : Int).toNat) 0 x0 (by decide) p0
  obtain ⟨a, b, c, d, rfl⟩ : ∃ a b c d, is = [a, b, c, d] := by
    match is, il with
    | [a, b, c, d], _ => exact ⟨a, b, c, d, rfl⟩
  have S := small19 a b
  have L := lay19 a b c d
  obtain ⟨fd, V⟩ := S.ok.vals
  obtain ⟨fd2, V2⟩ := (L.aft S).vals
  have b1 : F_Book_init 0 [.lst 0 [.tup [.str "size", .tup [.str "free", .non, .non, .lst 0 []], .tup [.str "number", .int a]], .tup [.str "wide", .tup [.str "extend", .lst 0 [.str "size"]], .tup [.str "max", .lst 0 [.int b, .str "size"]]], .tup [.str "own", .tup [.str "choice", .lst 0 [.str "wide", .str "size"]], .tup [.str "plus", .str "size", .int 0]]]] = some [.lst 0 ((B19 a b).rows.map Row.e), .dct 1 (kF fd) (vF fd)] := init_eq S.ok V
  have b2 : F_plain 0 [.ins 0 [.lst 0 ((B19 a b).rows.map Row.e), .dct 1 (kF fd) (vF fd)], .lst 0 [.tup [.str "add", .str "wide", .int d], .tup [.str "set", .str "size", .tup [.str "number", .int c]], .tup [.str "add", .str "wide", .str "size"], .tup [.str "set", .str "own", .tup [.str "plus", .str "wide", .int 0]]]] = some (.own 0 [.tup [.str "set", .str "size", .tup [.str "number", .int c]], .tup [.str "add", .str "wide", .int (if c > d then c else d)], .tup [.str "set", .str "own", .tup [.str "plus", .str "wide", .int 0]]]) := by
    have q := plain_eq S L V2 (.dct 1 (kF fd) (vF fd)) 0
    rw [plain19] at q
    exact q
  have b3 : F_touched 0 [.ins 0 [.lst 0 ((B19 a b).rows.map Row.e), .dct 1 (kF fd) (vF fd)], .lst 0 [.tup [.str "add", .str "wide", .int d], .tup [.str "set", .str "size", .tup [.str "number", .int c]], .tup [.str "add", .str "wide", .str "size"], .tup [.str "set", .str "own", .tup [.str "plus", .str "wide", .int 0]]]] = some (.own 0 [.str "own", .str "size", .str "wide"]) := by
    have q := touched_eq S (show 3 < 64 by decide) L (.dct 1 (kF fd) (vF fd)) 0
    rw [touched19] at q
    exact q
  have c1 : sNe (.lst 0 [.tup [.str "set", .str "size", .tup [.str "number", .int c]], .tup [.str "add", .str "wide", .int (if c > d then c else d)], .tup [.str "set", .str "own", .tup [.str "plus", .str "wide", .int 0]]]) (.lst 0 [.tup [.str "set", .str "size", .tup [.str "number", .int c]], .tup [.str "add", .str "wide", .int (if c > d then c else d)], .tup [.str "set", .str "own", .tup [.str "plus", .str "wide", .int 0]]]) = some (.sh (.bl false)) := by
    refine sNe_strs _ ?_
    simp only [okdL, okd, Bool.and_true]
    decide +kernel
  have c2 : sNe (.lst 0 [.str "own", .str "size", .str "wide"]) (.lst 0 [.str "own", .str "size", .str "wide"]) = some (.sh (.bl false)) := sNe_strs _ (by simp only [okdL, okd, Bool.and_true]; decide +kernel)
  have kl : -2 ^ 62 ≤ (4 : Int) ∧ (4 : Int) < 2 ^ 62 ∧ (4 : Int).toNat ≤ lim := by unfold lim; exact ⟨by decide, by decide, by decide⟩
  have e1 : fSetL [3, 4, 5, 6] ((FE.d (fLc 0 [7] (fRange1 ((fLit (.int 4)))) (gNam 7) fYes ((FE.d (fCallM 1 F_law_number 0 2 fNil)))))) [.sh (.scr ns), .sh (.int n), .own 0 x0, s3, s4, s5, s6, s7, s8, s9, s10, s11, s12] = some (.nx, [.sh (.scr ns), .sh (.int n), .own 0 x1, .sh (.int a), .sh (.int b), .sh (.int c), .sh (.int d), .non, s8, s9, s10, s11, s12]) := by
    apply r_setL (t := 0) (ds := [.int a, .int b, .int c, .int d])
    · (with_reducible apply r_d; apply r_lc; apply r_range1; apply r_lit; assumption); exact wp7; (with_reducible assumption); exact rfl
    · rfl
  have f1 : F_law_fails 0 [.lst 0 [.tup [.str "add", .str "wide", .int d], .tup [.str "set", .str "size", .tup [.str "number", .int c]], .tup [.str "add", .str "wide", .str "size"], .tup [.str "set", .str "own", .tup [.str "plus", .str "wide", .int 0]]], .int 0] = some (.sh (.exc 1 [.lst 0 [.tup [.str "add", .str "wide", .int d], .tup [.str "set", .str "size", .tup [.str "number", .int c]], .tup [.str "add", .str "wide", .str "size"], .tup [.str "set", .str "own", .tup [.str "plus", .str "wide", .int 0]]]])) := fails_eq (xplainB 0 [.tup [.str "add", .str "wide", .int d], .tup [.str "set", .str "size", .tup [.str "number", .int c]], .tup [.str "add", .str "wide", .str "size"], .tup [.str "set", .str "own", .tup [.str "plus", .str "wide", .int 0]]] (.int 0))
  have f2 : F_law_fails 0 [.ins 0 [.lst 0 ((B19 a b).rows.map Row.e), .dct 1 (kF fd) (vF fd)], .int 0] = some (.sh (.exc 4 [.int 0])) := fails_eq (xplainL (B19 a b).rows (.dct 1 (kF fd) (vF fd)) 0)
  have g0 : onInts iGt (.int c) (.int d) = some (.sh (.bl (decide (c > d)))) := rfl
  by_cases hcd : c > d
  · rw [decide_eq_true hcd] at g0
    rw [if_pos hcd] at b2 c1
    have e7 : fApp 11 ((fTup (fCons ((fLit (.str "set"))) (fCons ((fLit (.str "own"))) (fCons ((fTup (fCons ((fLit (.str "plus"))) (fCons ((fLit (.str "wide"))) (fCons ((fLit (.int 0))) fNil))))) fNil))))) [.sh (.scr ns), .sh (.int n), .own 0 x1, .sh (.int a), .sh (.int b), .sh (.int c), .sh (.int d), .non, .sh (.tup [.str "size", .tup [.str "free", .non, .non, .lst 0 []], .tup [.str "number", .int a]]), .sh (.tup [.str "wide", .tup [.str "extend", .lst 0 [.str "size"]], .tup [.str "max", .lst 0 [.int b, .str "size"]]]), .sh (.ins 0 [.lst 0 ((B19 a b).rows.map Row.e), .dct 1 (kF fd) (vF fd)]), .own 0 ([.tup [.str "add", .str "wide", .int d], .tup [.str "set", .str "size", .tup [.str "number", .int c]], .tup [.str "add", .str "wide", .str "size"]]), s12] = some (.nx, [.sh (.scr ns), .sh (.int n), .own 0 x1, .sh (.int a), .sh (.int b), .sh (.int c), .sh (.int d), .non, .sh (.tup [.str "size", .tup [.str "free", .non, .non, .lst 0 []], .tup [.str "number", .int a]]), .sh (.tup [.str "wide", .tup [.str "extend", .lst 0 [.str "size"]], .tup [.str "max", .lst 0 [.int b, .str "size"]]]), .sh (.ins 0 [.lst 0 ((B19 a b).rows.map Row.e), .dct 1 (kF fd) (vF fd)]), .own 0 ([.tup [.str "add", .str "wide", .int d], .tup [.str "set", .str "size", .tup [.str "number", .int c]], .tup [.str "add", .str "wide", .str "size"], .tup [.str "set", .str "own", .tup [.str "plus", .str "wide", .int 0]]]), s12]) := by
      have q : fApp 11 ((fTup (fCons ((fLit (.str "set"))) (fCons ((fLit (.str "own"))) (fCons ((fTup (fCons ((fLit (.str "plus"))) (fCons ((fLit (.str "wide"))) (fCons ((fLit (.int 0))) fNil))))) fNil))))) [.sh (.scr ns), .sh (.int n), .own 0 x1, .sh (.int a), .sh (.int b), .sh (.int c), .sh (.int d), .non, .sh (.tup [.str "size", .tup [.str "free", .non, .non, .lst 0 []], .tup [.str "number", .int a]]), .sh (.tup [.str "wide", .tup [.str "extend", .lst 0 [.str "size"]], .tup [.str "max", .lst 0 [.int b, .str "size"]]]), .sh (.ins 0 [.lst 0 ((B19 a b).rows.map Row.e), .dct 1 (kF fd) (vF fd)]), .own 0 ([.tup [.str "add", .str "wide", .int d], .tup [.str "set", .str "size", .tup [.str "number", .int c]], .tup [.str "add", .str "wide", .str "size"]]), s12] = some (.nx, [.sh (.scr ns), .sh (.int n), .own 0 x1, .sh (.int a), .sh (.int b), .sh (.int c), .sh (.int d), .non, .sh (.tup [.str "size", .tup [.str "free", .non, .non, .lst 0 []], .tup [.str "number", .int a]]), .sh (.tup [.str "wide", .tup [.str "extend", .lst 0 [.str "size"]], .tup [.str "max", .lst 0 [.int b, .str "size"]]]), .sh (.ins 0 [.lst 0 ((B19 a b).rows.map Row.e), .dct 1 (kF fd) (vF fd)]), .own 0 ([.tup [.str "add", .str "wide", .int d], .tup [.str "set", .str "size", .tup [.str "number", .int c]], .tup [.str "add", .str "wide", .str "size"]] ++ [.tup [.str "set", .str "own", .tup [.str "plus", .str "wide", .int 0]]]), s12]) := by (with_reducible apply r_app); exact rfl; exact rfl; (with_reducible apply r_tup; apply r_cons; apply r_lit; apply r_cons; apply r_lit; apply r_cons; apply r_tup; apply r_cons; apply r_lit; apply r_cons; apply r_lit; apply r_cons; apply r_lit; apply r_nil); exact Nat.le_of_ble_eq_true rfl; (with_reducible apply r_nil); exact Nat.le_of_ble_eq_true rfl; exact rfl; exact rfl; exact Nat.le_of_ble_eq_true rfl; (with_reducible exact so11)
      exact q
    have e9 : fApp 12 ((fTup (fCons ((fLit (.str "set"))) (fCons ((fLit (.str "own"))) (fCons ((fTup (fCons ((fLit (.str "plus"))) (fCons ((fLit (.str "wide"))) (fCons ((fLit (.int 0))) fNil))))) fNil))))) [.sh (.scr ns), .sh (.int n), .own 0 x1, .sh (.int a), .sh (.int b), .sh (.int c), .sh (.int d), .non, .sh (.tup [.str "size", .tup [.str "free", .non, .non, .lst 0 []], .tup [.str "number", .int a]]), .sh (.tup [.str "wide", .tup [.str "extend", .lst 0 [.str "size"]], .tup [.str "max", .lst 0 [.int b, .str "size"]]]), .sh (.ins 0 [.lst 0 ((B19 a b).rows.map Row.e), .dct 1 (kF fd) (vF fd)]), .own 0 ([.tup [.str "add", .str "wide", .int d], .tup [.str "set", .str "size", .tup [.str "number", .int c]], .tup [.str "add", .str "wide", .str "size"], .tup [.str "set", .str "own", .tup [.str "plus", .str "wide", .int 0]]]), .own 0 [.tup [.str "set", .str "size", .tup [.str "number", .int c]], .tup [.str "add", .str "wide", .int c]]] = some (.nx, [.sh (.scr ns), .sh (.int n), .own 0 x1, .sh (.int a), .sh (.int b), .sh (.int c), .sh (.int d), .non, .sh (.tup [.str "size", .tup [.str "free", .non, .non, .lst 0 []], .tup [.str "number", .int a]]), .sh (.tup [.str "wide", .tup [.str "extend", .lst 0 [.str "size"]], .tup [.str "max", .lst 0 [.int b, .str "size"]]]), .sh (.ins 0 [.lst 0 ((B19 a b).rows.map Row.e), .dct 1 (kF fd) (vF fd)]), .own 0 ([.tup [.str "add", .str "wide", .int d], .tup [.str "set", .str "size", .tup [.str "number", .int c]], .tup [.str "add", .str "wide", .str "size"], .tup [.str "set", .str "own", .tup [.str "plus", .str "wide", .int 0]]]), .own 0 [.tup [.str "set", .str "size", .tup [.str "number", .int c]], .tup [.str "add", .str "wide", .int c], .tup [.str "set", .str "own", .tup [.str "plus", .str "wide", .int 0]]]]) := by
      have q : fApp 12 ((fTup (fCons ((fLit (.str "set"))) (fCons ((fLit (.str "own"))) (fCons ((fTup (fCons ((fLit (.str "plus"))) (fCons ((fLit (.str "wide"))) (fCons ((fLit (.int 0))) fNil))))) fNil))))) [.sh (.scr ns), .sh (.int n), .own 0 x1, .sh (.int a), .sh (.int b), .sh (.int c), .sh (.int d), .non, .sh (.tup [.str "size", .tup [.str "free", .non, .non, .lst 0 []], .tup [.str "number", .int a]]), .sh (.tup [.str "wide", .tup [.str "extend", .lst 0 [.str "size"]], .tup [.str "max", .lst 0 [.int b, .str "size"]]]), .sh (.ins 0 [.lst 0 ((B19 a b).rows.map Row.e), .dct 1 (kF fd) (vF fd)]), .own 0 ([.tup [.str "add", .str "wide", .int d], .tup [.str "set", .str "size", .tup [.str "number", .int c]], .tup [.str "add", .str "wide", .str "size"], .tup [.str "set", .str "own", .tup [.str "plus", .str "wide", .int 0]]]), .own 0 [.tup [.str "set", .str "size", .tup [.str "number", .int c]], .tup [.str "add", .str "wide", .int c]]] = some (.nx, [.sh (.scr ns), .sh (.int n), .own 0 x1, .sh (.int a), .sh (.int b), .sh (.int c), .sh (.int d), .non, .sh (.tup [.str "size", .tup [.str "free", .non, .non, .lst 0 []], .tup [.str "number", .int a]]), .sh (.tup [.str "wide", .tup [.str "extend", .lst 0 [.str "size"]], .tup [.str "max", .lst 0 [.int b, .str "size"]]]), .sh (.ins 0 [.lst 0 ((B19 a b).rows.map Row.e), .dct 1 (kF fd) (vF fd)]), .own 0 ([.tup [.str "add", .str "wide", .int d], .tup [.str "set", .str "size", .tup [.str "number", .int c]], .tup [.str "add", .str "wide", .str "size"], .tup [.str "set", .str "own", .tup [.str "plus", .str "wide", .int 0]]]), .own 0 ([.tup [.str "set", .str "size", .tup [.str "number", .int c]], .tup [.str "add", .str "wide", .int c]] ++ [.tup [.str "set", .str "own", .tup [.str "plus", .str "wide", .int 0]]])]) := by (with_reducible apply r_app); exact rfl; exact rfl; (with_reducible apply r_tup; apply r_cons; apply r_lit; apply r_cons; apply r_lit; apply r_cons; apply r_tup; apply r_cons; apply r_lit; apply r_cons; apply r_lit; apply r_cons; apply r_lit; apply r_nil); exact Nat.le_of_ble_eq_true rfl; (with_reducible apply r_nil); exact Nat.le_of_ble_eq_true rfl; exact rfl; exact rfl; exact Nat.le_of_ble_eq_true rfl; (with_reducible exact so12)
      exact q
    have k1 : fPick 2 [1, 0] (fCons ((fVar 11)) (fCons ((fVar 10)) fNil)) [.sh (.scr ns), .sh (.int n), .own 0 x1, .sh (.int a), .sh (.int b), .sh (.int c), .sh (.int d), .non, .sh (.tup [.str "size", .tup [.str "free", .non, .non, .lst 0 []], .tup [.str "number", .int a]]), .sh (.tup [.str "wide", .tup [.str "extend", .lst 0 [.str "size"]], .tup [.str "max", .lst 0 [.int b, .str "size"]]]), .sh (.ins 0 [.lst 0 ((B19 a b).rows.map Row.e), .dct 1 (kF fd) (vF fd)]), .own 0 [.tup [.str "add", .str "wide", .int d], .tup [.str "set", .str "size", .tup [.str "number", .int c]], .tup [.str "add", .str "wide", .str "size"], .tup [.str "set", .str "own", .tup [.str "plus", .str "wide", .int 0]]], .own 0 [.tup [.str "set", .str "size", .tup [.str "number", .int c]], .tup [.str "add", .str "wide", .int c], .tup [.str "set", .str "own", .tup [.str "plus", .str "wide", .int 0]]]] = some ([.ins 0 [.lst 0 ((B19 a b).rows.map Row.e), .dct 1 (kF fd) (vF fd)], .lst 0 [.tup [.str "add", .str "wide", .int d], .tup [.str "set", .str "size", .tup [.str "number", .int c]], .tup [.str "add", .str "wide", .str "size"], .tup [.str "set", .str "own", .tup [.str "plus", .str "wide", .int 0]]]], [.sh (.scr ns), .sh (.int n), .own 0 x1, .sh (.int a), .sh (.int b), .sh (.int c), .sh (.int d), .non, .sh (.tup [.str "size", .tup [.str "free", .non, .non, .lst 0 []], .tup [.str "number", .int a]]), .sh (.tup [.str "wide", .tup [.str "extend", .lst 0 [.str "size"]], .tup [.str "max", .lst 0 [.int b, .str "size"]]]), .sh (.ins 0 [.lst 0 ((B19 a b).rows.map Row.e), .dct 1 (kF fd) (vF fd)]), .sh (.lst 0 [.tup [.str "add", .str "wide", .int d], .tup [.str "set", .str "size", .tup [.str "number", .int c]], .tup [.str "add", .str "wide", .str "size"], .tup [.str "set", .str "own", .tup [.str "plus", .str "wide", .int 0]]]), .own 0 [.tup [.str "set", .str "size", .tup [.str "number", .int c]], .tup [.str "add", .str "wide", .int c], .tup [.str "set", .str "own", .tup [.str "plus", .str "wide", .int 0]]]]) := by
      refine pick10 ?_
      (with_reducible apply r_cons; apply r_var); exact rfl; exact rfl; (with_reducible exact st11; apply r_cons; apply r_var); exact rfl; exact rfl; (with_reducible exact st10; apply r_nil)
    have k2 : fPick 2 [0, 1] (fCons ((fVar 10)) (fCons ((fVar 11)) fNil)) [.sh (.scr ns), .sh (.int n), .own 0 x1, .sh (.int a), .sh (.int b), .sh (.int c), .sh (.int d), .non, .sh (.tup [.str "size", .tup [.str "free", .non, .non, .lst 0 []], .tup [.str "number", .int a]]), .sh (.tup [.str "wide", .tup [.str "extend", .lst 0 [.str "size"]], .tup [.str "max", .lst 0 [.int b, .str "size"]]]), .sh (.ins 0 [.lst 0 ((B19 a b).rows.map Row.e), .dct 1 (kF fd) (vF fd)]), .sh (.lst 0 [.tup [.str "add", .str "wide", .int d], .tup [.str "set", .str "size", .tup [.str "number", .int c]], .tup [.str "add", .str "wide", .str "size"], .tup [.str "set", .str "own", .tup [.str "plus", .str "wide", .int 0]]]), .own 0 [.tup [.str "set", .str "size", .tup [.str "number", .int c]], .tup [.str "add", .str "wide", .int c], .tup [.str "set", .str "own", .tup [.str "plus", .str "wide", .int 0]]]] = some ([.ins 0 [.lst 0 ((B19 a b).rows.map Row.e), .dct 1 (kF fd) (vF fd)], .lst 0 [.tup [.str "add", .str "wide", .int d], .tup [.str "set", .str "size", .tup [.str "number", .int c]], .tup [.str "add", .str "wide", .str "size"], .tup [.str "set", .str "own", .tup [.str "plus", .str "wide", .int 0]]]], [.sh (.scr ns), .sh (.int n), .own 0 x1, .sh (.int a), .sh (.int b), .sh (.int c), .sh (.int d), .non, .sh (.tup [.str "size", .tup [.str "free", .non, .non, .lst 0 []], .tup [.str "number", .int a]]), .sh (.tup [.str "wide", .tup [.str "extend", .lst 0 [.str "size"]], .tup [.str "max", .lst 0 [.int b, .str "size"]]]), .sh (.ins 0 [.lst 0 ((B19 a b).rows.map Row.e), .dct 1 (kF fd) (vF fd)]), .sh (.lst 0 [.tup [.str "add", .str "wide", .int d], .tup [.str "set", .str "size", .tup [.str "number", .int c]], .tup [.str "add", .str "wide", .str "size"], .tup [.str "set", .str "own", .tup [.str "plus", .str "wide", .int 0]]]), .own 0 [.tup [.str "set", .str "size", .tup [.str "number", .int c]], .tup [.str "add", .str "wide", .int c], .tup [.str "set", .str "own", .tup [.str "plus", .str "wide", .int 0]]]]) := by
      refine pick01 ?_
      (with_reducible apply r_cons; apply r_var); exact rfl; exact rfl; (with_reducible exact st10; apply r_cons; apply r_var); exact rfl; exact rfl; (with_reducible exact st11; apply r_nil)
    have k3 : fPick 2 [1, 0] (fCons ((fVar 11)) (fCons ((fVar 10)) fNil)) [.sh (.scr ns), .sh (.int n), .own 0 x1, .sh (.int a), .sh (.int b), .sh (.int c), .sh (.int d), .non, .sh (.tup [.str "size", .tup [.str "free", .non, .non, .lst 0 []], .tup [.str "number", .int a]]), .sh (.tup [.str "wide", .tup [.str "extend", .lst 0 [.str "size"]], .tup [.str "max", .lst 0 [.int b, .str "size"]]]), .sh (.ins 0 [.lst 0 ((B19 a b).rows.map Row.e), .dct 1 (kF fd) (vF fd)]), .sh (.lst 0 [.tup [.str "add", .str "wide", .int d], .tup [.str "set", .str "size", .tup [.str "number", .int c]], .tup [.str "add", .str "wide", .str "size"], .tup [.str "set", .str "own", .tup [.str "plus", .str "wide", .int 0]]]), .own 0 [.tup [.str "set", .str "size", .tup [.str "number", .int c]], .tup [.str "add", .str "wide", .int c], .tup [.str "set", .str "own", .tup [.str "plus", .str "wide", .int 0]]]] = some ([.ins 0 [.lst 0 ((B19 a b).rows.map Row.e), .dct 1 (kF fd) (vF fd)], .lst 0 [.tup [.str "add", .str "wide", .int d], .tup [.str "set", .str "size", .tup [.str "number", .int c]], .tup [.str "add", .str "wide", .str "size"], .tup [.str "set", .str "own", .tup [.str "plus", .str "wide", .int 0]]]], [.sh (.scr ns), .sh (.int n), .own 0 x1, .sh (.int a), .sh (.int b), .sh (.int c), .sh (.int d), .non, .sh (.tup [.str "size", .tup [.str "free", .non, .non, .lst 0 []], .tup [.str "number", .int a]]), .sh (.tup [.str "wide", .tup [.str "extend", .lst 0 [.str "size"]], .tup [.str "max", .lst 0 [.int b, .str "size"]]]), .sh (.ins 0 [.lst 0 ((B19 a b).rows.map Row.e), .dct 1 (kF fd) (vF fd)]), .sh (.lst 0 [.tup [.str "add", .str "wide", .int d], .tup [.str "set", .str "size", .tup [.str "number", .int c]], .tup [.str "add", .str "wide", .str "size"], .tup [.str "set", .str "own", .tup [.str "plus", .str "wide", .int 0]]]), .own 0 [.tup [.str "set", .str "size", .tup [.str "number", .int c]], .tup [.str "add", .str "wide", .int c], .tup [.str "set", .str "own", .tup [.str "plus", .str "wide", .int 0]]]]) := by
      refine pick10 ?_
      (with_reducible apply r_cons; apply r_var); exact rfl; exact rfl; (with_reducible exact st11; apply r_cons; apply r_var); exact rfl; exact rfl; (with_reducible exact st10; apply r_nil)
    refine ⟨.own 0 x1, .sh (.int a), .sh (.int b), .sh (.int c), .sh (.int d), .non, .sh (.tup [.str "size", .tup [.str "free", .non, .non, .lst 0 []], .tup [.str "number", .int a]]), .sh (.tup [.str "wide", .tup [.str "extend", .lst 0 [.str "size"]], .tup [.str "max", .lst 0 [.int b, .str "size"]]]), .sh (.ins 0 [.lst 0 ((B19 a b).rows.map Row.e), .dct 1 (kF fd) (vF fd)]), .sh (.lst 0 [.tup [.str "add", .str "wide", .int d], .tup [.str "set", .str "size", .tup [.str "number", .int c]], .tup [.str "add", .str "wide", .str "size"], .tup [.str "set", .str "own", .tup [.str "plus", .str "wide", .int 0]]]), .own 0 [.tup [.str "set", .str "size", .tup [.str "number", .int c]], .tup [.str "add", .str "wide", .int c], .tup [.str "set", .str "own", .tup [.str "plus", .str "wide", .int 0]]], ?_⟩
    unfold lb_law_0
    apply r_then
    · (with_reducible apply r_set; apply r_call; apply r_cons; apply r_var); exact rfl; exact rfl; (with_reducible exact st0; apply r_cons; apply r_var); exact rfl; exact rfl
      (with_reducible exact st1; apply r_nil); exact rfl; (with_reducible assumption; exact st2)
    apply c_nx
    apply r_then
    · (with_reducible assumption)
    apply c_nx
    apply r_then
    · (with_reducible apply r_set; apply r_toE; apply r_tup; apply r_cons; apply r_lit; apply r_cons; apply r_tup; apply r_cons; apply r_lit; apply r_cons; apply r_lit; apply r_cons; apply r_lit; apply r_cons)
      (with_reducible apply r_d; apply r_lst; apply r_nil); exact Nat.le_of_ble_eq_true rfl; exact rfl; (with_reducible apply r_nil); exact Nat.le_of_ble_eq_true rfl
      (with_reducible apply r_cons; apply r_tup; apply r_cons; apply r_lit; apply r_cons; apply r_var); exact rfl; exact rfl; (with_reducible exact st3; apply r_nil)
      exact Nat.le_of_ble_eq_true rfl; (with_reducible apply r_nil); exact Nat.le_of_ble_eq_true rfl; (with_reducible exact st8)
    apply c_nx
    apply r_then
    · (with_reducible apply r_set; apply r_toE; apply r_tup; apply r_cons; apply r_lit; apply r_cons; apply r_tup; apply r_cons; apply r_lit; apply r_cons; apply r_d; apply r_lst; apply r_cons; apply r_lit)
      (with_reducible apply r_nil); exact Nat.le_of_ble_eq_true rfl; exact rfl; (with_reducible apply r_nil); exact Nat.le_of_ble_eq_true rfl
      (with_reducible apply r_cons; apply r_tup; apply r_cons; apply r_lit; apply r_cons; apply r_d; apply r_lst; apply r_cons; apply r_var); exact rfl; exact rfl
      (with_reducible exact st4; apply r_cons; apply r_lit; apply r_nil); exact Nat.le_of_ble_eq_true rfl; exact rfl; (with_reducible apply r_nil); exact Nat.le_of_ble_eq_true rfl
      (with_reducible apply r_nil); exact Nat.le_of_ble_eq_true rfl; (with_reducible exact st9)
    apply c_nx
    apply r_then
    · (with_reducible apply r_set; apply r_toE; apply r_make; apply r_cons; apply r_d; apply r_lst; apply r_cons; apply r_var); exact rfl; exact rfl
      (with_reducible exact st8; apply r_cons; apply r_var); exact rfl; exact rfl
      (with_reducible exact st9; apply r_cons; apply r_tup; apply r_cons; apply r_lit; apply r_cons; apply r_tup; apply r_cons; apply r_lit; apply r_cons; apply r_d; apply r_lst; apply r_cons; apply r_lit)
      (with_reducible apply r_cons; apply r_lit; apply r_nil); exact Nat.le_of_ble_eq_true rfl; exact rfl; (with_reducible apply r_nil); exact Nat.le_of_ble_eq_true rfl
      (with_reducible apply r_cons; apply r_tup; apply r_cons; apply r_lit; apply r_cons; apply r_lit; apply r_cons; apply r_lit; apply r_nil); exact Nat.le_of_ble_eq_true rfl
      (with_reducible apply r_nil); exact Nat.le_of_ble_eq_true rfl; (with_reducible apply r_nil); exact Nat.le_of_ble_eq_true rfl; exact rfl; (with_reducible apply r_nil); exact rfl
      (with_reducible assumption; exact st10)
    apply c_nx
    apply r_then
    · (with_reducible apply r_set; apply r_lst; apply r_cons; apply r_tup; apply r_cons; apply r_lit; apply r_cons; apply r_lit; apply r_cons; apply r_var); exact rfl; exact rfl
      (with_reducible exact st6; apply r_nil); exact Nat.le_of_ble_eq_true rfl
      (with_reducible apply r_cons; apply r_tup; apply r_cons; apply r_lit; apply r_cons; apply r_lit; apply r_cons; apply r_tup; apply r_cons; apply r_lit; apply r_cons; apply r_var); exact rfl
      exact rfl; (with_reducible exact st5; apply r_nil); exact Nat.le_of_ble_eq_true rfl; (with_reducible apply r_nil); exact Nat.le_of_ble_eq_true rfl
      (with_reducible apply r_cons; apply r_tup; apply r_cons; apply r_lit; apply r_cons; apply r_lit; apply r_cons; apply r_lit; apply r_nil); exact Nat.le_of_ble_eq_true rfl
      (with_reducible apply r_nil); exact Nat.le_of_ble_eq_true rfl; (with_reducible exact st11)
    apply c_nx
    apply r_then
    · exact e7
    apply c_nx
    apply r_then
    · (with_reducible apply r_set; apply r_lst; apply r_cons; apply r_tup; apply r_cons; apply r_lit; apply r_cons; apply r_lit; apply r_cons; apply r_tup; apply r_cons; apply r_lit; apply r_cons; apply r_var)
      exact rfl; exact rfl; (with_reducible exact st5; apply r_nil); exact Nat.le_of_ble_eq_true rfl; (with_reducible apply r_nil); exact Nat.le_of_ble_eq_true rfl
      (with_reducible apply r_cons; apply r_tup; apply r_cons; apply r_lit; apply r_cons; apply r_lit; apply r_cons; apply r_d; apply r_ite; apply r_t; apply r_d; apply r_op2P; apply r_see)
      exact rfl; exact rfl; (with_reducible apply r_see); exact rfl; exact rfl; (with_reducible apply r_see); exact rfl; exact rfl; (with_reducible assumption); exact rfl
      (with_reducible apply c_t; rfl; apply r_toE; apply r_var); exact rfl; exact rfl; (with_reducible exact st5); exact rfl; (with_reducible apply r_nil); exact Nat.le_of_ble_eq_true rfl
      (with_reducible apply r_nil); exact Nat.le_of_ble_eq_true rfl; (with_reducible exact st12)
    apply c_nx
    apply r_then
    · exact e9
    apply c_nx
    (with_reducible apply r_then; apply r_if; apply r_or; apply r_t; apply r_d; apply r_op2; apply r_d; apply r_call; assumption); exact rfl; (with_reducible assumption); exact rfl
    (with_reducible apply r_see); exact rfl; exact rfl; (with_reducible assumption); exact rfl
    (with_reducible apply c_f; rfl; apply r_t; apply r_d; apply r_op2; apply r_d; apply r_call; assumption); exact rfl; (with_reducible assumption); exact rfl; (with_reducible apply r_see)
    exact rfl; exact rfl; (with_reducible assumption); exact rfl
    (with_reducible apply c_f; rfl; apply r_skip; apply c_nx; apply r_then; apply r_if; apply r_t; apply r_d; apply r_op2; apply r_d; apply r_call; assumption); exact rfl
    (with_reducible assumption); exact rfl; (with_reducible apply r_d; apply r_lst; apply r_cons; apply r_lit; apply r_cons; apply r_lit; apply r_cons; apply r_lit; apply r_nil)
    exact Nat.le_of_ble_eq_true rfl; exact rfl; (with_reducible assumption); exact rfl
    (with_reducible apply c_f; rfl; apply r_skip; apply c_nx; apply r_then; apply r_if; apply r_or; apply r_not; apply r_t; apply r_d; apply r_op1; apply r_d; apply r_call; apply r_cons; apply r_var)
    exact rfl; exact rfl; (with_reducible exact st11; apply r_cons; apply r_lit; apply r_nil); exact rfl; (with_reducible assumption); exact rfl; exact rfl; exact rfl; exact rfl
    (with_reducible apply c_f); exact rfl; (with_reducible apply r_not; apply r_t; apply r_d; apply r_op1; apply r_d; apply r_call; apply r_cons; apply r_var); exact rfl; exact rfl
    (with_reducible exact st10; apply r_cons; apply r_lit; apply r_nil); exact rfl; (with_reducible assumption); exact rfl; exact rfl; exact rfl; exact rfl; (with_reducible apply c_f)
    decide +kernel; (with_reducible apply r_skip; apply c_nx; apply r_skip)
  · rw [decide_eq_false hcd] at g0
    rw [if_neg hcd] at b2 c1
    have e7 : fApp 11 ((fTup (fCons ((fLit (.str "set"))) (fCons ((fLit (.str "own"))) (fCons ((fTup (fCons ((fLit (.str "plus"))) (fCons ((fLit (.str "wide"))) (fCons ((fLit (.int 0))) fNil))))) fNil))))) [.sh (.scr ns), .sh (.int n), .own 0 x1, .sh (.int a), .sh (.int b), .sh (.int c), .sh (.int d), .non, .sh (.tup [.str "size", .tup [.str "free", .non, .non, .lst 0 []], .tup [.str "number", .int a]]), .sh (.tup [.str "wide", .tup [.str "extend", .lst 0 [.str "size"]], .tup [.str "max", .lst 0 [.int b, .str "size"]]]), .sh (.ins 0 [.lst 0 ((B19 a b).rows.map Row.e), .dct 1 (kF fd) (vF fd)]), .own 0 ([.tup [.str "add", .str "wide", .int d], .tup [.str "set", .str "size", .tup [.str "number", .int c]], .tup [.str "add", .str "wide", .str "size"]]), s12] = some (.nx, [.sh (.scr ns), .sh (.int n), .own 0 x1, .sh (.int a), .sh (.int b), .sh (.int c), .sh (.int d), .non, .sh (.tup [.str "size", .tup [.str "free", .non, .non, .lst 0 []], .tup [.str "number", .int a]]), .sh (.tup [.str "wide", .tup [.str "extend", .lst 0 [.str "size"]], .tup [.str "max", .lst 0 [.int b, .str "size"]]]), .sh (.ins 0 [.lst 0 ((B19 a b).rows.map Row.e), .dct 1 (kF fd) (vF fd)]), .own 0 ([.tup [.str "add", .str "wide", .int d], .tup [.str "set", .str "size", .tup [.str "number", .int c]], .tup [.str "add", .str "wide", .str "size"], .tup [.str "set", .str "own", .tup [.str "plus", .str "wide", .int 0]]]), s12]) := by
      have q : fApp 11 ((fTup (fCons ((fLit (.str "set"))) (fCons ((fLit (.str "own"))) (fCons ((fTup (fCons ((fLit (.str "plus"))) (fCons ((fLit (.str "wide"))) (fCons ((fLit (.int 0))) fNil))))) fNil))))) [.sh (.scr ns), .sh (.int n), .own 0 x1, .sh (.int a), .sh (.int b), .sh (.int c), .sh (.int d), .non, .sh (.tup [.str "size", .tup [.str "free", .non, .non, .lst 0 []], .tup [.str "number", .int a]]), .sh (.tup [.str "wide", .tup [.str "extend", .lst 0 [.str "size"]], .tup [.str "max", .lst 0 [.int b, .str "size"]]]), .sh (.ins 0 [.lst 0 ((B19 a b).rows.map Row.e), .dct 1 (kF fd) (vF fd)]), .own 0 ([.tup [.str "add", .str "wide", .int d], .tup [.str "set", .str "size", .tup [.str "number", .int c]], .tup [.str "add", .str "wide", .str "size"]]), s12] = some (.nx, [.sh (.scr ns), .sh (.int n), .own 0 x1, .sh (.int a), .sh (.int b), .sh (.int c), .sh (.int d), .non, .sh (.tup [.str "size", .tup [.str "free", .non, .non, .lst 0 []], .tup [.str "number", .int a]]), .sh (.tup [.str "wide", .tup [.str "extend", .lst 0 [.str "size"]], .tup [.str "max", .lst 0 [.int b, .str "size"]]]), .sh (.ins 0 [.lst 0 ((B19 a b).rows.map Row.e), .dct 1 (kF fd) (vF fd)]), .own 0 ([.tup [.str "add", .str "wide", .int d], .tup [.str "set", .str "size", .tup [.str "number", .int c]], .tup [.str "add", .str "wide", .str "size"]] ++ [.tup [.str "set", .str "own", .tup [.str "plus", .str "wide", .int 0]]]), s12]) := by (with_reducible apply r_app); exact rfl; exact rfl; (with_reducible apply r_tup; apply r_cons; apply r_lit; apply r_cons; apply r_lit; apply r_cons; apply r_tup; apply r_cons; apply r_lit; apply r_cons; apply r_lit; apply r_cons; apply r_lit; apply r_nil); exact Nat.le_of_ble_eq_true rfl; (with_reducible apply r_nil); exact Nat.le_of_ble_eq_true rfl; exact rfl; exact rfl; exact Nat.le_of_ble_eq_true rfl; (with_reducible exact so11)
      exact q
    have e9 : fApp 12 ((fTup (fCons ((fLit (.str "set"))) (fCons ((fLit (.str "own"))) (fCons ((fTup (fCons ((fLit (.str "plus"))) (fCons ((fLit (.str "wide"))) (fCons ((fLit (.int 0))) fNil))))) fNil))))) [.sh (.scr ns), .sh (.int n), .own 0 x1, .sh (.int a), .sh (.int b), .sh (.int c), .sh (.int d), .non, .sh (.tup [.str "size", .tup [.str "free", .non, .non, .lst 0 []], .tup [.str "number", .int a]]), .sh (.tup [.str "wide", .tup [.str "extend", .lst 0 [.str "size"]], .tup [.str "max", .lst 0 [.int b, .str "size"]]]), .sh (.ins 0 [.lst 0 ((B19 a b).rows.map Row.e), .dct 1 (kF fd) (vF fd)]), .own 0 ([.tup [.str "add", .str "wide", .int d], .tup [.str "set", .str "size", .tup [.str "number", .int c]], .tup [.str "add", .str "wide", .str "size"], .tup [.str "set", .str "own", .tup [.str "plus", .str "wide", .int 0]]]), .own 0 [.tup [.str "set", .str "size", .tup [.str "number", .int c]], .tup [.str "add", .str "wide", .int d]]] = some (.nx, [.sh (.scr ns), .sh (.int n), .own 0 x1, .sh (.int a), .sh (.int b), .sh (.int c), .sh (.int d), .non, .sh (.tup [.str "size", .tup [.str "free", .non, .non, .lst 0 []], .tup [.str "number", .int a]]), .sh (.tup [.str "wide", .tup [.str "extend", .lst 0 [.str "size"]], .tup [.str "max", .lst 0 [.int b, .str "size"]]]), .sh (.ins 0 [.lst 0 ((B19 a b).rows.map Row.e), .dct 1 (kF fd) (vF fd)]), .own 0 ([.tup [.str "add", .str "wide", .int d], .tup [.str "set", .str "size", .tup [.str "number", .int c]], .tup [.str "add", .str "wide", .str "size"], .tup [.str "set", .str "own", .tup [.str "plus", .str "wide", .int 0]]]), .own 0 [.tup [.str "set", .str "size", .tup [.str "number", .int c]], .tup [.str "add", .str "wide", .int d], .tup [.str "set", .str "own", .tup [.str "plus", .str "wide", .int 0]]]]) := by
      have q : fApp 12 ((fTup (fCons ((fLit (.str "set"))) (fCons ((fLit (.str "own"))) (fCons ((fTup (fCons ((fLit (.str "plus"))) (fCons ((fLit (.str "wide"))) (fCons ((fLit (.int 0))) fNil))))) fNil))))) [.sh (.scr ns), .sh (.int n), .own 0 x1, .sh (.int a), .sh (.int b), .sh (.int c), .sh (.int d), .non, .sh (.tup [.str "size", .tup [.str "free", .non, .non, .lst 0 []], .tup [.str "number", .int a]]), .sh (.tup [.str "wide", .tup [.str "extend", .lst 0 [.str "size"]], .tup [.str "max", .lst 0 [.int b, .str "size"]]]), .sh (.ins 0 [.lst 0 ((B19 a b).rows.map Row.e), .dct 1 (kF fd) (vF fd)]), .own 0 ([.tup [.str "add", .str "wide", .int d], .tup [.str "set", .str "size", .tup [.str "number", .int c]], .tup [.str "add", .str "wide", .str "size"], .tup [.str "set", .str "own", .tup [.str "plus", .str "wide", .int 0]]]), .own 0 [.tup [.str "set", .str "size", .tup [.str "number", .int c]], .tup [.str "add", .str "wide", .int d]]] = some (.nx, [.sh (.scr ns), .sh (.int n), .own 0 x1, .sh (.int a), .sh (.int b), .sh (.int c), .sh (.int d), .non, .sh (.tup [.str "size", .tup [.str "free", .non, .non, .lst 0 []], .tup [.str "number", .int a]]), .sh (.tup [.str "wide", .tup [.str "extend", .lst 0 [.str "size"]], .tup [.str "max", .lst 0 [.int b, .str "size"]]]), .sh (.ins 0 [.lst 0 ((B19 a b).rows.map Row.e), .dct 1 (kF fd) (vF fd)]), .own 0 ([.tup [.str "add", .str "wide", .int d], .tup [.str "set", .str "size", .tup [.str "number", .int c]], .tup [.str "add", .str "wide", .str "size"], .tup [.str "set", .str "own", .tup [.str "plus", .str "wide", .int 0]]]), .own 0 ([.tup [.str "set", .str "size", .tup [.str "number", .int c]], .tup [.str "add", .str "wide", .int d]] ++ [.tup [.str "set", .str "own", .tup [.str "plus", .str "wide", .int 0]]])]) := by (with_reducible apply r_app); exact rfl; exact rfl; (with_reducible apply r_tup; apply r_cons; apply r_lit; apply r_cons; apply r_lit; apply r_cons; apply r_tup; apply r_cons; apply r_lit; apply r_cons; apply r_lit; apply r_cons; apply r_lit; apply r_nil); exact Nat.le_of_ble_eq_true rfl; (with_reducible apply r_nil); exact Nat.le_of_ble_eq_true rfl; exact rfl; exact rfl; exact Nat.le_of_ble_eq_true rfl; (with_reducible exact so12)
      exact q
    have k1 : fPick 2 [1, 0] (fCons ((fVar 11)) (fCons ((fVar 10)) fNil)) [.sh (.scr ns), .sh (.int n), .own 0 x1, .sh (.int a), .sh (.int b), .sh (.int c), .sh (.int d), .non, .sh (.tup [.str "size", .tup [.str "free", .non, .non, .lst 0 []], .tup [.str "number", .int a]]), .sh (.tup [.str "wide", .tup [.str "extend", .lst 0 [.str "size"]], .tup [.str "max", .lst 0 [.int b, .str "size"]]]), .sh (.ins 0 [.lst 0 ((B19 a b).rows.map Row.e), .dct 1 (kF fd) (vF fd)]), .own 0 [.tup [.str "add", .str "wide", .int d], .tup [.str "set", .str "size", .tup [.str "number", .int c]], .tup [.str "add", .str "wide", .str "size"], .tup [.str "set", .str "own", .tup [.str "plus", .str "wide", .int 0]]], .own 0 [.tup [.str "set", .str "size", .tup [.str "number", .int c]], .tup [.str "add", .str "wide", .int d], .tup [.str "set", .str "own", .tup [.str "plus", .str "wide", .int 0]]]] = some ([.ins 0 [.lst 0 ((B19 a b).rows.map Row.e), .dct 1 (kF fd) (vF fd)], .lst 0 [.tup [.str "add", .str "wide", .int d], .tup [.str "set", .str "size", .tup [.str "number", .int c]], .tup [.str "add", .str "wide", .str "size"], .tup [.str "set", .str "own", .tup [.str "plus", .str "wide", .int 0]]]], [.sh (.scr ns), .sh (.int n), .own 0 x1, .sh (.int a), .sh (.int b), .sh (.int c), .sh (.int d), .non, .sh (.tup [.str "size", .tup [.str "free", .non, .non, .lst 0 []], .tup [.str "number", .int a]]), .sh (.tup [.str "wide", .tup [.str "extend", .lst 0 [.str "size"]], .tup [.str "max", .lst 0 [.int b, .str "size"]]]), .sh (.ins 0 [.lst 0 ((B19 a b).rows.map Row.e), .dct 1 (kF fd) (vF fd)]), .sh (.lst 0 [.tup [.str "add", .str "wide", .int d], .tup [.str "set", .str "size", .tup [.str "number", .int c]], .tup [.str "add", .str "wide", .str "size"], .tup [.str "set", .str "own", .tup [.str "plus", .str "wide", .int 0]]]), .own 0 [.tup [.str "set", .str "size", .tup [.str "number", .int c]], .tup [.str "add", .str "wide", .int d], .tup [.str "set", .str "own", .tup [.str "plus", .str "wide", .int 0]]]]) := by
      refine pick10 ?_
      (with_reducible apply r_cons; apply r_var); exact rfl; exact rfl; (with_reducible exact st11; apply r_cons; apply r_var); exact rfl; exact rfl; (with_reducible exact st10; apply r_nil)
    have k2 : fPick 2 [0, 1] (fCons ((fVar 10)) (fCons ((fVar 11)) fNil)) [.sh (.scr ns), .sh (.int n), .own 0 x1, .sh (.int a), .sh (.int b), .sh (.int c), .sh (.int d), .non, .sh (.tup [.str "size", .tup [.str "free", .non, .non, .lst 0 []], .tup [.str "number", .int a]]), .sh (.tup [.str "wide", .tup [.str "extend", .lst 0 [.str "size"]], .tup [.str "max", .lst 0 [.int b, .str "size"]]]), .sh (.ins 0 [.lst 0 ((B19 a b).rows.map Row.e), .dct 1 (kF fd) (vF fd)]), .sh (.lst 0 [.tup [.str "add", .str "wide", .int d], .tup [.str "set", .str "size", .tup [.str "number", .int c]], .tup [.str "add", .str "wide", .str "size"], .tup [.str "set", .str "own", .tup [.str "plus", .str "wide", .int 0]]]), .own 0 [.tup [.str "set", .str "size", .tup [.str "number", .int c]], .tup [.str "add", .str "wide", .int d], .tup [.str "set", .str "own", .tup [.str "plus", .str "wide", .int 0]]]] = some ([.ins 0 [.lst 0 ((B19 a b).rows.map Row.e), .dct 1 (kF fd) (vF fd)], .lst 0 [.tup [.str "add", .str "wide", .int d], .tup [.str "set", .str "size", .tup [.str "number", .int c]], .tup [.str "add", .str "wide", .str "size"], .tup [.str "set", .str "own", .tup [.str "plus", .str "wide", .int 0]]]], [.sh (.scr ns), .sh (.int n), .own 0 x1, .sh (.int a), .sh (.int b), .sh (.int c), .sh (.int d), .non, .sh (.tup [.str "size", .tup [.str "free", .non, .non, .lst 0 []], .tup [.str "number", .int a]]), .sh (.tup [.str "wide", .tup [.str "extend", .lst 0 [.str "size"]], .tup [.str "max", .lst 0 [.int b, .str "size"]]]), .sh (.ins 0 [.lst 0 ((B19 a b).rows.map Row.e), .dct 1 (kF fd) (vF fd)]), .sh (.lst 0 [.tup [.str "add", .str "wide", .int d], .tup [.str "set", .str "size", .tup [.str "number", .int c]], .tup [.str "add", .str "wide", .str "size"], .tup [.str "set", .str "own", .tup [.str "plus", .str "wide", .int 0]]]), .own 0 [.tup [.str "set", .str "size", .tup [.str "number", .int c]], .tup [.str "add", .str "wide", .int d], .tup [.str "set", .str "own", .tup [.str "plus", .str "wide", .int 0]]]]) := by
      refine pick01 ?_
      (with_reducible apply r_cons; apply r_var); exact rfl; exact rfl; (with_reducible exact st10; apply r_cons; apply r_var); exact rfl; exact rfl; (with_reducible exact st11; apply r_nil)
    have k3 : fPick 2 [1, 0] (fCons ((fVar 11)) (fCons ((fVar 10)) fNil)) [.sh (.scr ns), .sh (.int n), .own 0 x1, .sh (.int a), .sh (.int b), .sh (.int c), .sh (.int d), .non, .sh (.tup [.str "size", .tup [.str "free", .non, .non, .lst 0 []], .tup [.str "number", .int a]]), .sh (.tup [.str "wide", .tup [.str "extend", .lst 0 [.str "size"]], .tup [.str "max", .lst 0 [.int b, .str "size"]]]), .sh (.ins 0 [.lst 0 ((B19 a b).rows.map Row.e), .dct 1 (kF fd) (vF fd)]), .sh (.lst 0 [.tup [.str "add", .str "wide", .int d], .tup [.str "set", .str "size", .tup [.str "number", .int c]], .tup [.str "add", .str "wide", .str "size"], .tup [.str "set", .str "own", .tup [.str "plus", .str "wide", .int 0]]]), .own 0 [.tup [.str "set", .str "size", .tup [.str "number", .int c]], .tup [.str "add", .str "wide", .int d], .tup [.str "set", .str "own", .tup [.str "plus", .str "wide", .int 0]]]] = some ([.ins 0 [.lst 0 ((B19 a b).rows.map Row.e), .dct 1 (kF fd) (vF fd)], .lst 0 [.tup [.str "add", .str "wide", .int d], .tup [.str "set", .str "size", .tup [.str "number", .int c]], .tup [.str "add", .str "wide", .str "size"], .tup [.str "set", .str "own", .tup [.str "plus", .str "wide", .int 0]]]], [.sh (.scr ns), .sh (.int n), .own 0 x1, .sh (.int a), .sh (.int b), .sh (.int c), .sh (.int d), .non, .sh (.tup [.str "size", .tup [.str "free", .non, .non, .lst 0 []], .tup [.str "number", .int a]]), .sh (.tup [.str "wide", .tup [.str "extend", .lst 0 [.str "size"]], .tup [.str "max", .lst 0 [.int b, .str "size"]]]), .sh (.ins 0 [.lst 0 ((B19 a b).rows.map Row.e), .dct 1 (kF fd) (vF fd)]), .sh (.lst 0 [.tup [.str "add", .str "wide", .int d], .tup [.str "set", .str "size", .tup [.str "number", .int c]], .tup [.str "add", .str "wide", .str "size"], .tup [.str "set", .str "own", .tup [.str "plus", .str "wide", .int 0]]]), .own 0 [.tup [.str "set", .str "size", .tup [.str "number", .int c]], .tup [.str "add", .str "wide", .int d], .tup [.str "set", .str "own", .tup [.str "plus", .str "wide", .int 0]]]]) := by
      refine pick10 ?_
      (with_reducible apply r_cons; apply r_var); exact rfl; exact rfl; (with_reducible exact st11; apply r_cons; apply r_var); exact rfl; exact rfl; (with_reducible exact st10; apply r_nil)
    refine ⟨.own 0 x1, .sh (.int a), .sh (.int b), .sh (.int c), .sh (.int d), .non, .sh (.tup [.str "size", .tup [.str "free", .non, .non, .lst 0 []], .tup [.str "number", .int a]]), .sh (.tup [.str "wide", .tup [.str "extend", .lst 0 [.str "size"]], .tup [.str "max", .lst 0 [.int b, .str "size"]]]), .sh (.ins 0 [.lst 0 ((B19 a b).rows.map Row.e), .dct 1 (kF fd) (vF fd)]), .sh (.lst 0 [.tup [.str "add", .str "wide", .int d], .tup [.str "set", .str "size", .tup [.str "number", .int c]], .tup [.str "add", .str "wide", .str "size"], .tup [.str "set", .str "own", .tup [.str "plus", .str "wide", .int 0]]]), .own 0 [.tup [.str "set", .str "size", .tup [.str "number", .int c]], .tup [.str "add", .str "wide", .int d], .tup [.str "set", .str "own", .tup [.str "plus", .str "wide", .int 0]]], ?_⟩
    unfold lb_law_0
    apply r_then
    · (with_reducible apply r_set; apply r_call; apply r_cons; apply r_var); exact rfl; exact rfl; (with_reducible exact st0; apply r_cons; apply r_var); exact rfl; exact rfl
      (with_reducible exact st1; apply r_nil); exact rfl; (with_reducible assumption; exact st2)
    apply c_nx
    apply r_then
    · (with_reducible assumption)
    apply c_nx
    apply r_then
    · (with_reducible apply r_set; apply r_toE; apply r_tup; apply r_cons; apply r_lit; apply r_cons; apply r_tup; apply r_cons; apply r_lit; apply r_cons; apply r_lit; apply r_cons; apply r_lit; apply r_cons)
      (with_reducible apply r_d; apply r_lst; apply r_nil); exact Nat.le_of_ble_eq_true rfl; exact rfl; (with_reducible apply r_nil); exact Nat.le_of_ble_eq_true rfl
      (with_reducible apply r_cons; apply r_tup; apply r_cons; apply r_lit; apply r_cons; apply r_var); exact rfl; exact rfl; (with_reducible exact st3; apply r_nil)
      exact Nat.le_of_ble_eq_true rfl; (with_reducible apply r_nil); exact Nat.le_of_ble_eq_true rfl; (with_reducible exact st8)
    apply c_nx
    apply r_then
    · (with_reducible apply r_set; apply r_toE; apply r_tup; apply r_cons; apply r_lit; apply r_cons; apply r_tup; apply r_cons; apply r_lit; apply r_cons; apply r_d; apply r_lst; apply r_cons; apply r_lit)
      (with_reducible apply r_nil); exact Nat.le_of_ble_eq_true rfl; exact rfl; (with_reducible apply r_nil); exact Nat.le_of_ble_eq_true rfl
      (with_reducible apply r_cons; apply r_tup; apply r_cons; apply r_lit; apply r_cons; apply r_d; apply r_lst; apply r_cons; apply r_var); exact rfl; exact rfl
      (with_reducible exact st4; apply r_cons; apply r_lit; apply r_nil); exact Nat.le_of_ble_eq_true rfl; exact rfl; (with_reducible apply r_nil); exact Nat.le_of_ble_eq_true rfl
      (with_reducible apply r_nil); exact Nat.le_of_ble_eq_true rfl; (with_reducible exact st9)
    apply c_nx
    apply r_then
    · (with_reducible apply r_set; apply r_toE; apply r_make; apply r_cons; apply r_d; apply r_lst; apply r_cons; apply r_var); exact rfl; exact rfl
      (with_reducible exact st8; apply r_cons; apply r_var); exact rfl; exact rfl
      (with_reducible exact st9; apply r_cons; apply r_tup; apply r_cons; apply r_lit; apply r_cons; apply r_tup; apply r_cons; apply r_lit; apply r_cons; apply r_d; apply r_lst; apply r_cons; apply r_lit)
      (with_reducible apply r_cons; apply r_lit; apply r_nil); exact Nat.le_of_ble_eq_true rfl; exact rfl; (with_reducible apply r_nil); exact Nat.le_of_ble_eq_true rfl
      (with_reducible apply r_cons; apply r_tup; apply r_cons; apply r_lit; apply r_cons; apply r_lit; apply r_cons; apply r_lit; apply r_nil); exact Nat.le_of_ble_eq_true rfl
      (with_reducible apply r_nil); exact Nat.le_of_ble_eq_true rfl; (with_reducible apply r_nil); exact Nat.le_of_ble_eq_true rfl; exact rfl; (with_reducible apply r_nil); exact rfl
      (with_reducible assumption; exact st10)
    apply c_nx
    apply r_then
    · (with_reducible apply r_set; apply r_lst; apply r_cons; apply r_tup; apply r_cons; apply r_lit; apply r_cons; apply r_lit; apply r_cons; apply r_var); exact rfl; exact rfl
      (with_reducible exact st6; apply r_nil); exact Nat.le_of_ble_eq_true rfl
      (with_reducible apply r_cons; apply r_tup; apply r_cons; apply r_lit; apply r_cons; apply r_lit; apply r_cons; apply r_tup; apply r_cons; apply r_lit; apply r_cons; apply r_var); exact rfl
      exact rfl; (with_reducible exact st5; apply r_nil); exact Nat.le_of_ble_eq_true rfl; (with_reducible apply r_nil); exact Nat.le_of_ble_eq_true rfl
      (with_reducible apply r_cons; apply r_tup; apply r_cons; apply r_lit; apply r_cons; apply r_lit; apply r_cons; apply r_lit; apply r_nil); exact Nat.le_of_ble_eq_true rfl
      (with_reducible apply r_nil); exact Nat.le_of_ble_eq_true rfl; (with_reducible exact st11)
    apply c_nx
    apply r_then
    · exact e7
    apply c_nx
    apply r_then
    · (with_reducible apply r_set; apply r_lst; apply r_cons; apply r_tup; apply r_cons; apply r_lit; apply r_cons; apply r_lit; apply r_cons; apply r_tup; apply r_cons; apply r_lit; apply r_cons; apply r_var)
      exact rfl; exact rfl; (with_reducible exact st5; apply r_nil); exact Nat.le_of_ble_eq_true rfl; (with_reducible apply r_nil); exact Nat.le_of_ble_eq_true rfl
      (with_reducible apply r_cons; apply r_tup; apply r_cons; apply r_lit; apply r_cons; apply r_lit; apply r_cons; apply r_d; apply r_ite; apply r_t; apply r_d; apply r_op2P; apply r_see)
      exact rfl; exact rfl; (with_reducible apply r_see); exact rfl; exact rfl; (with_reducible apply r_see); exact rfl; exact rfl; (with_reducible assumption); exact rfl
      (with_reducible apply c_f; rfl; apply r_toE; apply r_var); exact rfl; exact rfl; (with_reducible exact st6); exact rfl; (with_reducible apply r_nil); exact Nat.le_of_ble_eq_true rfl
      (with_reducible apply r_nil); exact Nat.le_of_ble_eq_true rfl; (with_reducible exact st12)
    apply c_nx
    apply r_then
    · exact e9
    apply c_nx
    (with_reducible apply r_then; apply r_if; apply r_or; apply r_t; apply r_d; apply r_op2; apply r_d; apply r_call; assumption); exact rfl; (with_reducible assumption); exact rfl
    (with_reducible apply r_see); exact rfl; exact rfl; (with_reducible assumption); exact rfl
    (with_reducible apply c_f; rfl; apply r_t; apply r_d; apply r_op2; apply r_d; apply r_call; assumption); exact rfl; (with_reducible assumption); exact rfl; (with_reducible apply r_see)
    exact rfl; exact rfl; (with_reducible assumption); exact rfl
    (with_reducible apply c_f; rfl; apply r_skip; apply c_nx; apply r_then; apply r_if; apply r_t; apply r_d; apply r_op2; apply r_d; apply r_call; assumption); exact rfl
    (with_reducible assumption); exact rfl; (with_reducible apply r_d; apply r_lst; apply r_cons; apply r_lit; apply r_cons; apply r_lit; apply r_cons; apply r_lit; apply r_nil)
    exact Nat.le_of_ble_eq_true rfl; exact rfl; (with_reducible assumption); exact rfl
    (with_reducible apply c_f; rfl; apply r_skip; apply c_nx; apply r_then; apply r_if; apply r_or; apply r_not; apply r_t; apply r_d; apply r_op1; apply r_d; apply r_call; apply r_cons; apply r_var)
    exact rfl; exact rfl; (with_reducible exact st11; apply r_cons; apply r_lit; apply r_nil); exact rfl; (with_reducible assumption); exact rfl; exact rfl; exact rfl; exact rfl
    (with_reducible apply c_f); exact rfl; (with_reducible apply r_not; apply r_t; apply r_d; apply r_op1; apply r_d; apply r_call; apply r_cons; apply r_var); exact rfl; exact rfl
    (with_reducible exact st10; apply r_cons; apply r_lit; apply r_nil); exact rfl; (with_reducible assumption); exact rfl; exact rfl; exact rfl; exact rfl; (with_reducible apply c_f)
    decide +kernel; (with_reducible apply r_skip; apply c_nx; apply r_skip)
theorem law_loop (ns : List Int) (hl : ns.length ≤ 63) : ∀ (ks : List Int) (s1 s2 s3 s4 s5 s6 s7 s8 s9 s10 s11 s12 : Sl), ∃ t1 t2 t3 t4 t5 t6 t7 t8 t9 t10 t11 t12, forRun (gNam 1) (lb_law_0 0) (ks.map .int) [.sh (.scr ns), s1, s2, s3, s4, s5, s6, s7, s8, s9, s10, s11, s12] = some (.nx, [.sh (.scr ns), t1, t2, t3, t4, t5, t6, t7, t8, t9, t10, t11, t12])
  | [], s1, s2, s3, s4, s5, s6, s7, s8, s9, s10, s11, s12 => ⟨s1, s2, s3, s4, s5, s6, s7, s8, s9, s10, s11, s12, rfl⟩
  | k :: ks, s1, s2, s3, s4, s5, s6, s7, s8, s9, s10, s11, s12 => by
    obtain ⟨t2, t3, t4, t5, t6, t7, t8, t9, t10, t11, t12, h1⟩ := law_turn ns hl k s2 s3 s4 s5 s6 s7 s8 s9 s10 s11 s12
    obtain ⟨u1, u2, u3, u4, u5, u6, u7, u8, u9, u10, u11, u12, h2⟩ := law_loop ns hl ks (.sh (.int k)) t2 t3 t4 t5 t6 t7 t8 t9 t10 t11 t12
    refine ⟨u1, u2, u3, u4, u5, u6, u7, u8, u9, u10, u11, u12, ?_⟩
    rw [List.map_cons]
    exact fr_cons (Γ1 := [.sh (.scr ns), .sh (.int k), s2, s3, s4, s5, s6, s7, s8, s9, s10, s11, s12]) rfl h1 h2
theorem cells63 (ns : List Int) (hl : ns.length ≤ 63) : ∃ (l : List Int) (k : Int), dSl 0 (.scr ns) none (some 63) = some (.own 0 (l.map .int)) ∧ onInts iMax (.int 1) (.int ((l.map D.int).length : Nat)) = some (.sh (.int k)) ∧ (-2 ^ 62 ≤ k ∧ k < 2 ^ 62 ∧ k.toNat ≤ lim) ∧ 1 ≤ k ∧ k ≤ 63 := by
  have q1 : dSl 0 (.scr ns) none (some 63) = some (.own 0 ((cutD ns none (some 63)).map .int)) := by
    unfold dSl
    dsimp only
    rw [if_pos (Nat.le_trans hl (by decide))]
  have hc := cutD_length ns none (some 63)
  generalize cutD ns none (some 63) = l at q1 hc
  have q2 : onInts iMax (.int 1) (.int ((l.map D.int).length : Nat)) = some (.sh (.int (if (((l.map D.int).length : Nat) : Int) > 1 then (((l.map D.int).length : Nat) : Int) else 1))) := rfl
  have q3 : ∃ k : Int, (if (((l.map D.int).length : Nat) : Int) > 1 then (((l.map D.int).length : Nat) : Int) else 1) = k ∧ 1 ≤ k ∧ k ≤ 63 := by
    rw [List.length_map]
    refine ⟨_, rfl, ?_, ?_⟩ <;> split <;> omega
  obtain ⟨k, ek, k1, k2⟩ := q3
  rw [ek] at q2
  exact ⟨l, k, q1, q2, by unfold lim; omega, k1, k2⟩
theorem law_true (ns : List Int) (hl : ns.length ≤ 63) : F_law 0 [.scr ns] = some (.sh (.bl true)) := by
  obtain ⟨l, k, q1, q2, q4, k1, k2⟩ := cells63 ns hl
  have q5 : rangeD 0 k.toNat = ((List.range k.toNat).map fun i => (0 + (i : Nat) : Int)).map .int := by unfold rangeD; rw [List.map_map]; rfl
  obtain ⟨t1, t2, t3, t4, t5, t6, t7, t8, t9, t10, t11, t12, h⟩ := law_loop ns hl ((List.range k.toNat).map fun i => (0 + (i : Nat) : Int)) .non .non .non .non .non .non .non .non .non .non .non .non
  rw [← q5] at h
  unfold F_law fb_law
  apply rf_13_1
  (with_reducible apply r_then; apply r_for; apply r_range1; apply r_d; apply r_op2L; apply r_cons; apply r_lit; apply r_cons; apply r_d; apply r_op1; apply r_d; apply r_sliceP; apply r_see)
  exact rfl; exact rfl; (with_reducible apply r_nopart; apply r_part; apply r_lit; apply r_see); exact rfl; exact rfl; (with_reducible assumption); exact rfl; exact rfl; exact rfl
  (with_reducible apply r_nil; assumption); exact rfl; (with_reducible assumption; assumption; apply c_nx; apply r_then; apply r_ret; apply r_toE; apply r_lit; apply c_ret)
end Ev

set_option Elab.async false
set_option linter.all false
set_option maxRecDepth 100000
set_option maxHeartbeats 4000000
namespace Ev
open PySem L2
abbrev N_is_known : List Str := ["value", "names"]
theorem b_is_known {C : Cf} {W : Wd} (B : Bt W) (II : IsiFact C W.K) (g : Nat) : XB C W N_is_known (defScope (top 12)) 0 (defBody (top 12)) (fb_is_known g) :=
  (okB_cons (s_ret ((OkD.toE (okD_and ((OkE.d (x_isi .str B II (by decide +kernel) (by decide +kernel) B.str (by decide +kernel) rfl (fun _ q => by cases q) (by decide) (by decide +kernel) (fun _ => rfl) (x_see 0 rfl (by decide +kernel) (by decide +kernel))))) (okD_one ((OkE.d (x_in ((x_var 0 rfl (by decide +kernel) (by decide +kernel))) (x_see 1 rfl (by decide +kernel) (by decide +kernel)) rfl)))))))) okB_nil)
abbrev N_is_whole : List Str := ["value"]
theorem b_is_whole {C : Cf} {W : Wd} (B : Bt W) (II : IsiFact C W.K) (g : Nat) : XB C W N_is_whole (defScope (top 10)) 0 (defBody (top 10)) (fb_is_whole g) :=
  (okB_cons (s_ret ((OkD.toE (okD_and ((OkE.d (x_isi .int B II (by decide +kernel) (by decide +kernel) B.int (by decide +kernel) rfl (fun _ q => by cases q) (by decide) (by decide +kernel) (fun _ => rfl) (x_see 0 rfl (by decide +kernel) (by decide +kernel))))) (okD_one ((okD_not ((OkE.d (x_isi .bool B II (by decide +kernel) (by decide +kernel) B.bool (by decide +kernel) rfl (fun _ q => by cases q) (by decide) (by decide +kernel) (fun _ => rfl) (x_see 0 rfl (by decide +kernel) (by decide +kernel)))))))))))) okB_nil)
abbrev N_is_operand : List Str := ["value", "names"]
theorem b_is_operand {C : Cf} {W : Wd} (B : Bt W) (II : IsiFact C W.K) (d_is_known : Def W "is_known" 1 (spF C 2 F_is_known)) (d_is_whole : Def W "is_whole" 1 (spF C 1 F_is_whole)) (g : Nat) : XB C W N_is_operand (defScope (top 13)) 1 (defBody (top 13)) (fb_is_operand g) :=
  (okB_cons (s_ret ((OkD.toE (okD_or ((OkE.d (x_call g d_is_whole (by decide +kernel) (by decide +kernel) (by decide +kernel) rfl (l_cons ((x_var 0 rfl (by decide +kernel) (by decide +kernel))) l_nil rfl)))) (okD_one ((OkE.d (x_call g d_is_known (by decide +kernel) (by decide +kernel) (by decide +kernel) rfl (l_cons ((x_var 0 rfl (by decide +kernel) (by decide +kernel))) (l_cons ((x_var 1 rfl (by decide +kernel) (by decide +kernel))) l_nil rfl) rfl))))))))) okB_nil)
abbrev N_are_operands : List Str := ["values", "names", "value"]
theorem b_are_operands {C : Cf} {W : Wd} (B : Bt W) (II : IsiFact C W.K) (d_is_operand : Def W "is_operand" 2 (spF C 2 F_is_operand)) (g : Nat) : XB C W N_are_operands (defScope (top 15)) 2 (defBody (top 15)) (fb_are_operands g) :=
  (okB_cons (s_ret (x_cmp k_eq ((OkE.d (x_lc g [("value", 2)] (by decide +kernel) (i_seq ((x_var 0 rfl (by decide +kernel) (by decide +kernel)))) (g_name 2 rfl (by decide +kernel)) (by decide +kernel) (ok_ts1 (okT_not ((OkD.t (OkE.d (x_call g d_is_operand (by decide +kernel) (by decide +kernel) (by decide +kernel) rfl (l_cons ((x_var 2 rfl (by decide +kernel) (by decide +kernel))) (l_cons ((x_var 1 rfl (by decide +kernel) (by decide +kernel))) l_nil rfl) rfl))) (fun _ _ _ => rfl))))) ((x_var 2 rfl (by decide +kernel) (by decide +kernel))) (fun _ _ => rfl)))) ((OkD.o (OkE.d (ok_lst (g := g) l_nil)))) (nomark _))) okB_nil)
abbrev N_has_word : List Str := ["value", "word", "many"]
theorem b_has_word {C : Cf} {W : Wd} (B : Bt W) (II : IsiFact C W.K) (g : Nat) : XB C W N_has_word (defScope (top 14)) 0 (defBody (top 14)) (fb_has_word g) :=
  (okB_cons (s_ret ((OkD.toE (okD_and ((OkE.d (x_isi .tuple B II (by decide +kernel) (by decide +kernel) B.tuple (by decide +kernel) rfl (fun _ q => by cases q) (by decide) (by decide +kernel) (fun _ => rfl) (x_see 0 rfl (by decide +kernel) (by decide +kernel))))) (okD_and ((OkE.d (x_cmp k_eq ((OkE.d (x_len B (by decide +kernel) (fun _ => rfl) (x_see 0 rfl (by decide +kernel) (by decide +kernel))))) (x_see 2 rfl (by decide +kernel) (by decide +kernel)) (nomark _)))) (okD_and ((OkE.d (x_isi .str B II (by decide +kernel) (by decide +kernel) B.str (by decide +kernel) rfl (fun _ q => by cases q) (by decide) (by decide +kernel) (fun _ => rfl) ((OkD.o (OkE.d (x_ixP 0 rfl (by decide +kernel) (by decide +kernel) ((OkD.o x_int)) (fun _ _ => rfl)))))))) (okD_one ((OkE.d (x_cmp k_eq ((OkE.d (x_ixP 0 rfl (by decide +kernel) (by decide +kernel) ((OkD.o x_int)) (fun _ _ => rfl)))) (x_see 1 rfl (by decide +kernel) (by decide +kernel)) (nomark _))))))))))) okB_nil)
abbrev N_is_definition : List Str := ["value", "names"]
theorem b_is_definition {C : Cf} {W : Wd} (B : Bt W) (II : IsiFact C W.K) (d_are_operands : Def W "are_operands" 3 (spF C 2 F_are_operands)) (d_has_word : Def W "has_word" 1 (spF C 3 F_has_word)) (d_is_known : Def W "is_known" 1 (spF C 2 F_is_known)) (d_is_whole : Def W "is_whole" 1 (spF C 1 F_is_whole)) (g : Nat) : XB C W N_is_definition (defScope (top 16)) 3 (defBody (top 16)) (fb_is_definition g) :=
  (okB_cons (s_if ((OkD.t (OkE.d (x_call g d_has_word (by decide +kernel) (by decide +kernel) (by decide +kernel) rfl (l_cons ((x_var 0 rfl (by decide +kernel) (by decide +kernel))) (l_cons (x_str) (l_cons (x_int) l_nil rfl) rfl) rfl))) (fun _ _ _ => rfl))) (okB_cons (s_ret (x_call g d_is_whole (by decide +kernel) (by decide +kernel) (by decide +kernel) rfl (l_cons ((OkE.d (x_ixP 0 rfl (by decide +kernel) (by decide +kernel) ((OkD.o x_int)) (fun _ _ => rfl)))) l_nil rfl))) okB_nil) okB_nil) (okB_cons (s_if ((OkD.t (OkE.d (x_call g d_has_word (by decide +kernel) (by decide +kernel) (by decide +kernel) rfl (l_cons ((x_var 0 rfl (by decide +kernel) (by decide +kernel))) (l_cons (x_str) (l_cons (x_int) l_nil rfl) rfl) rfl))) (fun _ _ _ => rfl))) (okB_cons (s_ret ((OkD.toE (okD_and ((OkE.d (x_call g d_is_known (by decide +kernel) (by decide +kernel) (by decide +kernel) rfl (l_cons ((OkE.d (x_ixP 0 rfl (by decide +kernel) (by decide +kernel) ((OkD.o x_int)) (fun _ _ => rfl)))) (l_cons ((x_var 1 rfl (by decide +kernel) (by decide +kernel))) l_nil rfl) rfl)))) (okD_one ((OkE.d (x_call g d_is_whole (by decide +kernel) (by decide +kernel) (by decide +kernel) rfl (l_cons ((OkE.d (x_ixP 0 rfl (by decide +kernel) (by decide +kernel) ((OkD.o x_int)) (fun _ _ => rfl)))) l_nil rfl))))))))) okB_nil) okB_nil) (okB_cons (s_if (OkW.t (okW_or ((OkD.t (OkE.d (x_call g d_has_word (by decide +kernel) (by decide +kernel) (by decide +kernel) rfl (l_cons ((x_var 0 rfl (by decide +kernel) (by decide +kernel))) (l_cons (x_str) (l_cons (x_int) l_nil rfl) rfl) rfl))) (fun _ _ _ => rfl))) (okW_or1 ((OkD.t (OkE.d (x_call g d_has_word (by decide +kernel) (by decide +kernel) (by decide +kernel) rfl (l_cons ((x_var 0 rfl (by decide +kernel) (by decide +kernel))) (l_cons (x_str) (l_cons (x_int) l_nil rfl) rfl) rfl))) (fun _ _ _ => rfl)))))) (okB_cons (s_ret ((OkD.toE (okD_and ((OkE.d (x_isi .list B II (by decide +kernel) (by decide +kernel) B.list (by decide +kernel) rfl (fun _ q => by cases q) (by decide) (by decide +kernel) (fun _ => rfl) ((OkD.o (OkE.d (x_ixP 0 rfl (by decide +kernel) (by decide +kernel) ((OkD.o x_int)) (fun _ _ => rfl)))))))) (okD_and ((OkE.d (x_cmp k_ne ((OkE.d (x_ixP 0 rfl (by decide +kernel) (by decide +kernel) ((OkD.o x_int)) (fun _ _ => rfl)))) ((OkD.o (OkE.d (ok_lst (g := g) l_nil)))) (nomark _)))) (okD_one ((OkE.d (x_call g d_are_operands (by decide +kernel) (by decide +kernel) (by decide +kernel) rfl (l_cons ((OkE.d (x_ixP 0 rfl (by decide +kernel) (by decide +kernel) ((OkD.o x_int)) (fun _ _ => rfl)))) (l_cons ((x_var 1 rfl (by decide +kernel) (by decide +kernel))) l_nil rfl) rfl)))))))))) okB_nil) okB_nil) (okB_cons (s_ret ((OkD.toE (okD_and ((OkE.d (x_call g d_has_word (by decide +kernel) (by decide +kernel) (by decide +kernel) rfl (l_cons ((x_var 0 rfl (by decide +kernel) (by decide +kernel))) (l_cons (x_str) (l_cons (x_int) l_nil rfl) rfl) rfl)))) (okD_one ((OkE.d (x_call g d_are_operands (by decide +kernel) (by decide +kernel) (by decide +kernel) rfl (l_cons ((OkE.d (ok_sliceP (g := g) Fit.K (Fit.name (i := 0) rfl (by decide +kernel) (by decide +kernel)) (ok_po1 (x_int)) ok_po0))) (l_cons ((x_var 1 rfl (by decide +kernel) (by decide +kernel))) l_nil rfl) rfl))))))))) okB_nil))))
abbrev N_is_name : List Str := ["value", "letter"]
theorem b_is_name {C : Cf} {W : Wd} (B : Bt W) (II : IsiFact C W.K) {tk_LETTERS : Tok} (c_LETTERS : W.mg "LETTERS" = some (.str "abcdefghijklmnopqrstuvwxyz" tk_LETTERS)) (g : Nat) : XB C W N_is_name (defScope (top 11)) 0 (defBody (top 11)) (fb_is_name g) :=
  (okB_cons (s_if (OkW.t (okW_or (okT_not ((OkD.t (OkE.d (x_isi .str B II (by decide +kernel) (by decide +kernel) B.str (by decide +kernel) rfl (fun _ q => by cases q) (by decide) (by decide +kernel) (fun _ => rfl) (x_see 0 rfl (by decide +kernel) (by decide +kernel)))) (fun _ _ _ => rfl)))) (okW_or1 (okT_not (t_chain k_le k_le (x_int) ((OkE.d (x_len B (by decide +kernel) (fun _ => rfl) (x_see 0 rfl (by decide +kernel) (by decide +kernel))))) (x_int) rfl))))) (okB_cons (s_ret ((OkD.toE x_bl))) okB_nil) okB_nil) (okB_cons (s_ret (x_cmp k_eq ((OkE.d (x_lc g [("letter", 1)] (by decide +kernel) (i_seq ((x_var 0 rfl (by decide +kernel) (by decide +kernel)))) (g_name 1 rfl (by decide +kernel)) (by decide +kernel) (ok_ts1 (t_nin ((x_var 1 rfl (by decide +kernel) (by decide +kernel))) ((OkD.o (x_gstr c_LETTERS (by decide +kernel) (by decide +kernel)))) rfl)) ((x_var 1 rfl (by decide +kernel) (by decide +kernel))) (fun _ _ => rfl)))) ((OkD.o (OkE.d (ok_lst (g := g) l_nil)))) (nomark _))) okB_nil))
abbrev N_are_limits : List Str := ["low", "high", "limit"]
theorem b_are_limits {C : Cf} {W : Wd} (B : Bt W) (II : IsiFact C W.K) (d_is_whole : Def W "is_whole" 1 (spF C 1 F_is_whole)) (g : Nat) : XB C W N_are_limits (defScope (top 17)) 1 (defBody (top 17)) (fb_are_limits g) :=
  (okB_cons (s_for (i_seq ((ok_tup (l_cons ((x_var 0 rfl (by decide +kernel) (by decide +kernel))) (l_cons ((x_var 1 rfl (by decide +kernel) (by decide +kernel))) l_nil rfl) rfl)))) (g_name 2 rfl (by decide +kernel)) (okB_cons (s_if (OkW.t (okW_and (t_cmpP k_isn 2 rfl (by decide +kernel) (by decide +kernel) ((OkD.o x_non)) (nomark _)) (okW_and1 (okT_not ((OkD.t (OkE.d (x_call g d_is_whole (by decide +kernel) (by decide +kernel) (by decide +kernel) rfl (l_cons ((x_var 2 rfl (by decide +kernel) (by decide +kernel))) l_nil rfl))) (fun _ _ _ => rfl))))))) (okB_cons (s_ret ((OkD.toE x_bl))) okB_nil) okB_nil) okB_nil) (fun _ _ => rfl)) (okB_cons (s_ret ((OkD.toE (okD_or ((OkE.d (x_cmpP k_is 0 rfl (by decide +kernel) (by decide +kernel) ((OkD.o x_non)) (nomark _)))) (okD_or ((OkE.d (x_cmpP k_is 1 rfl (by decide +kernel) (by decide +kernel) ((OkD.o x_non)) (nomark _)))) (okD_one ((OkE.d (x_cmpP k_le 0 rfl (by decide +kernel) (by decide +kernel) (x_see 1 rfl (by decide +kernel) (by decide +kernel)) (nomark _)))))))))) okB_nil))
abbrev N_are_names : List Str := ["value", "names", "at", "name"]
theorem b_are_names {C : Cf} {W : Wd} (B : Bt W) (II : IsiFact C W.K) (d_is_known : Def W "is_known" 1 (spF C 2 F_is_known)) (g : Nat) : XB C W N_are_names (defScope (top 18)) 1 (defBody (top 18)) (fb_are_names g) :=
  (okB_cons (s_if (okT_not ((OkD.t (OkE.d (x_isi .list B II (by decide +kernel) (by decide +kernel) B.list (by decide +kernel) rfl (fun _ q => by cases q) (by decide) (by decide +kernel) (fun _ => rfl) (x_see 0 rfl (by decide +kernel) (by decide +kernel)))) (fun _ _ _ => rfl)))) (okB_cons (s_ret ((OkD.toE x_bl))) okB_nil) okB_nil) (okB_cons (s_for (i_enum B (by decide +kernel) (fun _ => rfl) ((x_var 0 rfl (by decide +kernel) (by decide +kernel)))) (g_tup (n_cons 2 rfl (by decide +kernel) (n_cons 3 rfl (by decide +kernel) n_nil))) (okB_cons (s_if (OkW.t (okW_or (okT_not ((OkD.t (OkE.d (x_call g d_is_known (by decide +kernel) (by decide +kernel) (by decide +kernel) rfl (l_cons ((x_var 3 rfl (by decide +kernel) (by decide +kernel))) (l_cons ((x_var 1 rfl (by decide +kernel) (by decide +kernel))) l_nil rfl) rfl))) (fun _ _ _ => rfl)))) (okW_or1 (t_in ((x_var 3 rfl (by decide +kernel) (by decide +kernel))) ((OkD.o (OkE.d (ok_sliceP (g := g) Fit.K (Fit.name (i := 0) rfl (by decide +kernel) (by decide +kernel)) ok_po0 (ok_po1 ((x_var 2 rfl (by decide +kernel) (by decide +kernel)))))))) rfl)))) (okB_cons (s_ret ((OkD.toE x_bl))) okB_nil) okB_nil) okB_nil) (fun _ _ => rfl)) (okB_cons (s_ret ((OkD.toE x_bl))) okB_nil)))
abbrev N_is_alias : List Str := ["definition", "choices"]
theorem b_is_alias {C : Cf} {W : Wd} (B : Bt W) (II : IsiFact C W.K) (g : Nat) : XB C W N_is_alias (defScope (top 19)) 0 (defBody (top 19)) (fb_is_alias g) :=
  (okB_cons (s_ret ((OkD.toE (okD_and ((OkE.d (x_cmp k_eq ((OkE.d (x_ixP 0 rfl (by decide +kernel) (by decide +kernel) ((OkD.o x_int)) (fun _ _ => rfl)))) ((OkD.o x_str)) (nomark _)))) (okD_and ((OkE.d (x_in ((OkE.d (x_ixP 0 rfl (by decide +kernel) (by decide +kernel) ((OkD.o x_int)) (fun _ _ => rfl)))) (x_see 1 rfl (by decide +kernel) (by decide +kernel)) rfl))) (okD_one ((OkE.d (x_cmp k_eq ((OkE.d (x_ixP 0 rfl (by decide +kernel) (by decide +kernel) ((OkD.o x_int)) (fun _ _ => rfl)))) ((OkD.o x_int)) (nomark _)))))))))) okB_nil)
abbrev N_is_permitted : List Str := ["permission", "definition", "names"]
theorem b_is_permitted {C : Cf} {W : Wd} (B : Bt W) (II : IsiFact C W.K) (d_are_limits : Def W "are_limits" 2 (spF C 2 F_are_limits)) (d_are_names : Def W "are_names" 2 (spF C 2 F_are_names)) (d_has_word : Def W "has_word" 1 (spF C 3 F_has_word)) (d_is_alias : Def W "is_alias" 1 (spF C 2 F_is_alias)) (g : Nat) : XB C W N_is_permitted (defScope (top 20)) 2 (defBody (top 20)) (fb_is_permitted g) :=
  (okB_cons (s_if ((OkD.t (OkE.d (x_call g d_has_word (by decide +kernel) (by decide +kernel) (by decide +kernel) rfl (l_cons ((x_var 0 rfl (by decide +kernel) (by decide +kernel))) (l_cons (x_str) (l_cons (x_int) l_nil rfl) rfl) rfl))) (fun _ _ _ => rfl))) (okB_cons (s_ret (x_call g d_are_limits (by decide +kernel) (by decide +kernel) (by decide +kernel) rfl (l_cons ((OkE.d (x_ixP 0 rfl (by decide +kernel) (by decide +kernel) ((OkD.o x_int)) (fun _ _ => rfl)))) (l_cons ((OkE.d (x_ixP 0 rfl (by decide +kernel) (by decide +kernel) ((OkD.o x_int)) (fun _ _ => rfl)))) l_nil rfl) rfl))) okB_nil) okB_nil) (okB_cons (s_if ((OkD.t (OkE.d (x_call g d_has_word (by decide +kernel) (by decide +kernel) (by decide +kernel) rfl (l_cons ((x_var 0 rfl (by decide +kernel) (by decide +kernel))) (l_cons (x_str) (l_cons (x_int) l_nil rfl) rfl) rfl))) (fun _ _ _ => rfl))) (okB_cons (s_ret ((OkD.toE (okD_and ((OkE.d (x_call g d_are_limits (by decide +kernel) (by decide +kernel) (by decide +kernel) rfl (l_cons ((OkE.d (x_ixP 0 rfl (by decide +kernel) (by decide +kernel) ((OkD.o x_int)) (fun _ _ => rfl)))) (l_cons ((OkE.d (x_ixP 0 rfl (by decide +kernel) (by decide +kernel) ((OkD.o x_int)) (fun _ _ => rfl)))) l_nil rfl) rfl)))) (okD_one ((OkE.d (x_call g d_are_names (by decide +kernel) (by decide +kernel) (by decide +kernel) rfl (l_cons ((OkE.d (x_ixP 0 rfl (by decide +kernel) (by decide +kernel) ((OkD.o x_int)) (fun _ _ => rfl)))) (l_cons ((x_var 2 rfl (by decide +kernel) (by decide +kernel))) l_nil rfl) rfl))))))))) okB_nil) okB_nil) (okB_cons (s_if ((OkD.t (OkE.d (x_call g d_has_word (by decide +kernel) (by decide +kernel) (by decide +kernel) rfl (l_cons ((x_var 0 rfl (by decide +kernel) (by decide +kernel))) (l_cons (x_str) (l_cons (x_int) l_nil rfl) rfl) rfl))) (fun _ _ _ => rfl))) (okB_cons (s_ret ((OkD.toE (okD_and ((OkE.d (x_call g d_are_names (by decide +kernel) (by decide +kernel) (by decide +kernel) rfl (l_cons ((OkE.d (x_ixP 0 rfl (by decide +kernel) (by decide +kernel) ((OkD.o x_int)) (fun _ _ => rfl)))) (l_cons ((x_var 2 rfl (by decide +kernel) (by decide +kernel))) l_nil rfl) rfl)))) (okD_one ((OkE.d (x_call g d_is_alias (by decide +kernel) (by decide +kernel) (by decide +kernel) rfl (l_cons ((x_var 1 rfl (by decide +kernel) (by decide +kernel))) (l_cons ((OkE.d (x_ixP 0 rfl (by decide +kernel) (by decide +kernel) ((OkD.o x_int)) (fun _ _ => rfl)))) l_nil rfl) rfl))))))))) okB_nil) okB_nil) (okB_cons (s_ret ((OkD.toE (okD_and ((OkE.d (x_call g d_has_word (by decide +kernel) (by decide +kernel) (by decide +kernel) rfl (l_cons ((x_var 0 rfl (by decide +kernel) (by decide +kernel))) (l_cons (x_str) (l_cons (x_int) l_nil rfl) rfl) rfl)))) (okD_and ((OkE.d (x_call g d_are_names (by decide +kernel) (by decide +kernel) (by decide +kernel) rfl (l_cons ((OkE.d (x_ixP 0 rfl (by decide +kernel) (by decide +kernel) ((OkD.o x_int)) (fun _ _ => rfl)))) (l_cons ((x_var 2 rfl (by decide +kernel) (by decide +kernel))) l_nil rfl) rfl)))) (okD_one ((OkE.d (x_in ((OkE.d (x_ixP 1 rfl (by decide +kernel) (by decide +kernel) ((OkD.o x_int)) (fun _ _ => rfl)))) ((OkD.o (ok_tup (l_cons (x_str) (l_cons (x_str) l_nil rfl) rfl)))) rfl))))))))) okB_nil))))
abbrev N_are_settings : List Str := ["value", "names", "setting", "name", "permission", "definition"]
theorem b_are_settings {C : Cf} {W : Wd} (B : Bt W) (II : IsiFact C W.K) (d_is_definition : Def W "is_definition" 4 (spF C 2 F_is_definition)) (d_is_name : Def W "is_name" 1 (spF C 1 F_is_name)) (d_is_permitted : Def W "is_permitted" 3 (spF C 3 F_is_permitted)) (g : Nat) : XB C W N_are_settings (defScope (top 21)) 4 (defBody (top 21)) (fb_are_settings g) :=
  (okB_cons (s_if (okT_not ((OkD.t (OkE.d (x_isi .list B II (by decide +kernel) (by decide +kernel) B.list (by decide +kernel) rfl (fun _ q => by cases q) (by decide) (by decide +kernel) (fun _ => rfl) (x_see 0 rfl (by decide +kernel) (by decide +kernel)))) (fun _ _ _ => rfl)))) (okB_cons (s_ret ((OkD.toE x_bl))) okB_nil) okB_nil) (okB_cons (s_set 1 rfl (by decide +kernel) rfl (ok_lst (g := g) l_nil)) (okB_cons (s_for (i_seq ((x_var 0 rfl (by decide +kernel) (by decide +kernel)))) (g_name 2 rfl (by decide +kernel)) (okB_cons (s_if (OkW.t (okW_or (okT_not ((OkD.t (OkE.d (x_isi .tuple B II (by decide +kernel) (by decide +kernel) B.tuple (by decide +kernel) rfl (fun _ q => by cases q) (by decide) (by decide +kernel) (fun _ => rfl) (x_see 2 rfl (by decide +kernel) (by decide +kernel)))) (fun _ _ _ => rfl)))) (okW_or (t_cmp k_ne ((OkE.d (x_len B (by decide +kernel) (fun _ => rfl) (x_see 2 rfl (by decide +kernel) (by decide +kernel))))) ((OkD.o x_int)) (nomark _)) (okW_or (okT_not ((OkD.t (OkE.d (x_call g d_is_name (by decide +kernel) (by decide +kernel) (by decide +kernel) rfl (l_cons ((OkE.d (x_ixP 2 rfl (by decide +kernel) (by decide +kernel) ((OkD.o x_int)) (fun _ _ => rfl)))) l_nil rfl))) (fun _ _ _ => rfl)))) (okW_or1 (t_in ((OkE.d (x_ixP 2 rfl (by decide +kernel) (by decide +kernel) ((OkD.o x_int)) (fun _ _ => rfl)))) (x_see 1 rfl (by decide +kernel) (by decide +kernel)) rfl)))))) (okB_cons (s_ret ((OkD.toE x_bl))) okB_nil) okB_nil) (okB_cons (s_app 1 rfl (by decide +kernel) (by decide +kernel) ((OkE.d (x_ixP 2 rfl (by decide +kernel) (by decide +kernel) ((OkD.o x_int)) (fun _ _ => rfl)))) (fun _ => rfl) rfl) okB_nil)) (fun _ _ => rfl)) (okB_cons (s_for (i_seq ((x_var 0 rfl (by decide +kernel) (by decide +kernel)))) (g_tup (n_cons 3 rfl (by decide +kernel) (n_cons 4 rfl (by decide +kernel) (n_cons 5 rfl (by decide +kernel) n_nil)))) (okB_cons (s_if (OkW.t (okW_or (okT_not ((OkD.t (OkE.d (x_call g d_is_definition (by decide +kernel) (by decide +kernel) (by decide +kernel) rfl (l_cons ((x_var 5 rfl (by decide +kernel) (by decide +kernel))) (l_cons ((x_var 1 rfl (by decide +kernel) (by decide +kernel))) l_nil rfl) rfl))) (fun _ _ _ => rfl)))) (okW_or1 (okT_not ((OkD.t (OkE.d (x_call g d_is_permitted (by decide +kernel) (by decide +kernel) (by decide +kernel) rfl (l_cons ((x_var 4 rfl (by decide +kernel) (by decide +kernel))) (l_cons ((x_var 5 rfl (by decide +kernel) (by decide +kernel))) (l_cons ((x_var 1 rfl (by decide +kernel) (by decide +kernel))) l_nil rfl) rfl) rfl))) (fun _ _ _ => rfl))))))) (okB_cons (s_ret ((OkD.toE x_bl))) okB_nil) okB_nil) okB_nil) (fun _ _ => rfl)) (okB_cons (s_ret ((OkD.toE x_bl))) okB_nil)))))
abbrev N_copied : List Str := ["value", "part"]
theorem b_copied {C : Cf} {W : Wd} (B : Bt W) (II : IsiFact C W.K) (g : Nat) : XB C W N_copied (defScope (top 22)) 0 (defBody (top 22)) (fb_copied g) :=
  (okB_cons (s_ret (x_tuple B (by decide +kernel) (fun _ => rfl) ((OkD.o (OkE.d (x_lc g [("part", 1)] (by decide +kernel) (i_seq ((x_var 0 rfl (by decide +kernel) (by decide +kernel)))) (g_name 1 rfl (by decide +kernel)) (by decide +kernel) ok_ts0 ((OkE.d (okE_ite ((OkD.t (OkE.d (x_isi .list B II (by decide +kernel) (by decide +kernel) B.list (by decide +kernel) rfl (fun _ q => by cases q) (by decide) (by decide +kernel) (fun _ => rfl) (x_see 1 rfl (by decide +kernel) (by decide +kernel)))) (fun _ _ _ => rfl))) (x_list g B (by decide +kernel) (fun _ => rfl) (x_see 1 rfl (by decide +kernel) (by decide +kernel))) ((OkD.toE (x_var 1 rfl (by decide +kernel) (by decide +kernel))))))) (fun _ _ => rfl))))))) okB_nil)
abbrev N_copied_setting : List Str := ["setting"]
theorem b_copied_setting {C : Cf} {W : Wd} (B : Bt W) (II : IsiFact C W.K) (d_copied : Def W "copied" 1 (spF C 1 F_copied)) (g : Nat) : XB C W N_copied_setting (defScope (top 23)) 1 (defBody (top 23)) (fb_copied_setting g) :=
  (okB_cons (s_ret ((OkD.toE (ok_tup (l_cons ((OkE.d (x_ixP 0 rfl (by decide +kernel) (by decide +kernel) ((OkD.o x_int)) (fun _ _ => rfl)))) (l_cons ((OkE.d (x_call g d_copied (by decide +kernel) (by decide +kernel) (by decide +kernel) rfl (l_cons ((OkE.d (x_ixP 0 rfl (by decide +kernel) (by decide +kernel) ((OkD.o x_int)) (fun _ _ => rfl)))) l_nil rfl)))) (l_cons ((OkE.d (x_call g d_copied (by decide +kernel) (by decide +kernel) (by decide +kernel) rfl (l_cons ((OkE.d (x_ixP 0 rfl (by decide +kernel) (by decide +kernel) ((OkD.o x_int)) (fun _ _ => rfl)))) l_nil rfl)))) l_nil rfl) rfl) rfl))))) okB_nil)
abbrev N_operands_of : List Str := ["definition"]
theorem b_operands_of {C : Cf} {W : Wd} (B : Bt W) (II : IsiFact C W.K) (g : Nat) : XB C W N_operands_of (defScope (top 24)) 0 (defBody (top 24)) (fb_operands_of g) :=
  (okB_cons (s_if (t_cmp k_eq ((OkE.d (x_ixP 0 rfl (by decide +kernel) (by decide +kernel) ((OkD.o x_int)) (fun _ _ => rfl)))) ((OkD.o x_str)) (nomark _)) (okB_cons (s_ret (ok_lst (g := g) (l_cons ((OkE.d (x_ixP 0 rfl (by decide +kernel) (by decide +kernel) ((OkD.o x_int)) (fun _ _ => rfl)))) l_nil rfl))) okB_nil) okB_nil) (okB_cons (s_if (t_in ((OkE.d (x_ixP 0 rfl (by decide +kernel) (by decide +kernel) ((OkD.o x_int)) (fun _ _ => rfl)))) ((OkD.o (ok_tup (l_cons (x_str) (l_cons (x_str) l_nil rfl) rfl)))) rfl) (okB_cons (s_ret (x_list g B (by decide +kernel) (fun _ => rfl) ((OkD.o (OkE.d (x_ixP 0 rfl (by decide +kernel) (by decide +kernel) ((OkD.o x_int)) (fun _ _ => rfl))))))) okB_nil) okB_nil) (okB_cons (s_ret (x_list g B (by decide +kernel) (fun _ => rfl) ((OkD.o (OkE.d (ok_sliceP (g := g) Fit.K (Fit.name (i := 0) rfl (by decide +kernel) (by decide +kernel)) (ok_po1 (x_int)) ok_po0)))))) okB_nil)))
abbrev N_names_in : List Str := ["definition", "operand"]
theorem b_names_in {C : Cf} {W : Wd} (B : Bt W) (II : IsiFact C W.K) (d_operands_of : Def W "operands_of" 1 (spF C 1 F_operands_of)) (g : Nat) : XB C W N_names_in (defScope (top 25)) 1 (defBody (top 25)) (fb_names_in g) :=
  (okB_cons (s_ret (x_lc g [("operand", 1)] (by decide +kernel) (i_seq ((OkE.d (x_call g d_operands_of (by decide +kernel) (by decide +kernel) (by decide +kernel) rfl (l_cons ((x_var 0 rfl (by decide +kernel) (by decide +kernel))) l_nil rfl))))) (g_name 1 rfl (by decide +kernel)) (by decide +kernel) (ok_ts1 ((OkD.t (OkE.d (x_isi .str B II (by decide +kernel) (by decide +kernel) B.str (by decide +kernel) rfl (fun _ q => by cases q) (by decide) (by decide +kernel) (fun _ => rfl) (x_see 1 rfl (by decide +kernel) (by decide +kernel)))) (fun _ _ _ => rfl)))) ((x_var 1 rfl (by decide +kernel) (by decide +kernel))) (fun _ _ => rfl))) okB_nil)
abbrev N_permitted_names : List Str := ["permission"]
theorem b_permitted_names {C : Cf} {W : Wd} (B : Bt W) (II : IsiFact C W.K) (g : Nat) : XB C W N_permitted_names (defScope (top 26)) 0 (defBody (top 26)) (fb_permitted_names g) :=
  (okB_cons (s_if (t_cmp k_eq ((OkE.d (x_ixP 0 rfl (by decide +kernel) (by decide +kernel) ((OkD.o x_int)) (fun _ _ => rfl)))) ((OkD.o x_str)) (nomark _)) (okB_cons (s_ret (ok_lst (g := g) l_nil)) okB_nil) okB_nil) (okB_cons (s_ret (x_list g B (by decide +kernel) (fun _ => rfl) ((OkD.o (OkE.d (x_ixP 0 rfl (by decide +kernel) (by decide +kernel) ((OkD.o (OkE.d (x_neg ((OkD.o x_int)))))) (fun _ _ => rfl))))))) okB_nil))
abbrev N_mentions : List Str := ["setting"]
theorem b_mentions {C : Cf} {W : Wd} (B : Bt W) (II : IsiFact C W.K) (d_names_in : Def W "names_in" 2 (spF C 1 F_names_in)) (d_permitted_names : Def W "permitted_names" 1 (spF C 1 F_permitted_names)) (g : Nat) : XB C W N_mentions (defScope (top 27)) 2 (defBody (top 27)) (fb_mentions g) :=
  (okB_cons (s_ret (x_add g ((OkE.d (x_call g d_names_in (by decide +kernel) (by decide +kernel) (by decide +kernel) rfl (l_cons ((OkE.d (x_ixP 0 rfl (by decide +kernel) (by decide +kernel) ((OkD.o x_int)) (fun _ _ => rfl)))) l_nil rfl)))) ((OkD.o (OkE.d (x_call g d_permitted_names (by decide +kernel) (by decide +kernel) (by decide +kernel) rfl (l_cons ((OkE.d (x_ixP 0 rfl (by decide +kernel) (by decide +kernel) ((OkD.o x_int)) (fun _ _ => rfl)))) l_nil rfl))))))) okB_nil)
abbrev N_ranks_of : List Str := ["rows", "found", "turn", "row", "named", "name"]
theorem b_ranks_of {C : Cf} {W : Wd} (B : Bt W) (II : IsiFact C W.K) (d_mentions : Def W "mentions" 3 (spF C 1 F_mentions)) (g : Nat) : XB C W N_ranks_of (defScope (top 35)) 3 (defBody (top 35)) (fb_ranks_of g) :=
  (okB_cons (s_set 1 rfl (by decide +kernel) rfl (ok_dct0 (g := g))) (okB_cons (s_for (i_range1 B (by decide +kernel) (fun _ => rfl) ((OkE.d (x_len B (by decide +kernel) (fun _ => rfl) (x_see 0 rfl (by decide +kernel) (by decide +kernel)))))) (g_name 2 rfl (by decide +kernel)) (okB_cons (s_for (i_seq ((x_var 0 rfl (by decide +kernel) (by decide +kernel)))) (g_name 3 rfl (by decide +kernel)) (okB_cons (s_set 4 rfl (by decide +kernel) rfl (x_call g d_mentions (by decide +kernel) (by decide +kernel) (by decide +kernel) rfl (l_cons ((x_var 3 rfl (by decide +kernel) (by decide +kernel))) l_nil rfl))) (okB_cons (s_if (OkW.t (okW_and (t_nin ((OkE.d (x_ixP 3 rfl (by decide +kernel) (by decide +kernel) ((OkD.o x_int)) (fun _ _ => rfl)))) (x_see 1 rfl (by decide +kernel) (by decide +kernel)) rfl) (okW_and1 (t_cmp k_eq ((OkE.d (x_lc g [("name", 5)] (by decide +kernel) (i_seq ((x_var 4 rfl (by decide +kernel) (by decide +kernel)))) (g_name 5 rfl (by decide +kernel)) (by decide +kernel) (ok_ts1 (t_nin ((x_var 5 rfl (by decide +kernel) (by decide +kernel))) (x_see 1 rfl (by decide +kernel) (by decide +kernel)) rfl)) ((x_var 5 rfl (by decide +kernel) (by decide +kernel))) (fun _ _ => rfl)))) ((OkD.o (OkE.d (ok_lst (g := g) l_nil)))) (nomark _))))) (okB_cons (s_setK 1 rfl (by decide +kernel) (by decide +kernel) ((OkE.d (x_ixP 3 rfl (by decide +kernel) (by decide +kernel) ((OkD.o x_int)) (fun _ _ => rfl)))) ((OkE.d (x_add g (x_int) ((OkD.o (OkE.d (x_max B (by decide +kernel) (fun _ => rfl) ((OkD.o (OkE.d (x_add g ((OkE.d (x_lc g [("name", 5)] (by decide +kernel) (i_seq ((x_var 4 rfl (by decide +kernel) (by decide +kernel)))) (g_name 5 rfl (by decide +kernel)) (by decide +kernel) ok_ts0 ((OkE.d (x_ixP 1 rfl (by decide +kernel) (by decide +kernel) (x_see 5 rfl (by decide +kernel) (by decide +kernel)) (fun _ _ => rfl)))) (fun _ _ => rfl)))) ((OkD.o (OkE.d (ok_lst (g := g) (l_cons ((OkE.d (x_neg ((OkD.o x_int))))) l_nil rfl)))))))))))))))) rfl) okB_nil) okB_nil) okB_nil)) (fun _ _ => rfl)) okB_nil) (fun _ _ => rfl)) (okB_cons (s_ret (x_move 1 rfl (by decide +kernel) (by decide +kernel))) okB_nil)))
abbrev N_ring_in : List Str := ["rows", "found", "left", "row", "way", "step", "name", "at"]
theorem b_ring_in {C : Cf} {W : Wd} (B : Bt W) (II : IsiFact C W.K) (d_mentions : Def W "mentions" 3 (spF C 1 F_mentions)) (d_ranks_of : Def W "ranks_of" 4 (spF C 1 F_ranks_of)) (g : Nat) : XB C W N_ring_in (defScope (top 36)) 4 (defBody (top 36)) (fb_ring_in g) :=
  (okB_cons (s_set 1 rfl (by decide +kernel) rfl (x_call g d_ranks_of (by decide +kernel) (by decide +kernel) (by decide +kernel) rfl (l_cons ((x_var 0 rfl (by decide +kernel) (by decide +kernel))) l_nil rfl))) (okB_cons (s_setDC 2 rfl (by decide +kernel) (x_dc g [("row", 3)] (by decide +kernel) (i_seq ((x_var 0 rfl (by decide +kernel) (by decide +kernel)))) (g_name 3 rfl (by decide +kernel)) (by decide +kernel) (ok_ts1 (t_nin ((OkE.d (x_ixP 3 rfl (by decide +kernel) (by decide +kernel) ((OkD.o x_int)) (fun _ _ => rfl)))) (x_see 1 rfl (by decide +kernel) (by decide +kernel)) rfl)) ((OkE.d (x_ixP 3 rfl (by decide +kernel) (by decide +kernel) ((OkD.o x_int)) (fun _ _ => rfl)))) ((OkE.d (x_call g d_mentions (by decide +kernel) (by decide +kernel) (by decide +kernel) rfl (l_cons ((x_var 3 rfl (by decide +kernel) (by decide +kernel))) l_nil rfl)))) (fun _ _ => rfl))) (okB_cons (s_if (t_cmpP k_eqK 2 rfl (by decide +kernel) (by decide +kernel) ((OkD.o (OkE.d (ok_dct0 (g := g))))) (nomark _)) (okB_cons (s_ret ((OkD.toE x_non))) okB_nil) okB_nil) (okB_cons (s_set 4 rfl (by decide +kernel) rfl (ok_slice (g := g) Fit.K ((OkE.d (x_lc g [("row", 3)] (by decide +kernel) (i_seq ((x_var 0 rfl (by decide +kernel) (by decide +kernel)))) (g_name 3 rfl (by decide +kernel)) (by decide +kernel) (ok_ts1 (t_in ((OkE.d (x_ixP 3 rfl (by decide +kernel) (by decide +kernel) ((OkD.o x_int)) (fun _ _ => rfl)))) (x_see 2 rfl (by decide +kernel) (by decide +kernel)) rfl)) ((OkE.d (x_ixP 3 rfl (by decide +kernel) (by decide +kernel) ((OkD.o x_int)) (fun _ _ => rfl)))) (fun _ _ => rfl)))) ok_po0 (ok_po1 (x_int)))) (okB_cons (s_while 100 ((OkD.t x_bl (fun _ _ _ => rfl))) (okB_cons (s_set 5 rfl (by decide +kernel) rfl (x_ix ((OkE.d (x_lc g [("name", 6)] (by decide +kernel) (i_seq ((OkE.d (x_ixP 2 rfl (by decide +kernel) (by decide +kernel) ((OkD.o (OkE.d (x_ixP 4 rfl (by decide +kernel) (by decide +kernel) ((OkD.o (OkE.d (x_neg ((OkD.o x_int)))))) (fun _ _ => rfl))))) (fun _ _ => rfl))))) (g_name 6 rfl (by decide +kernel)) (by decide +kernel) (ok_ts1 (t_in ((x_var 6 rfl (by decide +kernel) (by decide +kernel))) (x_see 2 rfl (by decide +kernel) (by decide +kernel)) rfl)) ((x_var 6 rfl (by decide +kernel) (by decide +kernel))) (fun _ _ => rfl)))) ((OkD.o x_int)) (fun _ _ => rfl))) (okB_cons (s_if (t_in ((x_var 5 rfl (by decide +kernel) (by decide +kernel))) (x_see 4 rfl (by decide +kernel) (by decide +kernel)) rfl) (okB_cons (s_ret (x_lc g [("at", 7), ("name", 6)] (by decide +kernel) (i_enum B (by decide +kernel) (fun _ => rfl) ((x_var 4 rfl (by decide +kernel) (by decide +kernel)))) (g_tup (n_cons 7 rfl (by decide +kernel) (n_cons 6 rfl (by decide +kernel) n_nil))) (by decide +kernel) (ok_ts1 (t_in ((x_var 5 rfl (by decide +kernel) (by decide +kernel))) ((OkD.o (OkE.d (ok_sliceP (g := g) Fit.K (Fit.name (i := 4) rfl (by decide +kernel) (by decide +kernel)) ok_po0 (ok_po1 ((OkE.d (x_add g ((x_var 7 rfl (by decide +kernel) (by decide +kernel))) ((OkD.o x_int)))))))))) rfl)) ((x_var 6 rfl (by decide +kernel) (by decide +kernel))) (fun _ _ => rfl))) okB_nil) okB_nil) (okB_cons (s_set 4 rfl (by decide +kernel) rfl (x_add g ((x_var 4 rfl (by decide +kernel) (by decide +kernel))) ((OkD.o (OkE.d (ok_lst (g := g) (l_cons ((x_var 5 rfl (by decide +kernel) (by decide +kernel))) l_nil rfl))))))) okB_nil)))) okB_nil)))))
abbrev N_operand_value : List Str := ["operand", "values"]
theorem b_operand_value {C : Cf} {W : Wd} (B : Bt W) (II : IsiFact C W.K) (d_is_whole : Def W "is_whole" 1 (spF C 1 F_is_whole)) (g : Nat) : XB C W N_operand_value (defScope (top 37)) 1 (defBody (top 37)) (fb_operand_value g) :=
  (okB_cons (s_ret (okE_ite ((OkD.t (OkE.d (x_call g d_is_whole (by decide +kernel) (by decide +kernel) (by decide +kernel) rfl (l_cons ((x_var 0 rfl (by decide +kernel) (by decide +kernel))) l_nil rfl))) (fun _ _ _ => rfl))) ((OkD.toE (x_var 0 rfl (by decide +kernel) (by decide +kernel)))) (x_ixP 1 rfl (by decide +kernel) (by decide +kernel) (x_see 0 rfl (by decide +kernel) (by decide +kernel)) (fun _ _ => rfl)))) okB_nil)
abbrev N_definition_value : List Str := ["definition", "values", "word", "left", "right", "one", "other", "chosen", "found", "operand"]
theorem b_definition_value {C : Cf} {W : Wd} (B : Bt W) (II : IsiFact C W.K) (d_operand_value : Def W "operand_value" 2 (spF C 2 F_operand_value)) (g : Nat) : XB C W N_definition_value (defScope (top 38)) 2 (defBody (top 38)) (fb_definition_value g) :=
  (okB_cons (s_set 2 rfl (by decide +kernel) rfl (x_ixP 0 rfl (by decide +kernel) (by decide +kernel) ((OkD.o x_int)) (fun _ _ => rfl))) (okB_cons (s_if (t_cmpP k_eq 2 rfl (by decide +kernel) (by decide +kernel) ((OkD.o x_str)) (nomark _)) (okB_cons (s_ret (x_ixP 0 rfl (by decide +kernel) (by decide +kernel) ((OkD.o x_int)) (fun _ _ => rfl))) okB_nil) okB_nil) (okB_cons (s_if (t_cmpP k_eq 2 rfl (by decide +kernel) (by decide +kernel) ((OkD.o x_str)) (nomark _)) (okB_cons (s_ret (x_add g ((OkE.d (x_ixP 1 rfl (by decide +kernel) (by decide +kernel) ((OkD.o (OkE.d (x_ixP 0 rfl (by decide +kernel) (by decide +kernel) ((OkD.o x_int)) (fun _ _ => rfl))))) (fun _ _ => rfl)))) ((OkD.o (OkE.d (x_ixP 0 rfl (by decide +kernel) (by decide +kernel) ((OkD.o x_int)) (fun _ _ => rfl))))))) okB_nil) okB_nil) (okB_cons (s_if (t_cmpP k_eq 2 rfl (by decide +kernel) (by decide +kernel) ((OkD.o x_str)) (nomark _)) (okB_cons (s_setT (n_cons 3 rfl (by decide +kernel) (n_cons 4 rfl (by decide +kernel) (n_cons 5 rfl (by decide +kernel) (n_cons 6 rfl (by decide +kernel) n_nil)))) ((OkE.d (ok_sliceP (g := g) Fit.K (Fit.name (i := 0) rfl (by decide +kernel) (by decide +kernel)) (ok_po1 (x_int)) ok_po0))) rfl rfl) (okB_cons (s_set 7 rfl (by decide +kernel) rfl (okE_ite (t_cmp k_ge ((OkE.d (x_call g d_operand_value (by decide +kernel) (by decide +kernel) (by decide +kernel) rfl (l_cons ((x_var 3 rfl (by decide +kernel) (by decide +kernel))) (l_cons ((x_var 1 rfl (by decide +kernel) (by decide +kernel))) l_nil rfl) rfl)))) ((OkD.o (OkE.d (x_call g d_operand_value (by decide +kernel) (by decide +kernel) (by decide +kernel) rfl (l_cons ((x_var 4 rfl (by decide +kernel) (by decide +kernel))) (l_cons ((x_var 1 rfl (by decide +kernel) (by decide +kernel))) l_nil rfl) rfl))))) (nomark _)) ((OkD.toE (x_var 5 rfl (by decide +kernel) (by decide +kernel)))) ((OkD.toE (x_var 6 rfl (by decide +kernel) (by decide +kernel)))))) (okB_cons (s_ret (x_call g d_operand_value (by decide +kernel) (by decide +kernel) (by decide +kernel) rfl (l_cons ((x_var 7 rfl (by decide +kernel) (by decide +kernel))) (l_cons ((x_var 1 rfl (by decide +kernel) (by decide +kernel))) l_nil rfl) rfl))) okB_nil))) okB_nil) (okB_cons (s_setL g 8 [("operand", 9)] rfl (by decide +kernel) rfl (by decide +kernel) (by decide +kernel) (i_seq ((OkE.d (x_ixP 0 rfl (by decide +kernel) (by decide +kernel) ((OkD.o x_int)) (fun _ _ => rfl))))) (g_name 9 rfl (by decide +kernel)) (by decide +kernel) ok_ts0 ((OkE.d (x_call g d_operand_value (by decide +kernel) (by decide +kernel) (by decide +kernel) rfl (l_cons ((x_var 9 rfl (by decide +kernel) (by decide +kernel))) (l_cons ((x_var 1 rfl (by decide +kernel) (by decide +kernel))) l_nil rfl) rfl)))) (fun _ _ => rfl)) (okB_cons (s_ret (okE_ite (t_cmpP k_eq 2 rfl (by decide +kernel) (by decide +kernel) ((OkD.o x_str)) (nomark _)) (x_max B (by decide +kernel) (fun _ => rfl) (x_see 8 rfl (by decide +kernel) (by decide +kernel))) (x_min B (by decide +kernel) (fun _ => rfl) (x_see 8 rfl (by decide +kernel) (by decide +kernel))))) okB_nil))))))
abbrev N_limits_of : List Str := ["permission"]
theorem b_limits_of {C : Cf} {W : Wd} (B : Bt W) (II : IsiFact C W.K) (g : Nat) : XB C W N_limits_of (defScope (top 28)) 0 (defBody (top 28)) (fb_limits_of g) :=
  (okB_cons (s_if (t_in ((OkE.d (x_ixP 0 rfl (by decide +kernel) (by decide +kernel) ((OkD.o x_int)) (fun _ _ => rfl)))) ((OkD.o (ok_tup (l_cons (x_str) (l_cons (x_str) l_nil rfl) rfl)))) rfl) (okB_cons (s_ret ((OkD.toE (ok_tup (l_cons ((OkE.d (x_ixP 0 rfl (by decide +kernel) (by decide +kernel) ((OkD.o x_int)) (fun _ _ => rfl)))) (l_cons ((OkE.d (x_ixP 0 rfl (by decide +kernel) (by decide +kernel) ((OkD.o x_int)) (fun _ _ => rfl)))) l_nil rfl) rfl))))) okB_nil) okB_nil) (okB_cons (s_ret ((OkD.toE (ok_tup (l_cons (x_non) (l_cons (x_non) l_nil rfl) rfl))))) okB_nil))
abbrev N_setting_value : List Str := ["setting", "values", "found", "low", "high"]
theorem b_setting_value {C : Cf} {W : Wd} (B : Bt W) (II : IsiFact C W.K) (d_definition_value : Def W "definition_value" 3 (spF C 2 F_definition_value)) (d_limits_of : Def W "limits_of" 1 (spF C 1 F_limits_of)) (g : Nat) : XB C W N_setting_value (defScope (top 39)) 3 (defBody (top 39)) (fb_setting_value g) :=
  (okB_cons (s_set 2 rfl (by decide +kernel) rfl (x_call g d_definition_value (by decide +kernel) (by decide +kernel) (by decide +kernel) rfl (l_cons ((OkE.d (x_ixP 0 rfl (by decide +kernel) (by decide +kernel) ((OkD.o x_int)) (fun _ _ => rfl)))) (l_cons ((x_var 1 rfl (by decide +kernel) (by decide +kernel))) l_nil rfl) rfl))) (okB_cons (s_setT (n_cons 3 rfl (by decide +kernel) (n_cons 4 rfl (by decide +kernel) n_nil)) ((OkE.d (x_call g d_limits_of (by decide +kernel) (by decide +kernel) (by decide +kernel) rfl (l_cons ((OkE.d (x_ixP 0 rfl (by decide +kernel) (by decide +kernel) ((OkD.o x_int)) (fun _ _ => rfl)))) l_nil rfl)))) rfl rfl) (okB_cons (s_if (OkW.t (okW_and (t_cmpP k_isn 3 rfl (by decide +kernel) (by decide +kernel) ((OkD.o x_non)) (nomark _)) (okW_and1 (t_cmpP k_lt 2 rfl (by decide +kernel) (by decide +kernel) (x_see 3 rfl (by decide +kernel) (by decide +kernel)) (nomark _))))) (okB_cons (s_ret (x_move 3 rfl (by decide +kernel) (by decide +kernel))) okB_nil) okB_nil) (okB_cons (s_if (OkW.t (okW_and (t_cmpP k_isn 4 rfl (by decide +kernel) (by decide +kernel) ((OkD.o x_non)) (nomark _)) (okW_and1 (t_cmpP k_gt 2 rfl (by decide +kernel) (by decide +kernel) (x_see 4 rfl (by decide +kernel) (by decide +kernel)) (nomark _))))) (okB_cons (s_ret (x_move 4 rfl (by decide +kernel) (by decide +kernel))) okB_nil) okB_nil) (okB_cons (s_ret (x_move 2 rfl (by decide +kernel) (by decide +kernel))) okB_nil)))))
abbrev N_values_of : List Str := ["rows", "found", "ranks", "rank", "row"]
theorem b_values_of {C : Cf} {W : Wd} (B : Bt W) (II : IsiFact C W.K) (d_ranks_of : Def W "ranks_of" 4 (spF C 1 F_ranks_of)) (d_setting_value : Def W "setting_value" 4 (spF C 2 F_setting_value)) (g : Nat) : XB C W N_values_of (defScope (top 40)) 4 (defBody (top 40)) (fb_values_of g) :=
  (okB_cons (s_set 1 rfl (by decide +kernel) rfl (ok_dct0 (g := g+1))) (okB_cons (s_set 2 rfl (by decide +kernel) rfl (x_call g d_ranks_of (by decide +kernel) (by decide +kernel) (by decide +kernel) rfl (l_cons ((x_var 0 rfl (by decide +kernel) (by decide +kernel))) l_nil rfl))) (okB_cons (s_for (i_range1 B (by decide +kernel) (fun _ => rfl) ((OkE.d (x_len B (by decide +kernel) (fun _ => rfl) (x_see 0 rfl (by decide +kernel) (by decide +kernel)))))) (g_name 3 rfl (by decide +kernel)) (okB_cons (s_for (i_seq ((x_var 0 rfl (by decide +kernel) (by decide +kernel)))) (g_name 4 rfl (by decide +kernel)) (okB_cons (s_if (t_cmp k_eq ((OkE.d (x_ixP 2 rfl (by decide +kernel) (by decide +kernel) ((OkD.o (OkE.d (x_ixP 4 rfl (by decide +kernel) (by decide +kernel) ((OkD.o x_int)) (fun _ _ => rfl))))) (fun _ _ => rfl)))) (x_see 3 rfl (by decide +kernel) (by decide +kernel)) (nomark _)) (okB_cons (s_setK 1 rfl (by decide +kernel) (by decide +kernel) ((OkE.d (x_ixP 4 rfl (by decide +kernel) (by decide +kernel) ((OkD.o x_int)) (fun _ _ => rfl)))) ((OkE.d (ok_keep 1 (g+1) (x_call g d_setting_value (by decide +kernel) (by decide +kernel) (by decide +kernel) rfl (l_cons ((x_var 4 rfl (by decide +kernel) (by decide +kernel))) (l_cons ((x_var 1 rfl (by decide +kernel) (by decide +kernel))) l_nil rfl) rfl))))) rfl) okB_nil) okB_nil) okB_nil) (fun _ _ => rfl)) okB_nil) (fun _ _ => rfl)) (okB_cons (s_ret (x_move 1 rfl (by decide +kernel) (by decide +kernel))) okB_nil))))
abbrev N_Book_init : List Str := ["self", "settings", "ring", "setting"]
theorem b_Book_init {C : Cf} {W : Wd} (B : Bt W) (II : IsiFact C W.K) (d_are_settings : Def W "are_settings" 5 (spF C 1 F_are_settings)) (d_copied_setting : Def W "copied_setting" 2 (spF C 1 F_copied_setting)) (d_ring_in : Def W "ring_in" 5 (spF C 1 F_ring_in)) (d_values_of : Def W "values_of" 5 (spF C 1 F_values_of)) (hC_Book : 0 < C.n) (hF_Book : C.fs 0 = (["rows", "found"] : List Str)) (g : Nat) : XB C W N_Book_init (defScope (inClass (top 42) 0)) 5 (defBody (inClass (top 42) 0)) (fb_Book_init g) :=
  (okB_cons (s_if (okT_not ((OkD.t (OkE.d (x_call g d_are_settings (by decide +kernel) (by decide +kernel) (by decide +kernel) rfl (l_cons ((x_var 1 rfl (by decide +kernel) (by decide +kernel))) l_nil rfl))) (fun _ _ _ => rfl)))) (okB_cons (ok_never) okB_nil) okB_nil) (okB_cons (s_set 2 rfl (by decide +kernel) rfl (x_call g d_ring_in (by decide +kernel) (by decide +kernel) (by decide +kernel) rfl (l_cons ((x_var 1 rfl (by decide +kernel) (by decide +kernel))) l_nil rfl))) (okB_cons (s_if (t_cmpP k_isn 2 rfl (by decide +kernel) (by decide +kernel) ((OkD.o x_non)) (nomark _)) (okB_cons (ok_never) okB_nil) okB_nil) (okB_cons (s_setF 0 0 (II.ins _ hC_Book) hF_Book rfl rfl (by decide +kernel) (by decide +kernel) (.inr trivial) ((OkE.d (x_lc g [("setting", 3)] (by decide +kernel) (i_seq ((x_var 1 rfl (by decide +kernel) (by decide +kernel)))) (g_name 3 rfl (by decide +kernel)) (by decide +kernel) ok_ts0 ((OkE.d (x_call g d_copied_setting (by decide +kernel) (by decide +kernel) (by decide +kernel) rfl (l_cons ((x_var 3 rfl (by decide +kernel) (by decide +kernel))) l_nil rfl)))) (fun _ _ => rfl)))) (fun _ => rfl)) (okB_cons (s_setF 0 1 (II.ins _ hC_Book) hF_Book rfl rfl (by decide +kernel) (by decide +kernel) (.inr trivial) ((OkE.d (x_call g d_values_of (by decide +kernel) (by decide +kernel) (by decide +kernel) rfl (l_cons ((OkE.d (x_fldI 0 0 (II.ins _ hC_Book) hF_Book rfl rfl (by decide +kernel) (by decide +kernel)))) l_nil rfl)))) (fun _ => rfl)) okB_nil)))))
abbrev N_Book_names : List Str := ["self", "row"]
theorem b_Book_names {C : Cf} {W : Wd} (B : Bt W) (II : IsiFact C W.K) (hC_Book : 0 < C.n) (hF_Book : C.fs 0 = (["rows", "found"] : List Str)) (g : Nat) : XB C W N_Book_names (defScope (inClass (top 42) 1)) 0 (defBody (inClass (top 42) 1)) (fb_Book_names g) :=
  (okB_cons (s_ret (x_lc g [("row", 1)] (by decide +kernel) (i_seq ((OkE.d (x_fld 0 0 (II.ins _ hC_Book) hF_Book rfl ((x_var 0 rfl (by decide +kernel) (by decide +kernel))) (fun _ => rfl))))) (g_name 1 rfl (by decide +kernel)) (by decide +kernel) ok_ts0 ((OkE.d (x_ixP 1 rfl (by decide +kernel) (by decide +kernel) ((OkD.o x_int)) (fun _ _ => rfl)))) (fun _ _ => rfl))) okB_nil)
abbrev N_allows : List Str := ["permission", "row", "name"]
theorem b_allows {C : Cf} {W : Wd} (B : Bt W) (II : IsiFact C W.K) (d_is_alias : Def W "is_alias" 1 (spF C 2 F_is_alias)) (d_is_whole : Def W "is_whole" 1 (spF C 1 F_is_whole)) (d_names_in : Def W "names_in" 2 (spF C 1 F_names_in)) (g : Nat) : XB C W N_allows (defScope (top 32)) 2 (defBody (top 32)) (fb_allows g) :=
  (okB_cons (s_if (t_cmp k_eq ((OkE.d (x_ixP 1 rfl (by decide +kernel) (by decide +kernel) ((OkD.o x_int)) (fun _ _ => rfl)))) ((OkD.o x_str)) (nomark _)) (okB_cons (s_ret (x_cmp k_ne ((OkE.d (x_ixP 0 rfl (by decide +kernel) (by decide +kernel) ((OkD.o x_int)) (fun _ _ => rfl)))) ((OkD.o x_str)) (nomark _))) okB_nil) okB_nil) (okB_cons (s_if (t_cmp k_eq ((OkE.d (x_ixP 1 rfl (by decide +kernel) (by decide +kernel) ((OkD.o x_int)) (fun _ _ => rfl)))) ((OkD.o x_str)) (nomark _)) (okB_cons (s_ret ((OkD.toE (okD_and ((OkE.d (x_cmp k_eq ((OkE.d (x_ixP 0 rfl (by decide +kernel) (by decide +kernel) ((OkD.o x_int)) (fun _ _ => rfl)))) ((OkD.o x_str)) (nomark _)))) (okD_one ((okD_or ((OkE.d (x_call g d_is_whole (by decide +kernel) (by decide +kernel) (by decide +kernel) rfl (l_cons ((OkE.d (x_ixP 1 rfl (by decide +kernel) (by decide +kernel) ((OkD.o x_int)) (fun _ _ => rfl)))) l_nil rfl)))) (okD_one ((OkE.d (x_in ((OkE.d (x_ixP 1 rfl (by decide +kernel) (by decide +kernel) ((OkD.o x_int)) (fun _ _ => rfl)))) ((OkD.o (OkE.d (x_ixP 0 rfl (by decide +kernel) (by decide +kernel) ((OkD.o x_int)) (fun _ _ => rfl))))) rfl))))))))))) okB_nil) okB_nil) (okB_cons (s_if (t_cmp k_eq ((OkE.d (x_ixP 0 rfl (by decide +kernel) (by decide +kernel) ((OkD.o x_int)) (fun _ _ => rfl)))) ((OkD.o x_str)) (nomark _)) (okB_cons (s_ret (x_call g d_is_alias (by decide +kernel) (by decide +kernel) (by decide +kernel) rfl (l_cons ((OkE.d (x_ixP 1 rfl (by decide +kernel) (by decide +kernel) ((OkD.o x_int)) (fun _ _ => rfl)))) (l_cons ((OkE.d (x_ixP 0 rfl (by decide +kernel) (by decide +kernel) ((OkD.o x_int)) (fun _ _ => rfl)))) l_nil rfl) rfl))) okB_nil) okB_nil) (okB_cons (s_ret ((OkD.toE (okD_and ((OkE.d (x_cmp k_eq ((OkE.d (x_ixP 0 rfl (by decide +kernel) (by decide +kernel) ((OkD.o x_int)) (fun _ _ => rfl)))) ((OkD.o x_str)) (nomark _)))) (okD_one ((OkE.d (x_cmp k_eq ((OkE.d (x_lc g [("name", 2)] (by decide +kernel) (i_seq ((OkE.d (x_call g d_names_in (by decide +kernel) (by decide +kernel) (by decide +kernel) rfl (l_cons ((OkE.d (x_ixP 1 rfl (by decide +kernel) (by decide +kernel) ((OkD.o x_int)) (fun _ _ => rfl)))) l_nil rfl))))) (g_name 2 rfl (by decide +kernel)) (by decide +kernel) (ok_ts1 (t_nin ((x_var 2 rfl (by decide +kernel) (by decide +kernel))) ((OkD.o (OkE.d (x_ixP 0 rfl (by decide +kernel) (by decide +kernel) ((OkD.o x_int)) (fun _ _ => rfl))))) rfl)) ((x_var 2 rfl (by decide +kernel) (by decide +kernel))) (fun _ _ => rfl)))) ((OkD.o (OkE.d (ok_lst (g := g) l_nil)))) (nomark _))))))))) okB_nil))))
abbrev N_sealed : List Str := ["setting", "low", "high"]
theorem b_sealed {C : Cf} {W : Wd} (B : Bt W) (II : IsiFact C W.K) (d_copied : Def W "copied" 1 (spF C 1 F_copied)) (d_limits_of : Def W "limits_of" 1 (spF C 1 F_limits_of)) (g : Nat) : XB C W N_sealed (defScope (top 29)) 1 (defBody (top 29)) (fb_sealed g) :=
  (okB_cons (s_setT (n_cons 1 rfl (by decide +kernel) (n_cons 2 rfl (by decide +kernel) n_nil)) ((OkE.d (x_call g d_limits_of (by decide +kernel) (by decide +kernel) (by decide +kernel) rfl (l_cons ((OkE.d (x_ixP 0 rfl (by decide +kernel) (by decide +kernel) ((OkD.o x_int)) (fun _ _ => rfl)))) l_nil rfl)))) rfl rfl) (okB_cons (s_ret ((OkD.toE (ok_tup (l_cons ((OkE.d (x_ixP 0 rfl (by decide +kernel) (by decide +kernel) ((OkD.o x_int)) (fun _ _ => rfl)))) (l_cons ((ok_tup (l_cons (x_str) (l_cons ((x_var 1 rfl (by decide +kernel) (by decide +kernel))) (l_cons ((x_var 2 rfl (by decide +kernel) (by decide +kernel))) l_nil rfl) rfl) rfl))) (l_cons ((OkE.d (x_call g d_copied (by decide +kernel) (by decide +kernel) (by decide +kernel) rfl (l_cons ((OkE.d (x_ixP 0 rfl (by decide +kernel) (by decide +kernel) ((OkD.o x_int)) (fun _ _ => rfl)))) l_nil rfl)))) l_nil rfl) rfl) rfl))))) okB_nil))
abbrev N_applied : List Str := ["setting", "row", "word", "operands"]
theorem b_applied {C : Cf} {W : Wd} (B : Bt W) (II : IsiFact C W.K) (d_copied : Def W "copied" 1 (spF C 1 F_copied)) (d_sealed : Def W "sealed" 2 (spF C 1 F_sealed)) (g : Nat) : XB C W N_applied (defScope (top 33)) 2 (defBody (top 33)) (fb_applied g) :=
  (okB_cons (s_if (t_cmp k_eq ((OkE.d (x_ixP 1 rfl (by decide +kernel) (by decide +kernel) ((OkD.o x_int)) (fun _ _ => rfl)))) ((OkD.o x_str)) (nomark _)) (okB_cons (s_ret (x_call g d_sealed (by decide +kernel) (by decide +kernel) (by decide +kernel) rfl (l_cons ((x_var 0 rfl (by decide +kernel) (by decide +kernel))) l_nil rfl))) okB_nil) okB_nil) (okB_cons (s_if (t_cmp k_eq ((OkE.d (x_ixP 1 rfl (by decide +kernel) (by decide +kernel) ((OkD.o x_int)) (fun _ _ => rfl)))) ((OkD.o x_str)) (nomark _)) (okB_cons (s_ret ((OkD.toE (ok_tup (l_cons ((OkE.d (x_ixP 0 rfl (by decide +kernel) (by decide +kernel) ((OkD.o x_int)) (fun _ _ => rfl)))) (l_cons ((OkE.d (x_call g d_copied (by decide +kernel) (by decide +kernel) (by decide +kernel) rfl (l_cons ((OkE.d (x_ixP 0 rfl (by decide +kernel) (by decide +kernel) ((OkD.o x_int)) (fun _ _ => rfl)))) l_nil rfl)))) (l_cons ((OkE.d (x_call g d_copied (by decide +kernel) (by decide +kernel) (by decide +kernel) rfl (l_cons ((OkE.d (x_ixP 1 rfl (by decide +kernel) (by decide +kernel) ((OkD.o x_int)) (fun _ _ => rfl)))) l_nil rfl)))) l_nil rfl) rfl) rfl))))) okB_nil) okB_nil) (okB_cons (s_setT (n_cons 2 rfl (by decide +kernel) (n_cons 3 rfl (by decide +kernel) n_nil)) ((OkE.d (x_ixP 0 rfl (by decide +kernel) (by decide +kernel) ((OkD.o x_int)) (fun _ _ => rfl)))) rfl rfl) (okB_cons (s_ret ((OkD.toE (ok_tup (l_cons ((OkE.d (x_ixP 0 rfl (by decide +kernel) (by decide +kernel) ((OkD.o x_int)) (fun _ _ => rfl)))) (l_cons ((OkE.d (x_call g d_copied (by decide +kernel) (by decide +kernel) (by decide +kernel) rfl (l_cons ((OkE.d (x_ixP 0 rfl (by decide +kernel) (by decide +kernel) ((OkD.o x_int)) (fun _ _ => rfl)))) l_nil rfl)))) (l_cons ((ok_tup (l_cons ((x_var 2 rfl (by decide +kernel) (by decide +kernel))) (l_cons ((OkE.d (x_add g ((x_var 3 rfl (by decide +kernel) (by decide +kernel))) ((OkD.o (OkE.d (ok_lst (g := g) (l_cons ((OkE.d (x_ixP 1 rfl (by decide +kernel) (by decide +kernel) ((OkD.o x_int)) (fun _ _ => rfl)))) l_nil rfl)))))))) l_nil rfl) rfl))) l_nil rfl) rfl) rfl))))) okB_nil))))
abbrev N_after_rows : List Str := ["rows", "layer", "made", "row", "index", "step", "setting"]
theorem b_after_rows {C : Cf} {W : Wd} (B : Bt W) (II : IsiFact C W.K) (d_allows : Def W "allows" 3 (spF C 2 F_allows)) (d_applied : Def W "applied" 3 (spF C 2 F_applied)) (d_copied_setting : Def W "copied_setting" 2 (spF C 1 F_copied_setting)) (t_NotAllowed : XCls C W "NotAllowed" 5 "index" 1) (g : Nat) : XB C W N_after_rows (defScope (top 41)) 3 (defBody (top 41)) (fb_after_rows g) :=
  (okB_cons (s_setL g 2 [("row", 3)] rfl (by decide +kernel) rfl (by decide +kernel) (by decide +kernel) (i_seq ((x_var 0 rfl (by decide +kernel) (by decide +kernel)))) (g_name 3 rfl (by decide +kernel)) (by decide +kernel) ok_ts0 ((OkE.d (x_call g d_copied_setting (by decide +kernel) (by decide +kernel) (by decide +kernel) rfl (l_cons ((x_var 3 rfl (by decide +kernel) (by decide +kernel))) l_nil rfl)))) (fun _ _ => rfl)) (okB_cons (s_for (i_enum B (by decide +kernel) (fun _ => rfl) ((x_var 1 rfl (by decide +kernel) (by decide +kernel)))) (g_tup (n_cons 4 rfl (by decide +kernel) (n_cons 5 rfl (by decide +kernel) n_nil))) (okB_cons (s_for (i_seq ((x_var 2 rfl (by decide +kernel) (by decide +kernel)))) (g_name 6 rfl (by decide +kernel)) (okB_cons (s_if (OkW.t (okW_and (t_cmp k_eq ((OkE.d (x_ixP 6 rfl (by decide +kernel) (by decide +kernel) ((OkD.o x_int)) (fun _ _ => rfl)))) ((OkD.o (OkE.d (x_ixP 5 rfl (by decide +kernel) (by decide +kernel) ((OkD.o x_int)) (fun _ _ => rfl))))) (nomark _)) (okW_and1 (okT_not ((OkD.t (OkE.d (x_call g d_allows (by decide +kernel) (by decide +kernel) (by decide +kernel) rfl (l_cons ((OkE.d (x_ixP 6 rfl (by decide +kernel) (by decide +kernel) ((OkD.o x_int)) (fun _ _ => rfl)))) (l_cons ((x_var 5 rfl (by decide +kernel) (by decide +kernel))) l_nil rfl) rfl))) (fun _ _ _ => rfl))))))) (okB_cons (ok_never) okB_nil) okB_nil) okB_nil) (fun _ _ => rfl)) (okB_cons (s_setL g 2 [("setting", 6)] rfl (by decide +kernel) rfl (by decide +kernel) (by decide +kernel) (i_seq ((x_var 2 rfl (by decide +kernel) (by decide +kernel)))) (g_name 6 rfl (by decide +kernel)) (by decide +kernel) ok_ts0 ((OkE.d (okE_ite (t_cmp k_eq ((OkE.d (x_ixP 6 rfl (by decide +kernel) (by decide +kernel) ((OkD.o x_int)) (fun _ _ => rfl)))) ((OkD.o (OkE.d (x_ixP 5 rfl (by decide +kernel) (by decide +kernel) ((OkD.o x_int)) (fun _ _ => rfl))))) (nomark _)) (x_call g d_applied (by decide +kernel) (by decide +kernel) (by decide +kernel) rfl (l_cons ((x_var 6 rfl (by decide +kernel) (by decide +kernel))) (l_cons ((x_var 5 rfl (by decide +kernel) (by decide +kernel))) l_nil rfl) rfl)) ((OkD.toE (x_var 6 rfl (by decide +kernel) (by decide +kernel))))))) (fun _ _ => rfl)) okB_nil)) (fun _ _ => rfl)) (okB_cons (s_ret (x_move 2 rfl (by decide +kernel) (by decide +kernel))) okB_nil)))
theorem xd_after_rows {C : Cf} {W : Wd} (B : Bt W) (II : IsiFact C W.K) (d_allows : Def W "allows" 3 (spF C 2 F_allows)) (d_applied : Def W "applied" 3 (spF C 2 F_applied)) (d_copied_setting : Def W "copied_setting" 2 (spF C 1 F_copied_setting)) (t_NotAllowed : XCls C W "NotAllowed" 5 "index" 1) (g : Nat) : RB C W N_after_rows (defScope (top 41)) 3 (defBody (top 41)) (xfb_after_rows g) :=
  (rb_tl (s_setL g 2 [("row", 3)] rfl (by decide +kernel) rfl (by decide +kernel) (by decide +kernel) (i_seq ((x_var 0 rfl (by decide +kernel) (by decide +kernel)))) (g_name 3 rfl (by decide +kernel)) (by decide +kernel) ok_ts0 ((OkE.d (x_call g d_copied_setting (by decide +kernel) (by decide +kernel) (by decide +kernel) rfl (l_cons ((x_var 3 rfl (by decide +kernel) (by decide +kernel))) l_nil rfl)))) (fun _ _ => rfl)) (rb_hd (rs_for (i_enum B (by decide +kernel) (fun _ => rfl) ((x_var 1 rfl (by decide +kernel) (by decide +kernel)))) (g_tup (n_cons 4 rfl (by decide +kernel) (n_cons 5 rfl (by decide +kernel) n_nil))) (okB_cons (s_for (i_seq ((x_var 2 rfl (by decide +kernel) (by decide +kernel)))) (g_name 6 rfl (by decide +kernel)) (okB_cons (s_if (OkW.t (okW_and (t_cmp k_eq ((OkE.d (x_ixP 6 rfl (by decide +kernel) (by decide +kernel) ((OkD.o x_int)) (fun _ _ => rfl)))) ((OkD.o (OkE.d (x_ixP 5 rfl (by decide +kernel) (by decide +kernel) ((OkD.o x_int)) (fun _ _ => rfl))))) (nomark _)) (okW_and1 (okT_not ((OkD.t (OkE.d (x_call g d_allows (by decide +kernel) (by decide +kernel) (by decide +kernel) rfl (l_cons ((OkE.d (x_ixP 6 rfl (by decide +kernel) (by decide +kernel) ((OkD.o x_int)) (fun _ _ => rfl)))) (l_cons ((x_var 5 rfl (by decide +kernel) (by decide +kernel))) l_nil rfl) rfl))) (fun _ _ _ => rfl))))))) (okB_cons (ok_never) okB_nil) okB_nil) okB_nil) (fun _ _ => rfl)) (okB_cons (s_setL g 2 [("setting", 6)] rfl (by decide +kernel) rfl (by decide +kernel) (by decide +kernel) (i_seq ((x_var 2 rfl (by decide +kernel) (by decide +kernel)))) (g_name 6 rfl (by decide +kernel)) (by decide +kernel) ok_ts0 ((OkE.d (okE_ite (t_cmp k_eq ((OkE.d (x_ixP 6 rfl (by decide +kernel) (by decide +kernel) ((OkD.o x_int)) (fun _ _ => rfl)))) ((OkD.o (OkE.d (x_ixP 5 rfl (by decide +kernel) (by decide +kernel) ((OkD.o x_int)) (fun _ _ => rfl))))) (nomark _)) (x_call g d_applied (by decide +kernel) (by decide +kernel) (by decide +kernel) rfl (l_cons ((x_var 6 rfl (by decide +kernel) (by decide +kernel))) (l_cons ((x_var 5 rfl (by decide +kernel) (by decide +kernel))) l_nil rfl) rfl)) ((OkD.toE (x_var 6 rfl (by decide +kernel) (by decide +kernel))))))) (fun _ _ => rfl)) okB_nil)) (rb_hd (rs_for (i_seq ((x_var 2 rfl (by decide +kernel) (by decide +kernel)))) (g_name 6 rfl (by decide +kernel)) (okB_cons (s_if (OkW.t (okW_and (t_cmp k_eq ((OkE.d (x_ixP 6 rfl (by decide +kernel) (by decide +kernel) ((OkD.o x_int)) (fun _ _ => rfl)))) ((OkD.o (OkE.d (x_ixP 5 rfl (by decide +kernel) (by decide +kernel) ((OkD.o x_int)) (fun _ _ => rfl))))) (nomark _)) (okW_and1 (okT_not ((OkD.t (OkE.d (x_call g d_allows (by decide +kernel) (by decide +kernel) (by decide +kernel) rfl (l_cons ((OkE.d (x_ixP 6 rfl (by decide +kernel) (by decide +kernel) ((OkD.o x_int)) (fun _ _ => rfl)))) (l_cons ((x_var 5 rfl (by decide +kernel) (by decide +kernel))) l_nil rfl) rfl))) (fun _ _ _ => rfl))))))) (okB_cons (ok_never) okB_nil) okB_nil) okB_nil) (rb_hd (rs_if (OkW.t (okW_and (t_cmp k_eq ((OkE.d (x_ixP 6 rfl (by decide +kernel) (by decide +kernel) ((OkD.o x_int)) (fun _ _ => rfl)))) ((OkD.o (OkE.d (x_ixP 5 rfl (by decide +kernel) (by decide +kernel) ((OkD.o x_int)) (fun _ _ => rfl))))) (nomark _)) (okW_and1 (okT_not ((OkD.t (OkE.d (x_call g d_allows (by decide +kernel) (by decide +kernel) (by decide +kernel) rfl (l_cons ((OkE.d (x_ixP 6 rfl (by decide +kernel) (by decide +kernel) ((OkD.o x_int)) (fun _ _ => rfl)))) (l_cons ((x_var 5 rfl (by decide +kernel) (by decide +kernel))) l_nil rfl) rfl))) (fun _ _ _ => rfl))))))) (rb_hd (rs_raise t_NotAllowed (by decide +kernel) (by decide +kernel) (by decide +kernel) rfl ((x_var 4 rfl (by decide +kernel) (by decide +kernel))))) rb_no)) (fun _ _ => rfl))) (fun _ _ => rfl))))
abbrev N_check_book : List Str := ["book"]
theorem b_check_book {C : Cf} {W : Wd} (B : Bt W) (II : IsiFact C W.K) (t_InvalidBook : XCls C W "InvalidBook" 1 "value" 1) (hC_Book : 0 < C.n) (hF_Book : C.fs 0 = (["rows", "found"] : List Str)) (mc_Book : W.mg "Book" = some (.ref (C.at_ 0))) (g : Nat) : XB C W N_check_book (defScope (top 43)) 2 (defBody (top 43)) (fb_check_book g) :=
  (okB_cons (s_if (okT_not ((OkD.t (OkE.d (x_isc 0 B II hC_Book (by decide +kernel) (by decide +kernel) mc_Book (by decide +kernel) (fun _ => rfl) (x_see 0 rfl (by decide +kernel) (by decide +kernel)))) (fun _ _ _ => rfl)))) (okB_cons (ok_never) okB_nil) okB_nil) okB_nil)
theorem xd_check_book {C : Cf} {W : Wd} (B : Bt W) (II : IsiFact C W.K) (t_InvalidBook : XCls C W "InvalidBook" 1 "value" 1) (hC_Book : 0 < C.n) (hF_Book : C.fs 0 = (["rows", "found"] : List Str)) (mc_Book : W.mg "Book" = some (.ref (C.at_ 0))) (g : Nat) : RB C W N_check_book (defScope (top 43)) 2 (defBody (top 43)) (xfb_check_book g) :=
  (rb_hd (rs_if (okT_not ((OkD.t (OkE.d (x_isc 0 B II hC_Book (by decide +kernel) (by decide +kernel) mc_Book (by decide +kernel) (fun _ => rfl) (x_see 0 rfl (by decide +kernel) (by decide +kernel)))) (fun _ _ _ => rfl)))) (rb_hd (rs_raise t_InvalidBook (by decide +kernel) (by decide +kernel) (by decide +kernel) rfl ((x_var 0 rfl (by decide +kernel) (by decide +kernel))))) rb_no))
abbrev N_is_row : List Str := ["row", "names"]
theorem b_is_row {C : Cf} {W : Wd} (B : Bt W) (II : IsiFact C W.K) (d_has_word : Def W "has_word" 1 (spF C 3 F_has_word)) (d_is_definition : Def W "is_definition" 4 (spF C 2 F_is_definition)) (d_is_known : Def W "is_known" 1 (spF C 2 F_is_known)) (d_is_operand : Def W "is_operand" 2 (spF C 2 F_is_operand)) (g : Nat) : XB C W N_is_row (defScope (top 30)) 4 (defBody (top 30)) (fb_is_row g) :=
  (okB_cons (s_if ((OkD.t (OkE.d (x_call g d_has_word (by decide +kernel) (by decide +kernel) (by decide +kernel) rfl (l_cons ((x_var 0 rfl (by decide +kernel) (by decide +kernel))) (l_cons (x_str) (l_cons (x_int) l_nil rfl) rfl) rfl))) (fun _ _ _ => rfl))) (okB_cons (s_ret ((OkD.toE (okD_and ((OkE.d (x_call g d_is_known (by decide +kernel) (by decide +kernel) (by decide +kernel) rfl (l_cons ((OkE.d (x_ixP 0 rfl (by decide +kernel) (by decide +kernel) ((OkD.o x_int)) (fun _ _ => rfl)))) (l_cons ((x_var 1 rfl (by decide +kernel) (by decide +kernel))) l_nil rfl) rfl)))) (okD_one ((OkE.d (x_call g d_is_definition (by decide +kernel) (by decide +kernel) (by decide +kernel) rfl (l_cons ((OkE.d (x_ixP 0 rfl (by decide +kernel) (by decide +kernel) ((OkD.o x_int)) (fun _ _ => rfl)))) (l_cons ((x_var 1 rfl (by decide +kernel) (by decide +kernel))) l_nil rfl) rfl))))))))) okB_nil) okB_nil) (okB_cons (s_if ((OkD.t (OkE.d (x_call g d_has_word (by decide +kernel) (by decide +kernel) (by decide +kernel) rfl (l_cons ((x_var 0 rfl (by decide +kernel) (by decide +kernel))) (l_cons (x_str) (l_cons (x_int) l_nil rfl) rfl) rfl))) (fun _ _ _ => rfl))) (okB_cons (s_ret ((OkD.toE (okD_and ((OkE.d (x_call g d_is_known (by decide +kernel) (by decide +kernel) (by decide +kernel) rfl (l_cons ((OkE.d (x_ixP 0 rfl (by decide +kernel) (by decide +kernel) ((OkD.o x_int)) (fun _ _ => rfl)))) (l_cons ((x_var 1 rfl (by decide +kernel) (by decide +kernel))) l_nil rfl) rfl)))) (okD_one ((OkE.d (x_call g d_is_operand (by decide +kernel) (by decide +kernel) (by decide +kernel) rfl (l_cons ((OkE.d (x_ixP 0 rfl (by decide +kernel) (by decide +kernel) ((OkD.o x_int)) (fun _ _ => rfl)))) (l_cons ((x_var 1 rfl (by decide +kernel) (by decide +kernel))) l_nil rfl) rfl))))))))) okB_nil) okB_nil) (okB_cons (s_ret ((OkD.toE (okD_and ((OkE.d (x_call g d_has_word (by decide +kernel) (by decide +kernel) (by decide +kernel) rfl (l_cons ((x_var 0 rfl (by decide +kernel) (by decide +kernel))) (l_cons (x_str) (l_cons (x_int) l_nil rfl) rfl) rfl)))) (okD_one ((OkE.d (x_call g d_is_known (by decide +kernel) (by decide +kernel) (by decide +kernel) rfl (l_cons ((OkE.d (x_ixP 0 rfl (by decide +kernel) (by decide +kernel) ((OkD.o x_int)) (fun _ _ => rfl)))) (l_cons ((x_var 1 rfl (by decide +kernel) (by decide +kernel))) l_nil rfl) rfl))))))))) okB_nil)))
abbrev N_is_layer : List Str := ["layer", "names", "row"]
theorem b_is_layer {C : Cf} {W : Wd} (B : Bt W) (II : IsiFact C W.K) (d_is_row : Def W "is_row" 5 (spF C 2 F_is_row)) (g : Nat) : XB C W N_is_layer (defScope (top 31)) 5 (defBody (top 31)) (fb_is_layer g) :=
  (okB_cons (s_ret ((OkD.toE (okD_and ((OkE.d (x_isi .list B II (by decide +kernel) (by decide +kernel) B.list (by decide +kernel) rfl (fun _ q => by cases q) (by decide) (by decide +kernel) (fun _ => rfl) (x_see 0 rfl (by decide +kernel) (by decide +kernel))))) (okD_one ((OkE.d (x_cmp k_eq ((OkE.d (x_lc g [("row", 2)] (by decide +kernel) (i_seq ((x_var 0 rfl (by decide +kernel) (by decide +kernel)))) (g_name 2 rfl (by decide +kernel)) (by decide +kernel) (ok_ts1 (okT_not ((OkD.t (OkE.d (x_call g d_is_row (by decide +kernel) (by decide +kernel) (by decide +kernel) rfl (l_cons ((x_var 2 rfl (by decide +kernel) (by decide +kernel))) (l_cons ((x_var 1 rfl (by decide +kernel) (by decide +kernel))) l_nil rfl) rfl))) (fun _ _ _ => rfl))))) ((x_var 2 rfl (by decide +kernel) (by decide +kernel))) (fun _ _ => rfl)))) ((OkD.o (OkE.d (ok_lst (g := g) l_nil)))) (nomark _))))))))) okB_nil)
abbrev N_behind : List Str := ["book", "layer"]
theorem b_behind {C : Cf} {W : Wd} (B : Bt W) (II : IsiFact C W.K) (d_Book_names : Mth C W 0 "names" 1 (spF C 1 F_Book_names)) (d_after_rows : Def W "after_rows" 4 (spF C 2 F_after_rows)) (d_check_book : Def W "check_book" 3 (spF C 1 F_check_book)) (d_is_layer : Def W "is_layer" 6 (spF C 2 F_is_layer)) (x_after_rows : Def W "after_rows" 4 (spFX C 2 F_after_rows Fx_after_rows)) (x_check_book : Def W "check_book" 3 (spFX C 1 F_check_book Fx_check_book)) (t_InvalidLayer : XCls C W "InvalidLayer" 4 "value" 1) (hC_Book : 0 < C.n) (hF_Book : C.fs 0 = (["rows", "found"] : List Str)) (g : Nat) : XB C W N_behind (defScope (top 45)) 6 (defBody (top 45)) (fb_behind g) :=
  (okB_cons (s_expr ((OkE.d (x_call g d_check_book (by decide +kernel) (by decide +kernel) (by decide +kernel) rfl (l_cons ((x_var 0 rfl (by decide +kernel) (by decide +kernel))) l_nil rfl)))) rfl) (okB_cons (s_if (okT_not ((OkD.t (OkE.d (x_call g d_is_layer (by decide +kernel) (by decide +kernel) (by decide +kernel) rfl (l_cons ((x_var 1 rfl (by decide +kernel) (by decide +kernel))) (l_cons ((OkE.d (x_meth0 g (II.ins _ hC_Book) hF_Book d_Book_names (by decide +kernel) (by decide +kernel) ((x_var 0 rfl (by decide +kernel) (by decide +kernel))) (fun _ => rfl)))) l_nil rfl) rfl))) (fun _ _ _ => rfl)))) (okB_cons (ok_never) okB_nil) okB_nil) (okB_cons (s_ret (x_call g d_after_rows (by decide +kernel) (by decide +kernel) (by decide +kernel) rfl (l_cons ((OkE.d (x_fld 0 0 (II.ins _ hC_Book) hF_Book rfl ((x_var 0 rfl (by decide +kernel) (by decide +kernel))) (fun _ => rfl)))) (l_cons ((x_var 1 rfl (by decide +kernel) (by decide +kernel))) l_nil rfl) rfl))) okB_nil)))
theorem xd_behind {C : Cf} {W : Wd} (B : Bt W) (II : IsiFact C W.K) (d_Book_names : Mth C W 0 "names" 1 (spF C 1 F_Book_names)) (d_after_rows : Def W "after_rows" 4 (spF C 2 F_after_rows)) (d_check_book : Def W "check_book" 3 (spF C 1 F_check_book)) (d_is_layer : Def W "is_layer" 6 (spF C 2 F_is_layer)) (x_after_rows : Def W "after_rows" 4 (spFX C 2 F_after_rows Fx_after_rows)) (x_check_book : Def W "check_book" 3 (spFX C 1 F_check_book Fx_check_book)) (t_InvalidLayer : XCls C W "InvalidLayer" 4 "value" 1) (hC_Book : 0 < C.n) (hF_Book : C.fs 0 = (["rows", "found"] : List Str)) (g : Nat) : RB C W N_behind (defScope (top 45)) 6 (defBody (top 45)) (xfb_behind g) :=
  (rb_alt (rb_hd (rs_expr (re_call g x_check_book (by decide +kernel) (by decide +kernel) (by decide +kernel) rfl (l_cons ((x_var 0 rfl (by decide +kernel) (by decide +kernel))) l_nil rfl)) rfl)) (rb_tl (s_expr ((OkE.d (x_call g d_check_book (by decide +kernel) (by decide +kernel) (by decide +kernel) rfl (l_cons ((x_var 0 rfl (by decide +kernel) (by decide +kernel))) l_nil rfl)))) rfl) (rb_alt (rb_hd (rs_if (okT_not ((OkD.t (OkE.d (x_call g d_is_layer (by decide +kernel) (by decide +kernel) (by decide +kernel) rfl (l_cons ((x_var 1 rfl (by decide +kernel) (by decide +kernel))) (l_cons ((OkE.d (x_meth0 g (II.ins _ hC_Book) hF_Book d_Book_names (by decide +kernel) (by decide +kernel) ((x_var 0 rfl (by decide +kernel) (by decide +kernel))) (fun _ => rfl)))) l_nil rfl) rfl))) (fun _ _ _ => rfl)))) (rb_hd (rs_raise t_InvalidLayer (by decide +kernel) (by decide +kernel) (by decide +kernel) rfl ((x_var 1 rfl (by decide +kernel) (by decide +kernel))))) rb_no)) (rb_tl (s_if (okT_not ((OkD.t (OkE.d (x_call g d_is_layer (by decide +kernel) (by decide +kernel) (by decide +kernel) rfl (l_cons ((x_var 1 rfl (by decide +kernel) (by decide +kernel))) (l_cons ((OkE.d (x_meth0 g (II.ins _ hC_Book) hF_Book d_Book_names (by decide +kernel) (by decide +kernel) ((x_var 0 rfl (by decide +kernel) (by decide +kernel))) (fun _ => rfl)))) l_nil rfl) rfl))) (fun _ _ _ => rfl)))) (okB_cons (ok_never) okB_nil) okB_nil) (rb_hd (rs_ret (re_call g x_after_rows (by decide +kernel) (by decide +kernel) (by decide +kernel) rfl (l_cons ((OkE.d (x_fld 0 0 (II.ins _ hC_Book) hF_Book rfl ((x_var 0 rfl (by decide +kernel) (by decide +kernel))) (fun _ => rfl)))) (l_cons ((x_var 1 rfl (by decide +kernel) (by decide +kernel))) l_nil rfl) rfl))))))))
abbrev N_plain_row : List Str := ["setting", "rows", "values", "name", "kind", "found", "row"]
theorem b_plain_row {C : Cf} {W : Wd} (B : Bt W) (II : IsiFact C W.K) (d_is_whole : Def W "is_whole" 1 (spF C 1 F_is_whole)) (g : Nat) : XB C W N_plain_row (defScope (top 48)) 1 (defBody (top 48)) (fb_plain_row g) :=
  (okB_cons (s_par 3 4 rfl rfl (by decide) (by decide +kernel) (by decide +kernel) (by decide +kernel) rfl (by decide +kernel) (by decide +kernel) rfl (x_ixP 0 rfl (by decide +kernel) (by decide +kernel) ((OkD.o x_int)) (fun _ _ => rfl)) (x_ix ((OkE.d (x_ixP 0 rfl (by decide +kernel) (by decide +kernel) ((OkD.o x_int)) (fun _ _ => rfl)))) ((OkD.o x_int)) (fun _ _ => rfl))) (okB_cons (s_if (t_cmpP k_eq 4 rfl (by decide +kernel) (by decide +kernel) ((OkD.o x_str)) (nomark _)) (okB_cons (s_ret ((OkD.toE (ok_tup (l_cons (x_str) (l_cons ((x_var 3 rfl (by decide +kernel) (by decide +kernel))) (l_cons ((ok_tup (l_cons (x_str) (l_cons ((OkE.d (x_ixP 2 rfl (by decide +kernel) (by decide +kernel) (x_see 3 rfl (by decide +kernel) (by decide +kernel)) (fun _ _ => rfl)))) l_nil rfl) rfl))) l_nil rfl) rfl) rfl))))) okB_nil) okB_nil) (okB_cons (s_if (t_cmpP k_eq 4 rfl (by decide +kernel) (by decide +kernel) ((OkD.o x_str)) (nomark _)) (okB_cons (s_ret ((OkD.toE (ok_tup (l_cons (x_str) (l_cons ((x_var 3 rfl (by decide +kernel) (by decide +kernel))) (l_cons ((OkE.d (x_ix ((OkE.d (x_ixP 1 rfl (by decide +kernel) (by decide +kernel) ((OkD.o (OkE.d (x_neg ((OkD.o x_int)))))) (fun _ _ => rfl)))) ((OkD.o x_int)) (fun _ _ => rfl)))) l_nil rfl) rfl) rfl))))) okB_nil) okB_nil) (okB_cons (s_setL g 5 [("row", 6)] rfl (by decide +kernel) rfl (by decide +kernel) (by decide +kernel) (i_seq ((x_var 1 rfl (by decide +kernel) (by decide +kernel)))) (g_name 6 rfl (by decide +kernel)) (by decide +kernel) ok_ts0 ((OkE.d (okE_ite ((OkD.t (OkE.d (x_call g d_is_whole (by decide +kernel) (by decide +kernel) (by decide +kernel) rfl (l_cons ((OkE.d (x_ixP 6 rfl (by decide +kernel) (by decide +kernel) ((OkD.o x_int)) (fun _ _ => rfl)))) l_nil rfl))) (fun _ _ _ => rfl))) (x_ixP 6 rfl (by decide +kernel) (by decide +kernel) ((OkD.o x_int)) (fun _ _ => rfl)) (x_ixP 2 rfl (by decide +kernel) (by decide +kernel) ((OkD.o (OkE.d (x_ixP 6 rfl (by decide +kernel) (by decide +kernel) ((OkD.o x_int)) (fun _ _ => rfl))))) (fun _ _ => rfl))))) (fun _ _ => rfl)) (okB_cons (s_ret ((OkD.toE (ok_tup (l_cons (x_str) (l_cons ((x_var 3 rfl (by decide +kernel) (by decide +kernel))) (l_cons ((OkE.d (okE_ite (t_cmp k_eq ((OkE.d (x_ix ((OkE.d (x_ixP 0 rfl (by decide +kernel) (by decide +kernel) ((OkD.o x_int)) (fun _ _ => rfl)))) ((OkD.o x_int)) (fun _ _ => rfl)))) ((OkD.o x_str)) (nomark _)) (x_max B (by decide +kernel) (fun _ => rfl) (x_see 5 rfl (by decide +kernel) (by decide +kernel))) (x_min B (by decide +kernel) (fun _ => rfl) (x_see 5 rfl (by decide +kernel) (by decide +kernel)))))) l_nil rfl) rfl) rfl))))) okB_nil)))))
abbrev N_touching : List Str := ["layer", "name", "row"]
theorem b_touching {C : Cf} {W : Wd} (B : Bt W) (II : IsiFact C W.K) (g : Nat) : XB C W N_touching (defScope (top 46)) 0 (defBody (top 46)) (fb_touching g) :=
  (okB_cons (s_ret (x_lc g [("row", 2)] (by decide +kernel) (i_seq ((x_var 0 rfl (by decide +kernel) (by decide +kernel)))) (g_name 2 rfl (by decide +kernel)) (by decide +kernel) (ok_ts1 (OkW.t (okW_and (t_cmp k_ne ((OkE.d (x_ixP 2 rfl (by decide +kernel) (by decide +kernel) ((OkD.o x_int)) (fun _ _ => rfl)))) ((OkD.o x_str)) (nomark _)) (okW_and1 (t_cmp k_eq ((OkE.d (x_ixP 2 rfl (by decide +kernel) (by decide +kernel) ((OkD.o x_int)) (fun _ _ => rfl)))) (x_see 1 rfl (by decide +kernel) (by decide +kernel)) (nomark _)))))) ((x_var 2 rfl (by decide +kernel) (by decide +kernel))) (fun _ _ => rfl))) okB_nil)
abbrev N_plain : List Str := ["book", "layer", "values", "found", "setting", "rows"]
theorem b_plain {C : Cf} {W : Wd} (B : Bt W) (II : IsiFact C W.K) (d_behind : Def W "behind" 7 (spF C 2 F_behind)) (d_plain_row : Def W "plain_row" 2 (spF C 3 F_plain_row)) (d_touching : Def W "touching" 1 (spF C 2 F_touching)) (d_values_of : Def W "values_of" 5 (spF C 1 F_values_of)) (x_behind : Def W "behind" 7 (spFX C 2 F_behind Fx_behind)) (hC_Book : 0 < C.n) (hF_Book : C.fs 0 = (["rows", "found"] : List Str)) (g : Nat) : XB C W N_plain (defScope (top 49)) 7 (defBody (top 49)) (fb_plain g) :=
  (okB_cons (s_set 2 rfl (by decide +kernel) rfl (x_call g d_values_of (by decide +kernel) (by decide +kernel) (by decide +kernel) rfl (l_cons ((OkE.d (x_call g d_behind (by decide +kernel) (by decide +kernel) (by decide +kernel) rfl (l_cons ((x_var 0 rfl (by decide +kernel) (by decide +kernel))) (l_cons ((x_var 1 rfl (by decide +kernel) (by decide +kernel))) l_nil rfl) rfl)))) l_nil rfl))) (okB_cons (s_set 3 rfl (by decide +kernel) rfl (ok_lst (g := g) l_nil)) (okB_cons (s_for (i_seq ((OkE.d (x_fld 0 0 (II.ins _ hC_Book) hF_Book rfl ((x_var 0 rfl (by decide +kernel) (by decide +kernel))) (fun _ => rfl))))) (g_name 4 rfl (by decide +kernel)) (okB_cons (s_set 5 rfl (by decide +kernel) rfl (x_call g d_touching (by decide +kernel) (by decide +kernel) (by decide +kernel) rfl (l_cons ((x_var 1 rfl (by decide +kernel) (by decide +kernel))) (l_cons ((OkE.d (x_ixP 4 rfl (by decide +kernel) (by decide +kernel) ((OkD.o x_int)) (fun _ _ => rfl)))) l_nil rfl) rfl))) (okB_cons (s_if (t_cmpP k_ne 5 rfl (by decide +kernel) (by decide +kernel) ((OkD.o (OkE.d (ok_lst (g := g) l_nil)))) (nomark _)) (okB_cons (s_app 3 rfl (by decide +kernel) (by decide +kernel) ((OkE.d (x_call g d_plain_row (by decide +kernel) (by decide +kernel) (by decide +kernel) rfl (l_cons ((x_var 4 rfl (by decide +kernel) (by decide +kernel))) (l_cons ((x_var 5 rfl (by decide +kernel) (by decide +kernel))) (l_cons ((x_var 2 rfl (by decide +kernel) (by decide +kernel))) l_nil rfl) rfl) rfl)))) (fun _ => rfl) rfl) okB_nil) okB_nil) okB_nil)) (fun _ _ => rfl)) (okB_cons (s_ret (x_move 3 rfl (by decide +kernel) (by decide +kernel))) okB_nil))))
theorem xd_plain {C : Cf} {W : Wd} (B : Bt W) (II : IsiFact C W.K) (d_behind : Def W "behind" 7 (spF C 2 F_behind)) (d_plain_row : Def W "plain_row" 2 (spF C 3 F_plain_row)) (d_touching : Def W "touching" 1 (spF C 2 F_touching)) (d_values_of : Def W "values_of" 5 (spF C 1 F_values_of)) (x_behind : Def W "behind" 7 (spFX C 2 F_behind Fx_behind)) (hC_Book : 0 < C.n) (hF_Book : C.fs 0 = (["rows", "found"] : List Str)) (g : Nat) : RB C W N_plain (defScope (top 49)) 7 (defBody (top 49)) (xfb_plain g) :=
  (rb_hd (rs_set 2 rfl (by decide +kernel) rfl (re_callA d_values_of (by decide +kernel) (by decide +kernel) (by decide +kernel) rfl (ra_hd (re_call g x_behind (by decide +kernel) (by decide +kernel) (by decide +kernel) rfl (l_cons ((x_var 0 rfl (by decide +kernel) (by decide +kernel))) (l_cons ((x_var 1 rfl (by decide +kernel) (by decide +kernel))) l_nil rfl) rfl)) rfl))))
abbrev N_law_fails : List Str := ["_law_given", "_law_rows", "_law_caught", "error"]
theorem b_law_fails {C : Cf} {W : Wd} (B : Bt W) (II : IsiFact C W.K) (d_plain : Def W "plain" 8 (spF C 2 F_plain)) (dk_plain_layer_book : DefK W "plain" 8 (spF C 2 F_plain) ["layer", "book"] [1, 0]) (xk_plain_layer_book : DefK W "plain" 8 (spFX C 2 F_plain Fx_plain) ["layer", "book"] [1, 0]) (hX_ThemeError : 0 < C.xn) (mx_ThemeError : W.mg "ThemeError" = some (.ref (C.xat 0))) (g : Nat) : XB C W N_law_fails (defScope (top 55)) 8 (defBody (top 55)) (fb_law_fails g) :=
  (okB_cons (s_set 2 rfl (by decide +kernel) rfl ((OkD.toE x_non))) (okB_cons (s_try 0 3 2 II hX_ThemeError mx_ThemeError (by decide +kernel) (by decide +kernel) rfl rfl (by decide +kernel) (by decide +kernel) (by decide +kernel) (okB_cons (s_set 2 rfl (by decide +kernel) rfl (x_callK g dk_plain_layer_book (by decide +kernel) (by decide +kernel) (by decide +kernel) rfl rfl (k_cons ((x_var 1 rfl (by decide +kernel) (by decide +kernel))) (k_cons ((x_var 0 rfl (by decide +kernel) (by decide +kernel))) k_nil)))) okB_nil) (rb_hd (rs_set 2 rfl (by decide +kernel) rfl (re_callK g xk_plain_layer_book (by decide +kernel) (by decide +kernel) (by decide +kernel) rfl rfl (k_cons ((x_var 1 rfl (by decide +kernel) (by decide +kernel))) (k_cons ((x_var 0 rfl (by decide +kernel) (by decide +kernel))) k_nil)))))) (okB_cons (s_ret (x_move 2 rfl (by decide +kernel) (by decide +kernel))) okB_nil)))
abbrev N_law_mixed : List Str := ["_law_cell", "_law_turn", "_law_at", "_law_mixed_here"]
theorem b_law_mixed {C : Cf} {W : Wd} (B : Bt W) (II : IsiFact C W.K) (g : Nat) : XB C W N_law_mixed (defScope (top 52)) 0 (defBody (top 52)) (fb_law_mixed g) :=
  (okB_cons (s_set 3 rfl (by decide +kernel) rfl (x_add g ((OkE.d (x_mul ((x_var 0 rfl (by decide +kernel) (by decide +kernel))) ((OkD.o x_int))))) ((OkD.o (OkE.d (x_mul ((OkE.d (x_mul (x_int) (x_see 1 rfl (by decide +kernel) (by decide +kernel))))) (x_see 1 rfl (by decide +kernel) (by decide +kernel)))))))) (okB_cons (s_set 3 rfl (by decide +kernel) rfl (x_mod ((OkE.d (x_add g ((OkE.d (x_add g ((x_var 3 rfl (by decide +kernel) (by decide +kernel))) ((OkD.o (OkE.d (x_mul (x_int) (x_see 2 rfl (by decide +kernel) (by decide +kernel))))))))) (x_see 1 rfl (by decide +kernel) (by decide +kernel))))) ((OkD.o x_int)))) (okB_cons (s_set 3 rfl (by decide +kernel) rfl (x_mod ((OkE.d (x_add g ((OkE.d (x_mul ((x_var 3 rfl (by decide +kernel) (by decide +kernel))) (x_see 3 rfl (by decide +kernel) (by decide +kernel))))) ((OkD.o x_int))))) ((OkD.o x_int)))) (okB_cons (s_ret (x_mod ((OkE.d (x_mul ((x_var 3 rfl (by decide +kernel) (by decide +kernel))) ((OkD.o x_int))))) ((OkD.o x_int)))) okB_nil))))
abbrev N_law_draw : List Str := ["_law_purse_here", "_law_many", "_law_drawn", "_law_found", "_law_piece"]
theorem b_law_draw {C : Cf} {W : Wd} (B : Bt W) (II : IsiFact C W.K) (d_law_mixed : Def W "_law_mixed" 1 (spF C 3 F_law_mixed)) (g : Nat) : XB C W N_law_draw (defScope (top 53)) 1 (defBody (top 53)) (fb_law_draw g) :=
  (okB_cons (s_if (t_cmp k_gt ((OkE.d (x_ixP 0 rfl (by decide +kernel) (by decide +kernel) ((OkD.o x_int)) (fun _ _ => rfl)))) ((OkD.o x_int)) (nomark _)) (okB_cons (s_set 2 rfl (by decide +kernel) rfl (x_mod ((OkE.d (x_ixP 0 rfl (by decide +kernel) (by decide +kernel) ((OkD.o x_int)) (fun _ _ => rfl)))) (x_see 1 rfl (by decide +kernel) (by decide +kernel)))) (okB_cons (s_setI 0 rfl (by decide +kernel) (by decide +kernel) (x_int) ((OkE.d (x_div ((OkE.d (x_ixP 0 rfl (by decide +kernel) (by decide +kernel) ((OkD.o x_int)) (fun _ _ => rfl)))) (x_see 1 rfl (by decide +kernel) (by decide +kernel))))) rfl (fun _ => rfl) (fun _ _ => rfl)) (okB_cons (s_ret (x_move 2 rfl (by decide +kernel) (by decide +kernel))) okB_nil))) okB_nil) (okB_cons (s_set 3 rfl (by decide +kernel) rfl ((OkD.toE x_int))) (okB_cons (s_for (i_range1 B (by decide +kernel) (fun _ => rfl) ((OkE.d (x_add g (x_int) ((OkD.o (OkE.d (x_div ((OkE.d (x_bits (x_see 1 rfl (by decide +kernel) (by decide +kernel)) (fun _ => rfl) rfl))) ((OkD.o x_int)))))))))) (g_name 4 rfl (by decide +kernel)) (okB_cons (s_setI 0 rfl (by decide +kernel) (by decide +kernel) (x_int) ((OkE.d (x_add g ((OkE.d (x_ixP 0 rfl (by decide +kernel) (by decide +kernel) ((OkD.o x_int)) (fun _ _ => rfl)))) ((OkD.o x_int))))) rfl (fun _ => rfl) (fun _ _ => rfl)) (okB_cons (s_set 3 rfl (by decide +kernel) rfl (x_add g ((OkE.d (x_mul ((x_var 3 rfl (by decide +kernel) (by decide +kernel))) ((OkD.o x_int))))) ((OkD.o (OkE.d (x_call g d_law_mixed (by decide +kernel) (by decide +kernel) (by decide +kernel) rfl (l_cons ((OkE.d (x_ixP 0 rfl (by decide +kernel) (by decide +kernel) ((OkD.o x_int)) (fun _ _ => rfl)))) (l_cons ((OkE.d (x_ixP 0 rfl (by decide +kernel) (by decide +kernel) ((OkD.o x_int)) (fun _ _ => rfl)))) (l_cons ((OkE.d (x_ixP 0 rfl (by decide +kernel) (by decide +kernel) ((OkD.o x_int)) (fun _ _ => rfl)))) l_nil rfl) rfl) rfl))))))) okB_nil)) (fun _ _ => rfl)) (okB_cons (s_ret (x_mod ((x_var 3 rfl (by decide +kernel) (by decide +kernel))) (x_see 1 rfl (by decide +kernel) (by decide +kernel)))) okB_nil))))
abbrev N_law_number : List Str := ["_law_purse_here", "_law_wide"]
theorem b_law_number {C : Cf} {W : Wd} (B : Bt W) (II : IsiFact C W.K) (d_law_draw : Def W "_law_draw" 2 (spM C 2 F_law_draw)) (g : Nat) : XB C W N_law_number (defScope (top 54)) 2 (defBody (top 54)) (fb_law_number g) :=
  (okB_cons (s_set 1 rfl (by decide +kernel) rfl (x_ix ((OkE.d (ok_lst (g := g) (l_cons (x_int) (l_cons (x_int) (l_cons (x_int) (l_cons (x_int) (l_cons (x_int) (l_cons ((OkE.d (x_pow (x_int) ((OkD.o x_int))))) (l_cons ((OkE.d (x_pow (x_int) ((OkD.o x_int))))) l_nil rfl) rfl) rfl) rfl) rfl) rfl) rfl)))) ((OkD.o (OkE.d (x_callM g 0 d_law_draw (by decide +kernel) (by decide +kernel) (by decide +kernel) rfl (by decide +kernel) (by decide +kernel) rfl (l_cons (x_int) l_nil rfl))))) (fun _ _ => rfl))) (okB_cons (s_ret (x_sub ((OkE.d (x_callM g 0 d_law_draw (by decide +kernel) (by decide +kernel) (by decide +kernel) rfl (by decide +kernel) (by decide +kernel) rfl (l_cons ((OkE.d (x_add g ((OkE.d (x_mul (x_int) (x_see 1 rfl (by decide +kernel) (by decide +kernel))))) ((OkD.o x_int))))) l_nil rfl)))) (x_see 1 rfl (by decide +kernel) (by decide +kernel)))) okB_nil))
abbrev N_law_purse : List Str := ["_law_script", "_law_at", "_law_cell"]
theorem b_law_purse {C : Cf} {W : Wd} (B : Bt W) (II : IsiFact C W.K) (g : Nat) : XB C W N_law_purse (defScope (top 51)) 0 (defBody (top 51)) (fb_law_purse g) :=
  (okB_cons (s_set 2 rfl (by decide +kernel) rfl (x_sum B (by decide +kernel) (fun _ => rfl) ((OkD.o (OkE.d (ok_sliceP (g := g) Fit.K (Fit.name (i := 0) rfl (by decide +kernel) (by decide +kernel)) (ok_po1 ((x_var 1 rfl (by decide +kernel) (by decide +kernel)))) (ok_po1 ((OkE.d (x_add g ((x_var 1 rfl (by decide +kernel) (by decide +kernel))) ((OkD.o x_int)))))))))))) (okB_cons (s_ret (ok_lst (g := g) (l_cons ((OkE.d (x_mod ((OkE.d (x_max2 B (by decide +kernel) (fun _ => rfl) (fun _ => rfl) (l_cons ((OkE.d (x_sub ((x_var 2 rfl (by decide +kernel) (by decide +kernel))) ((OkD.o (OkE.d (x_pow (x_int) ((OkD.o x_int))))))))) (l_cons (x_int) l_nil rfl) rfl)))) ((OkD.o (OkE.d (x_pow ((OkE.d (x_pow (x_int) ((OkD.o x_int))))) ((OkD.o x_int))))))))) (l_cons ((OkE.d (x_mod ((x_var 2 rfl (by decide +kernel) (by decide +kernel))) ((OkD.o x_int))))) (l_cons (x_int) (l_cons ((x_var 1 rfl (by decide +kernel) (by decide +kernel))) l_nil rfl) rfl) rfl) rfl))) okB_nil))
abbrev N_touched : List Str := ["book", "layer", "name"]
theorem b_touched {C : Cf} {W : Wd} (B : Bt W) (II : IsiFact C W.K) (d_Book_names : Mth C W 0 "names" 1 (spF C 1 F_Book_names)) (d_behind : Def W "behind" 7 (spF C 2 F_behind)) (d_touching : Def W "touching" 1 (spF C 2 F_touching)) (hC_Book : 0 < C.n) (hF_Book : C.fs 0 = (["rows", "found"] : List Str)) (g : Nat) : XB C W N_touched (defScope (top 47)) 7 (defBody (top 47)) (fb_touched g) :=
  (okB_cons (s_expr ((OkE.d (x_call g d_behind (by decide +kernel) (by decide +kernel) (by decide +kernel) rfl (l_cons ((x_var 0 rfl (by decide +kernel) (by decide +kernel))) (l_cons ((x_var 1 rfl (by decide +kernel) (by decide +kernel))) l_nil rfl) rfl)))) rfl) (okB_cons (s_ret (x_lc g [("name", 2)] (by decide +kernel) (i_seq ((OkE.d (x_sorted g B (by decide +kernel) (fun _ => rfl) ((OkD.o (OkE.d (x_meth0 g (II.ins _ hC_Book) hF_Book d_Book_names (by decide +kernel) (by decide +kernel) ((x_var 0 rfl (by decide +kernel) (by decide +kernel))) (fun _ => rfl))))))))) (g_name 2 rfl (by decide +kernel)) (by decide +kernel) (ok_ts1 (t_cmp k_ne ((OkE.d (x_call g d_touching (by decide +kernel) (by decide +kernel) (by decide +kernel) rfl (l_cons ((x_var 1 rfl (by decide +kernel) (by decide +kernel))) (l_cons ((x_var 2 rfl (by decide +kernel) (by decide +kernel))) l_nil rfl) rfl)))) ((OkD.o (OkE.d (ok_lst (g := g) l_nil)))) (nomark _))) ((x_var 2 rfl (by decide +kernel) (by decide +kernel))) (fun _ _ => rfl))) okB_nil))
abbrev N_law : List Str := ["_law_script", "_law_cell", "_law_purse_here", "_law_first", "_law_second", "_law_third", "_law_fourth", "_law_turn", "_law_size", "_law_wide", "_law_theme", "_law_rows", "_law_due"]
theorem b_law {C : Cf} {W : Wd} (B : Bt W) (II : IsiFact C W.K) (m_Book : Mkr C W "Book" 0 6 (spI C 0 2 F_Book_init)) (d_law_fails : Def W "_law_fails" 9 (spF C 2 F_law_fails)) (d_law_number : Def W "_law_number" 3 (spM C 1 F_law_number)) (d_law_purse : Def W "_law_purse" 1 (spF C 2 F_law_purse)) (d_plain : Def W "plain" 8 (spF C 2 F_plain)) (d_touched : Def W "touched" 8 (spF C 2 F_touched)) (dk_plain_book_layer : DefK W "plain" 8 (spF C 2 F_plain) ["book", "layer"] [0, 1]) (dk_plain_layer_book : DefK W "plain" 8 (spF C 2 F_plain) ["layer", "book"] [1, 0]) (dk_touched_layer_book : DefK W "touched" 8 (spF C 2 F_touched) ["layer", "book"] [1, 0]) (hX_InvalidBook : 1 < C.xn) (mx_InvalidBook : W.mg "InvalidBook" = some (.ref (C.xat 1))) (hX_InvalidLayer : 4 < C.xn) (mx_InvalidLayer : W.mg "InvalidLayer" = some (.ref (C.xat 4))) (g : Nat) : XB C W N_law (defScope (top 56)) 9 (defBody (top 56)) (fb_law g) :=
  (okB_cons (s_for (i_range1 B (by decide +kernel) (fun _ => rfl) ((OkE.d (x_max2 B (by decide +kernel) (fun _ => rfl) (fun _ => rfl) (l_cons (x_int) (l_cons ((OkE.d (x_len B (by decide +kernel) (fun _ => rfl) ((OkD.o (OkE.d (ok_sliceP (g := g) Fit.K (Fit.name (i := 0) rfl (by decide +kernel) (by decide +kernel)) ok_po0 (ok_po1 (x_int))))))))) l_nil rfl) rfl))))) (g_name 1 rfl (by decide +kernel)) (okB_cons (s_set 2 rfl (by decide +kernel) rfl (x_call g d_law_purse (by decide +kernel) (by decide +kernel) (by decide +kernel) rfl (l_cons ((x_var 0 rfl (by decide +kernel) (by decide +kernel))) (l_cons ((x_var 1 rfl (by decide +kernel) (by decide +kernel))) l_nil rfl) rfl))) (okB_cons (s_setLs (n_cons 3 rfl (by decide +kernel) (n_cons 4 rfl (by decide +kernel) (n_cons 5 rfl (by decide +kernel) (n_cons 6 rfl (by decide +kernel) n_nil)))) ((OkE.d (x_lc g [("_law_turn", 7)] (by decide +kernel) (i_range1 B (by decide +kernel) (fun _ => rfl) (x_int)) (g_name 7 rfl (by decide +kernel)) (by decide +kernel) ok_ts0 ((OkE.d (x_callM g 2 d_law_number (by decide +kernel) (by decide +kernel) (by decide +kernel) rfl (by decide +kernel) (by decide +kernel) rfl l_nil))) (fun _ _ => rfl)))) rfl (fun _ => rfl)) (okB_cons (s_set 8 rfl (by decide +kernel) rfl ((OkD.toE (ok_tup (l_cons (x_str) (l_cons ((ok_tup (l_cons (x_str) (l_cons (x_non) (l_cons (x_non) (l_cons ((OkE.d (ok_lst (g := g) l_nil))) l_nil rfl) rfl) rfl) rfl))) (l_cons ((ok_tup (l_cons (x_str) (l_cons ((x_var 3 rfl (by decide +kernel) (by decide +kernel))) l_nil rfl) rfl))) l_nil rfl) rfl) rfl))))) (okB_cons (s_set 9 rfl (by decide +kernel) rfl ((OkD.toE (ok_tup (l_cons (x_str) (l_cons ((ok_tup (l_cons (x_str) (l_cons ((OkE.d (ok_lst (g := g) (l_cons (x_str) l_nil rfl)))) l_nil rfl) rfl))) (l_cons ((ok_tup (l_cons (x_str) (l_cons ((OkE.d (ok_lst (g := g) (l_cons ((x_var 4 rfl (by decide +kernel) (by decide +kernel))) (l_cons (x_str) l_nil rfl) rfl)))) l_nil rfl) rfl))) l_nil rfl) rfl) rfl))))) (okB_cons (s_set 10 rfl (by decide +kernel) rfl ((OkD.toE (x_make g m_Book (by decide +kernel) (by decide +kernel) (by decide +kernel) rfl (l_cons ((OkE.d (ok_lst (g := g) (l_cons ((x_var 8 rfl (by decide +kernel) (by decide +kernel))) (l_cons ((x_var 9 rfl (by decide +kernel) (by decide +kernel))) (l_cons ((ok_tup (l_cons (x_str) (l_cons ((ok_tup (l_cons (x_str) (l_cons ((OkE.d (ok_lst (g := g) (l_cons (x_str) (l_cons (x_str) l_nil rfl) rfl)))) l_nil rfl) rfl))) (l_cons ((ok_tup (l_cons (x_str) (l_cons (x_str) (l_cons (x_int) l_nil rfl) rfl) rfl))) l_nil rfl) rfl) rfl))) l_nil rfl) rfl) rfl)))) l_nil rfl))))) (okB_cons (s_set 11 rfl (by decide +kernel) rfl (ok_lst (g := g) (l_cons ((ok_tup (l_cons (x_str) (l_cons (x_str) (l_cons ((x_var 6 rfl (by decide +kernel) (by decide +kernel))) l_nil rfl) rfl) rfl))) (l_cons ((ok_tup (l_cons (x_str) (l_cons (x_str) (l_cons ((ok_tup (l_cons (x_str) (l_cons ((x_var 5 rfl (by decide +kernel) (by decide +kernel))) l_nil rfl) rfl))) l_nil rfl) rfl) rfl))) (l_cons ((ok_tup (l_cons (x_str) (l_cons (x_str) (l_cons (x_str) l_nil rfl) rfl) rfl))) l_nil rfl) rfl) rfl))) (okB_cons (s_app 11 rfl (by decide +kernel) (by decide +kernel) ((ok_tup (l_cons (x_str) (l_cons (x_str) (l_cons ((ok_tup (l_cons (x_str) (l_cons (x_str) (l_cons (x_int) l_nil rfl) rfl) rfl))) l_nil rfl) rfl) rfl))) (fun _ => rfl) rfl) (okB_cons (s_set 12 rfl (by decide +kernel) rfl (ok_lst (g := g) (l_cons ((ok_tup (l_cons (x_str) (l_cons (x_str) (l_cons ((ok_tup (l_cons (x_str) (l_cons ((x_var 5 rfl (by decide +kernel) (by decide +kernel))) l_nil rfl) rfl))) l_nil rfl) rfl) rfl))) (l_cons ((ok_tup (l_cons (x_str) (l_cons (x_str) (l_cons ((OkE.d (okE_ite (t_cmpP k_gt 5 rfl (by decide +kernel) (by decide +kernel) (x_see 6 rfl (by decide +kernel) (by decide +kernel)) (nomark _)) ((OkD.toE (x_var 5 rfl (by decide +kernel) (by decide +kernel)))) ((OkD.toE (x_var 6 rfl (by decide +kernel) (by decide +kernel))))))) l_nil rfl) rfl) rfl))) l_nil rfl) rfl))) (okB_cons (s_app 12 rfl (by decide +kernel) (by decide +kernel) ((ok_tup (l_cons (x_str) (l_cons (x_str) (l_cons ((ok_tup (l_cons (x_str) (l_cons (x_str) (l_cons (x_int) l_nil rfl) rfl) rfl))) l_nil rfl) rfl) rfl))) (fun _ => rfl) rfl) (okB_cons (s_if (OkW.t (okW_or (t_cmp k_ne ((OkE.d (x_callK g dk_plain_layer_book (by decide +kernel) (by decide +kernel) (by decide +kernel) rfl rfl (k_cons ((x_var 11 rfl (by decide +kernel) (by decide +kernel))) (k_cons ((x_var 10 rfl (by decide +kernel) (by decide +kernel))) k_nil))))) (x_see 12 rfl (by decide +kernel) (by decide +kernel)) (nomark _)) (okW_or1 (t_cmp k_ne ((OkE.d (x_callK g dk_plain_book_layer (by decide +kernel) (by decide +kernel) (by decide +kernel) rfl rfl (k_cons ((x_var 10 rfl (by decide +kernel) (by decide +kernel))) (k_cons ((x_var 11 rfl (by decide +kernel) (by decide +kernel))) k_nil))))) (x_see 12 rfl (by decide +kernel) (by decide +kernel)) (nomark _))))) (okB_cons (s_ret ((OkD.toE x_bl))) okB_nil) okB_nil) (okB_cons (s_if (t_cmp k_ne ((OkE.d (x_callK g dk_touched_layer_book (by decide +kernel) (by decide +kernel) (by decide +kernel) rfl rfl (k_cons ((x_var 11 rfl (by decide +kernel) (by decide +kernel))) (k_cons ((x_var 10 rfl (by decide +kernel) (by decide +kernel))) k_nil))))) ((OkD.o (OkE.d (ok_lst (g := g) (l_cons (x_str) (l_cons (x_str) (l_cons (x_str) l_nil rfl) rfl) rfl))))) (nomark _)) (okB_cons (s_ret ((OkD.toE x_bl))) okB_nil) okB_nil) (okB_cons (s_if (OkW.t (okW_or (okT_not ((OkD.t (OkE.d (x_isx 1 B II hX_InvalidBook (by decide +kernel) (by decide +kernel) mx_InvalidBook (by decide +kernel) (fun _ => rfl) ((OkD.o (OkE.d (x_call g d_law_fails (by decide +kernel) (by decide +kernel) (by decide +kernel) rfl (l_cons ((x_var 11 rfl (by decide +kernel) (by decide +kernel))) (l_cons (x_int) l_nil rfl) rfl))))))) (fun _ _ _ => rfl)))) (okW_or1 (okT_not ((OkD.t (OkE.d (x_isx 4 B II hX_InvalidLayer (by decide +kernel) (by decide +kernel) mx_InvalidLayer (by decide +kernel) (fun _ => rfl) ((OkD.o (OkE.d (x_call g d_law_fails (by decide +kernel) (by decide +kernel) (by decide +kernel) rfl (l_cons ((x_var 10 rfl (by decide +kernel) (by decide +kernel))) (l_cons (x_int) l_nil rfl) rfl))))))) (fun _ _ _ => rfl))))))) (okB_cons (s_ret ((OkD.toE x_bl))) okB_nil) okB_nil) okB_nil)))))))))))) (fun _ _ => rfl)) (okB_cons (s_ret ((OkD.toE x_bl))) okB_nil))
end Ev

set_option Elab.async false
set_option linter.all false
set_option maxRecDepth 100000
set_option maxHeartbeats 4000000
namespace Ev
open PySem L2
theorem sc_is_known : FnScope N_is_known ["value", "names"] (defScope (top 12)) := ⟨rfl, rfl, rfl, by decide +kernel, rfl, by decide +kernel, by decide +kernel⟩
theorem bi_is_known : BindF "is_known" "is_known" (defArgs (top 12)) (defBody (top 12)) (defScope (top 12)) ["value", "names"] := fun _ _ _ _ _ _ us hl => match us, hl with | [_, _], _ => rfl
theorem sc_is_whole : FnScope N_is_whole ["value"] (defScope (top 10)) := ⟨rfl, rfl, rfl, by decide +kernel, rfl, by decide +kernel, by decide +kernel⟩
theorem bi_is_whole : BindF "is_whole" "is_whole" (defArgs (top 10)) (defBody (top 10)) (defScope (top 10)) ["value"] := fun _ _ _ _ _ _ us hl => match us, hl with | [_], _ => rfl
theorem sc_is_operand : FnScope N_is_operand ["value", "names"] (defScope (top 13)) := ⟨rfl, rfl, rfl, by decide +kernel, rfl, by decide +kernel, by decide +kernel⟩
theorem bi_is_operand : BindF "is_operand" "is_operand" (defArgs (top 13)) (defBody (top 13)) (defScope (top 13)) ["value", "names"] := fun _ _ _ _ _ _ us hl => match us, hl with | [_, _], _ => rfl
theorem sc_are_operands : FnScope N_are_operands ["values", "names"] (defScope (top 15)) := ⟨rfl, rfl, rfl, by decide +kernel, rfl, by decide +kernel, by decide +kernel⟩
theorem bi_are_operands : BindF "are_operands" "are_operands" (defArgs (top 15)) (defBody (top 15)) (defScope (top 15)) ["values", "names"] := fun _ _ _ _ _ _ us hl => match us, hl with | [_, _], _ => rfl
theorem sc_has_word : FnScope N_has_word ["value", "word", "many"] (defScope (top 14)) := ⟨rfl, rfl, rfl, by decide +kernel, rfl, by decide +kernel, by decide +kernel⟩
theorem bi_has_word : BindF "has_word" "has_word" (defArgs (top 14)) (defBody (top 14)) (defScope (top 14)) ["value", "word", "many"] := fun _ _ _ _ _ _ us hl => match us, hl with | [_, _, _], _ => rfl
theorem sc_is_definition : FnScope N_is_definition ["value", "names"] (defScope (top 16)) := ⟨rfl, rfl, rfl, by decide +kernel, rfl, by decide +kernel, by decide +kernel⟩
theorem bi_is_definition : BindF "is_definition" "is_definition" (defArgs (top 16)) (defBody (top 16)) (defScope (top 16)) ["value", "names"] := fun _ _ _ _ _ _ us hl => match us, hl with | [_, _], _ => rfl
theorem sc_is_name : FnScope N_is_name ["value"] (defScope (top 11)) := ⟨rfl, rfl, rfl, by decide +kernel, rfl, by decide +kernel, by decide +kernel⟩
theorem bi_is_name : BindF "is_name" "is_name" (defArgs (top 11)) (defBody (top 11)) (defScope (top 11)) ["value"] := fun _ _ _ _ _ _ us hl => match us, hl with | [_], _ => rfl
theorem sc_are_limits : FnScope N_are_limits ["low", "high"] (defScope (top 17)) := ⟨rfl, rfl, rfl, by decide +kernel, rfl, by decide +kernel, by decide +kernel⟩
theorem bi_are_limits : BindF "are_limits" "are_limits" (defArgs (top 17)) (defBody (top 17)) (defScope (top 17)) ["low", "high"] := fun _ _ _ _ _ _ us hl => match us, hl with | [_, _], _ => rfl
theorem sc_are_names : FnScope N_are_names ["value", "names"] (defScope (top 18)) := ⟨rfl, rfl, rfl, by decide +kernel, rfl, by decide +kernel, by decide +kernel⟩
theorem bi_are_names : BindF "are_names" "are_names" (defArgs (top 18)) (defBody (top 18)) (defScope (top 18)) ["value", "names"] := fun _ _ _ _ _ _ us hl => match us, hl with | [_, _], _ => rfl
theorem sc_is_alias : FnScope N_is_alias ["definition", "choices"] (defScope (top 19)) := ⟨rfl, rfl, rfl, by decide +kernel, rfl, by decide +kernel, by decide +kernel⟩
theorem bi_is_alias : BindF "is_alias" "is_alias" (defArgs (top 19)) (defBody (top 19)) (defScope (top 19)) ["definition", "choices"] := fun _ _ _ _ _ _ us hl => match us, hl with | [_, _], _ => rfl
theorem sc_is_permitted : FnScope N_is_permitted ["permission", "definition", "names"] (defScope (top 20)) := ⟨rfl, rfl, rfl, by decide +kernel, rfl, by decide +kernel, by decide +kernel⟩
theorem bi_is_permitted : BindF "is_permitted" "is_permitted" (defArgs (top 20)) (defBody (top 20)) (defScope (top 20)) ["permission", "definition", "names"] := fun _ _ _ _ _ _ us hl => match us, hl with | [_, _, _], _ => rfl
theorem sc_are_settings : FnScope N_are_settings ["value"] (defScope (top 21)) := ⟨rfl, rfl, rfl, by decide +kernel, rfl, by decide +kernel, by decide +kernel⟩
theorem bi_are_settings : BindF "are_settings" "are_settings" (defArgs (top 21)) (defBody (top 21)) (defScope (top 21)) ["value"] := fun _ _ _ _ _ _ us hl => match us, hl with | [_], _ => rfl
theorem sc_copied : FnScope N_copied ["value"] (defScope (top 22)) := ⟨rfl, rfl, rfl, by decide +kernel, rfl, by decide +kernel, by decide +kernel⟩
theorem bi_copied : BindF "copied" "copied" (defArgs (top 22)) (defBody (top 22)) (defScope (top 22)) ["value"] := fun _ _ _ _ _ _ us hl => match us, hl with | [_], _ => rfl
theorem sc_copied_setting : FnScope N_copied_setting ["setting"] (defScope (top 23)) := ⟨rfl, rfl, rfl, by decide +kernel, rfl, by decide +kernel, by decide +kernel⟩
theorem bi_copied_setting : BindF "copied_setting" "copied_setting" (defArgs (top 23)) (defBody (top 23)) (defScope (top 23)) ["setting"] := fun _ _ _ _ _ _ us hl => match us, hl with | [_], _ => rfl
theorem sc_operands_of : FnScope N_operands_of ["definition"] (defScope (top 24)) := ⟨rfl, rfl, rfl, by decide +kernel, rfl, by decide +kernel, by decide +kernel⟩
theorem bi_operands_of : BindF "operands_of" "operands_of" (defArgs (top 24)) (defBody (top 24)) (defScope (top 24)) ["definition"] := fun _ _ _ _ _ _ us hl => match us, hl with | [_], _ => rfl
theorem sc_names_in : FnScope N_names_in ["definition"] (defScope (top 25)) := ⟨rfl, rfl, rfl, by decide +kernel, rfl, by decide +kernel, by decide +kernel⟩
theorem bi_names_in : BindF "names_in" "names_in" (defArgs (top 25)) (defBody (top 25)) (defScope (top 25)) ["definition"] := fun _ _ _ _ _ _ us hl => match us, hl with | [_], _ => rfl
theorem sc_permitted_names : FnScope N_permitted_names ["permission"] (defScope (top 26)) := ⟨rfl, rfl, rfl, by decide +kernel, rfl, by decide +kernel, by decide +kernel⟩
theorem bi_permitted_names : BindF "permitted_names" "permitted_names" (defArgs (top 26)) (defBody (top 26)) (defScope (top 26)) ["permission"] := fun _ _ _ _ _ _ us hl => match us, hl with | [_], _ => rfl
theorem sc_mentions : FnScope N_mentions ["setting"] (defScope (top 27)) := ⟨rfl, rfl, rfl, by decide +kernel, rfl, by decide +kernel, by decide +kernel⟩
theorem bi_mentions : BindF "mentions" "mentions" (defArgs (top 27)) (defBody (top 27)) (defScope (top 27)) ["setting"] := fun _ _ _ _ _ _ us hl => match us, hl with | [_], _ => rfl
theorem sc_ranks_of : FnScope N_ranks_of ["rows"] (defScope (top 35)) := ⟨rfl, rfl, rfl, by decide +kernel, rfl, by decide +kernel, by decide +kernel⟩
theorem bi_ranks_of : BindF "ranks_of" "ranks_of" (defArgs (top 35)) (defBody (top 35)) (defScope (top 35)) ["rows"] := fun _ _ _ _ _ _ us hl => match us, hl with | [_], _ => rfl
theorem sc_ring_in : FnScope N_ring_in ["rows"] (defScope (top 36)) := ⟨rfl, rfl, rfl, by decide +kernel, rfl, by decide +kernel, by decide +kernel⟩
theorem bi_ring_in : BindF "ring_in" "ring_in" (defArgs (top 36)) (defBody (top 36)) (defScope (top 36)) ["rows"] := fun _ _ _ _ _ _ us hl => match us, hl with | [_], _ => rfl
theorem sc_operand_value : FnScope N_operand_value ["operand", "values"] (defScope (top 37)) := ⟨rfl, rfl, rfl, by decide +kernel, rfl, by decide +kernel, by decide +kernel⟩
theorem bi_operand_value : BindF "operand_value" "operand_value" (defArgs (top 37)) (defBody (top 37)) (defScope (top 37)) ["operand", "values"] := fun _ _ _ _ _ _ us hl => match us, hl with | [_, _], _ => rfl
theorem sc_definition_value : FnScope N_definition_value ["definition", "values"] (defScope (top 38)) := ⟨rfl, rfl, rfl, by decide +kernel, rfl, by decide +kernel, by decide +kernel⟩
theorem bi_definition_value : BindF "definition_value" "definition_value" (defArgs (top 38)) (defBody (top 38)) (defScope (top 38)) ["definition", "values"] := fun _ _ _ _ _ _ us hl => match us, hl with | [_, _], _ => rfl
theorem sc_limits_of : FnScope N_limits_of ["permission"] (defScope (top 28)) := ⟨rfl, rfl, rfl, by decide +kernel, rfl, by decide +kernel, by decide +kernel⟩
theorem bi_limits_of : BindF "limits_of" "limits_of" (defArgs (top 28)) (defBody (top 28)) (defScope (top 28)) ["permission"] := fun _ _ _ _ _ _ us hl => match us, hl with | [_], _ => rfl
theorem sc_setting_value : FnScope N_setting_value ["setting", "values"] (defScope (top 39)) := ⟨rfl, rfl, rfl, by decide +kernel, rfl, by decide +kernel, by decide +kernel⟩
theorem bi_setting_value : BindF "setting_value" "setting_value" (defArgs (top 39)) (defBody (top 39)) (defScope (top 39)) ["setting", "values"] := fun _ _ _ _ _ _ us hl => match us, hl with | [_, _], _ => rfl
theorem sc_values_of : FnScope N_values_of ["rows"] (defScope (top 40)) := ⟨rfl, rfl, rfl, by decide +kernel, rfl, by decide +kernel, by decide +kernel⟩
theorem bi_values_of : BindF "values_of" "values_of" (defArgs (top 40)) (defBody (top 40)) (defScope (top 40)) ["rows"] := fun _ _ _ _ _ _ us hl => match us, hl with | [_], _ => rfl
theorem sc_Book_init : FnScope N_Book_init ["self", "settings"] (defScope (inClass (top 42) 0)) := ⟨rfl, rfl, rfl, by decide +kernel, rfl, by decide +kernel, by decide +kernel⟩
theorem bi_Book_init : BindF "__init__" "Book.__init__" (defArgs (inClass (top 42) 0)) (defBody (inClass (top 42) 0)) (defScope (inClass (top 42) 0)) ["self", "settings"] := fun _ _ _ _ _ _ us hl => match us, hl with | [_, _], _ => rfl
theorem sc_Book_names : FnScope N_Book_names ["self"] (defScope (inClass (top 42) 1)) := ⟨rfl, rfl, rfl, by decide +kernel, rfl, by decide +kernel, by decide +kernel⟩
theorem bi_Book_names : BindF "names" "Book.names" (defArgs (inClass (top 42) 1)) (defBody (inClass (top 42) 1)) (defScope (inClass (top 42) 1)) ["self"] := fun _ _ _ _ _ _ us hl => match us, hl with | [_], _ => rfl
theorem sc_allows : FnScope N_allows ["permission", "row"] (defScope (top 32)) := ⟨rfl, rfl, rfl, by decide +kernel, rfl, by decide +kernel, by decide +kernel⟩
theorem bi_allows : BindF "allows" "allows" (defArgs (top 32)) (defBody (top 32)) (defScope (top 32)) ["permission", "row"] := fun _ _ _ _ _ _ us hl => match us, hl with | [_, _], _ => rfl
theorem sc_sealed : FnScope N_sealed ["setting"] (defScope (top 29)) := ⟨rfl, rfl, rfl, by decide +kernel, rfl, by decide +kernel, by decide +kernel⟩
theorem bi_sealed : BindF "sealed" "sealed" (defArgs (top 29)) (defBody (top 29)) (defScope (top 29)) ["setting"] := fun _ _ _ _ _ _ us hl => match us, hl with | [_], _ => rfl
theorem sc_applied : FnScope N_applied ["setting", "row"] (defScope (top 33)) := ⟨rfl, rfl, rfl, by decide +kernel, rfl, by decide +kernel, by decide +kernel⟩
theorem bi_applied : BindF "applied" "applied" (defArgs (top 33)) (defBody (top 33)) (defScope (top 33)) ["setting", "row"] := fun _ _ _ _ _ _ us hl => match us, hl with | [_, _], _ => rfl
theorem sc_after_rows : FnScope N_after_rows ["rows", "layer"] (defScope (top 41)) := ⟨rfl, rfl, rfl, by decide +kernel, rfl, by decide +kernel, by decide +kernel⟩
theorem bi_after_rows : BindF "after_rows" "after_rows" (defArgs (top 41)) (defBody (top 41)) (defScope (top 41)) ["rows", "layer"] := fun _ _ _ _ _ _ us hl => match us, hl with | [_, _], _ => rfl
theorem sc_check_book : FnScope N_check_book ["book"] (defScope (top 43)) := ⟨rfl, rfl, rfl, by decide +kernel, rfl, by decide +kernel, by decide +kernel⟩
theorem bi_check_book : BindF "check_book" "check_book" (defArgs (top 43)) (defBody (top 43)) (defScope (top 43)) ["book"] := fun _ _ _ _ _ _ us hl => match us, hl with | [_], _ => rfl
theorem sc_is_row : FnScope N_is_row ["row", "names"] (defScope (top 30)) := ⟨rfl, rfl, rfl, by decide +kernel, rfl, by decide +kernel, by decide +kernel⟩
theorem bi_is_row : BindF "is_row" "is_row" (defArgs (top 30)) (defBody (top 30)) (defScope (top 30)) ["row", "names"] := fun _ _ _ _ _ _ us hl => match us, hl with | [_, _], _ => rfl
theorem sc_is_layer : FnScope N_is_layer ["layer", "names"] (defScope (top 31)) := ⟨rfl, rfl, rfl, by decide +kernel, rfl, by decide +kernel, by decide +kernel⟩
theorem bi_is_layer : BindF "is_layer" "is_layer" (defArgs (top 31)) (defBody (top 31)) (defScope (top 31)) ["layer", "names"] := fun _ _ _ _ _ _ us hl => match us, hl with | [_, _], _ => rfl
theorem sc_behind : FnScope N_behind ["book", "layer"] (defScope (top 45)) := ⟨rfl, rfl, rfl, by decide +kernel, rfl, by decide +kernel, by decide +kernel⟩
theorem bi_behind : BindF "behind" "behind" (defArgs (top 45)) (defBody (top 45)) (defScope (top 45)) ["book", "layer"] := fun _ _ _ _ _ _ us hl => match us, hl with | [_, _], _ => rfl
theorem sc_plain_row : FnScope N_plain_row ["setting", "rows", "values"] (defScope (top 48)) := ⟨rfl, rfl, rfl, by decide +kernel, rfl, by decide +kernel, by decide +kernel⟩
theorem bi_plain_row : BindF "plain_row" "plain_row" (defArgs (top 48)) (defBody (top 48)) (defScope (top 48)) ["setting", "rows", "values"] := fun _ _ _ _ _ _ us hl => match us, hl with | [_, _, _], _ => rfl
theorem sc_touching : FnScope N_touching ["layer", "name"] (defScope (top 46)) := ⟨rfl, rfl, rfl, by decide +kernel, rfl, by decide +kernel, by decide +kernel⟩
theorem bi_touching : BindF "touching" "touching" (defArgs (top 46)) (defBody (top 46)) (defScope (top 46)) ["layer", "name"] := fun _ _ _ _ _ _ us hl => match us, hl with | [_, _], _ => rfl
theorem sc_plain : FnScope N_plain ["book", "layer"] (defScope (top 49)) := ⟨rfl, rfl, rfl, by decide +kernel, rfl, by decide +kernel, by decide +kernel⟩
theorem bi_plain : BindF "plain" "plain" (defArgs (top 49)) (defBody (top 49)) (defScope (top 49)) ["book", "layer"] := fun _ _ _ _ _ _ us hl => match us, hl with | [_, _], _ => rfl
theorem sc_law_fails : FnScope N_law_fails ["_law_given", "_law_rows"] (defScope (top 55)) := ⟨rfl, rfl, rfl, by decide +kernel, rfl, by decide +kernel, by decide +kernel⟩
theorem bi_law_fails : BindF "_law_fails" "_law_fails" (defArgs (top 55)) (defBody (top 55)) (defScope (top 55)) ["_law_given", "_law_rows"] := fun _ _ _ _ _ _ us hl => match us, hl with | [_, _], _ => rfl
theorem sc_law_mixed : FnScope N_law_mixed ["_law_cell", "_law_turn", "_law_at"] (defScope (top 52)) := ⟨rfl, rfl, rfl, by decide +kernel, rfl, by decide +kernel, by decide +kernel⟩
theorem bi_law_mixed : BindF "_law_mixed" "_law_mixed" (defArgs (top 52)) (defBody (top 52)) (defScope (top 52)) ["_law_cell", "_law_turn", "_law_at"] := fun _ _ _ _ _ _ us hl => match us, hl with | [_, _, _], _ => rfl
theorem sc_law_draw : FnScope N_law_draw ["_law_purse_here", "_law_many"] (defScope (top 53)) := ⟨rfl, rfl, rfl, by decide +kernel, rfl, by decide +kernel, by decide +kernel⟩
theorem bi_law_draw : BindF "_law_draw" "_law_draw" (defArgs (top 53)) (defBody (top 53)) (defScope (top 53)) ["_law_purse_here", "_law_many"] := fun _ _ _ _ _ _ us hl => match us, hl with | [_, _], _ => rfl
theorem sc_law_number : FnScope N_law_number ["_law_purse_here"] (defScope (top 54)) := ⟨rfl, rfl, rfl, by decide +kernel, rfl, by decide +kernel, by decide +kernel⟩
theorem bi_law_number : BindF "_law_number" "_law_number" (defArgs (top 54)) (defBody (top 54)) (defScope (top 54)) ["_law_purse_here"] := fun _ _ _ _ _ _ us hl => match us, hl with | [_], _ => rfl
theorem sc_law_purse : FnScope N_law_purse ["_law_script", "_law_at"] (defScope (top 51)) := ⟨rfl, rfl, rfl, by decide +kernel, rfl, by decide +kernel, by decide +kernel⟩
theorem bi_law_purse : BindF "_law_purse" "_law_purse" (defArgs (top 51)) (defBody (top 51)) (defScope (top 51)) ["_law_script", "_law_at"] := fun _ _ _ _ _ _ us hl => match us, hl with | [_, _], _ => rfl
theorem sc_touched : FnScope N_touched ["book", "layer"] (defScope (top 47)) := ⟨rfl, rfl, rfl, by decide +kernel, rfl, by decide +kernel, by decide +kernel⟩
theorem bi_touched : BindF "touched" "touched" (defArgs (top 47)) (defBody (top 47)) (defScope (top 47)) ["book", "layer"] := fun _ _ _ _ _ _ us hl => match us, hl with | [_, _], _ => rfl
theorem sc_law : FnScope N_law ["_law_script"] (defScope (top 56)) := ⟨rfl, rfl, rfl, by decide +kernel, rfl, by decide +kernel, by decide +kernel⟩
theorem bi_law : BindF "law" "law" (defArgs (top 56)) (defBody (top 56)) (defScope (top 56)) ["_law_script"] := fun _ _ _ _ _ _ us hl => match us, hl with | [_], _ => rfl
theorem bk_plain_book_layer : BindK "plain" "plain" (defArgs (top 49)) (defBody (top 49)) (defScope (top 49)) ["book", "layer"] ["book", "layer"] [0, 1] := fun _ _ _ _ _ _ us hl => match us, hl with | [_, _], _ => rfl
theorem bk_plain_layer_book : BindK "plain" "plain" (defArgs (top 49)) (defBody (top 49)) (defScope (top 49)) ["book", "layer"] ["layer", "book"] [1, 0] := fun _ _ _ _ _ _ us hl => match us, hl with | [_, _], _ => rfl
theorem bk_touched_layer_book : BindK "touched" "touched" (defArgs (top 47)) (defBody (top 47)) (defScope (top 47)) ["book", "layer"] ["layer", "book"] [1, 0] := fun _ _ _ _ _ _ us hl => match us, hl with | [_, _], _ => rfl
theorem sc_InvalidBook_init : FnScope ["self", "value"] ["self", "value"] (defScope (inClass (top 3) 0)) := ⟨rfl, rfl, rfl, by decide +kernel, rfl, by decide +kernel, by decide +kernel⟩
theorem sc_InvalidLayer_init : FnScope ["self", "value"] ["self", "value"] (defScope (inClass (top 6) 0)) := ⟨rfl, rfl, rfl, by decide +kernel, rfl, by decide +kernel, by decide +kernel⟩
theorem sc_NotAllowed_init : FnScope ["self", "index"] ["self", "index"] (defScope (inClass (top 7) 0)) := ⟨rfl, rfl, rfl, by decide +kernel, rfl, by decide +kernel, by decide +kernel⟩
theorem facts {P : Program} {w : World} {K : PySem.W.Frag} {h : Heap} {mg : Str → Option Value} {f : Addr} (X : K.In h) (G : h.Ns mainGlobals mg) (hfa : mg ("law" : Str) = some (.ref f)) (c : SaysX (xt cs ds ix xs) fa fn K) :
    ∃ fd : FuncData, (∀ (s : Shared) (v : Value), BindsTo s fd ⟨[v], []⟩ [("_law_script", v)]) ∧ ∀ base : Heap, K.In base → base.Ns mainGlobals mg → FnOk P w K mg base CX0 10 f fd ["_law_script"] (spF (cfOf K cs xs) 1 F_law) := by
  obtain ⟨fd_is_known, FD_is_known⟩ := c.1.def_ 0 (d := dd_is_known) rfl
  obtain ⟨fd_is_whole, FD_is_whole⟩ := c.1.def_ 1 (d := dd_is_whole) rfl
  obtain ⟨fd_is_operand, FD_is_operand⟩ := c.1.def_ 2 (d := dd_is_operand) rfl
  obtain ⟨fd_are_operands, FD_are_operands⟩ := c.1.def_ 3 (d := dd_are_operands) rfl
  obtain ⟨fd_has_word, FD_has_word⟩ := c.1.def_ 4 (d := dd_has_word) rfl
  obtain ⟨fd_is_definition, FD_is_definition⟩ := c.1.def_ 5 (d := dd_is_definition) rfl
  obtain ⟨fd_is_name, FD_is_name⟩ := c.1.def_ 6 (d := dd_is_name) rfl
  obtain ⟨fd_are_limits, FD_are_limits⟩ := c.1.def_ 7 (d := dd_are_limits) rfl
  obtain ⟨fd_are_names, FD_are_names⟩ := c.1.def_ 8 (d := dd_are_names) rfl
  obtain ⟨fd_is_alias, FD_is_alias⟩ := c.1.def_ 9 (d := dd_is_alias) rfl
  obtain ⟨fd_is_permitted, FD_is_permitted⟩ := c.1.def_ 10 (d := dd_is_permitted) rfl
  obtain ⟨fd_are_settings, FD_are_settings⟩ := c.1.def_ 11 (d := dd_are_settings) rfl
  obtain ⟨fd_copied, FD_copied⟩ := c.1.def_ 12 (d := dd_copied) rfl
  obtain ⟨fd_copied_setting, FD_copied_setting⟩ := c.1.def_ 13 (d := dd_copied_setting) rfl
  obtain ⟨fd_operands_of, FD_operands_of⟩ := c.1.def_ 14 (d := dd_operands_of) rfl
  obtain ⟨fd_names_in, FD_names_in⟩ := c.1.def_ 15 (d := dd_names_in) rfl
  obtain ⟨fd_permitted_names, FD_permitted_names⟩ := c.1.def_ 16 (d := dd_permitted_names) rfl
  obtain ⟨fd_mentions, FD_mentions⟩ := c.1.def_ 17 (d := dd_mentions) rfl
  obtain ⟨fd_ranks_of, FD_ranks_of⟩ := c.1.def_ 18 (d := dd_ranks_of) rfl
  obtain ⟨fd_ring_in, FD_ring_in⟩ := c.1.def_ 19 (d := dd_ring_in) rfl
  obtain ⟨fd_operand_value, FD_operand_value⟩ := c.1.def_ 20 (d := dd_operand_value) rfl
  obtain ⟨fd_definition_value, FD_definition_value⟩ := c.1.def_ 21 (d := dd_definition_value) rfl
  obtain ⟨fd_limits_of, FD_limits_of⟩ := c.1.def_ 22 (d := dd_limits_of) rfl
  obtain ⟨fd_setting_value, FD_setting_value⟩ := c.1.def_ 23 (d := dd_setting_value) rfl
  obtain ⟨fd_values_of, FD_values_of⟩ := c.1.def_ 24 (d := dd_values_of) rfl
  obtain ⟨fd_Book_init, FD_Book_init⟩ := c.1.def_ 25 (d := dd_Book_init) rfl
  obtain ⟨fd_Book_names, FD_Book_names⟩ := c.1.def_ 26 (d := dd_Book_names) rfl
  obtain ⟨fd_allows, FD_allows⟩ := c.1.def_ 27 (d := dd_allows) rfl
  obtain ⟨fd_sealed, FD_sealed⟩ := c.1.def_ 28 (d := dd_sealed) rfl
  obtain ⟨fd_applied, FD_applied⟩ := c.1.def_ 29 (d := dd_applied) rfl
  obtain ⟨fd_after_rows, FD_after_rows⟩ := c.1.def_ 30 (d := dd_after_rows) rfl
  obtain ⟨fd_check_book, FD_check_book⟩ := c.1.def_ 31 (d := dd_check_book) rfl
  obtain ⟨fd_is_row, FD_is_row⟩ := c.1.def_ 32 (d := dd_is_row) rfl
  obtain ⟨fd_is_layer, FD_is_layer⟩ := c.1.def_ 33 (d := dd_is_layer) rfl
  obtain ⟨fd_behind, FD_behind⟩ := c.1.def_ 34 (d := dd_behind) rfl
  obtain ⟨fd_plain_row, FD_plain_row⟩ := c.1.def_ 35 (d := dd_plain_row) rfl
  obtain ⟨fd_touching, FD_touching⟩ := c.1.def_ 36 (d := dd_touching) rfl
  obtain ⟨fd_plain, FD_plain⟩ := c.1.def_ 37 (d := dd_plain) rfl
  obtain ⟨fd_law_fails, FD_law_fails⟩ := c.1.def_ 38 (d := dd_law_fails) rfl
  obtain ⟨fd_law_mixed, FD_law_mixed⟩ := c.1.def_ 39 (d := dd_law_mixed) rfl
  obtain ⟨fd_law_draw, FD_law_draw⟩ := c.1.def_ 40 (d := dd_law_draw) rfl
  obtain ⟨fd_law_number, FD_law_number⟩ := c.1.def_ 41 (d := dd_law_number) rfl
  obtain ⟨fd_law_purse, FD_law_purse⟩ := c.1.def_ 42 (d := dd_law_purse) rfl
  obtain ⟨fd_touched, FD_touched⟩ := c.1.def_ 43 (d := dd_touched) rfl
  obtain ⟨fd_law, FD_law⟩ := c.1.def_ 44 (d := dd_law) rfl
  obtain ⟨fd_InvalidBook_init, FD_InvalidBook_init⟩ := c.1.def_ 45 (d := dd_InvalidBook_init) rfl
  obtain ⟨fd_InvalidLayer_init, FD_InvalidLayer_init⟩ := c.1.def_ 46 (d := dd_InvalidLayer_init) rfl
  obtain ⟨fd_NotAllowed_init, FD_NotAllowed_init⟩ := c.1.def_ 47 (d := dd_NotAllowed_init) rfl
  have g_is_known := He.glo_ok X G (c.1.fact 0 (f := .glo "is_known") rfl)
  have g_is_whole := He.glo_ok X G (c.1.fact 1 (f := .glo "is_whole") rfl)
  have g_is_operand := He.glo_ok X G (c.1.fact 2 (f := .glo "is_operand") rfl)
  have g_are_operands := He.glo_ok X G (c.1.fact 3 (f := .glo "are_operands") rfl)
  have g_has_word := He.glo_ok X G (c.1.fact 4 (f := .glo "has_word") rfl)
  have g_is_definition := He.glo_ok X G (c.1.fact 5 (f := .glo "is_definition") rfl)
  have g_is_name := He.glo_ok X G (c.1.fact 6 (f := .glo "is_name") rfl)
  have g_are_limits := He.glo_ok X G (c.1.fact 7 (f := .glo "are_limits") rfl)
  have g_are_names := He.glo_ok X G (c.1.fact 8 (f := .glo "are_names") rfl)
  have g_is_alias := He.glo_ok X G (c.1.fact 9 (f := .glo "is_alias") rfl)
  have g_is_permitted := He.glo_ok X G (c.1.fact 10 (f := .glo "is_permitted") rfl)
  have g_are_settings := He.glo_ok X G (c.1.fact 11 (f := .glo "are_settings") rfl)
  have g_copied := He.glo_ok X G (c.1.fact 12 (f := .glo "copied") rfl)
  have g_copied_setting := He.glo_ok X G (c.1.fact 13 (f := .glo "copied_setting") rfl)
  have g_operands_of := He.glo_ok X G (c.1.fact 14 (f := .glo "operands_of") rfl)
  have g_names_in := He.glo_ok X G (c.1.fact 15 (f := .glo "names_in") rfl)
  have g_permitted_names := He.glo_ok X G (c.1.fact 16 (f := .glo "permitted_names") rfl)
  have g_mentions := He.glo_ok X G (c.1.fact 17 (f := .glo "mentions") rfl)
  have g_ranks_of := He.glo_ok X G (c.1.fact 18 (f := .glo "ranks_of") rfl)
  have g_ring_in := He.glo_ok X G (c.1.fact 19 (f := .glo "ring_in") rfl)
  have g_operand_value := He.glo_ok X G (c.1.fact 20 (f := .glo "operand_value") rfl)
  have g_definition_value := He.glo_ok X G (c.1.fact 21 (f := .glo "definition_value") rfl)
  have g_limits_of := He.glo_ok X G (c.1.fact 22 (f := .glo "limits_of") rfl)
  have g_setting_value := He.glo_ok X G (c.1.fact 23 (f := .glo "setting_value") rfl)
  have g_values_of := He.glo_ok X G (c.1.fact 24 (f := .glo "values_of") rfl)
  have g_Book := He.glo_ok X G (c.1.fact 25 (f := .glo "Book") rfl)
  have k_Book := He.mkr_ok (c.1.fact 26 (f := .mkr "Book") rfl)
  have m_Book_names := He.meth_ok (c.1.fact 27 (f := .meth "Book" "names") rfl)
  have g_allows := He.glo_ok X G (c.1.fact 28 (f := .glo "allows") rfl)
  have g_sealed := He.glo_ok X G (c.1.fact 29 (f := .glo "sealed") rfl)
  have g_applied := He.glo_ok X G (c.1.fact 30 (f := .glo "applied") rfl)
  have g_after_rows := He.glo_ok X G (c.1.fact 31 (f := .glo "after_rows") rfl)
  have g_check_book := He.glo_ok X G (c.1.fact 32 (f := .glo "check_book") rfl)
  have g_is_row := He.glo_ok X G (c.1.fact 33 (f := .glo "is_row") rfl)
  have g_is_layer := He.glo_ok X G (c.1.fact 34 (f := .glo "is_layer") rfl)
  have g_behind := He.glo_ok X G (c.1.fact 35 (f := .glo "behind") rfl)
  have g_plain_row := He.glo_ok X G (c.1.fact 36 (f := .glo "plain_row") rfl)
  have g_touching := He.glo_ok X G (c.1.fact 37 (f := .glo "touching") rfl)
  have g_plain := He.glo_ok X G (c.1.fact 38 (f := .glo "plain") rfl)
  have g__law_fails := He.glo_ok X G (c.1.fact 39 (f := .glo "_law_fails") rfl)
  have g__law_mixed := He.glo_ok X G (c.1.fact 40 (f := .glo "_law_mixed") rfl)
  have g__law_draw := He.glo_ok X G (c.1.fact 41 (f := .glo "_law_draw") rfl)
  have g__law_number := He.glo_ok X G (c.1.fact 42 (f := .glo "_law_number") rfl)
  have g__law_purse := He.glo_ok X G (c.1.fact 43 (f := .glo "_law_purse") rfl)
  have g_touched := He.glo_ok X G (c.1.fact 44 (f := .glo "touched") rfl)
  have g_law := He.glo_ok X G (c.1.fact 45 (f := .glo "law") rfl)
  have g_ThemeError := He.glo_ok X G (c.1.fact 46 (f := .glo "ThemeError") rfl)
  have g_InvalidBook := He.glo_ok X G (c.1.fact 47 (f := .glo "InvalidBook") rfl)
  have g_PossibleRing := He.glo_ok X G (c.1.fact 48 (f := .glo "PossibleRing") rfl)
  have g_UnknownName := He.glo_ok X G (c.1.fact 49 (f := .glo "UnknownName") rfl)
  have g_InvalidLayer := He.glo_ok X G (c.1.fact 50 (f := .glo "InvalidLayer") rfl)
  have g_NotAllowed := He.glo_ok X G (c.1.fact 51 (f := .glo "NotAllowed") rfl)
  have m_InvalidBook_init := He.meth_ok (c.1.fact 52 (f := .meth "InvalidBook" "__init__") rfl)
  have m_InvalidLayer_init := He.meth_ok (c.1.fact 53 (f := .meth "InvalidLayer" "__init__") rfl)
  have m_NotAllowed_init := He.meth_ok (c.1.fact 54 (f := .meth "NotAllowed" "__init__") rfl)
  have u_range := He.free_ok X G (c.1.fact 55 (f := .free "range") rfl)
  have u_enumerate := He.free_ok X G (c.1.fact 56 (f := .free "enumerate") rfl)
  have u_len := He.free_ok X G (c.1.fact 57 (f := .free "len") rfl)
  have u_sum := He.free_ok X G (c.1.fact 58 (f := .free "sum") rfl)
  have u_max := He.free_ok X G (c.1.fact 59 (f := .free "max") rfl)
  have u_min := He.free_ok X G (c.1.fact 60 (f := .free "min") rfl)
  have u_list := He.free_ok X G (c.1.fact 61 (f := .free "list") rfl)
  have u_tuple := He.free_ok X G (c.1.fact 62 (f := .free "tuple") rfl)
  have u_int := He.free_ok X G (c.1.fact 63 (f := .free "int") rfl)
  have u_bool := He.free_ok X G (c.1.fact 64 (f := .free "bool") rfl)
  have u_str := He.free_ok X G (c.1.fact 65 (f := .free "str") rfl)
  have u_dict := He.free_ok X G (c.1.fact 66 (f := .free "dict") rfl)
  have u_abs := He.free_ok X G (c.1.fact 67 (f := .free "abs") rfl)
  have u_isinstance := He.free_ok X G (c.1.fact 68 (f := .free "isinstance") rfl)
  have u_sorted := He.free_ok X G (c.1.fact 69 (f := .free "sorted") rfl)
  obtain ⟨tk_LETTERS, c_LETTERS⟩ := He.str_ok X G (c.1.fact 70 (f := .str "LETTERS" "abcdefghijklmnopqrstuvwxyz") rfl)
  cases hfa.symm.trans g_law
  have bl := FunD.bindsA (ps := ["_law_script"]) FD_law bi_law
  refine ⟨fd_law, fun s v => bl s [v] rfl, fun base _ _ => ?_⟩
  let W : Wd := ⟨P, w, K, mg, base⟩
  let C : Cf := cfOf K cs xs
  have B : Bt W := ⟨u_range, u_enumerate, u_len, u_sum, u_max, u_min, u_list, u_tuple, u_int, u_bool, u_str, u_dict, u_abs, u_isinstance, u_sorted⟩
  have II : IsiFact C W.K := isi_of (by decide) (by decide) c.2
  have hC_Book : 0 < C.n := (show 0 < cs.length by decide)
  have hF_Book : C.fs 0 = (["rows", "found"] : List Str) := rfl
  have U_Book : DunF C W.K 0 := dun_of (x := "Book") c.2 (by decide) rfl
  have mc_Book : W.mg "Book" = some (.ref (C.at_ 0)) := g_Book
  have hX_ThemeError : 0 < C.xn := (show 0 < xs.length by decide)
  have mx_ThemeError : W.mg "ThemeError" = some (.ref (C.xat 0)) := g_ThemeError
  have hX_InvalidBook : 1 < C.xn := (show 1 < xs.length by decide)
  have mx_InvalidBook : W.mg "InvalidBook" = some (.ref (C.xat 1)) := g_InvalidBook
  have hX_PossibleRing : 2 < C.xn := (show 2 < xs.length by decide)
  have mx_PossibleRing : W.mg "PossibleRing" = some (.ref (C.xat 2)) := g_PossibleRing
  have hX_UnknownName : 3 < C.xn := (show 3 < xs.length by decide)
  have mx_UnknownName : W.mg "UnknownName" = some (.ref (C.xat 3)) := g_UnknownName
  have hX_InvalidLayer : 4 < C.xn := (show 4 < xs.length by decide)
  have mx_InvalidLayer : W.mg "InvalidLayer" = some (.ref (C.xat 4)) := g_InvalidLayer
  have hX_NotAllowed : 5 < C.xn := (show 5 < xs.length by decide)
  have mx_NotAllowed : W.mg "NotAllowed" = some (.ref (C.xat 5)) := g_NotAllowed
  have xb : XBase W "ThemeError" (He.ga K "ThemeError") (.type "type") := xbase_of c.2 rfl rfl g_ThemeError
  have t_InvalidBook : XCls C W "InvalidBook" 1 "value" 1 := xcls_of c.2 (c := 1) rfl g_InvalidBook m_InvalidBook_init (fn_X (W := W) FD_InvalidBook_init sc_InvalidBook_init xb (by decide) (by decide +kernel) (by decide +kernel) (by decide +kernel) (by decide +kernel) (by decide +kernel) (fun _ => rfl)) (binds_d FD_InvalidBook_init 2 rfl (fun _ _ _ _ _ _ _ us its h1 h2 => match us, its, h1, h2 with | [_, _], [_], _, _ => ⟨_, rfl, rfl⟩))
  have t_InvalidLayer : XCls C W "InvalidLayer" 4 "value" 1 := xcls_of c.2 (c := 4) rfl g_InvalidLayer m_InvalidLayer_init (fn_X (W := W) FD_InvalidLayer_init sc_InvalidLayer_init xb (by decide) (by decide +kernel) (by decide +kernel) (by decide +kernel) (by decide +kernel) (by decide +kernel) (fun _ => rfl)) (binds_d FD_InvalidLayer_init 2 rfl (fun _ _ _ _ _ _ _ us its h1 h2 => match us, its, h1, h2 with | [_, _], [_], _, _ => ⟨_, rfl, rfl⟩))
  have t_NotAllowed : XCls C W "NotAllowed" 5 "index" 1 := xcls_of c.2 (c := 5) rfl g_NotAllowed m_NotAllowed_init (fn_X (W := W) FD_NotAllowed_init sc_NotAllowed_init xb (by decide) (by decide +kernel) (by decide +kernel) (by decide +kernel) (by decide +kernel) (by decide +kernel) (fun _ => rfl)) (binds_d FD_NotAllowed_init 2 rfl (fun _ _ _ _ _ _ _ us its h1 h2 => match us, its, h1, h2 with | [_, _], [_], _, _ => ⟨_, rfl, rfl⟩))
  have d_is_known : Def W "is_known" 1 (spF C 2 F_is_known) := def_F (fb := fb_is_known) FD_is_known sc_is_known rfl (by decide) (fun _ _ _ h => h) (fun g => b_is_known B II g) g_is_known bi_is_known
  have d_is_whole : Def W "is_whole" 1 (spF C 1 F_is_whole) := def_F (fb := fb_is_whole) FD_is_whole sc_is_whole rfl (by decide) (fun _ _ _ h => h) (fun g => b_is_whole B II g) g_is_whole bi_is_whole
  have d_is_operand : Def W "is_operand" 2 (spF C 2 F_is_operand) := def_F (fb := fb_is_operand) FD_is_operand sc_is_operand rfl (by decide) (fun _ _ _ h => h) (fun g => b_is_operand B II d_is_known d_is_whole g) g_is_operand bi_is_operand
  have d_are_operands : Def W "are_operands" 3 (spF C 2 F_are_operands) := def_F (fb := fb_are_operands) FD_are_operands sc_are_operands rfl (by decide) (fun _ _ _ h => h) (fun g => b_are_operands B II d_is_operand g) g_are_operands bi_are_operands
  have d_has_word : Def W "has_word" 1 (spF C 3 F_has_word) := def_F (fb := fb_has_word) FD_has_word sc_has_word rfl (by decide) (fun _ _ _ h => h) (fun g => b_has_word B II g) g_has_word bi_has_word
  have d_is_definition : Def W "is_definition" 4 (spF C 2 F_is_definition) := def_F (fb := fb_is_definition) FD_is_definition sc_is_definition rfl (by decide) (fun _ _ _ h => h) (fun g => b_is_definition B II d_are_operands d_has_word d_is_known d_is_whole g) g_is_definition bi_is_definition
  have d_is_name : Def W "is_name" 1 (spF C 1 F_is_name) := def_F (fb := fb_is_name) FD_is_name sc_is_name rfl (by decide) (fun _ _ _ h => h) (fun g => b_is_name B II c_LETTERS g) g_is_name bi_is_name
  have d_are_limits : Def W "are_limits" 2 (spF C 2 F_are_limits) := def_F (fb := fb_are_limits) FD_are_limits sc_are_limits rfl (by decide) (fun _ _ _ h => h) (fun g => b_are_limits B II d_is_whole g) g_are_limits bi_are_limits
  have d_are_names : Def W "are_names" 2 (spF C 2 F_are_names) := def_F (fb := fb_are_names) FD_are_names sc_are_names rfl (by decide) (fun _ _ _ h => h) (fun g => b_are_names B II d_is_known g) g_are_names bi_are_names
  have d_is_alias : Def W "is_alias" 1 (spF C 2 F_is_alias) := def_F (fb := fb_is_alias) FD_is_alias sc_is_alias rfl (by decide) (fun _ _ _ h => h) (fun g => b_is_alias B II g) g_is_alias bi_is_alias
  have d_is_permitted : Def W "is_permitted" 3 (spF C 3 F_is_permitted) := def_F (fb := fb_is_permitted) FD_is_permitted sc_is_permitted rfl (by decide) (fun _ _ _ h => h) (fun g => b_is_permitted B II d_are_limits d_are_names d_has_word d_is_alias g) g_is_permitted bi_is_permitted
  have d_are_settings : Def W "are_settings" 5 (spF C 1 F_are_settings) := def_F (fb := fb_are_settings) FD_are_settings sc_are_settings rfl (by decide) (fun _ _ _ h => h) (fun g => b_are_settings B II d_is_definition d_is_name d_is_permitted g) g_are_settings bi_are_settings
  have d_copied : Def W "copied" 1 (spF C 1 F_copied) := def_F (fb := fb_copied) FD_copied sc_copied rfl (by decide) (fun _ _ _ h => h) (fun g => b_copied B II g) g_copied bi_copied
  have d_copied_setting : Def W "copied_setting" 2 (spF C 1 F_copied_setting) := def_F (fb := fb_copied_setting) FD_copied_setting sc_copied_setting rfl (by decide) (fun _ _ _ h => h) (fun g => b_copied_setting B II d_copied g) g_copied_setting bi_copied_setting
  have d_operands_of : Def W "operands_of" 1 (spF C 1 F_operands_of) := def_F (fb := fb_operands_of) FD_operands_of sc_operands_of rfl (by decide) (fun _ _ _ h => h) (fun g => b_operands_of B II g) g_operands_of bi_operands_of
  have d_names_in : Def W "names_in" 2 (spF C 1 F_names_in) := def_F (fb := fb_names_in) FD_names_in sc_names_in rfl (by decide) (fun _ _ _ h => h) (fun g => b_names_in B II d_operands_of g) g_names_in bi_names_in
  have d_permitted_names : Def W "permitted_names" 1 (spF C 1 F_permitted_names) := def_F (fb := fb_permitted_names) FD_permitted_names sc_permitted_names rfl (by decide) (fun _ _ _ h => h) (fun g => b_permitted_names B II g) g_permitted_names bi_permitted_names
  have d_mentions : Def W "mentions" 3 (spF C 1 F_mentions) := def_F (fb := fb_mentions) FD_mentions sc_mentions rfl (by decide) (fun _ _ _ h => h) (fun g => b_mentions B II d_names_in d_permitted_names g) g_mentions bi_mentions
  have d_ranks_of : Def W "ranks_of" 4 (spF C 1 F_ranks_of) := def_F (fb := fb_ranks_of) FD_ranks_of sc_ranks_of rfl (by decide) (fun _ _ _ h => h) (fun g => b_ranks_of B II d_mentions g) g_ranks_of bi_ranks_of
  have d_ring_in : Def W "ring_in" 5 (spF C 1 F_ring_in) := def_F (fb := fb_ring_in) FD_ring_in sc_ring_in rfl (by decide) (fun _ _ _ h => h) (fun g => b_ring_in B II d_mentions d_ranks_of g) g_ring_in bi_ring_in
  have d_operand_value : Def W "operand_value" 2 (spF C 2 F_operand_value) := def_F (fb := fb_operand_value) FD_operand_value sc_operand_value rfl (by decide) (fun _ _ _ h => h) (fun g => b_operand_value B II d_is_whole g) g_operand_value bi_operand_value
  have d_definition_value : Def W "definition_value" 3 (spF C 2 F_definition_value) := def_F (fb := fb_definition_value) FD_definition_value sc_definition_value rfl (by decide) (fun _ _ _ h => h) (fun g => b_definition_value B II d_operand_value g) g_definition_value bi_definition_value
  have d_limits_of : Def W "limits_of" 1 (spF C 1 F_limits_of) := def_F (fb := fb_limits_of) FD_limits_of sc_limits_of rfl (by decide) (fun _ _ _ h => h) (fun g => b_limits_of B II g) g_limits_of bi_limits_of
  have d_setting_value : Def W "setting_value" 4 (spF C 2 F_setting_value) := def_F (fb := fb_setting_value) FD_setting_value sc_setting_value rfl (by decide) (fun _ _ _ h => h) (fun g => b_setting_value B II d_definition_value d_limits_of g) g_setting_value bi_setting_value
  have d_values_of : Def W "values_of" 5 (spF C 1 F_values_of) := def_F (fb := fb_values_of) FD_values_of sc_values_of rfl (by decide) (fun _ _ _ h => h) (fun g => b_values_of B II d_ranks_of d_setting_value g) g_values_of bi_values_of
  have m_Book : Mkr C W "Book" 0 6 (spI C 0 2 F_Book_init) := def_I (fb := fb_Book_init) FD_Book_init sc_Book_init rfl (by decide) (fun _ _ _ h => lenN_some h) (fun g => b_Book_init B II d_are_settings d_copied_setting d_ring_in d_values_of hC_Book hF_Book g) hC_Book mc_Book k_Book bi_Book_init
  have d_Book_names : Mth C W 0 "names" 1 (spF C 1 F_Book_names) := def_T (fb := fb_Book_names) FD_Book_names sc_Book_names rfl (by decide) (fun _ _ _ h => h) (fun g => b_Book_names B II hC_Book hF_Book g) m_Book_names bi_Book_names
  have d_allows : Def W "allows" 3 (spF C 2 F_allows) := def_F (fb := fb_allows) FD_allows sc_allows rfl (by decide) (fun _ _ _ h => h) (fun g => b_allows B II d_is_alias d_is_whole d_names_in g) g_allows bi_allows
  have d_sealed : Def W "sealed" 2 (spF C 1 F_sealed) := def_F (fb := fb_sealed) FD_sealed sc_sealed rfl (by decide) (fun _ _ _ h => h) (fun g => b_sealed B II d_copied d_limits_of g) g_sealed bi_sealed
  have d_applied : Def W "applied" 3 (spF C 2 F_applied) := def_F (fb := fb_applied) FD_applied sc_applied rfl (by decide) (fun _ _ _ h => h) (fun g => b_applied B II d_copied d_sealed g) g_applied bi_applied
  have x_after_rows : Def W "after_rows" 4 (spFX C 2 F_after_rows Fx_after_rows) := def_FX (fb := fb_after_rows) (xb := xfb_after_rows) FD_after_rows sc_after_rows rfl (by decide) (fun _ _ _ h => h) (fun _ _ _ h => h) (fun g => b_after_rows B II d_allows d_applied d_copied_setting t_NotAllowed g) (fun g => xd_after_rows B II d_allows d_applied d_copied_setting t_NotAllowed g) g_after_rows bi_after_rows
  have d_after_rows := x_after_rows.nrm
  have x_check_book : Def W "check_book" 3 (spFX C 1 F_check_book Fx_check_book) := def_FX (fb := fb_check_book) (xb := xfb_check_book) FD_check_book sc_check_book rfl (by decide) (fun _ _ _ h => h) (fun _ _ _ h => h) (fun g => b_check_book B II t_InvalidBook hC_Book hF_Book mc_Book g) (fun g => xd_check_book B II t_InvalidBook hC_Book hF_Book mc_Book g) g_check_book bi_check_book
  have d_check_book := x_check_book.nrm
  have d_is_row : Def W "is_row" 5 (spF C 2 F_is_row) := def_F (fb := fb_is_row) FD_is_row sc_is_row rfl (by decide) (fun _ _ _ h => h) (fun g => b_is_row B II d_has_word d_is_definition d_is_known d_is_operand g) g_is_row bi_is_row
  have d_is_layer : Def W "is_layer" 6 (spF C 2 F_is_layer) := def_F (fb := fb_is_layer) FD_is_layer sc_is_layer rfl (by decide) (fun _ _ _ h => h) (fun g => b_is_layer B II d_is_row g) g_is_layer bi_is_layer
  have x_behind : Def W "behind" 7 (spFX C 2 F_behind Fx_behind) := def_FX (fb := fb_behind) (xb := xfb_behind) FD_behind sc_behind rfl (by decide) (fun _ _ _ h => h) (fun _ _ _ h => h) (fun g => b_behind B II d_Book_names d_after_rows d_check_book d_is_layer x_after_rows x_check_book t_InvalidLayer hC_Book hF_Book g) (fun g => xd_behind B II d_Book_names d_after_rows d_check_book d_is_layer x_after_rows x_check_book t_InvalidLayer hC_Book hF_Book g) g_behind bi_behind
  have d_behind := x_behind.nrm
  have d_plain_row : Def W "plain_row" 2 (spF C 3 F_plain_row) := def_F (fb := fb_plain_row) FD_plain_row sc_plain_row rfl (by decide) (fun _ _ _ h => h) (fun g => b_plain_row B II d_is_whole g) g_plain_row bi_plain_row
  have d_touching : Def W "touching" 1 (spF C 2 F_touching) := def_F (fb := fb_touching) FD_touching sc_touching rfl (by decide) (fun _ _ _ h => h) (fun g => b_touching B II g) g_touching bi_touching
  have x_plain : Def W "plain" 8 (spFX C 2 F_plain Fx_plain) := def_FX (fb := fb_plain) (xb := xfb_plain) FD_plain sc_plain rfl (by decide) (fun _ _ _ h => h) (fun _ _ _ h => h) (fun g => b_plain B II d_behind d_plain_row d_touching d_values_of x_behind hC_Book hF_Book g) (fun g => xd_plain B II d_behind d_plain_row d_touching d_values_of x_behind hC_Book hF_Book g) g_plain bi_plain
  have d_plain := x_plain.nrm
  have xk_plain_book_layer : DefK W "plain" 8 (spFX C 2 F_plain Fx_plain) ["book", "layer"] [0, 1] := def_K FD_plain (fn_FX (fb := fb_plain) (xb := xfb_plain) FD_plain sc_plain rfl (by decide) (fun _ _ _ h => h) (fun _ _ _ h => h) (fun g => b_plain B II d_behind d_plain_row d_touching d_values_of x_behind hC_Book hF_Book g) (fun g => xd_plain B II d_behind d_plain_row d_touching d_values_of x_behind hC_Book hF_Book g)) g_plain bk_plain_book_layer
  have dk_plain_book_layer := xk_plain_book_layer.nrm
  have xk_plain_layer_book : DefK W "plain" 8 (spFX C 2 F_plain Fx_plain) ["layer", "book"] [1, 0] := def_K FD_plain (fn_FX (fb := fb_plain) (xb := xfb_plain) FD_plain sc_plain rfl (by decide) (fun _ _ _ h => h) (fun _ _ _ h => h) (fun g => b_plain B II d_behind d_plain_row d_touching d_values_of x_behind hC_Book hF_Book g) (fun g => xd_plain B II d_behind d_plain_row d_touching d_values_of x_behind hC_Book hF_Book g)) g_plain bk_plain_layer_book
  have dk_plain_layer_book := xk_plain_layer_book.nrm
  have d_law_fails : Def W "_law_fails" 9 (spF C 2 F_law_fails) := def_F (fb := fb_law_fails) FD_law_fails sc_law_fails rfl (by decide) (fun _ _ _ h => h) (fun g => b_law_fails B II d_plain dk_plain_layer_book xk_plain_layer_book hX_ThemeError mx_ThemeError g) g__law_fails bi_law_fails
  have d_law_mixed : Def W "_law_mixed" 1 (spF C 3 F_law_mixed) := def_F (fb := fb_law_mixed) FD_law_mixed sc_law_mixed rfl (by decide) (fun _ _ _ h => h) (fun g => b_law_mixed B II g) g__law_mixed bi_law_mixed
  have d_law_draw : Def W "_law_draw" 2 (spM C 2 F_law_draw) := def_M (fb := fb_law_draw) FD_law_draw sc_law_draw rfl (by decide) (fun _ _ _ _ _ h => h) (fun g => b_law_draw B II d_law_mixed g) g__law_draw bi_law_draw
  have d_law_number : Def W "_law_number" 3 (spM C 1 F_law_number) := def_M (fb := fb_law_number) FD_law_number sc_law_number rfl (by decide) (fun _ _ _ _ _ h => h) (fun g => b_law_number B II d_law_draw g) g__law_number bi_law_number
  have d_law_purse : Def W "_law_purse" 1 (spF C 2 F_law_purse) := def_F (fb := fb_law_purse) FD_law_purse sc_law_purse rfl (by decide) (fun _ _ _ h => h) (fun g => b_law_purse B II g) g__law_purse bi_law_purse
  have d_touched : Def W "touched" 8 (spF C 2 F_touched) := def_F (fb := fb_touched) FD_touched sc_touched rfl (by decide) (fun _ _ _ h => h) (fun g => b_touched B II d_Book_names d_behind d_touching hC_Book hF_Book g) g_touched bi_touched
  have dk_touched_layer_book : DefK W "touched" 8 (spF C 2 F_touched) ["layer", "book"] [1, 0] := def_K FD_touched (fn_F (fb := fb_touched) FD_touched sc_touched rfl (by decide) (fun _ _ _ h => h) (fun g => b_touched B II d_Book_names d_behind d_touching hC_Book hF_Book g)) g_touched bk_touched_layer_book
  exact fn_F (W := W) (C := C) (F := F_law) (fb := fb_law) FD_law sc_law rfl (by decide) (fun _ _ _ h => h) (fun g => b_law B II m_Book d_law_fails d_law_number d_law_purse d_plain d_touched dk_plain_book_layer dk_plain_layer_book dk_touched_layer_book hX_InvalidBook mx_InvalidBook hX_InvalidLayer mx_InvalidLayer g)
end Ev

open PySem PySem.W PySem.Calls PyProof.Rows
theorem Ev.holds (law_true : ∀ ns : List Int, ns.length ≤ 63 → Ev.F_law 0 [.scr ns] = some (.sh (.bl true))) : PySem.Challenge.rw_laterthemes_k19_layers_by_name.Holds := by
  w_on; o_law
  refine HandSHeadRun.head_any (r := OpenLaw.row PySem.Challenge.rw_laterthemes_k19_layers_by_name) (q := view (OpenLaw.row PySem.Challenge.rw_laterthemes_k19_layers_by_name).prog [56]) (H := Ev.hk) (ob := Ev.ob) (M := 6000) (loose := Ev.nms) (d := HandSHeadRun.topDef (OpenLaw.row PySem.Challenge.rw_laterthemes_k19_layers_by_name).prog 56) (kwd := []) Ev.ob_eq
    (by kernel_rfl) (fun s => by kernel_rfl) Ev.run (by kernel_rfl) (by kernel_rfl) (by kernel_rfl) (by rfl) (by first | assumption | decide +kernel) (by decide +kernel) ⟨rfl, rfl, rfl, rfl, rfl, by decide +kernel⟩ ?hw ?hc
  case hw => w_witness2
  case hc =>
    refine L2.walk_ofE (l := PySem.Challenge.rw_laterthemes_k19_layers_by_name) (n := 63) (k := 10) (x := "_law_script") (CX := L2.CX0) rfl (by decide) (by kernel_rfl) ⟨rfl, by decide, by decide⟩ ?F (fun _ _ _ _ z => z)
    intro w mg fa h Y G hmg0
    obtain ⟨K, KX, c⟩ := Y
    have hmg : mg ("law" : PySem.Str) = some (.ref fa) := by
      have e : (HandSHeadRun.topDef (OpenLaw.row PySem.Challenge.rw_laterthemes_k19_layers_by_name).prog 56).name = ("law" : PySem.Str) := by kernel_rfl
      rw [← e]
      exact hmg0
    obtain ⟨fd, hb, hF⟩ := Ev.facts (P := (PySem.Challenge.rw_laterthemes_k19_layers_by_name).prog) (w := w) KX G hmg c
    exact ⟨K, fd, _, KX, hb, fun H a ns hl _ hS => Ev.law_sp c.2 law_true hl hS, hF⟩

theorem PySem.Challenge.cw_laterthemes_k19_layers_by_name_holds : PySem.Challenge.rw_laterthemes_k19_layers_by_name.Holds :=
  Ev.holds Ev.law_true
