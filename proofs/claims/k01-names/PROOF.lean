import PyProof.Rows.All
import Wide.All
import OpenK.AllK
import Wide.FinOn
import HandS.ForMost
import HandS.Exc
import HandS.WordsExc
import HandS.Defaults
import HandS.Text
import HandS.TupAny
import HandS.Zip
import HandS.Deep
import HandS.Small
import HandS.RaiseMore
import HandS.IsInst
import KE.KStateDown
import Lean
import HandS.More
import HandS.Head0
import HandS.Head1
import HandS.Head2
import HandS.HeadEnd
import HandS.HeadHook1
import HandS.HeadHook2
import HandS.EndBits
import HandS.Dict
import HandS.Codes
import PyProof.FitsReplace
import PySem.Challenge.RW_wholeparcels_k01_names_and_paths
set_option Elab.async false
set_option linter.all false
set_option maxRecDepth 100000
/-! DL0: data as trees and cells; what an expression, a statement is worth over them. -/
namespace DL
open PySem L2

/-- a datum: trees, and handles of cells -/
inductive D where
  | non | bl (b : Bool) | int (i : Int) | str (x : Str)
  | tup (xs : List D) | lst (xs : List D)
  | hdl (l : Nat)
  | cst (v : V)
  | obj (C : Addr) (fs : List (Str × D))

/-- a cell -/
inductive MO where
  | lst (xs : List D)
  | dct (ks : List Key) (xs : List D)
  | dtt (ks : List (List Key)) (xs : List D)
  | ins (C : Addr) (ns : List Str) (xs : List D)
  | gone
abbrev Mu := List MO

/-- S: what never changes any more; io: where each cell stands -/
structure Wd where
  S : Hp
  io : List Addr

/-- a list that is to be read: tracked, locked, or one of the module's own -/
def Lq (K : PySem.W.Frag) (H : Hp) (a : Addr) (xs : List V) : Prop := Rd H a (.lst xs) ∨ ∃ (its : List Value) (n : Nat), K.lookup a = some { cls := .type "list", data := .seq its.toArray n } ∧ its.length ≤ sizeLine ∧ Vals xs its
mutual
inductive Rep (K : PySem.W.Frag) (W : Wd) : V → D → Prop
  | non : Rep K W .non .non
  | bl (b : Bool) : Rep K W (.bl b) (.bl b)
  | int (i : Int) : Rep K W (.int i) (.int i)
  | str (x : Str) : x.length ≤ sizeLine → Rep K W (.str x) (.str x)
  | tup {a : Addr} {xs : List V} {ds : List D} : ds.length ≤ sizeLine → SqT K W.S a xs → Reps K W xs ds → Rep K W (.ref a) (.tup ds)
  | lst {a : Addr} {xs : List V} {ds : List D} : ds.length ≤ sizeLine → Lq K W.S a xs → Reps K W xs ds → Rep K W (.ref a) (.lst ds)
  | hdl {a : Addr} {l : Nat} : W.io[l]? = some a → Rep K W (.ref a) (.hdl l)
  | cst (v : V) : Rep K W v (.cst v)
  | obj {a C dx : Addr} {ns : List Str} {vs : List V} {ds : List D} : W.S a = some (.ins C dx (ns.zip vs)) → ns.length = vs.length → Reps K W vs ds → Rep K W (.ref a) (.obj C (ns.zip ds))
inductive Reps (K : PySem.W.Frag) (W : Wd) : List V → List D → Prop
  | nil : Reps K W [] []
  | cons {v : V} {vs : List V} {d : D} {ds : List D} : Rep K W v d → Reps K W vs ds → Reps K W (v :: vs) (d :: ds)
end

theorem Reps.length {K : PySem.W.Frag} {W : Wd} : ∀ {vs : List V} {ds : List D}, Reps K W vs ds → vs.length = ds.length
  | _, _, .nil => rfl
  | _, _, .cons _ h => by rw [List.length_cons, List.length_cons, h.length]
theorem Reps.get {K : PySem.W.Frag} {W : Wd} : ∀ {vs : List V} {ds : List D} {i : Nat} {d : D}, Reps K W vs ds → ds[i]? = some d → ∃ v, vs[i]? = some v ∧ Rep K W v d
  | _, _, _, _, .nil, e => by simp at e
  | _, _, 0, _, .cons r _, e => by
    simp at e
    subst e
    exact ⟨_, rfl, r⟩
  | _, _, i + 1, d, .cons _ t, e => by
    obtain ⟨v, h1, h2⟩ := Reps.get (i := i) (d := d) t (by simpa using e)
    exact ⟨v, by simpa using h1, h2⟩
theorem Reps.getV {K : PySem.W.Frag} {W : Wd} : ∀ {vs : List V} {ds : List D} {i : Nat} {v : V}, Reps K W vs ds → vs[i]? = some v → ∃ d, ds[i]? = some d ∧ Rep K W v d
  | _, _, _, _, .nil, e => by simp at e
  | _, _, 0, _, .cons r _, e => by
    simp at e
    subst e
    exact ⟨_, rfl, r⟩
  | _, _, i + 1, v, .cons _ t, e => by
    obtain ⟨d, h1, h2⟩ := Reps.getV (i := i) (v := v) t (by simpa using e)
    exact ⟨d, by simpa using h1, h2⟩
theorem Reps.app {K : PySem.W.Frag} {W : Wd} : ∀ {vs us : List V} {ds es : List D}, Reps K W vs ds → Reps K W us es → Reps K W (vs ++ us) (ds ++ es)
  | _, _, _, _, .nil, s => s
  | _, _, _, _, .cons r t, s => .cons r (Reps.app t s)
theorem Reps.take {K : PySem.W.Frag} {W : Wd} : ∀ {vs : List V} {ds : List D} (n : Nat), Reps K W vs ds → Reps K W (vs.take n) (ds.take n)
  | _, _, 0, _ => .nil
  | _, _, _ + 1, .nil => .nil
  | _, _, n + 1, .cons r t => .cons r (Reps.take n t)
theorem Reps.drop {K : PySem.W.Frag} {W : Wd} : ∀ {vs : List V} {ds : List D} (n : Nat), Reps K W vs ds → Reps K W (vs.drop n) (ds.drop n)
  | _, _, 0, h => h
  | _, _, _ + 1, .nil => .nil
  | _, _, n + 1, .cons _ t => Reps.drop n t
theorem Reps.set {K : PySem.W.Frag} {W : Wd} {v : V} {d : D} (r : Rep K W v d) : ∀ {vs : List V} {ds : List D} (i : Nat), Reps K W vs ds → Reps K W (vs.set i v) (ds.set i d)
  | _, _, _, .nil => .nil
  | _, _, 0, .cons _ t => .cons r t
  | _, _, i + 1, .cons q t => .cons q (Reps.set r i t)

/-- W' knows all that W knows -/
structure Le (W W' : Wd) : Prop where
  s : Same W.S W'.S
  io : W.io <+: W'.io
theorem Le.refl (W : Wd) : Le W W := ⟨Same.refl _, List.prefix_refl _⟩
theorem Le.trans {W W1 W2 : Wd} (a : Le W W1) (b : Le W1 W2) : Le W W2 := ⟨a.s.trans b.s, a.io.trans b.io⟩
theorem prefix_get {l l' : List Addr} (h : l <+: l') {i : Nat} {a : Addr} (e : l[i]? = some a) : l'[i]? = some a := by
  obtain ⟨t, rfl⟩ := h
  rw [List.getElem?_append_left (List.getElem?_eq_some_iff.mp e).1]
  exact e
theorem same_rd {H H' : Hp} {a : Addr} {u : HO} (e : Same H H') (h : Rd H a u) : Rd H' a u := by
  rcases h with h | ⟨o, h⟩
  · exact .inl (e _ _ h)
  · exact .inr ⟨o, e _ _ h⟩
theorem same_lq {K : PySem.W.Frag} {H H' : Hp} {a : Addr} {xs : List V} (e : Same H H') (h : Lq K H a xs) : Lq K H' a xs := by
  rcases h with h | h
  · exact .inl (same_rd e h)
  · exact .inr h
theorem Lq.sq {K : PySem.W.Frag} {H : Hp} {a : Addr} {xs : List V} (h : Lq K H a xs) : SqL K H a xs := by
  rcases h with h | ⟨its, n, h1, h2, h3⟩
  · exact .inl h
  · exact .inr ⟨_, its.toArray, n, h1, rfl, rfl, rfl, by simpa using h2, by simpa using h3⟩
theorem Lq.isL {X : Cx} {pins : List (Addr × Obj)} {σ : St} {H : Hp} {s : Shared} {a : Addr} {xs : List V} (h : Lq X.K H a xs) (I : Inv X pins σ H s) : ∃ (its : List Value) (n : Nat), Vals xs its ∧ s.heap.get? a = some { cls := .type "list", data := .seq its.toArray n } := by
  rcases h with h | ⟨its, n, h1, h2, h3⟩
  · obtain ⟨z, its, n, r, e⟩ := h.ok I.hok
    exact ⟨its, n, r, e⟩
  · exact ⟨its, n, h3, I.kIn _ _ h1⟩
theorem same_l {K : PySem.W.Frag} {H H' : Hp} {a : Addr} {xs : List V} (e : Same H H') (h : SqL K H a xs) : SqL K H' a xs := e.seq h
theorem same_t {K : PySem.W.Frag} {H H' : Hp} {a : Addr} {xs : List V} (e : Same H H') (h : SqT K H a xs) : SqT K H' a xs := by
  rcases h with (h | ⟨o, h⟩) | h
  · exact .inl (.inl (e _ _ h))
  · exact .inl (.inr ⟨o, e _ _ h⟩)
  · exact .inr h
mutual
theorem Rep.mono {K : PySem.W.Frag} {W W' : Wd} (l : Le W W') : ∀ {v : V} {d : D}, Rep K W v d → Rep K W' v d
  | _, _, .non => .non
  | _, _, .bl b => .bl b
  | _, _, .int i => .int i
  | _, _, .str x z => .str x z
  | _, _, .tup z h r => .tup z (same_t l.s h) (Reps.mono l r)
  | _, _, .lst z h r => .lst z (same_lq l.s h) (Reps.mono l r)
  | _, _, .hdl h => .hdl (prefix_get l.io h)
  | _, _, .cst v => .cst v
  | _, _, .obj h n r => .obj (l.s _ _ h) n (Reps.mono l r)
theorem Reps.mono {K : PySem.W.Frag} {W W' : Wd} (l : Le W W') : ∀ {vs : List V} {ds : List D}, Reps K W vs ds → Reps K W' vs ds
  | _, _, .nil => .nil
  | _, _, .cons r t => .cons (Rep.mono l r) (Reps.mono l t)
end

/-- what stands at a cell's place -/
def CellO (K : PySem.W.Frag) (W : Wd) : MO → HO → Prop
  | .lst ds, o => ∃ vs, o = .lst vs ∧ Reps K W vs ds
  | .dct ks ds, o => ∃ vs, o = .dK (ks.zip vs) ∧ ks.length = vs.length ∧ Reps K W vs ds
  | .dtt ks ds, o => ∃ vs, o = .dT (ks.zip vs) ∧ ks.length = vs.length ∧ Reps K W vs ds
  | .ins C ns ds, o => ∃ dx vs, o = .ins C dx (ns.zip vs) ∧ ns.length = vs.length ∧ Reps K W vs ds
  | .gone, _ => True
theorem CellO.mono {K : PySem.W.Frag} {W W' : Wd} (l : Le W W') : ∀ {m : MO} {o : HO}, CellO K W m o → CellO K W' m o
  | .lst ds, _, ⟨vs, e, r⟩ => ⟨vs, e, r.mono l⟩
  | .dct ks ds, _, ⟨vs, e, n, r⟩ => ⟨vs, e, n, r.mono l⟩
  | .dtt ks ds, _, ⟨vs, e, n, r⟩ => ⟨vs, e, n, r.mono l⟩
  | .ins C ns ds, _, ⟨dx, vs, e, n, r⟩ => ⟨dx, vs, e, n, r.mono l⟩
  | .gone, _, _ => trivial
def CellIs (K : PySem.W.Frag) (W : Wd) (H : Hp) (a : Addr) (m : MO) : Prop := ∃ o, H a = some o ∧ CellO K W m o
theorem CellIs.mono {K : PySem.W.Frag} {W W' : Wd} {H H' : Hp} {a : Addr} (l : Le W W') (h : ∀ o, H a = some o → H' a = some o) {m : MO} : CellIs K W H a m → CellIs K W' H' a m
  | ⟨o, e, r⟩ => ⟨o, h _ e, r.mono l⟩

structure Ok (K : PySem.W.Frag) (W : Wd) (H : Hp) (μ : Mu) : Prop where
  sub : Same W.S H
  len : W.io.length = μ.length
  nd : W.io.Nodup
  apart : ∀ (l : Nat) a o, W.io[l]? = some a → μ[l]? = some o → o ≠ .gone → W.S a = none
  cell : ∀ (l : Nat) a o, W.io[l]? = some a → μ[l]? = some o → CellIs K W H a o

/-- from (W, H) to (W', H') -/
structure Go (W : Wd) (H : Hp) (W' : Wd) (H' : Hp) : Prop where
  le : Le W W'
  kept : ∀ a o, H a = some o → a ∉ W.io → H' a = some o
  grow : ∀ a, H' a = none → H a = none
  newio : ∀ a, a ∈ W'.io → a ∈ W.io ∨ H a = none
  newS : ∀ a o, W'.S a = some o → W.S a = some o ∨ H a = none ∨ a ∈ W.io
theorem Go.refl (W : Wd) (H : Hp) : Go W H W H := ⟨Le.refl W, fun _ _ h _ => h, fun _ h => h, fun _ h => .inl h, fun _ _ h => .inl h⟩
theorem Go.trans {W W1 W2 : Wd} {H H1 H2 : Hp} (a : Go W H W1 H1) (b : Go W1 H1 W2 H2) : Go W H W2 H2 where
  le := a.le.trans b.le
  kept := fun x o h n => b.kept x o (a.kept x o h n) fun z => by
    rcases a.newio x z with z | z
    · exact n z
    · rw [h] at z; cases z
  grow := fun x h => a.grow x (b.grow x h)
  newio := fun x h => by
    rcases b.newio x h with h | h
    · exact a.newio x h
    · exact .inr (a.grow x h)
  newS := fun x o h => by
    rcases b.newS x o h with h | h | h
    · exact a.newS x o h
    · exact .inr (.inl (a.grow x h))
    · rcases a.newio x h with h | h
      · exact .inr (.inr h)
      · exact .inr (.inl h)

/-- the environment by slots -/
abbrev En := List (Option D)
structure Envs (K : PySem.W.Frag) (W : Wd) (σ : St) (ρ : En) : Prop where
  len : ρ.length = σ.length
  at_ : ∀ (i : Nat) d, ρ[i]? = some (some d) → ∃ v, σ[i]? = some (some v) ∧ Rep K W v d
theorem Envs.mono {K : PySem.W.Frag} {W W' : Wd} {σ : St} {ρ : En} (l : Le W W') (h : Envs K W σ ρ) : Envs K W' σ ρ := ⟨h.len, fun i d e => by
  obtain ⟨v, h1, h2⟩ := h.at_ i d e
  exact ⟨v, h1, h2.mono l⟩⟩
theorem Envs.set {K : PySem.W.Frag} {W : Wd} {σ : St} {ρ : En} {v : V} {d : D} (h : Envs K W σ ρ) (r : Rep K W v d) (i : Nat) : Envs K W (σ.set i (some v)) (ρ.set i (some d)) := ⟨by simp [h.len], fun j e he => by
  by_cases hj : i = j
  · subst hj
    by_cases hl : i < ρ.length
    · rw [List.getElem?_set_self hl] at he
      cases he
      exact ⟨v, List.getElem?_set_self (by rw [← h.len]; exact hl), r⟩
    · rw [List.getElem?_eq_none (by simp; omega)] at he
      cases he
  · rw [List.getElem?_set_ne hj] at he
    obtain ⟨u, h1, h2⟩ := h.at_ j e he
    exact ⟨u, by rw [List.getElem?_set_ne hj]; exact h1, h2⟩⟩
theorem Envs.unset {K : PySem.W.Frag} {W : Wd} {σ : St} {ρ : En} (h : Envs K W σ ρ) (x : Option V) (i : Nat) : Envs K W (σ.set i x) (ρ.set i none) := ⟨by simp [h.len], fun j e he => by
  by_cases hj : i = j
  · subst hj
    by_cases hl : i < ρ.length
    · rw [List.getElem?_set_self hl] at he
      cases he
    · rw [List.getElem?_eq_none (by simp; omega)] at he
      cases he
  · rw [List.getElem?_set_ne hj] at he
    obtain ⟨u, h1, h2⟩ := h.at_ j e he
    exact ⟨u, by rw [List.getElem?_set_ne hj]; exact h1, h2⟩⟩

/-- what comes out -/
inductive R (α : Type) where
  | ok (a : α) (μ : Mu)
  | ex (c : Addr) (fs : List (Str × D)) (μ : Mu)
  | bad
def R.bind {α β : Type} : R α → (α → Mu → R β) → R β
  | .ok a μ, k => k a μ
  | .ex c fs μ, _ => .ex c fs μ
  | .bad, _ => .bad
@[simp] theorem R.bind_ok {α β : Type} (a : α) (μ : Mu) (k : α → Mu → R β) : (R.ok a μ).bind k = k a μ := of_eq_true (eq_self _)
@[simp] theorem R.bind_ex {α β : Type} (c : Addr) (fs : List (Str × D)) (μ : Mu) (k : α → Mu → R β) : (R.ex c fs μ : R α).bind k = .ex c fs μ := of_eq_true (eq_self _)
@[simp] theorem R.bind_bad {α β : Type} (k : α → Mu → R β) : (R.bad : R α).bind k = .bad := of_eq_true (eq_self _)
/-- a pure answer, or none -/
def R.of {α : Type} (o : Option α) (μ : Mu) : R α := match o with
  | some a => .ok a μ
  | none => .bad
@[simp] theorem R.of_some {α : Type} (a : α) (μ : Mu) : R.of (some a) μ = .ok a μ := of_eq_true (eq_self _)
@[simp] theorem R.of_none {α : Type} (μ : Mu) : (R.of none μ : R α) = .bad := of_eq_true (eq_self _)

/-- an exception as it lies in the heap: its own dict's address (none: it has no field) -/
def ExcIs (K : PySem.W.Frag) (W : Wd) (H : Hp) (fs : List (Str × D)) (d : Option Addr) : Prop :=
  (fs = [] ∧ d = none) ∨ ∃ (a : Addr) (ns : List Str) (vs : List V) (ds : List D), d = some a ∧ H a = some (.xd (ns.zip vs)) ∧ fs = ns.zip ds ∧ ns.length = vs.length ∧ Reps K W vs ds ∧ W.S a = none ∧ a ∉ W.io

def post {α : Type} (K : PySem.W.Frag) (E : XK) (W : Wd) (H : Hp) (Rp : Wd → V → α → Prop) (r : R α) (Q : VK) : Prop := match r with
  | .ok d μ => ∀ W' v H', Go W H W' H' → Ok K W' H' μ → Rp W' v d → Q v H'
  | .ex c fs μ => ∀ W' H' d, Go W H W' H' → Ok K W' H' μ → ExcIs K W' H' fs d → E (.ref c) d H'
  | .bad => False
abbrev postE (K : PySem.W.Frag) (E : XK) (W : Wd) (H : Hp) (r : R D) (Q : VK) : Prop := post K E W H (fun W v d => Rep K W v d) r Q
theorem post.mono {α : Type} {K : PySem.W.Frag} {E : XK} {W W1 : Wd} {H H1 : Hp} {Rp : Wd → V → α → Prop} {r : R α} {Q : VK} (g : Go W H W1 H1) (h : post K E W H Rp r Q) : post K E W1 H1 Rp r Q := by
  cases r with
  | ok d μ => exact fun W' v H' g' o r => h W' v H' (g.trans g') o r
  | ex c fs μ => exact fun W' H' d g' o r => h W' H' d (g.trans g') o r
  | bad => exact h

abbrev FE := En → Mu → R D
def rE (K : PySem.W.Frag) (E : XK) (f : FE) : TE := fun σ H Q => ∃ W ρ μ, Ok K W H μ ∧ Envs K W σ ρ ∧ postE K E W H (f ρ μ) Q
abbrev DE (X : Cx) (E : XK) (e : Expr) (f : FE) : Prop := PE X e (rE X.K E f)
theorem pe_imp {X : Cx} {e : Expr} {t t' : TE} (h : PE X e t) (i : ∀ σ H Q, t' σ H Q → t σ H Q) : PE X e t' := ⟨fun pins s σ H Q I q => h.run pins s σ H Q I (i σ H Q q)⟩
theorem ps_imp {X : Cx} {e : Stmt} {t t' : TS} (h : PS X e t) (i : ∀ D σ H, t' D σ H → t D σ H) : PS X e t' := ⟨fun pins s σ H D I q => h.run pins s σ H D I (i D σ H q)⟩
theorem pss_imp {X : Cx} {e : List Stmt} {t t' : TS} (h : PSs X e t) (i : ∀ D σ H, t' D σ H → t D σ H) : PSs X e t' := ⟨fun pins s σ H D I q => h.run pins s σ H D I (i D σ H q)⟩
theorem pa_imp {X : Cx} {e : List Expr} {t t' : TA} (h : PA X e t) (i : ∀ σ H Q, t' σ H Q → t σ H Q) : PA X e t' := ⟨fun pos pins s σ H Q I q => h.run pos pins s σ H Q I (i σ H Q q)⟩
theorem pt_imp {X : Cx} {e : Expr} {t t' : TT} (h : PT X e t) (i : ∀ σ H Q, t' σ H Q → t σ H Q) : PT X e t' := ⟨fun pins s σ H Q I q => h.run pins s σ H Q I (i σ H Q q)⟩
theorem pw_imp {X : Cx} {e : Expr} {t t' : TT} (h : PW X e t) (i : ∀ σ H Q, t' σ H Q → t σ H Q) : PW X e t' := ⟨fun wh pins s σ H Q I q => h.run wh pins s σ H Q I (i σ H Q q)⟩

/-- one part, then what follows -/
theorem seq {β : Type} {K : PySem.W.Frag} {E : XK} {fa : FE} {k : D → Mu → R β} {Rp : Wd → V → β → Prop} {σ : St} {H : Hp} {W : Wd} {ρ : En} {μ : Mu} {Q Q1 : VK} (p : post K E W H Rp ((fa ρ μ).bind k) Q) (ok : Ok K W H μ) (en : Envs K W σ ρ)
    (hk : ∀ d μ1 W1 x H1, Go W H W1 H1 → Ok K W1 H1 μ1 → Envs K W1 σ ρ → Rep K W1 x d → post K E W1 H1 Rp (k d μ1) Q → Q1 x H1) : rE K E fa σ H Q1 := by
  refine ⟨W, ρ, μ, ok, en, ?_⟩
  revert p
  cases h : fa ρ μ with
  | ok d μ1 => exact fun p W1 x H1 g o r => hk d μ1 W1 x H1 g o (en.mono g.le) r (post.mono g p)
  | ex c fs μ1 => exact fun p => p
  | bad => exact fun p => p

/-! ### tests -/
abbrev FT := En → Mu → R Bool
def postT (K : PySem.W.Frag) (E : XK) (W : Wd) (H : Hp) (r : R Bool) (Q : Bool → Hp → Prop) : Prop := match r with
  | .ok b μ => ∀ W' H', Go W H W' H' → Ok K W' H' μ → Q b H'
  | .ex c fs μ => ∀ W' H' d, Go W H W' H' → Ok K W' H' μ → ExcIs K W' H' fs d → E (.ref c) d H'
  | .bad => False
theorem postT.mono {K : PySem.W.Frag} {E : XK} {W W1 : Wd} {H H1 : Hp} {r : R Bool} {Q : Bool → Hp → Prop} (g : Go W H W1 H1) (h : postT K E W H r Q) : postT K E W1 H1 r Q := by
  cases r with
  | ok d μ => exact fun W' H' g' o => h W' H' (g.trans g') o
  | ex c fs μ => exact fun W' H' d g' o r => h W' H' d (g.trans g') o r
  | bad => exact h
def rT (K : PySem.W.Frag) (E : XK) (f : FT) : TT := fun σ H Q => ∃ W ρ μ, Ok K W H μ ∧ Envs K W σ ρ ∧ postT K E W H (f ρ μ) Q
abbrev DT (X : Cx) (E : XK) (e : Expr) (f : FT) : Prop := PT X e (rT X.K E f)
abbrev DW (X : Cx) (E : XK) (e : Expr) (f : FT) : Prop := PW X e (rT X.K E f)

/-! ### argument lists -/
abbrev FA := En → Mu → R (List D)
def postA (K : PySem.W.Frag) (E : XK) (W : Wd) (H : Hp) (r : R (List D)) (Q : List V → Hp → Prop) : Prop := match r with
  | .ok ds μ => ∀ W' vs H', Go W H W' H' → Ok K W' H' μ → Reps K W' vs ds → Q vs H'
  | .ex c fs μ => ∀ W' H' d, Go W H W' H' → Ok K W' H' μ → ExcIs K W' H' fs d → E (.ref c) d H'
  | .bad => False
theorem postA.mono {K : PySem.W.Frag} {E : XK} {W W1 : Wd} {H H1 : Hp} {r : R (List D)} {Q : List V → Hp → Prop} (g : Go W H W1 H1) (h : postA K E W H r Q) : postA K E W1 H1 r Q := by
  cases r with
  | ok d μ => exact fun W' v H' g' o r => h W' v H' (g.trans g') o r
  | ex c fs μ => exact fun W' H' d g' o r => h W' H' d (g.trans g') o r
  | bad => exact h
def rA (K : PySem.W.Frag) (E : XK) (f : FA) : TA := fun σ H Q => ∃ W ρ μ, Ok K W H μ ∧ Envs K W σ ρ ∧ postA K E W H (f ρ μ) Q
abbrev DA (X : Cx) (E : XK) (e : List Expr) (f : FA) : Prop := PA X e (rA X.K E f)

/-- the same of a whole argument list -/
theorem seqA {β : Type} {K : PySem.W.Frag} {E : XK} {fa : FA} {k : List D → Mu → R β} {Rp : Wd → V → β → Prop} {σ : St} {H : Hp} {W : Wd} {ρ : En} {μ : Mu} {Q : VK} {Q1 : List V → Hp → Prop} (p : post K E W H Rp ((fa ρ μ).bind k) Q) (ok : Ok K W H μ) (en : Envs K W σ ρ)
    (hk : ∀ ds μ1 W1 xs H1, Go W H W1 H1 → Ok K W1 H1 μ1 → Envs K W1 σ ρ → Reps K W1 xs ds → post K E W1 H1 Rp (k ds μ1) Q → Q1 xs H1) : rA K E fa σ H Q1 := by
  refine ⟨W, ρ, μ, ok, en, ?_⟩
  revert p
  cases h : fa ρ μ with
  | ok d μ1 => exact fun p W1 x H1 g o r => hk d μ1 W1 x H1 g o (en.mono g.le) r (post.mono g p)
  | ex c fs μ1 => exact fun p => p
  | bad => exact fun p => p
def aNil : FA := fun _ μ => .ok [] μ
def aCons (f : FE) (g : FA) : FA := fun ρ μ => (f ρ μ).bind fun d μ1 => (g ρ μ1).bind fun ds μ2 => .ok (d :: ds) μ2
section
variable {X : Cx} {E : XK}
theorem da_nil : DA X E [] aNil := pa_imp pa_nil fun σ H Q ⟨W, ρ, μ, ok, en, p⟩ => p W [] H (Go.refl W H) ok .nil
theorem da_cons {e : Expr} {es : List Expr} {f : FE} {g : FA} (h : DE X E e f) (hs : DA X E es g) (hst : starEach (e :: es) X.env = (false, eval e X.env) :: starEach es X.env := by rfl) : DA X E (e :: es) (aCons f g) := by
  refine pa_imp (pa_cons h hs hst) fun σ H Q ⟨W, ρ, μ, ok, en, p⟩ => ?_
  refine ⟨W, ρ, μ, ok, en, ?_⟩
  unfold aCons at p
  revert p
  cases f ρ μ with
  | ok d μ1 =>
    intro p W1 x H1 g1 o1 r1
    refine ⟨W1, ρ, μ1, o1, en.mono g1.le, ?_⟩
    have p := postA.mono g1 p
    revert p
    rw [R.bind_ok]
    cases g ρ μ1 with
    | ok ds μ2 => exact fun p W2 xs H2 g2 o2 r2 => p W2 (x :: xs) H2 g2 o2 (.cons (r1.mono g2.le) r2)
    | ex c fs μ2 => exact fun p => p
    | bad => exact fun p => p
  | ex c fs μ1 => exact fun p => p
  | bad => exact fun p => p
end

/-! ### names and constants -/
def dvar (i : Nat) : FE := fun ρ μ => match ρ[i]? with
  | some (some d) => .ok d μ
  | _ => .bad
def dc (d : D) : FE := fun _ μ => .ok d μ
section
variable {X : Cx} {E : XK}
theorem dv (i : Nat) {x : Str} {pos : Pos} (hN : X.N[i]? = some x := by rfl) (hv : Vis X.env.scope x := by first | exact Or.inl rfl | exact Or.inr (Or.inl rfl) | exact Or.inr (Or.inr rfl)) (hd : (x == ("__debug__" : Str)) = false := by decide)
    (hcd : (x == ("__classdict__" : Str)) = false := by decide) : DE X E (.Name x pos) (dvar i) := by
  refine pe_imp (pe_var hN hv hd hcd) fun σ H Q ⟨W, ρ, μ, ok, en, p⟩ => ?_
  unfold dvar at p
  revert p
  cases e : ρ[i]? with
  | none => exact fun p => p.elim
  | some o =>
    cases o with
    | none => exact fun p => p.elim
    | some d =>
      intro p
      obtain ⟨v, h1, h2⟩ := en.at_ i d e
      exact ⟨v, h1, p W v H (Go.refl W H) ok h2⟩
theorem dconst {e : Expr} {v : V} {d : D} (h : PE X e (tC v)) (r : ∀ W, Rep X.K W v d) : DE X E e (dc d) := pe_imp h fun σ H Q ⟨W, ρ, μ, ok, en, p⟩ => p W v H (Go.refl W H) ok (r W)
theorem dint {i j pos} : DE X E (.Constant (.int i) j pos) (dc (.int i)) := dconst pe_int fun _ => .int i
theorem dbool {b j pos} : DE X E (.Constant (.bool b) j pos) (dc (.bl b)) := dconst pe_bl fun _ => .bl b
theorem dnon {j pos} : DE X E (.Constant .none j pos) (dc .non) := dconst pe_non fun _ => .non
theorem dstr {x j pos} (hx : x.length ≤ sizeLine := by decide +kernel) : DE X E (.Constant (.str x) j pos) (dc (.str x)) := dconst pe_str fun _ => .str x hx

/-! ### two-place operations -/
/-- the rule r does g -/
def OpD (K : PySem.W.Frag) (E : XK) (r : R2) (g : D → D → Mu → R D) : Prop :=
  ∀ W H μ x y vx vy Q, Ok K W H μ → Rep K W vx x → Rep K W vy y → postE K E W H (g x y μ) Q → r vx vy H Q
/-- .. a pure one that makes nothing -/
theorem OpD.pure {K : PySem.W.Frag} {E : XK} {r : R2} {g : D → D → Option D} (h : ∀ W H μ x y vx vy d, Ok K W H μ → Rep K W vx x → Rep K W vy y → g x y = some d → ∃ v, Rep K W v d ∧ ∀ Q : VK, Q v H → r vx vy H Q) : OpD K E r (fun x y μ => R.of (g x y) μ) := by
  intro W H μ x y vx vy Q ok rx ry
  show postE K E W H (R.of (g x y) μ) Q → _
  cases e : g x y with
  | none => exact fun p => p.elim
  | some d =>
    intro p
    obtain ⟨v, h1, h2⟩ := h W H μ x y vx vy d ok rx ry e
    exact h2 Q (p W v H (Go.refl W H) ok h1)
def dbin (g : D → D → Mu → R D) (fa fb : FE) : FE := fun ρ μ => (fa ρ μ).bind fun x μ1 => (fb ρ μ1).bind fun y μ2 => g x y μ2
theorem tOp_of {r : R2} {g : D → D → Mu → R D} {fa fb : FE} (h : OpD X.K E r g) : ∀ σ H Q, rE X.K E (dbin g fa fb) σ H Q → tOp r (rE X.K E fa) (rE X.K E fb) σ H Q := fun σ H Q ⟨W, ρ, μ, ok, en, p⟩ =>
  seq p ok en fun x μ1 W1 vx H1 g1 ok1 en1 rx p1 => seq p1 ok1 en1 fun y μ2 W2 vy H2 g2 ok2 en2 ry p2 => h W2 H2 μ2 x y vx vy Q ok2 (rx.mono g2.le) ry p2
theorem dbinop {op : Operator} {a b : Expr} {pos : Pos} {fa fb : FE} {r : R2} {g : D → D → Mu → R D} (ho : OpR X (binaryOp op) r) (h : OpD X.K E r g) (ha : DE X E a fa) (hb : DE X E b fb) : DE X E (.BinOp a op b pos) (dbin g fa fb) :=
  pe_imp (pe_op ho ha hb) (tOp_of h)
theorem dcmp {op : CmpOp} {a b : Expr} {pos : Pos} {fa fb : FE} {r : R2} {g : D → D → Mu → R D} (ho : OpR X (compareOp op) r) (h : OpD X.K E r g) (ha : DE X E a fa) (hb : DE X E b fb) (hm : behindInMarks op b = false := by first | exact nomark _ | rfl) : DE X E (.Compare a [op] [b] pos) (dbin g fa fb) :=
  pe_imp (pe_cmpR ho ha hb hm) (tOp_of h)
def dun (g : D → Mu → R D) (fa : FE) : FE := fun ρ μ => (fa ρ μ).bind fun x μ1 => g x μ1

/-! ### tests of values -/
def dtest (f : FE) : FT := fun ρ μ => (f ρ μ).bind fun d μ1 => match d with
  | .bl b => .ok b μ1
  | _ => .bad
theorem tB_of {f : FE} : ∀ σ H Q, rT X.K E (dtest f) σ H Q → tB (rE X.K E f) σ H Q := fun σ H Q ⟨W, ρ, μ, ok, en, p⟩ => by
  refine ⟨W, ρ, μ, ok, en, ?_⟩
  unfold dtest at p
  revert p
  cases f ρ μ with
  | ok d μ1 =>
    rw [R.bind_ok]
    cases d with
    | bl b =>
      intro p W1 v H1 g1 o1 r1
      cases r1
      exact ⟨b, rfl, p W1 H1 g1 o1⟩
    | _ => exact fun p => p.elim
  | ex c fs μ1 => exact fun p => p
  | bad => exact fun p => p
theorem dtest_val {e : Expr} {f : FE} (h : DE X E e f) (he : ∀ whole, isTrue e X.env whole = (do let v ← whole; standAt e.pos; holding [v] (truthy v)) := by intro _; rfl) : DT X E e (dtest f) := pt_imp (pt_val h he) tB_of
theorem dtest_cmp {op : CmpOp} {a b : Expr} {pos : Pos} {fa fb : FE} {r : R2} {g : D → D → Mu → R D} (ho : OpR X (compareOp op) r) (h : OpD X.K E r g) (ha : DE X E a fa) (hb : DE X E b fb) (hm : behindInMarks op b = false := by first | exact nomark _ | rfl) : DT X E (.Compare a [op] [b] pos) (dtest (dbin g fa fb)) := by
  refine pt_imp (pt_cmpR ho ha hb hm) fun σ H Q q => ?_
  have q := tB_of σ H Q q
  unfold tTest
  exact tOp_of h σ H _ q
def tand (f g : FT) : FT := fun ρ μ => (f ρ μ).bind fun b μ1 => if b = true then g ρ μ1 else .ok false μ1
def tor (f g : FT) : FT := fun ρ μ => (f ρ μ).bind fun b μ1 => if b = true then .ok true μ1 else g ρ μ1
def tnot (f : FT) : FT := fun ρ μ => (f ρ μ).bind fun b μ1 => .ok (!b) μ1
theorem seqT {K : PySem.W.Frag} {fa : FT} {k : Bool → Mu → R Bool} {σ : St} {H : Hp} {W : Wd} {ρ : En} {μ : Mu} {Q Q1 : Bool → Hp → Prop} (p : postT K E W H ((fa ρ μ).bind k) Q) (ok : Ok K W H μ) (en : Envs K W σ ρ)
    (hk : ∀ b μ1 W1 H1, Go W H W1 H1 → Ok K W1 H1 μ1 → Envs K W1 σ ρ → postT K E W1 H1 (k b μ1) Q → Q1 b H1) : rT K E fa σ H Q1 := by
  refine ⟨W, ρ, μ, ok, en, ?_⟩
  revert p
  cases h : fa ρ μ with
  | ok d μ1 => exact fun p W1 H1 g o => hk d μ1 W1 H1 g o (en.mono g.le) (postT.mono g p)
  | ex c fs μ1 => exact fun p => p
  | bad => exact fun p => p
theorem tAnd_of {f g : FT} : ∀ σ H Q, rT X.K E (tand f g) σ H Q → tAnd (rT X.K E f) (rT X.K E g) σ H Q := fun σ H Q ⟨W, ρ, μ, ok, en, p⟩ =>
  seqT p ok en fun b μ1 W1 H1 g1 o1 en1 p1 => by
    cases b with
    | true => exact ⟨W1, ρ, μ1, o1, en1, p1⟩
    | false => exact p1 W1 H1 (Go.refl _ _) o1
theorem tOr_of {f g : FT} : ∀ σ H Q, rT X.K E (tor f g) σ H Q → tOr (rT X.K E f) (rT X.K E g) σ H Q := fun σ H Q ⟨W, ρ, μ, ok, en, p⟩ =>
  seqT p ok en fun b μ1 W1 H1 g1 o1 en1 p1 => by
    cases b with
    | false => exact ⟨W1, ρ, μ1, o1, en1, p1⟩
    | true => exact p1 W1 H1 (Go.refl _ _) o1
variable {a b : Expr} {rest : List Expr} {pos : Pos} {f g : FT}
theorem dw_and1 (ha : DT X E a f) : DW X E (.BoolOp .And [a] pos) f := pw_and1 ha
theorem dw_or1 (ha : DT X E a f) : DW X E (.BoolOp .Or [a] pos) f := pw_or1 ha
theorem dw_and (ha : DT X E a f) (hb : DW X E (.BoolOp .And (b :: rest) pos) g) : DW X E (.BoolOp .And (a :: b :: rest) pos) (tand f g) := pw_imp (pw_and ha hb) tAnd_of
theorem dw_or (ha : DT X E a f) (hb : DW X E (.BoolOp .Or (b :: rest) pos) g) : DW X E (.BoolOp .Or (a :: b :: rest) pos) (tor f g) := pw_imp (pw_or ha hb) tOr_of
theorem dt_w (h : DW X E a f) : DT X E a f := h.pt
theorem dt_not (ha : DT X E a f) : DT X E (.UnaryOp .Not a pos) (tnot f) := pt_imp (pt_not ha) fun σ H Q ⟨W, ρ, μ, ok, en, p⟩ =>
  seqT p ok en fun b μ1 W1 H1 g1 o1 en1 p1 => p1 W1 H1 (Go.refl _ _) o1
end
end DL
/-! DL1: statements, targets, walks, loops, comprehensions. -/
namespace DL
open PySem L2

/-- no exception is let out -/
def R.nox {α : Type} : R α → R α
  | .ok a μ => .ok a μ
  | _ => .bad
@[simp] theorem R.nox_ok {α : Type} (a : α) (μ : Mu) : (R.ok a μ).nox = .ok a μ := of_eq_true (eq_self _)
@[simp] theorem R.nox_bad {α : Type} : (R.bad : R α).nox = .bad := of_eq_true (eq_self _)
@[simp] theorem R.nox_ex {α : Type} (c : Addr) (fs : List (Str × D)) (μ : Mu) : (R.ex c fs μ : R α).nox = .bad := of_eq_true (eq_self _)

/-! ### a new object that never changes -/
section
variable {K : PySem.W.Frag} {W : Wd} {H : Hp} {μ : Mu} {p : Addr} {o : HO}
theorem same_new {H : Hp} {p : Addr} {o : HO} (h : H p = none) : Same H (upd H p o) := fun b x e => by
  rw [upd_ne (ne_of_none e h)]
  exact e
def Wd.new (W : Wd) (p : Addr) (o : HO) : Wd := ⟨upd W.S p o, W.io⟩
theorem Ok.snone (ok : Ok K W H μ) (h : H p = none) : W.S p = none := ok.sub.free h
theorem Go.new (ok : Ok K W H μ) (h : H p = none) : Go W H (W.new p o) (upd H p o) := by
  refine ⟨⟨same_new (ok.snone h), List.prefix_refl _⟩, fun a u e _ => ?_, fun a e => ?_, fun a e => .inl e, fun a u e => ?_⟩
  · rw [upd_ne (ne_of_none e h)]
    exact e
  · by_cases z : a = p
    · rw [z]; exact h
    · rw [upd_ne z] at e; exact e
  · by_cases z : a = p
    · rw [z]; exact .inr (.inl h)
    · exact .inl (by rw [← e]; exact (upd_ne z).symm)
theorem Ok.new (ok : Ok K W H μ) (h : H p = none) : Ok K (W.new p o) (upd H p o) μ := by
  have g := Go.new (o := o) ok h
  refine ⟨fun a u e => ?_, ok.len, ok.nd, fun l a m e1 e2 n => ?_, fun l a m e1 e2 => ?_⟩
  · by_cases z : a = p
    · have e : upd W.S p o a = some u := e
      rw [z] at e ⊢
      rw [upd_same] at e ⊢
      exact e
    · have e : upd W.S p o a = some u := e
      rw [upd_ne z] at e ⊢
      exact ok.sub a u e
  · show upd W.S p o a = none
    by_cases z : a = p
    · obtain ⟨u, e, _⟩ := ok.cell l a m e1 e2
      rw [z, h] at e
      cases e
    · rw [upd_ne z]
      exact ok.apart l a m e1 e2 n
  · exact (ok.cell l a m e1 e2).mono g.le fun u e => by
      rw [upd_ne (ne_of_none e h)]
      exact e
/-- a new tuple, a new list -/
theorem rep_tup {vs : List V} {ds : List D} (ok : Ok K W H μ) (h : H p = none) (z : ds.length ≤ sizeLine) (r : Reps K W vs ds) : Rep K (W.new p (.tup vs)) (.ref p) (.tup ds) :=
  .tup z (.inl (.inl (show upd W.S p (.tup vs) p = _ from upd_same))) (r.mono (Go.new ok h).le)
theorem rep_lst {vs : List V} {ds : List D} (ok : Ok K W H μ) (h : H p = none) (z : ds.length ≤ sizeLine) (r : Reps K W vs ds) : Rep K (W.new p (.lst vs)) (.ref p) (.lst ds) :=
  .lst z (.inl (.inl (show upd W.S p (.lst vs) p = _ from upd_same))) (r.mono (Go.new ok h).le)
end

/-! ### a new cell, a changed cell, a frozen cell -/
section
variable {K : PySem.W.Frag} {W : Wd} {H : Hp} {μ : Mu} {p a : Addr} {l : Nat} {m m' : MO} {o o' : HO}
def Wd.cell (W : Wd) (p : Addr) : Wd := ⟨W.S, W.io ++ [p]⟩
theorem Ok.notio (ok : Ok K W H μ) (h : H p = none) : p ∉ W.io := fun z => by
  obtain ⟨l, hl, e⟩ := List.mem_iff_getElem.mp z
  have hm : l < μ.length := by rw [← ok.len]; exact hl
  obtain ⟨u, q, _⟩ := ok.cell l p μ[l] (by rw [List.getElem?_eq_getElem hl, e]) (List.getElem?_eq_getElem hm)
  rw [h] at q
  cases q
theorem Go.cell (ok : Ok K W H μ) (h : H p = none) : Go W H (W.cell p) (upd H p o) := by
  refine ⟨⟨Same.refl _, List.prefix_append _ _⟩, fun a u e _ => ?_, fun a e => ?_, fun a e => ?_, fun a u e => .inl e⟩
  · rw [upd_ne (ne_of_none e h)]
    exact e
  · by_cases z : a = p
    · rw [z]; exact h
    · rw [upd_ne z] at e; exact e
  · have e : a ∈ W.io ++ [p] := e
    rcases List.mem_append.mp e with e | e
    · exact .inl e
    · have e : a = p := by simpa using e
      rw [e]; exact .inr h
theorem Ok.newcell (ok : Ok K W H μ) (h : H p = none) (c : CellO K W m o) : Ok K (W.cell p) (upd H p o) (μ ++ [m]) := by
  have g := Go.cell (o := o) ok h
  have hn := ok.notio h
  have get : ∀ (l : Nat) a k, (W.io ++ [p])[l]? = some a → (μ ++ [m])[l]? = some k → (W.io[l]? = some a ∧ μ[l]? = some k) ∨ (a = p ∧ k = m) := fun l a k e1 e2 => by
    by_cases hl : l < W.io.length
    · rw [List.getElem?_append_left hl] at e1
      rw [List.getElem?_append_left (by rw [← ok.len]; exact hl)] at e2
      exact .inl ⟨e1, e2⟩
    · rw [List.getElem?_append_right (by omega)] at e1
      rw [List.getElem?_append_right (by rw [← ok.len]; omega), ← ok.len] at e2
      cases hz : l - W.io.length with
      | zero =>
        rw [hz] at e1 e2
        simp at e1 e2
        exact .inr ⟨e1.symm, e2.symm⟩
      | succ n =>
        rw [hz] at e1
        simp at e1
  refine ⟨fun a u e => ?_, by simp [Wd.cell, ok.len], ?_, fun l a k e1 e2 n => ?_, fun l a k e1 e2 => ?_⟩
  · have e : W.S a = some u := e
    rw [upd_ne (ne_of_none (ok.sub _ _ e) h)]
    exact ok.sub _ _ e
  · show (W.io ++ [p]).Nodup
    rw [List.nodup_append]
    exact ⟨ok.nd, by simp, fun x hx y hy z => hn (by
      have e : y = p := by simpa using hy
      rw [← e, ← z]; exact hx)⟩
  · show W.S a = none
    rcases get l a k e1 e2 with ⟨e1, e2⟩ | ⟨rfl, rfl⟩
    · exact ok.apart l a k e1 e2 n
    · exact ok.snone h
  · rcases get l a k e1 e2 with ⟨e1, e2⟩ | ⟨rfl, rfl⟩
    · exact (ok.cell l a k e1 e2).mono g.le fun u e => by
        rw [upd_ne (ne_of_none e h)]
        exact e
    · exact ⟨o, upd_same, c.mono g.le⟩
theorem Ok.io_ne (ok : Ok K W H μ) {l2 : Nat} {b : Addr} (h1 : W.io[l]? = some a) (h2 : W.io[l2]? = some b) (hne : l2 ≠ l) : b ≠ a := fun e => by
  obtain ⟨i1, e1⟩ := List.getElem?_eq_some_iff.mp h1
  obtain ⟨i2, e2⟩ := List.getElem?_eq_some_iff.mp h2
  exact hne ((List.getElem_inj ok.nd).mp (e2.trans (e.trans e1.symm)))
/-- the cell l holds m' from now on -/
theorem Ok.setcell (ok : Ok K W H μ) (h1 : W.io[l]? = some a) (h2 : μ[l]? = some m) (hg : m ≠ .gone) (c : CellO K W m' o') : Ok K W (upd H a o') (μ.set l m') ∧ Go W H W (upd H a o') := by
  have ha : W.S a = none := ok.apart l a m h1 h2 hg
  obtain ⟨o, ho, _⟩ := ok.cell l a m h1 h2
  have hm : a ∈ W.io := List.mem_of_getElem? h1
  refine ⟨⟨fun b u e => ?_, by rw [List.length_set]; exact ok.len, ok.nd, fun l2 b k e1 e2 n => ?_, fun l2 b k e1 e2 => ?_⟩, ⟨Le.refl _, fun b u e n => ?_, fun b e => ?_, fun b e => .inl e, fun b u e => .inl e⟩⟩
  · rw [upd_ne (ne_of_none e ha)]
    exact ok.sub _ _ e
  · by_cases z : l2 = l
    · subst z
      rw [h1] at e1
      cases e1
      exact ha
    · rw [List.getElem?_set_ne (Ne.symm z)] at e2
      exact ok.apart l2 b k e1 e2 n
  · by_cases z : l2 = l
    · subst z
      rw [h1] at e1
      cases e1
      rw [List.getElem?_set_self (List.getElem?_eq_some_iff.mp h2).1] at e2
      cases e2
      exact ⟨o', upd_same, c⟩
    · rw [List.getElem?_set_ne (Ne.symm z)] at e2
      exact (ok.cell l2 b k e1 e2).mono (Le.refl _) fun u e => by
        rw [upd_ne (ok.io_ne h1 e1 z)]
        exact e
  · rw [upd_ne (fun z => n (by rw [z]; exact hm))]
    exact e
  · by_cases z : b = a
    · rw [z, upd_same] at e
      cases e
    · rw [upd_ne z] at e
      exact e
/-- the cell l never changes any more -/
theorem Ok.freeze (ok : Ok K W H μ) (h1 : W.io[l]? = some a) (h2 : μ[l]? = some m) (hg : m ≠ .gone) (ho : H a = some o) : Ok K (W.new a o) H (μ.set l .gone) ∧ Go W H (W.new a o) H := by
  have ha : W.S a = none := ok.apart l a m h1 h2 hg
  have hm : a ∈ W.io := List.mem_of_getElem? h1
  have le : Le W (W.new a o) := ⟨same_new ha, List.prefix_refl _⟩
  refine ⟨⟨fun b u e => ?_, by rw [List.length_set]; exact ok.len, ok.nd, fun l2 b k e1 e2 n => ?_, fun l2 b k e1 e2 => ?_⟩, ⟨le, fun b u e n => e, fun b e => e, fun b e => .inl e, fun b u e => ?_⟩⟩
  · have e : upd W.S a o b = some u := e
    by_cases z : b = a
    · rw [z] at e ⊢
      rw [upd_same] at e
      rw [ho]; exact e
    · rw [upd_ne z] at e
      exact ok.sub _ _ e
  · show upd W.S a o b = none
    by_cases z : l2 = l
    · subst z
      rw [List.getElem?_set_self (List.getElem?_eq_some_iff.mp h2).1] at e2
      cases e2
      exact absurd rfl n
    · rw [List.getElem?_set_ne (Ne.symm z)] at e2
      rw [upd_ne (ok.io_ne h1 e1 z)]
      exact ok.apart l2 b k e1 e2 n
  · by_cases z : l2 = l
    · subst z
      rw [List.getElem?_set_self (List.getElem?_eq_some_iff.mp h2).1] at e2
      cases e2
      have e1 : W.io[l2]? = some b := e1
      rw [h1] at e1
      cases e1
      exact ⟨o, ho, trivial⟩
    · rw [List.getElem?_set_ne (Ne.symm z)] at e2
      exact (ok.cell l2 b k e1 e2).mono le fun u e => e
  · have e : upd W.S a o b = some u := e
    by_cases z : b = a
    · rw [z]; exact .inr (.inr hm)
    · rw [upd_ne z] at e
      exact .inl e
end

/-! ### targets -/
inductive Tg where
  | nm (i : Nat)
  | tp (ts : List Tg)
mutual
def Tg.slots : Tg → List Nat
  | .nm i => [i]
  | .tp ts => Tg.slotsL ts
def Tg.slotsL : List Tg → List Nat
  | [] => []
  | t :: ts => t.slots ++ Tg.slotsL ts
end
mutual
def asg : Tg → D → En → Option En
  | .nm i, d, ρ => some (ρ.set i (some d))
  | .tp ts, d, ρ => match d with
    | .tup ds => asgL ts ds ρ
    | _ => none
def asgL : List Tg → List D → En → Option En
  | [], [], ρ => some ρ
  | t :: ts, d :: ds, ρ => match asg t d ρ with
    | some ρ1 => asgL ts ds ρ1
    | none => none
  | _, _, _ => none
end
@[simp] theorem asg_nm (i : Nat) (d : D) (ρ : En) : asg (.nm i) d ρ = some (ρ.set i (some d)) := by simp [asg]
@[simp] theorem asg_tp (ts : List Tg) (ds : List D) (ρ : En) : asg (.tp ts) (.tup ds) ρ = asgL ts ds ρ := by simp [asg]
@[simp] theorem asgL_nil (ρ : En) : asgL [] [] ρ = some ρ := by simp [asgL]
@[simp] theorem asgL_cons (t : Tg) (ts : List Tg) (d : D) (ds : List D) (ρ : En) : asgL (t :: ts) (d :: ds) ρ = (asg t d ρ).bind (asgL ts ds) := by
  cases h : asg t d ρ <;> simp [asgL, h]
theorem asgL_len : ∀ {ts : List Tg} {ds : List D} {ρ ρ' : En}, asgL ts ds ρ = some ρ' → ds.length = ts.length
  | [], [], _, _, _ => rfl
  | [], _ :: _, _, _, e => by simp [asgL] at e
  | _ :: _, [], _, _, e => by simp [asgL] at e
  | t :: ts, d :: ds, ρ, ρ', e => by
    rw [asgL_cons] at e
    cases h : asg t d ρ with
    | none => rw [h] at e; cases e
    | some ρ1 =>
      rw [h] at e
      rw [List.length_cons, List.length_cons, asgL_len (ts := ts) (ds := ds) e]
/-- only some slots changed -/
structure But (vs : List Nat) (σ σ' : St) : Prop where
  len : σ'.length = σ.length
  at_ : ∀ j, j ∉ vs → σ'[j]? = σ[j]?
theorem But.refl (vs : List Nat) (σ : St) : But vs σ σ := ⟨rfl, fun _ _ => rfl⟩
theorem But.trans {vs us : List Nat} {σ σ1 σ2 : St} (a : But vs σ σ1) (b : But us σ1 σ2) : But (vs ++ us) σ σ2 :=
  ⟨b.len.trans a.len, fun j h => by
    rw [List.mem_append] at h
    rw [b.at_ j fun z => h (.inr z), a.at_ j fun z => h (.inl z)]⟩
theorem But.set (σ : St) (i : Nat) (x : Option V) : But [i] σ (σ.set i x) := ⟨by simp, fun j h => by
  have hj : i ≠ j := fun z => h (by simp [z])
  rw [List.getElem?_set_ne hj]⟩
def rG (K : PySem.W.Frag) (t : Tg) : TG := fun v σ H Q => ∃ W ρ ρ' d μ, Ok K W H μ ∧ Envs K W σ ρ ∧ Rep K W v d ∧ asg t d ρ = some ρ' ∧ ∀ σ', Envs K W σ' ρ' → But t.slots σ σ' → Q σ' H
def rGs (K : PySem.W.Frag) (ts : List Tg) : TGs := fun vs σ H Q => ∃ W ρ ρ' ds μ, Ok K W H μ ∧ Envs K W σ ρ ∧ Reps K W vs ds ∧ asgL ts ds ρ = some ρ' ∧ ∀ σ', Envs K W σ' ρ' → But (Tg.slotsL ts) σ σ' → Q σ' H
abbrev DG (X : Cx) (tg : Expr) (t : Tg) : Prop := PG X tg (rG X.K t)
abbrev DGs (X : Cx) (tg : List Expr) (t : List Tg) : Prop := PGs X tg (rGs X.K t)
theorem pg_imp {X : Cx} {e : Expr} {t t' : TG} (h : PG X e t) (i : ∀ v σ H Q, t' v σ H Q → t v σ H Q) : PG X e t' := ⟨fun pins s σ H v u Q I r q => h.run pins s σ H v u Q I r (i v σ H Q q)⟩
theorem pgs_imp {X : Cx} {e : List Expr} {t t' : TGs} (h : PGs X e t) (i : ∀ v σ H Q, t' v σ H Q → t v σ H Q) : PGs X e t' := ⟨fun pins s σ H v u Q I r q => h.run pins s σ H v u Q I r (i v σ H Q q)⟩
section
variable {X : Cx} {pos : Pos}
theorem dg_name {i : Nat} {x : Str} (hN : X.N.Nodup) (hi : X.N[i]? = some x := by rfl) (hx : Loc X.env.scope x := by first | exact .inl rfl | exact .inr rfl) (hf : X.fn x = true ∨ X.env.scope.names.lookup x = some .local := by first | exact .inl rfl | exact .inr rfl) : DG X (.Name x pos) (.nm i) :=
  pg_imp (pg_name hN hi hx hf) fun v σ H Q ⟨W, ρ, ρ', d, μ, ok, en, r, e, q⟩ => by
    rw [asg_nm] at e
    cases e
    exact q _ (en.set r i) (But.set σ i _)
theorem dgs_nil : DGs X [] [] := pgs_imp pgs_nil fun vs σ H Q ⟨W, ρ, ρ', ds, μ, ok, en, r, e, q⟩ => by
  have l := r.length
  rw [asgL_len e] at l
  cases r with
  | nil =>
    rw [asgL_nil] at e
    cases e
    exact ⟨rfl, q σ en (But.refl _ _)⟩
  | cons _ _ => cases l
theorem dgs_cons {e : Expr} {es : List Expr} {t : Tg} {ts : List Tg} (h : DG X e t) (hs : DGs X es ts) (hst : (assignEach (e :: es) X.env).map (·.2) = assign e X.env :: (assignEach es X.env).map (·.2) := by rfl) : DGs X (e :: es) (t :: ts) :=
  pgs_imp (pgs_cons h hs hst) fun vs σ H Q ⟨W, ρ, ρ', ds, μ, ok, en, r, e, q⟩ => by
    cases r with
    | nil => simp [asgL] at e
    | @cons v vs d ds r rs =>
      rw [asgL_cons] at e
      cases h : asg t d ρ with
      | none => rw [h] at e; cases e
      | some ρ1 =>
        rw [h] at e
        refine ⟨v, vs, rfl, W, ρ, ρ1, d, μ, ok, en, r, h, fun σ1 en1 b1 => ⟨W, ρ1, ρ', ds, μ, ok, en1, rs, e, fun σ2 en2 b2 => q σ2 en2 ?_⟩⟩
        show But (t.slots ++ Tg.slotsL ts) σ σ2
        exact b1.trans b2
theorem dg_tup {es : List Expr} {k : Nat} {ts : List Tg} (hc : X.calm = true) (h : DGs X es ts) (hn : (assignEach es X.env).length = ts.length := by rfl) (hst : (assignEach es X.env).findIdx? (·.1) = none := by rfl) : DG X (.Tuple es k pos) (.tp ts) :=
  pg_imp (pg_tup hc h hn hst) fun v σ H Q ⟨W, ρ, ρ', d, μ, ok, en, r, e, q⟩ => by
    cases r with
    | @tup a xs ds z sq rs =>
      rw [asg_tp] at e
      refine ⟨a, xs, rfl, same_t ok.sub sq, ?_, W, ρ, ρ', ds, μ, ok, en, rs, e, fun σ' en' b => q σ' en' b⟩
      rw [rs.length]
      exact asgL_len e
    | _ => simp [asg] at e
end

/-! ### statements -/
inductive O where
  | nx (ρ : En) (μ : Mu)
  | rt (d : D) (μ : Mu)
  | bk (ρ : En) (μ : Mu)
  | ct (ρ : En) (μ : Mu)
  | ex (c : Addr) (fs : List (Str × D)) (μ : Mu)
  | bad
def postS (K : PySem.W.Frag) (E : XK) (W : Wd) (H : Hp) (o : O) (Z : Ends) : Prop := match o with
  | .nx ρ μ => ∀ W' σ' H', Go W H W' H' → Ok K W' H' μ → Envs K W' σ' ρ → Z.nx σ' H'
  | .bk ρ μ => ∀ W' σ' H', Go W H W' H' → Ok K W' H' μ → Envs K W' σ' ρ → Z.bk σ' H'
  | .ct ρ μ => ∀ W' σ' H', Go W H W' H' → Ok K W' H' μ → Envs K W' σ' ρ → Z.ct σ' H'
  | .rt d μ => ∀ W' v H', Go W H W' H' → Ok K W' H' μ → Rep K W' v d → Z.rt v H'
  | .ex c fs μ => ∀ W' H' d, Go W H W' H' → Ok K W' H' μ → ExcIs K W' H' fs d → E (.ref c) d H'
  | .bad => False
theorem postS.mono {K : PySem.W.Frag} {E : XK} {W W1 : Wd} {H H1 : Hp} {o : O} {Z : Ends} (g : Go W H W1 H1) (h : postS K E W H o Z) : postS K E W1 H1 o Z := by
  cases o with
  | nx ρ μ => exact fun W' v H' g' o r => h W' v H' (g.trans g') o r
  | bk ρ μ => exact fun W' v H' g' o r => h W' v H' (g.trans g') o r
  | ct ρ μ => exact fun W' v H' g' o r => h W' v H' (g.trans g') o r
  | rt ρ μ => exact fun W' v H' g' o r => h W' v H' (g.trans g') o r
  | ex c fs μ => exact fun W' H' d g' o r => h W' H' d (g.trans g') o r
  | bad => exact h
abbrev FS := En → Mu → O
def rS (K : PySem.W.Frag) (E : XK) (g : FS) : TS := fun Z σ H => ∃ W ρ μ, Ok K W H μ ∧ Envs K W σ ρ ∧ postS K E W H (g ρ μ) Z
abbrev DS (X : Cx) (E : XK) (st : Stmt) (g : FS) : Prop := PS X st (rS X.K E g)
abbrev DSs (X : Cx) (E : XK) (st : List Stmt) (g : FS) : Prop := PSs X st (rS X.K E g)
def R.to {α : Type} : R α → (α → Mu → O) → O
  | .ok a μ, k => k a μ
  | .ex c fs μ, _ => .ex c fs μ
  | .bad, _ => .bad
@[simp] theorem R.to_ok {α : Type} (a : α) (μ : Mu) (k : α → Mu → O) : (R.ok a μ).to k = k a μ := of_eq_true (eq_self _)
@[simp] theorem R.to_bad {α : Type} (k : α → Mu → O) : (R.bad : R α).to k = .bad := of_eq_true (eq_self _)
@[simp] theorem R.to_ex {α : Type} (c : Addr) (fs : List (Str × D)) (μ : Mu) (k : α → Mu → O) : (R.ex c fs μ : R α).to k = .ex c fs μ := of_eq_true (eq_self _)
theorem seqS {K : PySem.W.Frag} {E : XK} {fa : FE} {k : D → Mu → O} {σ : St} {H : Hp} {W : Wd} {ρ : En} {μ : Mu} {Z : Ends} {Q1 : VK} (p : postS K E W H ((fa ρ μ).to k) Z) (ok : Ok K W H μ) (en : Envs K W σ ρ)
    (hk : ∀ d μ1 W1 x H1, Go W H W1 H1 → Ok K W1 H1 μ1 → Envs K W1 σ ρ → Rep K W1 x d → postS K E W1 H1 (k d μ1) Z → Q1 x H1) : rE K E fa σ H Q1 := by
  refine ⟨W, ρ, μ, ok, en, ?_⟩
  revert p
  cases h : fa ρ μ with
  | ok d μ1 => exact fun p W1 x H1 g o r => hk d μ1 W1 x H1 g o (en.mono g.le) r (postS.mono g p)
  | ex c fs μ1 => exact fun p => p
  | bad => exact fun p => p
theorem seqST {K : PySem.W.Frag} {E : XK} {fa : FT} {k : Bool → Mu → O} {σ : St} {H : Hp} {W : Wd} {ρ : En} {μ : Mu} {Z : Ends} {Q1 : Bool → Hp → Prop} (p : postS K E W H ((fa ρ μ).to k) Z) (ok : Ok K W H μ) (en : Envs K W σ ρ)
    (hk : ∀ b μ1 W1 H1, Go W H W1 H1 → Ok K W1 H1 μ1 → Envs K W1 σ ρ → postS K E W1 H1 (k b μ1) Z → Q1 b H1) : rT K E fa σ H Q1 := by
  refine ⟨W, ρ, μ, ok, en, ?_⟩
  revert p
  cases h : fa ρ μ with
  | ok d μ1 => exact fun p W1 H1 g o => hk d μ1 W1 H1 g o (en.mono g.le) (postS.mono g p)
  | ex c fs μ1 => exact fun p => p
  | bad => exact fun p => p
def gnil : FS := fun ρ μ => .nx ρ μ
def gseq (g h : FS) : FS := fun ρ μ => match g ρ μ with
  | .nx ρ' μ' => h ρ' μ'
  | o => o
def gret (f : FE) : FS := fun ρ μ => (f ρ μ).to fun d μ1 => .rt d μ1
def gexpr (f : FE) : FS := fun ρ μ => (f ρ μ).to fun _ μ1 => .nx ρ μ1
def gasg (t : Tg) (f : FE) : FS := fun ρ μ => (f ρ μ).to fun d μ1 => match asg t d ρ with
  | some ρ' => .nx ρ' μ1
  | none => .bad
def gif (c : FT) (g h : FS) : FS := fun ρ μ => (c ρ μ).to fun b μ1 => if b = true then g ρ μ1 else h ρ μ1
section
variable {X : Cx} {E : XK} {st : Stmt} {sts : List Stmt} {g h : FS} {e : Expr} {f : FE} {pos : Pos}
theorem ds_nil : DSs X E [] gnil := pss_imp pss_nil fun Z σ H ⟨W, ρ, μ, ok, en, p⟩ => p W σ H (Go.refl _ _) ok en
theorem ds_one (a : DS X E st g) : DSs X E [st] g := pss_one a
theorem ds_cons (a : DS X E st g) (b : DSs X E sts h) : DSs X E (st :: sts) (gseq g h) := pss_imp (pss_cons a b) fun Z σ H ⟨W, ρ, μ, ok, en, p⟩ => by
  refine ⟨W, ρ, μ, ok, en, ?_⟩
  unfold gseq at p
  revert p
  cases g ρ μ with
  | nx ρ' μ' => exact fun p W' σ' H' g' o r => ⟨W', ρ', μ', o, r, postS.mono g' p⟩
  | bk ρ μ => exact fun p => p
  | ct ρ μ => exact fun p => p
  | rt ρ μ => exact fun p => p
  | ex c fs μ => exact fun p => p
  | bad => exact fun p => p
theorem ds_pass : DS X E (.Pass pos) gnil := ps_imp ps_pass fun Z σ H ⟨W, ρ, μ, ok, en, p⟩ => p W σ H (Go.refl _ _) ok en
theorem ds_break : DS X E (.Break pos) (fun ρ μ => .bk ρ μ) := ps_imp ps_break fun Z σ H ⟨W, ρ, μ, ok, en, p⟩ => p W σ H (Go.refl _ _) ok en
theorem ds_continue : DS X E (.Continue pos) (fun ρ μ => .ct ρ μ) := ps_imp ps_continue fun Z σ H ⟨W, ρ, μ, ok, en, p⟩ => p W σ H (Go.refl _ _) ok en
theorem ds_ret (a : DE X E e f) : DS X E (.Return (some e) pos) (gret f) := ps_imp (ps_ret a) fun Z σ H ⟨W, ρ, μ, ok, en, p⟩ =>
  seqS p ok en fun d μ1 W1 x H1 g1 o1 en1 r p1 => p1 W1 x H1 (Go.refl _ _) o1 r
theorem ds_retN : DS X E (.Return none pos) (fun _ μ => .rt .non μ) := ps_imp ps_retN fun Z σ H ⟨W, ρ, μ, ok, en, p⟩ => p W .non H (Go.refl _ _) ok .non
theorem ds_expr (a : DE X E e f) (hs : swapsWith e none pos.line X.env = pure false := by rfl) : DS X E (.Expr e pos) (gexpr f) := ps_imp (ps_expr a hs) fun Z σ H ⟨W, ρ, μ, ok, en, p⟩ =>
  seqS p ok en fun d μ1 W1 x H1 g1 o1 en1 r p1 => p1 W1 σ H1 (Go.refl _ _) o1 en1
theorem tAsg_of {t : Tg} : ∀ Z σ H, rS X.K E (gasg t f) Z σ H → tAsg (rE X.K E f) (rG X.K t) Z σ H := fun Z σ H ⟨W, ρ, μ, ok, en, p⟩ =>
  seqS p ok en fun d μ1 W1 x H1 g1 o1 en1 r p1 => by
    revert p1
    cases e : asg t d ρ with
    | none => exact fun p => p.elim
    | some ρ' => exact fun p1 => ⟨W1, ρ, ρ', d, μ1, o1, en1, r, e, fun σ' en' _ => p1 W1 σ' H1 (Go.refl _ _) o1 en'⟩
theorem ds_asg {tg : Expr} {t : Tg} (a : DE X E e f) (b : DG X tg t) (hs : swapsWithSole [tg] e pos.line X.env = pure false := by rfl) (hw : swappedStores [tg] e X.env = pure none := by rfl)
    (h1 : (assignEach [tg] X.env).map (·.2) = [assign tg X.env] := by rfl) : DS X E (.Assign [tg] e pos) (gasg t f) := ps_imp (ps_asg a b hs hw h1) tAsg_of
theorem ds_set (i : Nat) {x : Str} {pos' : Pos} (hN : X.N.Nodup) (a : DE X E e f) (hi : X.N[i]? = some x := by rfl) (hx : Loc X.env.scope x := by first | exact .inl rfl | exact .inr rfl) (hs : swapsWith e (some (.Name x pos')) pos.line X.env = pure false := by rfl) (hf : X.fn x = true ∨ X.env.scope.names.lookup x = some .local := by first | exact .inl rfl | exact .inr rfl) :
    DS X E (.Assign [.Name x pos'] e pos) (gasg (.nm i) f) := ps_imp (ps_set hN hi hx a hs hf) fun Z σ H ⟨W, ρ, μ, ok, en, p⟩ =>
  seqS p ok en fun d μ1 W1 v H1 g1 o1 en1 r p1 => by
    rw [asg_nm] at p1
    exact p1 W1 _ H1 (Go.refl _ _) o1 (en1.set r i)
theorem ds_if {c : Expr} {a b : List Stmt} {fc : FT} (hc : DT X E c fc) (ha : DSs X E a g) (hb : DSs X E b h) : DS X E (.If c a b pos) (gif fc g h) := ps_imp (ps_if hc ha hb) fun Z σ H ⟨W, ρ, μ, ok, en, p⟩ =>
  seqST p ok en fun d μ1 W1 H1 g1 o1 en1 p1 => by
    cases d with
    | true => exact ⟨W1, ρ, μ1, o1, en1, p1⟩
    | false => exact ⟨W1, ρ, μ1, o1, en1, p1⟩
end

/-! ### walks -/
structure Walk (K : PySem.W.Frag) (W : Wd) (J : It) (xs : List D) : Prop where
  len : xs.length ≤ sizeLine
  go : ∀ H i, Same W.S H → i < xs.length → J.go i H
  stop : ∀ H i, Same W.S H → xs.length ≤ i → J.stop i H
  yld : ∀ H i x H', Same W.S H → J.yld i H x H' → ∀ d, xs[i]? = some d → ∀ W1 μ, Le W W1 → Ok K W1 H μ → ∃ W2, Go W1 H W2 H' ∧ Ok K W2 H' μ ∧ Rep K W2 x d
def postI (K : PySem.W.Frag) (E : XK) (W : Wd) (H : Hp) (r : R (List D)) (Q : It → Hp → Prop) : Prop := match r with
  | .ok xs μ => ∀ W' J H', Go W H W' H' → Ok K W' H' μ → Walk K W' J xs → Q J H'
  | .ex c fs μ => ∀ W' H' d, Go W H W' H' → Ok K W' H' μ → ExcIs K W' H' fs d → E (.ref c) d H'
  | .bad => False
def rI (K : PySem.W.Frag) (E : XK) (f : FA) : TI := fun σ H Q => ∃ W ρ μ, Ok K W H μ ∧ Envs K W σ ρ ∧ postI K E W H (f ρ μ) Q
abbrev DI (X : Cx) (E : XK) (tg iter : Expr) (f : FA) : Prop := PI X tg iter (rI X.K E f)
theorem pi_imp {X : Cx} {tg e : Expr} {t t' : TI} (h : PI X tg e t) (i : ∀ σ H Q, t' σ H Q → t σ H Q) : PI X tg e t' := ⟨fun pins s σ H Q I q => h.run pins s σ H Q I (i σ H Q q)⟩
theorem Walk.le {K : PySem.W.Frag} {W W' : Wd} {J : It} {xs : List D} (w : Walk K W J xs) (l : Le W W') : Walk K W' J xs :=
  ⟨w.len, fun H i s => w.go H i (l.s.trans s), fun H i s => w.stop H i (l.s.trans s), fun H i x H' s y d e W1 μ l1 ok => w.yld H i x H' (l.s.trans s) y d e W1 μ (l.trans l1) ok⟩

/-! ### for -/
def forD (t : Tg) (b : FS) : List D → En → Mu → O
  | [], ρ, μ => .nx ρ μ
  | x :: xs, ρ, μ => match asg t x ρ with
    | none => .bad
    | some ρ1 => match b ρ1 μ with
      | .nx ρ2 μ2 => forD t b xs ρ2 μ2
      | .ct ρ2 μ2 => forD t b xs ρ2 μ2
      | .bk ρ2 μ2 => .nx ρ2 μ2
      | o => o
def gfor (fi : FA) (t : Tg) (b : FS) : FS := fun ρ μ => (fi ρ μ).to fun xs μ1 => forD t b xs ρ μ1
section
variable {X : Cx} {E : XK} {pos : Pos}
theorem ds_for {tg iter : Expr} {body : List Stmt} {fi : FA} {t : Tg} {b : FS} (hp : PassesOwn (model X.prog X.w) X.A X.env X.xe) (hc : X.calm = true) (hi : DI X E tg iter fi) (hg : DG X tg t) (hb : DSs X E body b)
    (hs : ∀ x, foldedSetIterable iter X.env x = pure x := by intro _; rfl) : DS X E (.For tg iter body [] pos) (gfor fi t b) := by
  refine ps_imp (ps_for hp hc hi hg hb hs) fun Z σ H ⟨W, ρ, μ, ok, en, p⟩ => ?_
  refine ⟨W, ρ, μ, ok, en, ?_⟩
  unfold gfor at p
  revert p
  cases fi ρ μ with
  | ex c fs μ1 => exact fun p => p
  | bad => exact fun p => p
  | ok xs μ1 =>
    rw [R.to_ok]
    intro p W1 J H1 g1 o1 wk
    refine ⟨fun i m σ H => m = xs.length - i ∧ i ≤ xs.length ∧ ∃ W2 ρ μ, Le W1 W2 ∧ Ok X.K W2 H μ ∧ Envs X.K W2 σ ρ ∧ postS X.K E W2 H (forD t b (xs.drop i) ρ μ) Z, ⟨xs.length, by simp, Nat.zero_le _, W1, ρ, μ1, Le.refl _, o1, en.mono g1.le, postS.mono g1 p⟩, ?_⟩
    rintro i m σ2 H2 ⟨rfl, hi, W2, ρ2, μ2, l2, o2, en2, p2⟩
    have s2 : Same W1.S H2 := l2.s.trans o2.sub
    by_cases hlt : i < xs.length
    · rw [List.drop_eq_getElem_cons hlt] at p2
      unfold forD at p2
      refine .inr ⟨wk.go H2 i s2 hlt, fun σ3 H3 => ∃ W3 ρ3 μ3, Le W1 W3 ∧ Ok X.K W3 H3 μ3 ∧ Envs X.K W3 σ3 ρ3 ∧ postS X.K E W3 H3 (forD t b (xs.drop (i + 1)) ρ3 μ3) Z, fun σ3 H3 ⟨W3, ρ3, μ3, l3, o3, en3, p3⟩ => ⟨xs.length - (i + 1), by omega, rfl, hlt, W3, ρ3, μ3, l3, o3, en3, p3⟩, fun x H3 y => ?_⟩
      obtain ⟨W3, g3, o3, r3⟩ := wk.yld H2 i x H3 s2 y xs[i] (List.getElem?_eq_getElem hlt) W2 μ2 l2 o2
      revert p2
      cases e : asg t xs[i] ρ2 with
      | none => exact fun p => p.elim
      | some ρ3 =>
        intro p2
        refine ⟨W3, ρ2, ρ3, xs[i], μ2, o3, en2.mono g3.le, r3, e, fun σ4 en4 _ => ⟨W3, ρ3, μ2, o3, en4, ?_⟩⟩
        have p3 := postS.mono g3 p2
        revert p3
        dsimp only
        cases b ρ3 μ2 with
        | nx ρ5 μ5 => exact fun p W5 σ5 H5 g5 o5 e5 => ⟨W5, ρ5, μ5, (l2.trans g3.le).trans g5.le, o5, e5, postS.mono g5 p⟩
        | ct ρ5 μ5 => exact fun p W5 σ5 H5 g5 o5 e5 => ⟨W5, ρ5, μ5, (l2.trans g3.le).trans g5.le, o5, e5, postS.mono g5 p⟩
        | bk ρ5 μ5 => exact fun p => p
        | rt d μ5 => exact fun p => p
        | ex c fs μ5 => exact fun p => p
        | bad => exact fun p => p
    · have ei : i = xs.length := by omega
      subst ei
      rw [List.drop_length] at p2
      exact .inl ⟨wk.stop H2 _ s2 (Nat.le_refl _), p2 W2 σ2 H2 (Go.refl _ _) o2 en2⟩
end
end DL
/-! DL2: comprehensions, what is walked, displays, cells, calls of defs. -/
namespace DL
open PySem L2

/-! ### comprehensions -/
def wipeD (ρ : En) : List Nat → En
  | [] => ρ
  | v :: vs => (wipeD ρ vs).set v none
theorem Envs.wipe {K : PySem.W.Frag} {W : Wd} {σ : St} {ρ : En} (h : Envs K W σ ρ) : ∀ vs : List Nat, Envs K W (L2.wipe σ vs) (wipeD ρ vs)
  | [] => h
  | v :: vs => (Envs.wipe h vs).unset none v
theorem wipe_out {σ : St} {j : Nat} : ∀ {vs : List Nat}, j ∉ vs → (L2.wipe σ vs)[j]? = σ[j]?
  | [], _ => rfl
  | v :: vs, h => by
    show ((L2.wipe σ vs).set v none)[j]? = _
    rw [List.getElem?_set_ne (fun z => h (by simp [z]))]
    exact wipe_out fun z => h (by simp [z])
theorem wipe_in {σ : St} {j : Nat} : ∀ {vs : List Nat}, j ∈ vs → (L2.wipe σ vs)[j]? = if j < σ.length then some none else none
  | [], h => by cases h
  | v :: vs, h => by
    show ((L2.wipe σ vs).set v none)[j]? = _
    by_cases e : v = j
    · subst e
      rw [List.getElem?_set]
      simp [L2.wipe_length]
    · rw [List.getElem?_set_ne e]
      exact wipe_in (by
        rcases List.mem_cons.mp h with z | z
        · exact absurd z.symm e
        · exact z)
theorem wipe_but {σ σ2 : St} {vs ts : List Nat} (hs : ∀ i ∈ ts, i ∈ vs) (b : But ts (L2.wipe σ vs) σ2) : L2.wipe σ2 vs = L2.wipe σ vs := by
  have hl : σ2.length = σ.length := by rw [b.len, L2.wipe_length]
  apply List.ext_getElem?
  intro j
  by_cases h : j ∈ vs
  · rw [wipe_in h, wipe_in h, hl]
  · rw [wipe_out h, wipe_out h, b.at_ j fun z => h (hs j z), wipe_out h]
abbrev DTs (X : Cx) (ifs : List Expr) (f : FT) : Prop := PTs X ifs (rT X.K E0 f)
theorem pts_imp {X : Cx} {e : List Expr} {t t' : TT} (h : PTs X e t) (i : ∀ σ H Q, t' σ H Q → t σ H Q) : PTs X e t' := ⟨fun pins s σ H Q I q => h.run pins s σ H Q I (i σ H Q q)⟩
def tyes : FT := fun _ μ => .ok true μ
theorem dts_nil {X : Cx} : DTs X [] tyes := pts_imp pts_nil fun σ H Q ⟨W, ρ, μ, ok, en, p⟩ => p W H (Go.refl _ _) ok
theorem dts_one {X : Cx} {c : Expr} {f : FT} (h : DT X E0 c f) : DTs X [c] f := pts_one h
def lcD (t : Tg) (ft : FT) (fe : FE) (ρ : En) : List D → Mu → R (List D)
  | [], μ => .ok [] μ
  | x :: xs, μ => match asg t x ρ with
    | none => .bad
    | some ρ1 => (ft ρ1 μ).nox.bind fun b μ1 => if b = true then (fe ρ1 μ1).nox.bind fun y μ2 => (lcD t ft fe ρ xs μ2).bind fun ys μ3 => .ok (y :: ys) μ3 else lcD t ft fe ρ xs μ1
def dlc (fi : FA) (vs : List Nat) (t : Tg) (ft : FT) (fe : FE) : FE := fun ρ μ => (fi ρ μ).bind fun xs μ1 => (lcD t ft fe (wipeD ρ vs) xs μ1).bind fun ys μ2 => .ok (.lst ys) μ2
/-- an object outside of W changes, or comes -/
theorem Ok.other {K : PySem.W.Frag} {W : Wd} {H : Hp} {μ : Mu} {p : Addr} {o : HO} (ok : Ok K W H μ) (h1 : W.S p = none) (h2 : p ∉ W.io) : Ok K W (upd H p o) μ :=
  ⟨fun a u e => by rw [upd_ne (ne_of_none e h1)]; exact ok.sub a u e, ok.len, ok.nd, ok.apart, fun l a m e1 e2 => (ok.cell l a m e1 e2).mono (Le.refl _) fun u e => by
    rw [upd_ne (fun z => h2 (by rw [← z]; exact List.mem_of_getElem? e1))]
    exact e⟩
theorem Go.other {W W' : Wd} {H H' : Hp} {p : Addr} {o : HO} (g : Go W H W' H') (h : H p = none) : Go W H W' (upd H' p o) :=
  ⟨g.le, fun a u e n => by rw [upd_ne (ne_of_none e h)]; exact g.kept a u e n, fun a e => by
    by_cases z : a = p
    · rw [z]; exact h
    · rw [upd_ne z] at e
      exact g.grow a e, g.newio, g.newS⟩
theorem Go.out {W W' : Wd} {H H' : Hp} {p : Addr} {o : HO} (g : Go W H W' H') (h : H p = some o) (h1 : W.S p = none) (h2 : p ∉ W.io) : H' p = some o ∧ W'.S p = none ∧ p ∉ W'.io := by
  refine ⟨g.kept p o h h2, ?_, fun z => ?_⟩
  · cases e : W'.S p with
    | none => rfl
    | some u =>
      rcases g.newS p u e with z | z | z
      · rw [h1] at z; cases z
      · rw [h] at z; cases z
      · exact absurd z h2
  · rcases g.newio p z with z | z
    · exact h2 z
    · rw [h] at z; cases z
section
variable {X : Cx} {E : XK} {pos : Pos}
theorem tLc_of {fi : FA} {vs : List Nat} {t : Tg} {ft : FT} {fe : FE} (hsub : ∀ i ∈ t.slots, i ∈ vs) : ∀ σ H Q, rE X.K E (dlc fi vs t ft fe) σ H Q → tLc (rI X.K E fi) (rG X.K t) (rT X.K E0 ft) (rE X.K E0 fe) vs σ H Q := fun σ H Q ⟨W, ρ, μ, ok, en, p⟩ => by
  refine ⟨W, ρ, μ, ok, en, ?_⟩
  unfold dlc at p
  revert p
  cases fi ρ μ with
  | ex c fs μ1 => exact fun p => p
  | bad => exact fun p => p
  | ok xs μ1 =>
    rw [R.bind_ok]
    intro p W1 J H1 g1 o1 wk Dn hD
    have hz := wk.len
    have en1 := (en.mono g1.le).wipe vs
    refine ⟨fun i m H2 => m = xs.length - i ∧ i ≤ xs.length ∧ ∃ W2 μ2 acc ds, Go W1 H1 W2 H2 ∧ Ok X.K W2 H2 μ2 ∧ H2 Dn = some (.lst acc) ∧ Dn ∉ W2.io ∧ W2.S Dn = none ∧ Reps X.K W2 acc ds ∧ acc.length ≤ i ∧ postE X.K E W1 H1 ((lcD t ft fe (wipeD ρ vs) (xs.drop i) μ2).bind fun ys μ3 => .ok (.lst (ds ++ ys)) μ3) Q,
      ⟨xs.length, by simp, Nat.zero_le _, W1, μ1, [], [], (Go.refl _ _).other hD, o1.other (o1.snone hD) (o1.notio hD), upd_same, o1.notio hD, o1.snone hD, .nil, Nat.le_refl _, ?_⟩, ?_⟩
    · exact post.mono g1 p
    rintro i m H2 ⟨rfl, hi, W2, μ2, acc, ds, g2, o2, hacc, n2, s2, r2, l2, p2⟩
    have sm : Same W1.S H2 := g2.le.s.trans o2.sub
    by_cases hlt : i < xs.length
    · rw [List.drop_eq_getElem_cons hlt] at p2
      unfold lcD at p2
      refine .inr ⟨wk.go H2 i sm hlt, fun H3 => ∃ W3 μ3 acc ds, Go W1 H1 W3 H3 ∧ Ok X.K W3 H3 μ3 ∧ H3 Dn = some (.lst acc) ∧ Dn ∉ W3.io ∧ W3.S Dn = none ∧ Reps X.K W3 acc ds ∧ acc.length ≤ i + 1 ∧ postE X.K E W1 H1 ((lcD t ft fe (wipeD ρ vs) (xs.drop (i + 1)) μ3).bind fun ys μ3 => .ok (.lst (ds ++ ys)) μ3) Q,
        fun H3 ⟨W3, μ3, acc, ds, q⟩ => ⟨xs.length - (i + 1), by omega, rfl, hlt, W3, μ3, acc, ds, q⟩, fun x H3 y => ?_⟩
      obtain ⟨W3, g3, o3, r3⟩ := wk.yld H2 i x H3 sm y xs[i] (List.getElem?_eq_getElem hlt) W2 μ2 g2.le o2
      obtain ⟨a3, s3, n3⟩ := g3.out hacc s2 n2
      revert p2
      cases e : asg t xs[i] (wipeD ρ vs) with
      | none => exact fun p => p.elim
      | some ρ3 =>
        dsimp only
        intro p2
        refine ⟨W3, wipeD ρ vs, ρ3, xs[i], μ2, o3, en1.mono (g2.le.trans g3.le), r3, e, fun σ4 en4 b4 => ⟨wipe_but hsub b4, ?_⟩⟩
        refine ⟨W3, ρ3, μ2, o3, en4, ?_⟩
        revert p2
        cases ft ρ3 μ2 with
        | ex c fs μ4 => exact fun p => p.elim
        | bad => exact fun p => p.elim
        | ok b μ4 =>
          rw [R.nox_ok, R.bind_ok]
          intro p2 W4 H4 g4 o4
          obtain ⟨a4, s4, n4⟩ := g4.out a3 s3 n3
          cases b with
          | false =>
            rw [if_neg Bool.false_ne_true] at p2 ⊢
            exact ⟨W4, μ4, acc, ds, (g2.trans g3).trans g4, o4, a4, n4, s4, r2.mono (g3.le.trans g4.le), by omega, p2⟩
          | true =>
            rw [if_pos rfl] at p2 ⊢
            refine ⟨W4, ρ3, μ4, o4, en4.mono g4.le, ?_⟩
            revert p2
            cases fe ρ3 μ4 with
            | ex c fs μ5 => exact fun p => p.elim
            | bad => exact fun p => p.elim
            | ok yd μ5 =>
              rw [R.nox_ok, R.bind_ok]
              intro p2 W5 yv H5 g5 o5 r5
              obtain ⟨a5, s5, n5⟩ := g5.out a4 s4 n4
              refine ⟨acc, a5, by omega, W5, μ5, acc ++ [yv], ds ++ [yd], (((g2.trans g3).trans g4).trans g5).other hD, o5.other s5 n5, upd_same, n5, s5, (r2.mono ((g3.le.trans g4.le).trans g5.le)).app (.cons r5 .nil), by simp; omega, ?_⟩
              revert p2
              cases lcD t ft fe (wipeD ρ vs) (xs.drop (i + 1)) μ5 with
              | ex c fs μ6 => exact fun p => p
              | bad => exact fun p => p
              | ok ys μ6 =>
                rw [R.bind_ok, R.bind_ok, R.bind_ok, List.append_assoc]
                exact fun p => p
    · have ei : i = xs.length := by omega
      subst ei
      rw [List.drop_length] at p2
      unfold lcD at p2
      rw [R.bind_ok, List.append_nil] at p2
      refine .inl ⟨wk.stop H2 _ sm (Nat.le_refl _), ?_⟩
      have lD : Le W2 (W2.new Dn (.lst acc)) := ⟨same_new s2, List.prefix_refl _⟩
      refine p2 (W2.new Dn (.lst acc)) (.ref Dn) H2 ⟨g2.le.trans lD, g2.kept, g2.grow, g2.newio, fun a u e => ?_⟩ ?_ ?_
      · by_cases z : a = Dn
        · rw [z]; exact .inr (.inl hD)
        · exact g2.newS a u (by rw [← e]; exact (upd_ne z).symm)
      · refine ⟨fun a u e => ?_, o2.len, o2.nd, fun l a m e1 e2 n => ?_, fun l a m e1 e2 => (o2.cell l a m e1 e2).mono lD fun u e => e⟩
        · by_cases z : a = Dn
          · have e : upd W2.S Dn (.lst acc) a = some u := e
            rw [z, upd_same] at e
            rw [z, hacc, e]
          · have e : upd W2.S Dn (.lst acc) a = some u := e
            rw [upd_ne z] at e
            exact o2.sub a u e
        · show upd W2.S Dn (.lst acc) a = none
          have z : a ≠ Dn := fun z => n2 (by rw [← z]; exact List.mem_of_getElem? e1)
          rw [upd_ne z]
          exact o2.apart l a m e1 e2 n
      · refine .lst ?_ (.inl (.inl (show upd W2.S Dn (.lst acc) Dn = _ from upd_same))) (r2.mono lD)
        rw [← r2.length]
        omega
theorem de_lc {elt tg iter : Expr} {ifs : List Expr} {scope : Scope} {fi : FA} {t : Tg} {ft : FT} {fe : FE} (own : List (Str × Nat)) (hc : X.calm = true) (hN : X.N.Nodup) (hi : DI X E tg iter fi) (ok : BlkOk X.N X.env.scope scope own)
    (hg : ∀ (s : Shared) (H : Hp) (C : Addr) (cl : List (Str × Addr)) (fp : List Addr), DG (X.blk s H scope (compEnvC scope cl C X.env) fp) tg t) (ht : ∀ (s : Shared) (H : Hp) (C : Addr) (cl : List (Str × Addr)) (fp : List Addr), DTs (X.blk s H scope (compEnvC scope cl C X.env) fp) ifs ft)
    (he : ∀ (s : Shared) (H : Hp) (C : Addr) (cl : List (Str × Addr)) (fp : List Addr), DE (X.blk s H scope (compEnvC scope cl C X.env) fp) E0 elt fe) (hsub : ∀ i ∈ t.slots, i ∈ own.map (·.2) := by decide) (hs : ∀ x, foldedSetIterable iter X.env x = pure x := by intro _; rfl) :
    DE X E (.ListComp elt [⟨tg, iter, ifs, 0⟩] scope pos) (dlc fi (own.map (·.2)) t ft fe) := pe_imp (pe_lc (te := rE X.K E0 fe) (g := rG X.K t) (tt := rT X.K E0 ft) hc hN hi ok hg ht he hs) (tLc_of hsub)
theorem ds_setLc (i : Nat) {y : Str} {py spos : Pos} {elt tg iter : Expr} {ifs : List Expr} {scope : Scope} {fi : FA} {t : Tg} {ft : FT} {fe : FE} (own : List (Str × Nat)) (hc : X.calm = true) (hN : X.N.Nodup) (hi : DI X E tg iter fi) (ok : BlkOk X.N X.env.scope scope own)
    (hg : ∀ (s : Shared) (H : Hp) (C : Addr) (cl : List (Str × Addr)) (fp : List Addr), DG (X.blk s H scope (compEnvC scope cl C X.env) fp) tg t) (ht : ∀ (s : Shared) (H : Hp) (C : Addr) (cl : List (Str × Addr)) (fp : List Addr), DTs (X.blk s H scope (compEnvC scope cl C X.env) fp) ifs ft)
    (he : ∀ (s : Shared) (H : Hp) (C : Addr) (cl : List (Str × Addr)) (fp : List Addr), DE (X.blk s H scope (compEnvC scope cl C X.env) fp) E0 elt fe) (hsub : ∀ i ∈ t.slots, i ∈ own.map (·.2) := by decide) (hy : X.N[i]? = some y := by rfl) (hyl : X.env.scope.names.lookup y = some .local := by rfl)
    (hsw : swapsWith (.ListComp elt [⟨tg, iter, ifs, 0⟩] scope pos) (some (.Name y py)) spos.line X.env = pure true := by exact sw_true rfl rfl rfl (by decide +kernel)) (hs : ∀ x, foldedSetIterable iter X.env x = pure x := by intro _; rfl) :
    DS X E (.Assign [.Name y py] (.ListComp elt [⟨tg, iter, ifs, 0⟩] scope pos) spos) (gasg (.nm i) (dlc fi (own.map (·.2)) t ft fe)) := by
  refine ps_imp (ps_setLc (te := rE X.K E0 fe) (g := rG X.K t) (tt := rT X.K E0 ft) hc hN hy hyl hsw hi ok hg ht he hs) fun Z σ H ⟨W, ρ, μ, ok, en, p⟩ => ?_
  refine tLc_of (X := X) (E := E) hsub σ H _ (seqS p ok en fun d μ1 W1 v H1 g1 o1 en1 r p1 => ?_)
  rw [asg_nm] at p1
  exact p1 W1 _ H1 (Go.refl _ _) o1 (en1.set r i)
end

/-! ### what is walked -/
section
variable {K : PySem.W.Frag} {W : Wd} {a : Addr} {vs : List V} {ds : List D}
theorem walk_list (z : ds.length ≤ sizeLine) (h : SqL K W.S a vs) (r : Reps K W vs ds) : Walk K W (Itl K a) ds := by
  have hl := r.length
  refine ⟨z, fun H i s hi => ?_, fun H i s hi => ⟨vs, same_l s h, by omega⟩, fun H i x H' s y d e W1 μ l1 ok => ?_⟩
  · obtain ⟨v, e, _⟩ := r.get (List.getElem?_eq_getElem hi)
    exact ⟨vs, v, same_l s h, e⟩
  · obtain ⟨rfl, q⟩ := y
    obtain ⟨v, e1, r1⟩ := r.get e
    have e2 := q vs (same_l s h)
    rw [e1] at e2
    cases e2
    exact ⟨W1, Go.refl _ _, ok, r1.mono l1⟩
theorem walk_tup (z : ds.length ≤ sizeLine) (h : SqT K W.S a vs) (r : Reps K W vs ds) : Walk K W (Itt K a) ds := by
  have hl := r.length
  refine ⟨z, fun H i s hi => ?_, fun H i s hi => ⟨vs, same_t s h, by omega⟩, fun H i x H' s y d e W1 μ l1 ok => ?_⟩
  · obtain ⟨v, e, _⟩ := r.get (List.getElem?_eq_getElem hi)
    exact ⟨vs, v, same_t s h, e⟩
  · obtain ⟨rfl, q⟩ := y
    obtain ⟨v, e1, r1⟩ := r.get e
    have e2 := q vs (same_t s h)
    rw [e1] at e2
    cases e2
    exact ⟨W1, Go.refl _ _, ok, r1.mono l1⟩
/-- the signs of a text -/
def signs (x : Str) : List D := x.cps.toList.map fun c => .str ⟨#[c]⟩
theorem walk_str (x : Str) (z : x.length ≤ sizeLine) : Walk K W (Its x) (signs x) := by
  have hz : (signs x).length = x.cps.size := by simp [signs]
  refine ⟨by rw [hz]; exact z, fun H i s hi => by rw [hz] at hi; exact hi, fun H i s hi => by rw [hz] at hi; exact hi, fun H i v H' s y d e W1 μ l1 ok => ?_⟩
  obtain ⟨rfl, c, hc, rfl⟩ := y
  have e2 : (signs x)[i]? = some (.str ⟨#[c]⟩) := by
    unfold signs
    rw [List.getElem?_map, Array.getElem?_toList, hc]
    rfl
  rw [e2] at e
  cases e
  exact ⟨W1, Go.refl _ _, ok, .str _ (by show 1 ≤ sizeLine; decide)⟩
/-- numbers from lo on -/
def upto (lo : Int) : Nat → List D
  | 0 => []
  | n + 1 => .int lo :: upto (lo + 1) n
theorem upto_len : ∀ (lo : Int) (n : Nat), (upto lo n).length = n
  | _, 0 => rfl
  | lo, n + 1 => by rw [upto, List.length_cons, upto_len]
theorem upto_get : ∀ (lo : Int) (n i : Nat), i < n → (upto lo n)[i]? = some (.int (lo + i))
  | _, 0, _, h => by omega
  | lo, n + 1, 0, _ => by simp [upto]
  | lo, n + 1, i + 1, h => by
    rw [upto, List.getElem?_cons_succ, upto_get (lo + 1) n i (by omega)]
    congr 2
    omega
theorem walk_range (lo : Int) (n : Nat) (z : n ≤ sizeLine) : Walk K W (Itr lo n) (upto lo n) := by
  refine ⟨by rw [upto_len]; exact z, fun H i s hi => by rw [upto_len] at hi; exact hi, fun H i s hi => by rw [upto_len] at hi; exact hi, fun H i v H' s y d e W1 μ l1 ok => ?_⟩
  obtain ⟨rfl, rfl⟩ := y
  have hi : i < n := by
    have := (List.getElem?_eq_some_iff.mp e).1
    rw [upto_len] at this
    exact this
  rw [upto_get lo n i hi] at e
  cases e
  exact ⟨W1, Go.refl _ _, ok, .int _⟩
/-- numbered -/
def enumD (k : Int) : List D → List D
  | [] => []
  | x :: xs => .tup [.int k, x] :: enumD (k + 1) xs
theorem enumD_len : ∀ (k : Int) (xs : List D), (enumD k xs).length = xs.length
  | _, [] => rfl
  | k, x :: xs => by rw [enumD, List.length_cons, List.length_cons, enumD_len]
theorem enumD_get : ∀ (k : Int) (xs : List D) (i : Nat) (x : D), xs[i]? = some x → (enumD k xs)[i]? = some (.tup [.int (k + i), x])
  | _, [], _, _, h => by simp at h
  | k, y :: ys, 0, x, h => by
    simp at h
    subst h
    simp [enumD]
  | k, y :: ys, i + 1, x, h => by
    rw [enumD, List.getElem?_cons_succ, enumD_get (k + 1) ys i x (by simpa using h)]
    congr 4
    omega
theorem walk_enum (z : ds.length ≤ sizeLine) (h : SqL K W.S a vs) (r : Reps K W vs ds) : Walk K W (Ite K a) (enumD 0 ds) := by
  have hl := r.length
  refine ⟨by rw [enumD_len]; exact z, fun H i s hi => ?_, fun H i s hi => ⟨vs, same_l s h, by rw [enumD_len] at hi; omega⟩, fun H i x H' s y d e W1 μ l1 ok => ?_⟩
  · rw [enumD_len] at hi
    obtain ⟨v, e, _⟩ := r.get (List.getElem?_eq_getElem hi)
    exact ⟨vs, v, same_l s h, e⟩
  · obtain ⟨T, xv, rfl, hT, rfl, q⟩ := y
    have e2 := q vs (same_l s h)
    obtain ⟨xd, e3, r3⟩ := r.getV e2
    rw [enumD_get 0 ds i xd e3] at e
    cases e
    refine ⟨W1.new T (.tup [.int i, xv]), Go.new ok hT, ok.new hT, rep_tup ok hT (by show 2 ≤ sizeLine; decide) (.cons ?_ (.cons (r3.mono l1) .nil))⟩
    have : (0 : Int) + i = i := by omega
    rw [this]
    exact .int _
end
/-- the items of what is walked -/
def itemsD : D → Option (List D)
  | .lst xs => some xs
  | .tup xs => some xs
  | .str x => some (signs x)
  | _ => none
def itA (f : FE) : FA := fun ρ μ => (f ρ μ).bind fun d μ1 => R.of (itemsD d) μ1
def itR1 (f : FA) : FA := fun ρ μ => (f ρ μ).bind fun ds μ1 => match ds with
  | [.int n] => if n ≤ 1000000 ∧ -1000000 ≤ n then .ok (upto 0 n.toNat) μ1 else .bad
  | _ => .bad
def itR2 (f : FA) : FA := fun ρ μ => (f ρ μ).bind fun ds μ1 => match ds with
  | [.int m, .int n] => if n ≤ 1000000 ∧ -1000000 ≤ m ∧ m ≤ 1000000 ∧ -1000000 ≤ n then .ok (upto m (n - m).toNat) μ1 else .bad
  | _ => .bad
def itE (f : FA) : FA := fun ρ μ => (f ρ μ).bind fun ds μ1 => match ds with
  | [.lst xs] => .ok (enumD 0 xs) μ1
  | _ => .bad
theorem pi_or {X : Cx} {tg e : Expr} {t u : TI} (h : PI X tg e t) (h' : PI X tg e u) : PI X tg e (fun σ H Q => t σ H Q ∨ u σ H Q) := ⟨fun pins s σ H Q I q => by
  rcases q with q | q
  · exact h.run pins s σ H Q I q
  · exact h'.run pins s σ H Q I q⟩
section
variable {X : Cx} {E : XK} {tg e : Expr} {f : FE} {pos p : Pos}
theorem di_any (h : DE X E e f) : DI X E tg e (itA f) := by
  refine pi_imp (pi_or (pi_list h) (pi_or (pi_tup h) (pi_str h))) fun σ H Q ⟨W, ρ, μ, ok, en, p⟩ => ?_
  unfold itA at p
  revert p
  cases hf : f ρ μ with
  | ex c fs μ1 =>
    intro p
    refine .inl ⟨W, ρ, μ, ok, en, ?_⟩
    rw [hf]
    exact p
  | bad => exact fun p => p.elim
  | ok d μ1 =>
    rw [R.bind_ok]
    cases d with
    | lst xs =>
      intro p
      refine .inl ⟨W, ρ, μ, ok, en, ?_⟩
      rw [hf]
      intro W1 v H1 g1 o1 r
      cases r with
      | lst z h r => exact ⟨_, rfl, ⟨_, (same_lq o1.sub h).sq⟩, p W1 _ H1 g1 o1 (walk_list z h.sq r)⟩
    | tup xs =>
      intro p
      refine .inr (.inl ⟨W, ρ, μ, ok, en, ?_⟩)
      rw [hf]
      intro W1 v H1 g1 o1 r
      cases r with
      | tup z h r => exact ⟨_, rfl, ⟨_, same_t o1.sub h⟩, p W1 _ H1 g1 o1 (walk_tup z h r)⟩
    | str x =>
      intro p
      refine .inr (.inr ⟨W, ρ, μ, ok, en, ?_⟩)
      rw [hf]
      intro W1 v H1 g1 o1 r
      cases r with
      | str _ z => exact ⟨_, rfl, p W1 _ H1 g1 o1 (walk_str x z)⟩
    | _ => exact fun p => p.elim
theorem di_range1 {fa : FA} (hm : X.mg "range" = none) (ha : DA X E [e] fa) (hg : Gl X "range" := by rfl) (hs : starEach [e] X.env = [(false, eval e X.env)] := by rfl) : DI X E tg (.Call (.Name "range" p) [e] [] pos) (itR1 fa) := by
  refine pi_imp (pi_range1 hg hm ha hs) fun σ H Q ⟨W, ρ, μ, ok, en, p⟩ => ?_
  refine ⟨W, ρ, μ, ok, en, ?_⟩
  unfold itR1 at p
  revert p
  cases fa ρ μ with
  | ex c fs μ1 => exact fun p => p
  | bad => exact fun p => p.elim
  | ok ds μ1 =>
    rw [R.bind_ok]
    intro p W1 vs H1 g1 o1 r
    match ds, r, p with
    | [.int n], .cons r .nil, p =>
      cases r
      dsimp only at p
      by_cases hn : n ≤ 1000000 ∧ -1000000 ≤ n
      · rw [if_pos hn] at p
        exact ⟨n, rfl, by omega, by omega, p W1 _ H1 g1 o1 (walk_range 0 n.toNat (by show n.toNat ≤ 16777216; omega))⟩
      · rw [if_neg hn] at p
        exact p.elim
theorem di_range2 {e2 : Expr} {fa : FA} (hm : X.mg "range" = none) (ha : DA X E [e, e2] fa) (hg : Gl X "range" := by rfl) (hs : starEach [e, e2] X.env = [(false, eval e X.env), (false, eval e2 X.env)] := by rfl) (hs2 : starEach [e2] X.env = [(false, eval e2 X.env)] := by rfl) : DI X E tg (.Call (.Name "range" p) [e, e2] [] pos) (itR2 fa) := by
  refine pi_imp (pi_range2 hg hm ha hs hs2) fun σ H Q ⟨W, ρ, μ, ok, en, p⟩ => ?_
  refine ⟨W, ρ, μ, ok, en, ?_⟩
  unfold itR2 at p
  revert p
  cases fa ρ μ with
  | ex c fs μ1 => exact fun p => p
  | bad => exact fun p => p.elim
  | ok ds μ1 =>
    rw [R.bind_ok]
    intro p W1 vs H1 g1 o1 r
    match ds, r, p with
    | [.int m, .int n], .cons r (.cons r' .nil), p =>
      cases r
      cases r'
      dsimp only at p
      by_cases hn : n ≤ 1000000 ∧ -1000000 ≤ m ∧ m ≤ 1000000 ∧ -1000000 ≤ n
      · rw [if_pos hn] at p
        exact ⟨m, n, rfl, ⟨by omega, by omega, by omega, by omega⟩, p W1 _ H1 g1 o1 (walk_range m (n - m).toNat (by show (n - m).toNat ≤ 16777216; omega))⟩
      · rw [if_neg hn] at p
        exact p.elim
theorem di_enum {fa : FA} {tpos : Pos} {elts : List Expr} {kk : Nat} (hm : X.mg "enumerate" = none) (ha : DA X E [e] fa) (hg : Gl X "enumerate" := by rfl) (hs : starEach [e] X.env = [(false, eval e X.env)] := by rfl) : DI X E (.Tuple elts kk tpos) (.Call (.Name "enumerate" p) [e] [] pos) (itE fa) := by
  refine pi_imp (pi_enum hg hm ha hs) fun σ H Q ⟨W, ρ, μ, ok, en, p⟩ => ?_
  refine ⟨W, ρ, μ, ok, en, ?_⟩
  unfold itE at p
  revert p
  cases fa ρ μ with
  | ex c fs μ1 => exact fun p => p
  | bad => exact fun p => p.elim
  | ok ds μ1 =>
    rw [R.bind_ok]
    intro p W1 vs H1 g1 o1 r
    match ds, r, p with
    | [.lst xs], .cons r .nil, p =>
      cases r with
      | lst z h r => exact ⟨_, _, rfl, (same_lq o1.sub h).sq, p W1 _ H1 g1 o1 (walk_enum z h.sq r)⟩
end

/-! ### displays -/
def dtup (f : FA) : FE := fun ρ μ => (f ρ μ).bind fun ds μ1 => if ds.length ≤ 1000000 then .ok (.tup ds) μ1 else .bad
def dlst (f : FA) : FE := fun ρ μ => (f ρ μ).bind fun ds μ1 => if ds.length ≤ 1000000 then .ok (.lst ds) μ1 else .bad
/-- a list that is changed later: a cell -/
def dcel (f : FA) : FE := fun ρ μ => (f ρ μ).bind fun ds μ1 => if ds.length ≤ 1000000 then .ok (.hdl μ1.length) (μ1 ++ [.lst ds]) else .bad
/-- a cell's list that never changes any more -/
def dfrz (f : FE) : FE := fun ρ μ => (f ρ μ).bind fun d μ1 => match d with
  | .hdl l => match μ1[l]? with
    | some (.lst xs) => if xs.length ≤ 1000000 then .ok (.lst xs) (μ1.set l .gone) else .bad
    | _ => .bad
  | _ => .bad
section
variable {X : Cx} {E : XK} {e : Expr} {es : List Expr} {f : FE} {fa : FA} {pos : Pos}
theorem le_line {n : Nat} (h : n ≤ 1000000) : n ≤ sizeLine := Nat.le_trans h (by decide)
theorem de_tup {x1 : Nat} (h : DA X E es fa) : DE X E (.Tuple es x1 pos) (dtup fa) := pe_imp (pe_tup h) fun σ H Q ⟨W, ρ, μ, ok, en, p⟩ => by
  refine seqA p ok en fun ds μ1 W1 xs H1 g1 o1 en1 r p1 => ?_
  by_cases hn : ds.length ≤ 1000000
  · rw [if_pos hn] at p1
    exact ⟨by rw [r.length]; exact le_line hn, fun q hq => p1 _ _ _ (Go.new o1 hq) (o1.new hq) (rep_tup o1 hq (le_line hn) r)⟩
  · rw [if_neg hn] at p1
    exact p1.elim
theorem de_lst (h : DA X E es fa) : DE X E (.List es pos) (dlst fa) := pe_imp (pe_lst h) fun σ H Q ⟨W, ρ, μ, ok, en, p⟩ => by
  refine seqA p ok en fun ds μ1 W1 xs H1 g1 o1 en1 r p1 => ?_
  by_cases hn : ds.length ≤ 1000000
  · rw [if_pos hn] at p1
    exact ⟨by rw [r.length]; exact le_line hn, fun q hq => p1 _ _ _ (Go.new o1 hq) (o1.new hq) (rep_lst o1 hq (le_line hn) r)⟩
  · rw [if_neg hn] at p1
    exact p1.elim
theorem de_cel (h : DA X E es fa) : DE X E (.List es pos) (dcel fa) := pe_imp (pe_lst h) fun σ H Q ⟨W, ρ, μ, ok, en, p⟩ => by
  refine seqA p ok en fun ds μ1 W1 xs H1 g1 o1 en1 r p1 => ?_
  by_cases hn : ds.length ≤ 1000000
  · rw [if_pos hn] at p1
    refine ⟨by rw [r.length]; exact le_line hn, fun q hq => p1 (W1.cell q) _ _ (Go.cell o1 hq) (o1.newcell hq ⟨xs, rfl, r⟩) (.hdl ?_)⟩
    show (W1.io ++ [q])[μ1.length]? = some q
    rw [← o1.len]
    simp
  · rw [if_neg hn] at p1
    exact p1.elim
theorem de_frz (h : DE X E e f) : DE X E e (dfrz f) := pe_imp h fun σ H Q ⟨W, ρ, μ, ok, en, p⟩ => by
  refine seq p ok en fun d μ1 W1 v H1 g1 o1 en1 r p1 => ?_
  cases d with
  | hdl l =>
    cases r with
    | @hdl a _ ha =>
      revert p1
      dsimp only
      cases hm : μ1[l]? with
      | none => exact fun p => p.elim
      | some m =>
        cases m with
        | lst xs =>
          by_cases hn : xs.length ≤ 1000000
          · dsimp only
            rw [if_pos hn]
            intro p1
            obtain ⟨o, ho, vs, rfl, rs⟩ := o1.cell l a _ ha hm
            obtain ⟨ok2, g2⟩ := o1.freeze ha hm (fun z => nomatch z) ho
            exact p1 _ _ _ g2 ok2 (.lst (le_line hn) (.inl (.inl (show upd W1.S a (.lst vs) a = _ from upd_same))) (rs.mono g2.le))
          · dsimp only
            rw [if_neg hn]
            exact fun p => p.elim
        | _ => exact fun p => p.elim
  | _ => exact p1.elim
end
end DL
/-! DL3: defs and their calls. -/
namespace DL
open PySem L2

/-! ### no handle from n on -/
mutual
def D.closed (n : Nat) : D → Bool
  | .hdl l => decide (l < n)
  | .tup xs => D.closedL n xs
  | .lst xs => D.closedL n xs
  | .obj _ fs => D.closedF n fs
  | _ => true
def D.closedL (n : Nat) : List D → Bool
  | [] => true
  | x :: xs => x.closed n && D.closedL n xs
def D.closedF (n : Nat) : List (Str × D) → Bool
  | [] => true
  | (_, x) :: xs => x.closed n && D.closedF n xs
end
theorem closedF_zip {n : Nat} : ∀ {ns : List Str} {ds : List D}, D.closedF n (ns.zip ds) = true → ns.length = ds.length → D.closedL n ds = true
  | [], [], _, _ => by simp [D.closedL]
  | [], _ :: _, _, e => by cases e
  | _ :: _, [], _, e => by cases e
  | m :: ns, d :: ds, h, e => by
    simp [D.closedF, D.closedL] at h ⊢
    exact ⟨h.1, closedF_zip h.2 (by simpa using e)⟩
def MO.closed (n : Nat) : MO → Bool
  | .lst xs => D.closedL n xs
  | .dct _ xs => D.closedL n xs
  | .dtt _ xs => D.closedL n xs
  | .ins _ _ xs => D.closedL n xs
  | .gone => true
theorem take_get {l : List Addr} {n i : Nat} {a : Addr} (h : l[i]? = some a) (hi : i < n) : (l.take n)[i]? = some a := by
  rw [List.getElem?_take_of_lt hi]
  exact h
mutual
theorem Rep.cut {K : PySem.W.Frag} {W : Wd} {n : Nat} : ∀ {v : V} {d : D}, d.closed n = true → Rep K W v d → Rep K ⟨W.S, W.io.take n⟩ v d
  | _, _, _, .non => .non
  | _, _, _, .bl b => .bl b
  | _, _, _, .int i => .int i
  | _, _, _, .str x z => .str x z
  | _, _, c, .tup z h r => .tup z h (Reps.cut (by simpa [D.closed] using c) r)
  | _, _, c, .lst z h r => .lst z h (Reps.cut (by simpa [D.closed] using c) r)
  | _, _, c, .hdl h => .hdl (take_get h (by simpa [D.closed] using c))
  | _, _, _, .cst v => .cst v
  | _, _, c, .obj h e r => .obj h e (Reps.cut (closedF_zip (by simpa [D.closed] using c) (e.trans r.length)) r)
theorem Reps.cut {K : PySem.W.Frag} {W : Wd} {n : Nat} : ∀ {vs : List V} {ds : List D}, D.closedL n ds = true → Reps K W vs ds → Reps K ⟨W.S, W.io.take n⟩ vs ds
  | _, _, _, .nil => .nil
  | _, _, c, .cons r t => by
    simp [D.closedL] at c
    exact .cons (Rep.cut c.1 r) (Reps.cut c.2 t)
end
theorem CellO.cut {K : PySem.W.Frag} {W : Wd} {n : Nat} : ∀ {m : MO} {o : HO}, m.closed n = true → CellO K W m o → CellO K ⟨W.S, W.io.take n⟩ m o
  | .lst ds, _, c, ⟨vs, e, r⟩ => ⟨vs, e, r.cut c⟩
  | .dct ks ds, _, c, ⟨vs, e, z, r⟩ => ⟨vs, e, z, r.cut c⟩
  | .dtt ks ds, _, c, ⟨vs, e, z, r⟩ => ⟨vs, e, z, r.cut c⟩
  | .ins C ns ds, _, c, ⟨dx, vs, e, z, r⟩ => ⟨dx, vs, e, z, r.cut c⟩
  | .gone, _, _, _ => trivial
def closedMu (n : Nat) (μ : Mu) : Bool := (μ.take n).all (·.closed n)
/-- a def's answer: its own cells are forgotten where nothing points there -/
def trunc (n : Nat) (d : D) (μ : Mu) : R D := if (d.closed n && closedMu n μ) = true then .ok d (μ.take n) else .ok d μ
def truncX (n : Nat) (c : Addr) (fs : List (Str × D)) (μ : Mu) : R D := if (D.closedF n fs && closedMu n μ) = true then .ex c fs (μ.take n) else .ex c fs μ
theorem Ok.cut {K : PySem.W.Frag} {W : Wd} {H : Hp} {μ : Mu} {n : Nat} (ok : Ok K W H μ) (c : closedMu n μ = true) : Ok K ⟨W.S, W.io.take n⟩ H (μ.take n) := by
  have get : ∀ (l : Nat) a m, (W.io.take n)[l]? = some a → (μ.take n)[l]? = some m → l < n ∧ W.io[l]? = some a ∧ μ[l]? = some m := fun l a m e1 e2 => by
    have hl : l < n := by
      have := (List.getElem?_eq_some_iff.mp e1).1
      rw [List.length_take] at this
      omega
    rw [List.getElem?_take_of_lt hl] at e1 e2
    exact ⟨hl, e1, e2⟩
  refine ⟨ok.sub, by simp [ok.len], ok.nd.sublist (List.take_sublist _ _), fun l a m e1 e2 z => ?_, fun l a m e1 e2 => ?_⟩
  · obtain ⟨_, e1, e2⟩ := get l a m e1 e2
    exact ok.apart l a m e1 e2 z
  · have hm : m.closed n = true := by
      unfold closedMu at c
      exact List.all_eq_true.mp c m (List.mem_of_getElem? e2)
    obtain ⟨_, e1, e2⟩ := get l a m e1 e2
    obtain ⟨o, ho, r⟩ := ok.cell l a m e1 e2
    exact ⟨o, ho, r.cut hm⟩
theorem Go.cut {W W' : Wd} {H H' : Hp} (g : Go W H W' H') : Go W H ⟨W'.S, W'.io.take W.io.length⟩ H' := by
  have e : W'.io.take W.io.length = W.io := by
    obtain ⟨t, ht⟩ := g.le.io
    rw [← ht]
    simp
  refine ⟨⟨g.le.s, by rw [e]; exact List.prefix_refl _⟩, g.kept, g.grow, fun a h => ?_, g.newS⟩
  have h : a ∈ W'.io.take W.io.length := h
  rw [e] at h
  exact .inl h
theorem ExcIs.cut {K : PySem.W.Frag} {W : Wd} {H : Hp} {n : Nat} {fs : List (Str × D)} {d : Option Addr} (c : D.closedF n fs = true) (x : ExcIs K W H fs d) : ExcIs K ⟨W.S, W.io.take n⟩ H fs d := by
  rcases x with x | ⟨a, ns, vs, ds, h1, h2, h3, h4, h5, h6, h7⟩
  · exact .inl x
  · subst h3
    exact .inr ⟨a, ns, vs, ds, h1, h2, rfl, h4, h5.cut (closedF_zip c (h4.trans h5.length)), h6, fun z => h7 (List.mem_of_mem_take z)⟩

/-! ### a def's answer by its body -/
def startD (n : Nat) (ds : List D) : En := ds.map some ++ List.replicate (n - ds.length) none
def callF (n : Nat) (g : FS) (ds : List D) (μ : Mu) : R D := match g (startD n ds) μ with
  | .rt d μ1 => trunc μ.length d μ1
  | .nx _ μ1 => trunc μ.length .non μ1
  | .ex c fs μ1 => truncX μ.length c fs μ1
  | _ => .bad
theorem envs_start {K : PySem.W.Frag} {W : Wd} {N : List Str} {vs : List V} {ds : List D} (r : Reps K W vs ds) : Envs K W (start N vs) (startD N.length ds) := by
  have hl := r.length
  unfold L2.start startD
  refine ⟨by simp [hl], fun i d e => ?_⟩
  by_cases h : i < ds.length
  · rw [List.getElem?_append_left (by simpa using h), List.getElem?_map] at e
    cases q : ds[i]? with
    | none => rw [q] at e; cases e
    | some d' =>
      rw [q] at e
      cases e
      obtain ⟨v, e1, r1⟩ := r.get q
      refine ⟨v, ?_, r1⟩
      rw [List.getElem?_append_left (by rw [List.length_map, hl]; exact h), List.getElem?_map, e1]
      rfl
  · rw [List.getElem?_append_right (by simpa using h)] at e
    have := List.mem_of_getElem? e
    simp at this
/-- a def that keeps F, by at most level k, where no repr is under way -/
structure FnG (P : Program) (w : World) (K : PySem.W.Frag) (mg : Str → Option Value) (base : Heap) (k : Nat) (f : Addr) (fd : FuncData) (ps : List Str) (F : List D → Mu → R D) : Prop where
  run : ∀ (A : Around) (outer : List Env) (s : Shared) (H : Hp) (args : Args) (us : List Value) (vs : List V) (Q : VK) (E : XK) (W : Wd) (ds : List D) (μ : Mu), Room k A → A.guards = some [] → Env0 P w K mg base A outer s H →
    us.length = ps.length → BindsTo s fd args (ps.zip us) → Vals vs us → Ok K W H μ → Reps K W vs ds → postE K E W H (F ds μ) Q → codeAny (model P w) A (.call (.ref f) args) (CR (L2.CX P w) outer P w H s Q E) s
theorem FnG.mono {P : Program} {w : World} {K : PySem.W.Frag} {mg : Str → Option Value} {base : Heap} {j k : Nat} {f : Addr} {fd : FuncData} {ps : List Str} {F : List D → Mu → R D} (h : FnG P w K mg base j f fd ps F) (l : j ≤ k) : FnG P w K mg base k f fd ps F :=
  ⟨fun A outer s H args us vs Q E W ds μ hr => h.run A outer s H args us vs Q E W ds μ (hr.mono l)⟩
/-- .. another function that is the same where it is no bad one -/
theorem FnG.congr {P : Program} {w : World} {K : PySem.W.Frag} {mg : Str → Option Value} {base : Heap} {k : Nat} {f : Addr} {fd : FuncData} {ps : List Str} {F G : List D → Mu → R D} (h : FnG P w K mg base k f fd ps F) (e : ∀ ds μ, ds.length = ps.length → G ds μ ≠ .bad → F ds μ = G ds μ) : FnG P w K mg base k f fd ps G :=
  ⟨fun A outer s H args us vs Q E W ds μ hr hg e0 hl hb rv ok r p => h.run A outer s H args us vs Q E W ds μ hr hg e0 hl hb rv ok r (by
    have hd : ds.length = ps.length := by rw [← r.length, rv.length, hl]
    have hn : G ds μ ≠ .bad := fun z => by rw [z] at p; exact p
    rw [e ds μ hd hn]
    exact p)⟩
/-- the calm context of a body -/
structure Cal (X : Cx) (E : XK) (k : Nat) : Prop where
  room : Room k X.A
  guards : X.A.guards = some []
  pass : Passes (L2.CX X.prog X.w) X E
theorem Cal.mono {X : Cx} {E : XK} {j k : Nat} (c : Cal X E k) (h : j ≤ k) : Cal X E j := ⟨c.room.mono h, c.guards, c.pass⟩
theorem Cal.blk {X : Cx} {E : XK} {k : Nat} (c : Cal X E k) (s : Shared) (H : Hp) (scope : Scope) (env : Env) (fp : List Addr) : Cal (X.blk s H scope env fp) E0 k := ⟨c.room, c.guards, passL⟩
theorem trunc_post {K : PySem.W.Frag} {E : XK} {W W' : Wd} {H H' : Hp} {μ μ1 : Mu} {d : D} {v : V} {Q : VK} (hl : W.io.length = μ.length) (p : postE K E W H (trunc μ.length d μ1) Q) (g : Go W H W' H') (o : Ok K W' H' μ1) (r : Rep K W' v d) : Q v H' := by
  unfold trunc at p
  by_cases c : (d.closed μ.length && closedMu μ.length μ1) = true
  · rw [if_pos c] at p
    simp only [Bool.and_eq_true] at c
    have g' := g.cut
    rw [hl] at g'
    exact p _ v H' g' (o.cut c.2) (r.cut c.1)
  · rw [if_neg c] at p
    exact p W' v H' g o r
theorem truncX_post {K : PySem.W.Frag} {E : XK} {W W' : Wd} {H H' : Hp} {μ μ1 : Mu} {c : Addr} {fs : List (Str × D)} {d : Option Addr} {Q : VK} (hl : W.io.length = μ.length) (p : postE K E W H (truncX μ.length c fs μ1) Q) (g : Go W H W' H') (o : Ok K W' H' μ1) (r : ExcIs K W' H' fs d) : E (.ref c) d H' := by
  unfold truncX at p
  by_cases z : (D.closedF μ.length fs && closedMu μ.length μ1) = true
  · rw [if_pos z] at p
    simp only [Bool.and_eq_true] at z
    have g' := g.cut
    rw [hl] at g'
    exact p _ H' d g' (o.cut z.2) (r.cut z.1)
  · rw [if_neg z] at p
    exact p W' H' d g o r
section
variable {P : Program} {w : World} {K : PySem.W.Frag} {mg : Str → Option Value} {base : Heap}
theorem pass_body {N : List Str} {qual : Str} {scope : Scope} {f : Addr} {cd : Value} {A : Around} {outer : List Env} {s : Shared} {H : Hp} {E : XK} : Passes (L2.CX P w) (cxOf (L2.CX P w) P w K mg base N qual scope f cd A outer s H E) E :=
  fun pins σ H' s' e s2 I h => by
    have tk : Takes (cxOf (L2.CX P w) P w K mg base N qual scope f cd A outer s H E) (fun cls d _ H => E cls d H) := takes_of rfl rfl rfl rfl
    exact tk e s2 (XE.of_call I (fun cls d H' h => h) h)
/-- a def's body keeps its F -/
theorem fn_body {k : Nat} {f : Addr} {name qual : Str} {params : Arguments} {body : List Stmt} {scope : Scope} {dV kV doc pm cdv ct oc : Value} {an od : Option Addr} {osl : Array (Option Value)} {N ps : List Str} {g : FS}
    (lk : K.lookup f = some ⟨oc, od, .func (PySem.W.fnOf name qual params body scope dV kV doc pm an cdv ct), osl⟩) (hcd : PySem.W.codeIn K cdv qual = true) (sc : FnScope N ps scope)
    (hb : ∀ (A : Around) (outer : List Env) (s : Shared) (H : Hp) (E : XK), Cal (cxOf (L2.CX P w) P w K mg base N qual scope f cdv A outer s H E) E k → DSs (cxOf (L2.CX P w) P w K mg base N qual scope f cdv A outer s H E) E body g) :
    FnG P w K mg base (k + 1) f (PySem.W.fnOf name qual params body scope dV kV doc pm an cdv ct) ps (callF N.length g) := by
  refine ⟨fun A outer s H args us vs Q E W ds μ hr hg e0 hl hbd rv ok r p => ?_⟩
  have hvl : vs.length = ps.length := by rw [rv.length, hl]
  have kin : K.In s.heap := e0.mod.kin.keeps fun b o e => (e0.bs b o e).1
  have nl : s.heap.NoLimit := e0.mod.nolimit.keeps fun b o e => (e0.bs b o e).1
  have kinds : ∀ y ∈ ps.zip us, scope.names.lookup y.1 = some .local ∨ (scope.names.lookup y.1 = some .cell ∧ ((cellsFrom (s.heap.objs.size + 1) scope.names []).lookup y.1).isSome = true) := by
    rintro ⟨n, v⟩ hy
    rcases sc.par n (List.of_mem_zip hy).1 with q | q
    · exact .inl q
    · exact .inr ⟨q, PySem.W.cellsFrom_some _ _ _ (.inl q)⟩
  have X0 : Cal (cxOf (L2.CX P w) P w K mg base N qual scope f cdv A outer s H E) E k :=
    ⟨hr.deeper _, hg, pass_body⟩
  refine codeAny_call_function hr.depth (kin _ _ lk) rfl sc.co sc.gen rfl (PySem.W.codeRec_of kin hcd) (hbd _ _ _ _ ?_)
  refine wpAny_newFunctionEnv_cells sc.kind kinds fun env he s1 x => ?_
  subst he
  refine ⟨nl.keeps x.toInCall.keep, codeAny_func ?_⟩
  have I0 : Inv (cxOf (L2.CX P w) P w K mg base N qual scope f cdv A outer s H E) [] (start N vs) H s1 := inv_start sc hr.hd e0 hvl rv x
  have rd : rS K E g { nx := fun _ H' => Q .non H', rt := Q } (start N vs) H := by
    refine ⟨W, startD N.length ds, μ, ok, envs_start r, ?_⟩
    unfold callF at p
    revert p
    cases g (startD N.length ds) μ with
    | rt d μ1 => exact fun p W' v H' g o r => trunc_post ok.len p g o r
    | nx ρ1 μ1 => exact fun p W' σ' H' g o _ => trunc_post ok.len p g o .non
    | ex c fs μ1 => exact fun p W' H' d g o r => truncX_post ok.len p g o r
    | bk _ _ => exact fun p => p.elim
    | ct _ _ => exact fun p => p.elim
    | bad => exact fun p => p
  refine wpAny_mono ((hb A outer s H E X0).run [] s1 (start N vs) H _ I0 rd) (fun fl s2 hs => ?_) fun e s2 hs => hs
  have fin : ∀ {σ' : St} {H' : Hp} {v : V} {u : Value}, Inv (cxOf (L2.CX P w) P w K mg base N qual scope f cdv A outer s H E) [] σ' H' s2 → RelV v u → Q v H' → CE outer P w H s Q u s2 :=
    fun {σ' H' v u} J rr q => ⟨v, H', J.os, J.bare, J.base, J.hok, rr, q⟩
  cases fl with
  | ret u =>
    have ⟨v, σ', H', J, rr, q⟩ := hs
    exact fin J rr q
  | next =>
    have ⟨σ', H', J, q⟩ := hs
    exact fin (v := V.non) (u := Value.none) J rfl q
  | brk =>
    have ⟨_, _, _, q⟩ := hs
    exact absurd q id
  | cont =>
    have ⟨_, _, _, q⟩ := hs
    exact absurd q id
theorem Fun.g {x qual : Str} {st : Stmt} {f : Addr} {fd : FuncData} {N ps : List Str} {k : Nat} {g : FS} (F : Fun K x qual st f fd) (sc : FnScope N ps (defScope st))
    (hb : ∀ (cdv : Value) (A : Around) (outer : List Env) (s : Shared) (H : Hp) (E : XK), Cal (cxOf (L2.CX P w) P w K mg base N qual (defScope st) f cdv A outer s H E) E k → DSs (cxOf (L2.CX P w) P w K mg base N qual (defScope st) f cdv A outer s H E) E (defBody st) g) :
    FnG P w K mg base (k + 1) f fd ps (callF N.length g) := by
  obtain ⟨oc, od, kV, doc, pm, an, cdv, ct, osl, rfl, lk, hcd⟩ := F.ex
  exact fn_body lk hcd sc (hb cdv)
theorem FunD.g {x qual : Str} {params : Arguments} {body : List Stmt} {scope : Scope} {dvs : List V} {kws : List (Str × V)} {f : Addr} {fd : FuncData} {N ps : List Str} {k : Nat} {g : FS} (F : FunD K x qual params body scope dvs kws f fd) (sc : FnScope N ps scope)
    (hb : ∀ (cdv : Value) (A : Around) (outer : List Env) (s : Shared) (H : Hp) (E : XK), Cal (cxOf (L2.CX P w) P w K mg base N qual scope f cdv A outer s H E) E k → DSs (cxOf (L2.CX P w) P w K mg base N qual scope f cdv A outer s H E) E body g) :
    FnG P w K mg base (k + 1) f fd ps (callF N.length g) := by
  obtain ⟨oc, od, dV, kV, doc, pm, an, cdv, ct, osl, rfl, lk, hcd, _, _⟩ := F.ex
  exact fn_body lk hcd sc (hb cdv)
end

/-! ### calls -/
def HasLen (fa : FA) (n : Nat) : Prop := ∀ ρ μ ds μ1, fa ρ μ = .ok ds μ1 → ds.length = n
theorem aNil_len : HasLen aNil 0 := fun ρ μ ds μ1 h => by
  unfold aNil at h
  cases h
  rfl
theorem aCons_len {f : FE} {g : FA} {n : Nat} (h : HasLen g n) : HasLen (aCons f g) (n + 1) := fun ρ μ ds μ1 e => by
  unfold aCons at e
  cases hf : f ρ μ with
  | ok d μ2 =>
    rw [hf, R.bind_ok] at e
    cases hg : g ρ μ2 with
    | ok es μ3 =>
      rw [hg, R.bind_ok] at e
      cases e
      rw [List.length_cons, h _ _ _ _ hg]
    | ex c fs μ3 => rw [hg] at e; cases e
    | bad => rw [hg] at e; cases e
  | ex c fs μ2 => rw [hf] at e; cases e
  | bad => rw [hf] at e; cases e
def dcall (F : List D → Mu → R D) (dd : List D) (fa : FA) : FE := fun ρ μ => (fa ρ μ).bind fun ds μ1 => F (ds ++ dd) μ1
section
variable {X : Cx} {E : XK} {k : Nat} {f : Addr} {fd : FuncData} {ps : List Str} {F : List D → Mu → R D} {dvs : List V} {dd : List D} {d0 : List Value} {x : Str} {p pos : Pos} {e : Expr} {es : List Expr} {fa : FA}
theorem run_g {pins : List (Addr × Obj)} {σ : St} {H : Hp} {s : Shared} {Q : VK} {us : List Value} {vs : List V} {args : Args} {W : Wd} {ds : List D} {μ : Mu} (G : FnG X.prog X.w X.K X.mg X.base k f fd ps F) (c : Cal X E k)
    (I : Inv X pins σ H s) (hl : us.length = ps.length) (hb : BindsTo s fd args (ps.zip us)) (rv : Vals vs us) (ok : Ok X.K W H μ) (r : Reps X.K W vs ds) (q : postE X.K E W H (F ds μ) Q) :
    codeAny (model X.prog X.w) X.A (.call (.ref f) args) (callEnd (EP X pins σ Q) X.xe) s := by
  refine codeAny_mono (G.run X.A X.stack s H args us vs Q E W ds μ c.room c.guards I.env0 hl hb rv ok r q) fun z s2 hz => ?_
  match z, hz with
  | .error e, hz => exact c.pass pins σ H s e s2 I hz
  | .ok (.ret u), hz => exact I.after hz
/-- the defaults that fill up -/
structure Dfl (K : PySem.W.Frag) (fd : FuncData) (ps : List Str) (n : Nat) (dd : List D) : Prop where
  ex : ∃ (dvs : List V) (d0 : List Value), Vals dvs d0 ∧ (∀ W, Reps K W dvs dd) ∧ n + d0.length = ps.length ∧ Binds K fd ps d0
theorem dfl0 {K : PySem.W.Frag} {fd : FuncData} {ps : List Str} (b : Binds K fd ps []) : Dfl K fd ps ps.length [] := ⟨[], [], .nil, fun _ => .nil, rfl, b⟩
theorem callF_args {pins : List (Addr × Obj)} {σ : St} {H : Hp} {s : Shared} {Q : VK} {us : List Value} {vs : List V} {W : Wd} {ds : List D} {μ : Mu} {n : Nat} (G : FnG X.prog X.w X.K X.mg X.base k f fd ps F) (c : Cal X E k) (b : Dfl X.K fd ps n dd)
    (I : Inv X pins σ H s) (hn : us.length = n) (rv : Vals vs us) (ok : Ok X.K W H μ) (r : Reps X.K W vs ds) (q : postE X.K E W H (F (ds ++ dd) μ) Q) : wpAny (model X.prog X.w) X.A (call (.ref f) us) (EP X pins σ Q) X.xe s := by
  obtain ⟨dvs, d0, r0, rd, hl, hb⟩ := b.ex
  have hlen : (us ++ d0).length = ps.length := by rw [List.length_append, hn]; exact hl
  exact wpAny_call (run_g (args := ⟨us, []⟩) G c I hlen (hb s us I.kIn hlen) (rv.append r0) ok (r.app (rd W)) q)
theorem de_call (G : FnG X.prog X.w X.K X.mg X.base k f fd ps F) (c : Cal X E k) (hm : X.mg x = some (.ref f)) (hk : PySem.W.keepIn X.K (.ref f) = true) (b : Dfl X.K fd ps (e :: es).length dd) (ha : DA X E (e :: es) fa)
    (hf : HasLen fa (e :: es).length := by repeat (first | exact aNil_len | refine aCons_len ?_)) (hg : Gl X x := by rfl) (hdb : (x == ("__debug__" : Str)) = false := by decide) (he : starEach (e :: es) X.env = (false, eval e X.env) :: starEach es X.env := by rfl) (hpl : (backTo pos (starEach es X.env)).any (·.1) = false := by rfl) :
    DE X E (.Call (.Name x p) (e :: es) [] pos) (dcall F dd fa) := by
  refine ⟨fun pins s σ H Q I q => ?_⟩
  obtain ⟨W, ρ, μ, ok, en, pq⟩ := q
  refine wpAny_Call_Name_kw (ld_glob I hg hm ?_ hdb)
  unfold dcall at pq
  have rd : rA X.K E fa σ H (fun vs H1 => ∃ W1 ds μ1, vs.length = (e :: es).length ∧ Ok X.K W1 H1 μ1 ∧ Reps X.K W1 vs ds ∧ postE X.K E W1 H1 (F (ds ++ dd) μ1) Q) := by
    refine ⟨W, ρ, μ, ok, en, ?_⟩
    revert pq
    cases hq : fa ρ μ with
    | ok ds μ1 => exact fun p W1 xs H1 g o r => ⟨W1, ds, μ1, by rw [r.length]; exact hf ρ μ ds μ1 hq, o, r, post.mono g p⟩
    | ex c fs μ1 => exact fun p => p
    | bad => exact fun p => p
  refine PySem.W.callWith_K (h₀ := X.base) I.ok.mod.kin hk (thn (ha.run pos pins s σ H _ I rd) fun us s1 ⟨vs, H1, I1, r, W1, ds, μ1, hn, o1, r1, q1⟩ => ⟨I1.kIn, ?_⟩) he hpl
  exact callF_args G c b I1 (show us.length = _ by rw [← r.length]; exact hn) r o1 r1 q1
end
end DL
/-! DL4: operators, comparisons, built-ins over data. -/
namespace DL
open PySem L2

/-! ### operators by the kinds of their data -/
def rD (K : PySem.W.Frag) (E : XK) (g : D → D → Mu → R D) : R2 := fun x y H Q => ∃ W μ dx dy, Ok K W H μ ∧ Rep K W x dx ∧ Rep K W y dy ∧ postE K E W H (g dx dy μ) Q
abbrev OpX (X : Cx) (E : XK) (f : Value → Value → Sem Value) (g : D → D → Mu → R D) : Prop := OpR X f (rD X.K E g)
theorem opx {X : Cx} {E : XK} {f : Value → Value → Sem Value} {g : D → D → Mu → R D} (h : ∀ W H μ dx dy vx vy Q, Ok X.K W H μ → Rep X.K W vx dx → Rep X.K W vy dy → postE X.K E W H (g dx dy μ) Q → ∃ r, OpR X f r ∧ r vx vy H Q) : OpX X E f g := by
  intro pins s σ H x y v u Q I rx ry q
  obtain ⟨W, μ, dx, dy, ok, r1, r2, p⟩ := q
  obtain ⟨r, o, z⟩ := h W H μ dx dy x y Q ok r1 r2 p
  exact o pins s σ H x y v u Q I rx ry z
theorem opd_D {K : PySem.W.Frag} {E : XK} {g : D → D → Mu → R D} : OpD K E (rD K E g) g := fun W H μ x y vx vy Q ok rx ry p => ⟨W, μ, x, y, ok, rx, ry, p⟩
section
variable {X : Cx} {E : XK} {a b : Expr} {fa fb : FE} {pos : Pos} {g : D → D → Mu → R D}
theorem de_bin {op : Operator} (ho : OpX X E (binaryOp op) g) (ha : DE X E a fa) (hb : DE X E b fb) : DE X E (.BinOp a op b pos) (dbin g fa fb) := dbinop ho opd_D ha hb
theorem de_cmp {op : CmpOp} (ho : OpX X E (compareOp op) g) (ha : DE X E a fa) (hb : DE X E b fb) (hm : behindInMarks op b = false := by first | exact nomark _ | rfl) : DE X E (.Compare a [op] [b] pos) (dbin g fa fb) := dcmp ho opd_D ha hb hm
theorem dt_cmp {op : CmpOp} (ho : OpX X E (compareOp op) g) (ha : DE X E a fa) (hb : DE X E b fb) (hm : behindInMarks op b = false := by first | exact nomark _ | rfl) : DT X E (.Compare a [op] [b] pos) (dtest (dbin g fa fb)) := dtest_cmp ho opd_D ha hb hm
end

/-- an answer that makes nothing -/
theorem post_pure {K : PySem.W.Frag} {E : XK} {W : Wd} {H : Hp} {μ : Mu} {d : D} {v : V} {Q : VK} (ok : Ok K W H μ) (p : postE K E W H (.ok d μ) Q) (r : Rep K W v d) : Q v H := p W v H (Go.refl _ _) ok r

/-! ### + - * // % ** -/
def addD : D → D → Mu → R D
  | .int i, .int j, μ => .ok (.int (i + j)) μ
  | .str x, .str y, μ => if x.length + y.length ≤ 1000000 then .ok (.str (x ++ y)) μ else .bad
  | .lst xs, .lst ys, μ => if xs.length + ys.length ≤ 1000000 then .ok (.lst (xs ++ ys)) μ else .bad
  | _, _, _ => .bad
def subD : D → D → Mu → R D
  | .int i, .int j, μ => .ok (.int (i - j)) μ
  | _, _, _ => .bad
/-- one factor is below 2 ^ 64 -/
def mulD : D → D → Mu → R D
  | .int i, .int j, μ => if (-(2 ^ 64) < i ∧ i < 2 ^ 64) ∨ (-(2 ^ 64) < j ∧ j < 2 ^ 64) then .ok (.int (i * j)) μ else .bad
  | _, _, _ => .bad
def modD : D → D → Mu → R D
  | .int i, .int j, μ => if 0 < j then .ok (.int (i % j)) μ else .bad
  | _, _, _ => .bad
def fdivD : D → D → Mu → R D
  | .int i, .int j, μ => if 0 < j ∧ j < 1073741824 then .ok (.int (i / j)) μ else .bad
  | _, _, _ => .bad
def powD : D → D → Mu → R D
  | .int i, .int j, μ => if 0 ≤ j ∧ j ≤ 1000000 ∧ i.natAbs < 2 ^ 64 then .ok (.int (i ^ j.toNat)) μ else .bad
  | _, _, _ => .bad
section
variable {X : Cx} {E : XK}
theorem op_catR : OpR X (binaryOp .Add) (fun x y H Q => ∃ l b xs zs, x = .ref l ∧ y = .ref b ∧ Lq X.K H l xs ∧ Lq X.K H b zs ∧ xs.length + zs.length ≤ sizeLine ∧ ∀ p, H p = none → Q (.ref p) (upd H p (.lst (xs ++ zs)))) := by
  intro pins s σ H x y v u Q I rx ry h
  obtain ⟨l, b, xs, zs, rfl, rfl, h1, h2, hz, q⟩ := h
  cases rx
  cases ry
  obtain ⟨its, n, r, e⟩ := h1.isL I
  obtain ⟨its2, n2, r2, e2⟩ := h2.isL I
  refine PySem.P.add_list e e2 ?_ (by
    rw [List.size_toArray, List.size_toArray, ← r.length, ← r2.length]
    exact hz)
  have ea : its.toArray ++ its2.toArray = (its ++ its2).toArray := by simp
  rw [ea]
  exact ⟨.ref _, _, I.lnew (t' := s.toks) (r.append r2) (by rw [List.length_append]; exact hz), rfl, q _ I.fresh⟩
theorem strlen_app (x y : Str) : (x ++ y).length = x.length + y.length := by
  show (x.cps ++ y.cps).size = x.cps.size + y.cps.size
  simp
theorem opx_add : OpX X E (binaryOp .Add) addD := opx fun W H μ dx dy vx vy Q ok r1 r2 p => by
  unfold addD at p
  split at p
  · cases r1; cases r2
    exact ⟨_, op_add, _, _, rfl, rfl, post_pure ok p (.int _)⟩
  · split at p
    · rename_i hn
      cases r1; cases r2
      exact ⟨_, op_add_str, _, _, rfl, rfl, le_line hn, post_pure ok p (.str _ (by rw [strlen_app]; exact le_line hn))⟩
    · exact p.elim
  · split at p
    · rename_i hn
      cases r1 with
      | lst z1 h1 q1 =>
        cases r2 with
        | lst z2 h2 q2 =>
          refine ⟨_, op_catR, _, _, _, _, rfl, rfl, same_lq ok.sub h1, same_lq ok.sub h2, by rw [q1.length, q2.length]; exact le_line hn, fun q hq => p _ _ _ (Go.new ok hq) (ok.new hq) (rep_lst ok hq (by rw [List.length_append]; exact le_line hn) (q1.app q2))⟩
    · exact p.elim
  · exact p.elim
theorem opx_sub : OpX X E (binaryOp .Sub) subD := opx fun W H μ dx dy vx vy Q ok r1 r2 p => by
  unfold subD at p
  split at p
  · cases r1; cases r2
    exact ⟨_, op_sub, _, _, rfl, rfl, post_pure ok p (.int _)⟩
  · exact p.elim
theorem opx_mul : OpX X E (binaryOp .Mult) mulD := opx fun W H μ dx dy vx vy Q ok r1 r2 p => by
  unfold mulD at p
  split at p
  · split at p
    · rename_i hn
      cases r1; cases r2
      exact ⟨_, op_mul, _, _, rfl, rfl, hn, post_pure ok p (.int _)⟩
    · exact p.elim
  · exact p.elim
theorem opx_mod : OpX X E (binaryOp .Mod) modD := opx fun W H μ dx dy vx vy Q ok r1 r2 p => by
  unfold modD at p
  split at p
  · split at p
    · rename_i hn
      cases r1; cases r2
      exact ⟨_, op_mod, _, _, rfl, rfl, hn, post_pure ok p (.int _)⟩
    · exact p.elim
  · exact p.elim
theorem opx_fdiv : OpX X E (binaryOp .FloorDiv) fdivD := opx fun W H μ dx dy vx vy Q ok r1 r2 p => by
  unfold fdivD at p
  split at p
  · split at p
    · rename_i hn
      cases r1; cases r2
      exact ⟨_, op_fdiv, _, _, rfl, rfl, hn, post_pure ok p (.int _)⟩
    · exact p.elim
  · exact p.elim
theorem opx_pow : OpX X E (binaryOp .Pow) powD := opx fun W H μ dx dy vx vy Q ok r1 r2 p => by
  unfold powD at p
  split at p
  · split at p
    · rename_i hn
      cases r1; cases r2
      exact ⟨_, op_pow, _, _, rfl, rfl, hn, post_pure ok p (.int _)⟩
    · exact p.elim
  · exact p.elim
end

/-! ### < <= > >= -/
def strLt (x y : Str) : Bool := decide (x.cps.toList < y.cps.toList)
def ltD : D → D → Mu → R D
  | .int i, .int j, μ => .ok (.bl (decide (i < j))) μ
  | .str x, .str y, μ => .ok (.bl (strLt x y)) μ
  | _, _, _ => .bad
def leD : D → D → Mu → R D
  | .int i, .int j, μ => .ok (.bl (decide (i ≤ j))) μ
  | .str x, .str y, μ => .ok (.bl (!strLt y x)) μ
  | _, _, _ => .bad
def gtD : D → D → Mu → R D
  | .int i, .int j, μ => .ok (.bl (decide (j < i))) μ
  | _, _, _ => .bad
def geD : D → D → Mu → R D
  | .int i, .int j, μ => .ok (.bl (decide (j ≤ i))) μ
  | _, _, _ => .bad
section
variable {X : Cx} {E : XK}
theorem opx_lt : OpX X E (compareOp .Lt) ltD := opx fun W H μ dx dy vx vy Q ok r1 r2 p => by
  unfold ltD at p
  split at p
  · cases r1; cases r2
    exact ⟨_, op_lt, _, _, rfl, rfl, post_pure ok p (.bl _)⟩
  · cases r1; cases r2
    exact ⟨_, op_lt_str, _, _, rfl, rfl, post_pure ok p (.bl _)⟩
  · exact p.elim
theorem opx_le : OpX X E (compareOp .LtE) leD := opx fun W H μ dx dy vx vy Q ok r1 r2 p => by
  unfold leD at p
  split at p
  · cases r1; cases r2
    exact ⟨_, op_le, _, _, rfl, rfl, post_pure ok p (.bl _)⟩
  · cases r1; cases r2
    exact ⟨_, op_le_str, _, _, rfl, rfl, post_pure ok p (.bl _)⟩
  · exact p.elim
theorem opx_gt : OpX X E (compareOp .Gt) gtD := opx fun W H μ dx dy vx vy Q ok r1 r2 p => by
  unfold gtD at p
  split at p
  · cases r1; cases r2
    exact ⟨_, op_gt, _, _, rfl, rfl, post_pure ok p (.bl _)⟩
  · exact p.elim
theorem opx_ge : OpX X E (compareOp .GtE) geD := opx fun W H μ dx dy vx vy Q ok r1 r2 p => by
  unfold geD at p
  split at p
  · cases r1; cases r2
    exact ⟨_, op_ge, _, _, rfl, rfl, post_pure ok p (.bl _)⟩
  · exact p.elim
end

/-! ### is None -/
def isNoneD : D → Option Bool
  | .non => some true
  | .cst _ => none
  | _ => some false
def isD : D → D → Mu → R D
  | x, .non, μ => match isNoneD x with
    | some b => .ok (.bl b) μ
    | none => .bad
  | _, _, _ => .bad
def isntD : D → D → Mu → R D
  | x, .non, μ => match isNoneD x with
    | some b => .ok (.bl (!b)) μ
    | none => .bad
  | _, _, _ => .bad
theorem isNone_rep {K : PySem.W.Frag} {W : Wd} {v : V} {d : D} {b : Bool} (r : Rep K W v d) (h : isNoneD d = some b) : decide (v = .non) = b := by
  cases r <;> simp [isNoneD] at h <;> subst h <;> simp
section
variable {X : Cx} {E : XK}
theorem opx_is : OpX X E (compareOp .Is) isD := opx fun W H μ dx dy vx vy Q ok r1 r2 p => by
  unfold isD at p
  split at p
  · split at p
    · rename_i b hb
      cases r2
      refine ⟨_, op_isN, rfl, ?_⟩
      rw [isNone_rep r1 hb]
      exact post_pure ok p (.bl _)
    · exact p.elim
  · exact p.elim
theorem opx_isnt : OpX X E (compareOp .IsNot) isntD := opx fun W H μ dx dy vx vy Q ok r1 r2 p => by
  unfold isntD at p
  split at p
  · split at p
    · rename_i b hb
      cases r2
      refine ⟨_, op_notN, rfl, ?_⟩
      rw [isNone_rep r1 hb]
      exact post_pure ok p (.bl _)
    · exact p.elim
  · exact p.elim
end

end DL
/-! DL5: == and in over data. -/
namespace DL
open PySem L2

inductive Kd where
  | flat (v : V) | tup (xs : List D) | lst (xs : List D) | none
def D.kd : D → Kd
  | .non => .flat .non
  | .bl b => .flat (.bl b)
  | .int i => .flat (.int i)
  | .str x => .flat (.str x)
  | .tup xs => .tup xs
  | .lst xs => .lst xs
  | _ => .none
def eqL (e : D → D → Option Bool) : List D → List D → Option Bool
  | [], [] => some true
  | [], _ :: _ => some false
  | _ :: _, [] => some false
  | x :: xs, y :: ys => match e x y, eqL e xs ys with
    | some a, some b => some (a && b)
    | _, _ => none
/-- == of data of less than that depth -/
def eqD : Nat → D → D → Option Bool
  | 0, _, _ => none
  | n + 1, x, y => match x.kd, y.kd with
    | .flat u, .flat v => some (eqV u v)
    | .tup xs, .tup ys => eqL (eqD n) xs ys
    | .lst xs, .lst ys => eqL (eqD n) xs ys
    | .none, _ => none
    | _, .none => none
    | _, _ => some false
def atF (e : D → D → Option Bool) (xs ys : List D) (j : Nat) : Bool := match xs[j]?, ys[j]? with
  | some x, some y => (e x y).getD false
  | _, _ => false
theorem eqL_at {e : D → D → Option Bool} : ∀ {xs ys : List D} {b : Bool}, eqL e xs ys = some b → ∀ (j : Nat) x y, xs[j]? = some x → ys[j]? = some y → e x y = some (atF e xs ys j)
  | [], _, _, _, _, _, _, h, _ => by simp at h
  | _ :: _, [], _, _, _, _, _, _, h => by simp at h
  | x :: xs, y :: ys, b, h, j, x', y', h1, h2 => by
    unfold eqL at h
    cases e1 : e x y with
    | none => rw [e1] at h; cases h
    | some a =>
      cases e2 : eqL e xs ys with
      | none => rw [e1, e2] at h; cases h
      | some c =>
        cases j with
        | zero =>
          simp at h1 h2
          subst h1 h2
          simp [atF, e1]
        | succ j =>
          have := eqL_at e2 j x' y' (by simpa using h1) (by simpa using h2)
          rw [this]
          simp [atF]
theorem all_shift (p : Nat → Bool) (n : Nat) : (List.range (n + 1)).all p = (p 0 && (List.range n).all fun j => p (j + 1)) := by
  rw [List.range_succ_eq_map, List.all_cons, List.all_map]
  rfl
theorem eqL_val {e : D → D → Option Bool} : ∀ {xs ys : List D} {b : Bool}, eqL e xs ys = some b → b = ((List.range (min xs.length ys.length)).all (atF e xs ys) && xs.length == ys.length)
  | [], [], b, h => by
    simp [eqL] at h
    subst h
    simp
  | [], y :: ys, b, h => by
    simp [eqL] at h
    subst h
    simp
  | x :: xs, [], b, h => by
    simp [eqL] at h
    subst h
    simp
  | x :: xs, y :: ys, b, h => by
    unfold eqL at h
    cases e1 : e x y with
    | none => rw [e1] at h; cases h
    | some a =>
      cases e2 : eqL e xs ys with
      | none => rw [e1, e2] at h; cases h
      | some c =>
        rw [e1, e2] at h
        cases h
        have ih := eqL_val e2
        have hm : min (x :: xs).length (y :: ys).length = min xs.length ys.length + 1 := by simp [Nat.succ_min_succ]
        rw [hm, all_shift]
        have h0 : atF e (x :: xs) (y :: ys) 0 = a := by simp [atF, e1]
        have hs : (fun j => atF e (x :: xs) (y :: ys) (j + 1)) = atF e xs ys := by
          funext j
          simp [atF]
        rw [h0, hs, Bool.and_assoc, ih]
        simp
theorem rd_inj {H : Hp} {a : Addr} {xs ys : List V} (h : Rd H a (.lst xs)) (h' : Rd H a (.lst ys)) : xs = ys := by
  rcases h with h | ⟨o, h⟩ <;> rcases h' with h' | ⟨o', h'⟩ <;> rw [h] at h' <;> cases h' <;> rfl
section
variable {X : Cx} {pins : List (Addr × Obj)} {σ : St} {H : Hp} {s : Shared} {W : Wd} {μ : Mu}
theorem eqV_refl {v : V} (h : flatV v = true) : eqV v v = true := by
  cases v <;> simp [eqV, flatV] at h ⊢
theorem kd_flat {K : PySem.W.Frag} {v u : V} {d : D} (r : Rep K W v d) (h : d.kd = .flat u) : v = u ∧ flatV v = true := by
  cases r <;> simp [D.kd] at h <;> subst h <;> exact ⟨rfl, rfl⟩
theorem kd_tup {K : PySem.W.Frag} {v : V} {d : D} {xs : List D} (r : Rep K W v d) (h : d.kd = .tup xs) : ∃ a vs, v = .ref a ∧ SqT K W.S a vs ∧ Reps K W vs xs := by
  cases r <;> simp [D.kd] at h
  subst h
  exact ⟨_, _, rfl, by assumption, by assumption⟩
theorem kd_lst {K : PySem.W.Frag} {v : V} {d : D} {xs : List D} (r : Rep K W v d) (h : d.kd = .lst xs) : ∃ a vs, v = .ref a ∧ Lq K W.S a vs ∧ Reps K W vs xs := by
  cases r <;> simp [D.kd] at h
  subst h
  exact ⟨_, _, rfl, by assumption, by assumption⟩
theorem eqL_same {K : PySem.W.Frag} {e : D → D → Option Bool} (h : ∀ v x y c, Rep K W v x → Rep K W v y → e x y = some c → c = true) : ∀ {vs : List V} {xs ys : List D} {b : Bool}, Reps K W vs xs → Reps K W vs ys → eqL e xs ys = some b → b = true
  | _, _, _, _, .nil, .nil, q => by
    simp [eqL] at q
    exact q
  | _, _, _, _, .cons r1 t1, .cons r2 t2, q => by
    rename_i v vs d ds d' ds'
    unfold eqL at q
    cases e1 : e d d' with
    | none => rw [e1] at q; cases q
    | some a =>
      cases e2 : eqL e ds ds' with
      | none => rw [e1, e2] at q; cases q
      | some c =>
        rw [e1, e2] at q
        cases q
        rw [h v d d' a r1 r2 e1, eqL_same h t1 t2 e2]
        rfl
theorem eqD_same (I : Inv X pins σ H s) (ok : Ok X.K W H μ) : ∀ (n : Nat) (v : V) (d e : D) (b : Bool), Rep X.K W v d → Rep X.K W v e → eqD n d e = some b → b = true
  | 0, _, _, _, _, _, _, h => by simp [eqD] at h
  | n + 1, v, d, e, b, r1, r2, h => by
    unfold eqD at h
    cases k1 : d.kd with
    | none => rw [k1] at h; cases h
    | flat u1 =>
      obtain ⟨rfl, f1⟩ := kd_flat r1 k1
      cases k2 : e.kd with
      | none => rw [k1, k2] at h; cases h
      | flat u2 =>
        obtain ⟨rfl, _⟩ := kd_flat r2 k2
        rw [k1, k2] at h
        cases h
        exact eqV_refl f1
      | tup ys =>
        obtain ⟨a, vs, rfl, _⟩ := kd_tup r2 k2
        simp [flatV] at f1
      | lst ys =>
        obtain ⟨a, vs, rfl, _⟩ := kd_lst r2 k2
        simp [flatV] at f1
    | tup xs =>
      obtain ⟨a, vs, rfl, h1, q1⟩ := kd_tup r1 k1
      cases k2 : e.kd with
      | none => rw [k1, k2] at h; cases h
      | flat u2 =>
        obtain ⟨rfl, f⟩ := kd_flat r2 k2
        simp [flatV] at f
      | tup ys =>
        obtain ⟨a', us, e', h2, q2⟩ := kd_tup r2 k2
        cases e'
        have ev := I.tuple_inj (same_t ok.sub h1) (same_t ok.sub h2)
        subst ev
        rw [k1, k2] at h
        exact eqL_same (fun v x y c a b z => eqD_same I ok n v x y c a b z) q1 q2 h
      | lst ys =>
        obtain ⟨a', us, e', h2, q2⟩ := kd_lst r2 k2
        cases e'
        obtain ⟨its, _, ⟨o, e1, c1, _⟩, _⟩ := I.tuple (same_t ok.sub h1)
        obtain ⟨its', _, ⟨o', n', e2, c2, _⟩, _⟩ := I.list (same_lq ok.sub h2).sq
        rw [e1] at e2
        cases e2
        rw [c1] at c2
        exact absurd c2 (by decide)
    | lst xs =>
      obtain ⟨a, vs, rfl, h1, q1⟩ := kd_lst r1 k1
      cases k2 : e.kd with
      | none => rw [k1, k2] at h; cases h
      | flat u2 =>
        obtain ⟨rfl, f⟩ := kd_flat r2 k2
        simp [flatV] at f
      | lst ys =>
        obtain ⟨a', us, e', h2, q2⟩ := kd_lst r2 k2
        cases e'
        have ev := I.list_inj (same_lq ok.sub h1).sq (same_lq ok.sub h2).sq
        subst ev
        rw [k1, k2] at h
        exact eqL_same (fun v x y c a b z => eqD_same I ok n v x y c a b z) q1 q2 h
      | tup ys =>
        obtain ⟨a', us, e', h2, q2⟩ := kd_tup r2 k2
        cases e'
        obtain ⟨its, _, ⟨o, e1, c1, _⟩, _⟩ := I.tuple (same_t ok.sub h2)
        obtain ⟨its', _, ⟨o', n', e2, c2, _⟩, _⟩ := I.list (same_lq ok.sub h1).sq
        rw [e1] at e2
        cases e2
        rw [c1] at c2
        exact absurd c2 (by decide)
open PySem.SeqAt in
theorem rc_flat {A : Around} {u v : V} {p q : Value} (r1 : RelV u p) (r2 : RelV v q) (f1 : flatV u = true) (f2 : flatV v = true) : RcAt A s p q (eqV u v) := by
  cases u <;> simp [flatV] at f1 <;> cases v <;> simp [flatV] at f2
  case non.non => cases r1; cases r2; exact RcAt.none_none
  case non.bl => cases r1; cases r2; exact RcAt.none_bool _
  case non.int => cases r1; obtain ⟨t, rfl⟩ := r2; exact RcAt.none_int _ _
  case non.str => cases r1; obtain ⟨t, rfl⟩ := r2; exact RcAt.none_str _ _
  case bl.non => cases r1; cases r2; exact RcAt.bool_none _
  case bl.bl => cases r1; cases r2; exact RcAt.bool_bool _ _
  case bl.int => cases r1; obtain ⟨t, rfl⟩ := r2; exact RcAt.bool_int _ _ _
  case bl.str => cases r1; obtain ⟨t, rfl⟩ := r2; exact RcAt.bool_str _ _ _
  case int.non => obtain ⟨t, rfl⟩ := r1; cases r2; exact RcAt.int_none _ _
  case int.bl => obtain ⟨t, rfl⟩ := r1; cases r2; exact RcAt.int_bool _ _ _
  case int.int => obtain ⟨t, rfl⟩ := r1; obtain ⟨t', rfl⟩ := r2; exact RcAt.int_int _ _ _ _
  case int.str => obtain ⟨t, rfl⟩ := r1; obtain ⟨t', rfl⟩ := r2; exact RcAt.int_str _ _ _ _
  case str.non => obtain ⟨t, rfl⟩ := r1; cases r2; exact RcAt.str_none _ _
  case str.bl => obtain ⟨t, rfl⟩ := r1; cases r2; exact RcAt.str_bool _ _ _
  case str.int => obtain ⟨t, rfl⟩ := r1; obtain ⟨t', rfl⟩ := r2; exact RcAt.str_int _ _ _ _
  case str.str => obtain ⟨t, rfl⟩ := r1; obtain ⟨t', rfl⟩ := r2; exact RcAt.str_str _ _ _ _
open PySem.SeqAt in
theorem flat_list {A : Around} {u : V} {p : Value} {l : Addr} {its : Array Value} (r1 : RelV u p) (f1 : flatV u = true) (hl : s.heap.IsList l its) (hu : A.units < cLine) : RcAt A s p (.ref l) false ∧ EqAt A s p (.ref l) false ∧ RcAt A s (.ref l) p false ∧ EqAt A s (.ref l) p false := by
  cases u <;> simp [flatV] at f1
  case non => cases r1; exact ⟨.none_list hl hu, .none_list hl hu, .list_none hl hu, .list_none hl hu⟩
  case bl => cases r1; exact ⟨.bool_list _ hl hu, .bool_list _ hl hu, .list_bool _ hl hu, .list_bool _ hl hu⟩
  case int => obtain ⟨t, rfl⟩ := r1; exact ⟨.int_list _ _ hl hu, .int_list _ _ hl hu, .list_int _ _ hl hu, .list_int _ _ hl hu⟩
  case str => obtain ⟨t, rfl⟩ := r1; exact ⟨.str_list _ _ hl hu, .str_list _ _ hl hu, .list_str _ _ hl hu, .list_str _ _ hl hu⟩
open PySem.SeqAt in
theorem flat_tuple {A : Around} {u : V} {p : Value} {l : Addr} {its : Array Value} (r1 : RelV u p) (f1 : flatV u = true) (hl : s.heap.IsTuple l its) (hu : A.units < cLine) : RcAt A s p (.ref l) false ∧ EqAt A s p (.ref l) false ∧ RcAt A s (.ref l) p false ∧ EqAt A s (.ref l) p false := by
  cases u <;> simp [flatV] at f1
  case non => cases r1; exact ⟨.none_tuple hl hu, .none_tuple hl hu, .tuple_none hl hu, .tuple_none hl hu⟩
  case bl => cases r1; exact ⟨.bool_tuple _ hl hu, .bool_tuple _ hl hu, .tuple_bool _ hl hu, .tuple_bool _ hl hu⟩
  case int => obtain ⟨t, rfl⟩ := r1; exact ⟨.int_tuple _ _ hl hu, .int_tuple _ _ hl hu, .tuple_int _ _ hl hu, .tuple_int _ _ hl hu⟩
  case str => obtain ⟨t, rfl⟩ := r1; exact ⟨.str_tuple _ _ hl hu, .str_tuple _ _ hl hu, .tuple_str _ _ hl hu, .tuple_str _ _ hl hu⟩
open PySem.SeqAt in
theorem eqD_at (I : Inv X pins σ H s) (ok : Ok X.K W H μ) : ∀ (n : Nat) (A : Around) (d e : D) (b : Bool) (u v : V) (p q : Value), A.units + n < cLine → Rep X.K W u d → Rep X.K W v e → RelV u p → RelV v q → eqD n d e = some b → RcAt A s p q b ∧ EqAt A s p q b
  | 0, _, _, _, _, _, _, _, _, _, _, _, _, _, h => by simp [eqD] at h
  | n + 1, A, d, e, b, u, v, p, q, hu, r1, r2, w1, w2, h => by
    have hu0 : A.units < cLine := by omega
    unfold eqD at h
    cases k1 : d.kd with
    | none => rw [k1] at h; cases h
    | flat u1 =>
      obtain ⟨rfl, f1⟩ := kd_flat r1 k1
      cases k2 : e.kd with
      | none => rw [k1, k2] at h; cases h
      | flat u2 =>
        obtain ⟨rfl, f2⟩ := kd_flat r2 k2
        rw [k1, k2] at h
        cases h
        exact ⟨rc_flat w1 w2 f1 f2, eqAt_V w1 w2 f1 f2⟩
      | tup ys =>
        obtain ⟨a, vs, rfl, h2, _⟩ := kd_tup r2 k2
        cases w2
        obtain ⟨its, _, ht, _⟩ := I.tuple (same_t ok.sub h2)
        rw [k1, k2] at h
        cases h
        have z := flat_tuple (s := s) (A := A) w1 f1 (show s.heap.IsTuple a its.toArray from ht) hu0
        exact ⟨z.1, z.2.1⟩
      | lst ys =>
        obtain ⟨a, vs, rfl, h2, _⟩ := kd_lst r2 k2
        cases w2
        obtain ⟨its, _, ht, _⟩ := I.list (same_lq ok.sub h2).sq
        rw [k1, k2] at h
        cases h
        have z := flat_list (s := s) (A := A) w1 f1 ht.isList hu0
        exact ⟨z.1, z.2.1⟩
    | tup xs =>
      obtain ⟨a, vs, rfl, h1, q1⟩ := kd_tup r1 k1
      cases w1
      obtain ⟨its, v1, ht, _⟩ := I.tuple (same_t ok.sub h1)
      cases k2 : e.kd with
      | none => rw [k1, k2] at h; cases h
      | flat u2 =>
        obtain ⟨rfl, f2⟩ := kd_flat r2 k2
        rw [k1, k2] at h
        cases h
        have z := flat_tuple (s := s) (A := A) w2 f2 (show s.heap.IsTuple a its.toArray from ht) hu0
        exact ⟨z.2.2.1, z.2.2.2⟩
      | lst ys =>
        obtain ⟨a', us, rfl, h2, q2⟩ := kd_lst r2 k2
        cases w2
        obtain ⟨its', _, ht', _⟩ := I.list (same_lq ok.sub h2).sq
        rw [k1, k2] at h
        cases h
        exact ⟨.tuple_list (show s.heap.IsTuple a its.toArray from ht) ht'.isList hu0, .tuple_list (show s.heap.IsTuple a its.toArray from ht) ht'.isList hu0⟩
      | tup ys =>
        obtain ⟨a', us, rfl, h2, q2⟩ := kd_tup r2 k2
        cases w2
        obtain ⟨its', v2, ht', _⟩ := I.tuple (same_t ok.sub h2)
        have hs := h
        rw [k1, k2] at h
        have l1 : its.toArray.size = xs.length := by rw [List.size_toArray, ← v1.length, q1.length]
        have l2 : its'.toArray.size = ys.length := by rw [List.size_toArray, ← v2.length, q2.length]
        have rc : RcAt A s (.ref a) (.ref a') b := by
          have z := RcAt.tuples (e := atF (eqD n) xs ys) (show s.heap.IsTuple a its.toArray from ht) (show s.heap.IsTuple a' its'.toArray from ht') hu0 (fun j h3 h4 => by
            obtain ⟨xd, ex⟩ : ∃ xd, xs[j]? = some xd := ⟨_, List.getElem?_eq_getElem (by rw [← l1]; exact h3)⟩
            obtain ⟨yd, ey⟩ : ∃ yd, ys[j]? = some yd := ⟨_, List.getElem?_eq_getElem (by rw [← l2]; exact h4)⟩
            obtain ⟨xv, e3, r3⟩ := q1.get ex
            obtain ⟨yv, e4, r4⟩ := q2.get ey
            obtain ⟨xu, e5, w5⟩ := v1.get e3
            obtain ⟨yu, e6, w6⟩ := v2.get e4
            have g1 : its.toArray[j] = xu := by
              have := List.getElem?_eq_some_iff.mp e5
              simpa using this.2
            have g2 : its'.toArray[j] = yu := by
              have := List.getElem?_eq_some_iff.mp e6
              simpa using this.2
            rw [g1, g2]
            exact (eqD_at I ok n A.in1 xd yd _ xv yv xu yu (by show A.units + 1 + n < cLine; omega) r3 r4 w5 w6 (eqL_at h j xd yd ex ey)).2)
          rw [l1, l2, ← eqL_val h] at z
          exact z
        refine ⟨rc, ?_⟩
        by_cases hne : a = a'
        · subst hne
          have hb : b = true := eqD_same I ok (n + 1) (.ref a) d e b r1 r2 (by unfold eqD; exact hs)
          rw [hb]
          exact .same _
        · exact .of_refs hne rc
    | lst xs =>
      obtain ⟨a, vs, rfl, h1, q1⟩ := kd_lst r1 k1
      cases w1
      obtain ⟨its, v1, ht, _⟩ := I.list (same_lq ok.sub h1).sq
      cases k2 : e.kd with
      | none => rw [k1, k2] at h; cases h
      | flat u2 =>
        obtain ⟨rfl, f2⟩ := kd_flat r2 k2
        rw [k1, k2] at h
        cases h
        have z := flat_list (s := s) (A := A) w2 f2 ht.isList hu0
        exact ⟨z.2.2.1, z.2.2.2⟩
      | tup ys =>
        obtain ⟨a', us, rfl, h2, q2⟩ := kd_tup r2 k2
        cases w2
        obtain ⟨its', _, ht', _⟩ := I.tuple (same_t ok.sub h2)
        rw [k1, k2] at h
        cases h
        exact ⟨.list_tuple ht.isList (show s.heap.IsTuple a' its'.toArray from ht') hu0, .list_tuple ht.isList (show s.heap.IsTuple a' its'.toArray from ht') hu0⟩
      | lst ys =>
        obtain ⟨a', us, rfl, h2, q2⟩ := kd_lst r2 k2
        cases w2
        obtain ⟨its', v2, ht', _⟩ := I.list (same_lq ok.sub h2).sq
        have hs := h
        rw [k1, k2] at h
        have l1 : its.toArray.size = xs.length := by rw [List.size_toArray, ← v1.length, q1.length]
        have l2 : its'.toArray.size = ys.length := by rw [List.size_toArray, ← v2.length, q2.length]
        have rc : RcAt A s (.ref a) (.ref a') b := by
          by_cases hl : xs.length = ys.length
          · have z := RcAt.lists (e := atF (eqD n) xs ys) ht.isList ht'.isList (by rw [l1, l2]; exact hl) hu0 (fun j h3 h4 => by
              obtain ⟨xd, ex⟩ : ∃ xd, xs[j]? = some xd := ⟨_, List.getElem?_eq_getElem (by rw [← l1]; exact h3)⟩
              obtain ⟨yd, ey⟩ : ∃ yd, ys[j]? = some yd := ⟨_, List.getElem?_eq_getElem (by rw [← l2]; exact h4)⟩
              obtain ⟨xv, e3, r3⟩ := q1.get ex
              obtain ⟨yv, e4, r4⟩ := q2.get ey
              obtain ⟨xu, e5, w5⟩ := v1.get e3
              obtain ⟨yu, e6, w6⟩ := v2.get e4
              have g1 : its.toArray[j] = xu := by
                have := List.getElem?_eq_some_iff.mp e5
                simpa using this.2
              have g2 : its'.toArray[j] = yu := by
                have := List.getElem?_eq_some_iff.mp e6
                simpa using this.2
              rw [g1, g2]
              exact (eqD_at I ok n A.in1 xd yd _ xv yv xu yu (by show A.units + 1 + n < cLine; omega) r3 r4 w5 w6 (eqL_at h j xd yd ex ey)).2)
            have hv := eqL_val h
            rw [hl, Nat.min_self, beq_self_eq_true, Bool.and_true] at hv
            rw [l1, hl, ← hv] at z
            exact z
          · have hv := eqL_val h
            rw [show (xs.length == ys.length) = false from beq_eq_false_iff_ne.mpr hl, Bool.and_false] at hv
            rw [hv]
            exact .lists_lengths ht.isList ht'.isList (by rw [l1, l2]; simpa using hl) hu0
        refine ⟨rc, ?_⟩
        by_cases hne : a = a'
        · subst hne
          have hb : b = true := eqD_same I ok (n + 1) (.ref a) d e b r1 r2 (by unfold eqD; exact hs)
          rw [hb]
          exact .same _
        · exact .of_refs hne rc
end

def dEq : D → D → Mu → R D := fun x y μ => R.of ((eqD 20 x y).map .bl) μ
/-- != of flat things -/
def dNe : D → D → Mu → R D := fun x y μ => match x.kd, y.kd with
  | .flat u, .flat v => if scal u v = true then .ok (.bl (!decide (u = v))) μ else .bad
  | _, _ => .bad
section
variable {X : Cx} {E : XK}
theorem opx_eq (hu : X.A.units + 64 < cLine) : OpX X E (compareOp .Eq) dEq := by
  intro pins s σ H x y v u Q I rx ry q
  obtain ⟨W, μ, dx, dy, ok, r1, r2, p⟩ := q
  unfold dEq at p
  revert p
  cases h : eqD 20 dx dy with
  | none => exact fun p => p.elim
  | some b =>
    intro p
    have z := (eqD_at I ok 20 X.A dx dy b x y v u (by omega) r1 r2 rx ry h).1
    exact z X.prog X.w X.xe _ ⟨.bl b, H, I, rfl, post_pure ok p (.bl b)⟩
theorem opx_ne : OpX X E (compareOp .NotEq) dNe := opx fun W H μ dx dy vx vy Q ok r1 r2 p => by
  unfold dNe at p
  split at p
  · rename_i u v h1 h2
    obtain ⟨rfl, _⟩ := kd_flat r1 h1
    obtain ⟨rfl, _⟩ := kd_flat r2 h2
    split at p
    · rename_i hs
      exact ⟨_, op_ne, hs, post_pure ok p (.bl _)⟩
    · exact p.elim
  · exact p.elim
end
end DL
/-! DL6: in, len, items, slices, built-ins, methods. -/
namespace DL
open PySem L2

/-- the items of a sequence, a cell's too -/
def seqD (μ : Mu) : D → Option (List D)
  | .lst xs => some xs
  | .tup xs => some xs
  | .hdl l => match μ[l]? with
    | some (.lst xs) => some xs
    | _ => none
  | _ => none
theorem seq_rep {K : PySem.W.Frag} {W : Wd} {H : Hp} {μ : Mu} {v : V} {d : D} {xs : List D} (ok : Ok K W H μ) (r : Rep K W v d) (h : seqD μ d = some xs) : ∃ a vs, v = .ref a ∧ Reps K W vs xs ∧ (SqL K H a vs ∨ SqT K H a vs) := by
  cases r with
  | lst z h1 r1 =>
    simp [seqD] at h
    subst h
    exact ⟨_, _, rfl, r1, .inl (same_lq ok.sub h1).sq⟩
  | tup z h1 r1 =>
    simp [seqD] at h
    subst h
    exact ⟨_, _, rfl, r1, .inr (same_t ok.sub h1)⟩
  | @hdl a l ha =>
    unfold seqD at h
    dsimp only at h
    cases hm : μ[l]? with
    | none => rw [hm] at h; cases h
    | some m =>
      rw [hm] at h
      cases m with
      | lst ys =>
        cases h
        obtain ⟨o, ho, vs, rfl, rs⟩ := ok.cell l a _ ha hm
        exact ⟨a, vs, rfl, rs, .inl (.inl (.inl ho))⟩
      | _ => cases h
  | _ => simp [seqD] at h

/-! ### in -/
def inL (e : D → Option Bool) : List D → Option Bool
  | [] => some false
  | y :: ys => match e y, inL e ys with
    | some a, some b => some (a || b)
    | _, _ => none
def inD (μ : Mu) (x y : D) : Option Bool := match y with
  | .str z => match x with
    | .str w => match w.cps.toList with
      | [c] => some (decide (c ∈ z.cps.toList))
      | _ => some (!(Builtin.Str.occurrences z w 0 z.length 1).isEmpty)
    | _ => none
  | y => match seqD μ y with
    | some ys => inL (fun d => eqD 20 d x) ys
    | none => none
def dIn : D → D → Mu → R D := fun x y μ => R.of ((inD μ x y).map .bl) μ
def dNotIn : D → D → Mu → R D := fun x y μ => R.of ((inD μ x y).map fun b => .bl (!b)) μ
theorem inL_def {e : D → Option Bool} : ∀ {ys : List D} {b : Bool}, inL e ys = some b → ∀ y ∈ ys, ∃ c, e y = some c
  | [], _, _, _, h => by cases h
  | y :: ys, b, h, z, hz => by
    unfold inL at h
    cases e1 : e y with
    | none => rw [e1] at h; cases h
    | some a =>
      cases e2 : inL e ys with
      | none => rw [e1, e2] at h; cases h
      | some c =>
        rcases List.mem_cons.mp hz with rfl | hz
        · exact ⟨a, e1⟩
        · exact inL_def e2 z hz
theorem inL_iff {e : D → Option Bool} : ∀ {ys : List D} {b : Bool}, inL e ys = some b → (b = true ↔ ∃ y ∈ ys, e y = some true)
  | [], b, h => by
    simp [inL] at h
    subst h
    simp
  | y :: ys, b, h => by
    unfold inL at h
    cases e1 : e y with
    | none => rw [e1] at h; cases h
    | some a =>
      cases e2 : inL e ys with
      | none => rw [e1, e2] at h; cases h
      | some c =>
        rw [e1, e2] at h
        cases h
        have ih := inL_iff e2
        simp [e1, ih]
def backV : Value → Option V
  | .none => some .non
  | .bool b => some (.bl b)
  | .int i _ => some (.int i)
  | .str x _ => some (.str x)
  | .bytes b _ => some (.byt b)
  | .float b _ => some (.flt b)
  | .ref a => some (.ref a)
  | .type n => some (.ty n)
  | _ => none
theorem backV_of {v : V} {p : Value} (h : RelV v p) : backV p = some v := by
  cases v with
  | non => cases h; rfl
  | bl b => cases h; rfl
  | int i => obtain ⟨t, rfl⟩ := h; rfl
  | str i => obtain ⟨t, rfl⟩ := h; rfl
  | byt i => obtain ⟨t, rfl⟩ := h; rfl
  | flt i => obtain ⟨t, rfl⟩ := h; rfl
  | ref a => cases h; rfl
  | ty n => cases h; rfl
theorem relV_inj {u v : V} {p : Value} (h : RelV u p) (h' : RelV v p) : u = v := by
  have e := backV_of h
  rw [backV_of h'] at e
  exact (Option.some.inj e).symm
theorem eqL_det {K : PySem.W.Frag} {W : Wd} {e : D → D → Option Bool} (h : ∀ v x x' y c c', Rep K W v x → Rep K W v x' → e x y = some c → e x' y = some c' → c = c') : ∀ {vs : List V} {xs xs' ys : List D} {b b' : Bool}, Reps K W vs xs → Reps K W vs xs' → eqL e xs ys = some b → eqL e xs' ys = some b' → b = b'
  | _, _, _, [], b, b', .nil, .nil, q, q' => by
    simp [eqL] at q q'
    rw [q, q']
  | _, _, _, _ :: _, b, b', .nil, .nil, q, q' => by
    simp [eqL] at q q'
    rw [q, q']
  | _, _, _, [], b, b', .cons _ _, .cons _ _, q, q' => by
    simp [eqL] at q q'
    rw [q, q']
  | _, _, _, y :: ys, b, b', .cons (d := d) (ds := ds) r1 t1, .cons (d := d') (ds := ds') r2 t2, q, q' => by
    unfold eqL at q q'
    cases e1 : e d y with
    | none => rw [e1] at q; cases q
    | some a =>
      cases e2 : eqL e ds ys with
      | none => rw [e1, e2] at q; cases q
      | some c =>
        cases e3 : e d' y with
        | none => rw [e3] at q'; cases q'
        | some a' =>
          cases e4 : eqL e ds' ys with
          | none => rw [e3, e4] at q'; cases q'
          | some c' =>
            rw [e1, e2] at q
            rw [e3, e4] at q'
            cases q
            cases q'
            rw [h _ d d' y a a' r1 r2 e1 e3, eqL_det h t1 t2 e2 e4]
section
variable {X : Cx} {pins : List (Addr × Obj)} {σ : St} {H : Hp} {s : Shared} {W : Wd} {μ : Mu} {E : XK}
theorem eqD_det (I : Inv X pins σ H s) (ok : Ok X.K W H μ) : ∀ (n : Nat) (v : V) (d d' e : D) (b b' : Bool), Rep X.K W v d → Rep X.K W v d' → eqD n d e = some b → eqD n d' e = some b' → b = b'
  | 0, _, _, _, _, _, _, _, _, h, _ => by simp [eqD] at h
  | n + 1, v, d, d', e, b, b', r1, r2, h, h' => by
    have again : ∀ v x x' y c c', Rep X.K W v x → Rep X.K W v x' → eqD n x y = some c → eqD n x' y = some c' → c = c' := fun v x x' y c c' a1 a2 a3 a4 => eqD_det I ok n v x x' y c c' a1 a2 a3 a4
    unfold eqD at h h'
    cases k1 : d.kd with
    | none => rw [k1] at h; cases h
    | flat u1 =>
      obtain ⟨rfl, f1⟩ := kd_flat r1 k1
      have k2 : d'.kd = .flat v := by
        cases k2 : d'.kd with
        | none => rw [k2] at h'; cases h'
        | flat u2 => obtain ⟨rfl, _⟩ := kd_flat r2 k2; rfl
        | tup ys => obtain ⟨a, vs, rfl, _⟩ := kd_tup r2 k2; simp [flatV] at f1
        | lst ys => obtain ⟨a, vs, rfl, _⟩ := kd_lst r2 k2; simp [flatV] at f1
      rw [k1] at h
      rw [k2] at h'
      rw [h] at h'
      exact Option.some.inj h'
    | tup xs =>
      obtain ⟨a, vs, rfl, h1, q1⟩ := kd_tup r1 k1
      cases k2 : d'.kd with
      | none => rw [k2] at h'; cases h'
      | flat u2 => obtain ⟨rfl, f⟩ := kd_flat r2 k2; simp [flatV] at f
      | lst ys =>
        obtain ⟨a', us, e', h2, q2⟩ := kd_lst r2 k2
        cases e'
        obtain ⟨its, _, ⟨o, e1, c1, _⟩, _⟩ := I.tuple (same_t ok.sub h1)
        obtain ⟨its', _, ⟨o', n', e2, c2, _⟩, _⟩ := I.list (same_lq ok.sub h2).sq
        rw [e1] at e2
        cases e2
        rw [c1] at c2
        exact absurd c2 (by decide)
      | tup ys =>
        obtain ⟨a', us, e', h2, q2⟩ := kd_tup r2 k2
        cases e'
        have ev := I.tuple_inj (same_t ok.sub h1) (same_t ok.sub h2)
        subst ev
        rw [k1] at h
        rw [k2] at h'
        cases k3 : e.kd with
        | none => rw [k3] at h; cases h
        | flat u3 => rw [k3] at h h'; rw [← Option.some.inj h, ← Option.some.inj h']
        | lst zs => rw [k3] at h h'; rw [← Option.some.inj h, ← Option.some.inj h']
        | tup zs => rw [k3] at h h'; exact eqL_det again q1 q2 h h'
    | lst xs =>
      obtain ⟨a, vs, rfl, h1, q1⟩ := kd_lst r1 k1
      cases k2 : d'.kd with
      | none => rw [k2] at h'; cases h'
      | flat u2 => obtain ⟨rfl, f⟩ := kd_flat r2 k2; simp [flatV] at f
      | tup ys =>
        obtain ⟨a', us, e', h2, q2⟩ := kd_tup r2 k2
        cases e'
        obtain ⟨its, _, ⟨o, e1, c1, _⟩, _⟩ := I.tuple (same_t ok.sub h2)
        obtain ⟨its', _, ⟨o', n', e2, c2, _⟩, _⟩ := I.list (same_lq ok.sub h1).sq
        rw [e1] at e2
        cases e2
        rw [c1] at c2
        exact absurd c2 (by decide)
      | lst ys =>
        obtain ⟨a', us, e', h2, q2⟩ := kd_lst r2 k2
        cases e'
        have ev := I.list_inj (same_lq ok.sub h1).sq (same_lq ok.sub h2).sq
        subst ev
        rw [k1] at h
        rw [k2] at h'
        cases k3 : e.kd with
        | none => rw [k3] at h; cases h
        | flat u3 => rw [k3] at h h'; rw [← Option.some.inj h, ← Option.some.inj h']
        | tup zs => rw [k3] at h h'; rw [← Option.some.inj h, ← Option.some.inj h']
        | lst zs => rw [k3] at h h'; exact eqL_det again q1 q2 h h'
open Classical in
/-- each item's answer, by the item's own value -/
theorem in_items (I : Inv X pins σ H s) (ok : Ok X.K W H μ) {A : Around} (hu : A.units + 20 < cLine) {x : D} {vx : V} {ux : Value} (rx : Rep X.K W vx x) (wx : RelV vx ux) {ys : List D} {vs : List V} {us : List Value} {b : Bool} (rs : Reps X.K W vs ys) (ws : Vals vs us) (h : inL (fun d => eqD 20 d x) ys = some b) :
    ∃ e : Value → Bool, (∀ u, u ∈ us → SeqAt.EqAt A s u ux (e u)) ∧ us.any e = b := by
  have tri : ∀ (i : Nat) u, us[i]? = some u → ∃ v y c, vs[i]? = some v ∧ ys[i]? = some y ∧ RelV v u ∧ Rep X.K W v y ∧ eqD 20 y x = some c := fun i u hi => by
    have hl : i < vs.length := by rw [ws.length]; exact (List.getElem?_eq_some_iff.mp hi).1
    have hv : vs[i]? = some vs[i] := List.getElem?_eq_getElem hl
    obtain ⟨u', e1, w1⟩ := ws.get hv
    rw [hi] at e1
    cases e1
    obtain ⟨y, e2, r2⟩ := rs.getV hv
    obtain ⟨c, hc⟩ := inL_def h y (List.mem_of_getElem? e2)
    exact ⟨_, y, c, hv, e2, w1, r2, hc⟩
  let e : Value → Bool := fun u => decide (∃ (i : Nat) (y : D), us[i]? = some u ∧ ys[i]? = some y ∧ eqD 20 y x = some true)
  have val : ∀ (i : Nat) u y c, us[i]? = some u → ys[i]? = some y → eqD 20 y x = some c → e u = c := fun i u y c h1 h2 h3 => by
    cases c with
    | true => exact decide_eq_true ⟨i, y, h1, h2, h3⟩
    | false =>
      refine decide_eq_false fun ⟨j, y', h4, h5, h6⟩ => ?_
      obtain ⟨v, y1, c1, hv, hy, w, r, hc⟩ := tri i u h1
      rw [h2] at hy
      cases hy
      obtain ⟨v', y2, c2, hv', hy', w', r', hc'⟩ := tri j u h4
      rw [h5] at hy'
      cases hy'
      have ev := relV_inj w w'
      subst ev
      exact absurd (eqD_det I ok 20 v y y' x false true r r' h3 h6) (by decide)
  refine ⟨e, fun u hm => ?_, ?_⟩
  · obtain ⟨i, hi, eu⟩ := List.mem_iff_getElem.mp hm
    have hi' : us[i]? = some u := by rw [List.getElem?_eq_getElem hi, eu]
    obtain ⟨v, y, c, hv, hy, w, r, hc⟩ := tri i u hi'
    rw [val i u y c hi' hy hc]
    exact (eqD_at I ok 20 A y x c v vx u ux hu r rx w wx hc).2
  · have hb := inL_iff h
    cases b with
    | true =>
      obtain ⟨y, hy, hc⟩ := hb.mp rfl
      obtain ⟨i, hi, ey⟩ := List.mem_iff_getElem.mp hy
      have hl : i < us.length := by rw [← ws.length, rs.length]; exact hi
      rw [List.any_eq_true]
      exact ⟨us[i], List.getElem_mem hl, val i us[i] y true (List.getElem?_eq_getElem hl) (by rw [List.getElem?_eq_getElem hi, ey]) hc⟩
    | false =>
      rw [List.any_eq_false]
      intro u hm q
      have q : e u = true := q
      obtain ⟨i, y, h1, h2, h3⟩ := of_decide_eq_true q
      exact absurd (hb.mpr ⟨y, List.mem_of_getElem? h2, h3⟩) (by decide)
theorem opx_in (hu : X.A.units + 64 < cLine) : OpX X E (compareOp .In) dIn := by
  intro pins s σ H x y v u Q I rx ry q
  obtain ⟨W, μ, dx, dy, ok, r1, r2, p⟩ := q
  unfold dIn at p
  revert p
  cases h : inD μ dx dy with
  | none => exact fun p => p.elim
  | some b =>
    intro p
    have fin : EP X pins σ Q (.bool b) s := ⟨.bl b, H, I, rfl, post_pure ok p (.bl b)⟩
    have seqs : ∀ ys, seqD μ dy = some ys → inL (fun d => eqD 20 d dx) ys = some b → wpAny (model X.prog X.w) X.A (compareOp .In v u) (EP X pins σ Q) X.xe s := fun ys e1 e2 => by
      obtain ⟨a, vs, rfl, rs, sq⟩ := seq_rep ok r2 e1
      cases ry
      rcases sq with sq | sq
      · obtain ⟨its, rv, pl, _⟩ := I.list sq
        obtain ⟨e, he, hb⟩ := in_items I ok (A := X.A.in1) (by show X.A.units + 1 + 20 < cLine; omega) r1 rx rs rv e2
        refine SeqAt.in_listAt e pl.isList (fun w hw => he w (by simpa using hw)) ?_
        have : its.toArray.any e = its.any e := by simp
        rw [this, hb]
        exact fin
      · obtain ⟨its, rv, pl, _⟩ := I.tuple sq
        obtain ⟨e, he, hb⟩ := in_items I ok (A := X.A.in1) (by show X.A.units + 1 + 20 < cLine; omega) r1 rx rs rv e2
        refine SeqAt.in_tupleAt e (show s.heap.IsTuple a its.toArray from pl) (fun w hw => he w (by simpa using hw)) ?_
        have : its.toArray.any e = its.any e := by simp
        rw [this, hb]
        exact fin
    cases r2 with
    | str z hz =>
      unfold inD at h
      cases r1 with
      | str w hw =>
        dsimp only at h
        split at h
        · rename_i c hc
          cases h
          have ew : w = ⟨#[c]⟩ := by
            obtain ⟨l⟩ := w
            congr 1
            exact Array.toList_inj.mp (by simpa using hc)
          subst ew
          exact op_in_sign pins s σ H _ _ v u Q I rx ry ⟨c, z, rfl, rfl, post_pure ok p (.bl _)⟩
        · cases h
          exact op_in_str pins s σ H _ _ v u Q I rx ry ⟨w, z, rfl, rfl, post_pure ok p (.bl _)⟩
      | _ => cases h
    | lst z1 h1 q1 => exact seqs _ rfl (by simpa [inD, seqD] using h)
    | tup z1 h1 q1 => exact seqs _ rfl (by simpa [inD, seqD] using h)
    | @hdl a l ha =>
      unfold inD at h
      dsimp only at h
      cases hs : seqD μ (.hdl l) with
      | none => rw [hs] at h; cases h
      | some ys => rw [hs] at h; exact seqs ys hs h
    | _ => simp [inD, seqD] at h
theorem opx_notin (hu : X.A.units + 64 < cLine) : OpX X E (compareOp .NotIn) dNotIn := by
  intro pins s σ H x y v u Q I rx ry q
  obtain ⟨W, μ, dx, dy, ok, r1, r2, p⟩ := q
  unfold dNotIn at p
  revert p
  cases h : inD μ dx dy with
  | none => exact fun p => p.elim
  | some b =>
    intro p
    have fin : EP X pins σ Q (.bool (!b)) s := ⟨.bl (!b), H, I, rfl, post_pure ok p (.bl _)⟩
    have seqs : ∀ ys, seqD μ dy = some ys → inL (fun d => eqD 20 d dx) ys = some b → wpAny (model X.prog X.w) X.A (compareOp .NotIn v u) (EP X pins σ Q) X.xe s := fun ys e1 e2 => by
      obtain ⟨a, vs, rfl, rs, sq⟩ := seq_rep ok r2 e1
      cases ry
      rcases sq with sq | sq
      · obtain ⟨its, rv, pl, _⟩ := I.list sq
        obtain ⟨e, he, hb⟩ := in_items I ok (A := X.A.in1) (by show X.A.units + 1 + 20 < cLine; omega) r1 rx rs rv e2
        refine SeqAt.notIn_listAt e pl.isList (fun w hw => he w (by simpa using hw)) ?_
        have : its.toArray.any e = its.any e := by simp
        rw [this, hb]
        exact fin
      · obtain ⟨its, rv, pl, _⟩ := I.tuple sq
        obtain ⟨e, he, hb⟩ := in_items I ok (A := X.A.in1) (by show X.A.units + 1 + 20 < cLine; omega) r1 rx rs rv e2
        refine SeqAt.notIn_tupleAt e (show s.heap.IsTuple a its.toArray from pl) (fun w hw => he w (by simpa using hw)) ?_
        have : its.toArray.any e = its.any e := by simp
        rw [this, hb]
        exact fin
    cases r2 with
    | str z hz =>
      unfold inD at h
      cases r1 with
      | str w hw =>
        dsimp only at h
        split at h
        · rename_i c hc
          cases h
          have ew : w = ⟨#[c]⟩ := by
            obtain ⟨l⟩ := w
            congr 1
            exact Array.toList_inj.mp (by simpa using hc)
          subst ew
          exact op_notIn_sign pins s σ H _ _ v u Q I rx ry ⟨c, z, rfl, rfl, post_pure ok p (.bl _)⟩
        · cases h
          exact op_notIn_str pins s σ H _ _ v u Q I rx ry ⟨w, z, rfl, rfl, post_pure ok p (.bl _)⟩
      | _ => cases h
    | lst z1 h1 q1 => exact seqs _ rfl (by simpa [inD, seqD] using h)
    | tup z1 h1 q1 => exact seqs _ rfl (by simpa [inD, seqD] using h)
    | @hdl a l ha =>
      unfold inD at h
      dsimp only at h
      cases hs : seqD μ (.hdl l) with
      | none => rw [hs] at h; cases h
      | some ys => rw [hs] at h; exact seqs ys hs h
    | _ => simp [inD, seqD] at h
end
end DL
/-! DL7: built-in calls, items, slices, methods, calls with keywords. -/
namespace DL
open PySem L2

/-! ### calls of built-ins -/
def rC (K : PySem.W.Frag) (E : XK) (g : List D → Mu → R D) : List V → Hp → VK → Prop := fun xs H Q => ∃ W μ ds, Ok K W H μ ∧ Reps K W xs ds ∧ postE K E W H (g ds μ) Q
abbrev CallX (X : Cx) (E : XK) (f : Value) (g : List D → Mu → R D) : Prop := CallR X f (rC X.K E g)
theorem callx {X : Cx} {E : XK} {f : Value} {g : List D → Mu → R D} (h : ∀ W H μ ds xs Q, Ok X.K W H μ → Reps X.K W xs ds → postE X.K E W H (g ds μ) Q → ∃ r, CallR X f r ∧ r xs H Q) : CallX X E f g := by
  intro pins s σ H xs us Q I rx q
  obtain ⟨W, μ, ds, ok, r1, p⟩ := q
  obtain ⟨r, o, z⟩ := h W H μ ds xs Q ok r1 p
  exact o pins s σ H xs us Q I rx z
def dcallB (g : List D → Mu → R D) (fa : FA) : FE := fun ρ μ => (fa ρ μ).bind fun ds μ1 => g ds μ1
section
variable {X : Cx} {E : XK} {x : Str} {p pos : Pos} {e : Expr} {es : List Expr} {fa : FA} {g : List D → Mu → R D}
theorem tCB_of : ∀ σ H Q, rE X.K E (dcallB g fa) σ H Q → tCB (rC X.K E g) (rA X.K E fa) σ H Q := fun σ H Q ⟨W, ρ, μ, ok, en, p⟩ =>
  seqA p ok en fun ds μ1 W1 xs H1 g1 o1 en1 r p1 => ⟨W1, μ1, ds, o1, r, p1⟩
theorem de_callB {id : String} (hc : CallX X E (.builtin id) g) (hm : X.mg x = none) (ha : DA X E (e :: es) fa) (hg : Gl X x := by rfl) (hv : bootBuiltins x = some (.builtin id) := by decide +kernel) (hn : x ≠ "__name__" := by decide) (hdb : (x == ("__debug__" : Str)) = false := by decide)
    (he : starEach (e :: es) X.env = (false, eval e X.env) :: starEach es X.env := by rfl) (hpl : (backTo pos (starEach es X.env)).any (·.1) = false := by rfl) : DE X E (.Call (.Name x p) (e :: es) [] pos) (dcallB g fa) :=
  pe_imp (pe_callB hc hg hm hv ha hn hdb he hpl) tCB_of
theorem de_callTy {T : String} (hc : CallX X E (.type T) g) (hm : X.mg x = none) (ha : DA X E (e :: es) fa) (hg : Gl X x := by rfl) (hv : bootBuiltins x = some (.type T) := by decide +kernel) (hn : x ≠ "__name__" := by decide) (hdb : (x == ("__debug__" : Str)) = false := by decide)
    (he : starEach (e :: es) X.env = (false, eval e X.env) :: starEach es X.env := by rfl) (hpl : (backTo pos (starEach es X.env)).any (·.1) = false := by rfl) : DE X E (.Call (.Name x p) (e :: es) [] pos) (dcallB g fa) :=
  pe_imp (pe_callTy hc hg hm hv ha hn hdb he hpl) tCB_of
end
def lenD (μ : Mu) : D → Option Nat
  | .str x => some x.length
  | d => (seqD μ d).map (·.length)
def bLen : List D → Mu → R D
  | [d], μ => match lenD μ d with
    | some n => .ok (.int n) μ
    | none => .bad
  | _, _ => .bad
def bAbs : List D → Mu → R D
  | [.int i], μ => .ok (.int (if i < 0 then -i else i)) μ
  | _, _ => .bad
def bMax : List D → Mu → R D
  | [.int i, .int j], μ => .ok (.int (if j > i then j else i)) μ
  | _, _ => .bad
def bMin : List D → Mu → R D
  | [.int i, .int j], μ => .ok (.int (if j < i then j else i)) μ
  | _, _ => .bad
def bInt : List D → Mu → R D
  | [.int i], μ => .ok (.int i) μ
  | [.bl b], μ => .ok (.int (if b then 1 else 0)) μ
  | _, _ => .bad
def bools : List D → Option (List Bool)
  | [] => some []
  | .bl b :: ds => (bools ds).map (b :: ·)
  | _ => none
def bAll : List D → Mu → R D
  | [.lst ds], μ => match bools ds with
    | some bs => .ok (.bl (bs.all id)) μ
    | none => .bad
  | _, _ => .bad
def bAny : List D → Mu → R D
  | [.lst ds], μ => match bools ds with
    | some bs => .ok (.bl (bs.any id)) μ
    | none => .bad
  | _, _ => .bad
theorem bools_rep {K : PySem.W.Frag} {W : Wd} : ∀ {vs : List V} {ds : List D} {bs : List Bool}, Reps K W vs ds → bools ds = some bs → vs = bs.map V.bl
  | _, _, _, .nil, h => by
    simp [bools] at h
    subst h
    rfl
  | _, _, bs, .cons (d := d) (ds := ds) r rs, h => by
    cases d with
    | bl b =>
      cases r
      unfold bools at h
      cases e : bools ds with
      | none => rw [e] at h; cases h
      | some cs =>
        rw [e] at h
        cases h
        rw [bools_rep rs e]
        rfl
    | _ => simp [bools] at h
section
variable {X : Cx} {E : XK}
theorem cx_len : CallX X E (.builtin "len") bLen := callx fun W H μ ds xs Q ok r p => by
  unfold bLen at p
  split at p
  · rename_i d
    cases r with
    | cons r1 r2 =>
      cases r2
      split at p
      · rename_i n hn
        refine ⟨_, call_len, _, n, rfl, ?_, post_pure ok p (.int _)⟩
        cases r1 with
        | str x z =>
          simp [lenD] at hn
          exact ⟨z, hn.symm⟩
        | lst z h q =>
          simp [lenD, seqD] at hn
          exact .inl ⟨_, (same_lq ok.sub h).sq, by rw [← hn, q.length]⟩
        | tup z h q =>
          simp [lenD, seqD] at hn
          exact .inr ⟨_, same_t ok.sub h, by rw [← hn, q.length]⟩
        | @hdl a l ha =>
          unfold lenD at hn
          dsimp only at hn
          cases hs : seqD μ (.hdl l) with
          | none => rw [hs] at hn; cases hn
          | some ys =>
            rw [hs] at hn
            cases hn
            obtain ⟨a', vs, e, rs, sq⟩ := seq_rep ok (.hdl ha) hs
            cases e
            rcases sq with sq | sq
            · exact .inl ⟨vs, sq, by rw [rs.length]⟩
            · exact .inr ⟨vs, sq, by rw [rs.length]⟩
        | _ => simp [lenD, seqD] at hn
      · exact p.elim
  · exact p.elim
theorem cx_abs : CallX X E (.builtin "abs") bAbs := callx fun W H μ ds xs Q ok r p => by
  unfold bAbs at p
  split at p
  · cases r with
    | cons r1 r2 =>
      cases r2
      cases r1
      exact ⟨_, call_abs, _, rfl, post_pure ok p (.int _)⟩
  · exact p.elim
theorem cx_max (hc : X.calm = true) : CallX X E (.builtin "max") bMax := callx fun W H μ ds xs Q ok r p => by
  unfold bMax at p
  split at p
  · cases r with
    | cons r1 r2 =>
      cases r2 with
      | cons r2 r3 =>
        cases r3
        cases r1
        cases r2
        exact ⟨_, call_max2 hc, _, _, rfl, post_pure ok p (.int _)⟩
  · exact p.elim
theorem cx_min (hc : X.calm = true) : CallX X E (.builtin "min") bMin := callx fun W H μ ds xs Q ok r p => by
  unfold bMin at p
  split at p
  · cases r with
    | cons r1 r2 =>
      cases r2 with
      | cons r2 r3 =>
        cases r3
        cases r1
        cases r2
        exact ⟨_, call_min2 hc, _, _, rfl, post_pure ok p (.int _)⟩
  · exact p.elim
theorem cx_int : CallX X E (.type "int") bInt := callx fun W H μ ds xs Q ok r p => by
  unfold bInt at p
  split at p
  · cases r with
    | cons r1 r2 =>
      cases r2
      cases r1
      exact ⟨_, call_int1, .inl ⟨_, rfl, post_pure ok p (.int _)⟩⟩
  · cases r with
    | cons r1 r2 =>
      cases r2
      cases r1
      exact ⟨_, call_int1, .inr ⟨_, rfl, post_pure ok p (.int _)⟩⟩
  · exact p.elim
theorem cx_all (hc : X.calm = true) : CallX X E (.builtin "all") bAll := callx fun W H μ ds xs Q ok r p => by
  unfold bAll at p
  split at p
  · cases r with
    | cons r1 r2 =>
      cases r2
      split at p
      · rename_i bs hb
        cases r1 with
        | lst z h q =>
          have e := bools_rep q hb
          subst e
          exact ⟨_, cr_all hc, _, bs, rfl, (same_lq ok.sub h).sq, post_pure ok p (.bl _)⟩
      · exact p.elim
  · exact p.elim
theorem cx_any (hc : X.calm = true) : CallX X E (.builtin "any") bAny := callx fun W H μ ds xs Q ok r p => by
  unfold bAny at p
  split at p
  · cases r with
    | cons r1 r2 =>
      cases r2
      split at p
      · rename_i bs hb
        cases r1 with
        | lst z h q =>
          have e := bools_rep q hb
          subst e
          exact ⟨_, cr_any hc, _, bs, rfl, (same_lq ok.sub h).sq, post_pure ok p (.bl _)⟩
      · exact p.elim
  · exact p.elim
end

/-! ### repr -/
mutual
def D.py : D → Option PyData
  | .non => some .none
  | .bl b => some (.bool b)
  | .int i => some (.int i)
  | .str x => some (.str x)
  | .tup xs => (D.pys xs).map .tuple
  | .lst xs => (D.pys xs).map .list
  | _ => none
def D.pys : List D → Option (List PyData)
  | [] => some []
  | x :: xs => match x.py, D.pys xs with
    | some p, some ps => some (p :: ps)
    | _, _ => none
end
mutual
theorem py_dp {K : PySem.W.Frag} {W : Wd} {H : Hp} {μ : Mu} (ok : Ok K W H μ) : ∀ {v : V} {d : D} {q : PyData}, Rep K W v d → d.py = some q → Dp K H v q
  | _, _, q, .non, h => by
    simp [D.py] at h
    subst h
    exact .non
  | _, _, q, .bl b, h => by
    simp [D.py] at h
    subst h
    exact .bl b
  | _, _, q, .int i, h => by
    simp [D.py] at h
    subst h
    exact .int i
  | _, _, q, .str x z, h => by
    simp [D.py] at h
    subst h
    exact .str x
  | _, _, q, .tup (ds := ds) z h1 r, h => by
    unfold D.py at h
    cases e : D.pys ds with
    | none => rw [e] at h; cases h
    | some ps =>
      rw [e] at h
      cases h
      exact .tup (same_t ok.sub h1) (pys_dp ok r e)
  | _, _, q, .lst (ds := ds) z h1 r, h => by
    unfold D.py at h
    cases e : D.pys ds with
    | none => rw [e] at h; cases h
    | some ps =>
      rw [e] at h
      cases h
      exact .lst ((same_lq ok.sub h1).sq) (pys_dp ok r e)
  | _, _, q, .hdl _, h => by simp [D.py] at h
  | _, _, q, .cst _, h => by simp [D.py] at h
  | _, _, q, .obj _ _ _, h => by simp [D.py] at h
theorem pys_dp {K : PySem.W.Frag} {W : Wd} {H : Hp} {μ : Mu} (ok : Ok K W H μ) : ∀ {vs : List V} {ds : List D} {qs : List PyData}, Reps K W vs ds → D.pys ds = some qs → DpAll K H vs qs
  | _, _, qs, .nil, h => by
    simp [D.pys] at h
    subst h
    exact .nil
  | _, _, qs, .cons (d := d) (ds := ds) r rs, h => by
    unfold D.pys at h
    cases e1 : d.py with
    | none => rw [e1] at h; cases h
    | some p =>
      cases e2 : D.pys ds with
      | none => rw [e1, e2] at h; cases h
      | some ps =>
        rw [e1, e2] at h
        cases h
        exact .cons (py_dp ok r e1) (pys_dp ok rs e2)
end
/-- the text of a thing, where it is short enough -/
def reprD (d : D) : Option Str := match d.py with
  | some p => if p.showable = true ∧ p.hasDict = false ∧ p.depth ≤ 40 ∧ p.shown.length ≤ 1000000 then some p.shown else none
  | none => none
def bRepr : List D → Mu → R D
  | [d], μ => R.of ((reprD d).map .str) μ
  | _, _ => .bad
theorem cx_repr {X : Cx} {E : XK} (hg : X.A.guards = some []) (hu : X.A.units + 64 < cLine) : CallX X E (.builtin "repr") bRepr := by
  intro pins s σ H xs us Q I rx q
  obtain ⟨W, μ, ds, ok, r1, p⟩ := q
  unfold bRepr at p
  split at p
  · rename_i d
    revert p
    unfold reprD
    cases hp : d.py with
    | none => exact fun p => p.elim
    | some q =>
      dsimp only
      by_cases hc : q.showable = true ∧ q.hasDict = false ∧ q.depth ≤ 40 ∧ q.shown.length ≤ 1000000
      · rw [if_pos hc]
        intro p
        obtain ⟨c1, c2, c3, c4⟩ := hc
        cases r1 with
        | cons r1 r2 =>
          cases r2
          cases rx with
          | cons w1 w2 =>
            cases w2
            rename_i v u
            have fin : ∀ h' tk tk', (∀ b o, s.heap.get? b = some o → h'.get? b = some o) → EP X pins σ Q (.str q.shown tk) { s with heap := h', toks := tk' } := fun h' tk tk' hk => ⟨.str q.shown, H, I.kept hk, ⟨_, rfl⟩, post_pure ok p (.str _ (le_line c4))⟩
            have dp := py_dp ok r1 hp
            obtain ⟨as, rd⟩ := Dp.reads I q v u dp w1
            cases v with
            | ref a =>
              cases w1
              exact repr_of_reads' rd c1 (PyData.noDict_hsm c2) hg (by omega) (fun _ _ e => e) (fun h' tk tk' hk => fin h' tk tk' hk) (le_line c4)
            | non =>
              cases w1
              cases dp
              exact PySem.P.repr_of_none (fin _ _ _ fun _ _ e => e)
            | bl b =>
              cases w1
              cases dp
              exact PySem.P.repr_of_bool (fin _ _ _ fun _ _ e => e)
            | int i =>
              obtain ⟨t, rfl⟩ := w1
              cases dp
              exact PySem.P.repr_of_int (by simpa [PyData.showable] using c1) (fin _ _ _ fun _ _ e => e)
            | str x =>
              obtain ⟨t, rfl⟩ := w1
              cases dp
              exact PySem.P.repr_of_str (fin _ _ _ fun _ _ e => e) (le_line c4)
            | _ => cases dp
      · rw [if_neg hc]
        exact fun p => p.elim
  · exact p.elim

/-! ### items and slices -/
def ixD (μ : Mu) (x i : D) : Option D := match i with
  | .int k => match x with
    | .str z => (atI z.cps.toList k).map fun c => .str ⟨#[c]⟩
    | x => (seqD μ x).bind fun xs => atI xs k
  | _ => none
def dIx : D → D → Mu → R D := fun x i μ => R.of (ixD μ x i) μ
theorem Reps.atI {K : PySem.W.Frag} {W : Wd} {vs : List V} {ds : List D} {i : Int} {d : D} (r : Reps K W vs ds) (h : atI ds i = some d) : ∃ v, L2.atI vs i = some v ∧ Rep K W v d := by
  unfold L2.atI at h ⊢
  rw [r.length]
  cases e : ixN ds.length i with
  | none => rw [e] at h; cases h
  | some j =>
    rw [e] at h
    exact r.get h
section
variable {X : Cx} {E : XK}
theorem ixx {g : D → D → Mu → R D} (h : ∀ W H μ dx dy vx vy Q, Ok X.K W H μ → Rep X.K W vx dx → Rep X.K W vy dy → postE X.K E W H (g dx dy μ) Q → ∃ r, IxR X r ∧ r vx vy H Q) : IxR X (rD X.K E g) := by
  intro value slice pins s σ H x y v u Q I rx ry q hs
  obtain ⟨W, μ, dx, dy, ok, r1, r2, p⟩ := q
  obtain ⟨r, o, z⟩ := h W H μ dx dy x y Q ok r1 r2 p
  exact o value slice pins s σ H x y v u Q I rx ry z hs
theorem ixx_all : IxR X (rD X.K E dIx) := ixx fun W H μ dx dy vx vy Q ok r1 r2 p => by
  unfold dIx at p
  revert p
  cases h : ixD μ dx dy with
  | none => exact fun p => p.elim
  | some d =>
    intro p
    unfold ixD at h
    cases r2 with
    | int k =>
      dsimp only at h
      have go : ∀ ys, seqD μ dx = some ys → L2.atI ys k = some d → ∃ r, IxR X r ∧ r vx (.int k) H Q := fun ys e1 e2 => by
        obtain ⟨a, vs, rfl, rs, sq⟩ := seq_rep ok r1 e1
        obtain ⟨v, e3, r3⟩ := rs.atI e2
        rcases sq with sq | sq
        · exact ⟨_, ix_list, _, _, _, v, rfl, rfl, sq, e3, post_pure ok p r3⟩
        · exact ⟨_, ix_tup, _, _, _, v, rfl, rfl, sq, e3, post_pure ok p r3⟩
      cases r1 with
      | str z hz =>
        dsimp only at h
        cases e : L2.atI z.cps.toList k with
        | none => rw [e] at h; cases h
        | some c =>
          rw [e] at h
          cases h
          exact ⟨_, ix_str, z, k, c, rfl, rfl, hz, e, post_pure ok p (.str _ (by show 1 ≤ sizeLine; decide))⟩
      | lst z h1 q1 => exact go _ rfl (by simpa [seqD] using h)
      | tup z h1 q1 => exact go _ rfl (by simpa [seqD] using h)
      | @hdl a l ha =>
        dsimp only at h
        cases hs : seqD μ (.hdl l) with
        | none => rw [hs] at h; cases h
        | some ys => rw [hs] at h; exact go ys hs h
      | _ => simp [seqD] at h
    | _ => simp at h
theorem de_ix {a b : Expr} {fa fb : FE} {pos : Pos} (ha : DE X E a fa) (hb : DE X E b fb) (hs : PlainIx b := by exact fun _ _ => rfl) : DE X E (.Subscript a b pos) (dbin dIx fa fb) := pe_imp (pe_ix ixx_all ha hb hs) (tOp_of opd_D)
/-- a part of a slice -/
abbrev FO := En → Mu → R (Option Int)
def postO (K : PySem.W.Frag) (E : XK) (W : Wd) (H : Hp) (r : R (Option Int)) (Q : Option Int → Hp → Prop) : Prop := match r with
  | .ok o μ => ∀ W' H', Go W H W' H' → Ok K W' H' μ → Q o H'
  | .ex c fs μ => ∀ W' H' d, Go W H W' H' → Ok K W' H' μ → ExcIs K W' H' fs d → E (.ref c) d H'
  | .bad => False
def rO (K : PySem.W.Frag) (E : XK) (f : FO) : TO := fun σ H Q => ∃ W ρ μ, Ok K W H μ ∧ Envs K W σ ρ ∧ postO K E W H (f ρ μ) Q
abbrev DO (X : Cx) (E : XK) (e : Option Expr) (f : FO) : Prop := PO X e (rO X.K E f)
theorem po_imp {e : Option Expr} {t t' : TO} (h : PO X e t) (i : ∀ σ H Q, t' σ H Q → t σ H Q) : PO X e t' := ⟨fun pins s σ H Q I q => h.run pins s σ H Q I (i σ H Q q)⟩
def onone : FO := fun _ μ => .ok none μ
def osome (f : FE) : FO := fun ρ μ => (f ρ μ).bind fun d μ1 => match d with
  | .int i => .ok (some i) μ1
  | _ => .bad
theorem do_none : DO X E none onone := po_imp po_none fun σ H Q ⟨W, ρ, μ, ok, en, p⟩ => p W H (Go.refl _ _) ok
theorem do_some {e : Expr} {f : FE} (h : DE X E e f) : DO X E (some e) (osome f) := po_imp (po_some h) fun σ H Q ⟨W, ρ, μ, ok, en, p⟩ => by
  refine ⟨W, ρ, μ, ok, en, ?_⟩
  unfold osome at p
  revert p
  cases f ρ μ with
  | ok d μ1 =>
    rw [R.bind_ok]
    cases d with
    | int i =>
      intro p W1 v H1 g1 o1 r1
      cases r1
      exact ⟨i, rfl, p W1 H1 g1 o1⟩
    | _ => exact fun p => p.elim
  | ex c fs μ1 => exact fun p => p
  | bad => exact fun p => p
def cutD (xs : List D) (lo hi : Option Int) : List D := (xs.drop (HT.sIx xs.length 0 lo)).take (HT.sIx xs.length xs.length hi - HT.sIx xs.length 0 lo)
theorem Reps.cutV {K : PySem.W.Frag} {W : Wd} {vs : List V} {ds : List D} (r : Reps K W vs ds) (lo hi : Option Int) : Reps K W (L2.cutV vs lo hi) (cutD ds lo hi) := by
  unfold L2.cutV cutD
  rw [r.length]
  exact (r.drop _).take _
theorem cutD_len (xs : List D) (lo hi : Option Int) : (cutD xs lo hi).length ≤ xs.length := by
  unfold cutD
  rw [List.length_take, List.length_drop]
  omega
def slD (x : D) (lo hi : Option Int) : Option D := match x with
  | .lst xs => some (.lst (cutD xs lo hi))
  | .tup xs => some (.tup (cutD xs lo hi))
  | .str z => some (.str (cutS z lo hi))
  | _ => none
def dsl (fe : FE) (fl fh : FO) : FE := fun ρ μ => (fe ρ μ).bind fun x μ1 => (fl ρ μ1).bind fun lo μ2 => (fh ρ μ2).bind fun hi μ3 => R.of (slD x lo hi) μ3
def rSl (K : PySem.W.Frag) (E : XK) : V → Option Int → Option Int → Hp → VK → Prop := fun x lo hi H Q => ∃ W μ dx, Ok K W H μ ∧ Rep K W x dx ∧ postE K E W H (R.of (slD dx lo hi) μ) Q
theorem slr {r : V → Option Int → Option Int → Hp → VK → Prop} (h : ∀ x lo hi H Q, r x lo hi H Q → ∃ r', SlR X r' ∧ r' x lo hi H Q) : SlR X r := by
  intro pins s σ H x v vl vu lo hi sl Q I rx hs pl pu q
  obtain ⟨r', o, z⟩ := h x lo hi H Q q
  exact o pins s σ H x v vl vu lo hi sl Q I rx hs pl pu z
theorem cutS_len (z : Str) (lo hi : Option Int) : (cutS z lo hi).length ≤ z.length := by
  show (((z.cps.toList.drop _).take _).toArray).size ≤ z.cps.size
  rw [List.size_toArray, List.length_take, List.length_drop, Array.length_toList]
  omega
theorem sl_all : SlR X (rSl X.K E) := slr fun x lo hi H Q ⟨W, μ, dx, ok, r, p⟩ => by
  cases r with
  | lst z h q => exact ⟨_, sl_list, _, _, rfl, (same_lq ok.sub h).sq, fun a ha => p _ _ _ (Go.new ok ha) (ok.new ha) (rep_lst ok ha (Nat.le_trans (cutD_len _ _ _) z) (q.cutV lo hi))⟩
  | @tup a xs ds z h q =>
    refine ⟨_, sl_tupA, _, _, rfl, same_t ok.sub h, fun hw => ?_, fun _ b hb => p _ _ _ (Go.new ok hb) (ok.new hb) (rep_tup ok hb (Nat.le_trans (cutD_len _ _ _) z) (q.cutV lo hi))⟩
    have e : cutD ds lo hi = ds := by
      unfold cutD
      rw [← q.length, hw.1, hw.2]
      simp [q.length]
    exact post_pure ok p (by rw [e]; exact .tup z h q)
  | str y z => exact ⟨_, sl_str, y, rfl, z, post_pure ok p (.str _ (Nat.le_trans (cutS_len _ _ _) z))⟩
  | _ => exact p.elim
theorem de_slice {e : Expr} {lo hi : Option Expr} {fe : FE} {fl fh : FO} {p2 pos : Pos} (he : DE X E e fe) (hl : DO X E lo fl) (hh : DO X E hi fh) : DE X E (.Subscript e (.Slice lo hi none p2) pos) (dsl fe fl fh) := by
  refine pe_imp (pe_slice (sl_all (E := E)) he hl hh) fun σ H Q ⟨W, ρ, μ, ok, en, p⟩ => ?_
  refine seq p ok en fun x μ1 W1 v H1 g1 o1 en1 r p1 => ⟨W1, ρ, μ1, o1, en1, ?_⟩
  revert p1
  cases fl ρ μ1 with
  | ex c fs μ2 => exact fun p => p
  | bad => exact fun p => p
  | ok lo μ2 =>
    rw [R.bind_ok]
    intro p1 W2 H2 g2 o2
    refine ⟨W2, ρ, μ2, o2, en1.mono g2.le, ?_⟩
    have p2 := post.mono g2 p1
    revert p2
    cases fh ρ μ2 with
    | ex c fs μ3 => exact fun p => p
    | bad => exact fun p => p
    | ok hi μ3 =>
      rw [R.bind_ok]
      exact fun p2 W3 H3 g3 o3 => ⟨W3, μ3, x, o3, r.mono (g2.le.trans g3.le), post.mono g3 p2⟩
end

/-! ### methods of built-in types -/
def tyD (T : String) (d : D) (μ : Mu) : Bool := match d with
  | .str _ => T == "str"
  | .lst _ => T == "list"
  | .hdl l => match μ[l]? with
    | some (.lst _) => T == "list"
    | some (.dct _ _) => T == "dict"
    | some (.dtt _ _) => T == "dict"
    | _ => false
  | _ => false
theorem tyD_rep {K : PySem.W.Frag} {W : Wd} {H : Hp} {μ : Mu} {T : String} {v : V} {d : D} (ok : Ok K W H μ) (r : Rep K W v d) (h : tyD T d μ = true) : tyV K T v H := by
  cases r with
  | str x z => exact eq_of_beq h
  | lst z h1 q => exact .inl ⟨eq_of_beq h, _, (same_lq ok.sub h1).sq⟩
  | @hdl a l ha =>
    unfold tyD at h
    dsimp only at h
    cases hm : μ[l]? with
    | none => rw [hm] at h; cases h
    | some m =>
      rw [hm] at h
      obtain ⟨o, ho, c⟩ := ok.cell l a m ha hm
      cases m with
      | lst xs =>
        obtain ⟨vs, rfl, _⟩ := c
        exact .inl ⟨eq_of_beq h, _, .inl (.inl ho)⟩
      | dct ks xs =>
        obtain ⟨vs, rfl, _⟩ := c
        exact .inr (.inr (.inl ⟨eq_of_beq h, .inl ⟨_, ho⟩⟩))
      | dtt ks xs =>
        obtain ⟨vs, rfl, _⟩ := c
        exact .inr (.inr (.inl ⟨eq_of_beq h, .inr ⟨_, ho⟩⟩))
      | _ => cases h
  | _ => cases h
def rM (K : PySem.W.Frag) (E : XK) (g : D → List D → Mu → R D) : V → List V → Hp → VK → Prop := fun x xs H Q => ∃ W μ d ds, Ok K W H μ ∧ Rep K W x d ∧ Reps K W xs ds ∧ postE K E W H (g d ds μ) Q
abbrev MtX (X : Cx) (E : XK) (id : String) (g : D → List D → Mu → R D) : Prop := MtR X id (rM X.K E g)
theorem mtx {X : Cx} {E : XK} {id : String} {g : D → List D → Mu → R D} (h : ∀ W H μ d ds x xs Q, Ok X.K W H μ → Rep X.K W x d → Reps X.K W xs ds → postE X.K E W H (g d ds μ) Q → ∃ r, MtR X id r ∧ r x xs H Q) : MtX X E id g := by
  intro pins s σ H x xs v us Q I rx rs q
  obtain ⟨W, μ, d, ds, ok, r1, r2, p⟩ := q
  obtain ⟨r, o, z⟩ := h W H μ d ds x xs Q ok r1 r2 p
  exact o pins s σ H x xs v us Q I rx rs z
def dbm (T : String) (g : D → List D → Mu → R D) (fo : FE) (fa : FA) : FE := fun ρ μ => (fo ρ μ).bind fun x μ1 => if tyD T x μ1 = true then (fa ρ μ1).bind fun ds μ2 => g x ds μ2 else .bad
section
variable {X : Cx} {E : XK} {o e : Expr} {es : List Expr} {fo : FE} {fa : FA} {name : Str} {apos cpos : Pos} {T id : String} {g : D → List D → Mu → R D}
theorem de_bm (pa : PlainAttrs T) (slot : Slot T name id) (hty : typeOf (.builtin id) = pure (.type "method_descriptor")) (hm : MtX X E id g) (ho : DE X E o fo) (ha : DA X E (e :: es) fa)
    (hbase : attributeBase o name X.env (eval o X.env) = eval o X.env := by rfl)
    (hfew : ((backTo cpos (starEach (e :: es) X.env)).all (fun x => !x.1) && (backToKw cpos (keywordEach [] X.env)).all (fun x => x.1.isSome)
      && decide ((e :: es).length + ([] : List Keyword).length + (if ([] : List Keyword).isEmpty then 0 else 1) < 30)) = true := by rfl)
    (hline : (apos.endLine == cpos.line) = true := by rfl) (hs : starEach (e :: es) X.env = (false, eval e X.env) :: starEach es X.env := by rfl) (hplain : (backTo cpos (starEach es X.env)).any (·.1) = false := by rfl) :
    DE X E (.Call (.Attribute o name apos) (e :: es) [] cpos) (dbm T g fo fa) := by
  refine pe_imp (pe_bm pa slot hty hm ho ha hbase hfew hline hs hplain) fun σ H Q ⟨W, ρ, μ, ok, en, p⟩ => ?_
  refine seq p ok en fun x μ1 W1 v H1 g1 o1 en1 r p1 => ?_
  by_cases ht : tyD T x μ1 = true
  · rw [if_pos ht] at p1
    exact ⟨tyD_rep o1 r ht, seqA p1 o1 en1 fun ds μ2 W2 xs H2 g2 o2 en2 rs p2 => ⟨W2, μ2, x, ds, o2, r.mono g2.le, rs, p2⟩⟩
  · rw [if_neg ht] at p1
    exact p1.elim
end
def mAppend : D → List D → Mu → R D := fun x ds μ => match x, ds with
  | .hdl l, [d] => match μ[l]? with
    | some (.lst xs) => if xs.length < 1000000 then .ok .non (μ.set l (.lst (xs ++ [d]))) else .bad
    | _ => .bad
  | _, _ => .bad
theorem mx_append {X : Cx} {E : XK} : MtX X E "list.append" mAppend := mtx fun W H μ d ds x xs Q ok r rs p => by
  unfold mAppend at p
  split at p
  · rename_i l y
    split at p
    · rename_i ys hm
      split at p
      · rename_i hn
        cases r with
        | @hdl a _ ha =>
          cases rs with
          | cons r1 r2 =>
            cases r2
            obtain ⟨o, ho, vs, rfl, q⟩ := ok.cell l a _ ha hm
            obtain ⟨ok2, g2⟩ := ok.setcell (m' := .lst (ys ++ [y])) ha hm (fun z => nomatch z) ⟨vs ++ [_], rfl, q.app (.cons r1 .nil)⟩
            exact ⟨_, mt_append, a, vs, _, rfl, rfl, ho, by rw [q.length]; exact Nat.lt_of_lt_of_le hn (by decide), p _ _ _ g2 ok2 .non⟩
      · exact p.elim
    · exact p.elim
  · exact p.elim
def mSplit : D → List D → Mu → R D := fun x ds μ => match x, ds with
  | .str a, [.str b] => if 0 < b.length ∧ a.length ≤ 1000000 ∧ (∀ y ∈ Txt.split a b, y.length ≤ 1000000) then .ok (.lst ((Txt.split a b).map .str)) μ else .bad
  | _, _ => .bad
def strsD : List D → Option (List Str)
  | [] => some []
  | .str x :: ds => (strsD ds).map (x :: ·)
  | _ => none
def mJoin : D → List D → Mu → R D := fun x ds μ => match x, ds with
  | .str a, [.lst ds] => match strsD ds with
    | some ys => if (ys.map (·.length)).sum + ys.length * a.length ≤ 1000000 ∧ (Txt.join a ys).length ≤ 1000000 then .ok (.str (Txt.join a ys)) μ else .bad
    | none => .bad
  | _, _ => .bad

/-! ### stores into a cell's list -/
def gsetix (fo fi fe : FE) : FS := fun ρ μ => (fe ρ μ).to fun d μ1 => (fo ρ μ1).to fun x μ2 => (fi ρ μ2).to fun i μ3 => match x, i with
  | .hdl l, .int k => match μ3[l]? with
    | some (.lst xs) => match ixN xs.length k with
      | some j => .nx ρ (μ3.set l (.lst (xs.set j d)))
      | none => .bad
    | _ => .bad
  | _, _ => .bad
theorem ds_setix {X : Cx} {E : XK} {o i e : Expr} {fo fi fe : FE} {pos pos' : Pos} (he : DE X E e fe) (ho : DE X E o fo) (hi : DE X E i fi)
    (ha : ∀ v, assign (.Subscript o i pos') X.env v = (do
      let ov ← holding [v] (eval o X.env)
      let iv ← holding [v, ov] (eval i X.env)
      standAt pos'
      holding [v, ov, iv] (setItem ov iv v)
      release [v, ov, iv] []) := by intro _; rfl) (hs : swapsWithSole [.Subscript o i pos'] e pos.line X.env = pure false := by rfl) (hw : swappedStores [.Subscript o i pos'] e X.env = pure none := by rfl)
    (h1 : (assignEach [.Subscript o i pos'] X.env).map (·.2) = [assign (.Subscript o i pos') X.env] := by rfl) : DS X E (.Assign [.Subscript o i pos'] e pos) (gsetix fo fi fe) := by
  refine ps_imp (ps_asg he (pg_sub ho hi set_list ha) hs hw h1) fun Z σ H ⟨W, ρ, μ, ok, en, p⟩ => ?_
  refine seqS p ok en fun d μ1 W1 v H1 g1 o1 en1 r p1 => ?_
  refine seqS p1 o1 en1 fun x μ2 W2 xv H2 g2 o2 en2 r2 p2 => ?_
  refine seqS p2 o2 en2 fun i μ3 W3 iv H3 g3 o3 en3 r3 p3 => ?_
  split at p3
  · rename_i l k
    split at p3
    · rename_i xs hm
      split at p3
      · rename_i j hj
        cases r2 with
        | @hdl a _ ha =>
          cases r3
          have ha3 := prefix_get g3.le.io ha
          obtain ⟨ob, ho, vs, rfl, q⟩ := o3.cell l a _ ha3 hm
          obtain ⟨ok4, g4⟩ := o3.setcell (m' := .lst (xs.set j d)) ha3 hm (fun z => nomatch z) ⟨vs.set j v, rfl, q.set ((r.mono g2.le).mono g3.le) j⟩
          exact ⟨a, vs, k, j, rfl, rfl, ho, by rw [q.length]; exact hj, p3 _ _ _ g4 ok4 en3⟩
      · exact p3.elim
    · exact p3.elim
  · exact p3.elim
end DL
/-! DL8: calls with keywords, texts, sets of numbers. -/
namespace DL
open PySem L2

/-! ### calls with keywords -/
/-- how n values and the keywords ks come to the parameters -/
structure KDfl (K : PySem.W.Frag) (fd : FuncData) (ps : List Str) (n : Nat) (ks : List Str) (gD : List D → List D → List D) : Prop where
  ex : ∃ (g : List Value → List Value → List Value) (gV : List V → List V → List V), (∀ us ws, us.length = n → ws.length = ks.length → (g us ws).length = ps.length) ∧ KBn K fd ps n ks g gV ∧
    ∀ W vs ds zs es, vs.length = n → zs.length = ks.length → Reps K W vs ds → Reps K W zs es → Reps K W (gV vs zs) (gD ds es)
abbrev DK (X : Cx) (E : XK) (kws : List Keyword) (f : FA) : Prop := PK X kws (rA X.K E f)
theorem pk_imp {X : Cx} {e : List Keyword} {t t' : TA} (h : PK X e t) (i : ∀ σ H Q, t' σ H Q → t σ H Q) : PK X e t' := ⟨fun pos pins s σ H Q I q => h.run pos pins s σ H Q I (i σ H Q q)⟩
def dcallK (F : List D → Mu → R D) (gD : List D → List D → List D) (fa fk : FA) : FE := fun ρ μ => (fa ρ μ).bind fun ds μ1 => (fk ρ μ1).bind fun es μ2 => F (gD ds es) μ2
section
variable {X : Cx} {E : XK} {k n : Nat} {f : Addr} {fd : FuncData} {ps ks : List Str} {F : List D → Mu → R D} {gD : List D → List D → List D} {x : Str} {p pos kpos : Pos} {e : Expr} {es : List Expr} {kws : List Keyword} {fa fk : FA} {nm : Option Str} {fe : FE}
theorem dk_nil : DK X E [] aNil := pk_imp pk_nil fun σ H Q ⟨W, ρ, μ, ok, en, p⟩ => p W [] H (Go.refl W H) ok .nil
theorem dk_cons (h : DE X E e fe) (hs : DK X E kws fk) : DK X E (⟨nm, e, kpos⟩ :: kws) (aCons fe fk) := by
  refine pk_imp (pk_cons h hs) fun σ H Q ⟨W, ρ, μ, ok, en, p⟩ => ?_
  refine ⟨W, ρ, μ, ok, en, ?_⟩
  unfold aCons at p
  revert p
  cases fe ρ μ with
  | ok d μ1 =>
    intro p W1 x H1 g1 o1 r1
    refine ⟨W1, ρ, μ1, o1, en.mono g1.le, ?_⟩
    have p := postA.mono g1 p
    revert p
    rw [R.bind_ok]
    cases fk ρ μ1 with
    | ok ds μ2 => exact fun p W2 xs H2 g2 o2 r2 => p W2 (x :: xs) H2 g2 o2 (.cons (r1.mono g2.le) r2)
    | ex c fs μ2 => exact fun p => p
    | bad => exact fun p => p
  | ex c fs μ1 => exact fun p => p
  | bad => exact fun p => p
theorem callF_kw {pins : List (Addr × Obj)} {σ : St} {H : Hp} {s : Shared} {Q : VK} {us ws : List Value} {vs zs : List V} {W : Wd} {ds es : List D} {μ : Mu} (G : FnG X.prog X.w X.K X.mg X.base k f fd ps F) (c : Cal X E k) (b : KDfl X.K fd ps n ks gD)
    (I : Inv X pins σ H s) (hn : vs.length = n) (hk : zs.length = ks.length) (rv : Vals vs us) (rz : Vals zs ws) (ok : Ok X.K W H μ) (r : Reps X.K W vs ds) (r' : Reps X.K W zs es) (q : postE X.K E W H (F (gD ds es) μ) Q) : wpAny (model X.prog X.w) X.A (call (.ref f) us (ks.zip ws)) (EP X pins σ Q) X.xe s := by
  obtain ⟨g, gV, hl, kb, rp⟩ := b.ex
  have h1 : us.length = n := by rw [← rv.length]; exact hn
  have h2 : ws.length = ks.length := by rw [← rz.length]; exact hk
  exact wpAny_call (run_g (args := ⟨us, ks.zip ws⟩) G c I (hl us ws h1 h2) (kb.to s us ws I.kIn h1 h2) (kb.rel rv rz) ok (rp W vs ds zs es hn hk r r') q)
theorem de_callK (G : FnG X.prog X.w X.K X.mg X.base k f fd ps F) (c : Cal X E k) (hm : X.mg x = some (.ref f)) (hk : PySem.W.keepIn X.K (.ref f) = true) (b : KDfl X.K fd ps (e :: es).length ks gD) (ha : DA X E (e :: es) fa) (hkw : DK X E kws fk)
    (hf : HasLen fa (e :: es).length := by repeat (first | exact aNil_len | refine aCons_len ?_)) (hf2 : HasLen fk ks.length := by repeat (first | exact aNil_len | refine aCons_len ?_))
    (hall : (backToKw pos (keywordEach kws X.env)).all (·.1.isSome) = true := by rfl) (hks : (backToKw pos (keywordEach kws X.env)).filterMap (·.1) = ks := by rfl)
    (hg : Gl X x := by rfl) (hdb : (x == ("__debug__" : Str)) = false := by decide) (he : starEach (e :: es) X.env = (false, eval e X.env) :: starEach es X.env := by rfl)
    (hpl : ((backTo pos (starEach (e :: es) X.env)).any (·.1) || (backToKw pos (keywordEach kws X.env)).any (·.1.isNone)) = false := by rfl) :
    DE X E (.Call (.Name x p) (e :: es) kws pos) (dcallK F gD fa fk) := by
  refine ⟨fun pins s σ H Q I q => ?_⟩
  obtain ⟨W, ρ, μ, ok, en, pq⟩ := q
  refine wpAny_Call_Name_kw (ld_glob I hg hm ?_ hdb)
  unfold dcallK at pq
  have rd : rA X.K E fa σ H (fun vs H1 => ∃ W1 ds μ1, vs.length = (e :: es).length ∧ Ok X.K W1 H1 μ1 ∧ Envs X.K W1 σ ρ ∧ Reps X.K W1 vs ds ∧ postE X.K E W1 H1 ((fk ρ μ1).bind fun es μ2 => F (gD ds es) μ2) Q) := by
    refine ⟨W, ρ, μ, ok, en, ?_⟩
    revert pq
    cases hq : fa ρ μ with
    | ok ds μ1 => exact fun p W1 xs H1 g o r => ⟨W1, ds, μ1, by rw [r.length]; exact hf ρ μ ds μ1 hq, o, en.mono g.le, r, post.mono g p⟩
    | ex c fs μ1 => exact fun p => p
    | bad => exact fun p => p
  refine PySem.W.callWith_KW (h₀ := X.base) I.ok.mod.kin hk hall (thn (ha.run pos pins s σ H _ I rd) fun us s1 ⟨vs, H1, I1, r, W1, ds, μ1, hn, o1, en1, r1, q1⟩ => ?_) hpl he
  have rd2 : rA X.K E fk σ H1 (fun zs H2 => ∃ W2 es μ2, zs.length = ks.length ∧ Ok X.K W2 H2 μ2 ∧ Le W1 W2 ∧ Reps X.K W2 zs es ∧ postE X.K E W2 H2 (F (gD ds es) μ2) Q) := by
    refine ⟨W1, ρ, μ1, o1, en1, ?_⟩
    revert q1
    cases hq : fk ρ μ1 with
    | ok es μ2 => exact fun p W2 xs H2 g o r => ⟨W2, es, μ2, by rw [r.length]; exact hf2 ρ μ1 es μ2 hq, o, g.le, r, post.mono g p⟩
    | ex c fs μ1 => exact fun p => p
    | bad => exact fun p => p
  refine thn (hkw.run pos pins s1 σ H1 _ I1 rd2) fun ws s2 ⟨zs, H2, I2, rz, W2, es, μ2, hz, o2, l2, r2, q2⟩ => ⟨I2.kIn, ?_⟩
  rw [hks]
  exact callF_kw G c b I2 hn hz r rz o2 (r1.mono l2) r2 q2
theorem de_callK0 (G : FnG X.prog X.w X.K X.mg X.base k f fd ps F) (c : Cal X E k) (hm : X.mg x = some (.ref f)) (hk : PySem.W.keepIn X.K (.ref f) = true) (b : KDfl X.K fd ps 0 ks gD) (hkw : DK X E kws fk)
    (hf2 : HasLen fk ks.length := by repeat (first | exact aNil_len | refine aCons_len ?_))
    (hall : (backToKw pos (keywordEach kws X.env)).all (·.1.isSome) = true := by rfl) (hks : (backToKw pos (keywordEach kws X.env)).filterMap (·.1) = ks := by rfl)
    (hg : Gl X x := by rfl) (hdb : (x == ("__debug__" : Str)) = false := by decide)
    (hpl : ((backTo pos (starEach [] X.env)).any (·.1) || (backToKw pos (keywordEach kws X.env)).any (·.1.isNone)) = false := by rfl) :
    DE X E (.Call (.Name x p) [] kws pos) (dcallK F gD aNil fk) := by
  refine ⟨fun pins s σ H Q I q => ?_⟩
  obtain ⟨W, ρ, μ, ok, en, pq⟩ := q
  refine wpAny_Call_Name_kw (ld_glob I hg hm ?_ hdb)
  unfold dcallK aNil at pq
  rw [R.bind_ok] at pq
  have rd2 : rA X.K E fk σ H (fun zs H2 => ∃ W2 es μ2, zs.length = ks.length ∧ Ok X.K W2 H2 μ2 ∧ Reps X.K W2 zs es ∧ postE X.K E W2 H2 (F (gD [] es) μ2) Q) := by
    refine ⟨W, ρ, μ, ok, en, ?_⟩
    revert pq
    cases hq : fk ρ μ with
    | ok es μ2 => exact fun p W2 xs H2 g o r => ⟨W2, es, μ2, by rw [r.length]; exact hf2 ρ μ es μ2 hq, o, r, post.mono g p⟩
    | ex c fs μ1 => exact fun p => p
    | bad => exact fun p => p
  refine PySem.W.callWith_KW0 (h₀ := X.base) I.ok.mod.kin hk hall (thn (hkw.run pos pins s σ H _ I rd2) fun ws s2 ⟨zs, H2, I2, rz, W2, es, μ2, hz, o2, r2, q2⟩ => ⟨I2.kIn, ?_⟩) hpl
  rw [hks]
  exact callF_kw (us := []) (vs := []) G c b I2 rfl hz .nil rz o2 .nil r2 q2
end
section
variable {K : PySem.W.Frag} {x qual : Str} {params : Arguments} {body : List Stmt} {scope : Scope} {kws : List (Str × V)} {f : Addr} {fd : FuncData} {ps : List Str}
/-- keyword-only defaults alone: n values written, the keywords ks, the lacking ones ms -/
theorem kdfl (F : FunD K x qual params body scope [] kws f fd) (n : Nat) (ks : List Str) (ms : List (Str × V)) (md : List D) (g : {α : Type} → List α → List α → List α → List α) (hk : kws ≠ []) (hms : ∀ q ∈ ms, q ∈ kws)
    (hrel : ∀ {vs mz zs : List V} {us mv ws : List Value}, Vals vs us → Vals mz mv → Vals zs ws → Vals (g vs mz zs) (g us mv ws))
    (hrep : ∀ W vs ds zs es, vs.length = n → zs.length = ks.length → Reps K W vs ds → Reps K W zs es → Reps K W (g vs (ms.map (·.2)) zs) (g ds md es))
    (hlen : ∀ us mv ws : List Value, us.length = n → mv.length = ms.length → ws.length = ks.length → (g us mv ws).length = ps.length)
    (h : ∀ (D : Addr) (doc pm : Value) (an : Option Addr) (cdv ct : Value) (us mv ws : List Value), us.length = n → mv.length = ms.length → ws.length = ks.length →
      KwChain D ((ms.map (·.1)).zip mv) (bindArgs (PySem.W.fnOf x qual params body scope .none (.ref D) doc pm an cdv ct) ⟨us, ks.zip ws⟩) (ps.zip (g us mv ws))) :
    KDfl K fd ps n ks (fun ds es => g ds md es) := by
  obtain ⟨oc, od, dV, kV, doc, pm, an, cdv, ct, osl, rfl, lk, hcd, hD, hK⟩ := F.ex
  rcases hD with ⟨_, rfl⟩ | ⟨e, _⟩
  · rcases hK with e | ⟨D0, rfl, hq⟩
    · exact absurd e hk
    · obtain ⟨mv, hl, rk, hks⟩ := kwd_vals (ms := ms) fun q hm => hq q (hms q hm)
      exact ⟨fun us ws => g us mv ws, fun vs zs => g vs (ms.map (·.2)) zs, fun us ws h1 h2 => hlen us mv ws h1 hl h2,
        ⟨fun s us ws X l1 l2 => BindsTo.of_looks fun M => KwChain.looks X hks (h D0 doc pm an cdv ct us mv ws l1 hl l2), fun r1 r2 => hrel r1 rk r2⟩, hrep⟩
  · exact absurd rfl e
/-- .. all lacking ones by their places alone -/
theorem dfl_kw (F : FunD K x qual params body scope [] kws f fd) (n : Nat) (kd : List D) (hk : kws ≠ []) (hn : n + kws.length = ps.length) (hr : ∀ W, Reps K W (kws.map (·.2)) kd)
    (h : ∀ (D : Addr) (doc pm : Value) (an : Option Addr) (cdv ct : Value) (us ks : List Value), us.length = n → ks.length = kws.length →
      KwChain D ((kws.map (·.1)).zip ks) (bindArgs (PySem.W.fnOf x qual params body scope .none (.ref D) doc pm an cdv ct) ⟨us, []⟩) (ps.zip (us ++ ks))) : Dfl K fd ps n kd := by
  obtain ⟨ds, rv, hb⟩ := F.binds0 n hk hn h
  exact ⟨_, ds, rv, hr, by rw [← rv.length, List.length_map]; exact hn, hb⟩
end

/-! ### texts -/
theorem strs_reps {K : PySem.W.Frag} {W : Wd} : ∀ {ys : List Str}, (∀ y ∈ ys, y.length ≤ sizeLine) → Reps K W (ys.map V.str) (ys.map D.str)
  | [], _ => .nil
  | y :: ys, h => .cons (.str y (h y (by simp))) (strs_reps fun z hz => h z (by simp [hz]))
theorem strsD_rep {K : PySem.W.Frag} {W : Wd} : ∀ {vs : List V} {ds : List D} {ys : List Str}, Reps K W vs ds → strsD ds = some ys → vs = ys.map V.str
  | _, _, _, .nil, h => by
    simp [strsD] at h
    subst h
    rfl
  | _, _, _, .cons (d := d) (ds := ds) r rs, h => by
    cases d with
    | str x =>
      cases r
      unfold strsD at h
      cases e : strsD ds with
      | none => rw [e] at h; cases h
      | some cs =>
        rw [e] at h
        cases h
        rw [strsD_rep rs e]
        rfl
    | _ => simp [strsD] at h

/-! ### len(set(xs)) of numbers -/
def intsD : List D → Option (List Int)
  | [] => some []
  | .int x :: ds => (intsD ds).map (x :: ·)
  | _ => none
theorem intsD_rep {K : PySem.W.Frag} {W : Wd} : ∀ {vs : List V} {ds : List D} {ys : List Int}, Reps K W vs ds → intsD ds = some ys → vs = ys.map V.int
  | _, _, _, .nil, h => by
    simp [intsD] at h
    subst h
    rfl
  | _, _, _, .cons (d := d) (ds := ds) r rs, h => by
    cases d with
    | int x =>
      cases r
      unfold intsD at h
      cases e : intsD ds with
      | none => rw [e] at h; cases h
      | some cs =>
        rw [e] at h
        cases h
        rw [intsD_rep rs e]
        rfl
    | _ => simp [intsD] at h
theorem vals_ints : ∀ {ns : List Int} {us : List Value}, Vals (ns.map V.int) us → PyProof.Rows.IntsAre us ns
  | [], _, .nil => .nil
  | n :: ns, _, .cons r t => by
    obtain ⟨k, rfl⟩ := r
    exact .cons n k (vals_ints t)
/-- how many unlike ones -/
def kinds (ns : List Int) : Nat := (PyProof.Rows.firstMet (fun i => ns.getD i 0) ns.length).length
def dlenset (f : FE) : FE := fun ρ μ => (f ρ μ).bind fun d μ1 => match d with
  | .lst ds => match intsD ds with
    | some ns => if ns.length ≤ 1000 then .ok (.int (kinds ns)) μ1 else .bad
    | none => .bad
  | _ => .bad
theorem de_lenset {X : Cx} {E : XK} {a : Expr} {fa : FE} {p p2 q pos : Pos} (hm : X.mg "len" = none) (hm2 : X.mg "set" = none) (ha : DE X E a fa) (hc : X.calm = true := by rfl) (hg : Gl X "len" := by rfl) (hg2 : Gl X "set" := by rfl)
    (na : starEach [a] X.env = (false, eval a X.env) :: starEach [] X.env := by rfl) : DE X E (.Call (.Name "len" p) [.Call (.Name "set" p2) [a] [] q] [] pos) (dlenset fa) := by
  constructor
  intro pins s σ H Q I rd
  obtain ⟨W, ρ, μ, ok, en, z⟩ := rd
  unfold dlenset at z
  have inner : rE X.K E fa σ H (fun x H1 => ∃ l ns, x = .ref l ∧ SqL X.K H1 l (ns.map V.int) ∧ ns.length ≤ 1000 ∧ Q (.int (kinds ns)) H1) := seq z ok en fun d μ1 W1 v H1 g1 o1 en1 r z1 => by
    cases r with
    | lst zz h rs =>
      dsimp only at z1
      split at z1
      · rename_i ns hns
        have e := intsD_rep rs hns
        subst e
        split at z1
        · rename_i hl
          exact ⟨_, ns, rfl, (same_lq o1.sub h).sq, hl, post_pure o1 z1 (.int _)⟩
        · exact z1.elim
      · exact z1.elim
    | _ => exact z1.elim
  refine PyProof.Rows.Call_ (ld_blt I hg hm PySem.boot_len (PyProof.Rows.callWith_builtin1 (PyProof.Rows.args_cons ?_ rfl) rfl rfl))
  refine PyProof.Rows.Call_ (ld_blt I hg2 hm2 PyProof.Rows.boot_set (PyProof.Rows.callWith_type1 (PyProof.Rows.args_cons (thn (ha.run pins s σ H _ I inner) fun v s1 hv => PyProof.Rows.args_nil ?_) na) na rfl))
  obtain ⟨y, H1, I1, w1, l, ns, ey, sq, hl, fin⟩ := hv
  subst ey
  cases w1
  obtain ⟨its, rv, pl, _⟩ := I1.list sq
  have hsz : its.toArray.size = ns.length := by
    rw [List.size_toArray, ← rv.length, List.length_map]
  refine PySem.call_set_list (I1.ok.hd hc) pl.isList (ns := ns) (by simpa using vals_ints rv) (by rw [hsz]; unfold scanBound; omega) fun h' tk made old => PyProof.Rows.args_nil ?_
  rw [hsz] at made
  obtain ⟨ob, en', ep, tt, ho, hex, hd, _, _, _, hf, hn⟩ := made
  have few : (PyProof.Rows.firstMet (fun i => ns.getD i 0) ns.length).length ≤ ns.length := PyProof.Rows.firstMet_length_le _ _
  exact call_len_set ho hex hd hf (by rw [hn]; omega) ⟨.int (kinds ns), H1, (I1.kept fun b o e => old b o (Heap.lt_size e) e).tok _, ⟨_, by rw [hn]; rfl⟩, fin⟩
end DL
/-! DL9: and, or, not as values, chains, conditional expressions, isinstance, texts. -/
namespace DL
open PySem L2

def dand (f g : FE) : FE := fun ρ μ => (f ρ μ).bind fun d μ1 => match d with
  | .bl true => g ρ μ1
  | .bl false => .ok (.bl false) μ1
  | _ => .bad
def dor (f g : FE) : FE := fun ρ μ => (f ρ μ).bind fun d μ1 => match d with
  | .bl true => .ok (.bl true) μ1
  | .bl false => g ρ μ1
  | _ => .bad
def dnot (f : FE) : FE := fun ρ μ => (f ρ μ).bind fun d μ1 => match d with
  | .bl b => .ok (.bl (!b)) μ1
  | _ => .bad
def dneg (f : FE) : FE := fun ρ μ => (f ρ μ).bind fun d μ1 => match d with
  | .int i => .ok (.int (-i)) μ1
  | _ => .bad
def dite (c : FT) (f g : FE) : FE := fun ρ μ => (c ρ μ).bind fun b μ1 => if b = true then f ρ μ1 else g ρ μ1
def dchain (g1 g2 : D → D → Mu → R D) (fa fb fc : FE) : FE := fun ρ μ => (fa ρ μ).bind fun x μ1 => (fb ρ μ1).bind fun y μ2 => (g1 x y μ2).bind fun z μ3 => match z with
  | .bl true => (fc ρ μ3).bind fun w μ4 => g2 y w μ4
  | .bl false => .ok (.bl false) μ3
  | _ => .bad
section
variable {X : Cx} {E : XK} {a b c : Expr} {rest : List Expr} {pos : Pos} {f g h : FE}
theorem de_one {op : BoolOp} (ha : DE X E a f) : DE X E (.BoolOp op [a] pos) f := pe_one ha
theorem de_and (ha : DE X E a f) (hb : DE X E (.BoolOp .And (b :: rest) pos) g) : DE X E (.BoolOp .And (a :: b :: rest) pos) (dand f g) := pe_imp (pe_and ha hb) fun σ H Q ⟨W, ρ, μ, ok, en, p⟩ =>
  seq p ok en fun d μ1 W1 x H1 g1 o1 en1 r p1 => by
    cases d with
    | bl k =>
      cases r
      cases k with
      | true => exact ⟨true, rfl, W1, ρ, μ1, o1, en1, p1⟩
      | false => exact ⟨false, rfl, post_pure o1 p1 (.bl _)⟩
    | _ => exact p1.elim
theorem de_or (ha : DE X E a f) (hb : DE X E (.BoolOp .Or (b :: rest) pos) g) : DE X E (.BoolOp .Or (a :: b :: rest) pos) (dor f g) := pe_imp (pe_or ha hb) fun σ H Q ⟨W, ρ, μ, ok, en, p⟩ =>
  seq p ok en fun d μ1 W1 x H1 g1 o1 en1 r p1 => by
    cases d with
    | bl k =>
      cases r
      cases k with
      | false => exact ⟨false, rfl, W1, ρ, μ1, o1, en1, p1⟩
      | true => exact ⟨true, rfl, post_pure o1 p1 (.bl _)⟩
    | _ => exact p1.elim
theorem de_not (ha : DE X E a f) : DE X E (.UnaryOp .Not a pos) (dnot f) := pe_imp (pe_not ha) fun σ H Q ⟨W, ρ, μ, ok, en, p⟩ =>
  seq p ok en fun d μ1 W1 x H1 g1 o1 en1 r p1 => by
    cases d with
    | bl k =>
      cases r
      exact ⟨k, rfl, post_pure o1 p1 (.bl _)⟩
    | _ => exact p1.elim
theorem de_neg (ha : DE X E a f) : DE X E (.UnaryOp .USub a pos) (dneg f) := pe_imp (pe_un un_neg ha) fun σ H Q ⟨W, ρ, μ, ok, en, p⟩ =>
  seq p ok en fun d μ1 W1 x H1 g1 o1 en1 r p1 => by
    cases d with
    | int k =>
      cases r
      exact ⟨k, rfl, post_pure o1 p1 (.int _)⟩
    | _ => exact p1.elim
theorem seqTE {K : PySem.W.Frag} {fa : FT} {k : Bool → Mu → R D} {σ : St} {H : Hp} {W : Wd} {ρ : En} {μ : Mu} {Q : VK} {Q1 : Bool → Hp → Prop} (p : postE K E W H ((fa ρ μ).bind k) Q) (ok : Ok K W H μ) (en : Envs K W σ ρ)
    (hk : ∀ b μ1 W1 H1, Go W H W1 H1 → Ok K W1 H1 μ1 → Envs K W1 σ ρ → postE K E W1 H1 (k b μ1) Q → Q1 b H1) : rT K E fa σ H Q1 := by
  refine ⟨W, ρ, μ, ok, en, ?_⟩
  revert p
  cases fa ρ μ with
  | ok d μ1 => exact fun p W1 H1 g o => hk d μ1 W1 H1 g o (en.mono g.le) (post.mono g p)
  | ex c fs μ1 => exact fun p => p
  | bad => exact fun p => p
theorem de_ifx {fc : FT} (hc : DT X E c fc) (ha : DE X E a f) (hb : DE X E b g) : DE X E (.IfExp c a b pos) (dite fc f g) := pe_imp (pe_ifExp hc ha hb) fun σ H Q ⟨W, ρ, μ, ok, en, p⟩ =>
  seqTE p ok en fun k μ1 W1 H1 g1 o1 en1 p1 => by
    cases k with
    | true => exact ⟨W1, ρ, μ1, o1, en1, p1⟩
    | false => exact ⟨W1, ρ, μ1, o1, en1, p1⟩
theorem tChain_of {g1 g2 : D → D → Mu → R D} : ∀ σ H Q, rE X.K E (dchain g1 g2 f g h) σ H Q → tChain (rD X.K E g1) (rD X.K E g2) (rE X.K E f) (rE X.K E g) (rE X.K E h) σ H Q := fun σ H Q ⟨W, ρ, μ, ok, en, p⟩ =>
  seq p ok en fun x μ1 W1 xv H1 k1 o1 en1 r1 p1 => seq p1 o1 en1 fun y μ2 W2 yv H2 k2 o2 en2 r2 p2 => by
    refine ⟨W2, μ2, x, y, o2, r1.mono k2.le, r2, ?_⟩
    revert p2
    cases g1 x y μ2 with
    | ex c fs μ3 => exact fun p => p
    | bad => exact fun p => p
    | ok z μ3 =>
      rw [R.bind_ok]
      cases z with
      | bl k =>
        intro p2 W3 v H3 k3 o3 r3
        cases r3
        refine ⟨k, rfl, ?_⟩
        have p3 := post.mono k3 p2
        cases k with
        | true =>
          rw [if_pos rfl]
          exact seq p3 o3 (en2.mono k3.le) fun w μ4 W4 wv H4 k4 o4 en4 r4 p4 => ⟨W4, μ4, y, w, o4, (r2.mono k3.le).mono k4.le, r4, p4⟩
        | false =>
          rw [if_neg Bool.false_ne_true]
          exact post_pure o3 p3 (.bl _)
      | _ => exact fun p => p.elim
theorem de_chain {op op' : CmpOp} {g1 g2 : D → D → Mu → R D} (ho : OpX X E (compareOp op) g1) (ho' : OpX X E (compareOp op') g2) (ha : DE X E a f) (hb : DE X E b g) (hc : DE X E c h) (hm : lastMarks [op, op'] [b, c] = false := by with_unfolding_all rfl) : DE X E (.Compare a [op, op'] [b, c] pos) (dchain g1 g2 f g h) :=
  pe_imp (pe_chain ho ho' ha hb hc hm) tChain_of
theorem dt_chain {op op' : CmpOp} {g1 g2 : D → D → Mu → R D} (ho : OpX X E (compareOp op) g1) (ho' : OpX X E (compareOp op') g2) (ha : DE X E a f) (hb : DE X E b g) (hc : DE X E c h) (hm : lastMarks [op, op'] [b, c] = false := by with_unfolding_all rfl) : DT X E (.Compare a [op, op'] [b, c] pos) (dtest (dchain g1 g2 f g h)) := by
  refine pt_imp (pt_chain ho ho' ha hb hc hm) fun σ H Q q => ?_
  have q := tB_of σ H Q q
  unfold tTest
  exact tChain_of σ H _ q
/-- a module's name -/
theorem de_glob {x : Str} {d : D} {v : V} {u : Value} (hm : X.mg x = some u) (r : RelV v u) (rp : ∀ W, Rep X.K W v d) (hg : Gl X x := by rfl) (hd : (x == ("__debug__" : Str)) = false := by decide) : DE X E (.Name x pos) (dc d) := dconst (pe_glob hg hm r hd) rp
/-- a built-in class -/
theorem de_ty {x : Str} {T : String} (hm : X.mg x = none) (hg : Gl X x := by rfl) (hv : bootBuiltins x = some (.type T) := by decide +kernel) (hn : x ≠ "__name__" := by decide) (hd : (x == ("__debug__" : Str)) = false := by decide) : DE X E (.Name x pos) (dc (.cst (.ty T))) := dconst (pe_bltn (v := .ty T) hg hm hv rfl hn hd) fun _ => .cst _
end

/-! ### isinstance -/
def tyName (μ : Mu) : D → Option String
  | .non => some "NoneType"
  | .bl _ => some "bool"
  | .int _ => some "int"
  | .str _ => some "str"
  | .tup _ => some "tuple"
  | .lst _ => some "list"
  | .hdl l => match μ[l]? with
    | some (.lst _) => some "list"
    | some (.dct _ _) => some "dict"
    | some (.dtt _ _) => some "dict"
    | _ => none
  | _ => none
def bIsi : List D → Mu → R D
  | [d, .cst (.ty T)], μ => match tyName μ d with
    | some t => match kitB t T with
      | some b => .ok (.bl b) μ
      | none => .bad
    | none => .bad
  | _, _ => .bad
theorem tyName_rep {K : PySem.W.Frag} {W : Wd} {H : Hp} {μ : Mu} {v : V} {d : D} {t : String} (ok : Ok K W H μ) (r : Rep K W v d) (h : tyName μ d = some t) : TyX K H v (.type t) := by
  cases r with
  | non => simp [tyName] at h; subst h; exact .base .non
  | bl b => simp [tyName] at h; subst h; exact .base (.bl b)
  | int i => simp [tyName] at h; subst h; exact .base (.int i)
  | str x z => simp [tyName] at h; subst h; exact .base (.str x)
  | tup z h1 q =>
    simp [tyName] at h
    subst h
    rcases h1 with (h1 | ⟨o, h1⟩) | ⟨o, its, n, h1, h2, _⟩
    · exact .base (.tup (ok.sub _ _ h1))
    · exact .fTuple (ok.sub _ _ h1)
    · exact .kTuple h1 h2
  | lst z h1 q =>
    simp [tyName] at h
    subst h
    rcases h1 with (h1 | ⟨o, h1⟩) | ⟨its, n, h1, _⟩
    · exact .base (.lst (ok.sub _ _ h1))
    · exact .base (.frz (ok.sub _ _ h1))
    · exact .kList h1 rfl
  | @hdl a l ha =>
    unfold tyName at h
    dsimp only at h
    cases hm : μ[l]? with
    | none => rw [hm] at h; cases h
    | some m =>
      rw [hm] at h
      obtain ⟨o, ho, c⟩ := ok.cell l a m ha hm
      cases m with
      | lst xs =>
        cases h
        obtain ⟨vs, rfl, _⟩ := c
        exact .base (.lst ho)
      | dct ks xs =>
        cases h
        obtain ⟨vs, rfl, _⟩ := c
        exact .base (.dK ho)
      | dtt ks xs =>
        cases h
        obtain ⟨vs, rfl, _⟩ := c
        exact .base (.dT ho)
      | _ => cases h
  | _ => simp [tyName] at h
theorem cx_isi {X : Cx} {E : XK} : CallX X E (.builtin "isinstance") bIsi := callx fun W H μ ds xs Q ok r p => by
  unfold bIsi at p
  split at p
  · rename_i d T
    cases r with
    | cons r1 r2 =>
      cases r2 with
      | cons r2 r3 =>
        cases r3
        cases r2
        split at p
        · rename_i t ht
          split at p
          · rename_i b hb
            exact ⟨_, call_isi, _, _, .type t, .type T, b, rfl, .ty T, tyName_rep ok r1 ht, kit_ty hb, post_pure ok p (.bl b)⟩
          · exact p.elim
        · exact p.elim
  · exact p.elim

/-! ### texts -/
theorem mx_join {X : Cx} {E : XK} : MtX X E "str.join" mJoin := mtx fun W H μ d ds x xs Q ok r rs p => by
  unfold mJoin at p
  split at p
  · split at p
    · rename_i ys hy
      split at p
      · rename_i hn
        cases r
        cases rs with
        | cons r1 r2 =>
          cases r2
          cases r1 with
          | lst z h q =>
            have e := strsD_rep q hy
            subst e
            exact ⟨_, mt_join, _, _, ys, rfl, rfl, .inl (same_lq ok.sub h).sq, Nat.le_trans hn.1 (by decide), post_pure ok p (.str _ (le_line hn.2))⟩
      · exact p.elim
    · exact p.elim
  · exact p.elim
theorem mx_split {X : Cx} {E : XK} : MtX X E "str.split" mSplit := mtx fun W H μ d ds x xs Q ok r rs p => by
  unfold mSplit at p
  split at p
  · rename_i a b
    split at p
    · rename_i hn
      cases r
      cases rs with
      | cons r1 r2 =>
        cases r2
        cases r1
        refine ⟨_, mt_split, a, b, rfl, rfl, ?_, ?_, fun q hq => p _ _ _ (Go.new ok hq) (ok.new hq) (rep_lst ok hq ?_ (strs_reps fun y hy => ?_))⟩
        · exact beq_eq_false_iff_ne.mpr (by omega)
        · show a.length + 2 ≤ 16777216
          omega
        · rw [List.length_map]
          exact Nat.le_trans (PyProof.Rows.split_le a b) (by show a.length + 2 ≤ 16777216; omega)
        · exact le_line (hn.2.2 y hy)
    · exact p.elim
  · exact p.elim
end DL
/-! DL10: the end of a law whose defs are told by DL's functions. -/
namespace DL
open PySem PySem.Spec PyProof.Rows L2

/-- the script's own world -/
def scriptW (a : Addr) (H : Hp) : Wd := ⟨fun b => if b = a then H a else none, []⟩
theorem ints_reps {K : PySem.W.Frag} {W : Wd} : ∀ ns : List Int, Reps K W (ns.map V.int) (ns.map D.int)
  | [] => .nil
  | n :: ns => .cons (.int n) (ints_reps ns)
section
variable {P : Program} {w : World} {K : PySem.W.Frag} {mg mb : Str → Option Value} {k : Nat} {fa a : Addr} {fd : FuncData} {x : Str} {F : List D → Mu → R D} {s1 : Shared} {vs : List Value} {ns : List Int}
theorem law_g (kin : K.In s1.heap) (hns : s1.heap.Ns mainGlobals mg) (hb : s1.heap.Ns builtinsNs mb) (hbb : ∀ x : Str, x ≠ "__name__" → mb x = bootBuiltins x) (hlim : s1.heap.NoLimit) (hg : s1.gens = #[])
    (ha : s1.heap.get? a = some { cls := .type "list", data := .seq vs.toArray }) (hi : IntsAre vs ns) (hl : ns.length ≤ sizeLine) (hr : Room k callerA)
    (G : ∀ base : Heap, K.In base → base.Ns mainGlobals mg → FnG P w K mg base k fa fd [x] F) (hbind : ∀ (s : Shared) (u : Value), BindsTo s fd ⟨[u], []⟩ [(x, u)])
    (hF : ∃ μ', F [.lst (ns.map D.int)] [] = .ok (.bl true) μ') :
    codeAny (model P w) callerA (.call (.ref fa) ⟨[.ref a], []⟩) (fun r s' => r = .ok (.ret (.bool true)) ∧ OldK s1.heap s'.heap ∧ s'.os = s1.os ∧ AllBare s'.gens) s1 := by
  have rv : Vals (ns.map V.int) vs := L2.vals_ints hi
  have lv : vs.length = ns.length := hi.length
  obtain ⟨μ', hF⟩ := hF
  have main : ∀ H : Hp, (∀ b, H b ≠ none → b = a) → (∀ u, H a = some u → ∃ o xs, u = .frz o (.lst xs)) → Lq K H a (ns.map V.int) → HOk P w H s1.heap → (H a ≠ none → K.lookup a = none) →
      codeAny (model P w) callerA (.call (.ref fa) ⟨[.ref a], []⟩) (fun r s' => r = .ok (.ret (.bool true)) ∧ OldK s1.heap s'.heap ∧ s'.os = s1.os ∧ AllBare s'.gens) s1 := by
    intro H only frz lq hok hK
    have out : ∀ b, b ≠ a → H b = none := fun b hb => by
      cases q : H b with
      | none => rfl
      | some u => exact absurd (only b (by rw [q]; simp)) hb
    have dicts : ∀ {b : Addr} {o : Obj} {es : Array DictEntry} {ep : Nat}, s1.heap.get? b = some o → o.data = .dict es ep → H b = none := fun {b o es ep} e d => by
      by_cases z : b = a
      · rw [z, ha] at e
        cases e
        cases d
      · exact out b z
    have ns' : ∀ {b : Addr} {m : Str → Option Value}, s1.heap.Ns b m → (hidT s1.heap H).Ns b m := by
      rintro b m ⟨o, es, ep, e, d, r⟩
      exact ⟨o, es, ep, hidT_get e (dicts e d), d, r⟩
    have kb : K.In (hidT s1.heap H) := fun b o e => hidT_get (kin b o e) (by
      by_cases z : b = a
      · cases q : H b with
        | none => rfl
        | some u =>
          rw [z] at e q
          rw [hK (by rw [q]; simp)] at e
          cases e
      · exact out b z)
    have md : Mod K mg (hidT s1.heap H) := by
      obtain ⟨mc, l1, l2⟩ := hlim
      exact ⟨kb, ns' hns, ⟨mb, ns' hb, hbb⟩, ⟨mc, ns' l1, l2⟩⟩
    have e0 : Env0 P w K mg (hidT s1.heap H) callerA [] s1 H := by
      refine ⟨rfl, md, fun b o e => of_hidT e, Nat.le_of_eq (hidT_size _ _), trivial, ?_, hok, .of_eq hg⟩
      intro b hb
      cases hb
    have wok : Ok K (scriptW a H) H [] := by
      refine ⟨fun b o e => ?_, rfl, List.nodup_nil, fun l b o e => ?_, fun l b o e => ?_⟩
      · have e : (if b = a then H a else none) = some o := e
        by_cases z : b = a
        · rw [if_pos z] at e
          rw [z]; exact e
        · rw [if_neg z] at e
          cases e
      · cases l <;> cases e
      · cases l <;> cases e
    have lq' : Lq K (scriptW a H).S a (ns.map V.int) := by
      have ea : (scriptW a H).S a = H a := if_pos rfl
      rcases lq with (h | ⟨o, h⟩) | h
      · exact .inl (.inl (ea.trans h))
      · exact .inl (.inr ⟨o, ea.trans h⟩)
      · exact .inr h
    have rp : Reps K (scriptW a H) [.ref a] [.lst (ns.map D.int)] := .cons (.lst (by rw [List.length_map]; exact hl) lq' (ints_reps ns)) .nil
    have run := (G _ kb (ns' hns)).run callerA [] s1 H ⟨[.ref a], []⟩ [.ref a] [.ref a] (fun v _ => v = .bl true) (fun _ _ _ => False) (scriptW a H) _ [] hr rfl e0 rfl (hbind s1 (.ref a)) (.cons rfl .nil) wok rp (by
      rw [hF]
      intro W' v H' _ _ r
      cases r
      rfl)
    refine codeAny_mono run fun r s' h => ?_
    match r, h with
    | .error e, h =>
      obtain ⟨_, _, _, _, _, _, _, _, _, _, _, _, z⟩ := h
      exact z.elim
    | .ok (.ret u), ⟨v, H', os, bare, un, hok', r', q⟩ =>
      have q : v = .bl true := q
      subst q
      cases r'
      refine ⟨rfl, OldK.of_keep fun b o e => ?_, os, bare⟩
      by_cases z : b = a
      · cases q : H b with
        | none => exact un.keep b o e q (by intro z; cases z) (by simp)
        | some u =>
          have q' := q
          rw [z] at q'
          obtain ⟨ob, xs, rfl⟩ := frz u q'
          have z2 := un.frzs b ob _ q
          obtain ⟨e1, _⟩ := hok b _ q
          obtain ⟨e2, _⟩ := hok' b _ z2
          rw [e] at e1
          cases e1
          exact e2
      · exact un.keep b o e (out b z) (by intro z; cases z) (by simp)
  cases hk : K.lookup a with
  | some o =>
    have e := kin a o hk
    rw [ha] at e
    cases e
    exact main (fun _ => none) (fun b z => absurd rfl z) (fun u z => nomatch z) (.inr ⟨vs, _, hk, by rw [lv]; exact hl, rv⟩) (fun b u z => nomatch z) (fun z => absurd rfl z)
  | none =>
    have ea : (fun b => if b = a then some (HO.frz { cls := .type "list", data := .seq vs.toArray } (.lst (ns.map V.int))) else none) a = some (HO.frz { cls := .type "list", data := .seq vs.toArray } (.lst (ns.map V.int))) := if_pos rfl
    refine main (fun b => if b = a then some (.frz { cls := .type "list", data := .seq vs.toArray } (.lst (ns.map V.int))) else none) (fun b z => ?_) (fun u z => ?_) (.inl (.inr ⟨_, ea⟩)) (fun b u z => ?_) fun _ => hk
    · by_cases hb : b = a
      · exact hb
      · exact absurd (if_neg hb) z
    · have z' := ea.symm.trans z
      cases z'
      exact ⟨_, _, rfl⟩
    · by_cases hb : b = a
      · have z' := (if_pos hb).symm.trans z
        cases z'
        rw [hb]
        exact ⟨ha, by rw [List.length_map]; exact hl, vs, _, rv, ha⟩
      · have z' := (if_neg hb).symm.trans z
        cases z'
end
/-- a law: what its def is worth at every script -/
theorem walk_g {l : PySem.W.OpenLaw} {n k : Nat} {q : Program} {loose : List Str} {XP : (Str → Option Value) → Heap → Prop} {YP : World → Heap → Prop} {d : DefRec} {x : Str}
    (hn : l.most = some n) (hn2 : n ≤ sizeLine) (hdf : d.params.defaults = []) (hr : Room k callerA)
    (G : ∀ (w : World) (mg : Str → Option Value) (fa : Addr) (h : Heap), YP w h → h.Ns mainGlobals mg → mg d.name = some (.ref fa) →
      ∃ (K : PySem.W.Frag) (fd : FuncData) (F : List D → Mu → R D), K.In h ∧ (∀ (s : Shared) (u : Value), BindsTo s fd ⟨[u], []⟩ [(x, u)]) ∧
        (∀ base : Heap, K.In base → base.Ns mainGlobals mg → FnG l.prog w K mg base k fa fd [x] F) ∧ ∀ ns : List Int, ns.length ≤ n → (∀ z ∈ ns, Builtin.Int.intBits z ≤ 1048576) → ∃ μ', F [.lst (ns.map D.int)] [] = .ok (.bl true) μ') :
    PySem.W.WalkO q loose XP YP l.row.toRowW d [] (fun f vs => PySem.call f vs) := by
  refine Att.attach_callB hn hdf fun w s0 s1 mg mb fa o pm cd doc a vs ns Gr Y ho hd hcd hmg hobj hints hlen hbits hgn => ?_
  obtain ⟨K, fd, F, kin, hb, hG, hF⟩ := G w mg fa _ Y Gr.T.g hmg
  exact law_g kin Gr.T.g Gr.T.b Gr.T.builtins Gr.T.nolimit hgn hobj hints (Nat.le_trans hlen hn2) hr hG hb (hF ns hlen hbits)
end DL
/-! DL11: picking by places. -/
namespace DL
open PySem L2
def pk {α : Type} : List α → Nat → List α → List α
  | [], _, r => r
  | a :: _, 0, r => a :: r
  | _ :: l, i + 1, r => pk l i r
theorem vals_pk {r : List V} {r' : List Value} (h : Vals r r') : ∀ {vs : List V} {us : List Value} (i : Nat), Vals vs us → Vals (pk vs i r) (pk us i r')
  | _, _, _, .nil => h
  | _, _, 0, .cons a _ => .cons a h
  | _, _, i + 1, .cons _ l => vals_pk h i l
theorem reps_pk {K : PySem.W.Frag} {W : Wd} {r : List V} {r' : List D} (h : Reps K W r r') : ∀ {vs : List V} {us : List D} (i : Nat), Reps K W vs us → Reps K W (pk vs i r) (pk us i r')
  | _, _, _, .nil => h
  | _, _, 0, .cons a _ => .cons a h
  | _, _, i + 1, .cons _ l => reps_pk h i l
end DL
/-! DL12: reckoning with the mirrors. -/
namespace DL
open PySem L2
def O.thn : O → FS → O
  | .nx ρ μ, h => h ρ μ
  | .rt d μ, _ => .rt d μ
  | .bk ρ μ, _ => .bk ρ μ
  | .ct ρ μ, _ => .ct ρ μ
  | .ex c fs μ, _ => .ex c fs μ
  | .bad, _ => .bad
@[simp] theorem O.thn_nx (ρ : En) (μ : Mu) (h : FS) : (O.nx ρ μ).thn h = h ρ μ := of_eq_true (eq_self _)
@[simp] theorem O.thn_rt (d : D) (μ : Mu) (h : FS) : (O.rt d μ).thn h = .rt d μ := of_eq_true (eq_self _)
@[simp] theorem O.thn_bk (ρ : En) (μ : Mu) (h : FS) : (O.bk ρ μ).thn h = .bk ρ μ := of_eq_true (eq_self _)
@[simp] theorem O.thn_ct (ρ : En) (μ : Mu) (h : FS) : (O.ct ρ μ).thn h = .ct ρ μ := of_eq_true (eq_self _)
@[simp] theorem O.thn_ex (c : Addr) (fs : List (Str × D)) (μ : Mu) (h : FS) : (O.ex c fs μ).thn h = .ex c fs μ := of_eq_true (eq_self _)
theorem thn_if {p : Prop} [Decidable p] (a b : O) (h : FS) : (if p then a else b).thn h = if p then a.thn h else b.thn h := by split <;> rfl
theorem to_if {α : Type} {p : Prop} [Decidable p] (a b : R α) (h : α → Mu → O) : (if p then a else b).to h = if p then a.to h else b.to h := by split <;> rfl
theorem bind_if {α β : Type} {p : Prop} [Decidable p] (a b : R α) (h : α → Mu → R β) : (if p then a else b).bind h = if p then a.bind h else b.bind h := by split <;> rfl
@[simp] theorem ap_seq (g h : FS) (ρ : En) (μ : Mu) : gseq g h ρ μ = (g ρ μ).thn h := by
  unfold gseq O.thn
  cases g ρ μ <;> rfl
@[simp] theorem ap_nil (ρ : En) (μ : Mu) : gnil ρ μ = .nx ρ μ := of_eq_true (eq_self _)
@[simp] theorem ap_ret (f : FE) (ρ : En) (μ : Mu) : gret f ρ μ = (f ρ μ).to fun d μ1 => .rt d μ1 := of_eq_true (eq_self _)
@[simp] theorem ap_expr (f : FE) (ρ : En) (μ : Mu) : gexpr f ρ μ = (f ρ μ).to fun _ μ1 => .nx ρ μ1 := of_eq_true (eq_self _)
@[simp] theorem ap_set (i : Nat) (f : FE) (ρ : En) (μ : Mu) : gasg (.nm i) f ρ μ = (f ρ μ).to fun d μ1 => .nx (ρ.set i (some d)) μ1 := by
  unfold gasg
  simp
theorem ap_asg (t : Tg) (f : FE) (ρ : En) (μ : Mu) : gasg t f ρ μ = (f ρ μ).to fun d μ1 => match asg t d ρ with | some ρ' => .nx ρ' μ1 | none => .bad := rfl
@[simp] theorem ap_asgT (ts : List Tg) (f : FE) (ρ : En) (μ : Mu) : gasg (.tp ts) f ρ μ = (f ρ μ).to fun d μ1 => match asg (.tp ts) d ρ with | some ρ' => .nx ρ' μ1 | none => .bad := of_eq_true (eq_self _)
@[simp] theorem ap_gif (c : FT) (g h : FS) (ρ : En) (μ : Mu) : gif c g h ρ μ = (c ρ μ).to fun b μ1 => if b = true then g ρ μ1 else h ρ μ1 := of_eq_true (eq_self _)
@[simp] theorem ap_for (fi : FA) (t : Tg) (b : FS) (ρ : En) (μ : Mu) : gfor fi t b ρ μ = (fi ρ μ).to fun xs μ1 => forD t b xs ρ μ1 := of_eq_true (eq_self _)
@[simp] theorem ap_var (i : Nat) (ρ : En) (μ : Mu) : dvar i ρ μ = match ρ[i]? with | some (some d) => .ok d μ | _ => .bad := of_eq_true (eq_self _)
@[simp] theorem ap_dc (d : D) (ρ : En) (μ : Mu) : dc d ρ μ = .ok d μ := of_eq_true (eq_self _)
@[simp] theorem ap_bin (g : D → D → Mu → R D) (fa fb : FE) (ρ : En) (μ : Mu) : dbin g fa fb ρ μ = (fa ρ μ).bind fun x μ1 => (fb ρ μ1).bind fun y μ2 => g x y μ2 := of_eq_true (eq_self _)
@[simp] theorem ap_test (f : FE) (ρ : En) (μ : Mu) : dtest f ρ μ = (f ρ μ).bind fun d μ1 => match d with | .bl b => .ok b μ1 | _ => .bad := of_eq_true (eq_self _)
@[simp] theorem ap_tand (f g : FT) (ρ : En) (μ : Mu) : tand f g ρ μ = (f ρ μ).bind fun b μ1 => if b = true then g ρ μ1 else .ok false μ1 := of_eq_true (eq_self _)
@[simp] theorem ap_tor (f g : FT) (ρ : En) (μ : Mu) : tor f g ρ μ = (f ρ μ).bind fun b μ1 => if b = true then .ok true μ1 else g ρ μ1 := of_eq_true (eq_self _)
@[simp] theorem ap_tnot (f : FT) (ρ : En) (μ : Mu) : tnot f ρ μ = (f ρ μ).bind fun b μ1 => .ok (!b) μ1 := of_eq_true (eq_self _)
@[simp] theorem ap_tyes (ρ : En) (μ : Mu) : tyes ρ μ = .ok true μ := of_eq_true (eq_self _)
@[simp] theorem ap_aNil (ρ : En) (μ : Mu) : aNil ρ μ = .ok [] μ := of_eq_true (eq_self _)
@[simp] theorem ap_aCons (f : FE) (g : FA) (ρ : En) (μ : Mu) : aCons f g ρ μ = (f ρ μ).bind fun d μ1 => (g ρ μ1).bind fun ds μ2 => .ok (d :: ds) μ2 := of_eq_true (eq_self _)
@[simp] theorem ap_tup (f : FA) (ρ : En) (μ : Mu) : dtup f ρ μ = (f ρ μ).bind fun ds μ1 => if ds.length ≤ 1000000 then .ok (.tup ds) μ1 else .bad := of_eq_true (eq_self _)
@[simp] theorem ap_lst (f : FA) (ρ : En) (μ : Mu) : dlst f ρ μ = (f ρ μ).bind fun ds μ1 => if ds.length ≤ 1000000 then .ok (.lst ds) μ1 else .bad := of_eq_true (eq_self _)
@[simp] theorem ap_cel (f : FA) (ρ : En) (μ : Mu) : dcel f ρ μ = (f ρ μ).bind fun ds μ1 => if ds.length ≤ 1000000 then .ok (.hdl μ1.length) (μ1 ++ [.lst ds]) else .bad := of_eq_true (eq_self _)
@[simp] theorem ap_frz (f : FE) (ρ : En) (μ : Mu) : dfrz f ρ μ = (f ρ μ).bind fun d μ1 => match d with
  | .hdl l => match μ1[l]? with
    | some (.lst xs) => if xs.length ≤ 1000000 then .ok (.lst xs) (μ1.set l .gone) else .bad
    | _ => .bad
  | _ => .bad := of_eq_true (eq_self _)
@[simp] theorem ap_callB (g : List D → Mu → R D) (fa : FA) (ρ : En) (μ : Mu) : dcallB g fa ρ μ = (fa ρ μ).bind fun ds μ1 => g ds μ1 := of_eq_true (eq_self _)
@[simp] theorem ap_call (F : List D → Mu → R D) (dd : List D) (fa : FA) (ρ : En) (μ : Mu) : dcall F dd fa ρ μ = (fa ρ μ).bind fun ds μ1 => F (ds ++ dd) μ1 := of_eq_true (eq_self _)
@[simp] theorem ap_callK (F : List D → Mu → R D) (gD : List D → List D → List D) (fa fk : FA) (ρ : En) (μ : Mu) : dcallK F gD fa fk ρ μ = (fa ρ μ).bind fun ds μ1 => (fk ρ μ1).bind fun es μ2 => F (gD ds es) μ2 := of_eq_true (eq_self _)
@[simp] theorem ap_bm (T : String) (g : D → List D → Mu → R D) (fo : FE) (fa : FA) (ρ : En) (μ : Mu) : dbm T g fo fa ρ μ = (fo ρ μ).bind fun x μ1 => if tyD T x μ1 = true then (fa ρ μ1).bind fun ds μ2 => g x ds μ2 else .bad := of_eq_true (eq_self _)
@[simp] theorem ap_sl (fe : FE) (fl fh : FO) (ρ : En) (μ : Mu) : dsl fe fl fh ρ μ = (fe ρ μ).bind fun x μ1 => (fl ρ μ1).bind fun lo μ2 => (fh ρ μ2).bind fun hi μ3 => R.of (slD x lo hi) μ3 := of_eq_true (eq_self _)
@[simp] theorem ap_onone (ρ : En) (μ : Mu) : onone ρ μ = .ok none μ := of_eq_true (eq_self _)
@[simp] theorem ap_itA (f : FE) (ρ : En) (μ : Mu) : itA f ρ μ = (f ρ μ).bind fun d μ1 => R.of (itemsD d) μ1 := of_eq_true (eq_self _)
@[simp] theorem ap_ite (c : FT) (f g : FE) (ρ : En) (μ : Mu) : dite c f g ρ μ = (c ρ μ).bind fun b μ1 => if b = true then f ρ μ1 else g ρ μ1 := of_eq_true (eq_self _)
@[simp] theorem ap_lc (fi : FA) (vs : List Nat) (t : Tg) (ft : FT) (fe : FE) (ρ : En) (μ : Mu) : dlc fi vs t ft fe ρ μ = (fi ρ μ).bind fun xs μ1 => (lcD t ft fe (wipeD ρ vs) xs μ1).bind fun ys μ2 => .ok (.lst ys) μ2 := of_eq_true (eq_self _)
@[simp] theorem ap_osome (f : FE) (ρ : En) (μ : Mu) : osome f ρ μ = (f ρ μ).bind fun d μ1 => match d with | .int i => .ok (some i) μ1 | _ => .bad := of_eq_true (eq_self _)
@[simp] theorem ap_itR1 (f : FA) (ρ : En) (μ : Mu) : itR1 f ρ μ = (f ρ μ).bind fun ds μ1 => match ds with
  | [.int n] => if n ≤ 1000000 ∧ -1000000 ≤ n then .ok (upto 0 n.toNat) μ1 else .bad
  | _ => .bad := of_eq_true (eq_self _)
@[simp] theorem ap_itR2 (f : FA) (ρ : En) (μ : Mu) : itR2 f ρ μ = (f ρ μ).bind fun ds μ1 => match ds with
  | [.int m, .int n] => if n ≤ 1000000 ∧ -1000000 ≤ m ∧ m ≤ 1000000 ∧ -1000000 ≤ n then .ok (upto m (n - m).toNat) μ1 else .bad
  | _ => .bad := of_eq_true (eq_self _)
@[simp] theorem ap_itE (f : FA) (ρ : En) (μ : Mu) : itE f ρ μ = (f ρ μ).bind fun ds μ1 => match ds with
  | [.lst xs] => .ok (enumD 0 xs) μ1
  | _ => .bad := of_eq_true (eq_self _)
@[simp] theorem ap_lenset (f : FE) (ρ : En) (μ : Mu) : dlenset f ρ μ = (f ρ μ).bind fun d μ1 => match d with
  | .lst ds => match intsD ds with
    | some ns => if ns.length ≤ 1000 then .ok (.int (kinds ns)) μ1 else .bad
    | none => .bad
  | _ => .bad := of_eq_true (eq_self _)
@[simp] theorem items_lst (xs : List D) : itemsD (.lst xs) = some xs := of_eq_true (eq_self _)
@[simp] theorem items_tup (xs : List D) : itemsD (.tup xs) = some xs := of_eq_true (eq_self _)
@[simp] theorem items_str (x : Str) : itemsD (.str x) = some (signs x) := of_eq_true (eq_self _)
@[simp] theorem add_int (i j : Int) (μ : Mu) : addD (.int i) (.int j) μ = .ok (.int (i + j)) μ := of_eq_true (eq_self _)
@[simp] theorem add_str (x y : Str) (μ : Mu) : addD (.str x) (.str y) μ = if x.length + y.length ≤ 1000000 then .ok (.str (x ++ y)) μ else .bad := of_eq_true (eq_self _)
@[simp] theorem add_lst (x y : List D) (μ : Mu) : addD (.lst x) (.lst y) μ = if x.length + y.length ≤ 1000000 then .ok (.lst (x ++ y)) μ else .bad := of_eq_true (eq_self _)
@[simp] theorem sub_int (i j : Int) (μ : Mu) : subD (.int i) (.int j) μ = .ok (.int (i - j)) μ := of_eq_true (eq_self _)
@[simp] theorem mul_int (i j : Int) (μ : Mu) : mulD (.int i) (.int j) μ = if (-(2 ^ 64) < i ∧ i < 2 ^ 64) ∨ (-(2 ^ 64) < j ∧ j < 2 ^ 64) then .ok (.int (i * j)) μ else .bad := of_eq_true (eq_self _)
@[simp] theorem mod_int (i j : Int) (μ : Mu) : modD (.int i) (.int j) μ = if 0 < j then .ok (.int (i % j)) μ else .bad := of_eq_true (eq_self _)
@[simp] theorem fdiv_int (i j : Int) (μ : Mu) : fdivD (.int i) (.int j) μ = if 0 < j ∧ j < 1073741824 then .ok (.int (i / j)) μ else .bad := of_eq_true (eq_self _)
@[simp] theorem pow_int (i j : Int) (μ : Mu) : powD (.int i) (.int j) μ = if 0 ≤ j ∧ j ≤ 1000000 ∧ i.natAbs < 2 ^ 64 then .ok (.int (i ^ j.toNat)) μ else .bad := of_eq_true (eq_self _)
@[simp] theorem lt_int (i j : Int) (μ : Mu) : ltD (.int i) (.int j) μ = .ok (.bl (decide (i < j))) μ := of_eq_true (eq_self _)
@[simp] theorem le_int (i j : Int) (μ : Mu) : leD (.int i) (.int j) μ = .ok (.bl (decide (i ≤ j))) μ := of_eq_true (eq_self _)
@[simp] theorem gt_int (i j : Int) (μ : Mu) : gtD (.int i) (.int j) μ = .ok (.bl (decide (j < i))) μ := of_eq_true (eq_self _)
@[simp] theorem ge_int (i j : Int) (μ : Mu) : geD (.int i) (.int j) μ = .ok (.bl (decide (j ≤ i))) μ := of_eq_true (eq_self _)
@[simp] theorem lt_str (x y : Str) (μ : Mu) : ltD (.str x) (.str y) μ = .ok (.bl (strLt x y)) μ := of_eq_true (eq_self _)
@[simp] theorem le_str (x y : Str) (μ : Mu) : leD (.str x) (.str y) μ = .ok (.bl (!strLt y x)) μ := of_eq_true (eq_self _)
@[simp] theorem is_non (x : D) (μ : Mu) : isD x .non μ = match isNoneD x with | some b => .ok (.bl b) μ | none => .bad := of_eq_true (eq_self _)
@[simp] theorem isnt_non (x : D) (μ : Mu) : isntD x .non μ = match isNoneD x with | some b => .ok (.bl (!b)) μ | none => .bad := of_eq_true (eq_self _)
@[simp] theorem isNone_non : isNoneD .non = some true := of_eq_true (eq_self _)
@[simp] theorem isNone_int (i : Int) : isNoneD (.int i) = some false := of_eq_true (eq_self _)
@[simp] theorem isNone_bl (i : Bool) : isNoneD (.bl i) = some false := of_eq_true (eq_self _)
@[simp] theorem isNone_str (i : Str) : isNoneD (.str i) = some false := of_eq_true (eq_self _)
@[simp] theorem isNone_tup (i : List D) : isNoneD (.tup i) = some false := of_eq_true (eq_self _)
@[simp] theorem isNone_lst (i : List D) : isNoneD (.lst i) = some false := of_eq_true (eq_self _)
@[simp] theorem abs_int (i : Int) (μ : Mu) : bAbs [.int i] μ = .ok (.int (if i < 0 then -i else i)) μ := of_eq_true (eq_self _)
@[simp] theorem append_hdl (l : Nat) (d : D) (μ : Mu) : mAppend (.hdl l) [d] μ = match μ[l]? with
    | some (.lst xs) => if xs.length < 1000000 then .ok .non (μ.set l (.lst (xs ++ [d]))) else .bad
    | _ => .bad := of_eq_true (eq_self _)
theorem for_nil (t : Tg) (b : FS) (ρ : En) (μ : Mu) : forD t b [] ρ μ = .nx ρ μ := by simp [forD]
def O.pass : O → (En → Mu → O) → O
  | .nx ρ μ, k => k ρ μ
  | .ct ρ μ, k => k ρ μ
  | .bk ρ μ, _ => .nx ρ μ
  | .rt d μ, _ => .rt d μ
  | .ex c fs μ, _ => .ex c fs μ
  | .bad, _ => .bad
@[simp] theorem O.pass_nx (ρ : En) (μ : Mu) (k : En → Mu → O) : (O.nx ρ μ).pass k = k ρ μ := of_eq_true (eq_self _)
@[simp] theorem O.pass_ct (ρ : En) (μ : Mu) (k : En → Mu → O) : (O.ct ρ μ).pass k = k ρ μ := of_eq_true (eq_self _)
@[simp] theorem O.pass_bk (ρ : En) (μ : Mu) (k : En → Mu → O) : (O.bk ρ μ).pass k = .nx ρ μ := of_eq_true (eq_self _)
@[simp] theorem O.pass_rt (d : D) (μ : Mu) (k : En → Mu → O) : (O.rt d μ).pass k = .rt d μ := of_eq_true (eq_self _)
@[simp] theorem O.pass_ex (c : Addr) (fs : List (Str × D)) (μ : Mu) (k : En → Mu → O) : (O.ex c fs μ).pass k = .ex c fs μ := of_eq_true (eq_self _)
theorem pass_if {p : Prop} [Decidable p] (a b : O) (h : En → Mu → O) : (if p then a else b).pass h = if p then a.pass h else b.pass h := by split <;> rfl
theorem for_cons (t : Tg) (b : FS) (x : D) (xs : List D) (ρ : En) (μ : Mu) : forD t b (x :: xs) ρ μ = match asg t x ρ with | none => .bad | some ρ1 => (b ρ1 μ).pass fun ρ2 μ2 => forD t b xs ρ2 μ2 := by
  rw [forD]
  cases asg t x ρ with
  | none => rfl
  | some ρ1 =>
    dsimp only
    cases b ρ1 μ <;> rfl
/-- a loop that never leaves what I says -/
theorem for_inv {t : Tg} {b : FS} (I : En → Mu → Prop) : ∀ {xs : List D} {ρ : En} {μ : Mu}, (∀ x ∈ xs, ∀ ρ μ, I ρ μ → ∃ ρ1 ρ2 μ2, asg t x ρ = some ρ1 ∧ b ρ1 μ = .nx ρ2 μ2 ∧ I ρ2 μ2) → I ρ μ → ∃ ρ' μ', forD t b xs ρ μ = .nx ρ' μ' ∧ I ρ' μ'
  | [], ρ, μ, _, h => ⟨ρ, μ, for_nil _ _ _ _, h⟩
  | x :: xs, ρ, μ, hb, h => by
    obtain ⟨ρ1, ρ2, μ2, e1, e2, i2⟩ := hb x (by simp) ρ μ h
    obtain ⟨ρ', μ', e, i'⟩ := for_inv (xs := xs) I (fun y hy => hb y (List.mem_cons_of_mem _ hy)) i2
    exact ⟨ρ', μ', by rw [for_cons, e1]; dsimp only; rw [e2]; exact e, i'⟩
/-- .. by enumerate -/
theorem for_enum {t : Tg} {b : FS} (I : Nat → En → Mu → Prop) : ∀ {xs : List D} {k : Nat} {ρ : En} {μ : Mu}, (∀ (i : Nat) (x : D), xs[i]? = some x → ∀ ρ μ, I (k + i) ρ μ → ∃ ρ1 ρ2 μ2, asg t (.tup [.int (k + i : Nat), x]) ρ = some ρ1 ∧ b ρ1 μ = .nx ρ2 μ2 ∧ I (k + i + 1) ρ2 μ2) → I k ρ μ →
    ∃ ρ' μ', forD t b (enumD k xs) ρ μ = .nx ρ' μ' ∧ I (k + xs.length) ρ' μ'
  | [], k, ρ, μ, _, h => ⟨ρ, μ, by simp [enumD, for_nil], h⟩
  | x :: xs, k, ρ, μ, hb, h => by
    obtain ⟨ρ1, ρ2, μ2, e1, e2, i2⟩ := hb 0 x rfl ρ μ h
    obtain ⟨ρ', μ', e, i'⟩ := for_enum (xs := xs) (k := k + 1) I (fun i y hy ρ μ hi => by
      have := hb (i + 1) y (by simpa using hy) ρ μ (by rw [show k + (i + 1) = k + 1 + i by omega]; exact hi)
      rw [show k + (i + 1) = k + 1 + i by omega] at this
      exact this) i2
    refine ⟨ρ', μ', ?_, by rw [List.length_cons, show k + (xs.length + 1) = k + 1 + xs.length by omega]; exact i'⟩
    have e1' : asg t (.tup [.int k, x]) ρ = some ρ1 := e1
    rw [enumD, for_cons, e1']
    dsimp only
    rw [e2]
    exact e
theorem take_app {α : Type} (xs ys : List α) : (xs ++ ys).take xs.length = xs := by simp
theorem trunc_app {μ ex : Mu} {d : D} (hd : d.closed μ.length = true) (h : closedMu μ.length μ = true) : trunc μ.length d (μ ++ ex) = .ok d μ := by
  unfold trunc closedMu
  rw [take_app, hd]
  unfold closedMu at h
  rw [List.take_length] at h
  rw [h]
  rfl
theorem trunc_self {μ : Mu} {d : D} (hd : d.closed μ.length = true) (h : closedMu μ.length μ = true) : trunc μ.length d μ = .ok d μ := by
  have := trunc_app (ex := []) hd h
  rwa [List.append_nil] at this
@[simp] theorem callF_eq (n : Nat) (g : FS) (ds : List D) (μ : Mu) (d : D) (μ1 : Mu) (h : g (startD n ds) μ = .rt d μ1) : callF n g ds μ = trunc μ.length d μ1 := by
  unfold callF
  rw [h]
end DL
/-! DL13: the laws' own digits. -/
namespace DL
open PySem L2
def bDig : FS := gif (tand (dtest (dvar 4)) (dtest (dbin gtD (dvar 3) (dc (.int 0))))) (gseq (gexpr (dbm "list" mAppend (dvar 6) (aCons (dbin modD (dvar 3) (dvar 8)) aNil)))
    (gasg (.nm 3) (dbin fdivD (dvar 3) (dvar 8)))) (gseq (gasg (.nm 5) (dbin modD (dbin powD (dbin addD (dvar 5) (dbin mulD (dc (.int 104729)) (dbin addD (dvar 7) (dc (.int 1))))) (dc (.int 2))) (dc (.int 2147483587))))
    (gexpr (dbm "list" mAppend (dvar 6) (aCons (dbin modD (dbin fdivD (dvar 5) (dc (.int 16))) (dvar 8)) aNil))))
def gDig : FS := (gseq (gasg (.nm 3) (dcallB bAbs (aCons (dvar 0) aNil)))
    (gseq (gasg (.nm 4) (dbin geD (dvar 3) (dbin powD (dc (.int 10)) (dc (.int 18)))))
    (gseq (gasg (.nm 5) (dbin addD (dbin modD (dvar 3) (dc (.int 2147483647))) (dbin mulD (dc (.int 7919)) (dvar 1))))
    (gseq (gasg (.nm 6) (dcel aNil))
    (gseq (gfor (itE (aCons (dvar 2) aNil)) (.tp [(.nm 7), (.nm 8)]) bDig)
    (gret (dfrz (dvar 6))))))))
theorem closed_ints (n : Nat) : ∀ ns : List Int, D.closedL n (ns.map .int) = true
  | [] => by simp [D.closedL]
  | a :: ns => by simp [D.closedL, D.closed, closed_ints n ns]
structure DigI (c t : Int) (ss : List Int) (μ : Mu) (k : Nat) (ρ : En) (μ' : Mu) : Prop where
  ex : ∃ (num seed : Int) (w : Bool) (a7 a8 : Option D) (ns : List Int), ρ = [some (.int c), some (.int t), some (.lst (ss.map .int)), some (.int num), some (.bl w), some (.int seed), some (.hdl μ.length), a7, a8] ∧ μ' = μ ++ [.lst (ns.map .int)] ∧ ns.length = k ∧
    (∀ (i : Nat) n s, ns[i]? = some n → ss[i]? = some s → 0 ≤ n ∧ n < s) ∧ 0 ≤ seed ∧ seed ≤ 2 ^ 40
theorem app_at {α : Type} {xs : List α} {y n : α} {i : Nat} (h : (xs ++ [y])[i]? = some n) : xs[i]? = some n ∨ (i = xs.length ∧ n = y) := by
  rcases Nat.lt_or_ge i xs.length with l | l
  · rw [List.getElem?_append_left l] at h
    exact .inl h
  · rw [List.getElem?_append_right l] at h
    rcases Nat.eq_zero_or_pos (i - xs.length) with z | z
    · rw [z] at h
      simp at h
      exact .inr ⟨by omega, h.symm⟩
    · rw [List.getElem?_eq_none (by show [y].length ≤ _; simp; omega)] at h
      cases h
theorem app_set {α : Type} (xs : List α) (x y : α) : (xs ++ [x]).set xs.length y = xs ++ [y] := by simp
theorem dig_step {c t : Int} {ss : List Int} {μ : Mu} (hs : ∀ s ∈ ss, 0 < s ∧ s < 1073741824) (hl : ss.length ≤ 1000) (i : Nat) (s : Int) (hi : ss[i]? = some s) (ρ : En) (μ' : Mu) (h : DigI c t ss μ i ρ μ') :
    ∃ ρ1 ρ2 μ2, asg (.tp [(.nm 7), (.nm 8)]) (.tup [.int i, .int s]) ρ = some ρ1 ∧ bDig ρ1 μ' = .nx ρ2 μ2 ∧ DigI c t ss μ (i + 1) ρ2 μ2 := by
  obtain ⟨num, seed, w, a7, a8, ns, rfl, rfl, hn, hb, h0, h1⟩ := h.ex
  obtain ⟨s0, s1⟩ := hs s (List.mem_of_getElem? hi)
  have hil : i < 1000 := Nat.lt_of_lt_of_le (List.getElem?_eq_some_iff.mp hi).1 hl
  have nl : (ns.map D.int).length < 1000000 := by rw [List.length_map]; omega
  by_cases hw : w = true ∧ 0 < num
  · obtain ⟨rfl, hw⟩ := hw
    refine ⟨[some (.int c), some (.int t), some (.lst (ss.map .int)), some (.int num), some (.bl true), some (.int seed), some (.hdl μ.length), some (.int i), some (.int s)], [some (.int c), some (.int t), some (.lst (ss.map .int)), some (.int (num / s)), some (.bl true), some (.int seed), some (.hdl μ.length), some (.int i), some (.int s)], μ ++ [.lst ((ns ++ [num % s]).map .int)], by simp, by simp [bDig, hw, tyD, s0, s1, hn, show i < 1000000 by omega], ⟨num / s, seed, true, _, _, ns ++ [num % s], rfl, by simp, by simp [hn], fun j n s' e1 e2 => ?_, h0, h1⟩⟩
    rcases app_at e1 with e | ⟨rfl, rfl⟩
    · exact hb j n s' e e2
    · rw [hn] at e2
      rw [hi] at e2
      cases e2
      exact ⟨Int.emod_nonneg _ (by omega), Int.emod_lt_of_pos _ s0⟩
  · have hw' : w = false ∨ ¬ 0 < num := by
      cases w
      · exact .inl rfl
      · exact .inr fun z => hw ⟨rfl, z⟩
    have m0 := Int.emod_nonneg ((seed + 104729 * (((i : Nat) : Int) + 1)) ^ 2) (b := 2147483587) (by omega)
    have m1 := Int.emod_lt_of_pos ((seed + 104729 * (((i : Nat) : Int) + 1)) ^ 2) (b := 2147483587) (by omega)
    have hp : (seed + 104729 * (((i : Nat) : Int) + 1)).natAbs < 18446744073709551616 := by omega
    refine ⟨[some (.int c), some (.int t), some (.lst (ss.map .int)), some (.int num), some (.bl w), some (.int seed), some (.hdl μ.length), some (.int i), some (.int s)], _, _, by simp, ?_, ⟨num, (seed + 104729 * (((i : Nat) : Int) + 1)) ^ 2 % 2147483587, w, some (.int i), some (.int s), ns ++ [(seed + 104729 * (((i : Nat) : Int) + 1)) ^ 2 % 2147483587 / 16 % s], rfl, rfl, by simp [hn], fun j n s' e1 e2 => ?_, m0, by omega⟩⟩
    · rcases hw' with rfl | hw'
      · simp [bDig, tyD, s0, s1, hn, show i < 1000000 by omega, hp]
      · cases w <;> simp [bDig, hw', tyD, s0, s1, hn, show i < 1000000 by omega, hp]
    · rcases app_at e1 with e | ⟨rfl, rfl⟩
      · exact hb j n s' e e2
      · rw [hn] at e2
        rw [hi] at e2
        cases e2
        exact ⟨Int.emod_nonneg _ (by omega), Int.emod_lt_of_pos _ s0⟩
theorem dig_ok (c t : Int) (ht : 0 ≤ t ∧ t ≤ 1000000) (ss : List Int) (hs : ∀ s ∈ ss, 0 < s ∧ s < 1073741824) (hl : ss.length ≤ 1000) (μ : Mu) (hμ : closedMu μ.length μ = true) :
    ∃ ns : List Int, ns.length = ss.length ∧ (∀ (i : Nat) n s, ns[i]? = some n → ss[i]? = some s → 0 ≤ n ∧ n < s) ∧ callF 9 gDig [.int c, .int t, .lst (ss.map .int)] μ = .ok (.lst (ns.map .int)) μ := by
  have m0 := Int.emod_nonneg (if c < 0 then -c else c) (b := 2147483647) (by omega)
  have m1 := Int.emod_lt_of_pos (if c < 0 then -c else c) (b := 2147483647) (by omega)
  have run := for_enum (t := .tp [(.nm 7), (.nm 8)]) (b := bDig) (xs := ss.map D.int) (k := 0) (DigI c t ss μ) (ρ := [some (.int c), some (.int t), some (.lst (ss.map .int)), some (.int (if c < 0 then -c else c)), some (.bl (decide (10 ^ 18 ≤ (if c < 0 then -c else c)))), some (.int ((if c < 0 then -c else c) % 2147483647 + 7919 * t)), some (.hdl μ.length), none, none]) (μ := μ ++ [.lst []])
    (fun i x hx ρ μ' h => by
      rw [List.getElem?_map] at hx
      cases hq : ss[i]? with
      | none => rw [hq] at hx; cases hx
      | some s =>
        rw [hq] at hx
        cases hx
        rw [Nat.zero_add] at h ⊢
        exact dig_step hs hl i s hq ρ μ' h)
    ⟨_, _, _, _, _, [], rfl, rfl, rfl, fun i n s e _ => (by simp at e), by omega, by omega⟩
  obtain ⟨ρ', μ', e, h⟩ := run
  obtain ⟨num, seed, w, a7, a8, ns, rfl, rfl, hn, hb, _, _⟩ := h.ex
  rw [List.length_map, Nat.zero_add] at hn
  refine ⟨ns, hn, hb, ?_⟩
  have body : gDig (startD 9 [.int c, .int t, .lst (ss.map .int)]) μ = .rt (.lst (ns.map .int)) (μ ++ [.gone]) := by
    simp [gDig, startD]
    simp at e
    rw [e]
    simp [show ns.length ≤ 1000000 by omega]
  rw [callF_eq _ _ _ _ _ _ body]
  exact trunc_app (by simp [D.closed, closed_ints]) hμ
end DL
/-! DL14: == and repr of flat things. -/
namespace DL
open PySem L2
@[simp] theorem eq_ints (a b : Int) (μ : Mu) : dEq (.int a) (.int b) μ = .ok (.bl (decide (a = b))) μ := by
  simp [dEq, eqD, D.kd, eqV]
  by_cases h : a = b <;> simp [h]
@[simp] theorem eq_strs (a b : Str) (μ : Mu) : dEq (.str a) (.str b) μ = .ok (.bl (decide (a = b))) μ := by
  simp [dEq, eqD, D.kd, eqV]
  by_cases h : a = b <;> simp [h]
@[simp] theorem eq_non (μ : Mu) : dEq .non .non μ = .ok (.bl true) μ := by simp [dEq, eqD, D.kd, eqV]
@[simp] theorem eq_non_int (a : Int) (μ : Mu) : dEq .non (.int a) μ = .ok (.bl false) μ := by simp [dEq, eqD, D.kd, eqV]
@[simp] theorem eq_int_non (a : Int) (μ : Mu) : dEq (.int a) .non μ = .ok (.bl false) μ := by simp [dEq, eqD, D.kd, eqV]
@[simp] theorem eq_non_str (a : Str) (μ : Mu) : dEq .non (.str a) μ = .ok (.bl false) μ := by simp [dEq, eqD, D.kd, eqV]
@[simp] theorem eq_str_non (a : Str) (μ : Mu) : dEq (.str a) .non μ = .ok (.bl false) μ := by simp [dEq, eqD, D.kd, eqV]
@[simp] theorem ne_strs (a b : Str) (μ : Mu) : dNe (.str a) (.str b) μ = .ok (.bl (!decide (a = b))) μ := by
  simp [dNe, D.kd, scal]
theorem lt_log {i : Int} (h : i.natAbs < 10 ^ 12) : i.natAbs.log2 < 1920 := by
  rcases Nat.eq_zero_or_pos i.natAbs with z | z
  · rw [z]; decide
  · exact (Nat.log2_lt (by omega)).mpr (Nat.lt_trans h (by decide))
/-- a short thing's text -/
theorem repr_short {d : D} {p : PyData} (h : d.py = some p) (h1 : p.leavesShort 13 = true) (h2 : p.showable = true) (h3 : p.hasDict = false) (h4 : p.depth ≤ 40) (h5 : p.bulk ≤ 60000) : reprD d = some p.shown := by
  have := PyData.shown_le_bulk 13 (by decide) p h1
  unfold reprD
  rw [h]
  dsimp only
  rw [if_pos ⟨h2, h3, h4, by omega⟩]
end DL
/-! DL15: an empty dict. -/
namespace DL
open PySem L2
def dnew : FE := fun _ μ => .ok (.hdl μ.length) (μ ++ [.dct [] []])
@[simp] theorem ap_new (ρ : En) (μ : Mu) : dnew ρ μ = .ok (.hdl μ.length) (μ ++ [.dct [] []]) := of_eq_true (eq_self _)
theorem de_dnew {X : Cx} {E : XK} {pos : Pos} : DE X E (.Dict [] [] pos) dnew := pe_imp pe_dnewK fun σ H Q ⟨W, ρ, μ, ok, en, p⟩ => fun q hq =>
  p (W.cell q) _ _ (Go.cell ok hq) (ok.newcell hq (m := .dct [] []) ⟨[], rfl, rfl, .nil⟩) (.hdl (by
    show (W.io ++ [q])[μ.length]? = some q
    rw [← ok.len]
    simp))
end DL
/-! DL16: comprehensions reckoned, closed cells, the laws' own draws. -/
namespace DL
open PySem L2
/-- cells without handles -/
def AllC (μ : Mu) : Prop := ∀ m ∈ μ, ∀ n, m.closed n = true
theorem AllC.mu {μ : Mu} (h : AllC μ) (n : Nat) : closedMu n μ = true := by
  unfold closedMu
  rw [List.all_eq_true]
  exact fun m hm => h m (List.mem_of_mem_take hm) n
theorem AllC.app {μ ex : Mu} (h : AllC μ) (h2 : AllC ex) : AllC (μ ++ ex) := fun m hm n => by
  rcases List.mem_append.mp hm with z | z
  · exact h m z n
  · exact h2 m z n
theorem AllC.set {μ : Mu} (h : AllC μ) (l : Nat) {m : MO} (hm : ∀ n, m.closed n = true) : AllC (μ.set l m) := fun k hk n => by
  rcases List.mem_or_eq_of_mem_set hk with z | z
  · exact h k z n
  · rw [z]; exact hm n
theorem trunc_len {μ μ1 : Mu} {d : D} (hl : μ1.length = μ.length) (hd : d.closed μ.length = true) (h : AllC μ1) : trunc μ.length d μ1 = .ok d μ1 := by
  unfold trunc
  rw [h.mu, hd, ← hl, List.take_length]
  rfl
theorem trunc_more {μ ex : Mu} {d : D} (hd : d.closed μ.length = true) (h : AllC μ) : trunc μ.length d (μ ++ ex) = .ok d μ := trunc_app hd (h.mu _)
@[simp] theorem lc_nil (t : Tg) (ft : FT) (fe : FE) (ρ : En) (μ : Mu) : lcD t ft fe ρ [] μ = .ok [] μ := by simp [lcD]
/-- a comprehension without effects -/
theorem lc_pure {t : Tg} {ft : FT} {fe : FE} {ρ : En} {μ : Mu} (g : D → En) (p : D → Bool) (f : D → D) : ∀ {xs : List D}, (∀ x ∈ xs, asg t x ρ = some (g x) ∧ ft (g x) μ = .ok (p x) μ ∧ (p x = true → fe (g x) μ = .ok (f x) μ)) → lcD t ft fe ρ xs μ = .ok ((xs.filter p).map f) μ
  | [], _ => by simp
  | x :: xs, h => by
    obtain ⟨h1, h2, h3⟩ := h x (by simp)
    have ih := lc_pure g p f (xs := xs) fun y hy => h y (List.mem_cons_of_mem _ hy)
    rw [lcD, h1]
    dsimp only
    rw [h2]
    cases hp : p x with
    | true => simp [hp, h3 hp, ih]
    | false => simp [hp, ih]
/-- .. with effects on the cells, all taken -/
theorem lc_inv {t : Tg} {fe : FE} {ρ : En} (I : Mu → Prop) (P : D → Prop) : ∀ {xs : List D} {μ : Mu}, (∀ x ∈ xs, ∀ μ, I μ → ∃ ρ1 y μ2, asg t x ρ = some ρ1 ∧ fe ρ1 μ = .ok y μ2 ∧ I μ2 ∧ P y) → I μ → ∃ ys μ', lcD t tyes fe ρ xs μ = .ok ys μ' ∧ I μ' ∧ ys.length = xs.length ∧ ∀ y ∈ ys, P y
  | [], μ, _, i => ⟨[], μ, by simp, i, rfl, fun _ z => nomatch z⟩
  | x :: xs, μ, h, i => by
    obtain ⟨ρ1, y, μ2, e1, e2, i2, py⟩ := h x (by simp) μ i
    obtain ⟨ys, μ', e, i', hl, hp⟩ := lc_inv (xs := xs) I P (fun z hz => h z (List.mem_cons_of_mem _ hz)) i2
    refine ⟨y :: ys, μ', ?_, i', by simp [hl], fun z hz => ?_⟩
    · rw [lcD, e1]
      simp [e2, e]
    · rcases List.mem_cons.mp hz with rfl | hz'
      · exact py
      · exact hp z hz'
@[simp] theorem ap_dand (f g : FE) (ρ : En) (μ : Mu) : dand f g ρ μ = (f ρ μ).bind fun d μ1 => match d with | .bl true => g ρ μ1 | .bl false => .ok (.bl false) μ1 | _ => .bad := of_eq_true (eq_self _)
@[simp] theorem ap_dor (f g : FE) (ρ : En) (μ : Mu) : dor f g ρ μ = (f ρ μ).bind fun d μ1 => match d with | .bl true => .ok (.bl true) μ1 | .bl false => g ρ μ1 | _ => .bad := of_eq_true (eq_self _)
@[simp] theorem ap_dnot (f : FE) (ρ : En) (μ : Mu) : dnot f ρ μ = (f ρ μ).bind fun d μ1 => match d with | .bl b => .ok (.bl (!b)) μ1 | _ => .bad := of_eq_true (eq_self _)
@[simp] theorem ap_dneg (f : FE) (ρ : En) (μ : Mu) : dneg f ρ μ = (f ρ μ).bind fun d μ1 => match d with | .int i => .ok (.int (-i)) μ1 | _ => .bad := of_eq_true (eq_self _)
@[simp] theorem ap_chain (g1 g2 : D → D → Mu → R D) (fa fb fc : FE) (ρ : En) (μ : Mu) : dchain g1 g2 fa fb fc ρ μ = (fa ρ μ).bind fun x μ1 => (fb ρ μ1).bind fun y μ2 => (g1 x y μ2).bind fun z μ3 => match z with
  | .bl true => (fc ρ μ3).bind fun w μ4 => g2 y w μ4
  | .bl false => .ok (.bl false) μ3
  | _ => .bad := of_eq_true (eq_self _)
@[simp] theorem isi_ap (d : D) (T : String) (μ : Mu) : bIsi [d, .cst (.ty T)] μ = match tyName μ d with
    | some t => match kitB t T with
      | some b => .ok (.bl b) μ
      | none => .bad
    | none => .bad := of_eq_true (eq_self _)
@[simp] theorem tn_non (μ : Mu) : tyName μ .non = some "NoneType" := of_eq_true (eq_self _)
@[simp] theorem tn_bl (μ : Mu) (b : Bool) : tyName μ (.bl b) = some "bool" := of_eq_true (eq_self _)
@[simp] theorem tn_int (μ : Mu) (b : Int) : tyName μ (.int b) = some "int" := of_eq_true (eq_self _)
@[simp] theorem tn_str (μ : Mu) (b : Str) : tyName μ (.str b) = some "str" := of_eq_true (eq_self _)
@[simp] theorem tn_tup (μ : Mu) (b : List D) : tyName μ (.tup b) = some "tuple" := of_eq_true (eq_self _)
@[simp] theorem tn_lst (μ : Mu) (b : List D) : tyName μ (.lst b) = some "list" := of_eq_true (eq_self _)
@[simp] theorem k_non_str : kitB "NoneType" "str" = some false := by decide +kernel
@[simp] theorem k_bool_str : kitB "bool" "str" = some false := by decide +kernel
@[simp] theorem k_int_str : kitB "int" "str" = some false := by decide +kernel
@[simp] theorem k_str_str : kitB "str" "str" = some true := by decide +kernel
@[simp] theorem k_tup_str : kitB "tuple" "str" = some false := by decide +kernel
@[simp] theorem k_lst_str : kitB "list" "str" = some false := by decide +kernel
@[simp] theorem k_dict_str : kitB "dict" "str" = some false := by decide +kernel
@[simp] theorem ix_lst (xs : List D) (k : Int) (μ : Mu) : dIx (.lst xs) (.int k) μ = R.of (atI xs k) μ := of_eq_true (eq_self _)
@[simp] theorem ix_tup (xs : List D) (k : Int) (μ : Mu) : dIx (.tup xs) (.int k) μ = R.of (atI xs k) μ := of_eq_true (eq_self _)
theorem ix_hdl {l : Nat} {μ : Mu} {xs : List D} (h : μ[l]? = some (.lst xs)) (k : Int) : dIx (.hdl l) (.int k) μ = R.of (atI xs k) μ := by
  simp [dIx, ixD, seqD, h]
@[simp] theorem at0 (x : D) (xs : List D) : atI (x :: xs) 0 = some x := by
  simp [atI, ixN]
@[simp] theorem at1 (x y : D) (xs : List D) : atI (x :: y :: xs) 1 = some y := by
  unfold atI ixN
  rw [if_pos (by decide), if_pos (by simp; omega)]
  rfl
theorem at_lt {xs : List D} {k : Int} (h0 : 0 ≤ k) (h : k < xs.length) : ∃ x, atI xs k = some x ∧ x ∈ xs := by
  have hk : k.toNat < xs.length := by omega
  refine ⟨xs[k.toNat], ?_, List.getElem_mem _⟩
  simp [atI, ixN, h0, h, hk]
theorem seq_assoc (a b c : FS) (ρ : En) (μ : Mu) : gseq a (gseq b c) ρ μ = (gseq a b ρ μ).thn c := by
  rw [ap_seq, ap_seq]
  cases a ρ μ with
  | nx ρ1 μ1 => rw [O.thn_nx, O.thn_nx, ap_seq]
  | _ => rfl
/-! ### the laws' draws -/
def gPool1 : FS := gif (dtest (dbin ltD (dvar 1) (dcallB bLen (aCons (dvar 0) aNil)))) (gasg (.nm 2) (dcallB bAbs (aCons (dbin dIx (dvar 0) (dvar 1)) aNil))) gnil
def gPool2 : FS := (gseq (gasg (.nm 3) (dbin modD (dbin mulD (dbin addD (dbin addD (dbin addD (dbin modD (dvar 2) (dc (.int 2147483629))) (dbin mulD (dbin mulD (dc (.int 7919)) (dvar 1)) (dvar 1))) (dbin mulD (dc (.int 31)) (dvar 1))) (dc (.int 17))) (dc (.int 48271))) (dc (.int 2147483647))))
    (gret (dcel (aCons (dbin mulD (dvar 2) (dcallB bInt (aCons (dbin geD (dvar 2) (dbin powD (dc (.int 10)) (dc (.int 18)))) aNil))) (aCons (dbin modD (dbin mulD (dvar 3) (dvar 3)) (dc (.int 2147483629))) aNil)))))
def gPool : FS := gseq (gasg (.nm 2) (dc (.int 0))) (gseq gPool1 gPool2)
def gTake : FS := (gseq (gif (dtest (dbin gtD (dbin dIx (dvar 0) (dc (.int 0))) (dc (.int 0)))) (gseq (gasg (.nm 2) (dbin modD (dbin dIx (dvar 0) (dc (.int 0))) (dvar 1)))
    (gseq (gsetix (dvar 0) (dc (.int 0)) (dbin fdivD (dbin dIx (dvar 0) (dc (.int 0))) (dvar 1)))
    (gret (dvar 2)))) gnil)
    (gseq (gsetix (dvar 0) (dc (.int 1)) (dbin modD (dbin addD (dbin mulD (dbin dIx (dvar 0) (dc (.int 1))) (dc (.int 48271))) (dc (.int 12345))) (dc (.int 2147483647))))
    (gret (dbin modD (dbin fdivD (dbin modD (dbin mulD (dbin dIx (dvar 0) (dc (.int 1))) (dbin dIx (dvar 0) (dc (.int 1)))) (dc (.int 2147483629))) (dc (.int 64))) (dvar 1)))))
/-- a pool lies at l -/
structure Pool (μ : Mu) (l : Nat) : Prop where
  ex : ∃ a b : Int, μ[l]? = some (.lst [.int a, .int b]) ∧ 0 ≤ b ∧ b < 2147483648
  cl : AllC μ
theorem pool_cl (a b : Int) (n : Nat) : MO.closed n (.lst [.int a, .int b]) = true := by simp [MO.closed, D.closedL, D.closed]
theorem pool2 (s : D) (k : Nat) (hk : k ≤ 1000) (c : Int) (μ : Mu) : ∃ a b : Int, gPool2 [some s, some (.int k), some (.int c), none] μ = .rt (.hdl μ.length) (μ ++ [.lst [.int a, .int b]]) ∧ 0 ≤ b ∧ b < 2147483648 := by
  have m0 := Int.emod_nonneg ((c % 2147483629 + 7919 * (k : Int) * k + 31 * k + 17) * 48271) (b := 2147483647) (by omega)
  have m1 := Int.emod_lt_of_pos ((c % 2147483629 + 7919 * (k : Int) * k + 31 * k + 17) * 48271) (b := 2147483647) (by omega)
  generalize hx : (c % 2147483629 + 7919 * (k : Int) * k + 31 * k + 17) * 48271 % 2147483647 = x at m0 m1
  have n0 := Int.emod_nonneg (x * x) (b := 2147483629) (by omega)
  have n1 := Int.emod_lt_of_pos (x * x) (b := 2147483629) (by omega)
  generalize hy : x * x % 2147483629 = y at n0 n1
  have hk2 : -18446744073709551616 < (k : Int) ∧ (k : Int) < 18446744073709551616 := by omega
  have hx2 : -18446744073709551616 < x ∧ x < 18446744073709551616 := by omega
  by_cases hc18 : (1000000000000000000 : Int) ≤ c
  · exact ⟨c, y, by simp [gPool2, hk2.1, hk2.2, bInt, hc18, hx, hx2.1, hx2.2, hy], n0, by omega⟩
  · exact ⟨0, y, by simp [gPool2, hk2.1, hk2.2, bInt, hc18, hx, hx2.1, hx2.2, hy], n0, by omega⟩
theorem pool_ok (ns : List Int) (hl : ns.length ≤ 1000) (k : Nat) (hk : k ≤ 1000) (μ : Mu) (hμ : AllC μ) : ∃ μ', callF 4 gPool [.lst (ns.map .int), .int k] μ = .ok (.hdl μ.length) μ' ∧ Pool μ' μ.length ∧ ∃ m, μ' = μ ++ [m] := by
  have main : ∀ c : Int, gPool1 [some (.lst (ns.map .int)), some (.int k), some (.int 0), none] μ = .nx [some (.lst (ns.map .int)), some (.int k), some (.int c), none] μ →
      ∃ μ', callF 4 gPool [.lst (ns.map .int), .int k] μ = .ok (.hdl μ.length) μ' ∧ Pool μ' μ.length ∧ ∃ m, μ' = μ ++ [m] := by
    intro c hc
    obtain ⟨a, b, e, b0, b1⟩ := pool2 (.lst (ns.map .int)) k hk c μ
    have body : gPool (startD 4 [.lst (ns.map .int), .int k]) μ = .rt (.hdl μ.length) (μ ++ [.lst [.int a, .int b]]) := by
      simp [gPool, startD, hc, e]
    refine ⟨μ ++ [.lst [.int a, .int b]], ?_, ⟨⟨a, b, by simp, b0, b1⟩, hμ.app fun m hm n => by rw [List.mem_singleton.mp hm]; exact pool_cl _ _ n⟩, _, rfl⟩
    rw [callF_eq _ _ _ _ _ _ body]
    simp [trunc, D.closed]
  by_cases h : k < ns.length
  · refine main (if ns[k] < 0 then -ns[k] else ns[k]) ?_
    have hk' : (k : Int) < ns.length := by omega
    have e : atI (ns.map D.int) k = some (.int ns[k]) := by simp [atI, ixN, h]
    simp [gPool1, bLen, lenD, seqD, hk', e]
  · refine main 0 ?_
    have hk' : ¬ (k : Int) < ns.length := by omega
    simp [gPool1, bLen, lenD, seqD, hk']
theorem take_ok {μ : Mu} {l : Nat} (h : Pool μ l) (n : Int) (hn : 0 < n ∧ n < 1073741824) : ∃ v μ', callF 3 gTake [.hdl l, .int n] μ = .ok (.int v) μ' ∧ 0 ≤ v ∧ v < n ∧ Pool μ' l ∧ μ'.length = μ.length := by
  obtain ⟨a, b, e, b0, b1⟩ := h.ex
  have hll : l < μ.length := (List.getElem?_eq_some_iff.mp e).1
  by_cases ha : 0 < a
  · have body : gTake (startD 3 [.hdl l, .int n]) μ = .rt (.int (a % n)) (μ.set l (.lst [.int (a / n), .int b])) := by
      simp [gTake, startD, ix_hdl e, ha, hn.1, hn.2, gsetix, e, ixN]
    refine ⟨_, _, (callF_eq _ _ _ _ _ _ body).trans (trunc_len (by simp) (by simp [D.closed]) (h.cl.set l (pool_cl _ _))), Int.emod_nonneg _ (by omega), Int.emod_lt_of_pos _ hn.1, ⟨⟨a / n, b, by simp [hll], b0, b1⟩, h.cl.set l (pool_cl _ _)⟩, by simp⟩
  · have m0 := Int.emod_nonneg (b * 48271 + 12345) (b := 2147483647) (by omega)
    have m1 := Int.emod_lt_of_pos (b * 48271 + 12345) (b := 2147483647) (by omega)
    generalize hy : (b * 48271 + 12345) % 2147483647 = y at m0 m1
    have hb2 : -18446744073709551616 < b ∧ b < 18446744073709551616 := by omega
    have hy2 : -18446744073709551616 < y ∧ y < 18446744073709551616 := by omega
    have e2 : (μ.set l (.lst [.int a, .int y]))[l]? = some (.lst [.int a, .int y]) := by simp [hll]
    have body : gTake (startD 3 [.hdl l, .int n]) μ = .rt (.int (y * y % 2147483629 / 64 % n)) (μ.set l (.lst [.int a, .int y])) := by
      simp [gTake, startD, ix_hdl e, ha, hn.1, hn.2, gsetix, e, ixN, hy, ix_hdl e2, hb2.1, hb2.2, hy2.1, hy2.2]
    refine ⟨_, _, (callF_eq _ _ _ _ _ _ body).trans (trunc_len (by simp) (by simp [D.closed]) (h.cl.set l (pool_cl _ _))), Int.emod_nonneg _ (by omega), Int.emod_lt_of_pos _ hn.1, ⟨⟨_, y, e2, m0, by omega⟩, h.cl.set l (pool_cl _ _)⟩, by simp⟩
end DL
namespace DL01
open PySem PySem.Spec PyProof.Rows L2 DL
/-! the text -/
def topS (i : Nat) : Stmt := PySem.Challenge.pw_wholeparcels_k01_names_and_paths.main.body.getD i (.Pass ⟨0, 0, 0, 0⟩)
abbrev s_law_is_name : Stmt := topS 10
theorem sc_law_is_name : FnScope ["_law_thing", "_law_sign"] ["_law_thing"] (defScope s_law_is_name) := ⟨rfl, rfl, rfl, by decide +kernel, rfl, by decide +kernel, by decide +kernel⟩
abbrev s_law_is_path : Stmt := topS 11
theorem sc_law_is_path : FnScope ["_law_thing", "_law_parts", "_law_sign", "_law_one"] ["_law_thing"] (defScope s_law_is_path) := ⟨rfl, rfl, rfl, by decide +kernel, rfl, by decide +kernel, by decide +kernel⟩
abbrev s_law_pool : Stmt := topS 7
theorem sc_law_pool : FnScope ["_law_script", "_law_k", "_law_cell", "_law_mixed"] ["_law_script", "_law_k"] (defScope s_law_pool) := ⟨rfl, rfl, rfl, by decide +kernel, rfl, by decide +kernel, by decide +kernel⟩
abbrev s_law_take : Stmt := topS 8
theorem sc_law_take : FnScope ["_law_pool_here", "_law_many", "_law_found"] ["_law_pool_here", "_law_many"] (defScope s_law_take) := ⟨rfl, rfl, rfl, by decide +kernel, rfl, by decide +kernel, by decide +kernel⟩
abbrev s_law_text : Stmt := topS 9
theorem sc_law_text : FnScope ["_law_pool_here", "_law_signs", "_law_turn"] ["_law_pool_here"] (defScope s_law_text) := ⟨rfl, rfl, rfl, by decide +kernel, rfl, by decide +kernel, by decide +kernel⟩
abbrev s_is_name : Stmt := topS 4
theorem sc_is_name : FnScope ["thing", "sign"] ["thing"] (defScope s_is_name) := ⟨rfl, rfl, rfl, by decide +kernel, rfl, by decide +kernel, by decide +kernel⟩
abbrev s_is_path : Stmt := topS 5
theorem sc_is_path : FnScope ["thing", "names", "one"] ["thing"] (defScope s_is_path) := ⟨rfl, rfl, rfl, by decide +kernel, rfl, by decide +kernel, by decide +kernel⟩
abbrev s_law : Stmt := topS 12
theorem sc_law : FnScope ["_law_script", "_law_k", "_law_pool_here", "_law_some", "_law_thing", "_law_turn"] ["_law_script"] (defScope s_law) := ⟨rfl, rfl, rfl, by decide +kernel, rfl, by decide +kernel, by decide +kernel⟩
/-! what the defs are worth -/
def g_law_is_name : FS := (gseq (gif (tor (tnot (dtest (dcallB bIsi (aCons (dvar 0) (aCons (dc (.cst (.ty "str"))) aNil))))) (tor (dtest (dbin dEq (dvar 0) (dc (.str "")))) (dtest (dbin gtD (dcallB bLen (aCons (dvar 0) aNil)) (dc (.int 8)))))) (gret (dc (.bl false))) gnil)
    (gret (dbin dEq (dlc (itA (dvar 0)) [1] (.nm 1) (tnot (dtest (dchain leD leD (dc (.str "a")) (dvar 1) (dc (.str "z"))))) (dvar 1)) (dlst aNil))))
def F_law_is_name : List D → Mu → R D := callF 2 g_law_is_name
def g_law_is_path : FS := (gseq (gif (tnot (dtest (dcallB bIsi (aCons (dvar 0) (aCons (dc (.cst (.ty "str"))) aNil))))) (gret (dc (.bl false))) gnil)
    (gseq (gasg (.nm 1) (dcel (aCons (dc (.str "")) aNil)))
    (gseq (gfor (itA (dvar 0)) (.nm 2) (gif (dtest (dbin dEq (dvar 2) (dc (.str "/")))) (gexpr (dbm "list" mAppend (dvar 1) (aCons (dc (.str "")) aNil))) (gsetix (dvar 1) (dneg (dc (.int 1))) (dbin addD (dbin dIx (dvar 1) (dneg (dc (.int 1)))) (dvar 2)))))
    (gret (dand (dbin leD (dcallB bLen (aCons (dvar 1) aNil)) (dc (.int 3))) (dbin dEq (dlc (itA (dfrz (dvar 1))) [3] (.nm 3) (tnot (dtest (dcall F_law_is_name [] (aCons (dvar 3) aNil)))) (dvar 3)) (dlst aNil)))))))
def F_law_is_path : List D → Mu → R D := callF 4 g_law_is_path
def g_law_pool : FS := (gseq (gasg (.nm 2) (dc (.int 0)))
    (gseq (gif (dtest (dbin ltD (dvar 1) (dcallB bLen (aCons (dvar 0) aNil)))) (gasg (.nm 2) (dcallB bAbs (aCons (dbin dIx (dvar 0) (dvar 1)) aNil))) gnil)
    (gseq (gasg (.nm 3) (dbin modD (dbin mulD (dbin addD (dbin addD (dbin addD (dbin modD (dvar 2) (dc (.int 2147483629))) (dbin mulD (dbin mulD (dc (.int 7919)) (dvar 1)) (dvar 1))) (dbin mulD (dc (.int 31)) (dvar 1))) (dc (.int 17))) (dc (.int 48271))) (dc (.int 2147483647))))
    (gret (dcel (aCons (dbin mulD (dvar 2) (dcallB bInt (aCons (dbin geD (dvar 2) (dbin powD (dc (.int 10)) (dc (.int 18)))) aNil))) (aCons (dbin modD (dbin mulD (dvar 3) (dvar 3)) (dc (.int 2147483629))) aNil)))))))
def F_law_pool : List D → Mu → R D := callF 4 g_law_pool
def g_law_take : FS := (gseq (gif (dtest (dbin gtD (dbin dIx (dvar 0) (dc (.int 0))) (dc (.int 0)))) (gseq (gasg (.nm 2) (dbin modD (dbin dIx (dvar 0) (dc (.int 0))) (dvar 1)))
    (gseq (gsetix (dvar 0) (dc (.int 0)) (dbin fdivD (dbin dIx (dvar 0) (dc (.int 0))) (dvar 1)))
    (gret (dvar 2)))) gnil)
    (gseq (gsetix (dvar 0) (dc (.int 1)) (dbin modD (dbin addD (dbin mulD (dbin dIx (dvar 0) (dc (.int 1))) (dc (.int 48271))) (dc (.int 12345))) (dc (.int 2147483647))))
    (gret (dbin modD (dbin fdivD (dbin modD (dbin mulD (dbin dIx (dvar 0) (dc (.int 1))) (dbin dIx (dvar 0) (dc (.int 1)))) (dc (.int 2147483629))) (dc (.int 64))) (dvar 1)))))
def F_law_take : List D → Mu → R D := callF 3 g_law_take
def g_law_text : FS := (gseq (gasg (.nm 1) (dlst (aCons (dc (.str "a")) (aCons (dc (.str "b")) (aCons (dc (.str "z")) (aCons (dc (.str "abcdefgh")) (aCons (dc (.str "abc")) (aCons (dc (.str "/")) (aCons (dc (.str "//")) (aCons (dc (.str "A")) (aCons (dc (.str "1")) (aCons (dc (.str "")) (aCons (dc (.str " ")) (aCons (dc (.str "-")) (aCons (dc (.str "abcdefghi")) (aCons (dc (.str "\n")) aNil))))))))))))))))
    (gret (dbm "str" mJoin (dc (.str "")) (aCons (dlc (itR1 (aCons (dbin addD (dc (.int 1)) (dcall F_law_take [] (aCons (dvar 0) (aCons (dc (.int 6)) aNil)))) aNil)) [2] (.nm 2) tyes (dbin dIx (dvar 1) (dcall F_law_take [] (aCons (dvar 0) (aCons (dbin dIx (dlst (aCons (dc (.int 5)) (aCons (dc (.int 6)) (aCons (dc (.int 14)) aNil)))) (dcall F_law_take [] (aCons (dvar 0) (aCons (dc (.int 3)) aNil)))) aNil))))) aNil))))
def F_law_text : List D → Mu → R D := callF 3 g_law_text
def g_is_name : FS := (gret (dand (dcallB bIsi (aCons (dvar 0) (aCons (dc (.cst (.ty "str"))) aNil))) (dand (dchain leD leD (dc (.int 1)) (dcallB bLen (aCons (dvar 0) aNil)) (dc (.int 8))) (dcallB bAll (aCons (dlc (itA (dvar 0)) [1] (.nm 1) tyes (dbin dIn (dvar 1) (dc (.str "abcdefghijklmnopqrstuvwxyz")))) aNil)))))
def F_is_name : List D → Mu → R D := callF 2 g_is_name
def g_is_path : FS := (gseq (gif (tnot (dtest (dcallB bIsi (aCons (dvar 0) (aCons (dc (.cst (.ty "str"))) aNil))))) (gret (dc (.bl false))) gnil)
    (gseq (gasg (.nm 1) (dbm "str" mSplit (dvar 0) (aCons (dc (.str "/")) aNil)))
    (gret (dand (dbin leD (dcallB bLen (aCons (dvar 1) aNil)) (dc (.int 3))) (dcallB bAll (aCons (dlc (itA (dvar 1)) [2] (.nm 2) tyes (dcall F_is_name [] (aCons (dvar 2) aNil))) aNil))))))
def F_is_path : List D → Mu → R D := callF 3 g_is_path
def g_law : FS := (gseq (gfor (itR1 (aCons (dcallB bMax (aCons (dc (.int 1)) (aCons (dcallB bMin (aCons (dc (.int 20)) (aCons (dcallB bLen (aCons (dvar 0) aNil)) aNil))) aNil))) aNil)) (.nm 1) (gseq (gasg (.nm 2) (dcall F_law_pool [] (aCons (dvar 0) (aCons (dvar 1) aNil))))
    (gseq (gasg (.nm 3) (dlc (itR1 (aCons (dc (.int 12)) aNil)) [5] (.nm 5) tyes (dcall F_law_text [] (aCons (dvar 2) aNil))))
    (gseq (gasg (.nm 3) (dbin addD (dvar 3) (dlst (aCons (dc (.str "abcdefgh")) (aCons (dc (.str "abcdefghi")) (aCons (dc (.str "a/b/c")) (aCons (dc (.str "a/b/c/d")) (aCons (dc (.str "/a")) (aCons (dc (.str "a/")) (aCons (dc (.str "a//b")) (aCons (dc (.str "")) aNil)))))))))))
    (gfor (itA (dbin addD (dvar 3) (dlst (aCons (dc .non) (aCons (dc (.int 5)) (aCons (dc (.bl true)) (aCons (dlst (aCons (dc (.str "a")) aNil)) (aCons (dtup (aCons (dc (.str "a")) aNil)) (aCons dnew (aCons (dc (.str "a b")) (aCons (dc (.str "a\n")) aNil))))))))))) (.nm 4) (gif (dtest (dbin dNe (dcallB bRepr (aCons (dlst (aCons (dcall F_is_name [] (aCons (dvar 4) aNil)) (aCons (dcall F_is_path [] (aCons (dvar 4) aNil)) aNil))) aNil)) (dcallB bRepr (aCons (dlst (aCons (dcall F_law_is_name [] (aCons (dvar 4) aNil)) (aCons (dcall F_law_is_path [] (aCons (dvar 4) aNil)) aNil))) aNil)))) (gret (dc (.bl false))) gnil))))))
    (gret (dc (.bl true))))
def F_law : List D → Mu → R D := callF 6 g_law
/-! what the top has left -/
abbrev FnP (K : PySem.W.Frag) (x : Str) (st : Stmt) (kws : List (Str × V)) (f : Addr) (fd : FuncData) : Prop := FunD K x x (defArgs st) (defBody st) (defScope st) [] kws f fd
structure Tops (K : PySem.W.Frag) (mg : Str → Option Value) where
  f_law_is_name : Addr
  d_law_is_name : FuncData
  F_law_is_name : FnP K "_law_is_name" s_law_is_name [] f_law_is_name d_law_is_name
  m_law_is_name : mg "_law_is_name" = some (.ref f_law_is_name)
  f_law_is_path : Addr
  d_law_is_path : FuncData
  F_law_is_path : FnP K "_law_is_path" s_law_is_path [] f_law_is_path d_law_is_path
  m_law_is_path : mg "_law_is_path" = some (.ref f_law_is_path)
  f_law_pool : Addr
  d_law_pool : FuncData
  F_law_pool : FnP K "_law_pool" s_law_pool [] f_law_pool d_law_pool
  m_law_pool : mg "_law_pool" = some (.ref f_law_pool)
  f_law_take : Addr
  d_law_take : FuncData
  F_law_take : FnP K "_law_take" s_law_take [] f_law_take d_law_take
  m_law_take : mg "_law_take" = some (.ref f_law_take)
  f_law_text : Addr
  d_law_text : FuncData
  F_law_text : FnP K "_law_text" s_law_text [] f_law_text d_law_text
  m_law_text : mg "_law_text" = some (.ref f_law_text)
  f_is_name : Addr
  d_is_name : FuncData
  F_is_name : FnP K "is_name" s_is_name [] f_is_name d_is_name
  m_is_name : mg "is_name" = some (.ref f_is_name)
  f_is_path : Addr
  d_is_path : FuncData
  F_is_path : FnP K "is_path" s_is_path [] f_is_path d_is_path
  m_is_path : mg "is_path" = some (.ref f_is_path)
  f_law : Addr
  d_law : FuncData
  F_law : FnP K "law" s_law [] f_law d_law
  m_law : mg "law" = some (.ref f_law)
  z_abs : mg "abs" = none
  z_all : mg "all" = none
  z_int : mg "int" = none
  z_isinstance : mg "isinstance" = none
  z_len : mg "len" = none
  z_max : mg "max" = none
  z_min : mg "min" = none
  z_range : mg "range" = none
  z_repr : mg "repr" = none
  z_str : mg "str" = none
  c_LETTERS : { t : Tok // mg "LETTERS" = some (.str "abcdefghijklmnopqrstuvwxyz" t) }
  c_MOST_NAME : { t : Tok // mg "MOST_NAME" = some (.int 8 t) }
  c_MOST_NAMES : { t : Tok // mg "MOST_NAMES" = some (.int 3 t) }
section
variable {P : Program} {w : World} {K : PySem.W.Frag} {mg : Str → Option Value} {base : Heap}
theorem Tops.b_law_pool_2 (T : Tops K mg) : Dfl K T.d_law_pool ["_law_script", "_law_k"] 2 [] := dfl0 (T.F_law_pool.bindsN fun _ _ _ _ _ _ us hl => match us, hl with | [_, _], _ => rfl)
theorem Tops.b_law_text_1 (T : Tops K mg) : Dfl K T.d_law_text ["_law_pool_here"] 1 [] := dfl0 (T.F_law_text.bindsN fun _ _ _ _ _ _ us hl => match us, hl with | [_], _ => rfl)
theorem Tops.b_is_path_1 (T : Tops K mg) : Dfl K T.d_is_path ["thing"] 1 [] := dfl0 (T.F_is_path.bindsN fun _ _ _ _ _ _ us hl => match us, hl with | [_], _ => rfl)
theorem Tops.b_is_name_1 (T : Tops K mg) : Dfl K T.d_is_name ["thing"] 1 [] := dfl0 (T.F_is_name.bindsN fun _ _ _ _ _ _ us hl => match us, hl with | [_], _ => rfl)
theorem Tops.b_law_is_path_1 (T : Tops K mg) : Dfl K T.d_law_is_path ["_law_thing"] 1 [] := dfl0 (T.F_law_is_path.bindsN fun _ _ _ _ _ _ us hl => match us, hl with | [_], _ => rfl)
theorem Tops.b_law_is_name_1 (T : Tops K mg) : Dfl K T.d_law_is_name ["_law_thing"] 1 [] := dfl0 (T.F_law_is_name.bindsN fun _ _ _ _ _ _ us hl => match us, hl with | [_], _ => rfl)
theorem Tops.b_law_take_2 (T : Tops K mg) : Dfl K T.d_law_take ["_law_pool_here", "_law_many"] 2 [] := dfl0 (T.F_law_take.bindsN fun _ _ _ _ _ _ us hl => match us, hl with | [_, _], _ => rfl)
set_option maxHeartbeats 4000000 in
theorem ok_law_is_name (T : Tops K mg) : FnG P w K mg base 1 T.f_law_is_name T.d_law_is_name ["_law_thing"] F_law_is_name := by
  refine FunD.g T.F_law_is_name sc_law_is_name fun cdv A outer s H E c => ?_
  exact (ds_cons (ds_if (dt_w (dw_or (dt_not (dtest_val (de_callB cx_isi T.z_isinstance (da_cons (dv 0) (da_cons (de_ty T.z_str) da_nil))))) (dw_or (dt_cmp (opx_eq c.room.units) (dv 0) dstr) (dw_or1 (dt_cmp opx_gt (de_callB cx_len T.z_len (da_cons (dv 0) da_nil)) dint))))) (ds_one (ds_ret dbool)) ds_nil)
    (ds_one (ds_ret (de_cmp (opx_eq c.room.units) (de_lc [("_law_sign", 1)] rfl sc_law_is_name.nd (di_any (dv 0)) (blkOk_by (N := ["_law_thing", "_law_sign"]) (sc := defScope s_law_is_name) (by decide +kernel)) (fun s1 H1 C1 cl1 fp1 => (dg_name sc_law_is_name.nd)) (fun s1 H1 C1 cl1 fp1 => (dts_one (dt_not (dt_chain opx_le opx_le dstr (dv 1) dstr)))) (fun s1 H1 C1 cl1 fp1 => (dv 1))) (de_lst da_nil)))))
set_option maxHeartbeats 4000000 in
theorem ok_law_is_path (T : Tops K mg) : FnG P w K mg base 2 T.f_law_is_path T.d_law_is_path ["_law_thing"] F_law_is_path := by
  have G_law_is_name := ok_law_is_name (P := P) (w := w) (base := base) T
  refine FunD.g T.F_law_is_path sc_law_is_path fun cdv A outer s H E c => ?_
  exact (ds_cons (ds_if (dt_not (dtest_val (de_callB cx_isi T.z_isinstance (da_cons (dv 0) (da_cons (de_ty T.z_str) da_nil))))) (ds_one (ds_ret dbool)) ds_nil)
    (ds_cons (ds_set 1 sc_law_is_path.nd (de_cel (da_cons dstr da_nil)))
    (ds_cons (ds_for (passes_of rfl) rfl (di_any (dv 0)) (dg_name sc_law_is_path.nd) (ds_one (ds_if (dt_cmp (opx_eq c.room.units) (dv 2) dstr) (ds_one (ds_expr (de_bm PySem.F.plainAttrs_list PySem.F.slot_list_append PySem.F.type_list_append mx_append (dv 1) (da_cons dstr da_nil)))) (ds_one (ds_setix (de_bin opx_add (de_ix (dv 1) (de_neg dint)) (dv 2)) (dv 1) (de_neg dint))))))
    (ds_one (ds_ret (de_and (de_cmp opx_le (de_callB cx_len T.z_len (da_cons (dv 1) da_nil)) dint) (de_one (de_cmp (opx_eq c.room.units) (de_lc [("_law_one", 3)] rfl sc_law_is_path.nd (di_any (de_frz (dv 1))) (blkOk_by (N := ["_law_thing", "_law_parts", "_law_sign", "_law_one"]) (sc := defScope s_law_is_path) (by decide +kernel)) (fun s1 H1 C1 cl1 fp1 => (dg_name sc_law_is_path.nd)) (fun s1 H1 C1 cl1 fp1 => (dts_one (dt_not (dtest_val (de_call G_law_is_name ((c.blk s1 H1 _ _ fp1).mono (by decide)) T.m_law_is_name T.F_law_is_name.kp T.b_law_is_name_1 (da_cons (dv 3) da_nil)))))) (fun s1 H1 C1 cl1 fp1 => (dv 3))) (de_lst da_nil)))))))))
set_option maxHeartbeats 4000000 in
theorem ok_law_pool (T : Tops K mg) : FnG P w K mg base 1 T.f_law_pool T.d_law_pool ["_law_script", "_law_k"] F_law_pool := by
  refine FunD.g T.F_law_pool sc_law_pool fun cdv A outer s H E c => ?_
  exact (ds_cons (ds_set 2 sc_law_pool.nd dint)
    (ds_cons (ds_if (dt_cmp opx_lt (dv 1) (de_callB cx_len T.z_len (da_cons (dv 0) da_nil))) (ds_one (ds_set 2 sc_law_pool.nd (de_callB cx_abs T.z_abs (da_cons (de_ix (dv 0) (dv 1)) da_nil)))) ds_nil)
    (ds_cons (ds_set 3 sc_law_pool.nd (de_bin opx_mod (de_bin opx_mul (de_bin opx_add (de_bin opx_add (de_bin opx_add (de_bin opx_mod (dv 2) dint) (de_bin opx_mul (de_bin opx_mul dint (dv 1)) (dv 1))) (de_bin opx_mul dint (dv 1))) dint) dint) dint))
    (ds_one (ds_ret (de_cel (da_cons (de_bin opx_mul (dv 2) (de_callTy cx_int T.z_int (da_cons (de_cmp opx_ge (dv 2) (de_bin opx_pow dint dint)) da_nil))) (da_cons (de_bin opx_mod (de_bin opx_mul (dv 3) (dv 3)) dint) da_nil))))))))
set_option maxHeartbeats 4000000 in
theorem ok_law_take (T : Tops K mg) : FnG P w K mg base 1 T.f_law_take T.d_law_take ["_law_pool_here", "_law_many"] F_law_take := by
  refine FunD.g T.F_law_take sc_law_take fun cdv A outer s H E c => ?_
  exact (ds_cons (ds_if (dt_cmp opx_gt (de_ix (dv 0) dint) dint) (ds_cons (ds_set 2 sc_law_take.nd (de_bin opx_mod (de_ix (dv 0) dint) (dv 1)))
    (ds_cons (ds_setix (de_bin opx_fdiv (de_ix (dv 0) dint) (dv 1)) (dv 0) dint)
    (ds_one (ds_ret (dv 2))))) ds_nil)
    (ds_cons (ds_setix (de_bin opx_mod (de_bin opx_add (de_bin opx_mul (de_ix (dv 0) dint) dint) dint) dint) (dv 0) dint)
    (ds_one (ds_ret (de_bin opx_mod (de_bin opx_fdiv (de_bin opx_mod (de_bin opx_mul (de_ix (dv 0) dint) (de_ix (dv 0) dint)) dint) dint) (dv 1))))))
set_option maxHeartbeats 4000000 in
theorem ok_law_text (T : Tops K mg) : FnG P w K mg base 2 T.f_law_text T.d_law_text ["_law_pool_here"] F_law_text := by
  have G_law_take := ok_law_take (P := P) (w := w) (base := base) T
  refine FunD.g T.F_law_text sc_law_text fun cdv A outer s H E c => ?_
  exact (ds_cons (ds_set 1 sc_law_text.nd (de_lst (da_cons dstr (da_cons dstr (da_cons dstr (da_cons dstr (da_cons dstr (da_cons dstr (da_cons dstr (da_cons dstr (da_cons dstr (da_cons dstr (da_cons dstr (da_cons dstr (da_cons dstr (da_cons dstr da_nil))))))))))))))))
    (ds_one (ds_ret (de_bm PySem.F.plainAttrs_str PySem.F.slot_str_join PySem.F.type_str_join mx_join dstr (da_cons (de_lc [("_law_turn", 2)] rfl sc_law_text.nd (di_range1 T.z_range (da_cons (de_bin opx_add dint (de_call G_law_take (c.mono (by decide)) T.m_law_take T.F_law_take.kp T.b_law_take_2 (da_cons (dv 0) (da_cons dint da_nil)))) da_nil)) (blkOk_by (N := ["_law_pool_here", "_law_signs", "_law_turn"]) (sc := defScope s_law_text) (by decide +kernel)) (fun s1 H1 C1 cl1 fp1 => (dg_name sc_law_text.nd)) (fun s1 H1 C1 cl1 fp1 => dts_nil) (fun s1 H1 C1 cl1 fp1 => (de_ix (dv 1) (de_call G_law_take ((c.blk s1 H1 _ _ fp1).mono (by decide)) T.m_law_take T.F_law_take.kp T.b_law_take_2 (da_cons (dv 0) (da_cons (de_ix (de_lst (da_cons dint (da_cons dint (da_cons dint da_nil)))) (de_call G_law_take ((c.blk s1 H1 _ _ fp1).mono (by decide)) T.m_law_take T.F_law_take.kp T.b_law_take_2 (da_cons (dv 0) (da_cons dint da_nil)))) da_nil)))))) da_nil)))))
set_option maxHeartbeats 4000000 in
theorem ok_is_name (T : Tops K mg) : FnG P w K mg base 1 T.f_is_name T.d_is_name ["thing"] F_is_name := by
  refine FunD.g T.F_is_name sc_is_name fun cdv A outer s H E c => ?_
  exact (ds_one (ds_ret (de_and (de_callB cx_isi T.z_isinstance (da_cons (dv 0) (da_cons (de_ty T.z_str) da_nil))) (de_and (de_chain opx_le opx_le dint (de_callB cx_len T.z_len (da_cons (dv 0) da_nil)) (de_glob T.c_MOST_NAME.2 (v := .int 8) ⟨_, rfl⟩ fun _ => .int _)) (de_one (de_callB (cx_all rfl) T.z_all (da_cons (de_lc [("sign", 1)] rfl sc_is_name.nd (di_any (dv 0)) (blkOk_by (N := ["thing", "sign"]) (sc := defScope s_is_name) (by decide +kernel)) (fun s1 H1 C1 cl1 fp1 => (dg_name sc_is_name.nd)) (fun s1 H1 C1 cl1 fp1 => dts_nil) (fun s1 H1 C1 cl1 fp1 => (de_cmp (opx_in (c.blk s1 H1 _ _ fp1).room.units) (dv 1) (de_glob T.c_LETTERS.2 (v := .str "abcdefghijklmnopqrstuvwxyz") ⟨_, rfl⟩ fun _ => .str _ (by decide +kernel))))) da_nil)))))))
set_option maxHeartbeats 4000000 in
theorem ok_is_path (T : Tops K mg) : FnG P w K mg base 2 T.f_is_path T.d_is_path ["thing"] F_is_path := by
  have G_is_name := ok_is_name (P := P) (w := w) (base := base) T
  refine FunD.g T.F_is_path sc_is_path fun cdv A outer s H E c => ?_
  exact (ds_cons (ds_if (dt_not (dtest_val (de_callB cx_isi T.z_isinstance (da_cons (dv 0) (da_cons (de_ty T.z_str) da_nil))))) (ds_one (ds_ret dbool)) ds_nil)
    (ds_cons (ds_set 1 sc_is_path.nd (de_bm PySem.F.plainAttrs_str PySem.F.slot_str_split PySem.F.type_str_split mx_split (dv 0) (da_cons dstr da_nil)))
    (ds_one (ds_ret (de_and (de_cmp opx_le (de_callB cx_len T.z_len (da_cons (dv 1) da_nil)) (de_glob T.c_MOST_NAMES.2 (v := .int 3) ⟨_, rfl⟩ fun _ => .int _)) (de_one (de_callB (cx_all rfl) T.z_all (da_cons (de_lc [("one", 2)] rfl sc_is_path.nd (di_any (dv 1)) (blkOk_by (N := ["thing", "names", "one"]) (sc := defScope s_is_path) (by decide +kernel)) (fun s1 H1 C1 cl1 fp1 => (dg_name sc_is_path.nd)) (fun s1 H1 C1 cl1 fp1 => dts_nil) (fun s1 H1 C1 cl1 fp1 => (de_call G_is_name ((c.blk s1 H1 _ _ fp1).mono (by decide)) T.m_is_name T.F_is_name.kp T.b_is_name_1 (da_cons (dv 2) da_nil)))) da_nil))))))))
set_option maxHeartbeats 4000000 in
theorem ok_law (T : Tops K mg) : FnG P w K mg base 3 T.f_law T.d_law ["_law_script"] F_law := by
  have G_law_is_name := ok_law_is_name (P := P) (w := w) (base := base) T
  have G_law_is_path := ok_law_is_path (P := P) (w := w) (base := base) T
  have G_law_pool := ok_law_pool (P := P) (w := w) (base := base) T
  have G_law_text := ok_law_text (P := P) (w := w) (base := base) T
  have G_is_name := ok_is_name (P := P) (w := w) (base := base) T
  have G_is_path := ok_is_path (P := P) (w := w) (base := base) T
  refine FunD.g T.F_law sc_law fun cdv A outer s H E c => ?_
  exact (ds_cons (ds_for (passes_of rfl) rfl (di_range1 T.z_range (da_cons (de_callB (cx_max rfl) T.z_max (da_cons dint (da_cons (de_callB (cx_min rfl) T.z_min (da_cons dint (da_cons (de_callB cx_len T.z_len (da_cons (dv 0) da_nil)) da_nil))) da_nil))) da_nil)) (dg_name sc_law.nd) (ds_cons (ds_set 2 sc_law.nd (de_call G_law_pool (c.mono (by decide)) T.m_law_pool T.F_law_pool.kp T.b_law_pool_2 (da_cons (dv 0) (da_cons (dv 1) da_nil))))
    (ds_cons (ds_setLc 3 [("_law_turn", 5)] rfl sc_law.nd (di_range1 T.z_range (da_cons dint da_nil)) (blkOk_by (N := ["_law_script", "_law_k", "_law_pool_here", "_law_some", "_law_thing", "_law_turn"]) (sc := defScope s_law) (by decide +kernel)) (fun s1 H1 C1 cl1 fp1 => (dg_name sc_law.nd)) (fun s1 H1 C1 cl1 fp1 => dts_nil) (fun s1 H1 C1 cl1 fp1 => (de_call G_law_text ((c.blk s1 H1 _ _ fp1).mono (by decide)) T.m_law_text T.F_law_text.kp T.b_law_text_1 (da_cons (dv 2) da_nil))))
    (ds_cons (ds_set 3 sc_law.nd (de_bin opx_add (dv 3) (de_lst (da_cons dstr (da_cons dstr (da_cons dstr (da_cons dstr (da_cons dstr (da_cons dstr (da_cons dstr (da_cons dstr da_nil)))))))))))
    (ds_one (ds_for (passes_of rfl) rfl (di_any (de_bin opx_add (dv 3) (de_lst (da_cons dnon (da_cons dint (da_cons dbool (da_cons (de_lst (da_cons dstr da_nil)) (da_cons (de_tup (da_cons dstr da_nil)) (da_cons de_dnew (da_cons dstr (da_cons dstr da_nil))))))))))) (dg_name sc_law.nd) (ds_one (ds_if (dt_cmp opx_ne (de_callB (cx_repr c.guards c.room.units) T.z_repr (da_cons (de_lst (da_cons (de_call G_is_name (c.mono (by decide)) T.m_is_name T.F_is_name.kp T.b_is_name_1 (da_cons (dv 4) da_nil)) (da_cons (de_call G_is_path (c.mono (by decide)) T.m_is_path T.F_is_path.kp T.b_is_path_1 (da_cons (dv 4) da_nil)) da_nil))) da_nil)) (de_callB (cx_repr c.guards c.room.units) T.z_repr (da_cons (de_lst (da_cons (de_call G_law_is_name (c.mono (by decide)) T.m_law_is_name T.F_law_is_name.kp T.b_law_is_name_1 (da_cons (dv 4) da_nil)) (da_cons (de_call G_law_is_path (c.mono (by decide)) T.m_law_is_path T.F_law_is_path.kp T.b_law_is_path_1 (da_cons (dv 4) da_nil)) da_nil))) da_nil))) (ds_one (ds_ret dbool)) ds_nil))))))))
    (ds_one (ds_ret dbool)))
end
/-! the head -/
def h_law_is_name : He.DefD := ⟨("_law_is_name", none), "_law_is_name", "_law_is_name", defArgs s_law_is_name, defBody s_law_is_name, defScope s_law_is_name, [], []⟩
def h_law_is_path : He.DefD := ⟨("_law_is_path", none), "_law_is_path", "_law_is_path", defArgs s_law_is_path, defBody s_law_is_path, defScope s_law_is_path, [], []⟩
def h_law_pool : He.DefD := ⟨("_law_pool", none), "_law_pool", "_law_pool", defArgs s_law_pool, defBody s_law_pool, defScope s_law_pool, [], []⟩
def h_law_take : He.DefD := ⟨("_law_take", none), "_law_take", "_law_take", defArgs s_law_take, defBody s_law_take, defScope s_law_take, [], []⟩
def h_law_text : He.DefD := ⟨("_law_text", none), "_law_text", "_law_text", defArgs s_law_text, defBody s_law_text, defScope s_law_text, [], []⟩
def h_is_name : He.DefD := ⟨("is_name", none), "is_name", "is_name", defArgs s_is_name, defBody s_is_name, defScope s_is_name, [], []⟩
def h_is_path : He.DefD := ⟨("is_path", none), "is_path", "is_path", defArgs s_is_path, defBody s_is_path, defScope s_is_path, [], []⟩
def h_law : He.DefD := ⟨("law", none), "law", "law", defArgs s_law, defBody s_law, defScope s_law, [], []⟩
def hfn : List He.DefD := [h_law_is_name, h_law_is_path, h_law_pool, h_law_take, h_law_text, h_is_name, h_is_path, h_law]
def hfa : List He.Fa := [.glo "_law_is_name", .glo "_law_is_path", .glo "_law_pool", .glo "_law_take", .glo "_law_text", .glo "is_name", .glo "is_path", .glo "law", .free "abs", .free "all", .free "int", .free "isinstance", .free "len", .free "max", .free "min", .free "range", .free "repr", .free "str", .str "LETTERS" "abcdefghijklmnopqrstuvwxyz", .int "MOST_NAME" 8, .int "MOST_NAMES" 3]
abbrev Rw : PySem.W.OpenRow := PySem.W.OpenLaw.row PySem.Challenge.rw_wholeparcels_k01_names_and_paths
abbrev hk : PySem.W.Hook := He.hookD 4 hfa hfn
def hob (s : PySem.W.SharedT) : He.AlD := He.obsDG 4 hfa hfn (HandSHeadRun.getT s)
theorem hob_eq (s : PySem.W.SharedT) : hob s = hk.obs s.abs := He.obsDG_eq (HandSHeadRun.getT_eq s)
def hview : List Nat := [7, 8, 9, 10, 11, 12]
def hloose : List Str := ["LETTERS", "MOST_NAME", "MOST_NAMES", "is_name", "is_path"]
theorem hrun (w : World) : HandSHeadRun.RunEq Rw (PySem.W.view Rw.prog hview) hk hob 4000 hloose w := by
  intro os
  kernel_rfl
noncomputable def tops {K : PySem.W.Frag} {h : Heap} {mg : Str → Option Value} (X : K.In h) (G : h.Ns mainGlobals mg) (c : He.SaysD hfa hfn K) : Tops K mg where
  f_law_is_name := He.ga K "_law_is_name"
  d_law_is_name := Classical.choose (c.def_ 0 (d := h_law_is_name) rfl)
  F_law_is_name := Classical.choose_spec (c.def_ 0 (d := h_law_is_name) rfl)
  m_law_is_name := He.glo_ok X G (c.fact 0 (f := .glo "_law_is_name") rfl)
  f_law_is_path := He.ga K "_law_is_path"
  d_law_is_path := Classical.choose (c.def_ 1 (d := h_law_is_path) rfl)
  F_law_is_path := Classical.choose_spec (c.def_ 1 (d := h_law_is_path) rfl)
  m_law_is_path := He.glo_ok X G (c.fact 1 (f := .glo "_law_is_path") rfl)
  f_law_pool := He.ga K "_law_pool"
  d_law_pool := Classical.choose (c.def_ 2 (d := h_law_pool) rfl)
  F_law_pool := Classical.choose_spec (c.def_ 2 (d := h_law_pool) rfl)
  m_law_pool := He.glo_ok X G (c.fact 2 (f := .glo "_law_pool") rfl)
  f_law_take := He.ga K "_law_take"
  d_law_take := Classical.choose (c.def_ 3 (d := h_law_take) rfl)
  F_law_take := Classical.choose_spec (c.def_ 3 (d := h_law_take) rfl)
  m_law_take := He.glo_ok X G (c.fact 3 (f := .glo "_law_take") rfl)
  f_law_text := He.ga K "_law_text"
  d_law_text := Classical.choose (c.def_ 4 (d := h_law_text) rfl)
  F_law_text := Classical.choose_spec (c.def_ 4 (d := h_law_text) rfl)
  m_law_text := He.glo_ok X G (c.fact 4 (f := .glo "_law_text") rfl)
  f_is_name := He.ga K "is_name"
  d_is_name := Classical.choose (c.def_ 5 (d := h_is_name) rfl)
  F_is_name := Classical.choose_spec (c.def_ 5 (d := h_is_name) rfl)
  m_is_name := He.glo_ok X G (c.fact 5 (f := .glo "is_name") rfl)
  f_is_path := He.ga K "is_path"
  d_is_path := Classical.choose (c.def_ 6 (d := h_is_path) rfl)
  F_is_path := Classical.choose_spec (c.def_ 6 (d := h_is_path) rfl)
  m_is_path := He.glo_ok X G (c.fact 6 (f := .glo "is_path") rfl)
  f_law := He.ga K "law"
  d_law := Classical.choose (c.def_ 7 (d := h_law) rfl)
  F_law := Classical.choose_spec (c.def_ 7 (d := h_law) rfl)
  m_law := He.glo_ok X G (c.fact 7 (f := .glo "law") rfl)
  z_abs := He.free_ok X G (c.fact 8 (f := .free "abs") rfl)
  z_all := He.free_ok X G (c.fact 9 (f := .free "all") rfl)
  z_int := He.free_ok X G (c.fact 10 (f := .free "int") rfl)
  z_isinstance := He.free_ok X G (c.fact 11 (f := .free "isinstance") rfl)
  z_len := He.free_ok X G (c.fact 12 (f := .free "len") rfl)
  z_max := He.free_ok X G (c.fact 13 (f := .free "max") rfl)
  z_min := He.free_ok X G (c.fact 14 (f := .free "min") rfl)
  z_range := He.free_ok X G (c.fact 15 (f := .free "range") rfl)
  z_repr := He.free_ok X G (c.fact 16 (f := .free "repr") rfl)
  z_str := He.free_ok X G (c.fact 17 (f := .free "str") rfl)
  c_LETTERS := ⟨Classical.choose (He.str_ok X G (c.fact 18 (f := .str "LETTERS" "abcdefghijklmnopqrstuvwxyz") rfl)), Classical.choose_spec (He.str_ok X G (c.fact 18 (f := .str "LETTERS" "abcdefghijklmnopqrstuvwxyz") rfl))⟩
  c_MOST_NAME := ⟨Classical.choose (He.int_ok X G (c.fact 19 (f := .int "MOST_NAME" 8) rfl)), Classical.choose_spec (He.int_ok X G (c.fact 19 (f := .int "MOST_NAME" 8) rfl))⟩
  c_MOST_NAMES := ⟨Classical.choose (He.int_ok X G (c.fact 20 (f := .int "MOST_NAMES" 3) rfl)), Classical.choose_spec (He.int_ok X G (c.fact 20 (f := .int "MOST_NAMES" 3) rfl))⟩
end DL01
namespace DL01
open PySem PySem.Spec PyProof.Rows L2 DL
theorem signs_S (cs : List Nat) : DL.signs (SX.S cs) = cs.map fun c => D.str ⟨#[c]⟩ := by simp [DL.signs]
def low (c : Nat) : Bool := decide (97 ≤ c ∧ c ≤ 122)
/-- one to eight small letters -/
def nm (cs : List Nat) : Bool := decide (1 ≤ cs.length ∧ cs.length ≤ 8) && cs.all low
theorem letters : ("abcdefghijklmnopqrstuvwxyz" : Str).cps.toList = [97, 98, 99, 100, 101, 102, 103, 104, 105, 106, 107, 108, 109, 110, 111, 112, 113, 114, 115, 116, 117, 118, 119, 120, 121, 122] := by decide +kernel
theorem in_letters (c : Nat) (μ : Mu) : dIn (.str ⟨#[c]⟩) (.str "abcdefghijklmnopqrstuvwxyz") μ = .ok (.bl (low c)) μ := by
  have h : decide (c ∈ ("abcdefghijklmnopqrstuvwxyz" : Str).cps.toList) = low c := by
    rw [letters]
    unfold low
    rw [Bool.eq_iff_iff, decide_eq_true_iff, decide_eq_true_iff]
    simp
    omega
  simp only [dIn, inD]
  rw [h]
  rfl
def lowB : D → Bool
  | .str z => low (z.cps.toList.headD 0)
  | _ => false
theorem lowB_sign (c : Nat) : lowB (.str ⟨#[c]⟩) = low c := rfl
theorem len_S (cs : List Nat) : (SX.S cs).length = cs.length := SX.S_len cs
theorem bools_map {α : Type} (f : α → Bool) : ∀ xs : List α, bools (xs.map fun x => .bl (f x)) = some (xs.map f)
  | [] => rfl
  | x :: xs => by simp [bools, bools_map f xs]
theorem len_str (x : Str) (μ : Mu) : bLen [.str x] μ = .ok (.int x.length) μ := rfl
theorem is_name_body (cs : List Nat) (μ : Mu) : g_is_name (startD 2 [.str (SX.S cs)]) μ = .rt (.bl (nm cs)) μ := by
  have lc := lc_pure (t := .nm 1) (ft := tyes) (fe := dbin dIn (dvar 1) (dc (.str "abcdefghijklmnopqrstuvwxyz"))) (ρ := [some (.str (SX.S cs)), none]) (μ := μ) (fun x => [some (.str (SX.S cs)), some x]) (fun _ => true) (fun x => .bl (lowB x)) (xs := cs.map fun c => D.str ⟨#[c]⟩)
    (fun x hx => by
      obtain ⟨c, hc, rfl⟩ := List.mem_map.mp hx
      refine ⟨by simp, by simp, fun _ => ?_⟩
      simp [in_letters, lowB_sign])
  by_cases h1 : 1 ≤ cs.length
  · by_cases h8 : cs.length ≤ 8
    · have h1' : (1 : Int) ≤ cs.length := by omega
      have h8' : (cs.length : Int) ≤ 8 := by omega
      have e : (List.map (fun x => D.bl (lowB x)) (List.filter (fun _ => true) (cs.map fun c => D.str ⟨#[c]⟩))) = cs.map fun c => D.bl (low c) := by
        rw [List.filter_eq_self.mpr fun _ _ => rfl, List.map_map]
        rfl
      rw [e] at lc
      simp [g_is_name, startD, len_str, len_S, h1', h8', signs_S, wipeD, lc, bAll, bools_map, nm, h1, h8]
    · have h1' : (1 : Int) ≤ cs.length := by omega
      have h8' : ¬ (cs.length : Int) ≤ 8 := by omega
      simp [g_is_name, startD, len_str, len_S, h1', h8', nm, h8]
  · have h1' : ¬ (1 : Int) ≤ cs.length := by omega
    simp [g_is_name, startD, len_str, len_S, h1', nm, h1]
theorem is_name_ok (cs : List Nat) {μ : Mu} (h : AllC μ) : F_is_name [.str (SX.S cs)] μ = .ok (.bl (nm cs)) μ := by
  unfold F_is_name
  rw [callF_eq _ _ _ _ _ _ (is_name_body cs μ)]
  exact trunc_len rfl (by simp [D.closed]) h
theorem lt_a (c : Nat) : strLt ⟨#[c]⟩ "a" = decide (c < 97) := by
  have e : ("a" : Str).cps.toList = [97] := by decide +kernel
  unfold strLt
  rw [e]
  simp [List.cons_lt_cons_iff]
theorem lt_z (c : Nat) : strLt "z" ⟨#[c]⟩ = decide (122 < c) := by
  have e : ("z" : Str).cps.toList = [122] := by decide +kernel
  unfold strLt
  rw [e]
  simp [List.cons_lt_cons_iff]
theorem eq_nil (ys : List D) (μ : Mu) : dEq (.lst ys) (.lst []) μ = .ok (.bl ys.isEmpty) μ := by
  cases ys <;> simp [dEq, eqD, D.kd, eqL]
theorem law_name_body (cs : List Nat) (μ : Mu) : g_law_is_name (startD 2 [.str (SX.S cs)]) μ = .rt (.bl (nm cs)) μ := by
  have lc := lc_pure (t := .nm 1) (ft := tnot (dtest (dchain leD leD (dc (.str "a")) (dvar 1) (dc (.str "z"))))) (fe := dvar 1) (ρ := [some (.str (SX.S cs)), none]) (μ := μ) (fun x => [some (.str (SX.S cs)), some x]) (fun x => !lowB x) (fun x => x) (xs := cs.map fun c => D.str ⟨#[c]⟩)
    (fun x hx => by
      obtain ⟨c, hc, rfl⟩ := List.mem_map.mp hx
      refine ⟨by simp, ?_, fun _ => by simp⟩
      by_cases ha : c < 97
      · simp [lt_a, lt_z, ha, lowB_sign, low]
      · by_cases hz : 122 < c
        · simp [lt_a, lt_z, ha, hz, lowB_sign, low]
        · simp [lt_a, lt_z, ha, hz, lowB_sign, low]
          omega)
  have h0 : (SX.S cs = ("" : Str)) ↔ cs = [] := by
    have e : ("" : Str) = SX.S [] := by decide +kernel
    rw [e]
    exact ⟨fun h => SX.S_inj h, fun h => by rw [h]⟩
  have em : (List.map (fun x => x) (List.filter (fun x => !lowB x) (cs.map fun c => D.str ⟨#[c]⟩))).isEmpty = cs.all low := by
    rw [Bool.eq_iff_iff]
    simp [List.filter_eq_nil_iff, lowB_sign]
  by_cases h1 : cs = []
  · subst h1
    simp [g_law_is_name, startD, h0, nm]
  · have hp : 1 ≤ cs.length := by
      cases cs with
      | nil => exact absurd rfl h1
      | cons => simp
    by_cases h8 : cs.length ≤ 8
    · have h8' : ¬ (8 : Int) < cs.length := by omega
      simp [g_law_is_name, startD, h0, h1, len_str, len_S, h8', signs_S, wipeD, lc, eq_nil, nm, h8, hp]
      simpa using em
    · have h8' : (8 : Int) < cs.length := by omega
      simp [g_law_is_name, startD, h0, h1, len_str, len_S, h8', nm, h8]
theorem law_name_ok (cs : List Nat) {μ : Mu} (h : AllC μ) : F_law_is_name [.str (SX.S cs)] μ = .ok (.bl (nm cs)) μ := by
  unfold F_law_is_name
  rw [callF_eq _ _ _ _ _ _ (law_name_body cs μ)]
  exact trunc_len rfl (by simp [D.closed]) h
end DL01
namespace DL01
open PySem PySem.Spec PyProof.Rows L2 DL
/-- the parts between slashes -/
abbrev parts (cs : List Nat) : List (List Nat) := TL.spl [47] 0 [] cs
def st (cs : List Nat) : D := .str (SX.S cs)
def pth (cs : List Nat) : Bool := decide ((parts cs).length ≤ 3) && (parts cs).all nm
theorem slash : ("/" : Str) = SX.S [47] := by decide +kernel
theorem split_is (cs : List Nat) : Txt.split (SX.S cs) "/" = (parts cs).map SX.S := by
  rw [slash]
  exact SX.split_S (by decide) (by decide)
theorem is_path_body (cs : List Nat) (hl : cs.length ≤ 1000) (μ : Mu) (h : AllC μ) : g_is_path (startD 3 [st cs]) μ = .rt (.bl (pth cs)) μ := by
  have hp : ∀ y ∈ Txt.split (SX.S cs) "/", y.length ≤ 1000000 := fun y hy => by
    have := part_short hy
    rw [len_S cs] at this
    omega
  have sp : mSplit (.str (SX.S cs)) [.str "/"] μ = .ok (.lst ((parts cs).map st)) μ := by
    unfold mSplit
    dsimp only
    rw [if_pos ⟨by decide +kernel, by rw [len_S]; omega, hp⟩, split_is, List.map_map]
    rfl
  have lc := lc_pure (t := .nm 2) (ft := tyes) (fe := dcall F_is_name [] (aCons (dvar 2) aNil)) (ρ := [some (.str (SX.S cs)), some (.lst ((parts cs).map st)), none]) (μ := μ) (fun x => [some (.str (SX.S cs)), some (.lst ((parts cs).map st)), some x]) (fun _ => true) (fun x => match x with | .str z => .bl (nm z.cps.toList) | _ => .non) (xs := (parts cs).map st)
    (fun x hx => by
      obtain ⟨c, hc, rfl⟩ := List.mem_map.mp hx
      refine ⟨by simp, by simp, fun _ => ?_⟩
      have := is_name_ok c h
      simp [st, this])
  have e : (List.map (fun x => match x with | D.str z => D.bl (nm z.cps.toList) | _ => D.non) (List.filter (fun _ => true) ((parts cs).map st))) = (parts cs).map fun p => D.bl (nm p) := by
    rw [List.filter_eq_self.mpr fun _ _ => rfl, List.map_map]
    rfl
  rw [e] at lc
  show g_is_path (startD 3 [.str (SX.S cs)]) μ = _
  by_cases h3 : (parts cs).length ≤ 3
  · have h3' : ((parts cs).length : Int) ≤ 3 := by omega
    simp [g_is_path, startD, tyD, sp, bLen, lenD, seqD, h3', wipeD, lc, bAll, bools_map, pth, h3]
  · have h3' : ¬ ((parts cs).length : Int) ≤ 3 := by omega
    simp [g_is_path, startD, tyD, sp, bLen, lenD, seqD, h3', pth, h3]
theorem is_path_ok (cs : List Nat) (hl : cs.length ≤ 1000) {μ : Mu} (h : AllC μ) : F_is_path [st cs] μ = .ok (.bl (pth cs)) μ := by
  unfold F_is_path
  rw [callF_eq _ _ _ _ _ _ (is_path_body cs hl μ h)]
  exact trunc_len rfl (by simp [D.closed]) h
/-- the law's own loop -/
def bSign : FS := (gif (dtest (dbin dEq (dvar 2) (dc (.str "/")))) (gexpr (dbm "list" mAppend (dvar 1) (aCons (dc (.str "")) aNil))) (gsetix (dvar 1) (dneg (dc (.int 1))) (dbin addD (dbin dIx (dvar 1) (dneg (dc (.int 1)))) (dvar 2))))
theorem at_last (xs : List D) (y : D) : atI (xs ++ [y]) (-1) = some y := by
  unfold atI ixN
  rw [if_neg (by decide), if_pos (by simp; omega)]
  simp
  have e : (-1 + ((xs.length : Int) + 1)).toNat = xs.length := by omega
  rw [e]
  simp
theorem ix_last (xs : List D) (y : D) : ixN (xs ++ [y]).length (-1) = some xs.length := by
  unfold ixN
  rw [if_neg (by decide), if_pos (by simp; omega)]
  simp
  omega
theorem spl_hit' (acc r : List Nat) : TL.spl [47] 0 acc (47 :: r) = acc :: TL.spl [47] 0 [] r := TL.spl_hit (by simp [TL.pre])
theorem spl_miss' {c : Nat} (hc : c ≠ 47) (acc r : List Nat) : TL.spl [47] 0 acc (c :: r) = TL.spl [47] 0 (acc ++ [c]) r := TL.spl_miss (by simp [TL.pre, hc])
theorem sign_loop (x : D) (μ : Mu) : ∀ (rest : List Nat) (done : List (List Nat)) (acc : List Nat) (a2 : Option D), done.length + rest.length ≤ 5000 → acc.length + rest.length ≤ 5000 →
    ∃ b2, forD (.nm 2) bSign (rest.map fun c => D.str ⟨#[c]⟩) [some x, some (.hdl μ.length), a2, none] (μ ++ [.lst ((done ++ [acc]).map st)]) = .nx [some x, some (.hdl μ.length), b2, none] (μ ++ [.lst ((done ++ TL.spl [47] 0 acc rest).map st)])
  | [], done, acc, a2, _, _ => ⟨a2, by rw [TL.spl_nil]; exact for_nil _ _ _ _⟩
  | c :: rest, done, acc, a2, h1, h2 => by
    simp only [List.length_cons] at h1 h2
    have hx : (μ ++ [MO.lst ((done ++ [acc]).map st)])[μ.length]? = some (.lst ((done ++ [acc]).map st)) := by simp
    by_cases hc : c = 47
    · subst hc
      obtain ⟨b2, ih⟩ := sign_loop x μ rest (done ++ [acc]) [] (some (.str ⟨#[47]⟩)) (by simp; omega) (by simp; omega)
      refine ⟨b2, ?_⟩
      rw [spl_hit']
      have e0 : st [] = .str "" := by unfold st; congr 1
      have step : bSign [some x, some (.hdl μ.length), some (.str ⟨#[47]⟩), none] (μ ++ [.lst ((done ++ [acc]).map st)]) = .nx [some x, some (.hdl μ.length), some (.str ⟨#[47]⟩), none] (μ ++ [.lst (((done ++ [acc]) ++ [[]]).map st)]) := by
        have hl : (done.map st ++ [st acc]).length < 1000000 := by simp; omega
        have e1 : (⟨#[47]⟩ : Str) = "/" := by decide +kernel
        simp [bSign, e1, tyD, e0, show done.length + 1 < 1000000 by omega]
      rw [List.map_cons, for_cons]
      simp only [asg_nm, List.set_cons_succ, List.set_cons_zero]
      rw [step]
      simp only [O.pass_nx]
      rw [ih]
      simp
    · obtain ⟨b2, ih⟩ := sign_loop x μ rest done (acc ++ [c]) (some (.str ⟨#[c]⟩)) (by omega) (by simp; omega)
      refine ⟨b2, ?_⟩
      rw [spl_miss' hc]
      have e1 : ¬ (⟨#[c]⟩ : Str) = "/" := fun z => hc (by
        have e2 : ("/" : Str) = ⟨#[47]⟩ := by decide +kernel
        rw [e2] at z
        simpa using z)
      have e3 : SX.S acc ++ (⟨#[c]⟩ : Str) = SX.S (acc ++ [c]) := SX.S_cat acc [c]
      have e4 : (SX.S acc).length + (⟨#[c]⟩ : Str).length ≤ 1000000 := by
        rw [len_S]
        show acc.length + 1 ≤ _
        omega
      have step : bSign [some x, some (.hdl μ.length), some (.str ⟨#[c]⟩), none] (μ ++ [.lst ((done ++ [acc]).map st)]) = .nx [some x, some (.hdl μ.length), some (.str ⟨#[c]⟩), none] (μ ++ [.lst ((done ++ [acc ++ [c]]).map st)]) := by
        have q1 : dIx (.hdl μ.length) (.int (-1)) (μ ++ [.lst ((done ++ [acc]).map st)]) = .ok (.str (SX.S acc)) (μ ++ [.lst ((done ++ [acc]).map st)]) := by
          rw [ix_hdl hx, List.map_append, List.map_cons, List.map_nil, at_last]
          rfl
        have q2 : ixN ((done ++ [acc]).map st).length (-1) = some done.length := by
          rw [List.map_append, List.map_cons, List.map_nil, ix_last, List.length_map]
        have q3 : ((done ++ [acc]).map st).set done.length (.str (SX.S (acc ++ [c]))) = (done ++ [acc ++ [c]]).map st := by
          rw [List.map_append, List.map_append]
          simp [st]
        simp only [bSign, ap_gif, ap_test, ap_bin, ap_var, List.getElem?_cons_succ, List.getElem?_cons_zero, R.bind_ok, ap_dc, eq_strs, R.to_ok, decide_eq_true_eq, if_neg e1, gsetix, ap_dneg, q1, add_str, if_pos e4, e3, hx, q2, q3]
        rw [app_set]
      rw [List.map_cons, for_cons]
      simp only [asg_nm, List.set_cons_succ, List.set_cons_zero]
      rw [step]
      simp only [O.pass_nx]
      exact ih
end DL01
namespace DL01
open PySem PySem.Spec PyProof.Rows L2 DL
theorem gone_cl : AllC [.gone] := fun m hm n => by
  rw [List.mem_singleton.mp hm]
  rfl
theorem law_path_body (cs : List Nat) (hl : cs.length ≤ 1000) (μ : Mu) (h : AllC μ) : ∃ ex, g_law_is_path (startD 4 [.str (SX.S cs)]) μ = .rt (.bl (pth cs)) (μ ++ ex) := by
  obtain ⟨b2, run⟩ := sign_loop (.str (SX.S cs)) μ cs [] [] none (by simp; omega) (by simp; omega)
  have e0 : st [] = .str "" := by unfold st; congr 1
  simp only [List.nil_append] at run
  have run' : forD (.nm 2) bSign (DL.signs (SX.S cs)) [some (.str (SX.S cs)), some (.hdl μ.length), none, none] (μ ++ [.lst [.str ""]]) = .nx [some (.str (SX.S cs)), some (.hdl μ.length), b2, none] (μ ++ [.lst ((parts cs).map st)]) := by
    rw [signs_S, ← e0]
    exact run
  have g : g_law_is_path = (gseq (gif (tnot (dtest (dcallB bIsi (aCons (dvar 0) (aCons (dc (.cst (.ty "str"))) aNil))))) (gret (dc (.bl false))) gnil)
    (gseq (gasg (.nm 1) (dcel (aCons (dc (.str "")) aNil)))
    (gseq (gfor (itA (dvar 0)) (.nm 2) bSign)
    (gret (dand (dbin leD (dcallB bLen (aCons (dvar 1) aNil)) (dc (.int 3))) (dbin dEq (dlc (itA (dfrz (dvar 1))) [3] (.nm 3) (tnot (dtest (dcall F_law_is_name [] (aCons (dvar 3) aNil)))) (dvar 3)) (dlst aNil))))))) := rfl
  rw [g]
  have h2 : AllC (μ ++ [.gone]) := h.app gone_cl
  have lc := lc_pure (t := .nm 3) (ft := tnot (dtest (dcall F_law_is_name [] (aCons (dvar 3) aNil)))) (fe := dvar 3) (ρ := [some (.str (SX.S cs)), some (.hdl μ.length), b2, none]) (μ := μ ++ [.gone]) (fun x => [some (.str (SX.S cs)), some (.hdl μ.length), b2, some x]) (fun x => match x with | .str z => !nm z.cps.toList | _ => true) (fun x => x) (xs := (parts cs).map st)
    (fun x hx => by
      obtain ⟨c, hc, rfl⟩ := List.mem_map.mp hx
      have := law_name_ok c h2
      exact ⟨by simp, by simp [st, this], fun _ => by simp⟩)
  have em : (List.map (fun x => x) (List.filter (fun x => match x with | D.str z => !nm z.cps.toList | _ => true) ((parts cs).map st))).isEmpty = (parts cs).all nm := by
    rw [Bool.eq_iff_iff]
    simp [List.filter_eq_nil_iff, st]
  by_cases h3 : (parts cs).length ≤ 3
  · have h3' : ((parts cs).length : Int) ≤ 3 := by omega
    refine ⟨[.gone], ?_⟩
    simp [startD, run', bLen, lenD, seqD, h3', wipeD, show (parts cs).length ≤ 1000000 by omega, lc, pth, h3, eq_nil]
    simpa using em
  · have h3' : ¬ ((parts cs).length : Int) ≤ 3 := by omega
    refine ⟨[.lst ((parts cs).map st)], ?_⟩
    simp [startD, run', bLen, lenD, seqD, h3', pth, h3]
theorem law_path_ok (cs : List Nat) (hl : cs.length ≤ 1000) {μ : Mu} (h : AllC μ) : F_law_is_path [st cs] μ = .ok (.bl (pth cs)) μ := by
  obtain ⟨ex, e⟩ := law_path_body cs hl μ h
  unfold F_law_is_path st
  rw [callF_eq _ _ _ _ _ _ e]
  exact trunc_more (by simp [D.closed]) h
/-- a thing of the law: a short text, or no text -/
inductive Th (μ : Mu) : D → Prop
  | st (cs : List Nat) (h : cs.length ≤ 1000) : Th μ (st cs)
  | no (d : D) (t : String) (h : tyName μ d = some t) (k : kitB t "str" = some false) : Th μ d
theorem th_same {μ : Mu} (h : AllC μ) {d : D} (t : Th μ d) : ∃ a b, F_is_name [d] μ = .ok (.bl a) μ ∧ F_is_path [d] μ = .ok (.bl b) μ ∧ F_law_is_name [d] μ = .ok (.bl a) μ ∧ F_law_is_path [d] μ = .ok (.bl b) μ := by
  cases t with
  | st cs hl => exact ⟨nm cs, pth cs, is_name_ok cs h, is_path_ok cs hl h, law_name_ok cs h, law_path_ok cs hl h⟩
  | no d t ht k =>
    have tr : trunc μ.length (.bl false) μ = .ok (.bl false) μ := trunc_len rfl (by simp [D.closed]) h
    refine ⟨false, false, ?_, ?_, ?_, ?_⟩
    · unfold F_is_name
      rw [callF_eq _ _ _ _ _ _ (show g_is_name (startD 2 [d]) μ = .rt (.bl false) μ by simp [g_is_name, startD, ht, k])]
      exact tr
    · unfold F_is_path
      rw [callF_eq _ _ _ _ _ _ (show g_is_path (startD 3 [d]) μ = .rt (.bl false) μ by simp [g_is_path, startD, ht, k])]
      exact tr
    · unfold F_law_is_name
      rw [callF_eq _ _ _ _ _ _ (show g_law_is_name (startD 2 [d]) μ = .rt (.bl false) μ by simp [g_law_is_name, startD, ht, k])]
      exact tr
    · unfold F_law_is_path
      rw [callF_eq _ _ _ _ _ _ (show g_law_is_path (startD 4 [d]) μ = .rt (.bl false) μ by simp [g_law_is_path, startD, ht, k])]
      exact tr
theorem two_repr (a b : Bool) : ∃ s, reprD (.lst [.bl a, .bl b]) = some s :=
  ⟨_, repr_short (p := .list [.bool a, .bool b]) (by simp [D.py, D.pys]) (by simp [PyData.leavesShort, PyData.leavesShortAll]) (by simp [PyData.showable, PyData.showableAll]) (by simp [PyData.hasDict, PyData.hasDictAll]) (by simp [PyData.depth, PyData.depthAll]) (by simp [PyData.bulk, PyData.bulkAll])⟩
def bThing : FS := (gif (dtest (dbin dNe (dcallB bRepr (aCons (dlst (aCons (dcall F_is_name [] (aCons (dvar 4) aNil)) (aCons (dcall F_is_path [] (aCons (dvar 4) aNil)) aNil))) aNil)) (dcallB bRepr (aCons (dlst (aCons (dcall F_law_is_name [] (aCons (dvar 4) aNil)) (aCons (dcall F_law_is_path [] (aCons (dvar 4) aNil)) aNil))) aNil)))) (gret (dc (.bl false))) gnil)
theorem thing_step {μ : Mu} (h : AllC μ) {d : D} (t : Th μ d) (a0 a1 a2 a3 a5 : Option D) : bThing [a0, a1, a2, a3, some d, a5] μ = .nx [a0, a1, a2, a3, some d, a5] μ := by
  obtain ⟨a, b, e1, e2, e3, e4⟩ := th_same h t
  obtain ⟨s, hs⟩ := two_repr a b
  simp [bThing, e1, e2, e3, e4, bRepr, hs]
/-! ### drawn texts -/
def texts : List Str := ["a", "b", "z", "abcdefgh", "abc", "/", "//", "A", "1", "", " ", "-", "abcdefghi", "\n"]
theorem take_is : F_law_take = callF 3 gTake := rfl
theorem pool_is : F_law_pool = callF 4 gPool := rfl
theorem text_len : ∀ x ∈ texts, x.length ≤ 9 := by decide +kernel
/-- a pool lies at l, among so many cells -/
def PI (n l : Nat) (μ : Mu) : Prop := Pool μ l ∧ μ.length = n
theorem text_elt {n l : Nat} {μ : Mu} (h : PI n l μ) (t : Option D) : ∃ y μ2, (dbin dIx (dvar 1) (dcall F_law_take [] (aCons (dvar 0) (aCons (dbin dIx (dlst (aCons (dc (.int 5)) (aCons (dc (.int 6)) (aCons (dc (.int 14)) aNil)))) (dcall F_law_take [] (aCons (dvar 0) (aCons (dc (.int 3)) aNil)))) aNil)))) [some (.hdl l), some (.lst (texts.map .str)), t] μ = .ok y μ2 ∧ PI n l μ2 ∧ ∃ x : Str, y = .str x ∧ x.length ≤ 9 := by
  obtain ⟨p, hn⟩ := h
  obtain ⟨v, μ1, e1, v0, v1, p1, l1⟩ := take_ok p 3 (by omega)
  rw [← take_is] at e1
  obtain ⟨m, hm, hm0, hm1⟩ : ∃ m : Int, atI [D.int 5, D.int 6, D.int 14] v = some (.int m) ∧ 0 < m ∧ m ≤ 14 := by
    obtain ⟨x, hx, hin⟩ := at_lt (xs := [D.int 5, D.int 6, D.int 14]) v0 (by simp; omega)
    simp at hin
    rcases hin with rfl | rfl | rfl
    · exact ⟨_, hx, by omega, by omega⟩
    · exact ⟨_, hx, by omega, by omega⟩
    · exact ⟨_, hx, by omega, by omega⟩
  obtain ⟨u, μ2, e2, u0, u1, p2, l2⟩ := take_ok p1 m (by omega)
  rw [← take_is] at e2
  obtain ⟨x, hx, hin⟩ := at_lt (xs := texts.map D.str) u0 (by simp [texts]; omega)
  obtain ⟨z, hz, rfl⟩ := List.mem_map.mp hin
  refine ⟨.str z, μ2, ?_, ⟨p2, by omega⟩, z, rfl, text_len z hz⟩
  simp [e1, hm, e2, hx]
theorem strsD_map : ∀ {ys : List D} {B : Nat}, (∀ y ∈ ys, ∃ x : Str, y = .str x ∧ x.length ≤ B) → ∃ xs, strsD ys = some xs ∧ xs.length = ys.length ∧ ∀ x ∈ xs, x.length ≤ B
  | [], _, _ => ⟨[], rfl, rfl, fun _ z => nomatch z⟩
  | y :: ys, B, h => by
    obtain ⟨x, rfl, hx⟩ := h y (by simp)
    obtain ⟨xs, e, l, hxs⟩ := strsD_map (ys := ys) fun z hz => h z (List.mem_cons_of_mem _ hz)
    exact ⟨x :: xs, by simp [strsD, e], by simp [l], fun z hz => by
      rcases List.mem_cons.mp hz with rfl | hz'
      · exact hx
      · exact hxs z hz'⟩
theorem sum_le : ∀ (xs : List Str) (B : Nat), (∀ x ∈ xs, x.length ≤ B) → (xs.map (·.length)).sum ≤ xs.length * B
  | [], _, _ => by simp
  | x :: xs, B, h => by
    have := sum_le xs B fun z hz => h z (List.mem_cons_of_mem _ hz)
    have hx := h x (by simp)
    simp [Nat.succ_mul]
    omega
theorem upto_len (a : Int) : ∀ n, (upto a n).length = n := fun n => by
  induction n generalizing a with
  | zero => simp [upto]
  | succ n ih => simp [upto, ih]
theorem text_ok {n l : Nat} {μ : Mu} (h : PI n l μ) : ∃ x μ2, F_law_text [.hdl l] μ = .ok (.str x) μ2 ∧ PI n l μ2 ∧ x.length ≤ 1000 := by
  obtain ⟨p, hn⟩ := h
  obtain ⟨v, μ1, e1, v0, v1, p1, l1⟩ := take_ok p 6 (by omega)
  rw [← take_is] at e1
  obtain ⟨ys, μ2, e2, i2, hl, hy⟩ := lc_inv (t := .nm 2) (fe := (dbin dIx (dvar 1) (dcall F_law_take [] (aCons (dvar 0) (aCons (dbin dIx (dlst (aCons (dc (.int 5)) (aCons (dc (.int 6)) (aCons (dc (.int 14)) aNil)))) (dcall F_law_take [] (aCons (dvar 0) (aCons (dc (.int 3)) aNil)))) aNil))))) (ρ := [some (.hdl l), some (.lst (texts.map .str)), none]) (PI n l) (fun y => ∃ x : Str, y = .str x ∧ x.length ≤ 9) (xs := upto 0 (1 + v).toNat) (μ := μ1)
    (fun x hx μ i => by
      obtain ⟨y, μ2, e, i2, hy⟩ := text_elt i (some x)
      exact ⟨_, y, μ2, by simp, e, i2, hy⟩) ⟨p1, by omega⟩
  rw [upto_len] at hl
  obtain ⟨xs, es, el, ex⟩ := strsD_map hy
  have sl := sum_le xs 9 ex
  have ns : (xs.map (·.length)).sum ≤ 54 := by
    have : xs.length ≤ 6 := by omega
    have := Nat.mul_le_mul_right 9 this
    omega
  have jl : (Txt.join "" xs).length ≤ 54 := by
    have := size_glued "" xs
    have z : ("" : Str).length = 0 := by decide +kernel
    rw [z, Nat.mul_zero] at this
    show (Builtin.Str.glued "" xs).length ≤ 54
    omega
  have jn : mJoin (.str "") [.lst ys] μ2 = .ok (.str (Txt.join "" xs)) μ2 := by
    have z : ("" : Str).length = 0 := by decide +kernel
    unfold mJoin
    dsimp only
    rw [es]
    dsimp only
    rw [if_pos ⟨by rw [z]; omega, by omega⟩]
  have body : g_law_text (startD 3 [.hdl l]) μ = .rt (.str (Txt.join "" xs)) μ2 := by
    have e2' : lcD (.nm 2) tyes (dbin dIx (dvar 1) (dcall F_law_take [] (aCons (dvar 0) (aCons (dbin dIx (dlst (aCons (dc (.int 5)) (aCons (dc (.int 6)) (aCons (dc (.int 14)) aNil)))) (dcall F_law_take [] (aCons (dvar 0) (aCons (dc (.int 3)) aNil)))) aNil)))) [some (.hdl l), some (.lst [.str "a", .str "b", .str "z", .str "abcdefgh", .str "abc", .str "/", .str "//", .str "A", .str "1", .str "", .str " ", .str "-", .str "abcdefghi", .str "\n"]), none] (upto 0 (1 + v).toNat) μ1 = .ok ys μ2 := e2
    have h1 : 1 + v ≤ 1000000 ∧ -1000000 ≤ 1 + v := by omega
    simp [g_law_text, startD, tyD, e1, h1, wipeD, e2', jn]
  refine ⟨Txt.join "" xs, μ2, ?_, i2, by omega⟩
  unfold F_law_text
  rw [callF_eq _ _ _ _ _ _ body]
  exact trunc_len (i2.2.trans hn.symm) (by simp [D.closed]) i2.1.cl
end DL01
namespace DL01
open PySem PySem.Spec PyProof.Rows L2 DL
def some8 : List D := [.str "abcdefgh", .str "abcdefghi", .str "a/b/c", .str "a/b/c/d", .str "/a", .str "a/", .str "a//b", .str ""]
theorem str_th {μ : Mu} (x : Str) (h : x.length ≤ 1000) : Th μ (.str x) := by
  have e := SX.S_tl x
  have : Th μ (st x.cps.toList) := .st _ (by rw [← len_S, e]; exact h)
  unfold st at this
  rwa [e] at this
theorem mem_upto {x : D} : ∀ {n : Nat} {a : Int}, x ∈ upto a n → ∃ k : Int, x = .int k ∧ a ≤ k ∧ k < a + n
  | 0, a, h => by simp [upto] at h
  | n + 1, a, h => by
    simp [upto] at h
    rcases h with rfl | h
    · exact ⟨a, rfl, by omega, by omega⟩
    · obtain ⟨k, e, h1, h2⟩ := mem_upto h
      exact ⟨k, e, by omega, by omega⟩
def bTurn : FS := (gseq (gasg (.nm 2) (dcall F_law_pool [] (aCons (dvar 0) (aCons (dvar 1) aNil))))
    (gseq (gasg (.nm 3) (dlc (itR1 (aCons (dc (.int 12)) aNil)) [5] (.nm 5) tyes (dcall F_law_text [] (aCons (dvar 2) aNil))))
    (gseq (gasg (.nm 3) (dbin addD (dvar 3) (dlst (aCons (dc (.str "abcdefgh")) (aCons (dc (.str "abcdefghi")) (aCons (dc (.str "a/b/c")) (aCons (dc (.str "a/b/c/d")) (aCons (dc (.str "/a")) (aCons (dc (.str "a/")) (aCons (dc (.str "a//b")) (aCons (dc (.str "")) aNil)))))))))))
    (gfor (itA (dbin addD (dvar 3) (dlst (aCons (dc .non) (aCons (dc (.int 5)) (aCons (dc (.bl true)) (aCons (dlst (aCons (dc (.str "a")) aNil)) (aCons (dtup (aCons (dc (.str "a")) aNil)) (aCons dnew (aCons (dc (.str "a b")) (aCons (dc (.str "a\n")) aNil))))))))))) (.nm 4) bThing))))
theorem g_law_is : g_law = (gseq (gfor (itR1 (aCons (dcallB bMax (aCons (dc (.int 1)) (aCons (dcallB bMin (aCons (dc (.int 20)) (aCons (dcallB bLen (aCons (dvar 0) aNil)) aNil))) aNil))) aNil)) (.nm 1) bTurn) (gret (dc (.bl true)))) := rfl
theorem turn_step (ns : List Int) (hns : ns.length ≤ 63) (k : Nat) (hk : k < 100) (a2 a3 a4 a5 : Option D) (μ : Mu) (hμ : AllC μ) :
    ∃ b2 b3 b4 b5 μ2, bTurn [some (.lst (ns.map .int)), some (.int k), a2, a3, a4, a5] μ = .nx [some (.lst (ns.map .int)), some (.int k), b2, b3, b4, b5] μ2 ∧ AllC μ2 := by
  obtain ⟨μ1, e1, p1, m, hm⟩ := pool_ok ns (by omega) k (by omega) μ hμ
  rw [← pool_is] at e1
  obtain ⟨ys, μ2, e2, i2, hl, hy⟩ := lc_inv (t := .nm 5) (fe := dcall F_law_text [] (aCons (dvar 2) aNil)) (ρ := [some (.lst (ns.map .int)), some (.int k), some (.hdl μ.length), a3, a4, none]) (PI μ1.length μ.length) (fun y => ∃ x : Str, y = .str x ∧ x.length ≤ 1000) (xs := upto 0 12) (μ := μ1)
    (fun x hx μ' i => by
      obtain ⟨x, μ2, e, i2, hx⟩ := text_ok i
      exact ⟨_, .str x, μ2, by simp; rfl, by simp [e], i2, x, rfl, hx⟩) ⟨p1, rfl⟩
  rw [upto_len] at hl
  have c3 : AllC (μ2 ++ [.dct [] []]) := i2.1.cl.app fun m hm n => by
    rw [List.mem_singleton.mp hm]
    simp [MO.closed, D.closedL]
  have things : ∀ x ∈ ys ++ some8 ++ [.non, .int 5, .bl true, .lst [.str "a"], .tup [.str "a"], .hdl μ2.length, .str "a b", .str "a\n"], Th (μ2 ++ [.dct [] []]) x := by
    intro x hx
    rcases List.mem_append.mp hx with hx | hx
    · rcases List.mem_append.mp hx with hx | hx
      · obtain ⟨z, rfl, hz⟩ := hy x hx
        exact str_th z hz
      · have all : ∀ z ∈ some8, ∃ y : Str, z = .str y ∧ y.length ≤ 1000 := by
          intro z hz
          simp only [some8, List.mem_cons, List.not_mem_nil, or_false] at hz
          rcases hz with rfl | rfl | rfl | rfl | rfl | rfl | rfl | rfl <;> exact ⟨_, rfl, by decide +kernel⟩
        obtain ⟨y, rfl, hy⟩ := all x hx
        exact str_th y hy
    · simp only [List.mem_cons, List.not_mem_nil, or_false] at hx
      rcases hx with rfl | rfl | rfl | rfl | rfl | rfl | rfl | rfl
      · exact .no _ "NoneType" rfl k_non_str
      · exact .no _ "int" rfl k_int_str
      · exact .no _ "bool" rfl k_bool_str
      · exact .no _ "list" rfl k_lst_str
      · exact .no _ "tuple" rfl k_tup_str
      · exact .no _ "dict" (by simp [tyName]) k_dict_str
      · exact str_th _ (by decide +kernel)
      · exact str_th _ (by decide +kernel)
  obtain ⟨ρ', μ', e, rfl, b4, rfl⟩ := for_inv (t := .nm 4) (b := bThing) (xs := ys ++ some8 ++ [.non, .int 5, .bl true, .lst [.str "a"], .tup [.str "a"], .hdl μ2.length, .str "a b", .str "a\n"]) (fun ρ μ' => μ' = μ2 ++ [.dct [] []] ∧ ∃ b4, ρ = [some (.lst (ns.map .int)), some (.int k), some (.hdl μ.length), some (.lst (ys ++ some8)), b4, a5]) (ρ := [some (.lst (ns.map .int)), some (.int k), some (.hdl μ.length), some (.lst (ys ++ some8)), a4, a5]) (μ := μ2 ++ [.dct [] []])
    (fun x hx ρ μ' hi => by
      obtain ⟨rfl, b4, rfl⟩ := hi
      exact ⟨_, _, _, by simp, thing_step c3 (things x hx) _ _ _ _ _, rfl, _, rfl⟩) ⟨rfl, _, rfl⟩
  refine ⟨some (.hdl μ.length), some (.lst (ys ++ some8)), b4, a5, μ2 ++ [.dct [] []], ?_, c3⟩
  have e' : forD (.nm 4) bThing (ys ++ ([.str "abcdefgh", .str "abcdefghi", .str "a/b/c", .str "a/b/c/d", .str "/a", .str "a/", .str "a//b", .str ""] ++ [.non, .int 5, .bl true, .lst [.str "a"], .tup [.str "a"], .hdl μ2.length, .str "a b", .str "a\n"])) [some (.lst (ns.map .int)), some (.int k), some (.hdl μ.length), some (.lst (ys ++ [.str "abcdefgh", .str "abcdefghi", .str "a/b/c", .str "a/b/c/d", .str "/a", .str "a/", .str "a//b", .str ""])), a4, a5] (μ2 ++ [.dct [] []]) = .nx [some (.lst (ns.map .int)), some (.int k), some (.hdl μ.length), some (.lst (ys ++ some8)), b4, a5] (μ2 ++ [.dct [] []]) := by
    rw [← List.append_assoc]
    exact e
  simp only [List.cons_append, List.nil_append] at e'
  simp [bTurn, e1, wipeD, e2, hl, e']
theorem law_is (ns : List Int) (hns : ns.length ≤ 63) : ∃ μ', F_law [.lst (ns.map D.int)] [] = .ok (.bl true) μ' := by
  obtain ⟨n, hn, hn2⟩ : ∃ n : Int, (if (if (ns.length : Int) < 20 then (ns.length : Int) else 20) > 1 then (if (ns.length : Int) < 20 then (ns.length : Int) else 20) else 1) = n ∧ 0 ≤ n ∧ n ≤ 20 := ⟨_, rfl, by split <;> split <;> omega, by split <;> split <;> omega⟩
  obtain ⟨ρ', μ', e, hc, _⟩ := for_inv (t := .nm 1) (b := bTurn) (xs := upto 0 n.toNat) (fun ρ μ => AllC μ ∧ ∃ a1 a2 a3 a4 a5, ρ = [some (.lst (ns.map .int)), a1, a2, a3, a4, a5]) (ρ := [some (.lst (ns.map .int)), none, none, none, none, none]) (μ := [])
    (fun x hx ρ μ hi => by
      obtain ⟨hc, a1, a2, a3, a4, a5, rfl⟩ := hi
      obtain ⟨k, rfl, h1, h2⟩ := mem_upto hx
      obtain ⟨j, rfl⟩ := Int.eq_ofNat_of_zero_le h1
      obtain ⟨b2, b3, b4, b5, μ2, e, c2⟩ := turn_step ns hns j (by omega) a2 a3 a4 a5 μ hc
      exact ⟨_, _, μ2, by simp, e, c2, _, _, _, _, _, rfl⟩) ⟨(fun m hm => by cases hm), _, _, _, _, _, rfl⟩
  have body : g_law (startD 6 [.lst (ns.map D.int)]) [] = .rt (.bl true) μ' := by
    rw [g_law_is]
    have hb : n ≤ 1000000 ∧ -1000000 ≤ n := by omega
    simp only [ap_seq, ap_for, ap_itR1, ap_aCons, ap_callB, ap_dc, R.bind_ok, ap_aNil, startD]
    simp [bLen, lenD, seqD, bMin, bMax]
    simp at hn
    rw [hn]
    simp [hb, e]
  unfold F_law
  rw [callF_eq _ _ _ _ _ _ body]
  exact ⟨_, by simp [trunc, D.closed, closedMu]; rfl⟩
end DL01
open PySem PySem.W PySem.Calls PyProof.Rows
theorem PySem.Challenge.cw_wholeparcels_k01_names_and_paths_holds : PySem.Challenge.rw_wholeparcels_k01_names_and_paths.Holds := by
  w_on; o_law
  refine HandSHeadRun.head_any (r := DL01.Rw) (q := view DL01.Rw.prog DL01.hview) (H := DL01.hk) (ob := DL01.hob) (M := 4000) (loose := DL01.hloose) (d := HandSHeadRun.topDef DL01.Rw.prog 12) (kwd := []) DL01.hob_eq
    (by kernel_rfl) (fun s => by kernel_rfl) DL01.hrun (by kernel_rfl) (by kernel_rfl) (by kernel_rfl) (by rfl) (by first | assumption | decide +kernel) (by decide +kernel) ⟨rfl, rfl, rfl, rfl, rfl, by decide +kernel⟩ ?hw ?hc
  case hw => w_witness2
  case hc =>
    refine DL.walk_g (l := PySem.Challenge.rw_wholeparcels_k01_names_and_paths) (n := 63) (k := 3) (x := "_law_script") rfl (by decide) (by kernel_rfl) ⟨rfl, by decide, by decide⟩ ?F
    intro w mg fa h Y G hmg0
    obtain ⟨K, KX, c⟩ := Y
    have named : mg ("law" : PySem.Str) = some (.ref fa) := by
      have e : (HandSHeadRun.topDef DL01.Rw.prog 12).name = ("law" : PySem.Str) := by kernel_rfl
      rw [← e]
      exact hmg0
    have T := DL01.tops KX G c
    have e := named.symm.trans T.m_law
    cases e
    have b := L2.FunD.bindsA (ps := ["_law_script"]) T.F_law fun _ _ _ _ _ _ us hl => match us, hl with | [_], _ => rfl
    exact ⟨K, T.d_law, DL01.F_law, KX, fun s v => b s [v] rfl, fun base _ _ => DL01.ok_law T, fun ns hl _ => DL01.law_is ns hl⟩
