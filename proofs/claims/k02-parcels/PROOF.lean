import PyProof.Rows.All
import Wide.All
import OpenK.AllK
import Wide.FinOn
import HandS.ForMost
import HandS.Exc
import HandS.WordsExc
import HandS.Defaults
import HandS.HeadHook1
import HandS.Text
import HandS.TupAny
import HandS.Zip
import HandS.Deep
import HandS.Small
import HandS.RaiseMore
import HandS.IsInst
import KE.KStateDown
import Lean
import HandS.More
import HandS.Head0
import HandS.Head1
import HandS.Head2
import HandS.HeadEnd
import HandS.HeadHook2
import HandS.EndBits
import HandS.Dict
import HandS.Codes
import PyProof.FitsReplace
import HandS.TupMul
import HandS.Strs
import PyProof.Rows.StrMeet
import HandS.CallLocal
import HandS.FStr
import HandS.SlotsOwn
import KE.KFmtOwn
import PyProof.InstEq
import HandS.HeadHook4
import PySem.Challenge.RW_wholeparcels_k02_parcels_made_and_told
set_option Elab.async false
set_option linter.all false
set_option maxRecDepth 100000
set_option maxHeartbeats 0
/-! DL0: data as trees and cells; what an expression, a statement is worth over them. -/
namespace DL
open PySem L2

/-- a name as a number: its signs, by 256 -/
def signsOf : Nat → Nat → List Nat → List Nat
  | 0, _, acc => acc
  | f + 1, n, acc => if n = 0 then acc else signsOf f (n / 256) (n % 256 :: acc)
def nmC (n : Nat) : Str := ⟨(signsOf 64 n []).toArray⟩
/-- what the module's name with the number n stands for -/
def cl (K : PySem.W.Frag) (n : Nat) : Addr := He.ga K (nmC n)
/-- a datum: trees, and handles of cells; classes and defs by their names' numbers -/
inductive D where
  | non | bl (b : Bool) | int (i : Int) | str (x : Str)
  | tup (xs : List D) | lst (xs : List D)
  | hdl (l : Nat)
  | cst (v : V)
  | obj (C : Nat) (fs : List (Str × D))
  | glo (c : Nat)

/-- a cell -/
inductive MO where
  | lst (xs : List D)
  | dct (ks : List Key) (xs : List D)
  | dtt (ks : List (List Key)) (xs : List D)
  | ins (C : Nat) (ns : List Str) (xs : List D)
  | gone
abbrev Mu := List MO

/-- S: what never changes any more; io: where each cell stands -/
structure Wd where
  S : Hp
  io : List Addr

/-- a list that is to be read: tracked, locked, or one of the module's own -/
def Lq (K : PySem.W.Frag) (H : Hp) (a : Addr) (xs : List V) : Prop := Rd H a (.lst xs) ∨ ∃ (its : List Value) (n : Nat), K.lookup a = some { cls := .type "list", data := .seq its.toArray n } ∧ its.length ≤ sizeLine ∧ Vals xs its
mutual
inductive Rep (K : PySem.W.Frag) (W : Wd) : V → D → Prop
  | non : Rep K W .non .non
  | bl (b : Bool) : Rep K W (.bl b) (.bl b)
  | int (i : Int) : Rep K W (.int i) (.int i)
  | str (x : Str) : x.length ≤ sizeLine → Rep K W (.str x) (.str x)
  | tup {a : Addr} {xs : List V} {ds : List D} : ds.length ≤ sizeLine → SqT K W.S a xs → Reps K W xs ds → Rep K W (.ref a) (.tup ds)
  | lst {a : Addr} {xs : List V} {ds : List D} : ds.length ≤ sizeLine → Lq K W.S a xs → Reps K W xs ds → Rep K W (.ref a) (.lst ds)
  | hdl {a : Addr} {l : Nat} : W.io[l]? = some a → Rep K W (.ref a) (.hdl l)
  | cst (v : V) : Rep K W v (.cst v)
  | glo (c : Nat) : Rep K W (.ref (cl K c)) (.glo c)
  | obj {a dx : Addr} {C : Nat} {ns : List Str} {vs : List V} {ds : List D} : W.S a = some (.ins (cl K C) dx (ns.zip vs)) → ns.length = vs.length → Reps K W vs ds → Rep K W (.ref a) (.obj C (ns.zip ds))
inductive Reps (K : PySem.W.Frag) (W : Wd) : List V → List D → Prop
  | nil : Reps K W [] []
  | cons {v : V} {vs : List V} {d : D} {ds : List D} : Rep K W v d → Reps K W vs ds → Reps K W (v :: vs) (d :: ds)
end

theorem Reps.length {K : PySem.W.Frag} {W : Wd} : ∀ {vs : List V} {ds : List D}, Reps K W vs ds → vs.length = ds.length
  | _, _, .nil => rfl
  | _, _, .cons _ h => by rw [List.length_cons, List.length_cons, h.length]
theorem Reps.get {K : PySem.W.Frag} {W : Wd} : ∀ {vs : List V} {ds : List D} {i : Nat} {d : D}, Reps K W vs ds → ds[i]? = some d → ∃ v, vs[i]? = some v ∧ Rep K W v d
  | _, _, _, _, .nil, e => by simp at e
  | _, _, 0, _, .cons r _, e => by
    simp at e
    subst e
    exact ⟨_, rfl, r⟩
  | _, _, i + 1, d, .cons _ t, e => by
    obtain ⟨v, h1, h2⟩ := Reps.get (i := i) (d := d) t (by simpa using e)
    exact ⟨v, by simpa using h1, h2⟩
theorem Reps.getV {K : PySem.W.Frag} {W : Wd} : ∀ {vs : List V} {ds : List D} {i : Nat} {v : V}, Reps K W vs ds → vs[i]? = some v → ∃ d, ds[i]? = some d ∧ Rep K W v d
  | _, _, _, _, .nil, e => by simp at e
  | _, _, 0, _, .cons r _, e => by
    simp at e
    subst e
    exact ⟨_, rfl, r⟩
  | _, _, i + 1, v, .cons _ t, e => by
    obtain ⟨d, h1, h2⟩ := Reps.getV (i := i) (v := v) t (by simpa using e)
    exact ⟨d, by simpa using h1, h2⟩
theorem Reps.app {K : PySem.W.Frag} {W : Wd} : ∀ {vs us : List V} {ds es : List D}, Reps K W vs ds → Reps K W us es → Reps K W (vs ++ us) (ds ++ es)
  | _, _, _, _, .nil, s => s
  | _, _, _, _, .cons r t, s => .cons r (Reps.app t s)
theorem Reps.take {K : PySem.W.Frag} {W : Wd} : ∀ {vs : List V} {ds : List D} (n : Nat), Reps K W vs ds → Reps K W (vs.take n) (ds.take n)
  | _, _, 0, _ => .nil
  | _, _, _ + 1, .nil => .nil
  | _, _, n + 1, .cons r t => .cons r (Reps.take n t)
theorem Reps.drop {K : PySem.W.Frag} {W : Wd} : ∀ {vs : List V} {ds : List D} (n : Nat), Reps K W vs ds → Reps K W (vs.drop n) (ds.drop n)
  | _, _, 0, h => h
  | _, _, _ + 1, .nil => .nil
  | _, _, n + 1, .cons _ t => Reps.drop n t
theorem Reps.set {K : PySem.W.Frag} {W : Wd} {v : V} {d : D} (r : Rep K W v d) : ∀ {vs : List V} {ds : List D} (i : Nat), Reps K W vs ds → Reps K W (vs.set i v) (ds.set i d)
  | _, _, _, .nil => .nil
  | _, _, 0, .cons _ t => .cons r t
  | _, _, i + 1, .cons q t => .cons q (Reps.set r i t)

/-- W' knows all that W knows -/
structure Le (W W' : Wd) : Prop where
  s : Same W.S W'.S
  io : W.io <+: W'.io
theorem Le.refl (W : Wd) : Le W W := ⟨Same.refl _, List.prefix_refl _⟩
theorem Le.trans {W W1 W2 : Wd} (a : Le W W1) (b : Le W1 W2) : Le W W2 := ⟨a.s.trans b.s, a.io.trans b.io⟩
theorem prefix_get {l l' : List Addr} (h : l <+: l') {i : Nat} {a : Addr} (e : l[i]? = some a) : l'[i]? = some a := by
  obtain ⟨t, rfl⟩ := h
  rw [List.getElem?_append_left (List.getElem?_eq_some_iff.mp e).1]
  exact e
theorem same_rd {H H' : Hp} {a : Addr} {u : HO} (e : Same H H') (h : Rd H a u) : Rd H' a u := by
  rcases h with h | ⟨o, h⟩
  · exact .inl (e _ _ h)
  · exact .inr ⟨o, e _ _ h⟩
theorem same_lq {K : PySem.W.Frag} {H H' : Hp} {a : Addr} {xs : List V} (e : Same H H') (h : Lq K H a xs) : Lq K H' a xs := by
  rcases h with h | h
  · exact .inl (same_rd e h)
  · exact .inr h
theorem Lq.sq {K : PySem.W.Frag} {H : Hp} {a : Addr} {xs : List V} (h : Lq K H a xs) : SqL K H a xs := by
  rcases h with h | ⟨its, n, h1, h2, h3⟩
  · exact .inl h
  · exact .inr ⟨_, its.toArray, n, h1, rfl, rfl, rfl, by simpa using h2, by simpa using h3⟩
theorem Lq.isL {X : Cx} {pins : List (Addr × Obj)} {σ : St} {H : Hp} {s : Shared} {a : Addr} {xs : List V} (h : Lq X.K H a xs) (I : Inv X pins σ H s) : ∃ (its : List Value) (n : Nat), Vals xs its ∧ s.heap.get? a = some { cls := .type "list", data := .seq its.toArray n } := by
  rcases h with h | ⟨its, n, h1, h2, h3⟩
  · obtain ⟨z, its, n, r, e⟩ := h.ok I.hok
    exact ⟨its, n, r, e⟩
  · exact ⟨its, n, h3, I.kIn _ _ h1⟩
theorem same_l {K : PySem.W.Frag} {H H' : Hp} {a : Addr} {xs : List V} (e : Same H H') (h : SqL K H a xs) : SqL K H' a xs := e.seq h
theorem same_t {K : PySem.W.Frag} {H H' : Hp} {a : Addr} {xs : List V} (e : Same H H') (h : SqT K H a xs) : SqT K H' a xs := by
  rcases h with (h | ⟨o, h⟩) | h
  · exact .inl (.inl (e _ _ h))
  · exact .inl (.inr ⟨o, e _ _ h⟩)
  · exact .inr h
mutual
theorem Rep.mono {K : PySem.W.Frag} {W W' : Wd} (l : Le W W') : ∀ {v : V} {d : D}, Rep K W v d → Rep K W' v d
  | _, _, .non => .non
  | _, _, .bl b => .bl b
  | _, _, .int i => .int i
  | _, _, .str x z => .str x z
  | _, _, .tup z h r => .tup z (same_t l.s h) (Reps.mono l r)
  | _, _, .lst z h r => .lst z (same_lq l.s h) (Reps.mono l r)
  | _, _, .hdl h => .hdl (prefix_get l.io h)
  | _, _, .cst v => .cst v
  | _, _, .glo c => .glo c
  | _, _, .obj h n r => .obj (l.s _ _ h) n (Reps.mono l r)
theorem Reps.mono {K : PySem.W.Frag} {W W' : Wd} (l : Le W W') : ∀ {vs : List V} {ds : List D}, Reps K W vs ds → Reps K W' vs ds
  | _, _, .nil => .nil
  | _, _, .cons r t => .cons (Rep.mono l r) (Reps.mono l t)
end

/-- what stands at a cell's place -/
def CellO (K : PySem.W.Frag) (W : Wd) : MO → HO → Prop
  | .lst ds, o => ∃ vs, o = .lst vs ∧ Reps K W vs ds
  | .dct ks ds, o => ∃ vs, o = .dK (ks.zip vs) ∧ ks.length = vs.length ∧ Reps K W vs ds
  | .dtt ks ds, o => ∃ vs, o = .dT (ks.zip vs) ∧ ks.length = vs.length ∧ Reps K W vs ds
  | .ins C ns ds, o => ∃ dx vs, o = .ins (cl K C) dx (ns.zip vs) ∧ ns.length = vs.length ∧ Reps K W vs ds
  | .gone, o => ∀ fs, o ≠ .xd fs
theorem CellO.mono {K : PySem.W.Frag} {W W' : Wd} (l : Le W W') : ∀ {m : MO} {o : HO}, CellO K W m o → CellO K W' m o
  | .lst ds, _, ⟨vs, e, r⟩ => ⟨vs, e, r.mono l⟩
  | .dct ks ds, _, ⟨vs, e, n, r⟩ => ⟨vs, e, n, r.mono l⟩
  | .dtt ks ds, _, ⟨vs, e, n, r⟩ => ⟨vs, e, n, r.mono l⟩
  | .ins C ns ds, _, ⟨dx, vs, e, n, r⟩ => ⟨dx, vs, e, n, r.mono l⟩
  | .gone, _, h => h
theorem CellO.notxd {K : PySem.W.Frag} {W : Wd} : ∀ {m : MO} {o : HO}, CellO K W m o → ∀ fs, o ≠ .xd fs
  | .lst ds, _, ⟨vs, e, r⟩, fs => by rw [e]; exact fun z => nomatch z
  | .dct ks ds, _, ⟨vs, e, n, r⟩, fs => by rw [e]; exact fun z => nomatch z
  | .dtt ks ds, _, ⟨vs, e, n, r⟩, fs => by rw [e]; exact fun z => nomatch z
  | .ins C ns ds, _, ⟨dx, vs, e, n, r⟩, fs => by rw [e]; exact fun z => nomatch z
  | .gone, _, h, fs => h fs
def CellIs (K : PySem.W.Frag) (W : Wd) (H : Hp) (a : Addr) (m : MO) : Prop := ∃ o, H a = some o ∧ CellO K W m o
theorem CellIs.mono {K : PySem.W.Frag} {W W' : Wd} {H H' : Hp} {a : Addr} (l : Le W W') (h : ∀ o, H a = some o → H' a = some o) {m : MO} : CellIs K W H a m → CellIs K W' H' a m
  | ⟨o, e, r⟩ => ⟨o, h _ e, r.mono l⟩

structure Ok (K : PySem.W.Frag) (W : Wd) (H : Hp) (μ : Mu) : Prop where
  sub : Same W.S H
  len : W.io.length = μ.length
  nd : W.io.Nodup
  apart : ∀ (l : Nat) a o, W.io[l]? = some a → μ[l]? = some o → o ≠ .gone → W.S a = none
  cell : ∀ (l : Nat) a o, W.io[l]? = some a → μ[l]? = some o → CellIs K W H a o

/-- from (W, H) to (W', H') -/
structure Go (W : Wd) (H : Hp) (W' : Wd) (H' : Hp) : Prop where
  le : Le W W'
  kept : ∀ a o, H a = some o → a ∉ W.io → H' a = some o
  grow : ∀ a, H' a = none → H a = none
  newio : ∀ a, a ∈ W'.io → a ∈ W.io ∨ H a = none
  newS : ∀ a o, W'.S a = some o → W.S a = some o ∨ H a = none ∨ a ∈ W.io
theorem Go.refl (W : Wd) (H : Hp) : Go W H W H := ⟨Le.refl W, fun _ _ h _ => h, fun _ h => h, fun _ h => .inl h, fun _ _ h => .inl h⟩
theorem Go.trans {W W1 W2 : Wd} {H H1 H2 : Hp} (a : Go W H W1 H1) (b : Go W1 H1 W2 H2) : Go W H W2 H2 where
  le := a.le.trans b.le
  kept := fun x o h n => b.kept x o (a.kept x o h n) fun z => by
    rcases a.newio x z with z | z
    · exact n z
    · rw [h] at z; cases z
  grow := fun x h => a.grow x (b.grow x h)
  newio := fun x h => by
    rcases b.newio x h with h | h
    · exact a.newio x h
    · exact .inr (a.grow x h)
  newS := fun x o h => by
    rcases b.newS x o h with h | h | h
    · exact a.newS x o h
    · exact .inr (.inl (a.grow x h))
    · rcases a.newio x h with h | h
      · exact .inr (.inr h)
      · exact .inr (.inl h)

/-- the environment by slots -/
abbrev En := List (Option D)
structure Envs (K : PySem.W.Frag) (W : Wd) (σ : St) (ρ : En) : Prop where
  len : ρ.length = σ.length
  at_ : ∀ (i : Nat) d, ρ[i]? = some (some d) → ∃ v, σ[i]? = some (some v) ∧ Rep K W v d
theorem Envs.mono {K : PySem.W.Frag} {W W' : Wd} {σ : St} {ρ : En} (l : Le W W') (h : Envs K W σ ρ) : Envs K W' σ ρ := ⟨h.len, fun i d e => by
  obtain ⟨v, h1, h2⟩ := h.at_ i d e
  exact ⟨v, h1, h2.mono l⟩⟩
theorem Envs.set {K : PySem.W.Frag} {W : Wd} {σ : St} {ρ : En} {v : V} {d : D} (h : Envs K W σ ρ) (r : Rep K W v d) (i : Nat) : Envs K W (σ.set i (some v)) (ρ.set i (some d)) := ⟨by simp [h.len], fun j e he => by
  by_cases hj : i = j
  · subst hj
    by_cases hl : i < ρ.length
    · rw [List.getElem?_set_self hl] at he
      cases he
      exact ⟨v, List.getElem?_set_self (by rw [← h.len]; exact hl), r⟩
    · rw [List.getElem?_eq_none (by simp; omega)] at he
      cases he
  · rw [List.getElem?_set_ne hj] at he
    obtain ⟨u, h1, h2⟩ := h.at_ j e he
    exact ⟨u, by rw [List.getElem?_set_ne hj]; exact h1, h2⟩⟩
theorem Envs.unset {K : PySem.W.Frag} {W : Wd} {σ : St} {ρ : En} (h : Envs K W σ ρ) (x : Option V) (i : Nat) : Envs K W (σ.set i x) (ρ.set i none) := ⟨by simp [h.len], fun j e he => by
  by_cases hj : i = j
  · subst hj
    by_cases hl : i < ρ.length
    · rw [List.getElem?_set_self hl] at he
      cases he
    · rw [List.getElem?_eq_none (by simp; omega)] at he
      cases he
  · rw [List.getElem?_set_ne hj] at he
    obtain ⟨u, h1, h2⟩ := h.at_ j e he
    exact ⟨u, by rw [List.getElem?_set_ne hj]; exact h1, h2⟩⟩

/-- what comes out -/
inductive R (α : Type) where
  | ok (a : α) (μ : Mu)
  | ex (c : Nat) (fs : List (Str × D)) (μ : Mu)
  | bad
def R.bind {α β : Type} : R α → (α → Mu → R β) → R β
  | .ok a μ, k => k a μ
  | .ex c fs μ, _ => .ex c fs μ
  | .bad, _ => .bad
@[simp] theorem R.bind_ok {α β : Type} (a : α) (μ : Mu) (k : α → Mu → R β) : (R.ok a μ).bind k = k a μ := of_eq_true (eq_self _)
@[simp] theorem R.bind_ex {α β : Type} (c : Nat) (fs : List (Str × D)) (μ : Mu) (k : α → Mu → R β) : (R.ex c fs μ : R α).bind k = .ex c fs μ := of_eq_true (eq_self _)
@[simp] theorem R.bind_bad {α β : Type} (k : α → Mu → R β) : (R.bad : R α).bind k = .bad := of_eq_true (eq_self _)
/-- a pure answer, or none -/
def R.of {α : Type} (o : Option α) (μ : Mu) : R α := match o with
  | some a => .ok a μ
  | none => .bad
@[simp] theorem R.of_some {α : Type} (a : α) (μ : Mu) : R.of (some a) μ = .ok a μ := of_eq_true (eq_self _)
@[simp] theorem R.of_none {α : Type} (μ : Mu) : (R.of none μ : R α) = .bad := of_eq_true (eq_self _)

/-- an exception as it lies in the heap: its own dict's address (none: it has no field) -/
def ExcIs (K : PySem.W.Frag) (W : Wd) (H : Hp) (fs : List (Str × D)) (d : Option Addr) : Prop :=
  (fs = [] ∧ d = none) ∨ ∃ (a : Addr) (ns : List Str) (vs : List V) (ds : List D), d = some a ∧ H a = some (.xd (ns.zip vs)) ∧ fs = ns.zip ds ∧ ns.length = vs.length ∧ Reps K W vs ds ∧ W.S a = none ∧ a ∉ W.io

def post {α : Type} (K : PySem.W.Frag) (E : XK) (W : Wd) (H : Hp) (Rp : Wd → V → α → Prop) (r : R α) (Q : VK) : Prop := match r with
  | .ok d μ => ∀ W' v H', Go W H W' H' → Ok K W' H' μ → Rp W' v d → Q v H'
  | .ex c fs μ => ∀ W' H' d, Go W H W' H' → Ok K W' H' μ → ExcIs K W' H' fs d → E (.ref (cl K c)) d H'
  | .bad => False
abbrev postE (K : PySem.W.Frag) (E : XK) (W : Wd) (H : Hp) (r : R D) (Q : VK) : Prop := post K E W H (fun W v d => Rep K W v d) r Q
theorem post.mono {α : Type} {K : PySem.W.Frag} {E : XK} {W W1 : Wd} {H H1 : Hp} {Rp : Wd → V → α → Prop} {r : R α} {Q : VK} (g : Go W H W1 H1) (h : post K E W H Rp r Q) : post K E W1 H1 Rp r Q := by
  cases r with
  | ok d μ => exact fun W' v H' g' o r => h W' v H' (g.trans g') o r
  | ex c fs μ => exact fun W' H' d g' o r => h W' H' d (g.trans g') o r
  | bad => exact h

abbrev FE := En → Mu → R D
def rE (K : PySem.W.Frag) (E : XK) (f : FE) : TE := fun σ H Q => ∃ W ρ μ, Ok K W H μ ∧ Envs K W σ ρ ∧ postE K E W H (f ρ μ) Q
abbrev DE (X : Cx) (E : XK) (e : Expr) (f : FE) : Prop := PE X e (rE X.K E f)
theorem pe_imp {X : Cx} {e : Expr} {t t' : TE} (h : PE X e t) (i : ∀ σ H Q, t' σ H Q → t σ H Q) : PE X e t' := ⟨fun pins s σ H Q I q => h.run pins s σ H Q I (i σ H Q q)⟩
theorem ps_imp {X : Cx} {e : Stmt} {t t' : TS} (h : PS X e t) (i : ∀ D σ H, t' D σ H → t D σ H) : PS X e t' := ⟨fun pins s σ H D I q => h.run pins s σ H D I (i D σ H q)⟩
theorem pss_imp {X : Cx} {e : List Stmt} {t t' : TS} (h : PSs X e t) (i : ∀ D σ H, t' D σ H → t D σ H) : PSs X e t' := ⟨fun pins s σ H D I q => h.run pins s σ H D I (i D σ H q)⟩
theorem pa_imp {X : Cx} {e : List Expr} {t t' : TA} (h : PA X e t) (i : ∀ σ H Q, t' σ H Q → t σ H Q) : PA X e t' := ⟨fun pos pins s σ H Q I q => h.run pos pins s σ H Q I (i σ H Q q)⟩
theorem pt_imp {X : Cx} {e : Expr} {t t' : TT} (h : PT X e t) (i : ∀ σ H Q, t' σ H Q → t σ H Q) : PT X e t' := ⟨fun pins s σ H Q I q => h.run pins s σ H Q I (i σ H Q q)⟩
theorem pw_imp {X : Cx} {e : Expr} {t t' : TT} (h : PW X e t) (i : ∀ σ H Q, t' σ H Q → t σ H Q) : PW X e t' := ⟨fun wh pins s σ H Q I q => h.run wh pins s σ H Q I (i σ H Q q)⟩

/-- one part, then what follows -/
theorem seq {β : Type} {K : PySem.W.Frag} {E : XK} {fa : FE} {k : D → Mu → R β} {Rp : Wd → V → β → Prop} {σ : St} {H : Hp} {W : Wd} {ρ : En} {μ : Mu} {Q Q1 : VK} (p : post K E W H Rp ((fa ρ μ).bind k) Q) (ok : Ok K W H μ) (en : Envs K W σ ρ)
    (hk : ∀ d μ1 W1 x H1, Go W H W1 H1 → Ok K W1 H1 μ1 → Envs K W1 σ ρ → Rep K W1 x d → post K E W1 H1 Rp (k d μ1) Q → Q1 x H1) : rE K E fa σ H Q1 := by
  refine ⟨W, ρ, μ, ok, en, ?_⟩
  revert p
  cases h : fa ρ μ with
  | ok d μ1 => exact fun p W1 x H1 g o r => hk d μ1 W1 x H1 g o (en.mono g.le) r (post.mono g p)
  | ex c fs μ1 => exact fun p => p
  | bad => exact fun p => p

/-! ### tests -/
abbrev FT := En → Mu → R Bool
def postT (K : PySem.W.Frag) (E : XK) (W : Wd) (H : Hp) (r : R Bool) (Q : Bool → Hp → Prop) : Prop := match r with
  | .ok b μ => ∀ W' H', Go W H W' H' → Ok K W' H' μ → Q b H'
  | .ex c fs μ => ∀ W' H' d, Go W H W' H' → Ok K W' H' μ → ExcIs K W' H' fs d → E (.ref (cl K c)) d H'
  | .bad => False
theorem postT.mono {K : PySem.W.Frag} {E : XK} {W W1 : Wd} {H H1 : Hp} {r : R Bool} {Q : Bool → Hp → Prop} (g : Go W H W1 H1) (h : postT K E W H r Q) : postT K E W1 H1 r Q := by
  cases r with
  | ok d μ => exact fun W' H' g' o => h W' H' (g.trans g') o
  | ex c fs μ => exact fun W' H' d g' o r => h W' H' d (g.trans g') o r
  | bad => exact h
def rT (K : PySem.W.Frag) (E : XK) (f : FT) : TT := fun σ H Q => ∃ W ρ μ, Ok K W H μ ∧ Envs K W σ ρ ∧ postT K E W H (f ρ μ) Q
abbrev DT (X : Cx) (E : XK) (e : Expr) (f : FT) : Prop := PT X e (rT X.K E f)
abbrev DW (X : Cx) (E : XK) (e : Expr) (f : FT) : Prop := PW X e (rT X.K E f)

/-! ### argument lists -/
abbrev FA := En → Mu → R (List D)
def postA (K : PySem.W.Frag) (E : XK) (W : Wd) (H : Hp) (r : R (List D)) (Q : List V → Hp → Prop) : Prop := match r with
  | .ok ds μ => ∀ W' vs H', Go W H W' H' → Ok K W' H' μ → Reps K W' vs ds → Q vs H'
  | .ex c fs μ => ∀ W' H' d, Go W H W' H' → Ok K W' H' μ → ExcIs K W' H' fs d → E (.ref (cl K c)) d H'
  | .bad => False
theorem postA.mono {K : PySem.W.Frag} {E : XK} {W W1 : Wd} {H H1 : Hp} {r : R (List D)} {Q : List V → Hp → Prop} (g : Go W H W1 H1) (h : postA K E W H r Q) : postA K E W1 H1 r Q := by
  cases r with
  | ok d μ => exact fun W' v H' g' o r => h W' v H' (g.trans g') o r
  | ex c fs μ => exact fun W' H' d g' o r => h W' H' d (g.trans g') o r
  | bad => exact h
def rA (K : PySem.W.Frag) (E : XK) (f : FA) : TA := fun σ H Q => ∃ W ρ μ, Ok K W H μ ∧ Envs K W σ ρ ∧ postA K E W H (f ρ μ) Q
abbrev DA (X : Cx) (E : XK) (e : List Expr) (f : FA) : Prop := PA X e (rA X.K E f)

/-- the same of a whole argument list -/
theorem seqA {β : Type} {K : PySem.W.Frag} {E : XK} {fa : FA} {k : List D → Mu → R β} {Rp : Wd → V → β → Prop} {σ : St} {H : Hp} {W : Wd} {ρ : En} {μ : Mu} {Q : VK} {Q1 : List V → Hp → Prop} (p : post K E W H Rp ((fa ρ μ).bind k) Q) (ok : Ok K W H μ) (en : Envs K W σ ρ)
    (hk : ∀ ds μ1 W1 xs H1, Go W H W1 H1 → Ok K W1 H1 μ1 → Envs K W1 σ ρ → Reps K W1 xs ds → post K E W1 H1 Rp (k ds μ1) Q → Q1 xs H1) : rA K E fa σ H Q1 := by
  refine ⟨W, ρ, μ, ok, en, ?_⟩
  revert p
  cases h : fa ρ μ with
  | ok d μ1 => exact fun p W1 x H1 g o r => hk d μ1 W1 x H1 g o (en.mono g.le) r (post.mono g p)
  | ex c fs μ1 => exact fun p => p
  | bad => exact fun p => p
def aNil : FA := fun _ μ => .ok [] μ
def aCons (f : FE) (g : FA) : FA := fun ρ μ => (f ρ μ).bind fun d μ1 => (g ρ μ1).bind fun ds μ2 => .ok (d :: ds) μ2
section
variable {X : Cx} {E : XK}
theorem da_nil : DA X E [] aNil := pa_imp pa_nil fun σ H Q ⟨W, ρ, μ, ok, en, p⟩ => p W [] H (Go.refl W H) ok .nil
theorem da_cons {e : Expr} {es : List Expr} {f : FE} {g : FA} (h : DE X E e f) (hs : DA X E es g) (hst : starEach (e :: es) X.env = (false, eval e X.env) :: starEach es X.env := by rfl) : DA X E (e :: es) (aCons f g) := by
  refine pa_imp (pa_cons h hs hst) fun σ H Q ⟨W, ρ, μ, ok, en, p⟩ => ?_
  refine ⟨W, ρ, μ, ok, en, ?_⟩
  unfold aCons at p
  revert p
  cases f ρ μ with
  | ok d μ1 =>
    intro p W1 x H1 g1 o1 r1
    refine ⟨W1, ρ, μ1, o1, en.mono g1.le, ?_⟩
    have p := postA.mono g1 p
    revert p
    rw [R.bind_ok]
    cases g ρ μ1 with
    | ok ds μ2 => exact fun p W2 xs H2 g2 o2 r2 => p W2 (x :: xs) H2 g2 o2 (.cons (r1.mono g2.le) r2)
    | ex c fs μ2 => exact fun p => p
    | bad => exact fun p => p
  | ex c fs μ1 => exact fun p => p
  | bad => exact fun p => p
end

/-! ### names and constants -/
def dvar (i : Nat) : FE := fun ρ μ => match ρ[i]? with
  | some (some d) => .ok d μ
  | _ => .bad
def dc (d : D) : FE := fun _ μ => .ok d μ
section
variable {X : Cx} {E : XK}
theorem dv (i : Nat) {x : Str} {pos : Pos} (hN : X.N[i]? = some x := by rfl) (hv : Vis X.env.scope x := by first | exact Or.inl rfl | exact Or.inr (Or.inl rfl) | exact Or.inr (Or.inr rfl)) (hd : (x == ("__debug__" : Str)) = false := by decide)
    (hcd : (x == ("__classdict__" : Str)) = false := by decide) : DE X E (.Name x pos) (dvar i) := by
  refine pe_imp (pe_var hN hv hd hcd) fun σ H Q ⟨W, ρ, μ, ok, en, p⟩ => ?_
  unfold dvar at p
  revert p
  cases e : ρ[i]? with
  | none => exact fun p => p.elim
  | some o =>
    cases o with
    | none => exact fun p => p.elim
    | some d =>
      intro p
      obtain ⟨v, h1, h2⟩ := en.at_ i d e
      exact ⟨v, h1, p W v H (Go.refl W H) ok h2⟩
theorem dconst {e : Expr} {v : V} {d : D} (h : PE X e (tC v)) (r : ∀ W, Rep X.K W v d) : DE X E e (dc d) := pe_imp h fun σ H Q ⟨W, ρ, μ, ok, en, p⟩ => p W v H (Go.refl W H) ok (r W)
theorem dint {i j pos} : DE X E (.Constant (.int i) j pos) (dc (.int i)) := dconst pe_int fun _ => .int i
theorem dbool {b j pos} : DE X E (.Constant (.bool b) j pos) (dc (.bl b)) := dconst pe_bl fun _ => .bl b
theorem dnon {j pos} : DE X E (.Constant .none j pos) (dc .non) := dconst pe_non fun _ => .non
theorem dstr {x j pos} (hx : x.length ≤ sizeLine := by decide +kernel) : DE X E (.Constant (.str x) j pos) (dc (.str x)) := dconst pe_str fun _ => .str x hx

/-! ### two-place operations -/
/-- the rule r does g -/
def OpD (K : PySem.W.Frag) (E : XK) (r : R2) (g : D → D → Mu → R D) : Prop :=
  ∀ W H μ x y vx vy Q, Ok K W H μ → Rep K W vx x → Rep K W vy y → postE K E W H (g x y μ) Q → r vx vy H Q
/-- .. a pure one that makes nothing -/
theorem OpD.pure {K : PySem.W.Frag} {E : XK} {r : R2} {g : D → D → Option D} (h : ∀ W H μ x y vx vy d, Ok K W H μ → Rep K W vx x → Rep K W vy y → g x y = some d → ∃ v, Rep K W v d ∧ ∀ Q : VK, Q v H → r vx vy H Q) : OpD K E r (fun x y μ => R.of (g x y) μ) := by
  intro W H μ x y vx vy Q ok rx ry
  show postE K E W H (R.of (g x y) μ) Q → _
  cases e : g x y with
  | none => exact fun p => p.elim
  | some d =>
    intro p
    obtain ⟨v, h1, h2⟩ := h W H μ x y vx vy d ok rx ry e
    exact h2 Q (p W v H (Go.refl W H) ok h1)
def dbin (g : D → D → Mu → R D) (fa fb : FE) : FE := fun ρ μ => (fa ρ μ).bind fun x μ1 => (fb ρ μ1).bind fun y μ2 => g x y μ2
theorem tOp_of {r : R2} {g : D → D → Mu → R D} {fa fb : FE} (h : OpD X.K E r g) : ∀ σ H Q, rE X.K E (dbin g fa fb) σ H Q → tOp r (rE X.K E fa) (rE X.K E fb) σ H Q := fun σ H Q ⟨W, ρ, μ, ok, en, p⟩ =>
  seq p ok en fun x μ1 W1 vx H1 g1 ok1 en1 rx p1 => seq p1 ok1 en1 fun y μ2 W2 vy H2 g2 ok2 en2 ry p2 => h W2 H2 μ2 x y vx vy Q ok2 (rx.mono g2.le) ry p2
theorem dbinop {op : Operator} {a b : Expr} {pos : Pos} {fa fb : FE} {r : R2} {g : D → D → Mu → R D} (ho : OpR X (binaryOp op) r) (h : OpD X.K E r g) (ha : DE X E a fa) (hb : DE X E b fb) : DE X E (.BinOp a op b pos) (dbin g fa fb) :=
  pe_imp (pe_op ho ha hb) (tOp_of h)
theorem dcmp {op : CmpOp} {a b : Expr} {pos : Pos} {fa fb : FE} {r : R2} {g : D → D → Mu → R D} (ho : OpR X (compareOp op) r) (h : OpD X.K E r g) (ha : DE X E a fa) (hb : DE X E b fb) (hm : behindInMarks op b = false := by first | exact nomark _ | rfl) : DE X E (.Compare a [op] [b] pos) (dbin g fa fb) :=
  pe_imp (pe_cmpR ho ha hb hm) (tOp_of h)
def dun (g : D → Mu → R D) (fa : FE) : FE := fun ρ μ => (fa ρ μ).bind fun x μ1 => g x μ1

/-! ### tests of values -/
def dtest (f : FE) : FT := fun ρ μ => (f ρ μ).bind fun d μ1 => match d with
  | .bl b => .ok b μ1
  | _ => .bad
theorem tB_of {f : FE} : ∀ σ H Q, rT X.K E (dtest f) σ H Q → tB (rE X.K E f) σ H Q := fun σ H Q ⟨W, ρ, μ, ok, en, p⟩ => by
  refine ⟨W, ρ, μ, ok, en, ?_⟩
  unfold dtest at p
  revert p
  cases f ρ μ with
  | ok d μ1 =>
    rw [R.bind_ok]
    cases d with
    | bl b =>
      intro p W1 v H1 g1 o1 r1
      cases r1
      exact ⟨b, rfl, p W1 H1 g1 o1⟩
    | _ => exact fun p => p.elim
  | ex c fs μ1 => exact fun p => p
  | bad => exact fun p => p
theorem dtest_val {e : Expr} {f : FE} (h : DE X E e f) (he : ∀ whole, isTrue e X.env whole = (do let v ← whole; standAt e.pos; holding [v] (truthy v)) := by intro _; rfl) : DT X E e (dtest f) := pt_imp (pt_val h he) tB_of
theorem dtest_cmp {op : CmpOp} {a b : Expr} {pos : Pos} {fa fb : FE} {r : R2} {g : D → D → Mu → R D} (ho : OpR X (compareOp op) r) (h : OpD X.K E r g) (ha : DE X E a fa) (hb : DE X E b fb) (hm : behindInMarks op b = false := by first | exact nomark _ | rfl) : DT X E (.Compare a [op] [b] pos) (dtest (dbin g fa fb)) := by
  refine pt_imp (pt_cmpR ho ha hb hm) fun σ H Q q => ?_
  have q := tB_of σ H Q q
  unfold tTest
  exact tOp_of h σ H _ q
def tand (f g : FT) : FT := fun ρ μ => (f ρ μ).bind fun b μ1 => if b = true then g ρ μ1 else .ok false μ1
def tor (f g : FT) : FT := fun ρ μ => (f ρ μ).bind fun b μ1 => if b = true then .ok true μ1 else g ρ μ1
def tnot (f : FT) : FT := fun ρ μ => (f ρ μ).bind fun b μ1 => .ok (!b) μ1
theorem seqT {K : PySem.W.Frag} {fa : FT} {k : Bool → Mu → R Bool} {σ : St} {H : Hp} {W : Wd} {ρ : En} {μ : Mu} {Q Q1 : Bool → Hp → Prop} (p : postT K E W H ((fa ρ μ).bind k) Q) (ok : Ok K W H μ) (en : Envs K W σ ρ)
    (hk : ∀ b μ1 W1 H1, Go W H W1 H1 → Ok K W1 H1 μ1 → Envs K W1 σ ρ → postT K E W1 H1 (k b μ1) Q → Q1 b H1) : rT K E fa σ H Q1 := by
  refine ⟨W, ρ, μ, ok, en, ?_⟩
  revert p
  cases h : fa ρ μ with
  | ok d μ1 => exact fun p W1 H1 g o => hk d μ1 W1 H1 g o (en.mono g.le) (postT.mono g p)
  | ex c fs μ1 => exact fun p => p
  | bad => exact fun p => p
theorem tAnd_of {f g : FT} : ∀ σ H Q, rT X.K E (tand f g) σ H Q → tAnd (rT X.K E f) (rT X.K E g) σ H Q := fun σ H Q ⟨W, ρ, μ, ok, en, p⟩ =>
  seqT p ok en fun b μ1 W1 H1 g1 o1 en1 p1 => by
    cases b with
    | true => exact ⟨W1, ρ, μ1, o1, en1, p1⟩
    | false => exact p1 W1 H1 (Go.refl _ _) o1
theorem tOr_of {f g : FT} : ∀ σ H Q, rT X.K E (tor f g) σ H Q → tOr (rT X.K E f) (rT X.K E g) σ H Q := fun σ H Q ⟨W, ρ, μ, ok, en, p⟩ =>
  seqT p ok en fun b μ1 W1 H1 g1 o1 en1 p1 => by
    cases b with
    | false => exact ⟨W1, ρ, μ1, o1, en1, p1⟩
    | true => exact p1 W1 H1 (Go.refl _ _) o1
variable {a b : Expr} {rest : List Expr} {pos : Pos} {f g : FT}
theorem dw_and1 (ha : DT X E a f) : DW X E (.BoolOp .And [a] pos) f := pw_and1 ha
theorem dw_or1 (ha : DT X E a f) : DW X E (.BoolOp .Or [a] pos) f := pw_or1 ha
theorem dw_and (ha : DT X E a f) (hb : DW X E (.BoolOp .And (b :: rest) pos) g) : DW X E (.BoolOp .And (a :: b :: rest) pos) (tand f g) := pw_imp (pw_and ha hb) tAnd_of
theorem dw_or (ha : DT X E a f) (hb : DW X E (.BoolOp .Or (b :: rest) pos) g) : DW X E (.BoolOp .Or (a :: b :: rest) pos) (tor f g) := pw_imp (pw_or ha hb) tOr_of
theorem dt_w (h : DW X E a f) : DT X E a f := h.pt
theorem dt_not (ha : DT X E a f) : DT X E (.UnaryOp .Not a pos) (tnot f) := pt_imp (pt_not ha) fun σ H Q ⟨W, ρ, μ, ok, en, p⟩ =>
  seqT p ok en fun b μ1 W1 H1 g1 o1 en1 p1 => p1 W1 H1 (Go.refl _ _) o1
end
end DL
/-! DL1: statements, targets, walks, loops, comprehensions. -/
namespace DL
open PySem L2

/-- no exception is let out -/
def R.nox {α : Type} : R α → R α
  | .ok a μ => .ok a μ
  | _ => .bad
@[simp] theorem R.nox_ok {α : Type} (a : α) (μ : Mu) : (R.ok a μ).nox = .ok a μ := of_eq_true (eq_self _)
@[simp] theorem R.nox_bad {α : Type} : (R.bad : R α).nox = .bad := of_eq_true (eq_self _)
@[simp] theorem R.nox_ex {α : Type} (c : Nat) (fs : List (Str × D)) (μ : Mu) : (R.ex c fs μ : R α).nox = .bad := of_eq_true (eq_self _)

/-! ### a new object that never changes -/
section
variable {K : PySem.W.Frag} {W : Wd} {H : Hp} {μ : Mu} {p : Addr} {o : HO}
theorem same_new {H : Hp} {p : Addr} {o : HO} (h : H p = none) : Same H (upd H p o) := fun b x e => by
  rw [upd_ne (ne_of_none e h)]
  exact e
def Wd.new (W : Wd) (p : Addr) (o : HO) : Wd := ⟨upd W.S p o, W.io⟩
theorem Ok.snone (ok : Ok K W H μ) (h : H p = none) : W.S p = none := ok.sub.free h
theorem Go.new (ok : Ok K W H μ) (h : H p = none) : Go W H (W.new p o) (upd H p o) := by
  refine ⟨⟨same_new (ok.snone h), List.prefix_refl _⟩, fun a u e _ => ?_, fun a e => ?_, fun a e => .inl e, fun a u e => ?_⟩
  · rw [upd_ne (ne_of_none e h)]
    exact e
  · by_cases z : a = p
    · rw [z]; exact h
    · rw [upd_ne z] at e; exact e
  · by_cases z : a = p
    · rw [z]; exact .inr (.inl h)
    · exact .inl (by rw [← e]; exact (upd_ne z).symm)
theorem Ok.new (ok : Ok K W H μ) (h : H p = none) : Ok K (W.new p o) (upd H p o) μ := by
  have g := Go.new (o := o) ok h
  refine ⟨fun a u e => ?_, ok.len, ok.nd, fun l a m e1 e2 n => ?_, fun l a m e1 e2 => ?_⟩
  · by_cases z : a = p
    · have e : upd W.S p o a = some u := e
      rw [z] at e ⊢
      rw [upd_same] at e ⊢
      exact e
    · have e : upd W.S p o a = some u := e
      rw [upd_ne z] at e ⊢
      exact ok.sub a u e
  · show upd W.S p o a = none
    by_cases z : a = p
    · obtain ⟨u, e, _⟩ := ok.cell l a m e1 e2
      rw [z, h] at e
      cases e
    · rw [upd_ne z]
      exact ok.apart l a m e1 e2 n
  · exact (ok.cell l a m e1 e2).mono g.le fun u e => by
      rw [upd_ne (ne_of_none e h)]
      exact e
/-- a new tuple, a new list -/
theorem rep_tup {vs : List V} {ds : List D} (ok : Ok K W H μ) (h : H p = none) (z : ds.length ≤ sizeLine) (r : Reps K W vs ds) : Rep K (W.new p (.tup vs)) (.ref p) (.tup ds) :=
  .tup z (.inl (.inl (show upd W.S p (.tup vs) p = _ from upd_same))) (r.mono (Go.new ok h).le)
theorem rep_lst {vs : List V} {ds : List D} (ok : Ok K W H μ) (h : H p = none) (z : ds.length ≤ sizeLine) (r : Reps K W vs ds) : Rep K (W.new p (.lst vs)) (.ref p) (.lst ds) :=
  .lst z (.inl (.inl (show upd W.S p (.lst vs) p = _ from upd_same))) (r.mono (Go.new ok h).le)
end

/-! ### a new cell, a changed cell, a frozen cell -/
section
variable {K : PySem.W.Frag} {W : Wd} {H : Hp} {μ : Mu} {p a : Addr} {l : Nat} {m m' : MO} {o o' : HO}
def Wd.cell (W : Wd) (p : Addr) : Wd := ⟨W.S, W.io ++ [p]⟩
theorem Ok.notio (ok : Ok K W H μ) (h : H p = none) : p ∉ W.io := fun z => by
  obtain ⟨l, hl, e⟩ := List.mem_iff_getElem.mp z
  have hm : l < μ.length := by rw [← ok.len]; exact hl
  obtain ⟨u, q, _⟩ := ok.cell l p μ[l] (by rw [List.getElem?_eq_getElem hl, e]) (List.getElem?_eq_getElem hm)
  rw [h] at q
  cases q
theorem Go.cell (ok : Ok K W H μ) (h : H p = none) : Go W H (W.cell p) (upd H p o) := by
  refine ⟨⟨Same.refl _, List.prefix_append _ _⟩, fun a u e _ => ?_, fun a e => ?_, fun a e => ?_, fun a u e => .inl e⟩
  · rw [upd_ne (ne_of_none e h)]
    exact e
  · by_cases z : a = p
    · rw [z]; exact h
    · rw [upd_ne z] at e; exact e
  · have e : a ∈ W.io ++ [p] := e
    rcases List.mem_append.mp e with e | e
    · exact .inl e
    · have e : a = p := by simpa using e
      rw [e]; exact .inr h
theorem Ok.newcell (ok : Ok K W H μ) (h : H p = none) (c : CellO K W m o) : Ok K (W.cell p) (upd H p o) (μ ++ [m]) := by
  have g := Go.cell (o := o) ok h
  have hn := ok.notio h
  have get : ∀ (l : Nat) a k, (W.io ++ [p])[l]? = some a → (μ ++ [m])[l]? = some k → (W.io[l]? = some a ∧ μ[l]? = some k) ∨ (a = p ∧ k = m) := fun l a k e1 e2 => by
    by_cases hl : l < W.io.length
    · rw [List.getElem?_append_left hl] at e1
      rw [List.getElem?_append_left (by rw [← ok.len]; exact hl)] at e2
      exact .inl ⟨e1, e2⟩
    · rw [List.getElem?_append_right (by omega)] at e1
      rw [List.getElem?_append_right (by rw [← ok.len]; omega), ← ok.len] at e2
      cases hz : l - W.io.length with
      | zero =>
        rw [hz] at e1 e2
        simp at e1 e2
        exact .inr ⟨e1.symm, e2.symm⟩
      | succ n =>
        rw [hz] at e1
        simp at e1
  refine ⟨fun a u e => ?_, by simp [Wd.cell, ok.len], ?_, fun l a k e1 e2 n => ?_, fun l a k e1 e2 => ?_⟩
  · have e : W.S a = some u := e
    rw [upd_ne (ne_of_none (ok.sub _ _ e) h)]
    exact ok.sub _ _ e
  · show (W.io ++ [p]).Nodup
    rw [List.nodup_append]
    exact ⟨ok.nd, by simp, fun x hx y hy z => hn (by
      have e : y = p := by simpa using hy
      rw [← e, ← z]; exact hx)⟩
  · show W.S a = none
    rcases get l a k e1 e2 with ⟨e1, e2⟩ | ⟨rfl, rfl⟩
    · exact ok.apart l a k e1 e2 n
    · exact ok.snone h
  · rcases get l a k e1 e2 with ⟨e1, e2⟩ | ⟨rfl, rfl⟩
    · exact (ok.cell l a k e1 e2).mono g.le fun u e => by
        rw [upd_ne (ne_of_none e h)]
        exact e
    · exact ⟨o, upd_same, c.mono g.le⟩
theorem Ok.io_ne (ok : Ok K W H μ) {l2 : Nat} {b : Addr} (h1 : W.io[l]? = some a) (h2 : W.io[l2]? = some b) (hne : l2 ≠ l) : b ≠ a := fun e => by
  obtain ⟨i1, e1⟩ := List.getElem?_eq_some_iff.mp h1
  obtain ⟨i2, e2⟩ := List.getElem?_eq_some_iff.mp h2
  exact hne ((List.getElem_inj ok.nd).mp (e2.trans (e.trans e1.symm)))
/-- the cell l holds m' from now on -/
theorem Ok.setcell (ok : Ok K W H μ) (h1 : W.io[l]? = some a) (h2 : μ[l]? = some m) (hg : m ≠ .gone) (c : CellO K W m' o') : Ok K W (upd H a o') (μ.set l m') ∧ Go W H W (upd H a o') := by
  have ha : W.S a = none := ok.apart l a m h1 h2 hg
  obtain ⟨o, ho, _⟩ := ok.cell l a m h1 h2
  have hm : a ∈ W.io := List.mem_of_getElem? h1
  refine ⟨⟨fun b u e => ?_, by rw [List.length_set]; exact ok.len, ok.nd, fun l2 b k e1 e2 n => ?_, fun l2 b k e1 e2 => ?_⟩, ⟨Le.refl _, fun b u e n => ?_, fun b e => ?_, fun b e => .inl e, fun b u e => .inl e⟩⟩
  · rw [upd_ne (ne_of_none e ha)]
    exact ok.sub _ _ e
  · by_cases z : l2 = l
    · subst z
      rw [h1] at e1
      cases e1
      exact ha
    · rw [List.getElem?_set_ne (Ne.symm z)] at e2
      exact ok.apart l2 b k e1 e2 n
  · by_cases z : l2 = l
    · subst z
      rw [h1] at e1
      cases e1
      rw [List.getElem?_set_self (List.getElem?_eq_some_iff.mp h2).1] at e2
      cases e2
      exact ⟨o', upd_same, c⟩
    · rw [List.getElem?_set_ne (Ne.symm z)] at e2
      exact (ok.cell l2 b k e1 e2).mono (Le.refl _) fun u e => by
        rw [upd_ne (ok.io_ne h1 e1 z)]
        exact e
  · rw [upd_ne (fun z => n (by rw [z]; exact hm))]
    exact e
  · by_cases z : b = a
    · rw [z, upd_same] at e
      cases e
    · rw [upd_ne z] at e
      exact e
/-- the cell l never changes any more -/
theorem Ok.freeze (ok : Ok K W H μ) (h1 : W.io[l]? = some a) (h2 : μ[l]? = some m) (hg : m ≠ .gone) (ho : H a = some o) : Ok K (W.new a o) H (μ.set l .gone) ∧ Go W H (W.new a o) H := by
  have ha : W.S a = none := ok.apart l a m h1 h2 hg
  have hm : a ∈ W.io := List.mem_of_getElem? h1
  have le : Le W (W.new a o) := ⟨same_new ha, List.prefix_refl _⟩
  refine ⟨⟨fun b u e => ?_, by rw [List.length_set]; exact ok.len, ok.nd, fun l2 b k e1 e2 n => ?_, fun l2 b k e1 e2 => ?_⟩, ⟨le, fun b u e n => e, fun b e => e, fun b e => .inl e, fun b u e => ?_⟩⟩
  · have e : upd W.S a o b = some u := e
    by_cases z : b = a
    · rw [z] at e ⊢
      rw [upd_same] at e
      rw [ho]; exact e
    · rw [upd_ne z] at e
      exact ok.sub _ _ e
  · show upd W.S a o b = none
    by_cases z : l2 = l
    · subst z
      rw [List.getElem?_set_self (List.getElem?_eq_some_iff.mp h2).1] at e2
      cases e2
      exact absurd rfl n
    · rw [List.getElem?_set_ne (Ne.symm z)] at e2
      rw [upd_ne (ok.io_ne h1 e1 z)]
      exact ok.apart l2 b k e1 e2 n
  · by_cases z : l2 = l
    · subst z
      rw [List.getElem?_set_self (List.getElem?_eq_some_iff.mp h2).1] at e2
      cases e2
      have e1 : W.io[l2]? = some b := e1
      rw [h1] at e1
      cases e1
      obtain ⟨o2, ho2, c2⟩ := ok.cell l2 a m h1 h2
      rw [ho] at ho2
      cases ho2
      exact ⟨o, ho, c2.notxd⟩
    · rw [List.getElem?_set_ne (Ne.symm z)] at e2
      exact (ok.cell l2 b k e1 e2).mono le fun u e => e
  · have e : upd W.S a o b = some u := e
    by_cases z : b = a
    · rw [z]; exact .inr (.inr hm)
    · rw [upd_ne z] at e
      exact .inl e
end

/-! ### targets -/
inductive Tg where
  | nm (i : Nat)
  | tp (ts : List Tg)
mutual
def Tg.slots : Tg → List Nat
  | .nm i => [i]
  | .tp ts => Tg.slotsL ts
def Tg.slotsL : List Tg → List Nat
  | [] => []
  | t :: ts => t.slots ++ Tg.slotsL ts
end
mutual
def asg : Tg → D → En → Option En
  | .nm i, d, ρ => some (ρ.set i (some d))
  | .tp ts, d, ρ => match d with
    | .tup ds => asgL ts ds ρ
    | _ => none
def asgL : List Tg → List D → En → Option En
  | [], [], ρ => some ρ
  | t :: ts, d :: ds, ρ => match asg t d ρ with
    | some ρ1 => asgL ts ds ρ1
    | none => none
  | _, _, _ => none
end
@[simp] theorem asg_nm (i : Nat) (d : D) (ρ : En) : asg (.nm i) d ρ = some (ρ.set i (some d)) := by simp [asg]
@[simp] theorem asg_tp (ts : List Tg) (ds : List D) (ρ : En) : asg (.tp ts) (.tup ds) ρ = asgL ts ds ρ := by simp [asg]
@[simp] theorem asgL_nil (ρ : En) : asgL [] [] ρ = some ρ := by simp [asgL]
@[simp] theorem asgL_cons (t : Tg) (ts : List Tg) (d : D) (ds : List D) (ρ : En) : asgL (t :: ts) (d :: ds) ρ = (asg t d ρ).bind (asgL ts ds) := by
  cases h : asg t d ρ <;> simp [asgL, h]
theorem asgL_len : ∀ {ts : List Tg} {ds : List D} {ρ ρ' : En}, asgL ts ds ρ = some ρ' → ds.length = ts.length
  | [], [], _, _, _ => rfl
  | [], _ :: _, _, _, e => by simp [asgL] at e
  | _ :: _, [], _, _, e => by simp [asgL] at e
  | t :: ts, d :: ds, ρ, ρ', e => by
    rw [asgL_cons] at e
    cases h : asg t d ρ with
    | none => rw [h] at e; cases e
    | some ρ1 =>
      rw [h] at e
      rw [List.length_cons, List.length_cons, asgL_len (ts := ts) (ds := ds) e]
/-- only some slots changed -/
structure But (vs : List Nat) (σ σ' : St) : Prop where
  len : σ'.length = σ.length
  at_ : ∀ j, j ∉ vs → σ'[j]? = σ[j]?
theorem But.refl (vs : List Nat) (σ : St) : But vs σ σ := ⟨rfl, fun _ _ => rfl⟩
theorem But.trans {vs us : List Nat} {σ σ1 σ2 : St} (a : But vs σ σ1) (b : But us σ1 σ2) : But (vs ++ us) σ σ2 :=
  ⟨b.len.trans a.len, fun j h => by
    rw [List.mem_append] at h
    rw [b.at_ j fun z => h (.inr z), a.at_ j fun z => h (.inl z)]⟩
theorem But.set (σ : St) (i : Nat) (x : Option V) : But [i] σ (σ.set i x) := ⟨by simp, fun j h => by
  have hj : i ≠ j := fun z => h (by simp [z])
  rw [List.getElem?_set_ne hj]⟩
def rG (K : PySem.W.Frag) (t : Tg) : TG := fun v σ H Q => ∃ W ρ ρ' d μ, Ok K W H μ ∧ Envs K W σ ρ ∧ Rep K W v d ∧ asg t d ρ = some ρ' ∧ ∀ σ', Envs K W σ' ρ' → But t.slots σ σ' → Q σ' H
def rGs (K : PySem.W.Frag) (ts : List Tg) : TGs := fun vs σ H Q => ∃ W ρ ρ' ds μ, Ok K W H μ ∧ Envs K W σ ρ ∧ Reps K W vs ds ∧ asgL ts ds ρ = some ρ' ∧ ∀ σ', Envs K W σ' ρ' → But (Tg.slotsL ts) σ σ' → Q σ' H
abbrev DG (X : Cx) (tg : Expr) (t : Tg) : Prop := PG X tg (rG X.K t)
abbrev DGs (X : Cx) (tg : List Expr) (t : List Tg) : Prop := PGs X tg (rGs X.K t)
theorem pg_imp {X : Cx} {e : Expr} {t t' : TG} (h : PG X e t) (i : ∀ v σ H Q, t' v σ H Q → t v σ H Q) : PG X e t' := ⟨fun pins s σ H v u Q I r q => h.run pins s σ H v u Q I r (i v σ H Q q)⟩
theorem pgs_imp {X : Cx} {e : List Expr} {t t' : TGs} (h : PGs X e t) (i : ∀ v σ H Q, t' v σ H Q → t v σ H Q) : PGs X e t' := ⟨fun pins s σ H v u Q I r q => h.run pins s σ H v u Q I r (i v σ H Q q)⟩
section
variable {X : Cx} {pos : Pos}
theorem dg_name {i : Nat} {x : Str} (hN : X.N.Nodup) (hi : X.N[i]? = some x := by rfl) (hx : Loc X.env.scope x := by first | exact .inl rfl | exact .inr rfl) (hf : X.fn x = true ∨ X.env.scope.names.lookup x = some .local := by first | exact .inl rfl | exact .inr rfl) : DG X (.Name x pos) (.nm i) :=
  pg_imp (pg_name hN hi hx hf) fun v σ H Q ⟨W, ρ, ρ', d, μ, ok, en, r, e, q⟩ => by
    rw [asg_nm] at e
    cases e
    exact q _ (en.set r i) (But.set σ i _)
theorem dgs_nil : DGs X [] [] := pgs_imp pgs_nil fun vs σ H Q ⟨W, ρ, ρ', ds, μ, ok, en, r, e, q⟩ => by
  have l := r.length
  rw [asgL_len e] at l
  cases r with
  | nil =>
    rw [asgL_nil] at e
    cases e
    exact ⟨rfl, q σ en (But.refl _ _)⟩
  | cons _ _ => cases l
theorem dgs_cons {e : Expr} {es : List Expr} {t : Tg} {ts : List Tg} (h : DG X e t) (hs : DGs X es ts) (hst : (assignEach (e :: es) X.env).map (·.2) = assign e X.env :: (assignEach es X.env).map (·.2) := by rfl) : DGs X (e :: es) (t :: ts) :=
  pgs_imp (pgs_cons h hs hst) fun vs σ H Q ⟨W, ρ, ρ', ds, μ, ok, en, r, e, q⟩ => by
    cases r with
    | nil => simp [asgL] at e
    | @cons v vs d ds r rs =>
      rw [asgL_cons] at e
      cases h : asg t d ρ with
      | none => rw [h] at e; cases e
      | some ρ1 =>
        rw [h] at e
        refine ⟨v, vs, rfl, W, ρ, ρ1, d, μ, ok, en, r, h, fun σ1 en1 b1 => ⟨W, ρ1, ρ', ds, μ, ok, en1, rs, e, fun σ2 en2 b2 => q σ2 en2 ?_⟩⟩
        show But (t.slots ++ Tg.slotsL ts) σ σ2
        exact b1.trans b2
theorem dg_tup {es : List Expr} {k : Nat} {ts : List Tg} (hc : X.calm = true) (h : DGs X es ts) (hn : (assignEach es X.env).length = ts.length := by rfl) (hst : (assignEach es X.env).findIdx? (·.1) = none := by rfl) : DG X (.Tuple es k pos) (.tp ts) :=
  pg_imp (pg_tup hc h hn hst) fun v σ H Q ⟨W, ρ, ρ', d, μ, ok, en, r, e, q⟩ => by
    cases r with
    | @tup a xs ds z sq rs =>
      rw [asg_tp] at e
      refine ⟨a, xs, rfl, same_t ok.sub sq, ?_, W, ρ, ρ', ds, μ, ok, en, rs, e, fun σ' en' b => q σ' en' b⟩
      rw [rs.length]
      exact asgL_len e
    | _ => simp [asg] at e
end

/-! ### statements -/
inductive O where
  | nx (ρ : En) (μ : Mu)
  | rt (d : D) (μ : Mu)
  | bk (ρ : En) (μ : Mu)
  | ct (ρ : En) (μ : Mu)
  | ex (c : Nat) (fs : List (Str × D)) (μ : Mu)
  | bad
def postS (K : PySem.W.Frag) (E : XK) (W : Wd) (H : Hp) (o : O) (Z : Ends) : Prop := match o with
  | .nx ρ μ => ∀ W' σ' H', Go W H W' H' → Ok K W' H' μ → Envs K W' σ' ρ → Z.nx σ' H'
  | .bk ρ μ => ∀ W' σ' H', Go W H W' H' → Ok K W' H' μ → Envs K W' σ' ρ → Z.bk σ' H'
  | .ct ρ μ => ∀ W' σ' H', Go W H W' H' → Ok K W' H' μ → Envs K W' σ' ρ → Z.ct σ' H'
  | .rt d μ => ∀ W' v H', Go W H W' H' → Ok K W' H' μ → Rep K W' v d → Z.rt v H'
  | .ex c fs μ => ∀ W' H' d, Go W H W' H' → Ok K W' H' μ → ExcIs K W' H' fs d → E (.ref (cl K c)) d H'
  | .bad => False
theorem postS.mono {K : PySem.W.Frag} {E : XK} {W W1 : Wd} {H H1 : Hp} {o : O} {Z : Ends} (g : Go W H W1 H1) (h : postS K E W H o Z) : postS K E W1 H1 o Z := by
  cases o with
  | nx ρ μ => exact fun W' v H' g' o r => h W' v H' (g.trans g') o r
  | bk ρ μ => exact fun W' v H' g' o r => h W' v H' (g.trans g') o r
  | ct ρ μ => exact fun W' v H' g' o r => h W' v H' (g.trans g') o r
  | rt ρ μ => exact fun W' v H' g' o r => h W' v H' (g.trans g') o r
  | ex c fs μ => exact fun W' H' d g' o r => h W' H' d (g.trans g') o r
  | bad => exact h
abbrev FS := En → Mu → O
def rS (K : PySem.W.Frag) (E : XK) (g : FS) : TS := fun Z σ H => ∃ W ρ μ, Ok K W H μ ∧ Envs K W σ ρ ∧ postS K E W H (g ρ μ) Z
abbrev DS (X : Cx) (E : XK) (st : Stmt) (g : FS) : Prop := PS X st (rS X.K E g)
abbrev DSs (X : Cx) (E : XK) (st : List Stmt) (g : FS) : Prop := PSs X st (rS X.K E g)
def R.to {α : Type} : R α → (α → Mu → O) → O
  | .ok a μ, k => k a μ
  | .ex c fs μ, _ => .ex c fs μ
  | .bad, _ => .bad
@[simp] theorem R.to_ok {α : Type} (a : α) (μ : Mu) (k : α → Mu → O) : (R.ok a μ).to k = k a μ := of_eq_true (eq_self _)
@[simp] theorem R.to_bad {α : Type} (k : α → Mu → O) : (R.bad : R α).to k = .bad := of_eq_true (eq_self _)
@[simp] theorem R.to_ex {α : Type} (c : Nat) (fs : List (Str × D)) (μ : Mu) (k : α → Mu → O) : (R.ex c fs μ : R α).to k = .ex c fs μ := of_eq_true (eq_self _)
theorem seqS {K : PySem.W.Frag} {E : XK} {fa : FE} {k : D → Mu → O} {σ : St} {H : Hp} {W : Wd} {ρ : En} {μ : Mu} {Z : Ends} {Q1 : VK} (p : postS K E W H ((fa ρ μ).to k) Z) (ok : Ok K W H μ) (en : Envs K W σ ρ)
    (hk : ∀ d μ1 W1 x H1, Go W H W1 H1 → Ok K W1 H1 μ1 → Envs K W1 σ ρ → Rep K W1 x d → postS K E W1 H1 (k d μ1) Z → Q1 x H1) : rE K E fa σ H Q1 := by
  refine ⟨W, ρ, μ, ok, en, ?_⟩
  revert p
  cases h : fa ρ μ with
  | ok d μ1 => exact fun p W1 x H1 g o r => hk d μ1 W1 x H1 g o (en.mono g.le) r (postS.mono g p)
  | ex c fs μ1 => exact fun p => p
  | bad => exact fun p => p
theorem seqST {K : PySem.W.Frag} {E : XK} {fa : FT} {k : Bool → Mu → O} {σ : St} {H : Hp} {W : Wd} {ρ : En} {μ : Mu} {Z : Ends} {Q1 : Bool → Hp → Prop} (p : postS K E W H ((fa ρ μ).to k) Z) (ok : Ok K W H μ) (en : Envs K W σ ρ)
    (hk : ∀ b μ1 W1 H1, Go W H W1 H1 → Ok K W1 H1 μ1 → Envs K W1 σ ρ → postS K E W1 H1 (k b μ1) Z → Q1 b H1) : rT K E fa σ H Q1 := by
  refine ⟨W, ρ, μ, ok, en, ?_⟩
  revert p
  cases h : fa ρ μ with
  | ok d μ1 => exact fun p W1 H1 g o => hk d μ1 W1 H1 g o (en.mono g.le) (postS.mono g p)
  | ex c fs μ1 => exact fun p => p
  | bad => exact fun p => p
def gnil : FS := fun ρ μ => .nx ρ μ
def gseq (g h : FS) : FS := fun ρ μ => match g ρ μ with
  | .nx ρ' μ' => h ρ' μ'
  | o => o
def gret (f : FE) : FS := fun ρ μ => (f ρ μ).to fun d μ1 => .rt d μ1
def gexpr (f : FE) : FS := fun ρ μ => (f ρ μ).to fun _ μ1 => .nx ρ μ1
def gasg (t : Tg) (f : FE) : FS := fun ρ μ => (f ρ μ).to fun d μ1 => match asg t d ρ with
  | some ρ' => .nx ρ' μ1
  | none => .bad
def gif (c : FT) (g h : FS) : FS := fun ρ μ => (c ρ μ).to fun b μ1 => if b = true then g ρ μ1 else h ρ μ1
section
variable {X : Cx} {E : XK} {st : Stmt} {sts : List Stmt} {g h : FS} {e : Expr} {f : FE} {pos : Pos}
theorem ds_nil : DSs X E [] gnil := pss_imp pss_nil fun Z σ H ⟨W, ρ, μ, ok, en, p⟩ => p W σ H (Go.refl _ _) ok en
theorem ds_one (a : DS X E st g) : DSs X E [st] g := pss_one a
theorem ds_cons (a : DS X E st g) (b : DSs X E sts h) : DSs X E (st :: sts) (gseq g h) := pss_imp (pss_cons a b) fun Z σ H ⟨W, ρ, μ, ok, en, p⟩ => by
  refine ⟨W, ρ, μ, ok, en, ?_⟩
  unfold gseq at p
  revert p
  cases g ρ μ with
  | nx ρ' μ' => exact fun p W' σ' H' g' o r => ⟨W', ρ', μ', o, r, postS.mono g' p⟩
  | bk ρ μ => exact fun p => p
  | ct ρ μ => exact fun p => p
  | rt ρ μ => exact fun p => p
  | ex c fs μ => exact fun p => p
  | bad => exact fun p => p
theorem ds_pass : DS X E (.Pass pos) gnil := ps_imp ps_pass fun Z σ H ⟨W, ρ, μ, ok, en, p⟩ => p W σ H (Go.refl _ _) ok en
theorem ds_break : DS X E (.Break pos) (fun ρ μ => .bk ρ μ) := ps_imp ps_break fun Z σ H ⟨W, ρ, μ, ok, en, p⟩ => p W σ H (Go.refl _ _) ok en
theorem ds_continue : DS X E (.Continue pos) (fun ρ μ => .ct ρ μ) := ps_imp ps_continue fun Z σ H ⟨W, ρ, μ, ok, en, p⟩ => p W σ H (Go.refl _ _) ok en
theorem ds_ret (a : DE X E e f) : DS X E (.Return (some e) pos) (gret f) := ps_imp (ps_ret a) fun Z σ H ⟨W, ρ, μ, ok, en, p⟩ =>
  seqS p ok en fun d μ1 W1 x H1 g1 o1 en1 r p1 => p1 W1 x H1 (Go.refl _ _) o1 r
theorem ds_retN : DS X E (.Return none pos) (fun _ μ => .rt .non μ) := ps_imp ps_retN fun Z σ H ⟨W, ρ, μ, ok, en, p⟩ => p W .non H (Go.refl _ _) ok .non
theorem ds_expr (a : DE X E e f) (hs : swapsWith e none pos.line X.env = pure false := by rfl) : DS X E (.Expr e pos) (gexpr f) := ps_imp (ps_expr a hs) fun Z σ H ⟨W, ρ, μ, ok, en, p⟩ =>
  seqS p ok en fun d μ1 W1 x H1 g1 o1 en1 r p1 => p1 W1 σ H1 (Go.refl _ _) o1 en1
theorem tAsg_of {t : Tg} : ∀ Z σ H, rS X.K E (gasg t f) Z σ H → tAsg (rE X.K E f) (rG X.K t) Z σ H := fun Z σ H ⟨W, ρ, μ, ok, en, p⟩ =>
  seqS p ok en fun d μ1 W1 x H1 g1 o1 en1 r p1 => by
    revert p1
    cases e : asg t d ρ with
    | none => exact fun p => p.elim
    | some ρ' => exact fun p1 => ⟨W1, ρ, ρ', d, μ1, o1, en1, r, e, fun σ' en' _ => p1 W1 σ' H1 (Go.refl _ _) o1 en'⟩
theorem ds_asg {tg : Expr} {t : Tg} (a : DE X E e f) (b : DG X tg t) (hs : swapsWithSole [tg] e pos.line X.env = pure false := by rfl) (hw : swappedStores [tg] e X.env = pure none := by rfl)
    (h1 : (assignEach [tg] X.env).map (·.2) = [assign tg X.env] := by rfl) : DS X E (.Assign [tg] e pos) (gasg t f) := ps_imp (ps_asg a b hs hw h1) tAsg_of
theorem ds_set (i : Nat) {x : Str} {pos' : Pos} (hN : X.N.Nodup) (a : DE X E e f) (hi : X.N[i]? = some x := by rfl) (hx : Loc X.env.scope x := by first | exact .inl rfl | exact .inr rfl) (hs : swapsWith e (some (.Name x pos')) pos.line X.env = pure false := by rfl) (hf : X.fn x = true ∨ X.env.scope.names.lookup x = some .local := by first | exact .inl rfl | exact .inr rfl) :
    DS X E (.Assign [.Name x pos'] e pos) (gasg (.nm i) f) := ps_imp (ps_set hN hi hx a hs hf) fun Z σ H ⟨W, ρ, μ, ok, en, p⟩ =>
  seqS p ok en fun d μ1 W1 v H1 g1 o1 en1 r p1 => by
    rw [asg_nm] at p1
    exact p1 W1 _ H1 (Go.refl _ _) o1 (en1.set r i)
theorem ds_if {c : Expr} {a b : List Stmt} {fc : FT} (hc : DT X E c fc) (ha : DSs X E a g) (hb : DSs X E b h) : DS X E (.If c a b pos) (gif fc g h) := ps_imp (ps_if hc ha hb) fun Z σ H ⟨W, ρ, μ, ok, en, p⟩ =>
  seqST p ok en fun d μ1 W1 H1 g1 o1 en1 p1 => by
    cases d with
    | true => exact ⟨W1, ρ, μ1, o1, en1, p1⟩
    | false => exact ⟨W1, ρ, μ1, o1, en1, p1⟩
end

/-! ### walks -/
structure Walk (K : PySem.W.Frag) (W : Wd) (J : It) (xs : List D) : Prop where
  len : xs.length ≤ sizeLine
  go : ∀ H i, Same W.S H → i < xs.length → J.go i H
  stop : ∀ H i, Same W.S H → xs.length ≤ i → J.stop i H
  yld : ∀ H i x H', Same W.S H → J.yld i H x H' → ∀ d, xs[i]? = some d → ∀ W1 μ, Le W W1 → Ok K W1 H μ → ∃ W2, Go W1 H W2 H' ∧ Ok K W2 H' μ ∧ Rep K W2 x d
def postI (K : PySem.W.Frag) (E : XK) (W : Wd) (H : Hp) (r : R (List D)) (Q : It → Hp → Prop) : Prop := match r with
  | .ok xs μ => ∀ W' J H', Go W H W' H' → Ok K W' H' μ → Walk K W' J xs → Q J H'
  | .ex c fs μ => ∀ W' H' d, Go W H W' H' → Ok K W' H' μ → ExcIs K W' H' fs d → E (.ref (cl K c)) d H'
  | .bad => False
def rI (K : PySem.W.Frag) (E : XK) (f : FA) : TI := fun σ H Q => ∃ W ρ μ, Ok K W H μ ∧ Envs K W σ ρ ∧ postI K E W H (f ρ μ) Q
abbrev DI (X : Cx) (E : XK) (tg iter : Expr) (f : FA) : Prop := PI X tg iter (rI X.K E f)
theorem pi_imp {X : Cx} {tg e : Expr} {t t' : TI} (h : PI X tg e t) (i : ∀ σ H Q, t' σ H Q → t σ H Q) : PI X tg e t' := ⟨fun pins s σ H Q I q => h.run pins s σ H Q I (i σ H Q q)⟩
theorem Walk.le {K : PySem.W.Frag} {W W' : Wd} {J : It} {xs : List D} (w : Walk K W J xs) (l : Le W W') : Walk K W' J xs :=
  ⟨w.len, fun H i s => w.go H i (l.s.trans s), fun H i s => w.stop H i (l.s.trans s), fun H i x H' s y d e W1 μ l1 ok => w.yld H i x H' (l.s.trans s) y d e W1 μ (l.trans l1) ok⟩

/-! ### for -/
def forD (t : Tg) (b : FS) : List D → En → Mu → O
  | [], ρ, μ => .nx ρ μ
  | x :: xs, ρ, μ => match asg t x ρ with
    | none => .bad
    | some ρ1 => match b ρ1 μ with
      | .nx ρ2 μ2 => forD t b xs ρ2 μ2
      | .ct ρ2 μ2 => forD t b xs ρ2 μ2
      | .bk ρ2 μ2 => .nx ρ2 μ2
      | o => o
def gfor (fi : FA) (t : Tg) (b : FS) : FS := fun ρ μ => (fi ρ μ).to fun xs μ1 => forD t b xs ρ μ1
section
variable {X : Cx} {E : XK} {pos : Pos}
theorem ds_for {tg iter : Expr} {body : List Stmt} {fi : FA} {t : Tg} {b : FS} (hp : PassesOwn (model X.prog X.w) X.A X.env X.xe) (hc : X.calm = true) (hi : DI X E tg iter fi) (hg : DG X tg t) (hb : DSs X E body b)
    (hs : ∀ x, foldedSetIterable iter X.env x = pure x := by intro _; rfl) : DS X E (.For tg iter body [] pos) (gfor fi t b) := by
  refine ps_imp (ps_for hp hc hi hg hb hs) fun Z σ H ⟨W, ρ, μ, ok, en, p⟩ => ?_
  refine ⟨W, ρ, μ, ok, en, ?_⟩
  unfold gfor at p
  revert p
  cases fi ρ μ with
  | ex c fs μ1 => exact fun p => p
  | bad => exact fun p => p
  | ok xs μ1 =>
    rw [R.to_ok]
    intro p W1 J H1 g1 o1 wk
    refine ⟨fun i m σ H => m = xs.length - i ∧ i ≤ xs.length ∧ ∃ W2 ρ μ, Le W1 W2 ∧ Ok X.K W2 H μ ∧ Envs X.K W2 σ ρ ∧ postS X.K E W2 H (forD t b (xs.drop i) ρ μ) Z, ⟨xs.length, by simp, Nat.zero_le _, W1, ρ, μ1, Le.refl _, o1, en.mono g1.le, postS.mono g1 p⟩, ?_⟩
    rintro i m σ2 H2 ⟨rfl, hi, W2, ρ2, μ2, l2, o2, en2, p2⟩
    have s2 : Same W1.S H2 := l2.s.trans o2.sub
    by_cases hlt : i < xs.length
    · rw [List.drop_eq_getElem_cons hlt] at p2
      unfold forD at p2
      refine .inr ⟨wk.go H2 i s2 hlt, fun σ3 H3 => ∃ W3 ρ3 μ3, Le W1 W3 ∧ Ok X.K W3 H3 μ3 ∧ Envs X.K W3 σ3 ρ3 ∧ postS X.K E W3 H3 (forD t b (xs.drop (i + 1)) ρ3 μ3) Z, fun σ3 H3 ⟨W3, ρ3, μ3, l3, o3, en3, p3⟩ => ⟨xs.length - (i + 1), by omega, rfl, hlt, W3, ρ3, μ3, l3, o3, en3, p3⟩, fun x H3 y => ?_⟩
      obtain ⟨W3, g3, o3, r3⟩ := wk.yld H2 i x H3 s2 y xs[i] (List.getElem?_eq_getElem hlt) W2 μ2 l2 o2
      revert p2
      cases e : asg t xs[i] ρ2 with
      | none => exact fun p => p.elim
      | some ρ3 =>
        intro p2
        refine ⟨W3, ρ2, ρ3, xs[i], μ2, o3, en2.mono g3.le, r3, e, fun σ4 en4 _ => ⟨W3, ρ3, μ2, o3, en4, ?_⟩⟩
        have p3 := postS.mono g3 p2
        revert p3
        dsimp only
        cases b ρ3 μ2 with
        | nx ρ5 μ5 => exact fun p W5 σ5 H5 g5 o5 e5 => ⟨W5, ρ5, μ5, (l2.trans g3.le).trans g5.le, o5, e5, postS.mono g5 p⟩
        | ct ρ5 μ5 => exact fun p W5 σ5 H5 g5 o5 e5 => ⟨W5, ρ5, μ5, (l2.trans g3.le).trans g5.le, o5, e5, postS.mono g5 p⟩
        | bk ρ5 μ5 => exact fun p => p
        | rt d μ5 => exact fun p => p
        | ex c fs μ5 => exact fun p => p
        | bad => exact fun p => p
    · have ei : i = xs.length := by omega
      subst ei
      rw [List.drop_length] at p2
      exact .inl ⟨wk.stop H2 _ s2 (Nat.le_refl _), p2 W2 σ2 H2 (Go.refl _ _) o2 en2⟩
end
end DL
/-! DL2: comprehensions, what is walked, displays, cells, calls of defs. -/
namespace DL
open PySem L2

/-! ### comprehensions -/
def wipeD (ρ : En) : List Nat → En
  | [] => ρ
  | v :: vs => (wipeD ρ vs).set v none
theorem Envs.wipe {K : PySem.W.Frag} {W : Wd} {σ : St} {ρ : En} (h : Envs K W σ ρ) : ∀ vs : List Nat, Envs K W (L2.wipe σ vs) (wipeD ρ vs)
  | [] => h
  | v :: vs => (Envs.wipe h vs).unset none v
theorem wipe_out {σ : St} {j : Nat} : ∀ {vs : List Nat}, j ∉ vs → (L2.wipe σ vs)[j]? = σ[j]?
  | [], _ => rfl
  | v :: vs, h => by
    show ((L2.wipe σ vs).set v none)[j]? = _
    rw [List.getElem?_set_ne (fun z => h (by simp [z]))]
    exact wipe_out fun z => h (by simp [z])
theorem wipe_in {σ : St} {j : Nat} : ∀ {vs : List Nat}, j ∈ vs → (L2.wipe σ vs)[j]? = if j < σ.length then some none else none
  | [], h => by cases h
  | v :: vs, h => by
    show ((L2.wipe σ vs).set v none)[j]? = _
    by_cases e : v = j
    · subst e
      rw [List.getElem?_set]
      simp [L2.wipe_length]
    · rw [List.getElem?_set_ne e]
      exact wipe_in (by
        rcases List.mem_cons.mp h with z | z
        · exact absurd z.symm e
        · exact z)
theorem wipe_but {σ σ2 : St} {vs ts : List Nat} (hs : ∀ i ∈ ts, i ∈ vs) (b : But ts (L2.wipe σ vs) σ2) : L2.wipe σ2 vs = L2.wipe σ vs := by
  have hl : σ2.length = σ.length := by rw [b.len, L2.wipe_length]
  apply List.ext_getElem?
  intro j
  by_cases h : j ∈ vs
  · rw [wipe_in h, wipe_in h, hl]
  · rw [wipe_out h, wipe_out h, b.at_ j fun z => h (hs j z), wipe_out h]
abbrev DTs (X : Cx) (ifs : List Expr) (f : FT) : Prop := PTs X ifs (rT X.K E0 f)
theorem pts_imp {X : Cx} {e : List Expr} {t t' : TT} (h : PTs X e t) (i : ∀ σ H Q, t' σ H Q → t σ H Q) : PTs X e t' := ⟨fun pins s σ H Q I q => h.run pins s σ H Q I (i σ H Q q)⟩
def tyes : FT := fun _ μ => .ok true μ
theorem dts_nil {X : Cx} : DTs X [] tyes := pts_imp pts_nil fun σ H Q ⟨W, ρ, μ, ok, en, p⟩ => p W H (Go.refl _ _) ok
theorem dts_one {X : Cx} {c : Expr} {f : FT} (h : DT X E0 c f) : DTs X [c] f := pts_one h
def lcD (t : Tg) (ft : FT) (fe : FE) (ρ : En) : List D → Mu → R (List D)
  | [], μ => .ok [] μ
  | x :: xs, μ => match asg t x ρ with
    | none => .bad
    | some ρ1 => (ft ρ1 μ).nox.bind fun b μ1 => if b = true then (fe ρ1 μ1).nox.bind fun y μ2 => (lcD t ft fe ρ xs μ2).bind fun ys μ3 => .ok (y :: ys) μ3 else lcD t ft fe ρ xs μ1
def dlc (fi : FA) (vs : List Nat) (t : Tg) (ft : FT) (fe : FE) : FE := fun ρ μ => (fi ρ μ).bind fun xs μ1 => (lcD t ft fe (wipeD ρ vs) xs μ1).bind fun ys μ2 => .ok (.lst ys) μ2
/-- an object outside of W changes, or comes -/
theorem Ok.other {K : PySem.W.Frag} {W : Wd} {H : Hp} {μ : Mu} {p : Addr} {o : HO} (ok : Ok K W H μ) (h1 : W.S p = none) (h2 : p ∉ W.io) : Ok K W (upd H p o) μ :=
  ⟨fun a u e => by rw [upd_ne (ne_of_none e h1)]; exact ok.sub a u e, ok.len, ok.nd, ok.apart, fun l a m e1 e2 => (ok.cell l a m e1 e2).mono (Le.refl _) fun u e => by
    rw [upd_ne (fun z => h2 (by rw [← z]; exact List.mem_of_getElem? e1))]
    exact e⟩
theorem Go.other {W W' : Wd} {H H' : Hp} {p : Addr} {o : HO} (g : Go W H W' H') (h : H p = none) : Go W H W' (upd H' p o) :=
  ⟨g.le, fun a u e n => by rw [upd_ne (ne_of_none e h)]; exact g.kept a u e n, fun a e => by
    by_cases z : a = p
    · rw [z]; exact h
    · rw [upd_ne z] at e
      exact g.grow a e, g.newio, g.newS⟩
theorem Go.out {W W' : Wd} {H H' : Hp} {p : Addr} {o : HO} (g : Go W H W' H') (h : H p = some o) (h1 : W.S p = none) (h2 : p ∉ W.io) : H' p = some o ∧ W'.S p = none ∧ p ∉ W'.io := by
  refine ⟨g.kept p o h h2, ?_, fun z => ?_⟩
  · cases e : W'.S p with
    | none => rfl
    | some u =>
      rcases g.newS p u e with z | z | z
      · rw [h1] at z; cases z
      · rw [h] at z; cases z
      · exact absurd z h2
  · rcases g.newio p z with z | z
    · exact h2 z
    · rw [h] at z; cases z
section
variable {X : Cx} {E : XK} {pos : Pos}
theorem tLc_of {fi : FA} {vs : List Nat} {t : Tg} {ft : FT} {fe : FE} (hsub : ∀ i ∈ t.slots, i ∈ vs) : ∀ σ H Q, rE X.K E (dlc fi vs t ft fe) σ H Q → tLc (rI X.K E fi) (rG X.K t) (rT X.K E0 ft) (rE X.K E0 fe) vs σ H Q := fun σ H Q ⟨W, ρ, μ, ok, en, p⟩ => by
  refine ⟨W, ρ, μ, ok, en, ?_⟩
  unfold dlc at p
  revert p
  cases fi ρ μ with
  | ex c fs μ1 => exact fun p => p
  | bad => exact fun p => p
  | ok xs μ1 =>
    rw [R.bind_ok]
    intro p W1 J H1 g1 o1 wk Dn hD
    have hz := wk.len
    have en1 := (en.mono g1.le).wipe vs
    refine ⟨fun i m H2 => m = xs.length - i ∧ i ≤ xs.length ∧ ∃ W2 μ2 acc ds, Go W1 H1 W2 H2 ∧ Ok X.K W2 H2 μ2 ∧ H2 Dn = some (.lst acc) ∧ Dn ∉ W2.io ∧ W2.S Dn = none ∧ Reps X.K W2 acc ds ∧ acc.length ≤ i ∧ postE X.K E W1 H1 ((lcD t ft fe (wipeD ρ vs) (xs.drop i) μ2).bind fun ys μ3 => .ok (.lst (ds ++ ys)) μ3) Q,
      ⟨xs.length, by simp, Nat.zero_le _, W1, μ1, [], [], (Go.refl _ _).other hD, o1.other (o1.snone hD) (o1.notio hD), upd_same, o1.notio hD, o1.snone hD, .nil, Nat.le_refl _, ?_⟩, ?_⟩
    · exact post.mono g1 p
    rintro i m H2 ⟨rfl, hi, W2, μ2, acc, ds, g2, o2, hacc, n2, s2, r2, l2, p2⟩
    have sm : Same W1.S H2 := g2.le.s.trans o2.sub
    by_cases hlt : i < xs.length
    · rw [List.drop_eq_getElem_cons hlt] at p2
      unfold lcD at p2
      refine .inr ⟨wk.go H2 i sm hlt, fun H3 => ∃ W3 μ3 acc ds, Go W1 H1 W3 H3 ∧ Ok X.K W3 H3 μ3 ∧ H3 Dn = some (.lst acc) ∧ Dn ∉ W3.io ∧ W3.S Dn = none ∧ Reps X.K W3 acc ds ∧ acc.length ≤ i + 1 ∧ postE X.K E W1 H1 ((lcD t ft fe (wipeD ρ vs) (xs.drop (i + 1)) μ3).bind fun ys μ3 => .ok (.lst (ds ++ ys)) μ3) Q,
        fun H3 ⟨W3, μ3, acc, ds, q⟩ => ⟨xs.length - (i + 1), by omega, rfl, hlt, W3, μ3, acc, ds, q⟩, fun x H3 y => ?_⟩
      obtain ⟨W3, g3, o3, r3⟩ := wk.yld H2 i x H3 sm y xs[i] (List.getElem?_eq_getElem hlt) W2 μ2 g2.le o2
      obtain ⟨a3, s3, n3⟩ := g3.out hacc s2 n2
      revert p2
      cases e : asg t xs[i] (wipeD ρ vs) with
      | none => exact fun p => p.elim
      | some ρ3 =>
        dsimp only
        intro p2
        refine ⟨W3, wipeD ρ vs, ρ3, xs[i], μ2, o3, en1.mono (g2.le.trans g3.le), r3, e, fun σ4 en4 b4 => ⟨wipe_but hsub b4, ?_⟩⟩
        refine ⟨W3, ρ3, μ2, o3, en4, ?_⟩
        revert p2
        cases ft ρ3 μ2 with
        | ex c fs μ4 => exact fun p => p.elim
        | bad => exact fun p => p.elim
        | ok b μ4 =>
          rw [R.nox_ok, R.bind_ok]
          intro p2 W4 H4 g4 o4
          obtain ⟨a4, s4, n4⟩ := g4.out a3 s3 n3
          cases b with
          | false =>
            rw [if_neg Bool.false_ne_true] at p2 ⊢
            exact ⟨W4, μ4, acc, ds, (g2.trans g3).trans g4, o4, a4, n4, s4, r2.mono (g3.le.trans g4.le), by omega, p2⟩
          | true =>
            rw [if_pos rfl] at p2 ⊢
            refine ⟨W4, ρ3, μ4, o4, en4.mono g4.le, ?_⟩
            revert p2
            cases fe ρ3 μ4 with
            | ex c fs μ5 => exact fun p => p.elim
            | bad => exact fun p => p.elim
            | ok yd μ5 =>
              rw [R.nox_ok, R.bind_ok]
              intro p2 W5 yv H5 g5 o5 r5
              obtain ⟨a5, s5, n5⟩ := g5.out a4 s4 n4
              refine ⟨acc, a5, by omega, W5, μ5, acc ++ [yv], ds ++ [yd], (((g2.trans g3).trans g4).trans g5).other hD, o5.other s5 n5, upd_same, n5, s5, (r2.mono ((g3.le.trans g4.le).trans g5.le)).app (.cons r5 .nil), by simp; omega, ?_⟩
              revert p2
              cases lcD t ft fe (wipeD ρ vs) (xs.drop (i + 1)) μ5 with
              | ex c fs μ6 => exact fun p => p
              | bad => exact fun p => p
              | ok ys μ6 =>
                rw [R.bind_ok, R.bind_ok, R.bind_ok, List.append_assoc]
                exact fun p => p
    · have ei : i = xs.length := by omega
      subst ei
      rw [List.drop_length] at p2
      unfold lcD at p2
      rw [R.bind_ok, List.append_nil] at p2
      refine .inl ⟨wk.stop H2 _ sm (Nat.le_refl _), ?_⟩
      have lD : Le W2 (W2.new Dn (.lst acc)) := ⟨same_new s2, List.prefix_refl _⟩
      refine p2 (W2.new Dn (.lst acc)) (.ref Dn) H2 ⟨g2.le.trans lD, g2.kept, g2.grow, g2.newio, fun a u e => ?_⟩ ?_ ?_
      · by_cases z : a = Dn
        · rw [z]; exact .inr (.inl hD)
        · exact g2.newS a u (by rw [← e]; exact (upd_ne z).symm)
      · refine ⟨fun a u e => ?_, o2.len, o2.nd, fun l a m e1 e2 n => ?_, fun l a m e1 e2 => (o2.cell l a m e1 e2).mono lD fun u e => e⟩
        · by_cases z : a = Dn
          · have e : upd W2.S Dn (.lst acc) a = some u := e
            rw [z, upd_same] at e
            rw [z, hacc, e]
          · have e : upd W2.S Dn (.lst acc) a = some u := e
            rw [upd_ne z] at e
            exact o2.sub a u e
        · show upd W2.S Dn (.lst acc) a = none
          have z : a ≠ Dn := fun z => n2 (by rw [← z]; exact List.mem_of_getElem? e1)
          rw [upd_ne z]
          exact o2.apart l a m e1 e2 n
      · refine .lst ?_ (.inl (.inl (show upd W2.S Dn (.lst acc) Dn = _ from upd_same))) (r2.mono lD)
        rw [← r2.length]
        omega
theorem de_lc {elt tg iter : Expr} {ifs : List Expr} {scope : Scope} {fi : FA} {t : Tg} {ft : FT} {fe : FE} (own : List (Str × Nat)) (hc : X.calm = true) (hN : X.N.Nodup) (hi : DI X E tg iter fi) (ok : BlkOk X.N X.env.scope scope own)
    (hg : ∀ (s : Shared) (H : Hp) (C : Addr) (cl : List (Str × Addr)) (fp : List Addr), DG (X.blk s H scope (compEnvC scope cl C X.env) fp) tg t) (ht : ∀ (s : Shared) (H : Hp) (C : Addr) (cl : List (Str × Addr)) (fp : List Addr), DTs (X.blk s H scope (compEnvC scope cl C X.env) fp) ifs ft)
    (he : ∀ (s : Shared) (H : Hp) (C : Addr) (cl : List (Str × Addr)) (fp : List Addr), DE (X.blk s H scope (compEnvC scope cl C X.env) fp) E0 elt fe) (hsub : ∀ i ∈ t.slots, i ∈ own.map (·.2) := by decide) (hs : ∀ x, foldedSetIterable iter X.env x = pure x := by intro _; rfl) :
    DE X E (.ListComp elt [⟨tg, iter, ifs, 0⟩] scope pos) (dlc fi (own.map (·.2)) t ft fe) := pe_imp (pe_lc (te := rE X.K E0 fe) (g := rG X.K t) (tt := rT X.K E0 ft) hc hN hi ok hg ht he hs) (tLc_of hsub)
theorem ds_setLc (i : Nat) {y : Str} {py spos : Pos} {elt tg iter : Expr} {ifs : List Expr} {scope : Scope} {fi : FA} {t : Tg} {ft : FT} {fe : FE} (own : List (Str × Nat)) (hc : X.calm = true) (hN : X.N.Nodup) (hi : DI X E tg iter fi) (ok : BlkOk X.N X.env.scope scope own)
    (hg : ∀ (s : Shared) (H : Hp) (C : Addr) (cl : List (Str × Addr)) (fp : List Addr), DG (X.blk s H scope (compEnvC scope cl C X.env) fp) tg t) (ht : ∀ (s : Shared) (H : Hp) (C : Addr) (cl : List (Str × Addr)) (fp : List Addr), DTs (X.blk s H scope (compEnvC scope cl C X.env) fp) ifs ft)
    (he : ∀ (s : Shared) (H : Hp) (C : Addr) (cl : List (Str × Addr)) (fp : List Addr), DE (X.blk s H scope (compEnvC scope cl C X.env) fp) E0 elt fe) (hsub : ∀ i ∈ t.slots, i ∈ own.map (·.2) := by decide) (hy : X.N[i]? = some y := by rfl) (hyl : X.env.scope.names.lookup y = some .local := by rfl)
    (hsw : swapsWith (.ListComp elt [⟨tg, iter, ifs, 0⟩] scope pos) (some (.Name y py)) spos.line X.env = pure true := by exact sw_true rfl rfl rfl (by decide +kernel)) (hs : ∀ x, foldedSetIterable iter X.env x = pure x := by intro _; rfl) :
    DS X E (.Assign [.Name y py] (.ListComp elt [⟨tg, iter, ifs, 0⟩] scope pos) spos) (gasg (.nm i) (dlc fi (own.map (·.2)) t ft fe)) := by
  refine ps_imp (ps_setLc (te := rE X.K E0 fe) (g := rG X.K t) (tt := rT X.K E0 ft) hc hN hy hyl hsw hi ok hg ht he hs) fun Z σ H ⟨W, ρ, μ, ok, en, p⟩ => ?_
  refine tLc_of (X := X) (E := E) hsub σ H _ (seqS p ok en fun d μ1 W1 v H1 g1 o1 en1 r p1 => ?_)
  rw [asg_nm] at p1
  exact p1 W1 _ H1 (Go.refl _ _) o1 (en1.set r i)
end

/-! ### what is walked -/
section
variable {K : PySem.W.Frag} {W : Wd} {a : Addr} {vs : List V} {ds : List D}
theorem walk_list (z : ds.length ≤ sizeLine) (h : SqL K W.S a vs) (r : Reps K W vs ds) : Walk K W (Itl K a) ds := by
  have hl := r.length
  refine ⟨z, fun H i s hi => ?_, fun H i s hi => ⟨vs, same_l s h, by omega⟩, fun H i x H' s y d e W1 μ l1 ok => ?_⟩
  · obtain ⟨v, e, _⟩ := r.get (List.getElem?_eq_getElem hi)
    exact ⟨vs, v, same_l s h, e⟩
  · obtain ⟨rfl, q⟩ := y
    obtain ⟨v, e1, r1⟩ := r.get e
    have e2 := q vs (same_l s h)
    rw [e1] at e2
    cases e2
    exact ⟨W1, Go.refl _ _, ok, r1.mono l1⟩
theorem walk_tup (z : ds.length ≤ sizeLine) (h : SqT K W.S a vs) (r : Reps K W vs ds) : Walk K W (Itt K a) ds := by
  have hl := r.length
  refine ⟨z, fun H i s hi => ?_, fun H i s hi => ⟨vs, same_t s h, by omega⟩, fun H i x H' s y d e W1 μ l1 ok => ?_⟩
  · obtain ⟨v, e, _⟩ := r.get (List.getElem?_eq_getElem hi)
    exact ⟨vs, v, same_t s h, e⟩
  · obtain ⟨rfl, q⟩ := y
    obtain ⟨v, e1, r1⟩ := r.get e
    have e2 := q vs (same_t s h)
    rw [e1] at e2
    cases e2
    exact ⟨W1, Go.refl _ _, ok, r1.mono l1⟩
/-- the signs of a text -/
def signs (x : Str) : List D := x.cps.toList.map fun c => .str ⟨#[c]⟩
theorem walk_str (x : Str) (z : x.length ≤ sizeLine) : Walk K W (Its x) (signs x) := by
  have hz : (signs x).length = x.cps.size := by simp [signs]
  refine ⟨by rw [hz]; exact z, fun H i s hi => by rw [hz] at hi; exact hi, fun H i s hi => by rw [hz] at hi; exact hi, fun H i v H' s y d e W1 μ l1 ok => ?_⟩
  obtain ⟨rfl, c, hc, rfl⟩ := y
  have e2 : (signs x)[i]? = some (.str ⟨#[c]⟩) := by
    unfold signs
    rw [List.getElem?_map, Array.getElem?_toList, hc]
    rfl
  rw [e2] at e
  cases e
  exact ⟨W1, Go.refl _ _, ok, .str _ (by show 1 ≤ sizeLine; decide)⟩
/-- numbers from lo on -/
def upto (lo : Int) : Nat → List D
  | 0 => []
  | n + 1 => .int lo :: upto (lo + 1) n
theorem upto_len : ∀ (lo : Int) (n : Nat), (upto lo n).length = n
  | _, 0 => rfl
  | lo, n + 1 => by rw [upto, List.length_cons, upto_len]
theorem upto_get : ∀ (lo : Int) (n i : Nat), i < n → (upto lo n)[i]? = some (.int (lo + i))
  | _, 0, _, h => by omega
  | lo, n + 1, 0, _ => by simp [upto]
  | lo, n + 1, i + 1, h => by
    rw [upto, List.getElem?_cons_succ, upto_get (lo + 1) n i (by omega)]
    congr 2
    omega
theorem walk_range (lo : Int) (n : Nat) (z : n ≤ sizeLine) : Walk K W (Itr lo n) (upto lo n) := by
  refine ⟨by rw [upto_len]; exact z, fun H i s hi => by rw [upto_len] at hi; exact hi, fun H i s hi => by rw [upto_len] at hi; exact hi, fun H i v H' s y d e W1 μ l1 ok => ?_⟩
  obtain ⟨rfl, rfl⟩ := y
  have hi : i < n := by
    have := (List.getElem?_eq_some_iff.mp e).1
    rw [upto_len] at this
    exact this
  rw [upto_get lo n i hi] at e
  cases e
  exact ⟨W1, Go.refl _ _, ok, .int _⟩
/-- numbered -/
def enumD (k : Int) : List D → List D
  | [] => []
  | x :: xs => .tup [.int k, x] :: enumD (k + 1) xs
theorem enumD_len : ∀ (k : Int) (xs : List D), (enumD k xs).length = xs.length
  | _, [] => rfl
  | k, x :: xs => by rw [enumD, List.length_cons, List.length_cons, enumD_len]
theorem enumD_get : ∀ (k : Int) (xs : List D) (i : Nat) (x : D), xs[i]? = some x → (enumD k xs)[i]? = some (.tup [.int (k + i), x])
  | _, [], _, _, h => by simp at h
  | k, y :: ys, 0, x, h => by
    simp at h
    subst h
    simp [enumD]
  | k, y :: ys, i + 1, x, h => by
    rw [enumD, List.getElem?_cons_succ, enumD_get (k + 1) ys i x (by simpa using h)]
    congr 4
    omega
theorem walk_enum (z : ds.length ≤ sizeLine) (h : SqL K W.S a vs) (r : Reps K W vs ds) : Walk K W (Ite K a) (enumD 0 ds) := by
  have hl := r.length
  refine ⟨by rw [enumD_len]; exact z, fun H i s hi => ?_, fun H i s hi => ⟨vs, same_l s h, by rw [enumD_len] at hi; omega⟩, fun H i x H' s y d e W1 μ l1 ok => ?_⟩
  · rw [enumD_len] at hi
    obtain ⟨v, e, _⟩ := r.get (List.getElem?_eq_getElem hi)
    exact ⟨vs, v, same_l s h, e⟩
  · obtain ⟨T, xv, rfl, hT, rfl, q⟩ := y
    have e2 := q vs (same_l s h)
    obtain ⟨xd, e3, r3⟩ := r.getV e2
    rw [enumD_get 0 ds i xd e3] at e
    cases e
    refine ⟨W1.new T (.tup [.int i, xv]), Go.new ok hT, ok.new hT, rep_tup ok hT (by show 2 ≤ sizeLine; decide) (.cons ?_ (.cons (r3.mono l1) .nil))⟩
    have : (0 : Int) + i = i := by omega
    rw [this]
    exact .int _
end
/-- the items of what is walked -/
def itemsD : D → Option (List D)
  | .lst xs => some xs
  | .tup xs => some xs
  | .str x => some (signs x)
  | _ => none
def itA (f : FE) : FA := fun ρ μ => (f ρ μ).bind fun d μ1 => R.of (itemsD d) μ1
def itR1 (f : FA) : FA := fun ρ μ => (f ρ μ).bind fun ds μ1 => match ds with
  | [.int n] => if n ≤ 1000000 ∧ -1000000 ≤ n then .ok (upto 0 n.toNat) μ1 else .bad
  | _ => .bad
def itR2 (f : FA) : FA := fun ρ μ => (f ρ μ).bind fun ds μ1 => match ds with
  | [.int m, .int n] => if n ≤ 1000000 ∧ -1000000 ≤ m ∧ m ≤ 1000000 ∧ -1000000 ≤ n then .ok (upto m (n - m).toNat) μ1 else .bad
  | _ => .bad
def itE (f : FA) : FA := fun ρ μ => (f ρ μ).bind fun ds μ1 => match ds with
  | [.lst xs] => .ok (enumD 0 xs) μ1
  | _ => .bad
theorem pi_or {X : Cx} {tg e : Expr} {t u : TI} (h : PI X tg e t) (h' : PI X tg e u) : PI X tg e (fun σ H Q => t σ H Q ∨ u σ H Q) := ⟨fun pins s σ H Q I q => by
  rcases q with q | q
  · exact h.run pins s σ H Q I q
  · exact h'.run pins s σ H Q I q⟩
section
variable {X : Cx} {E : XK} {tg e : Expr} {f : FE} {pos p : Pos}
theorem di_any (h : DE X E e f) : DI X E tg e (itA f) := by
  refine pi_imp (pi_or (pi_list h) (pi_or (pi_tup h) (pi_str h))) fun σ H Q ⟨W, ρ, μ, ok, en, p⟩ => ?_
  unfold itA at p
  revert p
  cases hf : f ρ μ with
  | ex c fs μ1 =>
    intro p
    refine .inl ⟨W, ρ, μ, ok, en, ?_⟩
    rw [hf]
    exact p
  | bad => exact fun p => p.elim
  | ok d μ1 =>
    rw [R.bind_ok]
    cases d with
    | lst xs =>
      intro p
      refine .inl ⟨W, ρ, μ, ok, en, ?_⟩
      rw [hf]
      intro W1 v H1 g1 o1 r
      cases r with
      | lst z h r => exact ⟨_, rfl, ⟨_, (same_lq o1.sub h).sq⟩, p W1 _ H1 g1 o1 (walk_list z h.sq r)⟩
    | tup xs =>
      intro p
      refine .inr (.inl ⟨W, ρ, μ, ok, en, ?_⟩)
      rw [hf]
      intro W1 v H1 g1 o1 r
      cases r with
      | tup z h r => exact ⟨_, rfl, ⟨_, same_t o1.sub h⟩, p W1 _ H1 g1 o1 (walk_tup z h r)⟩
    | str x =>
      intro p
      refine .inr (.inr ⟨W, ρ, μ, ok, en, ?_⟩)
      rw [hf]
      intro W1 v H1 g1 o1 r
      cases r with
      | str _ z => exact ⟨_, rfl, p W1 _ H1 g1 o1 (walk_str x z)⟩
    | _ => exact fun p => p.elim
theorem di_range1 {fa : FA} (hm : X.mg "range" = none) (ha : DA X E [e] fa) (hg : Gl X "range" := by rfl) (hs : starEach [e] X.env = [(false, eval e X.env)] := by rfl) : DI X E tg (.Call (.Name "range" p) [e] [] pos) (itR1 fa) := by
  refine pi_imp (pi_range1 hg hm ha hs) fun σ H Q ⟨W, ρ, μ, ok, en, p⟩ => ?_
  refine ⟨W, ρ, μ, ok, en, ?_⟩
  unfold itR1 at p
  revert p
  cases fa ρ μ with
  | ex c fs μ1 => exact fun p => p
  | bad => exact fun p => p.elim
  | ok ds μ1 =>
    rw [R.bind_ok]
    intro p W1 vs H1 g1 o1 r
    match ds, r, p with
    | [.int n], .cons r .nil, p =>
      cases r
      dsimp only at p
      by_cases hn : n ≤ 1000000 ∧ -1000000 ≤ n
      · rw [if_pos hn] at p
        exact ⟨n, rfl, by omega, by omega, p W1 _ H1 g1 o1 (walk_range 0 n.toNat (by show n.toNat ≤ 16777216; omega))⟩
      · rw [if_neg hn] at p
        exact p.elim
theorem di_range2 {e2 : Expr} {fa : FA} (hm : X.mg "range" = none) (ha : DA X E [e, e2] fa) (hg : Gl X "range" := by rfl) (hs : starEach [e, e2] X.env = [(false, eval e X.env), (false, eval e2 X.env)] := by rfl) (hs2 : starEach [e2] X.env = [(false, eval e2 X.env)] := by rfl) : DI X E tg (.Call (.Name "range" p) [e, e2] [] pos) (itR2 fa) := by
  refine pi_imp (pi_range2 hg hm ha hs hs2) fun σ H Q ⟨W, ρ, μ, ok, en, p⟩ => ?_
  refine ⟨W, ρ, μ, ok, en, ?_⟩
  unfold itR2 at p
  revert p
  cases fa ρ μ with
  | ex c fs μ1 => exact fun p => p
  | bad => exact fun p => p.elim
  | ok ds μ1 =>
    rw [R.bind_ok]
    intro p W1 vs H1 g1 o1 r
    match ds, r, p with
    | [.int m, .int n], .cons r (.cons r' .nil), p =>
      cases r
      cases r'
      dsimp only at p
      by_cases hn : n ≤ 1000000 ∧ -1000000 ≤ m ∧ m ≤ 1000000 ∧ -1000000 ≤ n
      · rw [if_pos hn] at p
        exact ⟨m, n, rfl, ⟨by omega, by omega, by omega, by omega⟩, p W1 _ H1 g1 o1 (walk_range m (n - m).toNat (by show (n - m).toNat ≤ 16777216; omega))⟩
      · rw [if_neg hn] at p
        exact p.elim
theorem di_enum {fa : FA} {tpos : Pos} {elts : List Expr} {kk : Nat} (hm : X.mg "enumerate" = none) (ha : DA X E [e] fa) (hg : Gl X "enumerate" := by rfl) (hs : starEach [e] X.env = [(false, eval e X.env)] := by rfl) : DI X E (.Tuple elts kk tpos) (.Call (.Name "enumerate" p) [e] [] pos) (itE fa) := by
  refine pi_imp (pi_enum hg hm ha hs) fun σ H Q ⟨W, ρ, μ, ok, en, p⟩ => ?_
  refine ⟨W, ρ, μ, ok, en, ?_⟩
  unfold itE at p
  revert p
  cases fa ρ μ with
  | ex c fs μ1 => exact fun p => p
  | bad => exact fun p => p.elim
  | ok ds μ1 =>
    rw [R.bind_ok]
    intro p W1 vs H1 g1 o1 r
    match ds, r, p with
    | [.lst xs], .cons r .nil, p =>
      cases r with
      | lst z h r => exact ⟨_, _, rfl, (same_lq o1.sub h).sq, p W1 _ H1 g1 o1 (walk_enum z h.sq r)⟩
end

/-! ### displays -/
def dtup (f : FA) : FE := fun ρ μ => (f ρ μ).bind fun ds μ1 => if ds.length ≤ 1000000 then .ok (.tup ds) μ1 else .bad
def dlst (f : FA) : FE := fun ρ μ => (f ρ μ).bind fun ds μ1 => if ds.length ≤ 1000000 then .ok (.lst ds) μ1 else .bad
/-- a list that is changed later: a cell -/
def dcel (f : FA) : FE := fun ρ μ => (f ρ μ).bind fun ds μ1 => if ds.length ≤ 1000000 then .ok (.hdl μ1.length) (μ1 ++ [.lst ds]) else .bad
/-- a cell's list that never changes any more -/
def dfrz (f : FE) : FE := fun ρ μ => (f ρ μ).bind fun d μ1 => match d with
  | .hdl l => match μ1[l]? with
    | some (.lst xs) => if xs.length ≤ 1000000 then .ok (.lst xs) (μ1.set l .gone) else .bad
    | _ => .bad
  | _ => .bad
section
variable {X : Cx} {E : XK} {e : Expr} {es : List Expr} {f : FE} {fa : FA} {pos : Pos}
theorem le_line {n : Nat} (h : n ≤ 1000000) : n ≤ sizeLine := Nat.le_trans h (by decide)
theorem de_tup {x1 : Nat} (h : DA X E es fa) : DE X E (.Tuple es x1 pos) (dtup fa) := pe_imp (pe_tup h) fun σ H Q ⟨W, ρ, μ, ok, en, p⟩ => by
  refine seqA p ok en fun ds μ1 W1 xs H1 g1 o1 en1 r p1 => ?_
  by_cases hn : ds.length ≤ 1000000
  · rw [if_pos hn] at p1
    exact ⟨by rw [r.length]; exact le_line hn, fun q hq => p1 _ _ _ (Go.new o1 hq) (o1.new hq) (rep_tup o1 hq (le_line hn) r)⟩
  · rw [if_neg hn] at p1
    exact p1.elim
theorem de_lst (h : DA X E es fa) : DE X E (.List es pos) (dlst fa) := pe_imp (pe_lst h) fun σ H Q ⟨W, ρ, μ, ok, en, p⟩ => by
  refine seqA p ok en fun ds μ1 W1 xs H1 g1 o1 en1 r p1 => ?_
  by_cases hn : ds.length ≤ 1000000
  · rw [if_pos hn] at p1
    exact ⟨by rw [r.length]; exact le_line hn, fun q hq => p1 _ _ _ (Go.new o1 hq) (o1.new hq) (rep_lst o1 hq (le_line hn) r)⟩
  · rw [if_neg hn] at p1
    exact p1.elim
theorem de_cel (h : DA X E es fa) : DE X E (.List es pos) (dcel fa) := pe_imp (pe_lst h) fun σ H Q ⟨W, ρ, μ, ok, en, p⟩ => by
  refine seqA p ok en fun ds μ1 W1 xs H1 g1 o1 en1 r p1 => ?_
  by_cases hn : ds.length ≤ 1000000
  · rw [if_pos hn] at p1
    refine ⟨by rw [r.length]; exact le_line hn, fun q hq => p1 (W1.cell q) _ _ (Go.cell o1 hq) (o1.newcell hq ⟨xs, rfl, r⟩) (.hdl ?_)⟩
    show (W1.io ++ [q])[μ1.length]? = some q
    rw [← o1.len]
    simp
  · rw [if_neg hn] at p1
    exact p1.elim
theorem de_frz (h : DE X E e f) : DE X E e (dfrz f) := pe_imp h fun σ H Q ⟨W, ρ, μ, ok, en, p⟩ => by
  refine seq p ok en fun d μ1 W1 v H1 g1 o1 en1 r p1 => ?_
  cases d with
  | hdl l =>
    cases r with
    | @hdl a _ ha =>
      revert p1
      dsimp only
      cases hm : μ1[l]? with
      | none => exact fun p => p.elim
      | some m =>
        cases m with
        | lst xs =>
          by_cases hn : xs.length ≤ 1000000
          · dsimp only
            rw [if_pos hn]
            intro p1
            obtain ⟨o, ho, vs, rfl, rs⟩ := o1.cell l a _ ha hm
            obtain ⟨ok2, g2⟩ := o1.freeze ha hm (fun z => nomatch z) ho
            exact p1 _ _ _ g2 ok2 (.lst (le_line hn) (.inl (.inl (show upd W1.S a (.lst vs) a = _ from upd_same))) (rs.mono g2.le))
          · dsimp only
            rw [if_neg hn]
            exact fun p => p.elim
        | _ => exact fun p => p.elim
  | _ => exact p1.elim
end
end DL
/-! DL3: defs and their calls. -/
namespace DL
open PySem L2

/-! ### no handle from n on -/
mutual
def D.closed (n : Nat) : D → Bool
  | .hdl l => decide (l < n)
  | .tup xs => D.closedL n xs
  | .lst xs => D.closedL n xs
  | .obj _ fs => D.closedF n fs
  | _ => true
def D.closedL (n : Nat) : List D → Bool
  | [] => true
  | x :: xs => x.closed n && D.closedL n xs
def D.closedF (n : Nat) : List (Str × D) → Bool
  | [] => true
  | (_, x) :: xs => x.closed n && D.closedF n xs
end
theorem closedF_zip {n : Nat} : ∀ {ns : List Str} {ds : List D}, D.closedF n (ns.zip ds) = true → ns.length = ds.length → D.closedL n ds = true
  | [], [], _, _ => by simp [D.closedL]
  | [], _ :: _, _, e => by cases e
  | _ :: _, [], _, e => by cases e
  | m :: ns, d :: ds, h, e => by
    simp [D.closedF, D.closedL] at h ⊢
    exact ⟨h.1, closedF_zip h.2 (by simpa using e)⟩
def MO.closed (n : Nat) : MO → Bool
  | .lst xs => D.closedL n xs
  | .dct _ xs => D.closedL n xs
  | .dtt _ xs => D.closedL n xs
  | .ins _ _ xs => D.closedL n xs
  | .gone => true
theorem take_get {l : List Addr} {n i : Nat} {a : Addr} (h : l[i]? = some a) (hi : i < n) : (l.take n)[i]? = some a := by
  rw [List.getElem?_take_of_lt hi]
  exact h
mutual
theorem Rep.cut {K : PySem.W.Frag} {W : Wd} {n : Nat} : ∀ {v : V} {d : D}, d.closed n = true → Rep K W v d → Rep K ⟨W.S, W.io.take n⟩ v d
  | _, _, _, .non => .non
  | _, _, _, .bl b => .bl b
  | _, _, _, .int i => .int i
  | _, _, _, .str x z => .str x z
  | _, _, c, .tup z h r => .tup z h (Reps.cut (by simpa [D.closed] using c) r)
  | _, _, c, .lst z h r => .lst z h (Reps.cut (by simpa [D.closed] using c) r)
  | _, _, c, .hdl h => .hdl (take_get h (by simpa [D.closed] using c))
  | _, _, _, .cst v => .cst v
  | _, _, _, .glo c => .glo c
  | _, _, c, .obj h e r => .obj h e (Reps.cut (closedF_zip (by simpa [D.closed] using c) (e.trans r.length)) r)
theorem Reps.cut {K : PySem.W.Frag} {W : Wd} {n : Nat} : ∀ {vs : List V} {ds : List D}, D.closedL n ds = true → Reps K W vs ds → Reps K ⟨W.S, W.io.take n⟩ vs ds
  | _, _, _, .nil => .nil
  | _, _, c, .cons r t => by
    simp [D.closedL] at c
    exact .cons (Rep.cut c.1 r) (Reps.cut c.2 t)
end
theorem CellO.cut {K : PySem.W.Frag} {W : Wd} {n : Nat} : ∀ {m : MO} {o : HO}, m.closed n = true → CellO K W m o → CellO K ⟨W.S, W.io.take n⟩ m o
  | .lst ds, _, c, ⟨vs, e, r⟩ => ⟨vs, e, r.cut c⟩
  | .dct ks ds, _, c, ⟨vs, e, z, r⟩ => ⟨vs, e, z, r.cut c⟩
  | .dtt ks ds, _, c, ⟨vs, e, z, r⟩ => ⟨vs, e, z, r.cut c⟩
  | .ins C ns ds, _, c, ⟨dx, vs, e, z, r⟩ => ⟨dx, vs, e, z, r.cut c⟩
  | .gone, _, _, h => h
def closedMu (n : Nat) (μ : Mu) : Bool := (μ.take n).all (·.closed n)
/-- a def's answer: its own cells are forgotten where nothing points there -/
def trunc (n : Nat) (d : D) (μ : Mu) : R D := if (d.closed n && closedMu n μ) = true then .ok d (μ.take n) else .ok d μ
def truncX (n : Nat) (c : Nat) (fs : List (Str × D)) (μ : Mu) : R D := if (D.closedF n fs && closedMu n μ) = true then .ex c fs (μ.take n) else .ex c fs μ
theorem Ok.cut {K : PySem.W.Frag} {W : Wd} {H : Hp} {μ : Mu} {n : Nat} (ok : Ok K W H μ) (c : closedMu n μ = true) : Ok K ⟨W.S, W.io.take n⟩ H (μ.take n) := by
  have get : ∀ (l : Nat) a m, (W.io.take n)[l]? = some a → (μ.take n)[l]? = some m → l < n ∧ W.io[l]? = some a ∧ μ[l]? = some m := fun l a m e1 e2 => by
    have hl : l < n := by
      have := (List.getElem?_eq_some_iff.mp e1).1
      rw [List.length_take] at this
      omega
    rw [List.getElem?_take_of_lt hl] at e1 e2
    exact ⟨hl, e1, e2⟩
  refine ⟨ok.sub, by simp [ok.len], ok.nd.sublist (List.take_sublist _ _), fun l a m e1 e2 z => ?_, fun l a m e1 e2 => ?_⟩
  · obtain ⟨_, e1, e2⟩ := get l a m e1 e2
    exact ok.apart l a m e1 e2 z
  · have hm : m.closed n = true := by
      unfold closedMu at c
      exact List.all_eq_true.mp c m (List.mem_of_getElem? e2)
    obtain ⟨_, e1, e2⟩ := get l a m e1 e2
    obtain ⟨o, ho, r⟩ := ok.cell l a m e1 e2
    exact ⟨o, ho, r.cut hm⟩
theorem Go.cut {W W' : Wd} {H H' : Hp} (g : Go W H W' H') : Go W H ⟨W'.S, W'.io.take W.io.length⟩ H' := by
  have e : W'.io.take W.io.length = W.io := by
    obtain ⟨t, ht⟩ := g.le.io
    rw [← ht]
    simp
  refine ⟨⟨g.le.s, by rw [e]; exact List.prefix_refl _⟩, g.kept, g.grow, fun a h => ?_, g.newS⟩
  have h : a ∈ W'.io.take W.io.length := h
  rw [e] at h
  exact .inl h
theorem ExcIs.cut {K : PySem.W.Frag} {W : Wd} {H : Hp} {n : Nat} {fs : List (Str × D)} {d : Option Addr} (c : D.closedF n fs = true) (x : ExcIs K W H fs d) : ExcIs K ⟨W.S, W.io.take n⟩ H fs d := by
  rcases x with x | ⟨a, ns, vs, ds, h1, h2, h3, h4, h5, h6, h7⟩
  · exact .inl x
  · subst h3
    exact .inr ⟨a, ns, vs, ds, h1, h2, rfl, h4, h5.cut (closedF_zip c (h4.trans h5.length)), h6, fun z => h7 (List.mem_of_mem_take z)⟩

/-! ### a def's answer by its body -/
def startD (n : Nat) (ds : List D) : En := ds.map some ++ List.replicate (n - ds.length) none
def callF (n : Nat) (g : FS) (ds : List D) (μ : Mu) : R D := match g (startD n ds) μ with
  | .rt d μ1 => trunc μ.length d μ1
  | .nx _ μ1 => trunc μ.length .non μ1
  | .ex c fs μ1 => truncX μ.length c fs μ1
  | _ => .bad
theorem envs_start {K : PySem.W.Frag} {W : Wd} {N : List Str} {vs : List V} {ds : List D} (r : Reps K W vs ds) : Envs K W (start N vs) (startD N.length ds) := by
  have hl := r.length
  unfold L2.start startD
  refine ⟨by simp [hl], fun i d e => ?_⟩
  by_cases h : i < ds.length
  · rw [List.getElem?_append_left (by simpa using h), List.getElem?_map] at e
    cases q : ds[i]? with
    | none => rw [q] at e; cases e
    | some d' =>
      rw [q] at e
      cases e
      obtain ⟨v, e1, r1⟩ := r.get q
      refine ⟨v, ?_, r1⟩
      rw [List.getElem?_append_left (by rw [List.length_map, hl]; exact h), List.getElem?_map, e1]
      rfl
  · rw [List.getElem?_append_right (by simpa using h)] at e
    have := List.mem_of_getElem? e
    simp at this
/-- a def that keeps F, by at most level k, where no repr is under way -/
structure FnG (P : Program) (w : World) (K : PySem.W.Frag) (mg : Str → Option Value) (base : Heap) (k : Nat) (f : Addr) (fd : FuncData) (ps : List Str) (F : List D → Mu → R D) : Prop where
  run : ∀ (A : Around) (outer : List Env) (s : Shared) (H : Hp) (args : Args) (us : List Value) (vs : List V) (Q : VK) (E : XK) (W : Wd) (ds : List D) (μ : Mu), Room k A → A.guards = some [] → Env0 P w K mg base A outer s H →
    us.length = ps.length → BindsTo s fd args (ps.zip us) → Vals vs us → Ok K W H μ → Reps K W vs ds → postE K E W H (F ds μ) Q → codeAny (model P w) A (.call (.ref f) args) (CR (L2.CX P w) outer P w H s Q E) s
theorem FnG.mono {P : Program} {w : World} {K : PySem.W.Frag} {mg : Str → Option Value} {base : Heap} {j k : Nat} {f : Addr} {fd : FuncData} {ps : List Str} {F : List D → Mu → R D} (h : FnG P w K mg base j f fd ps F) (l : j ≤ k) : FnG P w K mg base k f fd ps F :=
  ⟨fun A outer s H args us vs Q E W ds μ hr => h.run A outer s H args us vs Q E W ds μ (hr.mono l)⟩
/-- .. another function that is the same where it is no bad one -/
theorem FnG.congr {P : Program} {w : World} {K : PySem.W.Frag} {mg : Str → Option Value} {base : Heap} {k : Nat} {f : Addr} {fd : FuncData} {ps : List Str} {F G : List D → Mu → R D} (h : FnG P w K mg base k f fd ps F) (e : ∀ ds μ, ds.length = ps.length → G ds μ ≠ .bad → F ds μ = G ds μ) : FnG P w K mg base k f fd ps G :=
  ⟨fun A outer s H args us vs Q E W ds μ hr hg e0 hl hb rv ok r p => h.run A outer s H args us vs Q E W ds μ hr hg e0 hl hb rv ok r (by
    have hd : ds.length = ps.length := by rw [← r.length, rv.length, hl]
    have hn : G ds μ ≠ .bad := fun z => by rw [z] at p; exact p
    rw [e ds μ hd hn]
    exact p)⟩
/-- where no argument has a handle the cells are nothing to it -/
def framed (F : List D → Mu → R D) (ds : List D) (μ : Mu) : R D := if D.closedL 0 ds = true then (match F ds [] with
    | .ok d μ1 => if d.closed 0 = true then .ok d μ else F ds μ
    | .ex c fs μ1 => if D.closedF 0 fs = true then .ex c fs μ else F ds μ
    | .bad => .bad) else F ds μ
theorem Ok.none {K : PySem.W.Frag} {W : Wd} {H : Hp} {μ : Mu} (ok : Ok K W H μ) : Ok K ⟨W.S, []⟩ H [] :=
  ⟨ok.sub, rfl, List.nodup_nil, fun l a o e => by simp at e, fun l a o e => by simp at e⟩
theorem Go.back {K : PySem.W.Frag} {W W' : Wd} {H H' : Hp} {μ μ1 : Mu} (ok : Ok K W H μ) (g : Go ⟨W.S, []⟩ H W' H') (o : Ok K W' H' μ1) : Go W H ⟨W'.S, W.io⟩ H' ∧ Ok K ⟨W'.S, W.io⟩ H' μ := by
  have le : Le W ⟨W'.S, W.io⟩ := ⟨g.le.s, List.prefix_refl _⟩
  have nw : ∀ a u, W'.S a = some u → W.S a = some u ∨ H a = .none := fun a u e => by
    rcases g.newS a u e with z | z | z
    · exact .inl z
    · exact .inr z
    · cases z
  refine ⟨⟨le, fun a u e _ => g.kept a u e (by simp), g.grow, fun a e => .inl e, fun a u e => ?_⟩, ⟨o.sub, ok.len, ok.nd, fun l a m e1 e2 n => ?_, fun l a m e1 e2 => (ok.cell l a m e1 e2).mono le fun u e => g.kept a u e (by simp)⟩⟩
  · rcases nw a u e with z | z
    · exact .inl z
    · exact .inr (.inl z)
  · show W'.S a = .none
    cases e : W'.S a with
    | none => rfl
    | some u =>
      rcases nw a u e with z | z
      · rw [ok.apart l a m e1 e2 n] at z
        cases z
      · obtain ⟨v, hv, _⟩ := ok.cell l a m e1 e2
        rw [z] at hv
        cases hv
theorem Le.io0 {S : Hp} {io : List Addr} : Le ⟨S, []⟩ ⟨S, io⟩ := ⟨Same.refl _, List.nil_prefix⟩
theorem FnG.framed {P : Program} {w : World} {K : PySem.W.Frag} {mg : Str → Option Value} {base : Heap} {k : Nat} {f : Addr} {fd : FuncData} {ps : List Str} {F : List D → Mu → R D} (h : FnG P w K mg base k f fd ps F) : FnG P w K mg base k f fd ps (DL.framed F) := by
  refine ⟨fun A outer s H args us vs Q E W ds μ hr hg e0 hl hb rv ok r p => ?_⟩
  have plain : postE K E W H (F ds μ) Q → codeAny (model P w) A (.call (.ref f) args) (CR (L2.CX P w) outer P w H s Q E) s := fun p => h.run A outer s H args us vs Q E W ds μ hr hg e0 hl hb rv ok r p
  unfold DL.framed at p
  by_cases c : D.closedL 0 ds = true
  · rw [if_pos c] at p
    have r0 : Reps K ⟨W.S, []⟩ vs ds := by
      have := r.cut c
      rwa [List.take_zero] at this
    cases hF : F ds [] with
    | ok d μ1 =>
      rw [hF] at p
      dsimp only at p
      by_cases cd : d.closed 0 = true
      · rw [if_pos cd] at p
        refine h.run A outer s H args us vs Q E ⟨W.S, []⟩ ds [] hr hg e0 hl hb rv ok.none r0 ?_
        rw [hF]
        intro W' v H' g o r'
        obtain ⟨g2, o2⟩ := Go.back ok g o
        refine p ⟨W'.S, W.io⟩ v H' g2 o2 ?_
        have r2 := r'.cut cd
        rw [List.take_zero] at r2
        exact r2.mono Le.io0
      · rw [if_neg cd] at p
        exact plain p
    | ex cc fs μ1 =>
      rw [hF] at p
      dsimp only at p
      by_cases cd : D.closedF 0 fs = true
      · rw [if_pos cd] at p
        refine h.run A outer s H args us vs Q E ⟨W.S, []⟩ ds [] hr hg e0 hl hb rv ok.none r0 ?_
        rw [hF]
        intro W' H' d g o x
        obtain ⟨g2, o2⟩ := Go.back ok g o
        refine p ⟨W'.S, W.io⟩ H' d g2 o2 ?_
        have x2 := x.cut cd
        rw [List.take_zero] at x2
        rcases x2 with z | ⟨a, ns, vs', ds', z1, z2, z3, z4, z5, z6, z7⟩
        · exact .inl z
        · refine .inr ⟨a, ns, vs', ds', z1, z2, z3, z4, z5.mono Le.io0, z6, fun hm => ?_⟩
          have hm : a ∈ W.io := hm
          obtain ⟨l, hl, el⟩ := List.mem_iff_getElem.mp hm
          have hμ : l < μ.length := by rw [← ok.len]; exact hl
          obtain ⟨u, hu, cu⟩ := ok.cell l a μ[l] (by rw [List.getElem?_eq_getElem hl, el]) (List.getElem?_eq_getElem hμ)
          have hk := g.kept a u hu (by simp)
          rw [z2] at hk
          cases hk
          exact cu.notxd _ rfl
      · rw [if_neg cd] at p
        exact plain p
    | bad =>
      rw [hF] at p
      exact p.elim
  · rw [if_neg c] at p
    exact plain p
/-- the calm context of a body -/
structure Cal (X : Cx) (E : XK) (k : Nat) : Prop where
  room : Room k X.A
  guards : X.A.guards = some []
  pass : Passes (L2.CX X.prog X.w) X E
theorem Cal.mono {X : Cx} {E : XK} {j k : Nat} (c : Cal X E k) (h : j ≤ k) : Cal X E j := ⟨c.room.mono h, c.guards, c.pass⟩
theorem Cal.blk {X : Cx} {E : XK} {k : Nat} (c : Cal X E k) (s : Shared) (H : Hp) (scope : Scope) (env : Env) (fp : List Addr) : Cal (X.blk s H scope env fp) E0 k := ⟨c.room, c.guards, passL⟩
theorem trunc_post {K : PySem.W.Frag} {E : XK} {W W' : Wd} {H H' : Hp} {μ μ1 : Mu} {d : D} {v : V} {Q : VK} (hl : W.io.length = μ.length) (p : postE K E W H (trunc μ.length d μ1) Q) (g : Go W H W' H') (o : Ok K W' H' μ1) (r : Rep K W' v d) : Q v H' := by
  unfold trunc at p
  by_cases c : (d.closed μ.length && closedMu μ.length μ1) = true
  · rw [if_pos c] at p
    simp only [Bool.and_eq_true] at c
    have g' := g.cut
    rw [hl] at g'
    exact p _ v H' g' (o.cut c.2) (r.cut c.1)
  · rw [if_neg c] at p
    exact p W' v H' g o r
theorem truncX_post {K : PySem.W.Frag} {E : XK} {W W' : Wd} {H H' : Hp} {μ μ1 : Mu} {c : Nat} {fs : List (Str × D)} {d : Option Addr} {Q : VK} (hl : W.io.length = μ.length) (p : postE K E W H (truncX μ.length c fs μ1) Q) (g : Go W H W' H') (o : Ok K W' H' μ1) (r : ExcIs K W' H' fs d) : E (.ref (cl K c)) d H' := by
  unfold truncX at p
  by_cases z : (D.closedF μ.length fs && closedMu μ.length μ1) = true
  · rw [if_pos z] at p
    simp only [Bool.and_eq_true] at z
    have g' := g.cut
    rw [hl] at g'
    exact p _ H' d g' (o.cut z.2) (r.cut z.1)
  · rw [if_neg z] at p
    exact p W' H' d g o r
section
variable {P : Program} {w : World} {K : PySem.W.Frag} {mg : Str → Option Value} {base : Heap}
theorem pass_body {N : List Str} {qual : Str} {scope : Scope} {f : Addr} {cd : Value} {A : Around} {outer : List Env} {s : Shared} {H : Hp} {E : XK} : Passes (L2.CX P w) (cxOf (L2.CX P w) P w K mg base N qual scope f cd A outer s H E) E :=
  fun pins σ H' s' e s2 I h => by
    have tk : Takes (cxOf (L2.CX P w) P w K mg base N qual scope f cd A outer s H E) (fun cls d _ H => E cls d H) := takes_of rfl rfl rfl rfl
    exact tk e s2 (XE.of_call I (fun cls d H' h => h) h)
/-- a def's body keeps its F -/
theorem fn_body {k : Nat} {f : Addr} {name qual : Str} {params : Arguments} {body : List Stmt} {scope : Scope} {dV kV doc pm cdv ct oc : Value} {an od : Option Addr} {osl : Array (Option Value)} {N ps : List Str} {g : FS}
    (lk : K.lookup f = some ⟨oc, od, .func (PySem.W.fnOf name qual params body scope dV kV doc pm an cdv ct), osl⟩) (hcd : PySem.W.codeIn K cdv qual = true) (sc : FnScope N ps scope)
    (hb : ∀ (A : Around) (outer : List Env) (s : Shared) (H : Hp) (E : XK), Cal (cxOf (L2.CX P w) P w K mg base N qual scope f cdv A outer s H E) E k → DSs (cxOf (L2.CX P w) P w K mg base N qual scope f cdv A outer s H E) E body g) :
    FnG P w K mg base (k + 1) f (PySem.W.fnOf name qual params body scope dV kV doc pm an cdv ct) ps (callF N.length g) := by
  refine ⟨fun A outer s H args us vs Q E W ds μ hr hg e0 hl hbd rv ok r p => ?_⟩
  have hvl : vs.length = ps.length := by rw [rv.length, hl]
  have kin : K.In s.heap := e0.mod.kin.keeps fun b o e => (e0.bs b o e).1
  have nl : s.heap.NoLimit := e0.mod.nolimit.keeps fun b o e => (e0.bs b o e).1
  have kinds : ∀ y ∈ ps.zip us, scope.names.lookup y.1 = some .local ∨ (scope.names.lookup y.1 = some .cell ∧ ((cellsFrom (s.heap.objs.size + 1) scope.names []).lookup y.1).isSome = true) := by
    rintro ⟨n, v⟩ hy
    rcases sc.par n (List.of_mem_zip hy).1 with q | q
    · exact .inl q
    · exact .inr ⟨q, PySem.W.cellsFrom_some _ _ _ (.inl q)⟩
  have X0 : Cal (cxOf (L2.CX P w) P w K mg base N qual scope f cdv A outer s H E) E k :=
    ⟨hr.deeper _, hg, pass_body⟩
  refine codeAny_call_function hr.depth (kin _ _ lk) rfl sc.co sc.gen rfl (PySem.W.codeRec_of kin hcd) (hbd _ _ _ _ ?_)
  refine wpAny_newFunctionEnv_cells sc.kind kinds fun env he s1 x => ?_
  subst he
  refine ⟨nl.keeps x.toInCall.keep, codeAny_func ?_⟩
  have I0 : Inv (cxOf (L2.CX P w) P w K mg base N qual scope f cdv A outer s H E) [] (start N vs) H s1 := inv_start sc hr.hd e0 hvl rv x
  have rd : rS K E g { nx := fun _ H' => Q .non H', rt := Q } (start N vs) H := by
    refine ⟨W, startD N.length ds, μ, ok, envs_start r, ?_⟩
    unfold callF at p
    revert p
    cases g (startD N.length ds) μ with
    | rt d μ1 => exact fun p W' v H' g o r => trunc_post ok.len p g o r
    | nx ρ1 μ1 => exact fun p W' σ' H' g o _ => trunc_post ok.len p g o .non
    | ex c fs μ1 => exact fun p W' H' d g o r => truncX_post ok.len p g o r
    | bk _ _ => exact fun p => p.elim
    | ct _ _ => exact fun p => p.elim
    | bad => exact fun p => p
  refine wpAny_mono ((hb A outer s H E X0).run [] s1 (start N vs) H _ I0 rd) (fun fl s2 hs => ?_) fun e s2 hs => hs
  have fin : ∀ {σ' : St} {H' : Hp} {v : V} {u : Value}, Inv (cxOf (L2.CX P w) P w K mg base N qual scope f cdv A outer s H E) [] σ' H' s2 → RelV v u → Q v H' → CE outer P w H s Q u s2 :=
    fun {σ' H' v u} J rr q => ⟨v, H', J.os, J.bare, J.base, J.hok, rr, q⟩
  cases fl with
  | ret u =>
    have ⟨v, σ', H', J, rr, q⟩ := hs
    exact fin J rr q
  | next =>
    have ⟨σ', H', J, q⟩ := hs
    exact fin (v := V.non) (u := Value.none) J rfl q
  | brk =>
    have ⟨_, _, _, q⟩ := hs
    exact absurd q id
  | cont =>
    have ⟨_, _, _, q⟩ := hs
    exact absurd q id
theorem Fun.g {x qual : Str} {st : Stmt} {f : Addr} {fd : FuncData} {N ps : List Str} {k : Nat} {g : FS} (F : Fun K x qual st f fd) (sc : FnScope N ps (defScope st))
    (hb : ∀ (cdv : Value) (A : Around) (outer : List Env) (s : Shared) (H : Hp) (E : XK), Cal (cxOf (L2.CX P w) P w K mg base N qual (defScope st) f cdv A outer s H E) E k → DSs (cxOf (L2.CX P w) P w K mg base N qual (defScope st) f cdv A outer s H E) E (defBody st) g) :
    FnG P w K mg base (k + 1) f fd ps (callF N.length g) := by
  obtain ⟨oc, od, kV, doc, pm, an, cdv, ct, osl, rfl, lk, hcd⟩ := F.ex
  exact fn_body lk hcd sc (hb cdv)
theorem FunD.g {x qual : Str} {params : Arguments} {body : List Stmt} {scope : Scope} {dvs : List V} {kws : List (Str × V)} {f : Addr} {fd : FuncData} {N ps : List Str} {k : Nat} {g : FS} (F : FunD K x qual params body scope dvs kws f fd) (sc : FnScope N ps scope)
    (hb : ∀ (cdv : Value) (A : Around) (outer : List Env) (s : Shared) (H : Hp) (E : XK), Cal (cxOf (L2.CX P w) P w K mg base N qual scope f cdv A outer s H E) E k → DSs (cxOf (L2.CX P w) P w K mg base N qual scope f cdv A outer s H E) E body g) :
    FnG P w K mg base (k + 1) f fd ps (callF N.length g) := by
  obtain ⟨oc, od, dV, kV, doc, pm, an, cdv, ct, osl, rfl, lk, hcd, _, _⟩ := F.ex
  exact fn_body lk hcd sc (hb cdv)
end

/-! ### calls -/
def HasLen (fa : FA) (n : Nat) : Prop := ∀ ρ μ ds μ1, fa ρ μ = .ok ds μ1 → ds.length = n
theorem aNil_len : HasLen aNil 0 := fun ρ μ ds μ1 h => by
  unfold aNil at h
  cases h
  rfl
theorem aCons_len {f : FE} {g : FA} {n : Nat} (h : HasLen g n) : HasLen (aCons f g) (n + 1) := fun ρ μ ds μ1 e => by
  unfold aCons at e
  cases hf : f ρ μ with
  | ok d μ2 =>
    rw [hf, R.bind_ok] at e
    cases hg : g ρ μ2 with
    | ok es μ3 =>
      rw [hg, R.bind_ok] at e
      cases e
      rw [List.length_cons, h _ _ _ _ hg]
    | ex c fs μ3 => rw [hg] at e; cases e
    | bad => rw [hg] at e; cases e
  | ex c fs μ2 => rw [hf] at e; cases e
  | bad => rw [hf] at e; cases e
def dcall (F : List D → Mu → R D) (dd : List D) (fa : FA) : FE := fun ρ μ => (fa ρ μ).bind fun ds μ1 => F (ds ++ dd) μ1
section
variable {X : Cx} {E : XK} {k : Nat} {f : Addr} {fd : FuncData} {ps : List Str} {F : List D → Mu → R D} {dvs : List V} {dd : List D} {d0 : List Value} {x : Str} {p pos : Pos} {e : Expr} {es : List Expr} {fa : FA}
theorem run_g {pins : List (Addr × Obj)} {σ : St} {H : Hp} {s : Shared} {Q : VK} {us : List Value} {vs : List V} {args : Args} {W : Wd} {ds : List D} {μ : Mu} (G : FnG X.prog X.w X.K X.mg X.base k f fd ps F) (c : Cal X E k)
    (I : Inv X pins σ H s) (hl : us.length = ps.length) (hb : BindsTo s fd args (ps.zip us)) (rv : Vals vs us) (ok : Ok X.K W H μ) (r : Reps X.K W vs ds) (q : postE X.K E W H (F ds μ) Q) :
    codeAny (model X.prog X.w) X.A (.call (.ref f) args) (callEnd (EP X pins σ Q) X.xe) s := by
  refine codeAny_mono (G.run X.A X.stack s H args us vs Q E W ds μ c.room c.guards I.env0 hl hb rv ok r q) fun z s2 hz => ?_
  match z, hz with
  | .error e, hz => exact c.pass pins σ H s e s2 I hz
  | .ok (.ret u), hz => exact I.after hz
/-- the defaults that fill up -/
structure Dfl (K : PySem.W.Frag) (fd : FuncData) (ps : List Str) (n : Nat) (dd : List D) : Prop where
  ex : ∃ (dvs : List V) (d0 : List Value), Vals dvs d0 ∧ (∀ W, Reps K W dvs dd) ∧ n + d0.length = ps.length ∧ Binds K fd ps d0
theorem dfl0 {K : PySem.W.Frag} {fd : FuncData} {ps : List Str} (b : Binds K fd ps []) : Dfl K fd ps ps.length [] := ⟨[], [], .nil, fun _ => .nil, rfl, b⟩
theorem callF_args {pins : List (Addr × Obj)} {σ : St} {H : Hp} {s : Shared} {Q : VK} {us : List Value} {vs : List V} {W : Wd} {ds : List D} {μ : Mu} {n : Nat} (G : FnG X.prog X.w X.K X.mg X.base k f fd ps F) (c : Cal X E k) (b : Dfl X.K fd ps n dd)
    (I : Inv X pins σ H s) (hn : us.length = n) (rv : Vals vs us) (ok : Ok X.K W H μ) (r : Reps X.K W vs ds) (q : postE X.K E W H (F (ds ++ dd) μ) Q) : wpAny (model X.prog X.w) X.A (call (.ref f) us) (EP X pins σ Q) X.xe s := by
  obtain ⟨dvs, d0, r0, rd, hl, hb⟩ := b.ex
  have hlen : (us ++ d0).length = ps.length := by rw [List.length_append, hn]; exact hl
  exact wpAny_call (run_g (args := ⟨us, []⟩) G c I hlen (hb s us I.kIn hlen) (rv.append r0) ok (r.app (rd W)) q)
theorem de_call (G : FnG X.prog X.w X.K X.mg X.base k f fd ps F) (c : Cal X E k) (hm : X.mg x = some (.ref f)) (hk : PySem.W.keepIn X.K (.ref f) = true) (b : Dfl X.K fd ps (e :: es).length dd) (ha : DA X E (e :: es) fa)
    (hf : HasLen fa (e :: es).length := by repeat (first | exact aNil_len | refine aCons_len ?_)) (hg : Gl X x := by rfl) (hdb : (x == ("__debug__" : Str)) = false := by decide) (he : starEach (e :: es) X.env = (false, eval e X.env) :: starEach es X.env := by rfl) (hpl : (backTo pos (starEach es X.env)).any (·.1) = false := by rfl) :
    DE X E (.Call (.Name x p) (e :: es) [] pos) (dcall F dd fa) := by
  refine ⟨fun pins s σ H Q I q => ?_⟩
  obtain ⟨W, ρ, μ, ok, en, pq⟩ := q
  refine wpAny_Call_Name_kw (ld_glob I hg hm ?_ hdb)
  unfold dcall at pq
  have rd : rA X.K E fa σ H (fun vs H1 => ∃ W1 ds μ1, vs.length = (e :: es).length ∧ Ok X.K W1 H1 μ1 ∧ Reps X.K W1 vs ds ∧ postE X.K E W1 H1 (F (ds ++ dd) μ1) Q) := by
    refine ⟨W, ρ, μ, ok, en, ?_⟩
    revert pq
    cases hq : fa ρ μ with
    | ok ds μ1 => exact fun p W1 xs H1 g o r => ⟨W1, ds, μ1, by rw [r.length]; exact hf ρ μ ds μ1 hq, o, r, post.mono g p⟩
    | ex c fs μ1 => exact fun p => p
    | bad => exact fun p => p
  refine PySem.W.callWith_K (h₀ := X.base) I.ok.mod.kin hk (thn (ha.run pos pins s σ H _ I rd) fun us s1 ⟨vs, H1, I1, r, W1, ds, μ1, hn, o1, r1, q1⟩ => ⟨I1.kIn, ?_⟩) he hpl
  exact callF_args G c b I1 (show us.length = _ by rw [← r.length]; exact hn) r o1 r1 q1
end
end DL
/-! DL4: operators, comparisons, built-ins over data. -/
namespace DL
open PySem L2

/-! ### operators by the kinds of their data -/
def rD (K : PySem.W.Frag) (E : XK) (g : D → D → Mu → R D) : R2 := fun x y H Q => ∃ W μ dx dy, Ok K W H μ ∧ Rep K W x dx ∧ Rep K W y dy ∧ postE K E W H (g dx dy μ) Q
abbrev OpX (X : Cx) (E : XK) (f : Value → Value → Sem Value) (g : D → D → Mu → R D) : Prop := OpR X f (rD X.K E g)
theorem opx {X : Cx} {E : XK} {f : Value → Value → Sem Value} {g : D → D → Mu → R D} (h : ∀ W H μ dx dy vx vy Q, Ok X.K W H μ → Rep X.K W vx dx → Rep X.K W vy dy → postE X.K E W H (g dx dy μ) Q → ∃ r, OpR X f r ∧ r vx vy H Q) : OpX X E f g := by
  intro pins s σ H x y v u Q I rx ry q
  obtain ⟨W, μ, dx, dy, ok, r1, r2, p⟩ := q
  obtain ⟨r, o, z⟩ := h W H μ dx dy x y Q ok r1 r2 p
  exact o pins s σ H x y v u Q I rx ry z
theorem opd_D {K : PySem.W.Frag} {E : XK} {g : D → D → Mu → R D} : OpD K E (rD K E g) g := fun W H μ x y vx vy Q ok rx ry p => ⟨W, μ, x, y, ok, rx, ry, p⟩
section
variable {X : Cx} {E : XK} {a b : Expr} {fa fb : FE} {pos : Pos} {g : D → D → Mu → R D}
theorem de_bin {op : Operator} (ho : OpX X E (binaryOp op) g) (ha : DE X E a fa) (hb : DE X E b fb) : DE X E (.BinOp a op b pos) (dbin g fa fb) := dbinop ho opd_D ha hb
theorem de_cmp {op : CmpOp} (ho : OpX X E (compareOp op) g) (ha : DE X E a fa) (hb : DE X E b fb) (hm : behindInMarks op b = false := by first | exact nomark _ | rfl) : DE X E (.Compare a [op] [b] pos) (dbin g fa fb) := dcmp ho opd_D ha hb hm
theorem dt_cmp {op : CmpOp} (ho : OpX X E (compareOp op) g) (ha : DE X E a fa) (hb : DE X E b fb) (hm : behindInMarks op b = false := by first | exact nomark _ | rfl) : DT X E (.Compare a [op] [b] pos) (dtest (dbin g fa fb)) := dtest_cmp ho opd_D ha hb hm
end

/-- an answer that makes nothing -/
theorem post_pure {K : PySem.W.Frag} {E : XK} {W : Wd} {H : Hp} {μ : Mu} {d : D} {v : V} {Q : VK} (ok : Ok K W H μ) (p : postE K E W H (.ok d μ) Q) (r : Rep K W v d) : Q v H := p W v H (Go.refl _ _) ok r

/-! ### + - * // % ** -/
def addD : D → D → Mu → R D
  | .int i, .int j, μ => .ok (.int (i + j)) μ
  | .str x, .str y, μ => if x.length + y.length ≤ 1000000 then .ok (.str (x ++ y)) μ else .bad
  | .lst xs, .lst ys, μ => if xs.length + ys.length ≤ 1000000 then .ok (.lst (xs ++ ys)) μ else .bad
  | _, _, _ => .bad
def subD : D → D → Mu → R D
  | .int i, .int j, μ => .ok (.int (i - j)) μ
  | _, _, _ => .bad
/-- one factor is below 2 ^ 64 -/
def mulD : D → D → Mu → R D
  | .int i, .int j, μ => if (-(2 ^ 64) < i ∧ i < 2 ^ 64) ∨ (-(2 ^ 64) < j ∧ j < 2 ^ 64) then .ok (.int (i * j)) μ else .bad
  | _, _, _ => .bad
def modD : D → D → Mu → R D
  | .int i, .int j, μ => if 0 < j then .ok (.int (i % j)) μ else .bad
  | _, _, _ => .bad
def fdivD : D → D → Mu → R D
  | .int i, .int j, μ => if 0 < j ∧ j < 1073741824 then .ok (.int (i / j)) μ else .bad
  | _, _, _ => .bad
def powD : D → D → Mu → R D
  | .int i, .int j, μ => if 0 ≤ j ∧ j ≤ 1000000 ∧ i.natAbs < 2 ^ 64 then .ok (.int (i ^ j.toNat)) μ else .bad
  | _, _, _ => .bad
section
variable {X : Cx} {E : XK}
theorem op_catR : OpR X (binaryOp .Add) (fun x y H Q => ∃ l b xs zs, x = .ref l ∧ y = .ref b ∧ Lq X.K H l xs ∧ Lq X.K H b zs ∧ xs.length + zs.length ≤ sizeLine ∧ ∀ p, H p = none → Q (.ref p) (upd H p (.lst (xs ++ zs)))) := by
  intro pins s σ H x y v u Q I rx ry h
  obtain ⟨l, b, xs, zs, rfl, rfl, h1, h2, hz, q⟩ := h
  cases rx
  cases ry
  obtain ⟨its, n, r, e⟩ := h1.isL I
  obtain ⟨its2, n2, r2, e2⟩ := h2.isL I
  refine PySem.P.add_list e e2 ?_ (by
    rw [List.size_toArray, List.size_toArray, ← r.length, ← r2.length]
    exact hz)
  have ea : its.toArray ++ its2.toArray = (its ++ its2).toArray := by simp
  rw [ea]
  exact ⟨.ref _, _, I.lnew (t' := s.toks) (r.append r2) (by rw [List.length_append]; exact hz), rfl, q _ I.fresh⟩
theorem strlen_app (x y : Str) : (x ++ y).length = x.length + y.length := by
  show (x.cps ++ y.cps).size = x.cps.size + y.cps.size
  simp
theorem opx_add : OpX X E (binaryOp .Add) addD := opx fun W H μ dx dy vx vy Q ok r1 r2 p => by
  unfold addD at p
  split at p
  · cases r1; cases r2
    exact ⟨_, op_add, _, _, rfl, rfl, post_pure ok p (.int _)⟩
  · split at p
    · rename_i hn
      cases r1; cases r2
      exact ⟨_, op_add_str, _, _, rfl, rfl, le_line hn, post_pure ok p (.str _ (by rw [strlen_app]; exact le_line hn))⟩
    · exact p.elim
  · split at p
    · rename_i hn
      cases r1 with
      | lst z1 h1 q1 =>
        cases r2 with
        | lst z2 h2 q2 =>
          refine ⟨_, op_catR, _, _, _, _, rfl, rfl, same_lq ok.sub h1, same_lq ok.sub h2, by rw [q1.length, q2.length]; exact le_line hn, fun q hq => p _ _ _ (Go.new ok hq) (ok.new hq) (rep_lst ok hq (by rw [List.length_append]; exact le_line hn) (q1.app q2))⟩
    · exact p.elim
  · exact p.elim
theorem opx_sub : OpX X E (binaryOp .Sub) subD := opx fun W H μ dx dy vx vy Q ok r1 r2 p => by
  unfold subD at p
  split at p
  · cases r1; cases r2
    exact ⟨_, op_sub, _, _, rfl, rfl, post_pure ok p (.int _)⟩
  · exact p.elim
theorem opx_mul : OpX X E (binaryOp .Mult) mulD := opx fun W H μ dx dy vx vy Q ok r1 r2 p => by
  unfold mulD at p
  split at p
  · split at p
    · rename_i hn
      cases r1; cases r2
      exact ⟨_, op_mul, _, _, rfl, rfl, hn, post_pure ok p (.int _)⟩
    · exact p.elim
  · exact p.elim
theorem opx_mod : OpX X E (binaryOp .Mod) modD := opx fun W H μ dx dy vx vy Q ok r1 r2 p => by
  unfold modD at p
  split at p
  · split at p
    · rename_i hn
      cases r1; cases r2
      exact ⟨_, op_mod, _, _, rfl, rfl, hn, post_pure ok p (.int _)⟩
    · exact p.elim
  · exact p.elim
theorem opx_fdiv : OpX X E (binaryOp .FloorDiv) fdivD := opx fun W H μ dx dy vx vy Q ok r1 r2 p => by
  unfold fdivD at p
  split at p
  · split at p
    · rename_i hn
      cases r1; cases r2
      exact ⟨_, op_fdiv, _, _, rfl, rfl, hn, post_pure ok p (.int _)⟩
    · exact p.elim
  · exact p.elim
theorem opx_pow : OpX X E (binaryOp .Pow) powD := opx fun W H μ dx dy vx vy Q ok r1 r2 p => by
  unfold powD at p
  split at p
  · split at p
    · rename_i hn
      cases r1; cases r2
      exact ⟨_, op_pow, _, _, rfl, rfl, hn, post_pure ok p (.int _)⟩
    · exact p.elim
  · exact p.elim
end

/-! ### < <= > >= -/
def strLt (x y : Str) : Bool := decide (x.cps.toList < y.cps.toList)
def ltD : D → D → Mu → R D
  | .int i, .int j, μ => .ok (.bl (decide (i < j))) μ
  | .str x, .str y, μ => .ok (.bl (strLt x y)) μ
  | _, _, _ => .bad
def leD : D → D → Mu → R D
  | .int i, .int j, μ => .ok (.bl (decide (i ≤ j))) μ
  | .str x, .str y, μ => .ok (.bl (!strLt y x)) μ
  | _, _, _ => .bad
def gtD : D → D → Mu → R D
  | .int i, .int j, μ => .ok (.bl (decide (j < i))) μ
  | _, _, _ => .bad
def geD : D → D → Mu → R D
  | .int i, .int j, μ => .ok (.bl (decide (j ≤ i))) μ
  | _, _, _ => .bad
section
variable {X : Cx} {E : XK}
theorem opx_lt : OpX X E (compareOp .Lt) ltD := opx fun W H μ dx dy vx vy Q ok r1 r2 p => by
  unfold ltD at p
  split at p
  · cases r1; cases r2
    exact ⟨_, op_lt, _, _, rfl, rfl, post_pure ok p (.bl _)⟩
  · cases r1; cases r2
    exact ⟨_, op_lt_str, _, _, rfl, rfl, post_pure ok p (.bl _)⟩
  · exact p.elim
theorem opx_le : OpX X E (compareOp .LtE) leD := opx fun W H μ dx dy vx vy Q ok r1 r2 p => by
  unfold leD at p
  split at p
  · cases r1; cases r2
    exact ⟨_, op_le, _, _, rfl, rfl, post_pure ok p (.bl _)⟩
  · cases r1; cases r2
    exact ⟨_, op_le_str, _, _, rfl, rfl, post_pure ok p (.bl _)⟩
  · exact p.elim
theorem opx_gt : OpX X E (compareOp .Gt) gtD := opx fun W H μ dx dy vx vy Q ok r1 r2 p => by
  unfold gtD at p
  split at p
  · cases r1; cases r2
    exact ⟨_, op_gt, _, _, rfl, rfl, post_pure ok p (.bl _)⟩
  · exact p.elim
theorem opx_ge : OpX X E (compareOp .GtE) geD := opx fun W H μ dx dy vx vy Q ok r1 r2 p => by
  unfold geD at p
  split at p
  · cases r1; cases r2
    exact ⟨_, op_ge, _, _, rfl, rfl, post_pure ok p (.bl _)⟩
  · exact p.elim
end

/-! ### is None -/
def isNoneD : D → Option Bool
  | .non => some true
  | .cst _ => none
  | _ => some false
def isD : D → D → Mu → R D
  | x, .non, μ => match isNoneD x with
    | some b => .ok (.bl b) μ
    | none => .bad
  | _, _, _ => .bad
def isntD : D → D → Mu → R D
  | x, .non, μ => match isNoneD x with
    | some b => .ok (.bl (!b)) μ
    | none => .bad
  | _, _, _ => .bad
theorem isNone_rep {K : PySem.W.Frag} {W : Wd} {v : V} {d : D} {b : Bool} (r : Rep K W v d) (h : isNoneD d = some b) : decide (v = .non) = b := by
  cases r <;> simp [isNoneD] at h <;> subst h <;> simp
section
variable {X : Cx} {E : XK}
theorem opx_is : OpX X E (compareOp .Is) isD := opx fun W H μ dx dy vx vy Q ok r1 r2 p => by
  unfold isD at p
  split at p
  · split at p
    · rename_i b hb
      cases r2
      refine ⟨_, op_isN, rfl, ?_⟩
      rw [isNone_rep r1 hb]
      exact post_pure ok p (.bl _)
    · exact p.elim
  · exact p.elim
theorem opx_isnt : OpX X E (compareOp .IsNot) isntD := opx fun W H μ dx dy vx vy Q ok r1 r2 p => by
  unfold isntD at p
  split at p
  · split at p
    · rename_i b hb
      cases r2
      refine ⟨_, op_notN, rfl, ?_⟩
      rw [isNone_rep r1 hb]
      exact post_pure ok p (.bl _)
    · exact p.elim
  · exact p.elim
end

end DL
/-! DL5: == and in over data. -/
namespace DL
open PySem L2

inductive Kd where
  | flat (v : V) | tup (xs : List D) | lst (xs : List D) | none
def D.kd : D → Kd
  | .non => .flat .non
  | .bl b => .flat (.bl b)
  | .int i => .flat (.int i)
  | .str x => .flat (.str x)
  | .tup xs => .tup xs
  | .lst xs => .lst xs
  | _ => .none
def eqL (e : D → D → Option Bool) : List D → List D → Option Bool
  | [], [] => some true
  | [], _ :: _ => some false
  | _ :: _, [] => some false
  | x :: xs, y :: ys => match e x y, eqL e xs ys with
    | some a, some b => some (a && b)
    | _, _ => none
/-- == of data of less than that depth -/
def eqD : Nat → D → D → Option Bool
  | 0, _, _ => none
  | n + 1, x, y => match x.kd, y.kd with
    | .flat u, .flat v => some (eqV u v)
    | .tup xs, .tup ys => eqL (eqD n) xs ys
    | .lst xs, .lst ys => eqL (eqD n) xs ys
    | .none, _ => none
    | _, .none => none
    | _, _ => some false
def atF (e : D → D → Option Bool) (xs ys : List D) (j : Nat) : Bool := match xs[j]?, ys[j]? with
  | some x, some y => (e x y).getD false
  | _, _ => false
theorem eqL_at {e : D → D → Option Bool} : ∀ {xs ys : List D} {b : Bool}, eqL e xs ys = some b → ∀ (j : Nat) x y, xs[j]? = some x → ys[j]? = some y → e x y = some (atF e xs ys j)
  | [], _, _, _, _, _, _, h, _ => by simp at h
  | _ :: _, [], _, _, _, _, _, _, h => by simp at h
  | x :: xs, y :: ys, b, h, j, x', y', h1, h2 => by
    unfold eqL at h
    cases e1 : e x y with
    | none => rw [e1] at h; cases h
    | some a =>
      cases e2 : eqL e xs ys with
      | none => rw [e1, e2] at h; cases h
      | some c =>
        cases j with
        | zero =>
          simp at h1 h2
          subst h1 h2
          simp [atF, e1]
        | succ j =>
          have := eqL_at e2 j x' y' (by simpa using h1) (by simpa using h2)
          rw [this]
          simp [atF]
theorem all_shift (p : Nat → Bool) (n : Nat) : (List.range (n + 1)).all p = (p 0 && (List.range n).all fun j => p (j + 1)) := by
  rw [List.range_succ_eq_map, List.all_cons, List.all_map]
  rfl
theorem eqL_val {e : D → D → Option Bool} : ∀ {xs ys : List D} {b : Bool}, eqL e xs ys = some b → b = ((List.range (min xs.length ys.length)).all (atF e xs ys) && xs.length == ys.length)
  | [], [], b, h => by
    simp [eqL] at h
    subst h
    simp
  | [], y :: ys, b, h => by
    simp [eqL] at h
    subst h
    simp
  | x :: xs, [], b, h => by
    simp [eqL] at h
    subst h
    simp
  | x :: xs, y :: ys, b, h => by
    unfold eqL at h
    cases e1 : e x y with
    | none => rw [e1] at h; cases h
    | some a =>
      cases e2 : eqL e xs ys with
      | none => rw [e1, e2] at h; cases h
      | some c =>
        rw [e1, e2] at h
        cases h
        have ih := eqL_val e2
        have hm : min (x :: xs).length (y :: ys).length = min xs.length ys.length + 1 := by simp [Nat.succ_min_succ]
        rw [hm, all_shift]
        have h0 : atF e (x :: xs) (y :: ys) 0 = a := by simp [atF, e1]
        have hs : (fun j => atF e (x :: xs) (y :: ys) (j + 1)) = atF e xs ys := by
          funext j
          simp [atF]
        rw [h0, hs, Bool.and_assoc, ih]
        simp
theorem rd_inj {H : Hp} {a : Addr} {xs ys : List V} (h : Rd H a (.lst xs)) (h' : Rd H a (.lst ys)) : xs = ys := by
  rcases h with h | ⟨o, h⟩ <;> rcases h' with h' | ⟨o', h'⟩ <;> rw [h] at h' <;> cases h' <;> rfl
section
variable {X : Cx} {pins : List (Addr × Obj)} {σ : St} {H : Hp} {s : Shared} {W : Wd} {μ : Mu}
theorem eqV_refl {v : V} (h : flatV v = true) : eqV v v = true := by
  cases v <;> simp [eqV, flatV] at h ⊢
theorem kd_flat {K : PySem.W.Frag} {v u : V} {d : D} (r : Rep K W v d) (h : d.kd = .flat u) : v = u ∧ flatV v = true := by
  cases r <;> simp [D.kd] at h <;> subst h <;> exact ⟨rfl, rfl⟩
theorem kd_tup {K : PySem.W.Frag} {v : V} {d : D} {xs : List D} (r : Rep K W v d) (h : d.kd = .tup xs) : ∃ a vs, v = .ref a ∧ SqT K W.S a vs ∧ Reps K W vs xs := by
  cases r <;> simp [D.kd] at h
  subst h
  exact ⟨_, _, rfl, by assumption, by assumption⟩
theorem kd_lst {K : PySem.W.Frag} {v : V} {d : D} {xs : List D} (r : Rep K W v d) (h : d.kd = .lst xs) : ∃ a vs, v = .ref a ∧ Lq K W.S a vs ∧ Reps K W vs xs := by
  cases r <;> simp [D.kd] at h
  subst h
  exact ⟨_, _, rfl, by assumption, by assumption⟩
theorem eqL_same {K : PySem.W.Frag} {e : D → D → Option Bool} (h : ∀ v x y c, Rep K W v x → Rep K W v y → e x y = some c → c = true) : ∀ {vs : List V} {xs ys : List D} {b : Bool}, Reps K W vs xs → Reps K W vs ys → eqL e xs ys = some b → b = true
  | _, _, _, _, .nil, .nil, q => by
    simp [eqL] at q
    exact q
  | _, _, _, _, .cons r1 t1, .cons r2 t2, q => by
    rename_i v vs d ds d' ds'
    unfold eqL at q
    cases e1 : e d d' with
    | none => rw [e1] at q; cases q
    | some a =>
      cases e2 : eqL e ds ds' with
      | none => rw [e1, e2] at q; cases q
      | some c =>
        rw [e1, e2] at q
        cases q
        rw [h v d d' a r1 r2 e1, eqL_same h t1 t2 e2]
        rfl
theorem eqD_same (I : Inv X pins σ H s) (ok : Ok X.K W H μ) : ∀ (n : Nat) (v : V) (d e : D) (b : Bool), Rep X.K W v d → Rep X.K W v e → eqD n d e = some b → b = true
  | 0, _, _, _, _, _, _, h => by simp [eqD] at h
  | n + 1, v, d, e, b, r1, r2, h => by
    unfold eqD at h
    cases k1 : d.kd with
    | none => rw [k1] at h; cases h
    | flat u1 =>
      obtain ⟨rfl, f1⟩ := kd_flat r1 k1
      cases k2 : e.kd with
      | none => rw [k1, k2] at h; cases h
      | flat u2 =>
        obtain ⟨rfl, _⟩ := kd_flat r2 k2
        rw [k1, k2] at h
        cases h
        exact eqV_refl f1
      | tup ys =>
        obtain ⟨a, vs, rfl, _⟩ := kd_tup r2 k2
        simp [flatV] at f1
      | lst ys =>
        obtain ⟨a, vs, rfl, _⟩ := kd_lst r2 k2
        simp [flatV] at f1
    | tup xs =>
      obtain ⟨a, vs, rfl, h1, q1⟩ := kd_tup r1 k1
      cases k2 : e.kd with
      | none => rw [k1, k2] at h; cases h
      | flat u2 =>
        obtain ⟨rfl, f⟩ := kd_flat r2 k2
        simp [flatV] at f
      | tup ys =>
        obtain ⟨a', us, e', h2, q2⟩ := kd_tup r2 k2
        cases e'
        have ev := I.tuple_inj (same_t ok.sub h1) (same_t ok.sub h2)
        subst ev
        rw [k1, k2] at h
        exact eqL_same (fun v x y c a b z => eqD_same I ok n v x y c a b z) q1 q2 h
      | lst ys =>
        obtain ⟨a', us, e', h2, q2⟩ := kd_lst r2 k2
        cases e'
        obtain ⟨its, _, ⟨o, e1, c1, _⟩, _⟩ := I.tuple (same_t ok.sub h1)
        obtain ⟨its', _, ⟨o', n', e2, c2, _⟩, _⟩ := I.list (same_lq ok.sub h2).sq
        rw [e1] at e2
        cases e2
        rw [c1] at c2
        exact absurd c2 (by decide)
    | lst xs =>
      obtain ⟨a, vs, rfl, h1, q1⟩ := kd_lst r1 k1
      cases k2 : e.kd with
      | none => rw [k1, k2] at h; cases h
      | flat u2 =>
        obtain ⟨rfl, f⟩ := kd_flat r2 k2
        simp [flatV] at f
      | lst ys =>
        obtain ⟨a', us, e', h2, q2⟩ := kd_lst r2 k2
        cases e'
        have ev := I.list_inj (same_lq ok.sub h1).sq (same_lq ok.sub h2).sq
        subst ev
        rw [k1, k2] at h
        exact eqL_same (fun v x y c a b z => eqD_same I ok n v x y c a b z) q1 q2 h
      | tup ys =>
        obtain ⟨a', us, e', h2, q2⟩ := kd_tup r2 k2
        cases e'
        obtain ⟨its, _, ⟨o, e1, c1, _⟩, _⟩ := I.tuple (same_t ok.sub h2)
        obtain ⟨its', _, ⟨o', n', e2, c2, _⟩, _⟩ := I.list (same_lq ok.sub h1).sq
        rw [e1] at e2
        cases e2
        rw [c1] at c2
        exact absurd c2 (by decide)
open PySem.SeqAt in
theorem rc_flat {A : Around} {u v : V} {p q : Value} (r1 : RelV u p) (r2 : RelV v q) (f1 : flatV u = true) (f2 : flatV v = true) : RcAt A s p q (eqV u v) := by
  cases u <;> simp [flatV] at f1 <;> cases v <;> simp [flatV] at f2
  case non.non => cases r1; cases r2; exact RcAt.none_none
  case non.bl => cases r1; cases r2; exact RcAt.none_bool _
  case non.int => cases r1; obtain ⟨t, rfl⟩ := r2; exact RcAt.none_int _ _
  case non.str => cases r1; obtain ⟨t, rfl⟩ := r2; exact RcAt.none_str _ _
  case bl.non => cases r1; cases r2; exact RcAt.bool_none _
  case bl.bl => cases r1; cases r2; exact RcAt.bool_bool _ _
  case bl.int => cases r1; obtain ⟨t, rfl⟩ := r2; exact RcAt.bool_int _ _ _
  case bl.str => cases r1; obtain ⟨t, rfl⟩ := r2; exact RcAt.bool_str _ _ _
  case int.non => obtain ⟨t, rfl⟩ := r1; cases r2; exact RcAt.int_none _ _
  case int.bl => obtain ⟨t, rfl⟩ := r1; cases r2; exact RcAt.int_bool _ _ _
  case int.int => obtain ⟨t, rfl⟩ := r1; obtain ⟨t', rfl⟩ := r2; exact RcAt.int_int _ _ _ _
  case int.str => obtain ⟨t, rfl⟩ := r1; obtain ⟨t', rfl⟩ := r2; exact RcAt.int_str _ _ _ _
  case str.non => obtain ⟨t, rfl⟩ := r1; cases r2; exact RcAt.str_none _ _
  case str.bl => obtain ⟨t, rfl⟩ := r1; cases r2; exact RcAt.str_bool _ _ _
  case str.int => obtain ⟨t, rfl⟩ := r1; obtain ⟨t', rfl⟩ := r2; exact RcAt.str_int _ _ _ _
  case str.str => obtain ⟨t, rfl⟩ := r1; obtain ⟨t', rfl⟩ := r2; exact RcAt.str_str _ _ _ _
open PySem.SeqAt in
theorem flat_list {A : Around} {u : V} {p : Value} {l : Addr} {its : Array Value} (r1 : RelV u p) (f1 : flatV u = true) (hl : s.heap.IsList l its) (hu : A.units < cLine) : RcAt A s p (.ref l) false ∧ EqAt A s p (.ref l) false ∧ RcAt A s (.ref l) p false ∧ EqAt A s (.ref l) p false := by
  cases u <;> simp [flatV] at f1
  case non => cases r1; exact ⟨.none_list hl hu, .none_list hl hu, .list_none hl hu, .list_none hl hu⟩
  case bl => cases r1; exact ⟨.bool_list _ hl hu, .bool_list _ hl hu, .list_bool _ hl hu, .list_bool _ hl hu⟩
  case int => obtain ⟨t, rfl⟩ := r1; exact ⟨.int_list _ _ hl hu, .int_list _ _ hl hu, .list_int _ _ hl hu, .list_int _ _ hl hu⟩
  case str => obtain ⟨t, rfl⟩ := r1; exact ⟨.str_list _ _ hl hu, .str_list _ _ hl hu, .list_str _ _ hl hu, .list_str _ _ hl hu⟩
open PySem.SeqAt in
theorem flat_tuple {A : Around} {u : V} {p : Value} {l : Addr} {its : Array Value} (r1 : RelV u p) (f1 : flatV u = true) (hl : s.heap.IsTuple l its) (hu : A.units < cLine) : RcAt A s p (.ref l) false ∧ EqAt A s p (.ref l) false ∧ RcAt A s (.ref l) p false ∧ EqAt A s (.ref l) p false := by
  cases u <;> simp [flatV] at f1
  case non => cases r1; exact ⟨.none_tuple hl hu, .none_tuple hl hu, .tuple_none hl hu, .tuple_none hl hu⟩
  case bl => cases r1; exact ⟨.bool_tuple _ hl hu, .bool_tuple _ hl hu, .tuple_bool _ hl hu, .tuple_bool _ hl hu⟩
  case int => obtain ⟨t, rfl⟩ := r1; exact ⟨.int_tuple _ _ hl hu, .int_tuple _ _ hl hu, .tuple_int _ _ hl hu, .tuple_int _ _ hl hu⟩
  case str => obtain ⟨t, rfl⟩ := r1; exact ⟨.str_tuple _ _ hl hu, .str_tuple _ _ hl hu, .tuple_str _ _ hl hu, .tuple_str _ _ hl hu⟩
open PySem.SeqAt in
theorem eqD_at (I : Inv X pins σ H s) (ok : Ok X.K W H μ) : ∀ (n : Nat) (A : Around) (d e : D) (b : Bool) (u v : V) (p q : Value), A.units + n < cLine → Rep X.K W u d → Rep X.K W v e → RelV u p → RelV v q → eqD n d e = some b → RcAt A s p q b ∧ EqAt A s p q b
  | 0, _, _, _, _, _, _, _, _, _, _, _, _, _, h => by simp [eqD] at h
  | n + 1, A, d, e, b, u, v, p, q, hu, r1, r2, w1, w2, h => by
    have hu0 : A.units < cLine := by omega
    unfold eqD at h
    cases k1 : d.kd with
    | none => rw [k1] at h; cases h
    | flat u1 =>
      obtain ⟨rfl, f1⟩ := kd_flat r1 k1
      cases k2 : e.kd with
      | none => rw [k1, k2] at h; cases h
      | flat u2 =>
        obtain ⟨rfl, f2⟩ := kd_flat r2 k2
        rw [k1, k2] at h
        cases h
        exact ⟨rc_flat w1 w2 f1 f2, eqAt_V w1 w2 f1 f2⟩
      | tup ys =>
        obtain ⟨a, vs, rfl, h2, _⟩ := kd_tup r2 k2
        cases w2
        obtain ⟨its, _, ht, _⟩ := I.tuple (same_t ok.sub h2)
        rw [k1, k2] at h
        cases h
        have z := flat_tuple (s := s) (A := A) w1 f1 (show s.heap.IsTuple a its.toArray from ht) hu0
        exact ⟨z.1, z.2.1⟩
      | lst ys =>
        obtain ⟨a, vs, rfl, h2, _⟩ := kd_lst r2 k2
        cases w2
        obtain ⟨its, _, ht, _⟩ := I.list (same_lq ok.sub h2).sq
        rw [k1, k2] at h
        cases h
        have z := flat_list (s := s) (A := A) w1 f1 ht.isList hu0
        exact ⟨z.1, z.2.1⟩
    | tup xs =>
      obtain ⟨a, vs, rfl, h1, q1⟩ := kd_tup r1 k1
      cases w1
      obtain ⟨its, v1, ht, _⟩ := I.tuple (same_t ok.sub h1)
      cases k2 : e.kd with
      | none => rw [k1, k2] at h; cases h
      | flat u2 =>
        obtain ⟨rfl, f2⟩ := kd_flat r2 k2
        rw [k1, k2] at h
        cases h
        have z := flat_tuple (s := s) (A := A) w2 f2 (show s.heap.IsTuple a its.toArray from ht) hu0
        exact ⟨z.2.2.1, z.2.2.2⟩
      | lst ys =>
        obtain ⟨a', us, rfl, h2, q2⟩ := kd_lst r2 k2
        cases w2
        obtain ⟨its', _, ht', _⟩ := I.list (same_lq ok.sub h2).sq
        rw [k1, k2] at h
        cases h
        exact ⟨.tuple_list (show s.heap.IsTuple a its.toArray from ht) ht'.isList hu0, .tuple_list (show s.heap.IsTuple a its.toArray from ht) ht'.isList hu0⟩
      | tup ys =>
        obtain ⟨a', us, rfl, h2, q2⟩ := kd_tup r2 k2
        cases w2
        obtain ⟨its', v2, ht', _⟩ := I.tuple (same_t ok.sub h2)
        have hs := h
        rw [k1, k2] at h
        have l1 : its.toArray.size = xs.length := by rw [List.size_toArray, ← v1.length, q1.length]
        have l2 : its'.toArray.size = ys.length := by rw [List.size_toArray, ← v2.length, q2.length]
        have rc : RcAt A s (.ref a) (.ref a') b := by
          have z := RcAt.tuples (e := atF (eqD n) xs ys) (show s.heap.IsTuple a its.toArray from ht) (show s.heap.IsTuple a' its'.toArray from ht') hu0 (fun j h3 h4 => by
            obtain ⟨xd, ex⟩ : ∃ xd, xs[j]? = some xd := ⟨_, List.getElem?_eq_getElem (by rw [← l1]; exact h3)⟩
            obtain ⟨yd, ey⟩ : ∃ yd, ys[j]? = some yd := ⟨_, List.getElem?_eq_getElem (by rw [← l2]; exact h4)⟩
            obtain ⟨xv, e3, r3⟩ := q1.get ex
            obtain ⟨yv, e4, r4⟩ := q2.get ey
            obtain ⟨xu, e5, w5⟩ := v1.get e3
            obtain ⟨yu, e6, w6⟩ := v2.get e4
            have g1 : its.toArray[j] = xu := by
              have := List.getElem?_eq_some_iff.mp e5
              simpa using this.2
            have g2 : its'.toArray[j] = yu := by
              have := List.getElem?_eq_some_iff.mp e6
              simpa using this.2
            rw [g1, g2]
            exact (eqD_at I ok n A.in1 xd yd _ xv yv xu yu (by show A.units + 1 + n < cLine; omega) r3 r4 w5 w6 (eqL_at h j xd yd ex ey)).2)
          rw [l1, l2, ← eqL_val h] at z
          exact z
        refine ⟨rc, ?_⟩
        by_cases hne : a = a'
        · subst hne
          have hb : b = true := eqD_same I ok (n + 1) (.ref a) d e b r1 r2 (by unfold eqD; exact hs)
          rw [hb]
          exact .same _
        · exact .of_refs hne rc
    | lst xs =>
      obtain ⟨a, vs, rfl, h1, q1⟩ := kd_lst r1 k1
      cases w1
      obtain ⟨its, v1, ht, _⟩ := I.list (same_lq ok.sub h1).sq
      cases k2 : e.kd with
      | none => rw [k1, k2] at h; cases h
      | flat u2 =>
        obtain ⟨rfl, f2⟩ := kd_flat r2 k2
        rw [k1, k2] at h
        cases h
        have z := flat_list (s := s) (A := A) w2 f2 ht.isList hu0
        exact ⟨z.2.2.1, z.2.2.2⟩
      | tup ys =>
        obtain ⟨a', us, rfl, h2, q2⟩ := kd_tup r2 k2
        cases w2
        obtain ⟨its', _, ht', _⟩ := I.tuple (same_t ok.sub h2)
        rw [k1, k2] at h
        cases h
        exact ⟨.list_tuple ht.isList (show s.heap.IsTuple a' its'.toArray from ht') hu0, .list_tuple ht.isList (show s.heap.IsTuple a' its'.toArray from ht') hu0⟩
      | lst ys =>
        obtain ⟨a', us, rfl, h2, q2⟩ := kd_lst r2 k2
        cases w2
        obtain ⟨its', v2, ht', _⟩ := I.list (same_lq ok.sub h2).sq
        have hs := h
        rw [k1, k2] at h
        have l1 : its.toArray.size = xs.length := by rw [List.size_toArray, ← v1.length, q1.length]
        have l2 : its'.toArray.size = ys.length := by rw [List.size_toArray, ← v2.length, q2.length]
        have rc : RcAt A s (.ref a) (.ref a') b := by
          by_cases hl : xs.length = ys.length
          · have z := RcAt.lists (e := atF (eqD n) xs ys) ht.isList ht'.isList (by rw [l1, l2]; exact hl) hu0 (fun j h3 h4 => by
              obtain ⟨xd, ex⟩ : ∃ xd, xs[j]? = some xd := ⟨_, List.getElem?_eq_getElem (by rw [← l1]; exact h3)⟩
              obtain ⟨yd, ey⟩ : ∃ yd, ys[j]? = some yd := ⟨_, List.getElem?_eq_getElem (by rw [← l2]; exact h4)⟩
              obtain ⟨xv, e3, r3⟩ := q1.get ex
              obtain ⟨yv, e4, r4⟩ := q2.get ey
              obtain ⟨xu, e5, w5⟩ := v1.get e3
              obtain ⟨yu, e6, w6⟩ := v2.get e4
              have g1 : its.toArray[j] = xu := by
                have := List.getElem?_eq_some_iff.mp e5
                simpa using this.2
              have g2 : its'.toArray[j] = yu := by
                have := List.getElem?_eq_some_iff.mp e6
                simpa using this.2
              rw [g1, g2]
              exact (eqD_at I ok n A.in1 xd yd _ xv yv xu yu (by show A.units + 1 + n < cLine; omega) r3 r4 w5 w6 (eqL_at h j xd yd ex ey)).2)
            have hv := eqL_val h
            rw [hl, Nat.min_self, beq_self_eq_true, Bool.and_true] at hv
            rw [l1, hl, ← hv] at z
            exact z
          · have hv := eqL_val h
            rw [show (xs.length == ys.length) = false from beq_eq_false_iff_ne.mpr hl, Bool.and_false] at hv
            rw [hv]
            exact .lists_lengths ht.isList ht'.isList (by rw [l1, l2]; simpa using hl) hu0
        refine ⟨rc, ?_⟩
        by_cases hne : a = a'
        · subst hne
          have hb : b = true := eqD_same I ok (n + 1) (.ref a) d e b r1 r2 (by unfold eqD; exact hs)
          rw [hb]
          exact .same _
        · exact .of_refs hne rc
end

def dEq : D → D → Mu → R D := fun x y μ => R.of ((eqD 20 x y).map .bl) μ
/-- != of flat things -/
def dNe : D → D → Mu → R D := fun x y μ => match x.kd, y.kd with
  | .flat u, .flat v => if scal u v = true then .ok (.bl (!decide (u = v))) μ else .bad
  | _, _ => .bad
section
variable {X : Cx} {E : XK}
theorem opx_eq (hu : X.A.units + 64 < cLine) : OpX X E (compareOp .Eq) dEq := by
  intro pins s σ H x y v u Q I rx ry q
  obtain ⟨W, μ, dx, dy, ok, r1, r2, p⟩ := q
  unfold dEq at p
  revert p
  cases h : eqD 20 dx dy with
  | none => exact fun p => p.elim
  | some b =>
    intro p
    have z := (eqD_at I ok 20 X.A dx dy b x y v u (by omega) r1 r2 rx ry h).1
    exact z X.prog X.w X.xe _ ⟨.bl b, H, I, rfl, post_pure ok p (.bl b)⟩
theorem opx_ne : OpX X E (compareOp .NotEq) dNe := opx fun W H μ dx dy vx vy Q ok r1 r2 p => by
  unfold dNe at p
  split at p
  · rename_i u v h1 h2
    obtain ⟨rfl, _⟩ := kd_flat r1 h1
    obtain ⟨rfl, _⟩ := kd_flat r2 h2
    split at p
    · rename_i hs
      exact ⟨_, op_ne, hs, post_pure ok p (.bl _)⟩
    · exact p.elim
  · exact p.elim
end
end DL
/-! DL6: in, len, items, slices, built-ins, methods. -/
namespace DL
open PySem L2

/-- the items of a sequence, a cell's too -/
def seqD (μ : Mu) : D → Option (List D)
  | .lst xs => some xs
  | .tup xs => some xs
  | .hdl l => match μ[l]? with
    | some (.lst xs) => some xs
    | _ => none
  | _ => none
theorem seq_rep {K : PySem.W.Frag} {W : Wd} {H : Hp} {μ : Mu} {v : V} {d : D} {xs : List D} (ok : Ok K W H μ) (r : Rep K W v d) (h : seqD μ d = some xs) : ∃ a vs, v = .ref a ∧ Reps K W vs xs ∧ (SqL K H a vs ∨ SqT K H a vs) := by
  cases r with
  | lst z h1 r1 =>
    simp [seqD] at h
    subst h
    exact ⟨_, _, rfl, r1, .inl (same_lq ok.sub h1).sq⟩
  | tup z h1 r1 =>
    simp [seqD] at h
    subst h
    exact ⟨_, _, rfl, r1, .inr (same_t ok.sub h1)⟩
  | @hdl a l ha =>
    unfold seqD at h
    dsimp only at h
    cases hm : μ[l]? with
    | none => rw [hm] at h; cases h
    | some m =>
      rw [hm] at h
      cases m with
      | lst ys =>
        cases h
        obtain ⟨o, ho, vs, rfl, rs⟩ := ok.cell l a _ ha hm
        exact ⟨a, vs, rfl, rs, .inl (.inl (.inl ho))⟩
      | _ => cases h
  | _ => simp [seqD] at h

/-! ### in -/
def inL (e : D → Option Bool) : List D → Option Bool
  | [] => some false
  | y :: ys => match e y, inL e ys with
    | some a, some b => some (a || b)
    | _, _ => none
def inD (μ : Mu) (x y : D) : Option Bool := match y with
  | .str z => match x with
    | .str w => match w.cps.toList with
      | [c] => some (decide (c ∈ z.cps.toList))
      | _ => some (!(Builtin.Str.occurrences z w 0 z.length 1).isEmpty)
    | _ => none
  | y => match seqD μ y with
    | some ys => inL (fun d => eqD 20 d x) ys
    | none => none
def dIn : D → D → Mu → R D := fun x y μ => R.of ((inD μ x y).map .bl) μ
def dNotIn : D → D → Mu → R D := fun x y μ => R.of ((inD μ x y).map fun b => .bl (!b)) μ
theorem inL_def {e : D → Option Bool} : ∀ {ys : List D} {b : Bool}, inL e ys = some b → ∀ y ∈ ys, ∃ c, e y = some c
  | [], _, _, _, h => by cases h
  | y :: ys, b, h, z, hz => by
    unfold inL at h
    cases e1 : e y with
    | none => rw [e1] at h; cases h
    | some a =>
      cases e2 : inL e ys with
      | none => rw [e1, e2] at h; cases h
      | some c =>
        rcases List.mem_cons.mp hz with rfl | hz
        · exact ⟨a, e1⟩
        · exact inL_def e2 z hz
theorem inL_iff {e : D → Option Bool} : ∀ {ys : List D} {b : Bool}, inL e ys = some b → (b = true ↔ ∃ y ∈ ys, e y = some true)
  | [], b, h => by
    simp [inL] at h
    subst h
    simp
  | y :: ys, b, h => by
    unfold inL at h
    cases e1 : e y with
    | none => rw [e1] at h; cases h
    | some a =>
      cases e2 : inL e ys with
      | none => rw [e1, e2] at h; cases h
      | some c =>
        rw [e1, e2] at h
        cases h
        have ih := inL_iff e2
        simp [e1, ih]
def backV : Value → Option V
  | .none => some .non
  | .bool b => some (.bl b)
  | .int i _ => some (.int i)
  | .str x _ => some (.str x)
  | .bytes b _ => some (.byt b)
  | .float b _ => some (.flt b)
  | .ref a => some (.ref a)
  | .type n => some (.ty n)
  | _ => none
theorem backV_of {v : V} {p : Value} (h : RelV v p) : backV p = some v := by
  cases v with
  | non => cases h; rfl
  | bl b => cases h; rfl
  | int i => obtain ⟨t, rfl⟩ := h; rfl
  | str i => obtain ⟨t, rfl⟩ := h; rfl
  | byt i => obtain ⟨t, rfl⟩ := h; rfl
  | flt i => obtain ⟨t, rfl⟩ := h; rfl
  | ref a => cases h; rfl
  | ty n => cases h; rfl
theorem relV_inj {u v : V} {p : Value} (h : RelV u p) (h' : RelV v p) : u = v := by
  have e := backV_of h
  rw [backV_of h'] at e
  exact (Option.some.inj e).symm
theorem eqL_det {K : PySem.W.Frag} {W : Wd} {e : D → D → Option Bool} (h : ∀ v x x' y c c', Rep K W v x → Rep K W v x' → e x y = some c → e x' y = some c' → c = c') : ∀ {vs : List V} {xs xs' ys : List D} {b b' : Bool}, Reps K W vs xs → Reps K W vs xs' → eqL e xs ys = some b → eqL e xs' ys = some b' → b = b'
  | _, _, _, [], b, b', .nil, .nil, q, q' => by
    simp [eqL] at q q'
    rw [q, q']
  | _, _, _, _ :: _, b, b', .nil, .nil, q, q' => by
    simp [eqL] at q q'
    rw [q, q']
  | _, _, _, [], b, b', .cons _ _, .cons _ _, q, q' => by
    simp [eqL] at q q'
    rw [q, q']
  | _, _, _, y :: ys, b, b', .cons (d := d) (ds := ds) r1 t1, .cons (d := d') (ds := ds') r2 t2, q, q' => by
    unfold eqL at q q'
    cases e1 : e d y with
    | none => rw [e1] at q; cases q
    | some a =>
      cases e2 : eqL e ds ys with
      | none => rw [e1, e2] at q; cases q
      | some c =>
        cases e3 : e d' y with
        | none => rw [e3] at q'; cases q'
        | some a' =>
          cases e4 : eqL e ds' ys with
          | none => rw [e3, e4] at q'; cases q'
          | some c' =>
            rw [e1, e2] at q
            rw [e3, e4] at q'
            cases q
            cases q'
            rw [h _ d d' y a a' r1 r2 e1 e3, eqL_det h t1 t2 e2 e4]
section
variable {X : Cx} {pins : List (Addr × Obj)} {σ : St} {H : Hp} {s : Shared} {W : Wd} {μ : Mu} {E : XK}
theorem eqD_det (I : Inv X pins σ H s) (ok : Ok X.K W H μ) : ∀ (n : Nat) (v : V) (d d' e : D) (b b' : Bool), Rep X.K W v d → Rep X.K W v d' → eqD n d e = some b → eqD n d' e = some b' → b = b'
  | 0, _, _, _, _, _, _, _, _, h, _ => by simp [eqD] at h
  | n + 1, v, d, d', e, b, b', r1, r2, h, h' => by
    have again : ∀ v x x' y c c', Rep X.K W v x → Rep X.K W v x' → eqD n x y = some c → eqD n x' y = some c' → c = c' := fun v x x' y c c' a1 a2 a3 a4 => eqD_det I ok n v x x' y c c' a1 a2 a3 a4
    unfold eqD at h h'
    cases k1 : d.kd with
    | none => rw [k1] at h; cases h
    | flat u1 =>
      obtain ⟨rfl, f1⟩ := kd_flat r1 k1
      have k2 : d'.kd = .flat v := by
        cases k2 : d'.kd with
        | none => rw [k2] at h'; cases h'
        | flat u2 => obtain ⟨rfl, _⟩ := kd_flat r2 k2; rfl
        | tup ys => obtain ⟨a, vs, rfl, _⟩ := kd_tup r2 k2; simp [flatV] at f1
        | lst ys => obtain ⟨a, vs, rfl, _⟩ := kd_lst r2 k2; simp [flatV] at f1
      rw [k1] at h
      rw [k2] at h'
      rw [h] at h'
      exact Option.some.inj h'
    | tup xs =>
      obtain ⟨a, vs, rfl, h1, q1⟩ := kd_tup r1 k1
      cases k2 : d'.kd with
      | none => rw [k2] at h'; cases h'
      | flat u2 => obtain ⟨rfl, f⟩ := kd_flat r2 k2; simp [flatV] at f
      | lst ys =>
        obtain ⟨a', us, e', h2, q2⟩ := kd_lst r2 k2
        cases e'
        obtain ⟨its, _, ⟨o, e1, c1, _⟩, _⟩ := I.tuple (same_t ok.sub h1)
        obtain ⟨its', _, ⟨o', n', e2, c2, _⟩, _⟩ := I.list (same_lq ok.sub h2).sq
        rw [e1] at e2
        cases e2
        rw [c1] at c2
        exact absurd c2 (by decide)
      | tup ys =>
        obtain ⟨a', us, e', h2, q2⟩ := kd_tup r2 k2
        cases e'
        have ev := I.tuple_inj (same_t ok.sub h1) (same_t ok.sub h2)
        subst ev
        rw [k1] at h
        rw [k2] at h'
        cases k3 : e.kd with
        | none => rw [k3] at h; cases h
        | flat u3 => rw [k3] at h h'; rw [← Option.some.inj h, ← Option.some.inj h']
        | lst zs => rw [k3] at h h'; rw [← Option.some.inj h, ← Option.some.inj h']
        | tup zs => rw [k3] at h h'; exact eqL_det again q1 q2 h h'
    | lst xs =>
      obtain ⟨a, vs, rfl, h1, q1⟩ := kd_lst r1 k1
      cases k2 : d'.kd with
      | none => rw [k2] at h'; cases h'
      | flat u2 => obtain ⟨rfl, f⟩ := kd_flat r2 k2; simp [flatV] at f
      | tup ys =>
        obtain ⟨a', us, e', h2, q2⟩ := kd_tup r2 k2
        cases e'
        obtain ⟨its, _, ⟨o, e1, c1, _⟩, _⟩ := I.tuple (same_t ok.sub h2)
        obtain ⟨its', _, ⟨o', n', e2, c2, _⟩, _⟩ := I.list (same_lq ok.sub h1).sq
        rw [e1] at e2
        cases e2
        rw [c1] at c2
        exact absurd c2 (by decide)
      | lst ys =>
        obtain ⟨a', us, e', h2, q2⟩ := kd_lst r2 k2
        cases e'
        have ev := I.list_inj (same_lq ok.sub h1).sq (same_lq ok.sub h2).sq
        subst ev
        rw [k1] at h
        rw [k2] at h'
        cases k3 : e.kd with
        | none => rw [k3] at h; cases h
        | flat u3 => rw [k3] at h h'; rw [← Option.some.inj h, ← Option.some.inj h']
        | tup zs => rw [k3] at h h'; rw [← Option.some.inj h, ← Option.some.inj h']
        | lst zs => rw [k3] at h h'; exact eqL_det again q1 q2 h h'
open Classical in
/-- each item's answer, by the item's own value -/
theorem in_items (I : Inv X pins σ H s) (ok : Ok X.K W H μ) {A : Around} (hu : A.units + 20 < cLine) {x : D} {vx : V} {ux : Value} (rx : Rep X.K W vx x) (wx : RelV vx ux) {ys : List D} {vs : List V} {us : List Value} {b : Bool} (rs : Reps X.K W vs ys) (ws : Vals vs us) (h : inL (fun d => eqD 20 d x) ys = some b) :
    ∃ e : Value → Bool, (∀ u, u ∈ us → SeqAt.EqAt A s u ux (e u)) ∧ us.any e = b := by
  have tri : ∀ (i : Nat) u, us[i]? = some u → ∃ v y c, vs[i]? = some v ∧ ys[i]? = some y ∧ RelV v u ∧ Rep X.K W v y ∧ eqD 20 y x = some c := fun i u hi => by
    have hl : i < vs.length := by rw [ws.length]; exact (List.getElem?_eq_some_iff.mp hi).1
    have hv : vs[i]? = some vs[i] := List.getElem?_eq_getElem hl
    obtain ⟨u', e1, w1⟩ := ws.get hv
    rw [hi] at e1
    cases e1
    obtain ⟨y, e2, r2⟩ := rs.getV hv
    obtain ⟨c, hc⟩ := inL_def h y (List.mem_of_getElem? e2)
    exact ⟨_, y, c, hv, e2, w1, r2, hc⟩
  let e : Value → Bool := fun u => decide (∃ (i : Nat) (y : D), us[i]? = some u ∧ ys[i]? = some y ∧ eqD 20 y x = some true)
  have val : ∀ (i : Nat) u y c, us[i]? = some u → ys[i]? = some y → eqD 20 y x = some c → e u = c := fun i u y c h1 h2 h3 => by
    cases c with
    | true => exact decide_eq_true ⟨i, y, h1, h2, h3⟩
    | false =>
      refine decide_eq_false fun ⟨j, y', h4, h5, h6⟩ => ?_
      obtain ⟨v, y1, c1, hv, hy, w, r, hc⟩ := tri i u h1
      rw [h2] at hy
      cases hy
      obtain ⟨v', y2, c2, hv', hy', w', r', hc'⟩ := tri j u h4
      rw [h5] at hy'
      cases hy'
      have ev := relV_inj w w'
      subst ev
      exact absurd (eqD_det I ok 20 v y y' x false true r r' h3 h6) (by decide)
  refine ⟨e, fun u hm => ?_, ?_⟩
  · obtain ⟨i, hi, eu⟩ := List.mem_iff_getElem.mp hm
    have hi' : us[i]? = some u := by rw [List.getElem?_eq_getElem hi, eu]
    obtain ⟨v, y, c, hv, hy, w, r, hc⟩ := tri i u hi'
    rw [val i u y c hi' hy hc]
    exact (eqD_at I ok 20 A y x c v vx u ux hu r rx w wx hc).2
  · have hb := inL_iff h
    cases b with
    | true =>
      obtain ⟨y, hy, hc⟩ := hb.mp rfl
      obtain ⟨i, hi, ey⟩ := List.mem_iff_getElem.mp hy
      have hl : i < us.length := by rw [← ws.length, rs.length]; exact hi
      rw [List.any_eq_true]
      exact ⟨us[i], List.getElem_mem hl, val i us[i] y true (List.getElem?_eq_getElem hl) (by rw [List.getElem?_eq_getElem hi, ey]) hc⟩
    | false =>
      rw [List.any_eq_false]
      intro u hm q
      have q : e u = true := q
      obtain ⟨i, y, h1, h2, h3⟩ := of_decide_eq_true q
      exact absurd (hb.mpr ⟨y, List.mem_of_getElem? h2, h3⟩) (by decide)
theorem opx_in (hu : X.A.units + 64 < cLine) : OpX X E (compareOp .In) dIn := by
  intro pins s σ H x y v u Q I rx ry q
  obtain ⟨W, μ, dx, dy, ok, r1, r2, p⟩ := q
  unfold dIn at p
  revert p
  cases h : inD μ dx dy with
  | none => exact fun p => p.elim
  | some b =>
    intro p
    have fin : EP X pins σ Q (.bool b) s := ⟨.bl b, H, I, rfl, post_pure ok p (.bl b)⟩
    have seqs : ∀ ys, seqD μ dy = some ys → inL (fun d => eqD 20 d dx) ys = some b → wpAny (model X.prog X.w) X.A (compareOp .In v u) (EP X pins σ Q) X.xe s := fun ys e1 e2 => by
      obtain ⟨a, vs, rfl, rs, sq⟩ := seq_rep ok r2 e1
      cases ry
      rcases sq with sq | sq
      · obtain ⟨its, rv, pl, _⟩ := I.list sq
        obtain ⟨e, he, hb⟩ := in_items I ok (A := X.A.in1) (by show X.A.units + 1 + 20 < cLine; omega) r1 rx rs rv e2
        refine SeqAt.in_listAt e pl.isList (fun w hw => he w (by simpa using hw)) ?_
        have : its.toArray.any e = its.any e := by simp
        rw [this, hb]
        exact fin
      · obtain ⟨its, rv, pl, _⟩ := I.tuple sq
        obtain ⟨e, he, hb⟩ := in_items I ok (A := X.A.in1) (by show X.A.units + 1 + 20 < cLine; omega) r1 rx rs rv e2
        refine SeqAt.in_tupleAt e (show s.heap.IsTuple a its.toArray from pl) (fun w hw => he w (by simpa using hw)) ?_
        have : its.toArray.any e = its.any e := by simp
        rw [this, hb]
        exact fin
    cases r2 with
    | str z hz =>
      unfold inD at h
      cases r1 with
      | str w hw =>
        dsimp only at h
        split at h
        · rename_i c hc
          cases h
          have ew : w = ⟨#[c]⟩ := by
            obtain ⟨l⟩ := w
            congr 1
            exact Array.toList_inj.mp (by simpa using hc)
          subst ew
          exact op_in_sign pins s σ H _ _ v u Q I rx ry ⟨c, z, rfl, rfl, post_pure ok p (.bl _)⟩
        · cases h
          exact op_in_str pins s σ H _ _ v u Q I rx ry ⟨w, z, rfl, rfl, post_pure ok p (.bl _)⟩
      | _ => cases h
    | lst z1 h1 q1 => exact seqs _ rfl (by simpa [inD, seqD] using h)
    | tup z1 h1 q1 => exact seqs _ rfl (by simpa [inD, seqD] using h)
    | @hdl a l ha =>
      unfold inD at h
      dsimp only at h
      cases hs : seqD μ (.hdl l) with
      | none => rw [hs] at h; cases h
      | some ys => rw [hs] at h; exact seqs ys hs h
    | _ => simp [inD, seqD] at h
theorem opx_notin (hu : X.A.units + 64 < cLine) : OpX X E (compareOp .NotIn) dNotIn := by
  intro pins s σ H x y v u Q I rx ry q
  obtain ⟨W, μ, dx, dy, ok, r1, r2, p⟩ := q
  unfold dNotIn at p
  revert p
  cases h : inD μ dx dy with
  | none => exact fun p => p.elim
  | some b =>
    intro p
    have fin : EP X pins σ Q (.bool (!b)) s := ⟨.bl (!b), H, I, rfl, post_pure ok p (.bl _)⟩
    have seqs : ∀ ys, seqD μ dy = some ys → inL (fun d => eqD 20 d dx) ys = some b → wpAny (model X.prog X.w) X.A (compareOp .NotIn v u) (EP X pins σ Q) X.xe s := fun ys e1 e2 => by
      obtain ⟨a, vs, rfl, rs, sq⟩ := seq_rep ok r2 e1
      cases ry
      rcases sq with sq | sq
      · obtain ⟨its, rv, pl, _⟩ := I.list sq
        obtain ⟨e, he, hb⟩ := in_items I ok (A := X.A.in1) (by show X.A.units + 1 + 20 < cLine; omega) r1 rx rs rv e2
        refine SeqAt.notIn_listAt e pl.isList (fun w hw => he w (by simpa using hw)) ?_
        have : its.toArray.any e = its.any e := by simp
        rw [this, hb]
        exact fin
      · obtain ⟨its, rv, pl, _⟩ := I.tuple sq
        obtain ⟨e, he, hb⟩ := in_items I ok (A := X.A.in1) (by show X.A.units + 1 + 20 < cLine; omega) r1 rx rs rv e2
        refine SeqAt.notIn_tupleAt e (show s.heap.IsTuple a its.toArray from pl) (fun w hw => he w (by simpa using hw)) ?_
        have : its.toArray.any e = its.any e := by simp
        rw [this, hb]
        exact fin
    cases r2 with
    | str z hz =>
      unfold inD at h
      cases r1 with
      | str w hw =>
        dsimp only at h
        split at h
        · rename_i c hc
          cases h
          have ew : w = ⟨#[c]⟩ := by
            obtain ⟨l⟩ := w
            congr 1
            exact Array.toList_inj.mp (by simpa using hc)
          subst ew
          exact op_notIn_sign pins s σ H _ _ v u Q I rx ry ⟨c, z, rfl, rfl, post_pure ok p (.bl _)⟩
        · cases h
          exact op_notIn_str pins s σ H _ _ v u Q I rx ry ⟨w, z, rfl, rfl, post_pure ok p (.bl _)⟩
      | _ => cases h
    | lst z1 h1 q1 => exact seqs _ rfl (by simpa [inD, seqD] using h)
    | tup z1 h1 q1 => exact seqs _ rfl (by simpa [inD, seqD] using h)
    | @hdl a l ha =>
      unfold inD at h
      dsimp only at h
      cases hs : seqD μ (.hdl l) with
      | none => rw [hs] at h; cases h
      | some ys => rw [hs] at h; exact seqs ys hs h
    | _ => simp [inD, seqD] at h
end
end DL
/-! DL7: built-in calls, items, slices, methods, calls with keywords. -/
namespace DL
open PySem L2

/-! ### calls of built-ins -/
def rC (K : PySem.W.Frag) (E : XK) (g : List D → Mu → R D) : List V → Hp → VK → Prop := fun xs H Q => ∃ W μ ds, Ok K W H μ ∧ Reps K W xs ds ∧ postE K E W H (g ds μ) Q
abbrev CallX (X : Cx) (E : XK) (f : Value) (g : List D → Mu → R D) : Prop := CallR X f (rC X.K E g)
theorem callx {X : Cx} {E : XK} {f : Value} {g : List D → Mu → R D} (h : ∀ W H μ ds xs Q, Ok X.K W H μ → Reps X.K W xs ds → postE X.K E W H (g ds μ) Q → ∃ r, CallR X f r ∧ r xs H Q) : CallX X E f g := by
  intro pins s σ H xs us Q I rx q
  obtain ⟨W, μ, ds, ok, r1, p⟩ := q
  obtain ⟨r, o, z⟩ := h W H μ ds xs Q ok r1 p
  exact o pins s σ H xs us Q I rx z
def dcallB (g : List D → Mu → R D) (fa : FA) : FE := fun ρ μ => (fa ρ μ).bind fun ds μ1 => g ds μ1
section
variable {X : Cx} {E : XK} {x : Str} {p pos : Pos} {e : Expr} {es : List Expr} {fa : FA} {g : List D → Mu → R D}
theorem tCB_of : ∀ σ H Q, rE X.K E (dcallB g fa) σ H Q → tCB (rC X.K E g) (rA X.K E fa) σ H Q := fun σ H Q ⟨W, ρ, μ, ok, en, p⟩ =>
  seqA p ok en fun ds μ1 W1 xs H1 g1 o1 en1 r p1 => ⟨W1, μ1, ds, o1, r, p1⟩
theorem de_callB {id : String} (hc : CallX X E (.builtin id) g) (hm : X.mg x = none) (ha : DA X E (e :: es) fa) (hg : Gl X x := by rfl) (hv : bootBuiltins x = some (.builtin id) := by decide +kernel) (hn : x ≠ "__name__" := by decide) (hdb : (x == ("__debug__" : Str)) = false := by decide)
    (he : starEach (e :: es) X.env = (false, eval e X.env) :: starEach es X.env := by rfl) (hpl : (backTo pos (starEach es X.env)).any (·.1) = false := by rfl) : DE X E (.Call (.Name x p) (e :: es) [] pos) (dcallB g fa) :=
  pe_imp (pe_callB hc hg hm hv ha hn hdb he hpl) tCB_of
theorem de_callTy {T : String} (hc : CallX X E (.type T) g) (hm : X.mg x = none) (ha : DA X E (e :: es) fa) (hg : Gl X x := by rfl) (hv : bootBuiltins x = some (.type T) := by decide +kernel) (hn : x ≠ "__name__" := by decide) (hdb : (x == ("__debug__" : Str)) = false := by decide)
    (he : starEach (e :: es) X.env = (false, eval e X.env) :: starEach es X.env := by rfl) (hpl : (backTo pos (starEach es X.env)).any (·.1) = false := by rfl) : DE X E (.Call (.Name x p) (e :: es) [] pos) (dcallB g fa) :=
  pe_imp (pe_callTy hc hg hm hv ha hn hdb he hpl) tCB_of
end
def lenD (μ : Mu) : D → Option Nat
  | .str x => some x.length
  | d => (seqD μ d).map (·.length)
def bLen : List D → Mu → R D
  | [d], μ => match lenD μ d with
    | some n => .ok (.int n) μ
    | none => .bad
  | _, _ => .bad
def bAbs : List D → Mu → R D
  | [.int i], μ => .ok (.int (if i < 0 then -i else i)) μ
  | _, _ => .bad
def bMax : List D → Mu → R D
  | [.int i, .int j], μ => .ok (.int (if j > i then j else i)) μ
  | _, _ => .bad
def bMin : List D → Mu → R D
  | [.int i, .int j], μ => .ok (.int (if j < i then j else i)) μ
  | _, _ => .bad
def bInt : List D → Mu → R D
  | [.int i], μ => .ok (.int i) μ
  | [.bl b], μ => .ok (.int (if b then 1 else 0)) μ
  | _, _ => .bad
def bools : List D → Option (List Bool)
  | [] => some []
  | .bl b :: ds => (bools ds).map (b :: ·)
  | _ => none
def bAll : List D → Mu → R D
  | [.lst ds], μ => match bools ds with
    | some bs => .ok (.bl (bs.all id)) μ
    | none => .bad
  | _, _ => .bad
def bAny : List D → Mu → R D
  | [.lst ds], μ => match bools ds with
    | some bs => .ok (.bl (bs.any id)) μ
    | none => .bad
  | _, _ => .bad
theorem bools_rep {K : PySem.W.Frag} {W : Wd} : ∀ {vs : List V} {ds : List D} {bs : List Bool}, Reps K W vs ds → bools ds = some bs → vs = bs.map V.bl
  | _, _, _, .nil, h => by
    simp [bools] at h
    subst h
    rfl
  | _, _, bs, .cons (d := d) (ds := ds) r rs, h => by
    cases d with
    | bl b =>
      cases r
      unfold bools at h
      cases e : bools ds with
      | none => rw [e] at h; cases h
      | some cs =>
        rw [e] at h
        cases h
        rw [bools_rep rs e]
        rfl
    | _ => simp [bools] at h
section
variable {X : Cx} {E : XK}
theorem cx_len : CallX X E (.builtin "len") bLen := callx fun W H μ ds xs Q ok r p => by
  unfold bLen at p
  split at p
  · rename_i d
    cases r with
    | cons r1 r2 =>
      cases r2
      split at p
      · rename_i n hn
        refine ⟨_, call_len, _, n, rfl, ?_, post_pure ok p (.int _)⟩
        cases r1 with
        | str x z =>
          simp [lenD] at hn
          exact ⟨z, hn.symm⟩
        | lst z h q =>
          simp [lenD, seqD] at hn
          exact .inl ⟨_, (same_lq ok.sub h).sq, by rw [← hn, q.length]⟩
        | tup z h q =>
          simp [lenD, seqD] at hn
          exact .inr ⟨_, same_t ok.sub h, by rw [← hn, q.length]⟩
        | @hdl a l ha =>
          unfold lenD at hn
          dsimp only at hn
          cases hs : seqD μ (.hdl l) with
          | none => rw [hs] at hn; cases hn
          | some ys =>
            rw [hs] at hn
            cases hn
            obtain ⟨a', vs, e, rs, sq⟩ := seq_rep ok (.hdl ha) hs
            cases e
            rcases sq with sq | sq
            · exact .inl ⟨vs, sq, by rw [rs.length]⟩
            · exact .inr ⟨vs, sq, by rw [rs.length]⟩
        | _ => simp [lenD, seqD] at hn
      · exact p.elim
  · exact p.elim
theorem cx_abs : CallX X E (.builtin "abs") bAbs := callx fun W H μ ds xs Q ok r p => by
  unfold bAbs at p
  split at p
  · cases r with
    | cons r1 r2 =>
      cases r2
      cases r1
      exact ⟨_, call_abs, _, rfl, post_pure ok p (.int _)⟩
  · exact p.elim
theorem cx_max (hc : X.calm = true) : CallX X E (.builtin "max") bMax := callx fun W H μ ds xs Q ok r p => by
  unfold bMax at p
  split at p
  · cases r with
    | cons r1 r2 =>
      cases r2 with
      | cons r2 r3 =>
        cases r3
        cases r1
        cases r2
        exact ⟨_, call_max2 hc, _, _, rfl, post_pure ok p (.int _)⟩
  · exact p.elim
theorem cx_min (hc : X.calm = true) : CallX X E (.builtin "min") bMin := callx fun W H μ ds xs Q ok r p => by
  unfold bMin at p
  split at p
  · cases r with
    | cons r1 r2 =>
      cases r2 with
      | cons r2 r3 =>
        cases r3
        cases r1
        cases r2
        exact ⟨_, call_min2 hc, _, _, rfl, post_pure ok p (.int _)⟩
  · exact p.elim
theorem cx_int : CallX X E (.type "int") bInt := callx fun W H μ ds xs Q ok r p => by
  unfold bInt at p
  split at p
  · cases r with
    | cons r1 r2 =>
      cases r2
      cases r1
      exact ⟨_, call_int1, .inl ⟨_, rfl, post_pure ok p (.int _)⟩⟩
  · cases r with
    | cons r1 r2 =>
      cases r2
      cases r1
      exact ⟨_, call_int1, .inr ⟨_, rfl, post_pure ok p (.int _)⟩⟩
  · exact p.elim
theorem cx_all (hc : X.calm = true) : CallX X E (.builtin "all") bAll := callx fun W H μ ds xs Q ok r p => by
  unfold bAll at p
  split at p
  · cases r with
    | cons r1 r2 =>
      cases r2
      split at p
      · rename_i bs hb
        cases r1 with
        | lst z h q =>
          have e := bools_rep q hb
          subst e
          exact ⟨_, cr_all hc, _, bs, rfl, (same_lq ok.sub h).sq, post_pure ok p (.bl _)⟩
      · exact p.elim
  · exact p.elim
theorem cx_any (hc : X.calm = true) : CallX X E (.builtin "any") bAny := callx fun W H μ ds xs Q ok r p => by
  unfold bAny at p
  split at p
  · cases r with
    | cons r1 r2 =>
      cases r2
      split at p
      · rename_i bs hb
        cases r1 with
        | lst z h q =>
          have e := bools_rep q hb
          subst e
          exact ⟨_, cr_any hc, _, bs, rfl, (same_lq ok.sub h).sq, post_pure ok p (.bl _)⟩
      · exact p.elim
  · exact p.elim
end

/-! ### repr -/
mutual
def D.py : D → Option PyData
  | .non => some .none
  | .bl b => some (.bool b)
  | .int i => some (.int i)
  | .str x => some (.str x)
  | .tup xs => (D.pys xs).map .tuple
  | .lst xs => (D.pys xs).map .list
  | _ => none
def D.pys : List D → Option (List PyData)
  | [] => some []
  | x :: xs => match x.py, D.pys xs with
    | some p, some ps => some (p :: ps)
    | _, _ => none
end
mutual
theorem py_dp {K : PySem.W.Frag} {W : Wd} {H : Hp} {μ : Mu} (ok : Ok K W H μ) : ∀ {v : V} {d : D} {q : PyData}, Rep K W v d → d.py = some q → Dp K H v q
  | _, _, q, .non, h => by
    simp [D.py] at h
    subst h
    exact .non
  | _, _, q, .bl b, h => by
    simp [D.py] at h
    subst h
    exact .bl b
  | _, _, q, .int i, h => by
    simp [D.py] at h
    subst h
    exact .int i
  | _, _, q, .str x z, h => by
    simp [D.py] at h
    subst h
    exact .str x
  | _, _, q, .tup (ds := ds) z h1 r, h => by
    unfold D.py at h
    cases e : D.pys ds with
    | none => rw [e] at h; cases h
    | some ps =>
      rw [e] at h
      cases h
      exact .tup (same_t ok.sub h1) (pys_dp ok r e)
  | _, _, q, .lst (ds := ds) z h1 r, h => by
    unfold D.py at h
    cases e : D.pys ds with
    | none => rw [e] at h; cases h
    | some ps =>
      rw [e] at h
      cases h
      exact .lst ((same_lq ok.sub h1).sq) (pys_dp ok r e)
  | _, _, q, .hdl _, h => by simp [D.py] at h
  | _, _, q, .cst _, h => by simp [D.py] at h
  | _, _, q, .glo _, h => by simp [D.py] at h
  | _, _, q, .obj _ _ _, h => by simp [D.py] at h
theorem pys_dp {K : PySem.W.Frag} {W : Wd} {H : Hp} {μ : Mu} (ok : Ok K W H μ) : ∀ {vs : List V} {ds : List D} {qs : List PyData}, Reps K W vs ds → D.pys ds = some qs → DpAll K H vs qs
  | _, _, qs, .nil, h => by
    simp [D.pys] at h
    subst h
    exact .nil
  | _, _, qs, .cons (d := d) (ds := ds) r rs, h => by
    unfold D.pys at h
    cases e1 : d.py with
    | none => rw [e1] at h; cases h
    | some p =>
      cases e2 : D.pys ds with
      | none => rw [e1, e2] at h; cases h
      | some ps =>
        rw [e1, e2] at h
        cases h
        exact .cons (py_dp ok r e1) (pys_dp ok rs e2)
end
/-- the text of a thing, where it is short enough -/
def reprD (d : D) : Option Str := match d.py with
  | some p => if p.showable = true ∧ p.hasDict = false ∧ p.depth ≤ 40 ∧ p.shown.length ≤ 1000000 then some p.shown else none
  | none => none
def bRepr : List D → Mu → R D
  | [d], μ => R.of ((reprD d).map .str) μ
  | _, _ => .bad
theorem cx_repr {X : Cx} {E : XK} (hg : X.A.guards = some []) (hu : X.A.units + 64 < cLine) : CallX X E (.builtin "repr") bRepr := by
  intro pins s σ H xs us Q I rx q
  obtain ⟨W, μ, ds, ok, r1, p⟩ := q
  unfold bRepr at p
  split at p
  · rename_i d
    revert p
    unfold reprD
    cases hp : d.py with
    | none => exact fun p => p.elim
    | some q =>
      dsimp only
      by_cases hc : q.showable = true ∧ q.hasDict = false ∧ q.depth ≤ 40 ∧ q.shown.length ≤ 1000000
      · rw [if_pos hc]
        intro p
        obtain ⟨c1, c2, c3, c4⟩ := hc
        cases r1 with
        | cons r1 r2 =>
          cases r2
          cases rx with
          | cons w1 w2 =>
            cases w2
            rename_i v u
            have fin : ∀ h' tk tk', (∀ b o, s.heap.get? b = some o → h'.get? b = some o) → EP X pins σ Q (.str q.shown tk) { s with heap := h', toks := tk' } := fun h' tk tk' hk => ⟨.str q.shown, H, I.kept hk, ⟨_, rfl⟩, post_pure ok p (.str _ (le_line c4))⟩
            have dp := py_dp ok r1 hp
            obtain ⟨as, rd⟩ := Dp.reads I q v u dp w1
            cases v with
            | ref a =>
              cases w1
              exact repr_of_reads' rd c1 (PyData.noDict_hsm c2) hg (by omega) (fun _ _ e => e) (fun h' tk tk' hk => fin h' tk tk' hk) (le_line c4)
            | non =>
              cases w1
              cases dp
              exact PySem.P.repr_of_none (fin _ _ _ fun _ _ e => e)
            | bl b =>
              cases w1
              cases dp
              exact PySem.P.repr_of_bool (fin _ _ _ fun _ _ e => e)
            | int i =>
              obtain ⟨t, rfl⟩ := w1
              cases dp
              exact PySem.P.repr_of_int (by simpa [PyData.showable] using c1) (fin _ _ _ fun _ _ e => e)
            | str x =>
              obtain ⟨t, rfl⟩ := w1
              cases dp
              exact PySem.P.repr_of_str (fin _ _ _ fun _ _ e => e) (le_line c4)
            | _ => cases dp
      · rw [if_neg hc]
        exact fun p => p.elim
  · exact p.elim

/-! ### items and slices -/
def ixD (μ : Mu) (x i : D) : Option D := match i with
  | .int k => match x with
    | .str z => (atI z.cps.toList k).map fun c => .str ⟨#[c]⟩
    | x => (seqD μ x).bind fun xs => atI xs k
  | _ => none
def dIx : D → D → Mu → R D := fun x i μ => R.of (ixD μ x i) μ
theorem Reps.atI {K : PySem.W.Frag} {W : Wd} {vs : List V} {ds : List D} {i : Int} {d : D} (r : Reps K W vs ds) (h : atI ds i = some d) : ∃ v, L2.atI vs i = some v ∧ Rep K W v d := by
  unfold L2.atI at h ⊢
  rw [r.length]
  cases e : ixN ds.length i with
  | none => rw [e] at h; cases h
  | some j =>
    rw [e] at h
    exact r.get h
section
variable {X : Cx} {E : XK}
theorem ixx {g : D → D → Mu → R D} (h : ∀ W H μ dx dy vx vy Q, Ok X.K W H μ → Rep X.K W vx dx → Rep X.K W vy dy → postE X.K E W H (g dx dy μ) Q → ∃ r, IxR X r ∧ r vx vy H Q) : IxR X (rD X.K E g) := by
  intro value slice pins s σ H x y v u Q I rx ry q hs
  obtain ⟨W, μ, dx, dy, ok, r1, r2, p⟩ := q
  obtain ⟨r, o, z⟩ := h W H μ dx dy x y Q ok r1 r2 p
  exact o value slice pins s σ H x y v u Q I rx ry z hs
theorem ixx_all : IxR X (rD X.K E dIx) := ixx fun W H μ dx dy vx vy Q ok r1 r2 p => by
  unfold dIx at p
  revert p
  cases h : ixD μ dx dy with
  | none => exact fun p => p.elim
  | some d =>
    intro p
    unfold ixD at h
    cases r2 with
    | int k =>
      dsimp only at h
      have go : ∀ ys, seqD μ dx = some ys → L2.atI ys k = some d → ∃ r, IxR X r ∧ r vx (.int k) H Q := fun ys e1 e2 => by
        obtain ⟨a, vs, rfl, rs, sq⟩ := seq_rep ok r1 e1
        obtain ⟨v, e3, r3⟩ := rs.atI e2
        rcases sq with sq | sq
        · exact ⟨_, ix_list, _, _, _, v, rfl, rfl, sq, e3, post_pure ok p r3⟩
        · exact ⟨_, ix_tup, _, _, _, v, rfl, rfl, sq, e3, post_pure ok p r3⟩
      cases r1 with
      | str z hz =>
        dsimp only at h
        cases e : L2.atI z.cps.toList k with
        | none => rw [e] at h; cases h
        | some c =>
          rw [e] at h
          cases h
          exact ⟨_, ix_str, z, k, c, rfl, rfl, hz, e, post_pure ok p (.str _ (by show 1 ≤ sizeLine; decide))⟩
      | lst z h1 q1 => exact go _ rfl (by simpa [seqD] using h)
      | tup z h1 q1 => exact go _ rfl (by simpa [seqD] using h)
      | @hdl a l ha =>
        dsimp only at h
        cases hs : seqD μ (.hdl l) with
        | none => rw [hs] at h; cases h
        | some ys => rw [hs] at h; exact go ys hs h
      | _ => simp [seqD] at h
    | _ => simp at h
theorem de_ix {a b : Expr} {fa fb : FE} {pos : Pos} (ha : DE X E a fa) (hb : DE X E b fb) (hs : PlainIx b := by exact fun _ _ => rfl) : DE X E (.Subscript a b pos) (dbin dIx fa fb) := pe_imp (pe_ix ixx_all ha hb hs) (tOp_of opd_D)
/-- a part of a slice -/
abbrev FO := En → Mu → R (Option Int)
def postO (K : PySem.W.Frag) (E : XK) (W : Wd) (H : Hp) (r : R (Option Int)) (Q : Option Int → Hp → Prop) : Prop := match r with
  | .ok o μ => ∀ W' H', Go W H W' H' → Ok K W' H' μ → Q o H'
  | .ex c fs μ => ∀ W' H' d, Go W H W' H' → Ok K W' H' μ → ExcIs K W' H' fs d → E (.ref (cl K c)) d H'
  | .bad => False
def rO (K : PySem.W.Frag) (E : XK) (f : FO) : TO := fun σ H Q => ∃ W ρ μ, Ok K W H μ ∧ Envs K W σ ρ ∧ postO K E W H (f ρ μ) Q
abbrev DO (X : Cx) (E : XK) (e : Option Expr) (f : FO) : Prop := PO X e (rO X.K E f)
theorem po_imp {e : Option Expr} {t t' : TO} (h : PO X e t) (i : ∀ σ H Q, t' σ H Q → t σ H Q) : PO X e t' := ⟨fun pins s σ H Q I q => h.run pins s σ H Q I (i σ H Q q)⟩
def onone : FO := fun _ μ => .ok none μ
def osome (f : FE) : FO := fun ρ μ => (f ρ μ).bind fun d μ1 => match d with
  | .int i => .ok (some i) μ1
  | _ => .bad
theorem do_none : DO X E none onone := po_imp po_none fun σ H Q ⟨W, ρ, μ, ok, en, p⟩ => p W H (Go.refl _ _) ok
theorem do_some {e : Expr} {f : FE} (h : DE X E e f) : DO X E (some e) (osome f) := po_imp (po_some h) fun σ H Q ⟨W, ρ, μ, ok, en, p⟩ => by
  refine ⟨W, ρ, μ, ok, en, ?_⟩
  unfold osome at p
  revert p
  cases f ρ μ with
  | ok d μ1 =>
    rw [R.bind_ok]
    cases d with
    | int i =>
      intro p W1 v H1 g1 o1 r1
      cases r1
      exact ⟨i, rfl, p W1 H1 g1 o1⟩
    | _ => exact fun p => p.elim
  | ex c fs μ1 => exact fun p => p
  | bad => exact fun p => p
def cutD (xs : List D) (lo hi : Option Int) : List D := (xs.drop (HT.sIx xs.length 0 lo)).take (HT.sIx xs.length xs.length hi - HT.sIx xs.length 0 lo)
theorem Reps.cutV {K : PySem.W.Frag} {W : Wd} {vs : List V} {ds : List D} (r : Reps K W vs ds) (lo hi : Option Int) : Reps K W (L2.cutV vs lo hi) (cutD ds lo hi) := by
  unfold L2.cutV cutD
  rw [r.length]
  exact (r.drop _).take _
theorem cutD_len (xs : List D) (lo hi : Option Int) : (cutD xs lo hi).length ≤ xs.length := by
  unfold cutD
  rw [List.length_take, List.length_drop]
  omega
def slD (x : D) (lo hi : Option Int) : Option D := match x with
  | .lst xs => some (.lst (cutD xs lo hi))
  | .tup xs => some (.tup (cutD xs lo hi))
  | .str z => some (.str (cutS z lo hi))
  | _ => none
def dsl (fe : FE) (fl fh : FO) : FE := fun ρ μ => (fe ρ μ).bind fun x μ1 => (fl ρ μ1).bind fun lo μ2 => (fh ρ μ2).bind fun hi μ3 => R.of (slD x lo hi) μ3
def rSl (K : PySem.W.Frag) (E : XK) : V → Option Int → Option Int → Hp → VK → Prop := fun x lo hi H Q => ∃ W μ dx, Ok K W H μ ∧ Rep K W x dx ∧ postE K E W H (R.of (slD dx lo hi) μ) Q
theorem slr {r : V → Option Int → Option Int → Hp → VK → Prop} (h : ∀ x lo hi H Q, r x lo hi H Q → ∃ r', SlR X r' ∧ r' x lo hi H Q) : SlR X r := by
  intro pins s σ H x v vl vu lo hi sl Q I rx hs pl pu q
  obtain ⟨r', o, z⟩ := h x lo hi H Q q
  exact o pins s σ H x v vl vu lo hi sl Q I rx hs pl pu z
theorem cutS_len (z : Str) (lo hi : Option Int) : (cutS z lo hi).length ≤ z.length := by
  show (((z.cps.toList.drop _).take _).toArray).size ≤ z.cps.size
  rw [List.size_toArray, List.length_take, List.length_drop, Array.length_toList]
  omega
theorem sl_all : SlR X (rSl X.K E) := slr fun x lo hi H Q ⟨W, μ, dx, ok, r, p⟩ => by
  cases r with
  | lst z h q => exact ⟨_, sl_list, _, _, rfl, (same_lq ok.sub h).sq, fun a ha => p _ _ _ (Go.new ok ha) (ok.new ha) (rep_lst ok ha (Nat.le_trans (cutD_len _ _ _) z) (q.cutV lo hi))⟩
  | @tup a xs ds z h q =>
    refine ⟨_, sl_tupA, _, _, rfl, same_t ok.sub h, fun hw => ?_, fun _ b hb => p _ _ _ (Go.new ok hb) (ok.new hb) (rep_tup ok hb (Nat.le_trans (cutD_len _ _ _) z) (q.cutV lo hi))⟩
    have e : cutD ds lo hi = ds := by
      unfold cutD
      rw [← q.length, hw.1, hw.2]
      simp [q.length]
    exact post_pure ok p (by rw [e]; exact .tup z h q)
  | str y z => exact ⟨_, sl_str, y, rfl, z, post_pure ok p (.str _ (Nat.le_trans (cutS_len _ _ _) z))⟩
  | _ => exact p.elim
theorem de_slice {e : Expr} {lo hi : Option Expr} {fe : FE} {fl fh : FO} {p2 pos : Pos} (he : DE X E e fe) (hl : DO X E lo fl) (hh : DO X E hi fh) : DE X E (.Subscript e (.Slice lo hi none p2) pos) (dsl fe fl fh) := by
  refine pe_imp (pe_slice (sl_all (E := E)) he hl hh) fun σ H Q ⟨W, ρ, μ, ok, en, p⟩ => ?_
  refine seq p ok en fun x μ1 W1 v H1 g1 o1 en1 r p1 => ⟨W1, ρ, μ1, o1, en1, ?_⟩
  revert p1
  cases fl ρ μ1 with
  | ex c fs μ2 => exact fun p => p
  | bad => exact fun p => p
  | ok lo μ2 =>
    rw [R.bind_ok]
    intro p1 W2 H2 g2 o2
    refine ⟨W2, ρ, μ2, o2, en1.mono g2.le, ?_⟩
    have p2 := post.mono g2 p1
    revert p2
    cases fh ρ μ2 with
    | ex c fs μ3 => exact fun p => p
    | bad => exact fun p => p
    | ok hi μ3 =>
      rw [R.bind_ok]
      exact fun p2 W3 H3 g3 o3 => ⟨W3, μ3, x, o3, r.mono (g2.le.trans g3.le), post.mono g3 p2⟩
end

/-! ### methods of built-in types -/
def tyD (T : String) (d : D) (μ : Mu) : Bool := match d with
  | .str _ => T == "str"
  | .lst _ => T == "list"
  | .hdl l => match μ[l]? with
    | some (.lst _) => T == "list"
    | some (.dct _ _) => T == "dict"
    | some (.dtt _ _) => T == "dict"
    | _ => false
  | _ => false
theorem tyD_rep {K : PySem.W.Frag} {W : Wd} {H : Hp} {μ : Mu} {T : String} {v : V} {d : D} (ok : Ok K W H μ) (r : Rep K W v d) (h : tyD T d μ = true) : tyV K T v H := by
  cases r with
  | str x z => exact eq_of_beq h
  | lst z h1 q => exact .inl ⟨eq_of_beq h, _, (same_lq ok.sub h1).sq⟩
  | @hdl a l ha =>
    unfold tyD at h
    dsimp only at h
    cases hm : μ[l]? with
    | none => rw [hm] at h; cases h
    | some m =>
      rw [hm] at h
      obtain ⟨o, ho, c⟩ := ok.cell l a m ha hm
      cases m with
      | lst xs =>
        obtain ⟨vs, rfl, _⟩ := c
        exact .inl ⟨eq_of_beq h, _, .inl (.inl ho)⟩
      | dct ks xs =>
        obtain ⟨vs, rfl, _⟩ := c
        exact .inr (.inr (.inl ⟨eq_of_beq h, .inl ⟨_, ho⟩⟩))
      | dtt ks xs =>
        obtain ⟨vs, rfl, _⟩ := c
        exact .inr (.inr (.inl ⟨eq_of_beq h, .inr ⟨_, ho⟩⟩))
      | _ => cases h
  | _ => cases h
def rM (K : PySem.W.Frag) (E : XK) (g : D → List D → Mu → R D) : V → List V → Hp → VK → Prop := fun x xs H Q => ∃ W μ d ds, Ok K W H μ ∧ Rep K W x d ∧ Reps K W xs ds ∧ postE K E W H (g d ds μ) Q
abbrev MtX (X : Cx) (E : XK) (id : String) (g : D → List D → Mu → R D) : Prop := MtR X id (rM X.K E g)
theorem mtx {X : Cx} {E : XK} {id : String} {g : D → List D → Mu → R D} (h : ∀ W H μ d ds x xs Q, Ok X.K W H μ → Rep X.K W x d → Reps X.K W xs ds → postE X.K E W H (g d ds μ) Q → ∃ r, MtR X id r ∧ r x xs H Q) : MtX X E id g := by
  intro pins s σ H x xs v us Q I rx rs q
  obtain ⟨W, μ, d, ds, ok, r1, r2, p⟩ := q
  obtain ⟨r, o, z⟩ := h W H μ d ds x xs Q ok r1 r2 p
  exact o pins s σ H x xs v us Q I rx rs z
def dbm (T : String) (g : D → List D → Mu → R D) (fo : FE) (fa : FA) : FE := fun ρ μ => (fo ρ μ).bind fun x μ1 => if tyD T x μ1 = true then (fa ρ μ1).bind fun ds μ2 => g x ds μ2 else .bad
section
variable {X : Cx} {E : XK} {o e : Expr} {es : List Expr} {fo : FE} {fa : FA} {name : Str} {apos cpos : Pos} {T id : String} {g : D → List D → Mu → R D}
theorem de_bm (pa : PlainAttrs T) (slot : Slot T name id) (hty : typeOf (.builtin id) = pure (.type "method_descriptor")) (hm : MtX X E id g) (ho : DE X E o fo) (ha : DA X E (e :: es) fa)
    (hbase : attributeBase o name X.env (eval o X.env) = eval o X.env := by rfl)
    (hfew : ((backTo cpos (starEach (e :: es) X.env)).all (fun x => !x.1) && (backToKw cpos (keywordEach [] X.env)).all (fun x => x.1.isSome)
      && decide ((e :: es).length + ([] : List Keyword).length + (if ([] : List Keyword).isEmpty then 0 else 1) < 30)) = true := by rfl)
    (hline : (apos.endLine == cpos.line) = true := by rfl) (hs : starEach (e :: es) X.env = (false, eval e X.env) :: starEach es X.env := by rfl) (hplain : (backTo cpos (starEach es X.env)).any (·.1) = false := by rfl) :
    DE X E (.Call (.Attribute o name apos) (e :: es) [] cpos) (dbm T g fo fa) := by
  refine pe_imp (pe_bm pa slot hty hm ho ha hbase hfew hline hs hplain) fun σ H Q ⟨W, ρ, μ, ok, en, p⟩ => ?_
  refine seq p ok en fun x μ1 W1 v H1 g1 o1 en1 r p1 => ?_
  by_cases ht : tyD T x μ1 = true
  · rw [if_pos ht] at p1
    exact ⟨tyD_rep o1 r ht, seqA p1 o1 en1 fun ds μ2 W2 xs H2 g2 o2 en2 rs p2 => ⟨W2, μ2, x, ds, o2, r.mono g2.le, rs, p2⟩⟩
  · rw [if_neg ht] at p1
    exact p1.elim
end
def mAppend : D → List D → Mu → R D := fun x ds μ => match x, ds with
  | .hdl l, [d] => match μ[l]? with
    | some (.lst xs) => if xs.length < 1000000 then .ok .non (μ.set l (.lst (xs ++ [d]))) else .bad
    | _ => .bad
  | _, _ => .bad
theorem mx_append {X : Cx} {E : XK} : MtX X E "list.append" mAppend := mtx fun W H μ d ds x xs Q ok r rs p => by
  unfold mAppend at p
  split at p
  · rename_i l y
    split at p
    · rename_i ys hm
      split at p
      · rename_i hn
        cases r with
        | @hdl a _ ha =>
          cases rs with
          | cons r1 r2 =>
            cases r2
            obtain ⟨o, ho, vs, rfl, q⟩ := ok.cell l a _ ha hm
            obtain ⟨ok2, g2⟩ := ok.setcell (m' := .lst (ys ++ [y])) ha hm (fun z => nomatch z) ⟨vs ++ [_], rfl, q.app (.cons r1 .nil)⟩
            exact ⟨_, mt_append, a, vs, _, rfl, rfl, ho, by rw [q.length]; exact Nat.lt_of_lt_of_le hn (by decide), p _ _ _ g2 ok2 .non⟩
      · exact p.elim
    · exact p.elim
  · exact p.elim
def mSplit : D → List D → Mu → R D := fun x ds μ => match x, ds with
  | .str a, [.str b] => if 0 < b.length ∧ a.length ≤ 1000000 ∧ (∀ y ∈ Txt.split a b, y.length ≤ 1000000) then .ok (.lst ((Txt.split a b).map .str)) μ else .bad
  | _, _ => .bad
def strsD : List D → Option (List Str)
  | [] => some []
  | .str x :: ds => (strsD ds).map (x :: ·)
  | _ => none
def mJoin : D → List D → Mu → R D := fun x ds μ => match x, ds with
  | .str a, [.lst ds] => match strsD ds with
    | some ys => if (ys.map (·.length)).sum + ys.length * a.length ≤ 1000000 ∧ (Txt.join a ys).length ≤ 1000000 then .ok (.str (Txt.join a ys)) μ else .bad
    | none => .bad
  | _, _ => .bad

/-! ### stores into a cell's list -/
def gsetix (fo fi fe : FE) : FS := fun ρ μ => (fe ρ μ).to fun d μ1 => (fo ρ μ1).to fun x μ2 => (fi ρ μ2).to fun i μ3 => match x, i with
  | .hdl l, .int k => match μ3[l]? with
    | some (.lst xs) => match ixN xs.length k with
      | some j => .nx ρ (μ3.set l (.lst (xs.set j d)))
      | none => .bad
    | _ => .bad
  | _, _ => .bad
theorem ds_setix {X : Cx} {E : XK} {o i e : Expr} {fo fi fe : FE} {pos pos' : Pos} (he : DE X E e fe) (ho : DE X E o fo) (hi : DE X E i fi)
    (ha : ∀ v, assign (.Subscript o i pos') X.env v = (do
      let ov ← holding [v] (eval o X.env)
      let iv ← holding [v, ov] (eval i X.env)
      standAt pos'
      holding [v, ov, iv] (setItem ov iv v)
      release [v, ov, iv] []) := by intro _; rfl) (hs : swapsWithSole [.Subscript o i pos'] e pos.line X.env = pure false := by rfl) (hw : swappedStores [.Subscript o i pos'] e X.env = pure none := by rfl)
    (h1 : (assignEach [.Subscript o i pos'] X.env).map (·.2) = [assign (.Subscript o i pos') X.env] := by rfl) : DS X E (.Assign [.Subscript o i pos'] e pos) (gsetix fo fi fe) := by
  refine ps_imp (ps_asg he (pg_sub ho hi set_list ha) hs hw h1) fun Z σ H ⟨W, ρ, μ, ok, en, p⟩ => ?_
  refine seqS p ok en fun d μ1 W1 v H1 g1 o1 en1 r p1 => ?_
  refine seqS p1 o1 en1 fun x μ2 W2 xv H2 g2 o2 en2 r2 p2 => ?_
  refine seqS p2 o2 en2 fun i μ3 W3 iv H3 g3 o3 en3 r3 p3 => ?_
  split at p3
  · rename_i l k
    split at p3
    · rename_i xs hm
      split at p3
      · rename_i j hj
        cases r2 with
        | @hdl a _ ha =>
          cases r3
          have ha3 := prefix_get g3.le.io ha
          obtain ⟨ob, ho, vs, rfl, q⟩ := o3.cell l a _ ha3 hm
          obtain ⟨ok4, g4⟩ := o3.setcell (m' := .lst (xs.set j d)) ha3 hm (fun z => nomatch z) ⟨vs.set j v, rfl, q.set ((r.mono g2.le).mono g3.le) j⟩
          exact ⟨a, vs, k, j, rfl, rfl, ho, by rw [q.length]; exact hj, p3 _ _ _ g4 ok4 en3⟩
      · exact p3.elim
    · exact p3.elim
  · exact p3.elim
end DL
/-! DL8: calls with keywords, texts, sets of numbers. -/
namespace DL
open PySem L2

/-! ### calls with keywords -/
/-- how n values and the keywords ks come to the parameters -/
structure KDfl (K : PySem.W.Frag) (fd : FuncData) (ps : List Str) (n : Nat) (ks : List Str) (gD : List D → List D → List D) : Prop where
  ex : ∃ (g : List Value → List Value → List Value) (gV : List V → List V → List V), (∀ us ws, us.length = n → ws.length = ks.length → (g us ws).length = ps.length) ∧ KBn K fd ps n ks g gV ∧
    ∀ W vs ds zs es, vs.length = n → zs.length = ks.length → Reps K W vs ds → Reps K W zs es → Reps K W (gV vs zs) (gD ds es)
abbrev DK (X : Cx) (E : XK) (kws : List Keyword) (f : FA) : Prop := PK X kws (rA X.K E f)
theorem pk_imp {X : Cx} {e : List Keyword} {t t' : TA} (h : PK X e t) (i : ∀ σ H Q, t' σ H Q → t σ H Q) : PK X e t' := ⟨fun pos pins s σ H Q I q => h.run pos pins s σ H Q I (i σ H Q q)⟩
def dcallK (F : List D → Mu → R D) (gD : List D → List D → List D) (fa fk : FA) : FE := fun ρ μ => (fa ρ μ).bind fun ds μ1 => (fk ρ μ1).bind fun es μ2 => F (gD ds es) μ2
section
variable {X : Cx} {E : XK} {k n : Nat} {f : Addr} {fd : FuncData} {ps ks : List Str} {F : List D → Mu → R D} {gD : List D → List D → List D} {x : Str} {p pos kpos : Pos} {e : Expr} {es : List Expr} {kws : List Keyword} {fa fk : FA} {nm : Option Str} {fe : FE}
theorem dk_nil : DK X E [] aNil := pk_imp pk_nil fun σ H Q ⟨W, ρ, μ, ok, en, p⟩ => p W [] H (Go.refl W H) ok .nil
theorem dk_cons (h : DE X E e fe) (hs : DK X E kws fk) : DK X E (⟨nm, e, kpos⟩ :: kws) (aCons fe fk) := by
  refine pk_imp (pk_cons h hs) fun σ H Q ⟨W, ρ, μ, ok, en, p⟩ => ?_
  refine ⟨W, ρ, μ, ok, en, ?_⟩
  unfold aCons at p
  revert p
  cases fe ρ μ with
  | ok d μ1 =>
    intro p W1 x H1 g1 o1 r1
    refine ⟨W1, ρ, μ1, o1, en.mono g1.le, ?_⟩
    have p := postA.mono g1 p
    revert p
    rw [R.bind_ok]
    cases fk ρ μ1 with
    | ok ds μ2 => exact fun p W2 xs H2 g2 o2 r2 => p W2 (x :: xs) H2 g2 o2 (.cons (r1.mono g2.le) r2)
    | ex c fs μ2 => exact fun p => p
    | bad => exact fun p => p
  | ex c fs μ1 => exact fun p => p
  | bad => exact fun p => p
theorem callF_kw {pins : List (Addr × Obj)} {σ : St} {H : Hp} {s : Shared} {Q : VK} {us ws : List Value} {vs zs : List V} {W : Wd} {ds es : List D} {μ : Mu} (G : FnG X.prog X.w X.K X.mg X.base k f fd ps F) (c : Cal X E k) (b : KDfl X.K fd ps n ks gD)
    (I : Inv X pins σ H s) (hn : vs.length = n) (hk : zs.length = ks.length) (rv : Vals vs us) (rz : Vals zs ws) (ok : Ok X.K W H μ) (r : Reps X.K W vs ds) (r' : Reps X.K W zs es) (q : postE X.K E W H (F (gD ds es) μ) Q) : wpAny (model X.prog X.w) X.A (call (.ref f) us (ks.zip ws)) (EP X pins σ Q) X.xe s := by
  obtain ⟨g, gV, hl, kb, rp⟩ := b.ex
  have h1 : us.length = n := by rw [← rv.length]; exact hn
  have h2 : ws.length = ks.length := by rw [← rz.length]; exact hk
  exact wpAny_call (run_g (args := ⟨us, ks.zip ws⟩) G c I (hl us ws h1 h2) (kb.to s us ws I.kIn h1 h2) (kb.rel rv rz) ok (rp W vs ds zs es hn hk r r') q)
theorem de_callK (G : FnG X.prog X.w X.K X.mg X.base k f fd ps F) (c : Cal X E k) (hm : X.mg x = some (.ref f)) (hk : PySem.W.keepIn X.K (.ref f) = true) (b : KDfl X.K fd ps (e :: es).length ks gD) (ha : DA X E (e :: es) fa) (hkw : DK X E kws fk)
    (hf : HasLen fa (e :: es).length := by repeat (first | exact aNil_len | refine aCons_len ?_)) (hf2 : HasLen fk ks.length := by repeat (first | exact aNil_len | refine aCons_len ?_))
    (hall : (backToKw pos (keywordEach kws X.env)).all (·.1.isSome) = true := by rfl) (hks : (backToKw pos (keywordEach kws X.env)).filterMap (·.1) = ks := by rfl)
    (hg : Gl X x := by rfl) (hdb : (x == ("__debug__" : Str)) = false := by decide) (he : starEach (e :: es) X.env = (false, eval e X.env) :: starEach es X.env := by rfl)
    (hpl : ((backTo pos (starEach (e :: es) X.env)).any (·.1) || (backToKw pos (keywordEach kws X.env)).any (·.1.isNone)) = false := by rfl) :
    DE X E (.Call (.Name x p) (e :: es) kws pos) (dcallK F gD fa fk) := by
  refine ⟨fun pins s σ H Q I q => ?_⟩
  obtain ⟨W, ρ, μ, ok, en, pq⟩ := q
  refine wpAny_Call_Name_kw (ld_glob I hg hm ?_ hdb)
  unfold dcallK at pq
  have rd : rA X.K E fa σ H (fun vs H1 => ∃ W1 ds μ1, vs.length = (e :: es).length ∧ Ok X.K W1 H1 μ1 ∧ Envs X.K W1 σ ρ ∧ Reps X.K W1 vs ds ∧ postE X.K E W1 H1 ((fk ρ μ1).bind fun es μ2 => F (gD ds es) μ2) Q) := by
    refine ⟨W, ρ, μ, ok, en, ?_⟩
    revert pq
    cases hq : fa ρ μ with
    | ok ds μ1 => exact fun p W1 xs H1 g o r => ⟨W1, ds, μ1, by rw [r.length]; exact hf ρ μ ds μ1 hq, o, en.mono g.le, r, post.mono g p⟩
    | ex c fs μ1 => exact fun p => p
    | bad => exact fun p => p
  refine PySem.W.callWith_KW (h₀ := X.base) I.ok.mod.kin hk hall (thn (ha.run pos pins s σ H _ I rd) fun us s1 ⟨vs, H1, I1, r, W1, ds, μ1, hn, o1, en1, r1, q1⟩ => ?_) hpl he
  have rd2 : rA X.K E fk σ H1 (fun zs H2 => ∃ W2 es μ2, zs.length = ks.length ∧ Ok X.K W2 H2 μ2 ∧ Le W1 W2 ∧ Reps X.K W2 zs es ∧ postE X.K E W2 H2 (F (gD ds es) μ2) Q) := by
    refine ⟨W1, ρ, μ1, o1, en1, ?_⟩
    revert q1
    cases hq : fk ρ μ1 with
    | ok es μ2 => exact fun p W2 xs H2 g o r => ⟨W2, es, μ2, by rw [r.length]; exact hf2 ρ μ1 es μ2 hq, o, g.le, r, post.mono g p⟩
    | ex c fs μ1 => exact fun p => p
    | bad => exact fun p => p
  refine thn (hkw.run pos pins s1 σ H1 _ I1 rd2) fun ws s2 ⟨zs, H2, I2, rz, W2, es, μ2, hz, o2, l2, r2, q2⟩ => ⟨I2.kIn, ?_⟩
  rw [hks]
  exact callF_kw G c b I2 hn hz r rz o2 (r1.mono l2) r2 q2
theorem de_callK0 (G : FnG X.prog X.w X.K X.mg X.base k f fd ps F) (c : Cal X E k) (hm : X.mg x = some (.ref f)) (hk : PySem.W.keepIn X.K (.ref f) = true) (b : KDfl X.K fd ps 0 ks gD) (hkw : DK X E kws fk)
    (hf2 : HasLen fk ks.length := by repeat (first | exact aNil_len | refine aCons_len ?_))
    (hall : (backToKw pos (keywordEach kws X.env)).all (·.1.isSome) = true := by rfl) (hks : (backToKw pos (keywordEach kws X.env)).filterMap (·.1) = ks := by rfl)
    (hg : Gl X x := by rfl) (hdb : (x == ("__debug__" : Str)) = false := by decide)
    (hpl : ((backTo pos (starEach [] X.env)).any (·.1) || (backToKw pos (keywordEach kws X.env)).any (·.1.isNone)) = false := by rfl) :
    DE X E (.Call (.Name x p) [] kws pos) (dcallK F gD aNil fk) := by
  refine ⟨fun pins s σ H Q I q => ?_⟩
  obtain ⟨W, ρ, μ, ok, en, pq⟩ := q
  refine wpAny_Call_Name_kw (ld_glob I hg hm ?_ hdb)
  unfold dcallK aNil at pq
  rw [R.bind_ok] at pq
  have rd2 : rA X.K E fk σ H (fun zs H2 => ∃ W2 es μ2, zs.length = ks.length ∧ Ok X.K W2 H2 μ2 ∧ Reps X.K W2 zs es ∧ postE X.K E W2 H2 (F (gD [] es) μ2) Q) := by
    refine ⟨W, ρ, μ, ok, en, ?_⟩
    revert pq
    cases hq : fk ρ μ with
    | ok es μ2 => exact fun p W2 xs H2 g o r => ⟨W2, es, μ2, by rw [r.length]; exact hf2 ρ μ es μ2 hq, o, r, post.mono g p⟩
    | ex c fs μ1 => exact fun p => p
    | bad => exact fun p => p
  refine PySem.W.callWith_KW0 (h₀ := X.base) I.ok.mod.kin hk hall (thn (hkw.run pos pins s σ H _ I rd2) fun ws s2 ⟨zs, H2, I2, rz, W2, es, μ2, hz, o2, r2, q2⟩ => ⟨I2.kIn, ?_⟩) hpl
  rw [hks]
  exact callF_kw (us := []) (vs := []) G c b I2 rfl hz .nil rz o2 .nil r2 q2
end
section
variable {K : PySem.W.Frag} {x qual : Str} {params : Arguments} {body : List Stmt} {scope : Scope} {kws : List (Str × V)} {f : Addr} {fd : FuncData} {ps : List Str}
/-- keyword-only defaults alone: n values written, the keywords ks, the lacking ones ms -/
theorem kdfl (F : FunD K x qual params body scope [] kws f fd) (n : Nat) (ks : List Str) (ms : List (Str × V)) (md : List D) (g : {α : Type} → List α → List α → List α → List α) (hk : kws ≠ []) (hms : ∀ q ∈ ms, q ∈ kws)
    (hrel : ∀ {vs mz zs : List V} {us mv ws : List Value}, Vals vs us → Vals mz mv → Vals zs ws → Vals (g vs mz zs) (g us mv ws))
    (hrep : ∀ W vs ds zs es, vs.length = n → zs.length = ks.length → Reps K W vs ds → Reps K W zs es → Reps K W (g vs (ms.map (·.2)) zs) (g ds md es))
    (hlen : ∀ us mv ws : List Value, us.length = n → mv.length = ms.length → ws.length = ks.length → (g us mv ws).length = ps.length)
    (h : ∀ (D : Addr) (doc pm : Value) (an : Option Addr) (cdv ct : Value) (us mv ws : List Value), us.length = n → mv.length = ms.length → ws.length = ks.length →
      KwChain D ((ms.map (·.1)).zip mv) (bindArgs (PySem.W.fnOf x qual params body scope .none (.ref D) doc pm an cdv ct) ⟨us, ks.zip ws⟩) (ps.zip (g us mv ws))) :
    KDfl K fd ps n ks (fun ds es => g ds md es) := by
  obtain ⟨oc, od, dV, kV, doc, pm, an, cdv, ct, osl, rfl, lk, hcd, hD, hK⟩ := F.ex
  rcases hD with ⟨_, rfl⟩ | ⟨e, _⟩
  · rcases hK with e | ⟨D0, rfl, hq⟩
    · exact absurd e hk
    · obtain ⟨mv, hl, rk, hks⟩ := kwd_vals (ms := ms) fun q hm => hq q (hms q hm)
      exact ⟨fun us ws => g us mv ws, fun vs zs => g vs (ms.map (·.2)) zs, fun us ws h1 h2 => hlen us mv ws h1 hl h2,
        ⟨fun s us ws X l1 l2 => BindsTo.of_looks fun M => KwChain.looks X hks (h D0 doc pm an cdv ct us mv ws l1 hl l2), fun r1 r2 => hrel r1 rk r2⟩, hrep⟩
  · exact absurd rfl e
/-- .. all lacking ones by their places alone -/
theorem dfl_kw (F : FunD K x qual params body scope [] kws f fd) (n : Nat) (kd : List D) (hk : kws ≠ []) (hn : n + kws.length = ps.length) (hr : ∀ W, Reps K W (kws.map (·.2)) kd)
    (h : ∀ (D : Addr) (doc pm : Value) (an : Option Addr) (cdv ct : Value) (us ks : List Value), us.length = n → ks.length = kws.length →
      KwChain D ((kws.map (·.1)).zip ks) (bindArgs (PySem.W.fnOf x qual params body scope .none (.ref D) doc pm an cdv ct) ⟨us, []⟩) (ps.zip (us ++ ks))) : Dfl K fd ps n kd := by
  obtain ⟨ds, rv, hb⟩ := F.binds0 n hk hn h
  exact ⟨_, ds, rv, hr, by rw [← rv.length, List.length_map]; exact hn, hb⟩
end

/-! ### texts -/
theorem strs_reps {K : PySem.W.Frag} {W : Wd} : ∀ {ys : List Str}, (∀ y ∈ ys, y.length ≤ sizeLine) → Reps K W (ys.map V.str) (ys.map D.str)
  | [], _ => .nil
  | y :: ys, h => .cons (.str y (h y (by simp))) (strs_reps fun z hz => h z (by simp [hz]))
theorem strsD_rep {K : PySem.W.Frag} {W : Wd} : ∀ {vs : List V} {ds : List D} {ys : List Str}, Reps K W vs ds → strsD ds = some ys → vs = ys.map V.str
  | _, _, _, .nil, h => by
    simp [strsD] at h
    subst h
    rfl
  | _, _, _, .cons (d := d) (ds := ds) r rs, h => by
    cases d with
    | str x =>
      cases r
      unfold strsD at h
      cases e : strsD ds with
      | none => rw [e] at h; cases h
      | some cs =>
        rw [e] at h
        cases h
        rw [strsD_rep rs e]
        rfl
    | _ => simp [strsD] at h

/-! ### len(set(xs)) of numbers -/
def intsD : List D → Option (List Int)
  | [] => some []
  | .int x :: ds => (intsD ds).map (x :: ·)
  | _ => none
theorem intsD_rep {K : PySem.W.Frag} {W : Wd} : ∀ {vs : List V} {ds : List D} {ys : List Int}, Reps K W vs ds → intsD ds = some ys → vs = ys.map V.int
  | _, _, _, .nil, h => by
    simp [intsD] at h
    subst h
    rfl
  | _, _, _, .cons (d := d) (ds := ds) r rs, h => by
    cases d with
    | int x =>
      cases r
      unfold intsD at h
      cases e : intsD ds with
      | none => rw [e] at h; cases h
      | some cs =>
        rw [e] at h
        cases h
        rw [intsD_rep rs e]
        rfl
    | _ => simp [intsD] at h
theorem vals_ints : ∀ {ns : List Int} {us : List Value}, Vals (ns.map V.int) us → PyProof.Rows.IntsAre us ns
  | [], _, .nil => .nil
  | n :: ns, _, .cons r t => by
    obtain ⟨k, rfl⟩ := r
    exact .cons n k (vals_ints t)
/-- how many unlike ones -/
def kinds (ns : List Int) : Nat := (PyProof.Rows.firstMet (fun i => ns.getD i 0) ns.length).length
def dlenset (f : FE) : FE := fun ρ μ => (f ρ μ).bind fun d μ1 => match d with
  | .lst ds => match intsD ds with
    | some ns => if ns.length ≤ 1000 then .ok (.int (kinds ns)) μ1 else .bad
    | none => .bad
  | _ => .bad
theorem de_lenset {X : Cx} {E : XK} {a : Expr} {fa : FE} {p p2 q pos : Pos} (hm : X.mg "len" = none) (hm2 : X.mg "set" = none) (ha : DE X E a fa) (hc : X.calm = true := by rfl) (hg : Gl X "len" := by rfl) (hg2 : Gl X "set" := by rfl)
    (na : starEach [a] X.env = (false, eval a X.env) :: starEach [] X.env := by rfl) : DE X E (.Call (.Name "len" p) [.Call (.Name "set" p2) [a] [] q] [] pos) (dlenset fa) := by
  constructor
  intro pins s σ H Q I rd
  obtain ⟨W, ρ, μ, ok, en, z⟩ := rd
  unfold dlenset at z
  have inner : rE X.K E fa σ H (fun x H1 => ∃ l ns, x = .ref l ∧ SqL X.K H1 l (ns.map V.int) ∧ ns.length ≤ 1000 ∧ Q (.int (kinds ns)) H1) := seq z ok en fun d μ1 W1 v H1 g1 o1 en1 r z1 => by
    cases r with
    | lst zz h rs =>
      dsimp only at z1
      split at z1
      · rename_i ns hns
        have e := intsD_rep rs hns
        subst e
        split at z1
        · rename_i hl
          exact ⟨_, ns, rfl, (same_lq o1.sub h).sq, hl, post_pure o1 z1 (.int _)⟩
        · exact z1.elim
      · exact z1.elim
    | _ => exact z1.elim
  refine PyProof.Rows.Call_ (ld_blt I hg hm PySem.boot_len (PyProof.Rows.callWith_builtin1 (PyProof.Rows.args_cons ?_ rfl) rfl rfl))
  refine PyProof.Rows.Call_ (ld_blt I hg2 hm2 PyProof.Rows.boot_set (PyProof.Rows.callWith_type1 (PyProof.Rows.args_cons (thn (ha.run pins s σ H _ I inner) fun v s1 hv => PyProof.Rows.args_nil ?_) na) na rfl))
  obtain ⟨y, H1, I1, w1, l, ns, ey, sq, hl, fin⟩ := hv
  subst ey
  cases w1
  obtain ⟨its, rv, pl, _⟩ := I1.list sq
  have hsz : its.toArray.size = ns.length := by
    rw [List.size_toArray, ← rv.length, List.length_map]
  refine PySem.call_set_list (I1.ok.hd hc) pl.isList (ns := ns) (by simpa using vals_ints rv) (by rw [hsz]; unfold scanBound; omega) fun h' tk made old => PyProof.Rows.args_nil ?_
  rw [hsz] at made
  obtain ⟨ob, en', ep, tt, ho, hex, hd, _, _, _, hf, hn⟩ := made
  have few : (PyProof.Rows.firstMet (fun i => ns.getD i 0) ns.length).length ≤ ns.length := PyProof.Rows.firstMet_length_le _ _
  exact call_len_set ho hex hd hf (by rw [hn]; omega) ⟨.int (kinds ns), H1, (I1.kept fun b o e => old b o (Heap.lt_size e) e).tok _, ⟨_, by rw [hn]; rfl⟩, fin⟩
end DL
/-! DL9: and, or, not as values, chains, conditional expressions, isinstance, texts. -/
namespace DL
open PySem L2

def dand (f g : FE) : FE := fun ρ μ => (f ρ μ).bind fun d μ1 => match d with
  | .bl true => g ρ μ1
  | .bl false => .ok (.bl false) μ1
  | _ => .bad
def dor (f g : FE) : FE := fun ρ μ => (f ρ μ).bind fun d μ1 => match d with
  | .bl true => .ok (.bl true) μ1
  | .bl false => g ρ μ1
  | _ => .bad
def dnot (f : FE) : FE := fun ρ μ => (f ρ μ).bind fun d μ1 => match d with
  | .bl b => .ok (.bl (!b)) μ1
  | _ => .bad
def dneg (f : FE) : FE := fun ρ μ => (f ρ μ).bind fun d μ1 => match d with
  | .int i => .ok (.int (-i)) μ1
  | _ => .bad
def dite (c : FT) (f g : FE) : FE := fun ρ μ => (c ρ μ).bind fun b μ1 => if b = true then f ρ μ1 else g ρ μ1
def dchain (g1 g2 : D → D → Mu → R D) (fa fb fc : FE) : FE := fun ρ μ => (fa ρ μ).bind fun x μ1 => (fb ρ μ1).bind fun y μ2 => (g1 x y μ2).bind fun z μ3 => match z with
  | .bl true => (fc ρ μ3).bind fun w μ4 => g2 y w μ4
  | .bl false => .ok (.bl false) μ3
  | _ => .bad
section
variable {X : Cx} {E : XK} {a b c : Expr} {rest : List Expr} {pos : Pos} {f g h : FE}
theorem de_one {op : BoolOp} (ha : DE X E a f) : DE X E (.BoolOp op [a] pos) f := pe_one ha
theorem de_and (ha : DE X E a f) (hb : DE X E (.BoolOp .And (b :: rest) pos) g) : DE X E (.BoolOp .And (a :: b :: rest) pos) (dand f g) := pe_imp (pe_and ha hb) fun σ H Q ⟨W, ρ, μ, ok, en, p⟩ =>
  seq p ok en fun d μ1 W1 x H1 g1 o1 en1 r p1 => by
    cases d with
    | bl k =>
      cases r
      cases k with
      | true => exact ⟨true, rfl, W1, ρ, μ1, o1, en1, p1⟩
      | false => exact ⟨false, rfl, post_pure o1 p1 (.bl _)⟩
    | _ => exact p1.elim
theorem de_or (ha : DE X E a f) (hb : DE X E (.BoolOp .Or (b :: rest) pos) g) : DE X E (.BoolOp .Or (a :: b :: rest) pos) (dor f g) := pe_imp (pe_or ha hb) fun σ H Q ⟨W, ρ, μ, ok, en, p⟩ =>
  seq p ok en fun d μ1 W1 x H1 g1 o1 en1 r p1 => by
    cases d with
    | bl k =>
      cases r
      cases k with
      | false => exact ⟨false, rfl, W1, ρ, μ1, o1, en1, p1⟩
      | true => exact ⟨true, rfl, post_pure o1 p1 (.bl _)⟩
    | _ => exact p1.elim
theorem de_not (ha : DE X E a f) : DE X E (.UnaryOp .Not a pos) (dnot f) := pe_imp (pe_not ha) fun σ H Q ⟨W, ρ, μ, ok, en, p⟩ =>
  seq p ok en fun d μ1 W1 x H1 g1 o1 en1 r p1 => by
    cases d with
    | bl k =>
      cases r
      exact ⟨k, rfl, post_pure o1 p1 (.bl _)⟩
    | _ => exact p1.elim
theorem de_neg (ha : DE X E a f) : DE X E (.UnaryOp .USub a pos) (dneg f) := pe_imp (pe_un un_neg ha) fun σ H Q ⟨W, ρ, μ, ok, en, p⟩ =>
  seq p ok en fun d μ1 W1 x H1 g1 o1 en1 r p1 => by
    cases d with
    | int k =>
      cases r
      exact ⟨k, rfl, post_pure o1 p1 (.int _)⟩
    | _ => exact p1.elim
theorem seqTE {K : PySem.W.Frag} {fa : FT} {k : Bool → Mu → R D} {σ : St} {H : Hp} {W : Wd} {ρ : En} {μ : Mu} {Q : VK} {Q1 : Bool → Hp → Prop} (p : postE K E W H ((fa ρ μ).bind k) Q) (ok : Ok K W H μ) (en : Envs K W σ ρ)
    (hk : ∀ b μ1 W1 H1, Go W H W1 H1 → Ok K W1 H1 μ1 → Envs K W1 σ ρ → postE K E W1 H1 (k b μ1) Q → Q1 b H1) : rT K E fa σ H Q1 := by
  refine ⟨W, ρ, μ, ok, en, ?_⟩
  revert p
  cases fa ρ μ with
  | ok d μ1 => exact fun p W1 H1 g o => hk d μ1 W1 H1 g o (en.mono g.le) (post.mono g p)
  | ex c fs μ1 => exact fun p => p
  | bad => exact fun p => p
theorem de_ifx {fc : FT} (hc : DT X E c fc) (ha : DE X E a f) (hb : DE X E b g) : DE X E (.IfExp c a b pos) (dite fc f g) := pe_imp (pe_ifExp hc ha hb) fun σ H Q ⟨W, ρ, μ, ok, en, p⟩ =>
  seqTE p ok en fun k μ1 W1 H1 g1 o1 en1 p1 => by
    cases k with
    | true => exact ⟨W1, ρ, μ1, o1, en1, p1⟩
    | false => exact ⟨W1, ρ, μ1, o1, en1, p1⟩
theorem tChain_of {g1 g2 : D → D → Mu → R D} : ∀ σ H Q, rE X.K E (dchain g1 g2 f g h) σ H Q → tChain (rD X.K E g1) (rD X.K E g2) (rE X.K E f) (rE X.K E g) (rE X.K E h) σ H Q := fun σ H Q ⟨W, ρ, μ, ok, en, p⟩ =>
  seq p ok en fun x μ1 W1 xv H1 k1 o1 en1 r1 p1 => seq p1 o1 en1 fun y μ2 W2 yv H2 k2 o2 en2 r2 p2 => by
    refine ⟨W2, μ2, x, y, o2, r1.mono k2.le, r2, ?_⟩
    revert p2
    cases g1 x y μ2 with
    | ex c fs μ3 => exact fun p => p
    | bad => exact fun p => p
    | ok z μ3 =>
      rw [R.bind_ok]
      cases z with
      | bl k =>
        intro p2 W3 v H3 k3 o3 r3
        cases r3
        refine ⟨k, rfl, ?_⟩
        have p3 := post.mono k3 p2
        cases k with
        | true =>
          rw [if_pos rfl]
          exact seq p3 o3 (en2.mono k3.le) fun w μ4 W4 wv H4 k4 o4 en4 r4 p4 => ⟨W4, μ4, y, w, o4, (r2.mono k3.le).mono k4.le, r4, p4⟩
        | false =>
          rw [if_neg Bool.false_ne_true]
          exact post_pure o3 p3 (.bl _)
      | _ => exact fun p => p.elim
theorem de_chain {op op' : CmpOp} {g1 g2 : D → D → Mu → R D} (ho : OpX X E (compareOp op) g1) (ho' : OpX X E (compareOp op') g2) (ha : DE X E a f) (hb : DE X E b g) (hc : DE X E c h) (hm : lastMarks [op, op'] [b, c] = false := by with_unfolding_all rfl) : DE X E (.Compare a [op, op'] [b, c] pos) (dchain g1 g2 f g h) :=
  pe_imp (pe_chain ho ho' ha hb hc hm) tChain_of
theorem dt_chain {op op' : CmpOp} {g1 g2 : D → D → Mu → R D} (ho : OpX X E (compareOp op) g1) (ho' : OpX X E (compareOp op') g2) (ha : DE X E a f) (hb : DE X E b g) (hc : DE X E c h) (hm : lastMarks [op, op'] [b, c] = false := by with_unfolding_all rfl) : DT X E (.Compare a [op, op'] [b, c] pos) (dtest (dchain g1 g2 f g h)) := by
  refine pt_imp (pt_chain ho ho' ha hb hc hm) fun σ H Q q => ?_
  have q := tB_of σ H Q q
  unfold tTest
  exact tChain_of σ H _ q
/-- a module's name -/
theorem de_glob {x : Str} {d : D} {v : V} {u : Value} (hm : X.mg x = some u) (r : RelV v u) (rp : ∀ W, Rep X.K W v d) (hg : Gl X x := by rfl) (hd : (x == ("__debug__" : Str)) = false := by decide) : DE X E (.Name x pos) (dc d) := dconst (pe_glob hg hm r hd) rp
/-- a built-in class -/
theorem de_ty {x : Str} {T : String} (hm : X.mg x = none) (hg : Gl X x := by rfl) (hv : bootBuiltins x = some (.type T) := by decide +kernel) (hn : x ≠ "__name__" := by decide) (hd : (x == ("__debug__" : Str)) = false := by decide) : DE X E (.Name x pos) (dc (.cst (.ty T))) := dconst (pe_bltn (v := .ty T) hg hm hv rfl hn hd) fun _ => .cst _
end

/-! ### isinstance -/
def tyName (μ : Mu) : D → Option String
  | .non => some "NoneType"
  | .bl _ => some "bool"
  | .int _ => some "int"
  | .str _ => some "str"
  | .tup _ => some "tuple"
  | .lst _ => some "list"
  | .hdl l => match μ[l]? with
    | some (.lst _) => some "list"
    | some (.dct _ _) => some "dict"
    | some (.dtt _ _) => some "dict"
    | _ => none
  | _ => none
def bIsi : List D → Mu → R D
  | [d, .cst (.ty T)], μ => match tyName μ d with
    | some t => match kitB t T with
      | some b => .ok (.bl b) μ
      | none => .bad
    | none => .bad
  | _, _ => .bad
theorem tyName_rep {K : PySem.W.Frag} {W : Wd} {H : Hp} {μ : Mu} {v : V} {d : D} {t : String} (ok : Ok K W H μ) (r : Rep K W v d) (h : tyName μ d = some t) : TyX K H v (.type t) := by
  cases r with
  | non => simp [tyName] at h; subst h; exact .base .non
  | bl b => simp [tyName] at h; subst h; exact .base (.bl b)
  | int i => simp [tyName] at h; subst h; exact .base (.int i)
  | str x z => simp [tyName] at h; subst h; exact .base (.str x)
  | tup z h1 q =>
    simp [tyName] at h
    subst h
    rcases h1 with (h1 | ⟨o, h1⟩) | ⟨o, its, n, h1, h2, _⟩
    · exact .base (.tup (ok.sub _ _ h1))
    · exact .fTuple (ok.sub _ _ h1)
    · exact .kTuple h1 h2
  | lst z h1 q =>
    simp [tyName] at h
    subst h
    rcases h1 with (h1 | ⟨o, h1⟩) | ⟨its, n, h1, _⟩
    · exact .base (.lst (ok.sub _ _ h1))
    · exact .base (.frz (ok.sub _ _ h1))
    · exact .kList h1 rfl
  | @hdl a l ha =>
    unfold tyName at h
    dsimp only at h
    cases hm : μ[l]? with
    | none => rw [hm] at h; cases h
    | some m =>
      rw [hm] at h
      obtain ⟨o, ho, c⟩ := ok.cell l a m ha hm
      cases m with
      | lst xs =>
        cases h
        obtain ⟨vs, rfl, _⟩ := c
        exact .base (.lst ho)
      | dct ks xs =>
        cases h
        obtain ⟨vs, rfl, _⟩ := c
        exact .base (.dK ho)
      | dtt ks xs =>
        cases h
        obtain ⟨vs, rfl, _⟩ := c
        exact .base (.dT ho)
      | _ => cases h
  | _ => simp [tyName] at h
theorem cx_isi {X : Cx} {E : XK} : CallX X E (.builtin "isinstance") bIsi := callx fun W H μ ds xs Q ok r p => by
  unfold bIsi at p
  split at p
  · rename_i d T
    cases r with
    | cons r1 r2 =>
      cases r2 with
      | cons r2 r3 =>
        cases r3
        cases r2
        split at p
        · rename_i t ht
          split at p
          · rename_i b hb
            exact ⟨_, call_isi, _, _, .type t, .type T, b, rfl, .ty T, tyName_rep ok r1 ht, kit_ty hb, post_pure ok p (.bl b)⟩
          · exact p.elim
        · exact p.elim
  · exact p.elim

/-! ### texts -/
theorem mx_join {X : Cx} {E : XK} : MtX X E "str.join" mJoin := mtx fun W H μ d ds x xs Q ok r rs p => by
  unfold mJoin at p
  split at p
  · split at p
    · rename_i ys hy
      split at p
      · rename_i hn
        cases r
        cases rs with
        | cons r1 r2 =>
          cases r2
          cases r1 with
          | lst z h q =>
            have e := strsD_rep q hy
            subst e
            exact ⟨_, mt_join, _, _, ys, rfl, rfl, .inl (same_lq ok.sub h).sq, Nat.le_trans hn.1 (by decide), post_pure ok p (.str _ (le_line hn.2))⟩
      · exact p.elim
    · exact p.elim
  · exact p.elim
theorem mx_split {X : Cx} {E : XK} : MtX X E "str.split" mSplit := mtx fun W H μ d ds x xs Q ok r rs p => by
  unfold mSplit at p
  split at p
  · rename_i a b
    split at p
    · rename_i hn
      cases r
      cases rs with
      | cons r1 r2 =>
        cases r2
        cases r1
        refine ⟨_, mt_split, a, b, rfl, rfl, ?_, ?_, fun q hq => p _ _ _ (Go.new ok hq) (ok.new hq) (rep_lst ok hq ?_ (strs_reps fun y hy => ?_))⟩
        · exact beq_eq_false_iff_ne.mpr (by omega)
        · show a.length + 2 ≤ 16777216
          omega
        · rw [List.length_map]
          exact Nat.le_trans (PyProof.Rows.split_le a b) (by show a.length + 2 ≤ 16777216; omega)
        · exact le_line (hn.2.2 y hy)
    · exact p.elim
  · exact p.elim
end DL
/-! DL10: the end of a law whose defs are told by DL's functions. -/
namespace DL
open PySem PySem.Spec PyProof.Rows L2

/-- the script's own world -/
def scriptW (a : Addr) (H : Hp) : Wd := ⟨fun b => if b = a then H a else none, []⟩
theorem ints_reps {K : PySem.W.Frag} {W : Wd} : ∀ ns : List Int, Reps K W (ns.map V.int) (ns.map D.int)
  | [] => .nil
  | n :: ns => .cons (.int n) (ints_reps ns)
section
variable {P : Program} {w : World} {K : PySem.W.Frag} {mg mb : Str → Option Value} {k : Nat} {fa a : Addr} {fd : FuncData} {x : Str} {F : List D → Mu → R D} {s1 : Shared} {vs : List Value} {ns : List Int}
theorem law_g (kin : K.In s1.heap) (hns : s1.heap.Ns mainGlobals mg) (hb : s1.heap.Ns builtinsNs mb) (hbb : ∀ x : Str, x ≠ "__name__" → mb x = bootBuiltins x) (hlim : s1.heap.NoLimit) (hg : s1.gens = #[])
    (ha : s1.heap.get? a = some { cls := .type "list", data := .seq vs.toArray }) (hi : IntsAre vs ns) (hl : ns.length ≤ sizeLine) (hr : Room k callerA)
    (G : ∀ base : Heap, K.In base → base.Ns mainGlobals mg → FnG P w K mg base k fa fd [x] F) (hbind : ∀ (s : Shared) (u : Value), BindsTo s fd ⟨[u], []⟩ [(x, u)])
    (hF : ∃ μ', F [.lst (ns.map D.int)] [] = .ok (.bl true) μ') :
    codeAny (model P w) callerA (.call (.ref fa) ⟨[.ref a], []⟩) (fun r s' => r = .ok (.ret (.bool true)) ∧ OldK s1.heap s'.heap ∧ s'.os = s1.os ∧ AllBare s'.gens) s1 := by
  have rv : Vals (ns.map V.int) vs := L2.vals_ints hi
  have lv : vs.length = ns.length := hi.length
  obtain ⟨μ', hF⟩ := hF
  have main : ∀ H : Hp, (∀ b, H b ≠ none → b = a) → (∀ u, H a = some u → ∃ o xs, u = .frz o (.lst xs)) → Lq K H a (ns.map V.int) → HOk P w H s1.heap → (H a ≠ none → K.lookup a = none) →
      codeAny (model P w) callerA (.call (.ref fa) ⟨[.ref a], []⟩) (fun r s' => r = .ok (.ret (.bool true)) ∧ OldK s1.heap s'.heap ∧ s'.os = s1.os ∧ AllBare s'.gens) s1 := by
    intro H only frz lq hok hK
    have out : ∀ b, b ≠ a → H b = none := fun b hb => by
      cases q : H b with
      | none => rfl
      | some u => exact absurd (only b (by rw [q]; simp)) hb
    have dicts : ∀ {b : Addr} {o : Obj} {es : Array DictEntry} {ep : Nat}, s1.heap.get? b = some o → o.data = .dict es ep → H b = none := fun {b o es ep} e d => by
      by_cases z : b = a
      · rw [z, ha] at e
        cases e
        cases d
      · exact out b z
    have ns' : ∀ {b : Addr} {m : Str → Option Value}, s1.heap.Ns b m → (hidT s1.heap H).Ns b m := by
      rintro b m ⟨o, es, ep, e, d, r⟩
      exact ⟨o, es, ep, hidT_get e (dicts e d), d, r⟩
    have kb : K.In (hidT s1.heap H) := fun b o e => hidT_get (kin b o e) (by
      by_cases z : b = a
      · cases q : H b with
        | none => rfl
        | some u =>
          rw [z] at e q
          rw [hK (by rw [q]; simp)] at e
          cases e
      · exact out b z)
    have md : Mod K mg (hidT s1.heap H) := by
      obtain ⟨mc, l1, l2⟩ := hlim
      exact ⟨kb, ns' hns, ⟨mb, ns' hb, hbb⟩, ⟨mc, ns' l1, l2⟩⟩
    have e0 : Env0 P w K mg (hidT s1.heap H) callerA [] s1 H := by
      refine ⟨rfl, md, fun b o e => of_hidT e, Nat.le_of_eq (hidT_size _ _), trivial, ?_, hok, .of_eq hg⟩
      intro b hb
      cases hb
    have wok : Ok K (scriptW a H) H [] := by
      refine ⟨fun b o e => ?_, rfl, List.nodup_nil, fun l b o e => ?_, fun l b o e => ?_⟩
      · have e : (if b = a then H a else none) = some o := e
        by_cases z : b = a
        · rw [if_pos z] at e
          rw [z]; exact e
        · rw [if_neg z] at e
          cases e
      · cases l <;> cases e
      · cases l <;> cases e
    have lq' : Lq K (scriptW a H).S a (ns.map V.int) := by
      have ea : (scriptW a H).S a = H a := if_pos rfl
      rcases lq with (h | ⟨o, h⟩) | h
      · exact .inl (.inl (ea.trans h))
      · exact .inl (.inr ⟨o, ea.trans h⟩)
      · exact .inr h
    have rp : Reps K (scriptW a H) [.ref a] [.lst (ns.map D.int)] := .cons (.lst (by rw [List.length_map]; exact hl) lq' (ints_reps ns)) .nil
    have run := (G _ kb (ns' hns)).run callerA [] s1 H ⟨[.ref a], []⟩ [.ref a] [.ref a] (fun v _ => v = .bl true) (fun _ _ _ => False) (scriptW a H) _ [] hr rfl e0 rfl (hbind s1 (.ref a)) (.cons rfl .nil) wok rp (by
      rw [hF]
      intro W' v H' _ _ r
      cases r
      rfl)
    refine codeAny_mono run fun r s' h => ?_
    match r, h with
    | .error e, h =>
      obtain ⟨_, _, _, _, _, _, _, _, _, _, _, _, z⟩ := h
      exact z.elim
    | .ok (.ret u), ⟨v, H', os, bare, un, hok', r', q⟩ =>
      have q : v = .bl true := q
      subst q
      cases r'
      refine ⟨rfl, OldK.of_keep fun b o e => ?_, os, bare⟩
      by_cases z : b = a
      · cases q : H b with
        | none => exact un.keep b o e q (by intro z; cases z) (by simp)
        | some u =>
          have q' := q
          rw [z] at q'
          obtain ⟨ob, xs, rfl⟩ := frz u q'
          have z2 := un.frzs b ob _ q
          obtain ⟨e1, _⟩ := hok b _ q
          obtain ⟨e2, _⟩ := hok' b _ z2
          rw [e] at e1
          cases e1
          exact e2
      · exact un.keep b o e (out b z) (by intro z; cases z) (by simp)
  cases hk : K.lookup a with
  | some o =>
    have e := kin a o hk
    rw [ha] at e
    cases e
    exact main (fun _ => none) (fun b z => absurd rfl z) (fun u z => nomatch z) (.inr ⟨vs, _, hk, by rw [lv]; exact hl, rv⟩) (fun b u z => nomatch z) (fun z => absurd rfl z)
  | none =>
    have ea : (fun b => if b = a then some (HO.frz { cls := .type "list", data := .seq vs.toArray } (.lst (ns.map V.int))) else none) a = some (HO.frz { cls := .type "list", data := .seq vs.toArray } (.lst (ns.map V.int))) := if_pos rfl
    refine main (fun b => if b = a then some (.frz { cls := .type "list", data := .seq vs.toArray } (.lst (ns.map V.int))) else none) (fun b z => ?_) (fun u z => ?_) (.inl (.inr ⟨_, ea⟩)) (fun b u z => ?_) fun _ => hk
    · by_cases hb : b = a
      · exact hb
      · exact absurd (if_neg hb) z
    · have z' := ea.symm.trans z
      cases z'
      exact ⟨_, _, rfl⟩
    · by_cases hb : b = a
      · have z' := (if_pos hb).symm.trans z
        cases z'
        rw [hb]
        exact ⟨ha, by rw [List.length_map]; exact hl, vs, _, rv, ha⟩
      · have z' := (if_neg hb).symm.trans z
        cases z'
end
/-- a law: what its def is worth at every script -/
theorem walk_g {l : PySem.W.OpenLaw} {n k : Nat} {q : Program} {loose : List Str} {XP : (Str → Option Value) → Heap → Prop} {YP : World → Heap → Prop} {d : DefRec} {x : Str}
    (hn : l.most = some n) (hn2 : n ≤ sizeLine) (hdf : d.params.defaults = []) (hr : Room k callerA)
    (G : ∀ (w : World) (mg : Str → Option Value) (fa : Addr) (h : Heap), YP w h → h.Ns mainGlobals mg → mg d.name = some (.ref fa) →
      ∃ (K : PySem.W.Frag) (fd : FuncData) (F : List D → Mu → R D), K.In h ∧ (∀ (s : Shared) (u : Value), BindsTo s fd ⟨[u], []⟩ [(x, u)]) ∧
        (∀ base : Heap, K.In base → base.Ns mainGlobals mg → FnG l.prog w K mg base k fa fd [x] F) ∧ ∀ ns : List Int, ns.length ≤ n → (∀ z ∈ ns, Builtin.Int.intBits z ≤ 1048576) → ∃ μ', F [.lst (ns.map D.int)] [] = .ok (.bl true) μ') :
    PySem.W.WalkO q loose XP YP l.row.toRowW d [] (fun f vs => PySem.call f vs) := by
  refine Att.attach_callB hn hdf fun w s0 s1 mg mb fa o pm cd doc a vs ns Gr Y ho hd hcd hmg hobj hints hlen hbits hgn => ?_
  obtain ⟨K, fd, F, kin, hb, hG, hF⟩ := G w mg fa _ Y Gr.T.g hmg
  exact law_g kin Gr.T.g Gr.T.b Gr.T.builtins Gr.T.nolimit hgn hobj hints (Nat.le_trans hlen hn2) hr hG hb (hF ns hlen hbits)
end DL
/-! DL11: picking by places. -/
namespace DL
open PySem L2
def pk {α : Type} : List α → Nat → List α → List α
  | [], _, r => r
  | a :: _, 0, r => a :: r
  | _ :: l, i + 1, r => pk l i r
theorem vals_pk {r : List V} {r' : List Value} (h : Vals r r') : ∀ {vs : List V} {us : List Value} (i : Nat), Vals vs us → Vals (pk vs i r) (pk us i r')
  | _, _, _, .nil => h
  | _, _, 0, .cons a _ => .cons a h
  | _, _, i + 1, .cons _ l => vals_pk h i l
theorem reps_pk {K : PySem.W.Frag} {W : Wd} {r : List V} {r' : List D} (h : Reps K W r r') : ∀ {vs : List V} {us : List D} (i : Nat), Reps K W vs us → Reps K W (pk vs i r) (pk us i r')
  | _, _, _, .nil => h
  | _, _, 0, .cons a _ => .cons a h
  | _, _, i + 1, .cons _ l => reps_pk h i l
end DL
/-! DL12: reckoning with the mirrors. -/
namespace DL
open PySem L2
def O.thn : O → FS → O
  | .nx ρ μ, h => h ρ μ
  | .rt d μ, _ => .rt d μ
  | .bk ρ μ, _ => .bk ρ μ
  | .ct ρ μ, _ => .ct ρ μ
  | .ex c fs μ, _ => .ex c fs μ
  | .bad, _ => .bad
@[simp] theorem O.thn_nx (ρ : En) (μ : Mu) (h : FS) : (O.nx ρ μ).thn h = h ρ μ := of_eq_true (eq_self _)
@[simp] theorem O.thn_rt (d : D) (μ : Mu) (h : FS) : (O.rt d μ).thn h = .rt d μ := of_eq_true (eq_self _)
@[simp] theorem O.thn_bk (ρ : En) (μ : Mu) (h : FS) : (O.bk ρ μ).thn h = .bk ρ μ := of_eq_true (eq_self _)
@[simp] theorem O.thn_ct (ρ : En) (μ : Mu) (h : FS) : (O.ct ρ μ).thn h = .ct ρ μ := of_eq_true (eq_self _)
@[simp] theorem O.thn_ex (c : Nat) (fs : List (Str × D)) (μ : Mu) (h : FS) : (O.ex c fs μ).thn h = .ex c fs μ := of_eq_true (eq_self _)
theorem thn_if {p : Prop} [Decidable p] (a b : O) (h : FS) : (if p then a else b).thn h = if p then a.thn h else b.thn h := by split <;> rfl
theorem to_if {α : Type} {p : Prop} [Decidable p] (a b : R α) (h : α → Mu → O) : (if p then a else b).to h = if p then a.to h else b.to h := by split <;> rfl
theorem bind_if {α β : Type} {p : Prop} [Decidable p] (a b : R α) (h : α → Mu → R β) : (if p then a else b).bind h = if p then a.bind h else b.bind h := by split <;> rfl
@[simp] theorem ap_seq (g h : FS) (ρ : En) (μ : Mu) : gseq g h ρ μ = (g ρ μ).thn h := by
  unfold gseq O.thn
  cases g ρ μ <;> rfl
@[simp] theorem ap_nil (ρ : En) (μ : Mu) : gnil ρ μ = .nx ρ μ := of_eq_true (eq_self _)
@[simp] theorem ap_ret (f : FE) (ρ : En) (μ : Mu) : gret f ρ μ = (f ρ μ).to fun d μ1 => .rt d μ1 := of_eq_true (eq_self _)
@[simp] theorem ap_expr (f : FE) (ρ : En) (μ : Mu) : gexpr f ρ μ = (f ρ μ).to fun _ μ1 => .nx ρ μ1 := of_eq_true (eq_self _)
@[simp] theorem ap_set (i : Nat) (f : FE) (ρ : En) (μ : Mu) : gasg (.nm i) f ρ μ = (f ρ μ).to fun d μ1 => .nx (ρ.set i (some d)) μ1 := by
  unfold gasg
  simp
theorem ap_asg (t : Tg) (f : FE) (ρ : En) (μ : Mu) : gasg t f ρ μ = (f ρ μ).to fun d μ1 => match asg t d ρ with | some ρ' => .nx ρ' μ1 | none => .bad := rfl
@[simp] theorem ap_asgT (ts : List Tg) (f : FE) (ρ : En) (μ : Mu) : gasg (.tp ts) f ρ μ = (f ρ μ).to fun d μ1 => match asg (.tp ts) d ρ with | some ρ' => .nx ρ' μ1 | none => .bad := of_eq_true (eq_self _)
@[simp] theorem ap_gif (c : FT) (g h : FS) (ρ : En) (μ : Mu) : gif c g h ρ μ = (c ρ μ).to fun b μ1 => if b = true then g ρ μ1 else h ρ μ1 := of_eq_true (eq_self _)
@[simp] theorem ap_for (fi : FA) (t : Tg) (b : FS) (ρ : En) (μ : Mu) : gfor fi t b ρ μ = (fi ρ μ).to fun xs μ1 => forD t b xs ρ μ1 := of_eq_true (eq_self _)
@[simp] theorem ap_var (i : Nat) (ρ : En) (μ : Mu) : dvar i ρ μ = match ρ[i]? with | some (some d) => .ok d μ | _ => .bad := of_eq_true (eq_self _)
@[simp] theorem ap_dc (d : D) (ρ : En) (μ : Mu) : dc d ρ μ = .ok d μ := of_eq_true (eq_self _)
@[simp] theorem ap_bin (g : D → D → Mu → R D) (fa fb : FE) (ρ : En) (μ : Mu) : dbin g fa fb ρ μ = (fa ρ μ).bind fun x μ1 => (fb ρ μ1).bind fun y μ2 => g x y μ2 := of_eq_true (eq_self _)
@[simp] theorem ap_test (f : FE) (ρ : En) (μ : Mu) : dtest f ρ μ = (f ρ μ).bind fun d μ1 => match d with | .bl b => .ok b μ1 | _ => .bad := of_eq_true (eq_self _)
@[simp] theorem ap_tand (f g : FT) (ρ : En) (μ : Mu) : tand f g ρ μ = (f ρ μ).bind fun b μ1 => if b = true then g ρ μ1 else .ok false μ1 := of_eq_true (eq_self _)
@[simp] theorem ap_tor (f g : FT) (ρ : En) (μ : Mu) : tor f g ρ μ = (f ρ μ).bind fun b μ1 => if b = true then .ok true μ1 else g ρ μ1 := of_eq_true (eq_self _)
@[simp] theorem ap_tnot (f : FT) (ρ : En) (μ : Mu) : tnot f ρ μ = (f ρ μ).bind fun b μ1 => .ok (!b) μ1 := of_eq_true (eq_self _)
@[simp] theorem ap_tyes (ρ : En) (μ : Mu) : tyes ρ μ = .ok true μ := of_eq_true (eq_self _)
@[simp] theorem ap_aNil (ρ : En) (μ : Mu) : aNil ρ μ = .ok [] μ := of_eq_true (eq_self _)
@[simp] theorem ap_aCons (f : FE) (g : FA) (ρ : En) (μ : Mu) : aCons f g ρ μ = (f ρ μ).bind fun d μ1 => (g ρ μ1).bind fun ds μ2 => .ok (d :: ds) μ2 := of_eq_true (eq_self _)
@[simp] theorem ap_tup (f : FA) (ρ : En) (μ : Mu) : dtup f ρ μ = (f ρ μ).bind fun ds μ1 => if ds.length ≤ 1000000 then .ok (.tup ds) μ1 else .bad := of_eq_true (eq_self _)
@[simp] theorem ap_lst (f : FA) (ρ : En) (μ : Mu) : dlst f ρ μ = (f ρ μ).bind fun ds μ1 => if ds.length ≤ 1000000 then .ok (.lst ds) μ1 else .bad := of_eq_true (eq_self _)
@[simp] theorem ap_cel (f : FA) (ρ : En) (μ : Mu) : dcel f ρ μ = (f ρ μ).bind fun ds μ1 => if ds.length ≤ 1000000 then .ok (.hdl μ1.length) (μ1 ++ [.lst ds]) else .bad := of_eq_true (eq_self _)
@[simp] theorem ap_frz (f : FE) (ρ : En) (μ : Mu) : dfrz f ρ μ = (f ρ μ).bind fun d μ1 => match d with
  | .hdl l => match μ1[l]? with
    | some (.lst xs) => if xs.length ≤ 1000000 then .ok (.lst xs) (μ1.set l .gone) else .bad
    | _ => .bad
  | _ => .bad := of_eq_true (eq_self _)
@[simp] theorem ap_callB (g : List D → Mu → R D) (fa : FA) (ρ : En) (μ : Mu) : dcallB g fa ρ μ = (fa ρ μ).bind fun ds μ1 => g ds μ1 := of_eq_true (eq_self _)
@[simp] theorem ap_call (F : List D → Mu → R D) (dd : List D) (fa : FA) (ρ : En) (μ : Mu) : dcall F dd fa ρ μ = (fa ρ μ).bind fun ds μ1 => F (ds ++ dd) μ1 := of_eq_true (eq_self _)
@[simp] theorem ap_callK (F : List D → Mu → R D) (gD : List D → List D → List D) (fa fk : FA) (ρ : En) (μ : Mu) : dcallK F gD fa fk ρ μ = (fa ρ μ).bind fun ds μ1 => (fk ρ μ1).bind fun es μ2 => F (gD ds es) μ2 := of_eq_true (eq_self _)
@[simp] theorem ap_bm (T : String) (g : D → List D → Mu → R D) (fo : FE) (fa : FA) (ρ : En) (μ : Mu) : dbm T g fo fa ρ μ = (fo ρ μ).bind fun x μ1 => if tyD T x μ1 = true then (fa ρ μ1).bind fun ds μ2 => g x ds μ2 else .bad := of_eq_true (eq_self _)
@[simp] theorem ap_sl (fe : FE) (fl fh : FO) (ρ : En) (μ : Mu) : dsl fe fl fh ρ μ = (fe ρ μ).bind fun x μ1 => (fl ρ μ1).bind fun lo μ2 => (fh ρ μ2).bind fun hi μ3 => R.of (slD x lo hi) μ3 := of_eq_true (eq_self _)
@[simp] theorem ap_onone (ρ : En) (μ : Mu) : onone ρ μ = .ok none μ := of_eq_true (eq_self _)
@[simp] theorem ap_itA (f : FE) (ρ : En) (μ : Mu) : itA f ρ μ = (f ρ μ).bind fun d μ1 => R.of (itemsD d) μ1 := of_eq_true (eq_self _)
@[simp] theorem ap_ite (c : FT) (f g : FE) (ρ : En) (μ : Mu) : dite c f g ρ μ = (c ρ μ).bind fun b μ1 => if b = true then f ρ μ1 else g ρ μ1 := of_eq_true (eq_self _)
@[simp] theorem ap_lc (fi : FA) (vs : List Nat) (t : Tg) (ft : FT) (fe : FE) (ρ : En) (μ : Mu) : dlc fi vs t ft fe ρ μ = (fi ρ μ).bind fun xs μ1 => (lcD t ft fe (wipeD ρ vs) xs μ1).bind fun ys μ2 => .ok (.lst ys) μ2 := of_eq_true (eq_self _)
@[simp] theorem ap_osome (f : FE) (ρ : En) (μ : Mu) : osome f ρ μ = (f ρ μ).bind fun d μ1 => match d with | .int i => .ok (some i) μ1 | _ => .bad := of_eq_true (eq_self _)
@[simp] theorem ap_itR1 (f : FA) (ρ : En) (μ : Mu) : itR1 f ρ μ = (f ρ μ).bind fun ds μ1 => match ds with
  | [.int n] => if n ≤ 1000000 ∧ -1000000 ≤ n then .ok (upto 0 n.toNat) μ1 else .bad
  | _ => .bad := of_eq_true (eq_self _)
@[simp] theorem ap_itR2 (f : FA) (ρ : En) (μ : Mu) : itR2 f ρ μ = (f ρ μ).bind fun ds μ1 => match ds with
  | [.int m, .int n] => if n ≤ 1000000 ∧ -1000000 ≤ m ∧ m ≤ 1000000 ∧ -1000000 ≤ n then .ok (upto m (n - m).toNat) μ1 else .bad
  | _ => .bad := of_eq_true (eq_self _)
@[simp] theorem ap_itE (f : FA) (ρ : En) (μ : Mu) : itE f ρ μ = (f ρ μ).bind fun ds μ1 => match ds with
  | [.lst xs] => .ok (enumD 0 xs) μ1
  | _ => .bad := of_eq_true (eq_self _)
@[simp] theorem ap_lenset (f : FE) (ρ : En) (μ : Mu) : dlenset f ρ μ = (f ρ μ).bind fun d μ1 => match d with
  | .lst ds => match intsD ds with
    | some ns => if ns.length ≤ 1000 then .ok (.int (kinds ns)) μ1 else .bad
    | none => .bad
  | _ => .bad := of_eq_true (eq_self _)
@[simp] theorem items_lst (xs : List D) : itemsD (.lst xs) = some xs := of_eq_true (eq_self _)
@[simp] theorem items_tup (xs : List D) : itemsD (.tup xs) = some xs := of_eq_true (eq_self _)
@[simp] theorem items_str (x : Str) : itemsD (.str x) = some (signs x) := of_eq_true (eq_self _)
@[simp] theorem add_int (i j : Int) (μ : Mu) : addD (.int i) (.int j) μ = .ok (.int (i + j)) μ := of_eq_true (eq_self _)
@[simp] theorem add_str (x y : Str) (μ : Mu) : addD (.str x) (.str y) μ = if x.length + y.length ≤ 1000000 then .ok (.str (x ++ y)) μ else .bad := of_eq_true (eq_self _)
@[simp] theorem add_lst (x y : List D) (μ : Mu) : addD (.lst x) (.lst y) μ = if x.length + y.length ≤ 1000000 then .ok (.lst (x ++ y)) μ else .bad := of_eq_true (eq_self _)
@[simp] theorem sub_int (i j : Int) (μ : Mu) : subD (.int i) (.int j) μ = .ok (.int (i - j)) μ := of_eq_true (eq_self _)
@[simp] theorem mul_int (i j : Int) (μ : Mu) : mulD (.int i) (.int j) μ = if (-(2 ^ 64) < i ∧ i < 2 ^ 64) ∨ (-(2 ^ 64) < j ∧ j < 2 ^ 64) then .ok (.int (i * j)) μ else .bad := of_eq_true (eq_self _)
@[simp] theorem mod_int (i j : Int) (μ : Mu) : modD (.int i) (.int j) μ = if 0 < j then .ok (.int (i % j)) μ else .bad := of_eq_true (eq_self _)
@[simp] theorem fdiv_int (i j : Int) (μ : Mu) : fdivD (.int i) (.int j) μ = if 0 < j ∧ j < 1073741824 then .ok (.int (i / j)) μ else .bad := of_eq_true (eq_self _)
@[simp] theorem pow_int (i j : Int) (μ : Mu) : powD (.int i) (.int j) μ = if 0 ≤ j ∧ j ≤ 1000000 ∧ i.natAbs < 2 ^ 64 then .ok (.int (i ^ j.toNat)) μ else .bad := of_eq_true (eq_self _)
@[simp] theorem lt_int (i j : Int) (μ : Mu) : ltD (.int i) (.int j) μ = .ok (.bl (decide (i < j))) μ := of_eq_true (eq_self _)
@[simp] theorem le_int (i j : Int) (μ : Mu) : leD (.int i) (.int j) μ = .ok (.bl (decide (i ≤ j))) μ := of_eq_true (eq_self _)
@[simp] theorem gt_int (i j : Int) (μ : Mu) : gtD (.int i) (.int j) μ = .ok (.bl (decide (j < i))) μ := of_eq_true (eq_self _)
@[simp] theorem ge_int (i j : Int) (μ : Mu) : geD (.int i) (.int j) μ = .ok (.bl (decide (j ≤ i))) μ := of_eq_true (eq_self _)
@[simp] theorem lt_str (x y : Str) (μ : Mu) : ltD (.str x) (.str y) μ = .ok (.bl (strLt x y)) μ := of_eq_true (eq_self _)
@[simp] theorem le_str (x y : Str) (μ : Mu) : leD (.str x) (.str y) μ = .ok (.bl (!strLt y x)) μ := of_eq_true (eq_self _)
@[simp] theorem is_non (x : D) (μ : Mu) : isD x .non μ = match isNoneD x with | some b => .ok (.bl b) μ | none => .bad := of_eq_true (eq_self _)
@[simp] theorem isnt_non (x : D) (μ : Mu) : isntD x .non μ = match isNoneD x with | some b => .ok (.bl (!b)) μ | none => .bad := of_eq_true (eq_self _)
@[simp] theorem isNone_non : isNoneD .non = some true := of_eq_true (eq_self _)
@[simp] theorem isNone_int (i : Int) : isNoneD (.int i) = some false := of_eq_true (eq_self _)
@[simp] theorem isNone_bl (i : Bool) : isNoneD (.bl i) = some false := of_eq_true (eq_self _)
@[simp] theorem isNone_str (i : Str) : isNoneD (.str i) = some false := of_eq_true (eq_self _)
@[simp] theorem isNone_tup (i : List D) : isNoneD (.tup i) = some false := of_eq_true (eq_self _)
@[simp] theorem isNone_lst (i : List D) : isNoneD (.lst i) = some false := of_eq_true (eq_self _)
@[simp] theorem abs_int (i : Int) (μ : Mu) : bAbs [.int i] μ = .ok (.int (if i < 0 then -i else i)) μ := of_eq_true (eq_self _)
@[simp] theorem append_hdl (l : Nat) (d : D) (μ : Mu) : mAppend (.hdl l) [d] μ = match μ[l]? with
    | some (.lst xs) => if xs.length < 1000000 then .ok .non (μ.set l (.lst (xs ++ [d]))) else .bad
    | _ => .bad := of_eq_true (eq_self _)
theorem for_nil (t : Tg) (b : FS) (ρ : En) (μ : Mu) : forD t b [] ρ μ = .nx ρ μ := by simp [forD]
def O.pass : O → (En → Mu → O) → O
  | .nx ρ μ, k => k ρ μ
  | .ct ρ μ, k => k ρ μ
  | .bk ρ μ, _ => .nx ρ μ
  | .rt d μ, _ => .rt d μ
  | .ex c fs μ, _ => .ex c fs μ
  | .bad, _ => .bad
@[simp] theorem O.pass_nx (ρ : En) (μ : Mu) (k : En → Mu → O) : (O.nx ρ μ).pass k = k ρ μ := of_eq_true (eq_self _)
@[simp] theorem O.pass_ct (ρ : En) (μ : Mu) (k : En → Mu → O) : (O.ct ρ μ).pass k = k ρ μ := of_eq_true (eq_self _)
@[simp] theorem O.pass_bk (ρ : En) (μ : Mu) (k : En → Mu → O) : (O.bk ρ μ).pass k = .nx ρ μ := of_eq_true (eq_self _)
@[simp] theorem O.pass_rt (d : D) (μ : Mu) (k : En → Mu → O) : (O.rt d μ).pass k = .rt d μ := of_eq_true (eq_self _)
@[simp] theorem O.pass_ex (c : Nat) (fs : List (Str × D)) (μ : Mu) (k : En → Mu → O) : (O.ex c fs μ).pass k = .ex c fs μ := of_eq_true (eq_self _)
theorem pass_if {p : Prop} [Decidable p] (a b : O) (h : En → Mu → O) : (if p then a else b).pass h = if p then a.pass h else b.pass h := by split <;> rfl
theorem for_cons (t : Tg) (b : FS) (x : D) (xs : List D) (ρ : En) (μ : Mu) : forD t b (x :: xs) ρ μ = match asg t x ρ with | none => .bad | some ρ1 => (b ρ1 μ).pass fun ρ2 μ2 => forD t b xs ρ2 μ2 := by
  rw [forD]
  cases asg t x ρ with
  | none => rfl
  | some ρ1 =>
    dsimp only
    cases b ρ1 μ <;> rfl
/-- a loop that never leaves what I says -/
theorem for_inv {t : Tg} {b : FS} (I : En → Mu → Prop) : ∀ {xs : List D} {ρ : En} {μ : Mu}, (∀ x ∈ xs, ∀ ρ μ, I ρ μ → ∃ ρ1 ρ2 μ2, asg t x ρ = some ρ1 ∧ b ρ1 μ = .nx ρ2 μ2 ∧ I ρ2 μ2) → I ρ μ → ∃ ρ' μ', forD t b xs ρ μ = .nx ρ' μ' ∧ I ρ' μ'
  | [], ρ, μ, _, h => ⟨ρ, μ, for_nil _ _ _ _, h⟩
  | x :: xs, ρ, μ, hb, h => by
    obtain ⟨ρ1, ρ2, μ2, e1, e2, i2⟩ := hb x (by simp) ρ μ h
    obtain ⟨ρ', μ', e, i'⟩ := for_inv (xs := xs) I (fun y hy => hb y (List.mem_cons_of_mem _ hy)) i2
    exact ⟨ρ', μ', by rw [for_cons, e1]; dsimp only; rw [e2]; exact e, i'⟩
/-- .. by enumerate -/
theorem for_enum {t : Tg} {b : FS} (I : Nat → En → Mu → Prop) : ∀ {xs : List D} {k : Nat} {ρ : En} {μ : Mu}, (∀ (i : Nat) (x : D), xs[i]? = some x → ∀ ρ μ, I (k + i) ρ μ → ∃ ρ1 ρ2 μ2, asg t (.tup [.int (k + i : Nat), x]) ρ = some ρ1 ∧ b ρ1 μ = .nx ρ2 μ2 ∧ I (k + i + 1) ρ2 μ2) → I k ρ μ →
    ∃ ρ' μ', forD t b (enumD k xs) ρ μ = .nx ρ' μ' ∧ I (k + xs.length) ρ' μ'
  | [], k, ρ, μ, _, h => ⟨ρ, μ, by simp [enumD, for_nil], h⟩
  | x :: xs, k, ρ, μ, hb, h => by
    obtain ⟨ρ1, ρ2, μ2, e1, e2, i2⟩ := hb 0 x rfl ρ μ h
    obtain ⟨ρ', μ', e, i'⟩ := for_enum (xs := xs) (k := k + 1) I (fun i y hy ρ μ hi => by
      have := hb (i + 1) y (by simpa using hy) ρ μ (by rw [show k + (i + 1) = k + 1 + i by omega]; exact hi)
      rw [show k + (i + 1) = k + 1 + i by omega] at this
      exact this) i2
    refine ⟨ρ', μ', ?_, by rw [List.length_cons, show k + (xs.length + 1) = k + 1 + xs.length by omega]; exact i'⟩
    have e1' : asg t (.tup [.int k, x]) ρ = some ρ1 := e1
    rw [enumD, for_cons, e1']
    dsimp only
    rw [e2]
    exact e
theorem take_app {α : Type} (xs ys : List α) : (xs ++ ys).take xs.length = xs := by simp
theorem trunc_app {μ ex : Mu} {d : D} (hd : d.closed μ.length = true) (h : closedMu μ.length μ = true) : trunc μ.length d (μ ++ ex) = .ok d μ := by
  unfold trunc closedMu
  rw [take_app, hd]
  unfold closedMu at h
  rw [List.take_length] at h
  rw [h]
  rfl
theorem trunc_self {μ : Mu} {d : D} (hd : d.closed μ.length = true) (h : closedMu μ.length μ = true) : trunc μ.length d μ = .ok d μ := by
  have := trunc_app (ex := []) hd h
  rwa [List.append_nil] at this
@[simp] theorem callF_eq (n : Nat) (g : FS) (ds : List D) (μ : Mu) (d : D) (μ1 : Mu) (h : g (startD n ds) μ = .rt d μ1) : callF n g ds μ = trunc μ.length d μ1 := by
  unfold callF
  rw [h]
end DL
/-! DL13: the laws' own digits. -/
namespace DL
open PySem L2
def bDig : FS := gif (tand (dtest (dvar 4)) (dtest (dbin gtD (dvar 3) (dc (.int 0))))) (gseq (gexpr (dbm "list" mAppend (dvar 6) (aCons (dbin modD (dvar 3) (dvar 8)) aNil)))
    (gasg (.nm 3) (dbin fdivD (dvar 3) (dvar 8)))) (gseq (gasg (.nm 5) (dbin modD (dbin powD (dbin addD (dvar 5) (dbin mulD (dc (.int 104729)) (dbin addD (dvar 7) (dc (.int 1))))) (dc (.int 2))) (dc (.int 2147483587))))
    (gexpr (dbm "list" mAppend (dvar 6) (aCons (dbin modD (dbin fdivD (dvar 5) (dc (.int 16))) (dvar 8)) aNil))))
def gDig : FS := (gseq (gasg (.nm 3) (dcallB bAbs (aCons (dvar 0) aNil)))
    (gseq (gasg (.nm 4) (dbin geD (dvar 3) (dbin powD (dc (.int 10)) (dc (.int 18)))))
    (gseq (gasg (.nm 5) (dbin addD (dbin modD (dvar 3) (dc (.int 2147483647))) (dbin mulD (dc (.int 7919)) (dvar 1))))
    (gseq (gasg (.nm 6) (dcel aNil))
    (gseq (gfor (itE (aCons (dvar 2) aNil)) (.tp [(.nm 7), (.nm 8)]) bDig)
    (gret (dfrz (dvar 6))))))))
theorem closed_ints (n : Nat) : ∀ ns : List Int, D.closedL n (ns.map .int) = true
  | [] => by simp [D.closedL]
  | a :: ns => by simp [D.closedL, D.closed, closed_ints n ns]
structure DigI (c t : Int) (ss : List Int) (μ : Mu) (k : Nat) (ρ : En) (μ' : Mu) : Prop where
  ex : ∃ (num seed : Int) (w : Bool) (a7 a8 : Option D) (ns : List Int), ρ = [some (.int c), some (.int t), some (.lst (ss.map .int)), some (.int num), some (.bl w), some (.int seed), some (.hdl μ.length), a7, a8] ∧ μ' = μ ++ [.lst (ns.map .int)] ∧ ns.length = k ∧
    (∀ (i : Nat) n s, ns[i]? = some n → ss[i]? = some s → 0 ≤ n ∧ n < s) ∧ 0 ≤ seed ∧ seed ≤ 2 ^ 40
theorem app_at {α : Type} {xs : List α} {y n : α} {i : Nat} (h : (xs ++ [y])[i]? = some n) : xs[i]? = some n ∨ (i = xs.length ∧ n = y) := by
  rcases Nat.lt_or_ge i xs.length with l | l
  · rw [List.getElem?_append_left l] at h
    exact .inl h
  · rw [List.getElem?_append_right l] at h
    rcases Nat.eq_zero_or_pos (i - xs.length) with z | z
    · rw [z] at h
      simp at h
      exact .inr ⟨by omega, h.symm⟩
    · rw [List.getElem?_eq_none (by show [y].length ≤ _; simp; omega)] at h
      cases h
theorem app_set {α : Type} (xs : List α) (x y : α) : (xs ++ [x]).set xs.length y = xs ++ [y] := by simp
theorem dig_step {c t : Int} {ss : List Int} {μ : Mu} (hs : ∀ s ∈ ss, 0 < s ∧ s < 1073741824) (hl : ss.length ≤ 1000) (i : Nat) (s : Int) (hi : ss[i]? = some s) (ρ : En) (μ' : Mu) (h : DigI c t ss μ i ρ μ') :
    ∃ ρ1 ρ2 μ2, asg (.tp [(.nm 7), (.nm 8)]) (.tup [.int i, .int s]) ρ = some ρ1 ∧ bDig ρ1 μ' = .nx ρ2 μ2 ∧ DigI c t ss μ (i + 1) ρ2 μ2 := by
  obtain ⟨num, seed, w, a7, a8, ns, rfl, rfl, hn, hb, h0, h1⟩ := h.ex
  obtain ⟨s0, s1⟩ := hs s (List.mem_of_getElem? hi)
  have hil : i < 1000 := Nat.lt_of_lt_of_le (List.getElem?_eq_some_iff.mp hi).1 hl
  have nl : (ns.map D.int).length < 1000000 := by rw [List.length_map]; omega
  by_cases hw : w = true ∧ 0 < num
  · obtain ⟨rfl, hw⟩ := hw
    refine ⟨[some (.int c), some (.int t), some (.lst (ss.map .int)), some (.int num), some (.bl true), some (.int seed), some (.hdl μ.length), some (.int i), some (.int s)], [some (.int c), some (.int t), some (.lst (ss.map .int)), some (.int (num / s)), some (.bl true), some (.int seed), some (.hdl μ.length), some (.int i), some (.int s)], μ ++ [.lst ((ns ++ [num % s]).map .int)], by simp, by simp [bDig, hw, tyD, s0, s1, hn, show i < 1000000 by omega], ⟨num / s, seed, true, _, _, ns ++ [num % s], rfl, by simp, by simp [hn], fun j n s' e1 e2 => ?_, h0, h1⟩⟩
    rcases app_at e1 with e | ⟨rfl, rfl⟩
    · exact hb j n s' e e2
    · rw [hn] at e2
      rw [hi] at e2
      cases e2
      exact ⟨Int.emod_nonneg _ (by omega), Int.emod_lt_of_pos _ s0⟩
  · have hw' : w = false ∨ ¬ 0 < num := by
      cases w
      · exact .inl rfl
      · exact .inr fun z => hw ⟨rfl, z⟩
    have m0 := Int.emod_nonneg ((seed + 104729 * (((i : Nat) : Int) + 1)) ^ 2) (b := 2147483587) (by omega)
    have m1 := Int.emod_lt_of_pos ((seed + 104729 * (((i : Nat) : Int) + 1)) ^ 2) (b := 2147483587) (by omega)
    have hp : (seed + 104729 * (((i : Nat) : Int) + 1)).natAbs < 18446744073709551616 := by omega
    refine ⟨[some (.int c), some (.int t), some (.lst (ss.map .int)), some (.int num), some (.bl w), some (.int seed), some (.hdl μ.length), some (.int i), some (.int s)], _, _, by simp, ?_, ⟨num, (seed + 104729 * (((i : Nat) : Int) + 1)) ^ 2 % 2147483587, w, some (.int i), some (.int s), ns ++ [(seed + 104729 * (((i : Nat) : Int) + 1)) ^ 2 % 2147483587 / 16 % s], rfl, rfl, by simp [hn], fun j n s' e1 e2 => ?_, m0, by omega⟩⟩
    · rcases hw' with rfl | hw'
      · simp [bDig, tyD, s0, s1, hn, show i < 1000000 by omega, hp]
      · cases w <;> simp [bDig, hw', tyD, s0, s1, hn, show i < 1000000 by omega, hp]
    · rcases app_at e1 with e | ⟨rfl, rfl⟩
      · exact hb j n s' e e2
      · rw [hn] at e2
        rw [hi] at e2
        cases e2
        exact ⟨Int.emod_nonneg _ (by omega), Int.emod_lt_of_pos _ s0⟩
theorem dig_ok (c t : Int) (ht : 0 ≤ t ∧ t ≤ 1000000) (ss : List Int) (hs : ∀ s ∈ ss, 0 < s ∧ s < 1073741824) (hl : ss.length ≤ 1000) (μ : Mu) (hμ : closedMu μ.length μ = true) :
    ∃ ns : List Int, ns.length = ss.length ∧ (∀ (i : Nat) n s, ns[i]? = some n → ss[i]? = some s → 0 ≤ n ∧ n < s) ∧ callF 9 gDig [.int c, .int t, .lst (ss.map .int)] μ = .ok (.lst (ns.map .int)) μ := by
  have m0 := Int.emod_nonneg (if c < 0 then -c else c) (b := 2147483647) (by omega)
  have m1 := Int.emod_lt_of_pos (if c < 0 then -c else c) (b := 2147483647) (by omega)
  have run := for_enum (t := .tp [(.nm 7), (.nm 8)]) (b := bDig) (xs := ss.map D.int) (k := 0) (DigI c t ss μ) (ρ := [some (.int c), some (.int t), some (.lst (ss.map .int)), some (.int (if c < 0 then -c else c)), some (.bl (decide (10 ^ 18 ≤ (if c < 0 then -c else c)))), some (.int ((if c < 0 then -c else c) % 2147483647 + 7919 * t)), some (.hdl μ.length), none, none]) (μ := μ ++ [.lst []])
    (fun i x hx ρ μ' h => by
      rw [List.getElem?_map] at hx
      cases hq : ss[i]? with
      | none => rw [hq] at hx; cases hx
      | some s =>
        rw [hq] at hx
        cases hx
        rw [Nat.zero_add] at h ⊢
        exact dig_step hs hl i s hq ρ μ' h)
    ⟨_, _, _, _, _, [], rfl, rfl, rfl, fun i n s e _ => (by simp at e), by omega, by omega⟩
  obtain ⟨ρ', μ', e, h⟩ := run
  obtain ⟨num, seed, w, a7, a8, ns, rfl, rfl, hn, hb, _, _⟩ := h.ex
  rw [List.length_map, Nat.zero_add] at hn
  refine ⟨ns, hn, hb, ?_⟩
  have body : gDig (startD 9 [.int c, .int t, .lst (ss.map .int)]) μ = .rt (.lst (ns.map .int)) (μ ++ [.gone]) := by
    simp [gDig, startD]
    simp at e
    rw [e]
    simp [show ns.length ≤ 1000000 by omega]
  rw [callF_eq _ _ _ _ _ _ body]
  exact trunc_app (by simp [D.closed, closed_ints]) hμ
end DL
/-! DL14: == and repr of flat things. -/
namespace DL
open PySem L2
@[simp] theorem eq_ints (a b : Int) (μ : Mu) : dEq (.int a) (.int b) μ = .ok (.bl (decide (a = b))) μ := by
  simp [dEq, eqD, D.kd, eqV]
  by_cases h : a = b <;> simp [h]
@[simp] theorem eq_strs (a b : Str) (μ : Mu) : dEq (.str a) (.str b) μ = .ok (.bl (decide (a = b))) μ := by
  simp [dEq, eqD, D.kd, eqV]
  by_cases h : a = b <;> simp [h]
@[simp] theorem eq_non (μ : Mu) : dEq .non .non μ = .ok (.bl true) μ := by simp [dEq, eqD, D.kd, eqV]
@[simp] theorem eq_non_int (a : Int) (μ : Mu) : dEq .non (.int a) μ = .ok (.bl false) μ := by simp [dEq, eqD, D.kd, eqV]
@[simp] theorem eq_int_non (a : Int) (μ : Mu) : dEq (.int a) .non μ = .ok (.bl false) μ := by simp [dEq, eqD, D.kd, eqV]
@[simp] theorem eq_non_str (a : Str) (μ : Mu) : dEq .non (.str a) μ = .ok (.bl false) μ := by simp [dEq, eqD, D.kd, eqV]
@[simp] theorem eq_str_non (a : Str) (μ : Mu) : dEq (.str a) .non μ = .ok (.bl false) μ := by simp [dEq, eqD, D.kd, eqV]
@[simp] theorem ne_strs (a b : Str) (μ : Mu) : dNe (.str a) (.str b) μ = .ok (.bl (!decide (a = b))) μ := by
  simp [dNe, D.kd, scal]
theorem lt_log {i : Int} (h : i.natAbs < 10 ^ 12) : i.natAbs.log2 < 1920 := by
  rcases Nat.eq_zero_or_pos i.natAbs with z | z
  · rw [z]; decide
  · exact (Nat.log2_lt (by omega)).mpr (Nat.lt_trans h (by decide))
/-- a short thing's text -/
theorem repr_short {d : D} {p : PyData} (h : d.py = some p) (h1 : p.leavesShort 13 = true) (h2 : p.showable = true) (h3 : p.hasDict = false) (h4 : p.depth ≤ 40) (h5 : p.bulk ≤ 60000) : reprD d = some p.shown := by
  have := PyData.shown_le_bulk 13 (by decide) p h1
  unfold reprD
  rw [h]
  dsimp only
  rw [if_pos ⟨h2, h3, h4, by omega⟩]
end DL
/-! DL15: an empty dict. -/
namespace DL
open PySem L2
def dnew : FE := fun _ μ => .ok (.hdl μ.length) (μ ++ [.dct [] []])
@[simp] theorem ap_new (ρ : En) (μ : Mu) : dnew ρ μ = .ok (.hdl μ.length) (μ ++ [.dct [] []]) := of_eq_true (eq_self _)
theorem de_dnew {X : Cx} {E : XK} {pos : Pos} : DE X E (.Dict [] [] pos) dnew := pe_imp pe_dnewK fun σ H Q ⟨W, ρ, μ, ok, en, p⟩ => fun q hq =>
  p (W.cell q) _ _ (Go.cell ok hq) (ok.newcell hq (m := .dct [] []) ⟨[], rfl, rfl, .nil⟩) (.hdl (by
    show (W.io ++ [q])[μ.length]? = some q
    rw [← ok.len]
    simp))
end DL
/-! DL16: comprehensions reckoned, closed cells, the laws' own draws. -/
namespace DL
open PySem L2
/-- cells without handles -/
def AllC (μ : Mu) : Prop := ∀ m ∈ μ, ∀ n, m.closed n = true
theorem AllC.mu {μ : Mu} (h : AllC μ) (n : Nat) : closedMu n μ = true := by
  unfold closedMu
  rw [List.all_eq_true]
  exact fun m hm => h m (List.mem_of_mem_take hm) n
theorem AllC.app {μ ex : Mu} (h : AllC μ) (h2 : AllC ex) : AllC (μ ++ ex) := fun m hm n => by
  rcases List.mem_append.mp hm with z | z
  · exact h m z n
  · exact h2 m z n
theorem AllC.set {μ : Mu} (h : AllC μ) (l : Nat) {m : MO} (hm : ∀ n, m.closed n = true) : AllC (μ.set l m) := fun k hk n => by
  rcases List.mem_or_eq_of_mem_set hk with z | z
  · exact h k z n
  · rw [z]; exact hm n
theorem trunc_len {μ μ1 : Mu} {d : D} (hl : μ1.length = μ.length) (hd : d.closed μ.length = true) (h : AllC μ1) : trunc μ.length d μ1 = .ok d μ1 := by
  unfold trunc
  rw [h.mu, hd, ← hl, List.take_length]
  rfl
theorem trunc_more {μ ex : Mu} {d : D} (hd : d.closed μ.length = true) (h : AllC μ) : trunc μ.length d (μ ++ ex) = .ok d μ := trunc_app hd (h.mu _)
@[simp] theorem lc_nil (t : Tg) (ft : FT) (fe : FE) (ρ : En) (μ : Mu) : lcD t ft fe ρ [] μ = .ok [] μ := by simp [lcD]
/-- a comprehension without effects -/
theorem lc_pure {t : Tg} {ft : FT} {fe : FE} {ρ : En} {μ : Mu} (g : D → En) (p : D → Bool) (f : D → D) : ∀ {xs : List D}, (∀ x ∈ xs, asg t x ρ = some (g x) ∧ ft (g x) μ = .ok (p x) μ ∧ (p x = true → fe (g x) μ = .ok (f x) μ)) → lcD t ft fe ρ xs μ = .ok ((xs.filter p).map f) μ
  | [], _ => by simp
  | x :: xs, h => by
    obtain ⟨h1, h2, h3⟩ := h x (by simp)
    have ih := lc_pure g p f (xs := xs) fun y hy => h y (List.mem_cons_of_mem _ hy)
    rw [lcD, h1]
    dsimp only
    rw [h2]
    cases hp : p x with
    | true => simp [hp, h3 hp, ih]
    | false => simp [hp, ih]
/-- .. with effects on the cells, all taken -/
theorem lc_inv {t : Tg} {fe : FE} {ρ : En} (I : Mu → Prop) (P : D → Prop) : ∀ {xs : List D} {μ : Mu}, (∀ x ∈ xs, ∀ μ, I μ → ∃ ρ1 y μ2, asg t x ρ = some ρ1 ∧ fe ρ1 μ = .ok y μ2 ∧ I μ2 ∧ P y) → I μ → ∃ ys μ', lcD t tyes fe ρ xs μ = .ok ys μ' ∧ I μ' ∧ ys.length = xs.length ∧ ∀ y ∈ ys, P y
  | [], μ, _, i => ⟨[], μ, by simp, i, rfl, fun _ z => nomatch z⟩
  | x :: xs, μ, h, i => by
    obtain ⟨ρ1, y, μ2, e1, e2, i2, py⟩ := h x (by simp) μ i
    obtain ⟨ys, μ', e, i', hl, hp⟩ := lc_inv (xs := xs) I P (fun z hz => h z (List.mem_cons_of_mem _ hz)) i2
    refine ⟨y :: ys, μ', ?_, i', by simp [hl], fun z hz => ?_⟩
    · rw [lcD, e1]
      simp [e2, e]
    · rcases List.mem_cons.mp hz with rfl | hz'
      · exact py
      · exact hp z hz'
@[simp] theorem ap_dand (f g : FE) (ρ : En) (μ : Mu) : dand f g ρ μ = (f ρ μ).bind fun d μ1 => match d with | .bl true => g ρ μ1 | .bl false => .ok (.bl false) μ1 | _ => .bad := of_eq_true (eq_self _)
@[simp] theorem ap_dor (f g : FE) (ρ : En) (μ : Mu) : dor f g ρ μ = (f ρ μ).bind fun d μ1 => match d with | .bl true => .ok (.bl true) μ1 | .bl false => g ρ μ1 | _ => .bad := of_eq_true (eq_self _)
@[simp] theorem ap_dnot (f : FE) (ρ : En) (μ : Mu) : dnot f ρ μ = (f ρ μ).bind fun d μ1 => match d with | .bl b => .ok (.bl (!b)) μ1 | _ => .bad := of_eq_true (eq_self _)
@[simp] theorem ap_dneg (f : FE) (ρ : En) (μ : Mu) : dneg f ρ μ = (f ρ μ).bind fun d μ1 => match d with | .int i => .ok (.int (-i)) μ1 | _ => .bad := of_eq_true (eq_self _)
@[simp] theorem ap_chain (g1 g2 : D → D → Mu → R D) (fa fb fc : FE) (ρ : En) (μ : Mu) : dchain g1 g2 fa fb fc ρ μ = (fa ρ μ).bind fun x μ1 => (fb ρ μ1).bind fun y μ2 => (g1 x y μ2).bind fun z μ3 => match z with
  | .bl true => (fc ρ μ3).bind fun w μ4 => g2 y w μ4
  | .bl false => .ok (.bl false) μ3
  | _ => .bad := of_eq_true (eq_self _)
@[simp] theorem isi_ap (d : D) (T : String) (μ : Mu) : bIsi [d, .cst (.ty T)] μ = match tyName μ d with
    | some t => match kitB t T with
      | some b => .ok (.bl b) μ
      | none => .bad
    | none => .bad := of_eq_true (eq_self _)
@[simp] theorem tn_non (μ : Mu) : tyName μ .non = some "NoneType" := of_eq_true (eq_self _)
@[simp] theorem tn_bl (μ : Mu) (b : Bool) : tyName μ (.bl b) = some "bool" := of_eq_true (eq_self _)
@[simp] theorem tn_int (μ : Mu) (b : Int) : tyName μ (.int b) = some "int" := of_eq_true (eq_self _)
@[simp] theorem tn_str (μ : Mu) (b : Str) : tyName μ (.str b) = some "str" := of_eq_true (eq_self _)
@[simp] theorem tn_tup (μ : Mu) (b : List D) : tyName μ (.tup b) = some "tuple" := of_eq_true (eq_self _)
@[simp] theorem tn_lst (μ : Mu) (b : List D) : tyName μ (.lst b) = some "list" := of_eq_true (eq_self _)
@[simp] theorem k_non_str : kitB "NoneType" "str" = some false := by decide +kernel
@[simp] theorem k_bool_str : kitB "bool" "str" = some false := by decide +kernel
@[simp] theorem k_int_str : kitB "int" "str" = some false := by decide +kernel
@[simp] theorem k_str_str : kitB "str" "str" = some true := by decide +kernel
@[simp] theorem k_tup_str : kitB "tuple" "str" = some false := by decide +kernel
@[simp] theorem k_lst_str : kitB "list" "str" = some false := by decide +kernel
@[simp] theorem k_dict_str : kitB "dict" "str" = some false := by decide +kernel
@[simp] theorem ix_lst (xs : List D) (k : Int) (μ : Mu) : dIx (.lst xs) (.int k) μ = R.of (atI xs k) μ := of_eq_true (eq_self _)
@[simp] theorem ix_tup (xs : List D) (k : Int) (μ : Mu) : dIx (.tup xs) (.int k) μ = R.of (atI xs k) μ := of_eq_true (eq_self _)
theorem ix_hdl {l : Nat} {μ : Mu} {xs : List D} (h : μ[l]? = some (.lst xs)) (k : Int) : dIx (.hdl l) (.int k) μ = R.of (atI xs k) μ := by
  simp [dIx, ixD, seqD, h]
@[simp] theorem at0 (x : D) (xs : List D) : atI (x :: xs) 0 = some x := by
  simp [atI, ixN]
@[simp] theorem at1 (x y : D) (xs : List D) : atI (x :: y :: xs) 1 = some y := by
  unfold atI ixN
  rw [if_pos (by decide), if_pos (by simp; omega)]
  rfl
theorem at_lt {xs : List D} {k : Int} (h0 : 0 ≤ k) (h : k < xs.length) : ∃ x, atI xs k = some x ∧ x ∈ xs := by
  have hk : k.toNat < xs.length := by omega
  refine ⟨xs[k.toNat], ?_, List.getElem_mem _⟩
  simp [atI, ixN, h0, h, hk]
theorem seq_assoc (a b c : FS) (ρ : En) (μ : Mu) : gseq a (gseq b c) ρ μ = (gseq a b ρ μ).thn c := by
  rw [ap_seq, ap_seq]
  cases a ρ μ with
  | nx ρ1 μ1 => rw [O.thn_nx, O.thn_nx, ap_seq]
  | _ => rfl
/-! ### the laws' draws -/
def gPool1 : FS := gif (dtest (dbin ltD (dvar 1) (dcallB bLen (aCons (dvar 0) aNil)))) (gasg (.nm 2) (dcallB bAbs (aCons (dbin dIx (dvar 0) (dvar 1)) aNil))) gnil
def gPool2 : FS := (gseq (gasg (.nm 3) (dbin modD (dbin mulD (dbin addD (dbin addD (dbin addD (dbin modD (dvar 2) (dc (.int 2147483629))) (dbin mulD (dbin mulD (dc (.int 7919)) (dvar 1)) (dvar 1))) (dbin mulD (dc (.int 31)) (dvar 1))) (dc (.int 17))) (dc (.int 48271))) (dc (.int 2147483647))))
    (gret (dcel (aCons (dbin mulD (dvar 2) (dcallB bInt (aCons (dbin geD (dvar 2) (dbin powD (dc (.int 10)) (dc (.int 18)))) aNil))) (aCons (dbin modD (dbin mulD (dvar 3) (dvar 3)) (dc (.int 2147483629))) aNil)))))
def gPool : FS := gseq (gasg (.nm 2) (dc (.int 0))) (gseq gPool1 gPool2)
def gTake : FS := (gseq (gif (dtest (dbin gtD (dbin dIx (dvar 0) (dc (.int 0))) (dc (.int 0)))) (gseq (gasg (.nm 2) (dbin modD (dbin dIx (dvar 0) (dc (.int 0))) (dvar 1)))
    (gseq (gsetix (dvar 0) (dc (.int 0)) (dbin fdivD (dbin dIx (dvar 0) (dc (.int 0))) (dvar 1)))
    (gret (dvar 2)))) gnil)
    (gseq (gsetix (dvar 0) (dc (.int 1)) (dbin modD (dbin addD (dbin mulD (dbin dIx (dvar 0) (dc (.int 1))) (dc (.int 48271))) (dc (.int 12345))) (dc (.int 2147483647))))
    (gret (dbin modD (dbin fdivD (dbin modD (dbin mulD (dbin dIx (dvar 0) (dc (.int 1))) (dbin dIx (dvar 0) (dc (.int 1)))) (dc (.int 2147483629))) (dc (.int 64))) (dvar 1)))))
/-- a pool lies at l -/
structure Pool (μ : Mu) (l : Nat) : Prop where
  ex : ∃ a b : Int, μ[l]? = some (.lst [.int a, .int b]) ∧ 0 ≤ b ∧ b < 2147483648
  cl : AllC μ
theorem pool_cl (a b : Int) (n : Nat) : MO.closed n (.lst [.int a, .int b]) = true := by simp [MO.closed, D.closedL, D.closed]
theorem pool2 (s : D) (k : Nat) (hk : k ≤ 1000) (c : Int) (μ : Mu) : ∃ a b : Int, gPool2 [some s, some (.int k), some (.int c), none] μ = .rt (.hdl μ.length) (μ ++ [.lst [.int a, .int b]]) ∧ 0 ≤ b ∧ b < 2147483648 := by
  have m0 := Int.emod_nonneg ((c % 2147483629 + 7919 * (k : Int) * k + 31 * k + 17) * 48271) (b := 2147483647) (by omega)
  have m1 := Int.emod_lt_of_pos ((c % 2147483629 + 7919 * (k : Int) * k + 31 * k + 17) * 48271) (b := 2147483647) (by omega)
  generalize hx : (c % 2147483629 + 7919 * (k : Int) * k + 31 * k + 17) * 48271 % 2147483647 = x at m0 m1
  have n0 := Int.emod_nonneg (x * x) (b := 2147483629) (by omega)
  have n1 := Int.emod_lt_of_pos (x * x) (b := 2147483629) (by omega)
  generalize hy : x * x % 2147483629 = y at n0 n1
  have hk2 : -18446744073709551616 < (k : Int) ∧ (k : Int) < 18446744073709551616 := by omega
  have hx2 : -18446744073709551616 < x ∧ x < 18446744073709551616 := by omega
  by_cases hc18 : (1000000000000000000 : Int) ≤ c
  · exact ⟨c, y, by simp [gPool2, hk2.1, hk2.2, bInt, hc18, hx, hx2.1, hx2.2, hy], n0, by omega⟩
  · exact ⟨0, y, by simp [gPool2, hk2.1, hk2.2, bInt, hc18, hx, hx2.1, hx2.2, hy], n0, by omega⟩
theorem pool_ok (ns : List Int) (hl : ns.length ≤ 1000) (k : Nat) (hk : k ≤ 1000) (μ : Mu) (hμ : AllC μ) : ∃ μ', callF 4 gPool [.lst (ns.map .int), .int k] μ = .ok (.hdl μ.length) μ' ∧ Pool μ' μ.length ∧ ∃ m, μ' = μ ++ [m] := by
  have main : ∀ c : Int, gPool1 [some (.lst (ns.map .int)), some (.int k), some (.int 0), none] μ = .nx [some (.lst (ns.map .int)), some (.int k), some (.int c), none] μ →
      ∃ μ', callF 4 gPool [.lst (ns.map .int), .int k] μ = .ok (.hdl μ.length) μ' ∧ Pool μ' μ.length ∧ ∃ m, μ' = μ ++ [m] := by
    intro c hc
    obtain ⟨a, b, e, b0, b1⟩ := pool2 (.lst (ns.map .int)) k hk c μ
    have body : gPool (startD 4 [.lst (ns.map .int), .int k]) μ = .rt (.hdl μ.length) (μ ++ [.lst [.int a, .int b]]) := by
      simp [gPool, startD, hc, e]
    refine ⟨μ ++ [.lst [.int a, .int b]], ?_, ⟨⟨a, b, by simp, b0, b1⟩, hμ.app fun m hm n => by rw [List.mem_singleton.mp hm]; exact pool_cl _ _ n⟩, _, rfl⟩
    rw [callF_eq _ _ _ _ _ _ body]
    simp [trunc, D.closed]
  by_cases h : k < ns.length
  · refine main (if ns[k] < 0 then -ns[k] else ns[k]) ?_
    have hk' : (k : Int) < ns.length := by omega
    have e : atI (ns.map D.int) k = some (.int ns[k]) := by simp [atI, ixN, h]
    simp [gPool1, bLen, lenD, seqD, hk', e]
  · refine main 0 ?_
    have hk' : ¬ (k : Int) < ns.length := by omega
    simp [gPool1, bLen, lenD, seqD, hk']
theorem take_ok {μ : Mu} {l : Nat} (h : Pool μ l) (n : Int) (hn : 0 < n ∧ n < 1073741824) : ∃ v μ', callF 3 gTake [.hdl l, .int n] μ = .ok (.int v) μ' ∧ 0 ≤ v ∧ v < n ∧ Pool μ' l ∧ μ'.length = μ.length := by
  obtain ⟨a, b, e, b0, b1⟩ := h.ex
  have hll : l < μ.length := (List.getElem?_eq_some_iff.mp e).1
  by_cases ha : 0 < a
  · have body : gTake (startD 3 [.hdl l, .int n]) μ = .rt (.int (a % n)) (μ.set l (.lst [.int (a / n), .int b])) := by
      simp [gTake, startD, ix_hdl e, ha, hn.1, hn.2, gsetix, e, ixN]
    refine ⟨_, _, (callF_eq _ _ _ _ _ _ body).trans (trunc_len (by simp) (by simp [D.closed]) (h.cl.set l (pool_cl _ _))), Int.emod_nonneg _ (by omega), Int.emod_lt_of_pos _ hn.1, ⟨⟨a / n, b, by simp [hll], b0, b1⟩, h.cl.set l (pool_cl _ _)⟩, by simp⟩
  · have m0 := Int.emod_nonneg (b * 48271 + 12345) (b := 2147483647) (by omega)
    have m1 := Int.emod_lt_of_pos (b * 48271 + 12345) (b := 2147483647) (by omega)
    generalize hy : (b * 48271 + 12345) % 2147483647 = y at m0 m1
    have hb2 : -18446744073709551616 < b ∧ b < 18446744073709551616 := by omega
    have hy2 : -18446744073709551616 < y ∧ y < 18446744073709551616 := by omega
    have e2 : (μ.set l (.lst [.int a, .int y]))[l]? = some (.lst [.int a, .int y]) := by simp [hll]
    have body : gTake (startD 3 [.hdl l, .int n]) μ = .rt (.int (y * y % 2147483629 / 64 % n)) (μ.set l (.lst [.int a, .int y])) := by
      simp [gTake, startD, ix_hdl e, ha, hn.1, hn.2, gsetix, e, ixN, hy, ix_hdl e2, hb2.1, hb2.2, hy2.1, hy2.2]
    refine ⟨_, _, (callF_eq _ _ _ _ _ _ body).trans (trunc_len (by simp) (by simp [D.closed]) (h.cl.set l (pool_cl _ _))), Int.emod_nonneg _ (by omega), Int.emod_lt_of_pos _ hn.1, ⟨⟨_, y, e2, m0, by omega⟩, h.cl.set l (pool_cl _ _)⟩, by simp⟩
end DL
/-! DL17: instances of own classes: attributes, methods, making. What is never reached. -/
namespace DL
open PySem L2
/-! ### what is never reached -/
def gbad : FS := fun _ _ => .bad
def dbad : FE := fun _ _ => .bad
theorem ds_bad {X : Cx} {E : XK} {st : Stmt} : DS X E st gbad := ⟨fun pins s σ H D I h => by
  obtain ⟨W, ρ, μ, ok, en, p⟩ := h
  exact p.elim⟩
theorem de_bad {X : Cx} {E : XK} {e : Expr} : DE X E e dbad := ⟨fun pins s σ H D I h => by
  obtain ⟨W, ρ, μ, ok, en, p⟩ := h
  exact p.elim⟩
@[simp] theorem ap_gbad (ρ : En) (μ : Mu) : gbad ρ μ = .bad := of_eq_true (eq_self _)
@[simp] theorem ap_dbad (ρ : En) (μ : Mu) : dbad ρ μ = .bad := of_eq_true (eq_self _)
@[simp] theorem O.thn_bad (h : FS) : O.bad.thn h = .bad := of_eq_true (eq_self _)
/-! ### attributes -/
def putP {α : Type} (f : Str) (x : α) : List Str → List α → List Str × List α
  | g :: ns, y :: ys => if g = f then (g :: ns, x :: ys) else (g :: (putP f x ns ys).1, y :: (putP f x ns ys).2)
  | _, _ => ([f], [x])
theorem putP_zip (f : Str) (v : V) : ∀ {ns : List Str} {vs : List V}, ns.length = vs.length → putF f v (ns.zip vs) = (putP f v ns vs).1.zip (putP f v ns vs).2
  | [], [], _ => rfl
  | [], _ :: _, h => by cases h
  | _ :: _, [], h => by cases h
  | g :: ns, y :: ys, h => by
    simp only [List.zip_cons_cons, putF, putP]
    by_cases e : g = f
    · simp [e]
    · simp [e, putP_zip f v (ns := ns) (vs := ys) (by simpa using h)]
theorem putP_len {α : Type} (f : Str) (v : α) : ∀ {ns : List Str} {vs : List α}, ns.length = vs.length → (putP f v ns vs).1.length = (putP f v ns vs).2.length
  | [], [], _ => rfl
  | [], _ :: _, h => by cases h
  | _ :: _, [], h => by cases h
  | g :: ns, y :: ys, h => by
    simp only [putP]
    by_cases e : g = f
    · simpa [e] using h
    · simp [e, putP_len f v (ns := ns) (vs := ys) (by simpa using h)]
theorem putP_names {α β : Type} (f : Str) (v : α) (d : β) : ∀ {ns : List Str} {vs : List α} {ds : List β}, ns.length = vs.length → ns.length = ds.length → (putP f v ns vs).1 = (putP f d ns ds).1
  | [], [], [], _, _ => rfl
  | [], _ :: _, _, h, _ => by cases h
  | [], [], _ :: _, _, h => by cases h
  | _ :: _, [], _, h, _ => by cases h
  | _ :: _, _ :: _, [], _, h => by cases h
  | g :: ns, y :: ys, z :: zs, h, h2 => by
    simp only [putP]
    by_cases e : g = f
    · simp [e]
    · simp [e, putP_names f v d (ns := ns) (vs := ys) (ds := zs) (by simpa using h) (by simpa using h2)]
theorem putP_reps {K : PySem.W.Frag} {W : Wd} (f : Str) {v : V} {d : D} (r : Rep K W v d) : ∀ {ns : List Str} {vs : List V} {ds : List D}, ns.length = vs.length → Reps K W vs ds → Reps K W (putP f v ns vs).2 (putP f d ns ds).2
  | [], [], [], _, _ => .cons r .nil
  | [], _ :: _, _, h, _ => by cases h
  | _ :: _, [], _, h, _ => by cases h
  | g :: ns, y :: ys, z :: zs, h, .cons r1 r2 => by
    simp only [putP]
    by_cases e : g = f
    · simp only [if_pos e]
      exact .cons r r2
    · simp only [if_neg e]
      exact .cons r1 (putP_reps f r (by simpa using h) r2)
theorem lookup_rep {K : PySem.W.Frag} {W : Wd} {f : Str} {d : D} : ∀ {ns : List Str} {vs : List V} {ds : List D}, Reps K W vs ds → (ns.zip ds).lookup f = some d → ∃ v, (ns.zip vs).lookup f = some v ∧ Rep K W v d
  | [], _, _, _, h => by cases h
  | _ :: _, _, _, .nil, h => by cases h
  | g :: ns, _, _, .cons (v := v) (vs := vs) (d := e) (ds := ds) r rs, h => by
    simp only [List.zip_cons_cons, List.lookup] at h ⊢
    cases hb : (f == g) with
    | true =>
      rw [hb] at h
      cases h
      exact ⟨v, rfl, r⟩
    | false =>
      rw [hb] at h
      exact lookup_rep rs h
theorem lookup_none {K : PySem.W.Frag} {W : Wd} {f : Str} : ∀ {ns : List Str} {vs : List V} {ds : List D}, Reps K W vs ds → (ns.zip ds).lookup f = none → (ns.zip vs).lookup f = none
  | [], _, _, _, _ => rfl
  | _ :: _, _, _, .nil, _ => rfl
  | g :: ns, _, _, .cons (v := v) (vs := vs) (d := e) (ds := ds) r rs, h => by
    simp only [List.zip_cons_cons, List.lookup] at h ⊢
    cases hb : (f == g) with
    | true => rw [hb] at h; cases h
    | false =>
      rw [hb] at h
      exact lookup_none rs h
/-- an instance: its class and its attributes -/
def insD (μ : Mu) : D → Option (Nat × List (Str × D))
  | .obj C fs => some (C, fs)
  | .hdl l => match μ[l]? with
    | some (.ins C ns xs) => some (C, ns.zip xs)
    | _ => none
  | _ => none
theorem ins_rep {K : PySem.W.Frag} {W : Wd} {H : Hp} {μ : Mu} {v : V} {d : D} {C : Nat} {fs : List (Str × D)} (ok : Ok K W H μ) (r : Rep K W v d) (h : insD μ d = some (C, fs)) :
    ∃ (a dx : Addr) (ns : List Str) (vs : List V) (ds : List D), v = .ref a ∧ H a = some (.ins (cl K C) dx (ns.zip vs)) ∧ fs = ns.zip ds ∧ Reps K W vs ds := by
  cases r with
  | obj h1 e rs =>
    simp [insD] at h
    obtain ⟨rfl, rfl⟩ := h
    exact ⟨_, _, _, _, _, rfl, ok.sub _ _ h1, rfl, rs⟩
  | @hdl a l ha =>
    unfold insD at h
    dsimp only at h
    cases hm : μ[l]? with
    | none => rw [hm] at h; cases h
    | some m =>
      rw [hm] at h
      cases m with
      | ins C' ns xs =>
        cases h
        obtain ⟨o, ho, dx, vs, rfl, hl, rs⟩ := ok.cell l a _ ha hm
        exact ⟨_, _, _, _, _, rfl, ho, rfl, rs⟩
      | _ => cases h
  | _ => simp [insD] at h
def atD (cs : List Nat) (f : Str) (μ : Mu) (d : D) : Option D := match insD μ d with
  | some (C, fs) => if C ∈ cs then fs.lookup f else none
  | none => none
def dat (cs : List Nat) (f : Str) (fo : FE) : FE := fun ρ μ => (fo ρ μ).bind fun d μ1 => R.of (atD cs f μ1 d) μ1
@[simp] theorem ap_at (cs : List Nat) (f : Str) (fo : FE) (ρ : En) (μ : Mu) : dat cs f fo ρ μ = (fo ρ μ).bind fun d μ1 => R.of (atD cs f μ1 d) μ1 := of_eq_true (eq_self _)
section
variable {X : Cx} {E : XK} {e o : Expr} {fe fo : FE} {f : Str} {pos pos' : Pos} {cs : List Nat}
theorem de_at (hc : ∀ C ∈ cs, Cls X.K (cl X.K C) ∧ NoAttr X.K (cl X.K C) f) (he : DE X E e fe) (hb : attributeBase e f X.env (eval e X.env) = eval e X.env := by rfl) : DE X E (.Attribute e f pos) (dat cs f fe) := by
  refine pe_imp (pe_fld he hb) fun σ H Q ⟨W, ρ, μ, ok, en, p⟩ => ?_
  refine seq p ok en fun d μ1 W1 v H1 g1 o1 en1 r p1 => ?_
  unfold atD at p1
  cases hi : insD μ1 d with
  | none => rw [hi] at p1; exact p1.elim
  | some q =>
    obtain ⟨C, fs⟩ := q
    rw [hi] at p1
    dsimp only at p1
    by_cases hC : C ∈ cs
    · rw [if_pos hC] at p1
      cases hl : fs.lookup f with
      | none => rw [hl] at p1; exact p1.elim
      | some x =>
        rw [hl] at p1
        obtain ⟨a, dx, ns, vs, ds, rfl, ha, rfl, rs⟩ := ins_rep o1 r hi
        obtain ⟨w, hw, rw1⟩ := lookup_rep rs hl
        exact ⟨a, _, dx, _, w, rfl, ha, (hc C hC).1, (hc C hC).2, hw, post_pure o1 p1 rw1⟩
    · rw [if_neg hC] at p1
      exact p1.elim
/-- o.f = e on an instance that is a cell -/
def gsetat (cs : List Nat) (f : Str) (fo fe : FE) : FS := fun ρ μ => (fe ρ μ).to fun d μ1 => (fo ρ μ1).to fun x μ2 => match x with
  | .hdl l => match μ2[l]? with
    | some (.ins C ns xs) => if C ∈ cs ∧ ns.length < 900 ∧ ns.length = xs.length then .nx ρ (μ2.set l (.ins C (putP f d ns xs).1 (putP f d ns xs).2)) else .bad
    | _ => .bad
  | _ => .bad
theorem ds_setat (hc : ∀ C ∈ cs, Cls X.K (cl X.K C) ∧ NoAttr X.K (cl X.K C) f) (he : DE X E e fe) (ho : DE X E o fo) (hs : swapsWith e (some (.Attribute o f pos')) pos.line X.env = pure false := by rfl) : DS X E (.Assign [.Attribute o f pos'] e pos) (gsetat cs f fo fe) := by
  refine ps_imp (ps_fld ho he hs) fun Z σ H ⟨W, ρ, μ, ok, en, p⟩ => ?_
  refine seqS p ok en fun d μ1 W1 v H1 g1 o1 en1 r p1 => ?_
  refine seqS p1 o1 en1 fun x μ2 W2 xv H2 g2 o2 en2 r2 p2 => ?_
  split at p2
  · rename_i l
    split at p2
    · rename_i C ns xs hm
      split at p2
      · rename_i hq
        obtain ⟨hC, hn, hl⟩ := hq
        cases r2 with
        | @hdl a _ ha =>
          obtain ⟨ob, hob, dx, vs, rfl, hlv, rs⟩ := o2.cell l a _ ha hm
          obtain ⟨ok4, g4⟩ := o2.setcell (m' := .ins C (putP f d ns xs).1 (putP f d ns xs).2) (o' := .ins (cl X.K C) dx (putF f v (ns.zip vs))) ha hm (fun z => nomatch z) ⟨dx, (putP f v ns vs).2, by rw [putP_zip f v hlv, putP_names f v d hlv hl], by rw [← putP_names f v d hlv hl]; exact putP_len f v hlv, putP_reps f (r.mono g2.le) hlv rs⟩
          refine ⟨a, _, dx, _, rfl, hob, (hc C hC).1, (hc C hC).2, ?_, p2 _ _ _ g4 ok4 en2⟩
          rw [List.length_zip]
          omega
      · exact p2.elim
    · exact p2.elim
  · exact p2.elim
end
/-! ### methods -/
/-- o.m(..) of the class C, m no attribute of its own -/
def dmeth (C : Nat) (m : Str) (F : List D → Mu → R D) (dd : List D) (fo : FE) (fa : FA) : FE := fun ρ μ => (fo ρ μ).bind fun o μ1 => match insD μ1 o with
  | some (C', fs) => if C' = C ∧ (fs.lookup m).isNone = true then (fa ρ μ1).bind fun ds μ2 => F ((o :: ds) ++ dd) μ2 else .bad
  | none => .bad
@[simp] theorem ap_meth (C : Nat) (m : Str) (F : List D → Mu → R D) (dd : List D) (fo : FE) (fa : FA) (ρ : En) (μ : Mu) : dmeth C m F dd fo fa ρ μ = (fo ρ μ).bind fun o μ1 => match insD μ1 o with
  | some (C', fs) => if C' = C ∧ (fs.lookup m).isNone = true then (fa ρ μ1).bind fun ds μ2 => F ((o :: ds) ++ dd) μ2 else .bad
  | none => .bad := of_eq_true (eq_self _)
section
variable {X : Cx} {E : XK} {k C : Nat} {f : Addr} {fd : FuncData} {ps : List Str} {F : List D → Mu → R D} {dd : List D} {m : Str} {p pos apos : Pos} {o e : Expr} {es : List Expr} {fo : FE} {fa : FA}
theorem de_meth {pl : Sem Bool} (G : FnG X.prog X.w X.K X.mg X.base k f fd ps F) (c : Cal X E k) (hC : Cls X.K (cl X.K C)) (hm : Meth X.K (cl X.K C) m f) (b : Dfl X.K fd ps ((e :: es).length + 1) dd) (ho : DE X E o fo) (ha : DA X E (e :: es) fa)
    (hf : HasLen fa (e :: es).length := by repeat (first | exact aNil_len | refine aCons_len ?_)) (hst : starEach (e :: es) X.env = (false, eval e X.env) :: starEach es X.env := by rfl) (hpl : (backTo pos (starEach es X.env)).any (·.1) = false := by rfl)
    (ht : eval (.Call (.Attribute o m apos) (e :: es) [] pos) X.env = (do
      let ov ← eval o X.env
      standAt apos.atName
      let (f, first) ← holding [ov] (getMethod ov m pl)
      callWith pos f first (backTo pos (starEach (e :: es) X.env)) (backToKw pos (keywordEach [] X.env))) := by rfl) :
    DE X E (.Call (.Attribute o m apos) (e :: es) [] pos) (dmeth C m F dd fo fa) := by
  refine ⟨fun pins s σ H Q I q => ?_⟩
  obtain ⟨W, ρ, μ, ok, en, pq⟩ := q
  unfold dmeth at pq
  have rd : rE X.K E fo σ H (fun x H1 => ∃ W1 d μ1 a dx fs, x = .ref a ∧ H1 a = some (.ins (cl X.K C) dx fs) ∧ fs.lookup m = none ∧ Ok X.K W1 H1 μ1 ∧ Envs X.K W1 σ ρ ∧ Rep X.K W1 x d ∧ postE X.K E W1 H1 ((fa ρ μ1).bind fun ds μ2 => F ((d :: ds) ++ dd) μ2) Q) := by
    refine seq pq ok en fun d μ1 W1 v H1 g1 o1 en1 r p1 => ?_
    cases hi : insD μ1 d with
    | none => rw [hi] at p1; exact p1.elim
    | some z =>
      obtain ⟨C', fs⟩ := z
      rw [hi] at p1
      dsimp only at p1
      by_cases hq : C' = C ∧ (fs.lookup m).isNone = true
      · rw [if_pos hq] at p1
        obtain ⟨rfl, hn⟩ := hq
        obtain ⟨a, dx, ns, vs, ds, rfl, ha, rfl, rs⟩ := ins_rep o1 r hi
        exact ⟨W1, d, μ1, a, dx, _, rfl, ha, lookup_none rs (Option.isNone_iff_eq_none.mp hn), o1, en1, r, p1⟩
      · rw [if_neg hq] at p1
        exact p1.elim
  refine PySem.W.methodCall_KW (pl := pl) (thn (ho.run pins s σ H _ I rd) fun u s1 ⟨x, H1, I1, rx, W1, d, μ1, a, dx, fs, ex, ea, l, o1, en1, r1, q1⟩ => ?_) ht
  subst ex
  obtain rfl : u = Value.ref a := rx
  refine getmeth_ok I1 ea hC hm l ?_
  have rd2 : rA X.K E fa σ H1 (fun vs H2 => ∃ W2 ds μ2, vs.length = (e :: es).length ∧ Ok X.K W2 H2 μ2 ∧ Le W1 W2 ∧ Reps X.K W2 vs ds ∧ postE X.K E W2 H2 (F ((d :: ds) ++ dd) μ2) Q) := by
    refine ⟨W1, ρ, μ1, o1, en1, ?_⟩
    revert q1
    cases hq : fa ρ μ1 with
    | ok ds μ2 => exact fun p W2 xs H2 g o r => ⟨W2, ds, μ2, by rw [r.length]; exact hf ρ μ1 ds μ2 hq, o, g.le, r, post.mono g p⟩
    | ex c fs μ1 => exact fun p => p
    | bad => exact fun p => p
  refine PySem.W.callWith_K (first := [.ref a]) (h₀ := X.base) I.ok.mod.kin hm.kp (thn (ha.run pos pins s1 σ H1 _ I1 rd2) fun us s2 ⟨vs, H2, I2, r, W2, ds, μ2, hn, o2, l2, r2, q2⟩ => ⟨I2.kIn, ?_⟩) hst hpl
  exact callF_args (us := .ref a :: us) (vs := .ref a :: vs) (n := (e :: es).length + 1) G c b I2 (by rw [List.length_cons, ← r.length, hn]) (.cons rfl r) o2 (.cons (r1.mono l2) r2) q2
theorem de_meth0 {pl : Sem Bool} (G : FnG X.prog X.w X.K X.mg X.base k f fd ps F) (c : Cal X E k) (hC : Cls X.K (cl X.K C)) (hm : Meth X.K (cl X.K C) m f) (b : Dfl X.K fd ps 1 dd) (ho : DE X E o fo)
    (ht : eval (.Call (.Attribute o m apos) [] [] pos) X.env = (do
      let ov ← eval o X.env
      standAt apos.atName
      let (f, first) ← holding [ov] (getMethod ov m pl)
      callWith pos f first (backTo pos (starEach [] X.env)) (backToKw pos (keywordEach [] X.env))) := by rfl) :
    DE X E (.Call (.Attribute o m apos) [] [] pos) (dmeth C m F dd fo aNil) := by
  refine ⟨fun pins s σ H Q I q => ?_⟩
  obtain ⟨W, ρ, μ, ok, en, pq⟩ := q
  unfold dmeth at pq
  have rd : rE X.K E fo σ H (fun x H1 => ∃ W1 d μ1 a dx fs, x = .ref a ∧ H1 a = some (.ins (cl X.K C) dx fs) ∧ fs.lookup m = none ∧ Ok X.K W1 H1 μ1 ∧ Rep X.K W1 x d ∧ postE X.K E W1 H1 (F ([d] ++ dd) μ1) Q) := by
    refine seq pq ok en fun d μ1 W1 v H1 g1 o1 en1 r p1 => ?_
    cases hi : insD μ1 d with
    | none => rw [hi] at p1; exact p1.elim
    | some z =>
      obtain ⟨C', fs⟩ := z
      rw [hi] at p1
      dsimp only at p1
      by_cases hq : C' = C ∧ (fs.lookup m).isNone = true
      · rw [if_pos hq] at p1
        obtain ⟨rfl, hn⟩ := hq
        obtain ⟨a, dx, ns, vs, ds, rfl, ha, rfl, rs⟩ := ins_rep o1 r hi
        unfold aNil at p1
        rw [R.bind_ok] at p1
        exact ⟨W1, d, μ1, a, dx, _, rfl, ha, lookup_none rs (Option.isNone_iff_eq_none.mp hn), o1, r, p1⟩
      · rw [if_neg hq] at p1
        exact p1.elim
  refine PySem.W.methodCall_KW (pl := pl) (thn (ho.run pins s σ H _ I rd) fun u s1 ⟨x, H1, I1, rx, W1, d, μ1, a, dx, fs, ex, ea, l, o1, r1, q1⟩ => ?_) ht
  subst ex
  obtain rfl : u = Value.ref a := rx
  refine getmeth_ok I1 ea hC hm l ?_
  exact PySem.W.callWith_K0 (first := [.ref a]) I1.kIn hm.kp (callF_args (us := [.ref a]) (vs := [.ref a]) (n := 1) G c b I1 rfl (.cons rfl .nil) o1 (.cons r1 .nil) q1)
end
/-! ### making -/
/-- a new instance that is changed later -/
def makeM (C : Nat) (F : List D → Mu → R D) (g : D → List D) (μ : Mu) : R D := match F (g (.hdl μ.length)) (μ ++ [.ins C [] []]) with
  | .ok .non μ1 => .ok (.hdl μ.length) μ1
  | .ex c fs μ1 => .ex c fs μ1
  | _ => .bad
/-- .. that never changes any more -/
def makeO (C : Nat) (F : List D → Mu → R D) (g : D → List D) (μ : Mu) : R D := match F (g (.hdl μ.length)) (μ ++ [.ins C [] []]) with
  | .ok .non μ1 => match μ1[μ.length]? with
    | some (.ins C' ns xs) => trunc μ.length (.obj C' (ns.zip xs)) (μ1.set μ.length .gone)
    | _ => .bad
  | .ex c fs μ1 => truncX μ.length c fs μ1
  | _ => .bad
end DL
/-! DL18: an instance made by a call of its class. -/
namespace DL
open PySem L2
section
variable {K : PySem.W.Frag} {W : Wd} {H : Hp} {μ : Mu} {x dx : Addr} {C : Nat}
theorem born_ok (ok : Ok K W H μ) (h1 : H x = none) (h2 : H dx = none) (hne : dx ≠ x) : Ok K (W.cell x) (upd (upd H dx (.own x)) x (.ins (cl K C) dx [])) (μ ++ [.ins C [] []]) ∧ Go W H (W.cell x) (upd (upd H dx (.own x)) x (.ins (cl K C) dx [])) := by
  have ok1 : Ok K W (upd H dx (.own x)) μ := ok.other (ok.snone h2) (ok.notio h2)
  have hx : upd H dx (.own x) x = none := by rw [upd_ne (fun z => hne z.symm)]; exact h1
  exact ⟨ok1.newcell hx ⟨dx, [], rfl, rfl, .nil⟩, ((Go.refl W H).other h2).trans (Go.cell ok1 hx)⟩
theorem cell_last (ok : Ok K W H μ) {W' : Wd} (l : Le (W.cell x) W') : W'.io[μ.length]? = some x := prefix_get l.io (by
  show (W.io ++ [x])[μ.length]? = some x
  rw [← ok.len]
  simp)
end
section
variable {X : Cx} {E : XK} {k C : Nat} {f : Addr} {fd : FuncData} {ps : List Str} {F : List D → Mu → R D}
/-- what the call of the class must give for what its __init__ gives -/
def MkQ (K : PySem.W.Frag) (E : XK) (C : Nat) (F : List D → Mu → R D) (g : D → List D) (r : Mu → R D) : Prop := ∀ (W : Wd) (H : Hp) (μ : Mu) (x dx : Addr) (Q : VK), Ok K W H μ → H x = none → H dx = none → dx ≠ x → postE K E W H (r μ) Q →
  postE K E (W.cell x) (upd (upd H dx (.own x)) x (.ins (cl K C) dx [])) (F (g (.hdl μ.length)) (μ ++ [.ins C [] []])) (fun v H3 => v = .non ∧ Q (.ref x) H3)
theorem mkq_M {K : PySem.W.Frag} {g : D → List D} : MkQ K E C F g (makeM C F g) := by
  intro W H μ x dx Q ok h1 h2 hne p
  obtain ⟨ok1, g1⟩ := born_ok (C := C) ok h1 h2 hne
  unfold makeM at p
  revert p
  cases F (g (.hdl μ.length)) (μ ++ [.ins C [] []]) with
  | ok d μ2 =>
    intro p W' v H' g2 o2 r2
    cases r2 with
    | non => exact ⟨rfl, p W' (.ref x) H' (g1.trans g2) o2 (.hdl (cell_last ok g2.le))⟩
    | _ => exact p.elim
  | ex c fs μ2 => exact fun p W' H' d g2 o2 r2 => p W' H' d (g1.trans g2) o2 r2
  | bad => exact fun p => p
theorem mkq_O {K : PySem.W.Frag} {g : D → List D} : MkQ K E C F g (makeO C F g) := by
  intro W H μ x dx Q ok h1 h2 hne p
  obtain ⟨ok1, g1⟩ := born_ok (C := C) ok h1 h2 hne
  unfold makeO at p
  revert p
  cases F (g (.hdl μ.length)) (μ ++ [.ins C [] []]) with
  | ok d μ2 =>
    intro p W' v H' g2 o2 r2
    cases r2 with
    | non =>
      dsimp only at p
      cases hm : μ2[μ.length]? with
      | none => rw [hm] at p; exact p.elim
      | some m =>
        rw [hm] at p
        cases m with
        | ins C' ns xs =>
          have hio := cell_last ok g2.le
          obtain ⟨o, ho, dx', vs, rfl, hl, rs⟩ := o2.cell _ _ _ hio hm
          obtain ⟨ok3, g3⟩ := o2.freeze hio hm (fun z => nomatch z) ho
          refine ⟨rfl, trunc_post ok.len p ((g1.trans g2).trans g3) ok3 (.obj (dx := dx') (vs := vs) ?_ hl (rs.mono g3.le))⟩
          show upd W'.S x _ x = _
          exact upd_same
        | _ => exact p.elim
    | _ => exact p.elim
  | ex c fs μ2 => exact fun p W' H' d g2 o2 r2 => truncX_post ok.len p (g1.trans g2) o2 r2
  | bad => exact fun p => p
/-- the call itself; uz, vz: what comes to the parameters for self -/
theorem run_born {pins : List (Addr × Obj)} {σ : St} {H : Hp} {s : Shared} {Q : VK} {us : List Value} {kw : List (Str × Value)} {W : Wd} {μ : Mu} {g : D → List D} {r : Mu → R D} (M : Mk X.K (cl X.K C) f) (G : FnG X.prog X.w X.K X.mg X.base k f fd ps F) (c : Cal X E (k + 1))
    (I : Inv X pins σ H s) (uz : Value → List Value) (vz : V → List V) (hl : ∀ u, (uz u).length = ps.length) (hb : ∀ (s' : Shared) (a : Addr), X.K.In s'.heap → BindsTo s' fd ⟨.ref a :: us, kw⟩ (ps.zip (uz (.ref a)))) (rv : ∀ a : Addr, Vals (vz (.ref a)) (uz (.ref a)))
    (ok : Ok X.K W H μ) (rp : ∀ (W' : Wd) (a : Addr), Le W W' → Rep X.K W' (.ref a) (.hdl μ.length) → Reps X.K W' (vz (.ref a)) (g (.hdl μ.length))) (mk : MkQ X.K E C F g r) (q : postE X.K E W H (r μ) Q) :
    wpAny (model X.prog X.w) X.A (call (.ref (cl X.K C)) us kw) (EP X pins σ Q) X.xe s := by
  have n1 := I.hok.fresh (Nat.le_succ s.heap.objs.size)
  have n2 := I.hok.fresh (Nat.le_refl s.heap.objs.size)
  have ne : s.heap.objs.size ≠ s.heap.objs.size + 1 := Nat.ne_of_lt (Nat.lt_succ_self _)
  have hq := mk W H μ (s.heap.objs.size + 1) s.heap.objs.size Q ok n1 n2 ne q
  obtain ⟨ok1, g1⟩ := born_ok (C := C) ok n1 n2 ne
  have I2 := Inv.made (C := cl X.K C) I
  have gd : (X.A.under (.builtin "type.__call__" ⟨.ref (cl X.K C) :: us, kw⟩)).guards = some [] := by
    have e : Code.guards (.builtin "type.__call__" ⟨.ref (cl X.K C) :: us, kw⟩) = [] := by simp [Code.guards, Code.isGuard, guardIds]
    unfold Around.under
    dsimp only
    rw [e, c.guards]
    rfl
  refine wpAny_call (make_map (f := f) I.kIn M.makes M.init (beq_iff_eq.mp M.fn) (codeAny_mono (G.run _ X.stack _ _ ⟨Value.ref (s.heap.objs.size + 1) :: us, kw⟩ (uz (.ref (s.heap.objs.size + 1))) (vz (.ref (s.heap.objs.size + 1))) _ E _ _ _ (c.room.make (cl X.K C) us kw) gd
    (I2.env0.make (cl X.K C) us kw) (hl _) (hb _ _ I2.kIn) (rv _) ok1 (rp _ _ g1.le (.hdl (cell_last ok (Le.refl _)))) hq) fun z s' hq' => ?_))
  cases z with
  | error e => exact c.pass pins σ _ _ e s' I2 hq'
  | ok fl =>
    cases fl with
    | ret u =>
      obtain ⟨v, H', I3, rr, ev, q3⟩ := I2.after hq'
      subst ev
      exact ⟨rr, ⟨V.ref (s.heap.objs.size + 1), H', I3, rfl, q3⟩⟩
    | next => exact hq'.elim
    | brk => exact hq'.elim
    | cont => exact hq'.elim
end
/-- C(e, ..), C(e, .., k = v, ..): mk is makeM or makeO -/
def dmake (mk : (D → List D) → Mu → R D) (dd : List D) (fa : FA) : FE := fun ρ μ => (fa ρ μ).bind fun ds μ1 => mk (fun x => (x :: ds) ++ dd) μ1
def dmakeK (mk : (D → List D) → Mu → R D) (gD : List D → List D → List D) (fa fk : FA) : FE := fun ρ μ => (fa ρ μ).bind fun ds μ1 => (fk ρ μ1).bind fun es μ2 => mk (fun x => gD (x :: ds) es) μ2
@[simp] theorem ap_make (mk : (D → List D) → Mu → R D) (dd : List D) (fa : FA) (ρ : En) (μ : Mu) : dmake mk dd fa ρ μ = (fa ρ μ).bind fun ds μ1 => mk (fun x => (x :: ds) ++ dd) μ1 := of_eq_true (eq_self _)
@[simp] theorem ap_makeK (mk : (D → List D) → Mu → R D) (gD : List D → List D → List D) (fa fk : FA) (ρ : En) (μ : Mu) : dmakeK mk gD fa fk ρ μ = (fa ρ μ).bind fun ds μ1 => (fk ρ μ1).bind fun es μ2 => mk (fun x => gD (x :: ds) es) μ2 := of_eq_true (eq_self _)
section
variable {X : Cx} {E : XK} {k n C : Nat} {f : Addr} {fd : FuncData} {ps ks : List Str} {F : List D → Mu → R D} {dd : List D} {gD : List D → List D → List D} {x : Str} {p pos kpos : Pos} {e : Expr} {es : List Expr} {kws : List Keyword} {fa fk : FA} {mk : (D → List D) → Mu → R D}
theorem de_make (M : Mk X.K (cl X.K C) f) (G : FnG X.prog X.w X.K X.mg X.base k f fd ps F) (c : Cal X E (k + 1)) (hm : X.mg x = some (.ref (cl X.K C))) (b : Dfl X.K fd ps ((e :: es).length + 1) dd) (hk : ∀ g, MkQ X.K E C F g (mk g)) (ha : DA X E (e :: es) fa)
    (hf : HasLen fa (e :: es).length := by repeat (first | exact aNil_len | refine aCons_len ?_)) (hg : Gl X x := by rfl) (hdb : (x == ("__debug__" : Str)) = false := by decide) (he : starEach (e :: es) X.env = (false, eval e X.env) :: starEach es X.env := by rfl) (hpl : (backTo pos (starEach es X.env)).any (·.1) = false := by rfl) :
    DE X E (.Call (.Name x p) (e :: es) [] pos) (dmake mk dd fa) := by
  refine ⟨fun pins s σ H Q I q => ?_⟩
  obtain ⟨W, ρ, μ, ok, en, pq⟩ := q
  refine wpAny_Call_Name_kw (ld_glob I hg hm ?_ hdb)
  unfold dmake at pq
  have rd : rA X.K E fa σ H (fun vs H1 => ∃ W1 ds μ1, vs.length = (e :: es).length ∧ Ok X.K W1 H1 μ1 ∧ Reps X.K W1 vs ds ∧ postE X.K E W1 H1 (mk (fun x => (x :: ds) ++ dd) μ1) Q) := by
    refine ⟨W, ρ, μ, ok, en, ?_⟩
    revert pq
    cases hq : fa ρ μ with
    | ok ds μ1 => exact fun p W1 xs H1 g o r => ⟨W1, ds, μ1, by rw [r.length]; exact hf ρ μ ds μ1 hq, o, r, post.mono g p⟩
    | ex c fs μ1 => exact fun p => p
    | bad => exact fun p => p
  refine PySem.W.callWith_K (h₀ := X.base) I.ok.mod.kin M.kp (thn (ha.run pos pins s σ H _ I rd) fun us s1 ⟨vs, H1, I1, r, W1, ds, μ1, hn, o1, r1, q1⟩ => ⟨I1.kIn, ?_⟩) he hpl
  obtain ⟨dvs, d0, r0, rd0, hl, hb⟩ := b.ex
  have hu : us.length = (e :: es).length := by rw [← r.length]; exact hn
  have hlen : ∀ u : Value, ((u :: us) ++ d0).length = ps.length := fun u => by rw [List.length_append, List.length_cons, hu]; exact hl
  exact run_born M G c I1 (fun u => (u :: us) ++ d0) (fun v => (v :: vs) ++ dvs) hlen (fun s' a kin => hb s' (.ref a :: us) kin (hlen _)) (fun a => (Vals.append (.cons rfl r) r0)) o1 (fun W' a l ra => (Reps.cons ra (r1.mono l)).app (rd0 W')) (hk _) q1
theorem de_make0 (M : Mk X.K (cl X.K C) f) (G : FnG X.prog X.w X.K X.mg X.base k f fd ps F) (c : Cal X E (k + 1)) (hm : X.mg x = some (.ref (cl X.K C))) (b : Dfl X.K fd ps 1 dd) (hk : ∀ g, MkQ X.K E C F g (mk g))
    (hg : Gl X x := by rfl) (hdb : (x == ("__debug__" : Str)) = false := by decide) : DE X E (.Call (.Name x p) [] [] pos) (dmake mk dd aNil) := by
  refine ⟨fun pins s σ H Q I q => ?_⟩
  obtain ⟨W, ρ, μ, ok, en, pq⟩ := q
  refine wpAny_Call_Name_kw (ld_glob I hg hm ?_ hdb)
  unfold dmake aNil at pq
  rw [R.bind_ok] at pq
  obtain ⟨dvs, d0, r0, rd0, hl, hb⟩ := b.ex
  have hlen : ∀ u : Value, ([u] ++ d0).length = ps.length := fun u => by rw [List.length_append]; exact hl
  exact PySem.W.callWith_K0 I.kIn M.kp (run_born M G c I (fun u => [u] ++ d0) (fun v => [v] ++ dvs) hlen (fun s' a kin => hb s' [.ref a] kin (hlen _)) (fun a => (Vals.append (.cons rfl .nil) r0)) ok (fun W' a l ra => (Reps.cons ra .nil).app (rd0 W')) (hk _) pq)
theorem de_makeK (M : Mk X.K (cl X.K C) f) (G : FnG X.prog X.w X.K X.mg X.base k f fd ps F) (c : Cal X E (k + 1)) (hm : X.mg x = some (.ref (cl X.K C))) (b : KDfl X.K fd ps ((e :: es).length + 1) ks gD) (hk : ∀ g, MkQ X.K E C F g (mk g)) (ha : DA X E (e :: es) fa) (hkw : DK X E kws fk)
    (hf : HasLen fa (e :: es).length := by repeat (first | exact aNil_len | refine aCons_len ?_)) (hf2 : HasLen fk ks.length := by repeat (first | exact aNil_len | refine aCons_len ?_))
    (hall : (backToKw pos (keywordEach kws X.env)).all (·.1.isSome) = true := by rfl) (hks : (backToKw pos (keywordEach kws X.env)).filterMap (·.1) = ks := by rfl)
    (hg : Gl X x := by rfl) (hdb : (x == ("__debug__" : Str)) = false := by decide) (he : starEach (e :: es) X.env = (false, eval e X.env) :: starEach es X.env := by rfl)
    (hpl : (((backTo pos (starEach (e :: es) X.env)).any (·.1)) || (backToKw pos (keywordEach kws X.env)).any (·.1.isNone)) = false := by rfl) :
    DE X E (.Call (.Name x p) (e :: es) kws pos) (dmakeK mk gD fa fk) := by
  refine ⟨fun pins s σ H Q I q => ?_⟩
  obtain ⟨W, ρ, μ, ok, en, pq⟩ := q
  refine wpAny_Call_Name_kw (ld_glob I hg hm ?_ hdb)
  unfold dmakeK at pq
  have rd : rA X.K E fa σ H (fun vs H1 => ∃ W1 ds μ1, vs.length = (e :: es).length ∧ Ok X.K W1 H1 μ1 ∧ Envs X.K W1 σ ρ ∧ Reps X.K W1 vs ds ∧ postE X.K E W1 H1 ((fk ρ μ1).bind fun es μ2 => mk (fun x => gD (x :: ds) es) μ2) Q) := by
    refine ⟨W, ρ, μ, ok, en, ?_⟩
    revert pq
    cases hq : fa ρ μ with
    | ok ds μ1 => exact fun p W1 xs H1 g o r => ⟨W1, ds, μ1, by rw [r.length]; exact hf ρ μ ds μ1 hq, o, en.mono g.le, r, post.mono g p⟩
    | ex c fs μ1 => exact fun p => p
    | bad => exact fun p => p
  refine PySem.W.callWith_KW (h₀ := X.base) I.ok.mod.kin M.kp hall (thn (ha.run pos pins s σ H _ I rd) fun us s1 ⟨vs, H1, I1, r, W1, ds, μ1, hn, o1, en1, r1, q1⟩ => ?_) hpl he
  have rd2 : rA X.K E fk σ H1 (fun zs H2 => ∃ W2 es μ2, zs.length = ks.length ∧ Ok X.K W2 H2 μ2 ∧ Le W1 W2 ∧ Reps X.K W2 zs es ∧ postE X.K E W2 H2 (mk (fun x => gD (x :: ds) es) μ2) Q) := by
    refine ⟨W1, ρ, μ1, o1, en1, ?_⟩
    revert q1
    cases hq : fk ρ μ1 with
    | ok es μ2 => exact fun p W2 xs H2 g o r => ⟨W2, es, μ2, by rw [r.length]; exact hf2 ρ μ1 es μ2 hq, o, g.le, r, post.mono g p⟩
    | ex c fs μ1 => exact fun p => p
    | bad => exact fun p => p
  refine thn (hkw.run pos pins s1 σ H1 _ I1 rd2) fun ws s2 ⟨zs, H2, I2, rz, W2, es', μ2, hz, o2, l2, r2, q2⟩ => ⟨I2.kIn, ?_⟩
  rw [hks]
  obtain ⟨g, gV, hl, kb, rp⟩ := b.ex
  have hu : ∀ u : Value, (u :: us).length = (e :: es).length + 1 := fun u => by rw [List.length_cons, ← r.length, hn]
  have hv : ∀ v : V, (v :: vs).length = (e :: es).length + 1 := fun v => by rw [List.length_cons, hn]
  have hw : ws.length = ks.length := by rw [← rz.length]; exact hz
  exact run_born M G c I2 (fun u => g (u :: us) ws) (fun v => gV (v :: vs) zs) (fun u => hl _ _ (hu u) hw) (fun s' a kin => kb.to s' (.ref a :: us) ws kin (hu _) hw) (fun a => kb.rel (.cons rfl r) rz) o2 (fun W' a l ra => rp W' _ _ _ _ (hv _) hz (.cons ra ((r1.mono l2).mono l)) (r2.mono l)) (hk _) q2
theorem de_makeK0 (M : Mk X.K (cl X.K C) f) (G : FnG X.prog X.w X.K X.mg X.base k f fd ps F) (c : Cal X E (k + 1)) (hm : X.mg x = some (.ref (cl X.K C))) (b : KDfl X.K fd ps 1 ks gD) (hk : ∀ g, MkQ X.K E C F g (mk g)) (hkw : DK X E kws fk)
    (hf2 : HasLen fk ks.length := by repeat (first | exact aNil_len | refine aCons_len ?_))
    (hall : (backToKw pos (keywordEach kws X.env)).all (·.1.isSome) = true := by rfl) (hks : (backToKw pos (keywordEach kws X.env)).filterMap (·.1) = ks := by rfl)
    (hg : Gl X x := by rfl) (hdb : (x == ("__debug__" : Str)) = false := by decide)
    (hpl : (((backTo pos (starEach [] X.env)).any (·.1)) || (backToKw pos (keywordEach kws X.env)).any (·.1.isNone)) = false := by rfl) :
    DE X E (.Call (.Name x p) [] kws pos) (dmakeK mk gD aNil fk) := by
  refine ⟨fun pins s σ H Q I q => ?_⟩
  obtain ⟨W, ρ, μ, ok, en, pq⟩ := q
  refine wpAny_Call_Name_kw (ld_glob I hg hm ?_ hdb)
  unfold dmakeK aNil at pq
  rw [R.bind_ok] at pq
  have rd2 : rA X.K E fk σ H (fun zs H2 => ∃ W2 es μ2, zs.length = ks.length ∧ Ok X.K W2 H2 μ2 ∧ Reps X.K W2 zs es ∧ postE X.K E W2 H2 (mk (fun x => gD (x :: []) es) μ2) Q) := by
    refine ⟨W, ρ, μ, ok, en, ?_⟩
    revert pq
    cases hq : fk ρ μ with
    | ok es μ2 => exact fun p W2 xs H2 g o r => ⟨W2, es, μ2, by rw [r.length]; exact hf2 ρ μ es μ2 hq, o, r, post.mono g p⟩
    | ex c fs μ1 => exact fun p => p
    | bad => exact fun p => p
  refine PySem.W.callWith_KW0 (h₀ := X.base) I.ok.mod.kin M.kp hall (thn (hkw.run pos pins s σ H _ I rd2) fun ws s2 ⟨zs, H2, I2, rz, W2, es', μ2, hz, o2, r2, q2⟩ => ⟨I2.kIn, ?_⟩) hpl
  rw [hks]
  obtain ⟨g, gV, hl, kb, rp⟩ := b.ex
  have hw : ws.length = ks.length := by rw [← rz.length]; exact hz
  exact run_born M G c I2 (fun u => g [u] ws) (fun v => gV [v] zs) (fun u => hl _ _ rfl hw) (fun s' a kin => kb.to s' [.ref a] ws kin rfl hw) (fun a => kb.rel (.cons rfl .nil) rz) o2 (fun W' a l ra => rp W' _ _ _ _ rfl hz (.cons ra .nil) (r2.mono l)) (hk _) q2
end
end DL
/-! DL19: tuples and lists: + and *, tuple(..), list(..), sorted of texts. -/
namespace DL
open PySem L2 PySem.Spec PyProof.Rows
/-! ### + -/
def addX : D → D → Mu → R D := fun x y μ => match x, y with
  | .tup xs, .tup ys => if xs.length + ys.length ≤ 1000000 then .ok (.tup (xs ++ ys)) μ else .bad
  | x, y => addD x y μ
@[simp] theorem addX_int (i j : Int) (μ : Mu) : addX (.int i) (.int j) μ = .ok (.int (i + j)) μ := of_eq_true (eq_self _)
@[simp] theorem addX_str (x y : Str) (μ : Mu) : addX (.str x) (.str y) μ = if x.length + y.length ≤ 1000000 then .ok (.str (x ++ y)) μ else .bad := of_eq_true (eq_self _)
@[simp] theorem addX_lst (x y : List D) (μ : Mu) : addX (.lst x) (.lst y) μ = if x.length + y.length ≤ 1000000 then .ok (.lst (x ++ y)) μ else .bad := of_eq_true (eq_self _)
@[simp] theorem addX_tup (x y : List D) (μ : Mu) : addX (.tup x) (.tup y) μ = if x.length + y.length ≤ 1000000 then .ok (.tup (x ++ y)) μ else .bad := of_eq_true (eq_self _)
section
variable {X : Cx} {E : XK}
theorem nil_of {K : PySem.W.Frag} {W : Wd} {vs : List V} {ds : List D} (r : Reps K W vs ds) : vs = [] ↔ ds = [] := by
  cases r <;> simp
theorem opx_addX : OpX X E (binaryOp .Add) addX := by
  intro pins s σ H x y v u Q I rx ry q
  obtain ⟨W, μ, dx, dy, ok, r1, r2, p⟩ := q
  unfold addX at p
  split at p
  · rename_i xs ys
    split at p
    · rename_i hn
      cases r1 with
      | tup z1 h1 q1 =>
        cases r2 with
        | tup z2 h2 q2 =>
          rename_i a vs b ws
          have l1 := q1.length
          have l2 := q2.length
          refine op_catA pins s σ H _ _ v u Q I rx ry ⟨a, b, vs, ws, rfl, rfl, same_t ok.sub h1, same_t ok.sub h2, by rw [l1, l2]; exact le_line hn, fun e => ?_, fun _ e => ?_, fun _ _ q hq => ?_⟩
          · have e' := (nil_of q1).mp e
            subst e'
            exact p W _ H (Go.refl _ _) ok (.tup z2 h2 q2)
          · have e' := (nil_of q2).mp e
            subst e'
            rw [List.append_nil] at p
            exact p W _ H (Go.refl _ _) ok (.tup z1 h1 q1)
          · exact p (W.new q (.tup (vs ++ ws))) _ _ (Go.new ok hq) (ok.new hq) (rep_tup ok hq (by rw [List.length_append]; exact le_line hn) (q1.app q2))
    · exact p.elim
  · exact opx_add pins s σ H x y v u Q I rx ry ⟨W, μ, dx, dy, ok, r1, r2, p⟩
end
/-! ### * -/
/-- one factor is a number; a list or a tuple so often -/
def mulX : D → D → Mu → R D := fun x y μ => match x, y with
  | .tup xs, .int k => if k ≤ 1000 ∧ -1000 ≤ k ∧ xs.length ≤ 1000 then .ok (.tup (List.replicate k.toNat xs).flatten) μ else .bad
  | .lst xs, .int k => if k ≤ 1000 ∧ -1000 ≤ k ∧ xs.length ≤ 1000 then .ok (.lst (List.replicate k.toNat xs).flatten) μ else .bad
  | x, y => mulD x y μ
@[simp] theorem mulX_int (i j : Int) (μ : Mu) : mulX (.int i) (.int j) μ = if (-(2 ^ 64) < i ∧ i < 2 ^ 64) ∨ (-(2 ^ 64) < j ∧ j < 2 ^ 64) then .ok (.int (i * j)) μ else .bad := of_eq_true (eq_self _)
@[simp] theorem mulX_tup (xs : List D) (k : Int) (μ : Mu) : mulX (.tup xs) (.int k) μ = if k ≤ 1000 ∧ -1000 ≤ k ∧ xs.length ≤ 1000 then .ok (.tup (List.replicate k.toNat xs).flatten) μ else .bad := of_eq_true (eq_self _)
@[simp] theorem mulX_lst (xs : List D) (k : Int) (μ : Mu) : mulX (.lst xs) (.int k) μ = if k ≤ 1000 ∧ -1000 ≤ k ∧ xs.length ≤ 1000 then .ok (.lst (List.replicate k.toNat xs).flatten) μ else .bad := of_eq_true (eq_self _)
theorem tuple_mul_same (l : Addr) (items : Array Value) (n : Nat) (dd : Option Addr) (sl : Array (Option Value)) (x : Int) (u : Tok) (c0 : (decide (x < -(2 ^ 63)) || decide (x ≥ 2 ^ 63)) = false) (c1 : (items.isEmpty || x == 1) = true) :
    Meets (Builtin.«tuple.__mul__» ⟨[.ref l, .int x u], []⟩) (fun _ R s => s.heap.get? l = some { cls := .type "tuple", dict := dd, data := .seq items n, slots := sl } ∧ R (.ok (.ret (Value.ref l))) s) :=
  .of_wp fun prog w A R s h => by
    obtain ⟨hp, g, d, tk, os⟩ := s
    obtain ⟨hl, h⟩ := h
    have f1 := AutoSeq1.idx_int
    wp_walk using wpAny_loadPart' hl
    repeat (first
      | (refine wpAny_ite_false (decide_eq_false (by rw [c0]; exact Bool.false_ne_true)) ?_; wp_walk using wpAny_loadPart' hl)
      | (refine wpAny_ite_true (decide_eq_true c1) ?_; wp_walk using wpAny_loadPart' hl))
    exact ⟨_, rfl, h⟩
theorem tuple_mul_none (l : Addr) (items : Array Value) (n : Nat) (dd : Option Addr) (sl : Array (Option Value)) (x : Int) (u : Tok) (c0 : (decide (x < -(2 ^ 63)) || decide (x ≥ 2 ^ 63)) = false) (c1 : (items.isEmpty || x == 1) = false) (c2 : (decide (x ≤ 0) || items.isEmpty) = true) :
    Meets (Builtin.«tuple.__mul__» ⟨[.ref l, .int x u], []⟩) (fun _ R s => s.heap.get? l = some { cls := .type "tuple", dict := dd, data := .seq items n, slots := sl } ∧
      R (.ok (.ret (Value.ref s.heap.objs.size))) { s with heap := s.heap.push { cls := Value.type "tuple", data := Data.seq #[] }, toks := s.toks }) :=
  .of_wp fun prog w A R s h => by
    obtain ⟨hp, g, d, tk, os⟩ := s
    obtain ⟨hl, h⟩ := h
    have f1 := AutoSeq1.idx_int
    wp_walk using wpAny_loadPart' hl
    repeat (first
      | (refine wpAny_ite_false (decide_eq_false (by rw [c0]; exact Bool.false_ne_true)) ?_; wp_walk using wpAny_loadPart' hl)
      | (refine wpAny_ite_false (decide_eq_false (by rw [c1]; exact Bool.false_ne_true)) ?_; wp_walk using wpAny_loadPart' hl)
      | (refine wpAny_ite_true (decide_eq_true c2) ?_; wp_walk using wpAny_loadPart' hl))
    exact ⟨_, rfl, h⟩
theorem Reps.rep {K : PySem.W.Frag} {W : Wd} {vs : List V} {ds : List D} (r : Reps K W vs ds) : ∀ n : Nat, Reps K W (List.replicate n vs).flatten (List.replicate n ds).flatten
  | 0 => .nil
  | n + 1 => by
    rw [List.replicate_succ, List.replicate_succ, List.flatten_cons, List.flatten_cons]
    exact r.app (Reps.rep r n)
theorem rep_len {α : Type} (xs : List α) (n : Nat) : (List.replicate n xs).flatten.length = n * xs.length := by
  induction n with
  | zero => simp
  | succ n ih => rw [List.replicate_succ, List.flatten_cons, List.length_append, ih, Nat.succ_mul, Nat.add_comm]
section
variable {X : Cx} {E : XK}
theorem rep_small {k : Int} {n : Nat} (h1 : k ≤ 1000) (h3 : n ≤ 1000) : k.toNat * n ≤ 1000000 := by
  have a1 : k.toNat * n ≤ 1000 * 1000 := Nat.mul_le_mul (by omega) h3
  omega
theorem opx_mulT : OpX X E (binaryOp .Mult) (fun x y μ => match x, y with
  | .tup xs, .int k => if k ≤ 1000 ∧ -1000 ≤ k ∧ xs.length ≤ 1000 then .ok (.tup (List.replicate k.toNat xs).flatten) μ else .bad
  | _, _ => .bad) := by
  intro pins s σ H x y v u Q I rx ry q
  obtain ⟨W, μ, dx, dy, ok, r1, r2, p⟩ := q
  dsimp only at p
  split at p
  · rename_i xs k
    split at p
    · rename_i hn
      obtain ⟨h1, h2, h3⟩ := hn
      cases r1 with
      | tup z1 ht q1 =>
        rename_i l vs
        cases r2
        have lv := q1.length
        have hT := same_t ok.sub ht
        by_cases hne : vs = []
        · have e := (nil_of q1).mp hne
          subst e
          cases rx
          obtain ⟨t, rfl⟩ := ry
          obtain ⟨its, r, ⟨⟨cls, dd, data, sl⟩, ho, hc, n, hd⟩, hs⟩ := I.tuple hT
          simp only at hc hd
          subst hc hd
          have hi : its = [] := by
            rw [hne] at r
            cases r
            rfl
          refine wpAny_binaryOp_repeat_ref (T := "tuple") (U := "int") (by decide) ⟨_, ho, rfl⟩ (fun s' => typeIs_int s' k t) noFill_tuple_mul F.fills_int_mul F.slot_int_rmul repeat_tuple F.slot_int_index.lookup
            (call_meets F.slot_int_rmul (typeIs_int s k t) F.entry_int_rmul (F.args_int_rmul_2 _ _) (int_rmul_tuple k t l its.toArray n dd sl)
              ⟨ho, rfl, ⟨_, ho, rfl⟩, call_meets F.slot_tuple_mul ⟨_, ho, rfl⟩ F.entry_tuple_mul (F.args_tuple_mul_2 _ _) (tuple_mul_same l its.toArray n dd sl k t (by rw [decide_eq_false (by omega), decide_eq_false (by omega)] <;> rfl) (by rw [hi]; rfl)) ⟨ho, ?_⟩⟩)
          have ef : (List.replicate k.toNat ([] : List D)).flatten = [] := by simp
          rw [ef] at p
          exact ⟨.ref l, H, I, rfl, p W _ H (Go.refl _ _) ok (.tup z1 ht q1)⟩
        · by_cases hk1 : k = 1
          · subst hk1
            cases rx
            obtain ⟨t, rfl⟩ := ry
            obtain ⟨its, r, ⟨⟨cls, dd, data, sl⟩, ho, hc, n, hd⟩, hs⟩ := I.tuple hT
            simp only at hc hd
            subst hc hd
            refine wpAny_binaryOp_repeat_ref (T := "tuple") (U := "int") (by decide) ⟨_, ho, rfl⟩ (fun s' => typeIs_int s' 1 t) noFill_tuple_mul F.fills_int_mul F.slot_int_rmul repeat_tuple F.slot_int_index.lookup
              (call_meets F.slot_int_rmul (typeIs_int s 1 t) F.entry_int_rmul (F.args_int_rmul_2 _ _) (int_rmul_tuple 1 t l its.toArray n dd sl)
                ⟨ho, rfl, ⟨_, ho, rfl⟩, call_meets F.slot_tuple_mul ⟨_, ho, rfl⟩ F.entry_tuple_mul (F.args_tuple_mul_2 _ _) (tuple_mul_same l its.toArray n dd sl 1 t (by rw [decide_eq_false (by omega), decide_eq_false (by omega)] <;> rfl) (by rw [beq_self_eq_true, Bool.or_true])) ⟨ho, ?_⟩⟩)
            have ef : (List.replicate (Int.toNat 1) xs).flatten = xs := by simp
            rw [ef] at p
            exact ⟨.ref l, H, I, rfl, p W _ H (Go.refl _ _) ok (.tup z1 ht q1)⟩
          · by_cases hk0 : k ≤ 0
            · cases rx
              obtain ⟨t, rfl⟩ := ry
              obtain ⟨its, r, ⟨⟨cls, dd, data, sl⟩, ho, hc, n, hd⟩, hs⟩ := I.tuple hT
              simp only at hc hd
              subst hc hd
              have hi : its.toArray.isEmpty = false := by
                cases its with
                | nil => cases r; exact absurd rfl hne
                | cons a b => rfl
              refine wpAny_binaryOp_repeat_ref (T := "tuple") (U := "int") (by decide) ⟨_, ho, rfl⟩ (fun s' => typeIs_int s' k t) noFill_tuple_mul F.fills_int_mul F.slot_int_rmul repeat_tuple F.slot_int_index.lookup
                (call_meets F.slot_int_rmul (typeIs_int s k t) F.entry_int_rmul (F.args_int_rmul_2 _ _) (int_rmul_tuple k t l its.toArray n dd sl)
                  ⟨ho, rfl, ⟨_, ho, rfl⟩, call_meets F.slot_tuple_mul ⟨_, ho, rfl⟩ F.entry_tuple_mul (F.args_tuple_mul_2 _ _) (tuple_mul_none l its.toArray n dd sl k t (by rw [decide_eq_false (by omega), decide_eq_false (by omega)] <;> rfl) (by rw [hi, Bool.false_or]; exact beq_eq_false_iff_ne.mpr hk1) (by rw [decide_eq_true hk0]; rfl)) ⟨ho, ?_⟩⟩)
              have ef : (List.replicate k.toNat xs).flatten = [] := by
                have : k.toNat = 0 := by omega
                rw [this]
                rfl
              rw [ef] at p
              have hf := I.hok.fresh (Nat.le_refl s.heap.objs.size)
              refine ⟨.ref s.heap.objs.size, upd H s.heap.objs.size (.tup []), I.laid (t' := s.toks) (o := .tup []) (fun b ob q => Heap.get?_push_of_some _ q) (Nat.le_refl _) ?_, rfl, p (W.new _ (.tup [])) _ _ (Go.new ok hf) (ok.new hf) (rep_tup ok hf (Nat.zero_le _) .nil)⟩
              exact ⟨Nat.zero_le _, [], .nil, IsTup.new _ _⟩
            · refine op_repT pins s σ H _ _ v u Q I rx ry ⟨l, k, vs, rfl, rfl, hT, hne, by omega, h1, by rw [lv]; exact h3, fun q hq => ?_⟩
              exact p (W.new q (.tup _)) _ _ (Go.new ok hq) (ok.new hq) (rep_tup ok hq (by rw [rep_len]; exact le_line (rep_small h1 h3)) (q1.rep _))
    · exact p.elim
  · exact p.elim
end
section
variable {X : Cx} {E : XK}
theorem opx_mulL : OpX X E (binaryOp .Mult) (fun x y μ => match x, y with
  | .lst xs, .int k => if k ≤ 1000 ∧ -1000 ≤ k ∧ xs.length ≤ 1000 then .ok (.lst (List.replicate k.toNat xs).flatten) μ else .bad
  | _, _ => .bad) := by
  intro pins s σ H x y v u Q I rx ry q
  obtain ⟨W, μ, dx, dy, ok, r1, r2, p⟩ := q
  dsimp only at p
  split at p
  · rename_i xs k
    split at p
    · rename_i hn
      obtain ⟨h1, h2, h3⟩ := hn
      cases r1 with
      | lst z1 ht q1 =>
        rename_i l vs
        cases r2
        have lv := q1.length
        cases rx
        obtain ⟨t, rfl⟩ := ry
        obtain ⟨its, n, r, e⟩ := (same_lq ok.sub ht).isL I
        have hl := r.length
        have hz : vs.length * k.toNat ≤ sizeLine := by
          rw [lv, Nat.mul_comm]
          exact le_line (rep_small h1 h3)
        have hlen : its.toArray.size * k.toNat ≤ sizeLine := by rw [List.size_toArray, ← hl]; exact hz
        have hcap : ¬ its.toArray.size * k.toNat > (2 ^ 63 - 1) / 8 := by
          have : (sizeLine : Nat) ≤ (2 ^ 63 - 1) / 8 := by decide
          omega
        have hfit : ¬ (!Builtin.List.listFitsIndex k) = true := by
          rw [fitsIndex_both (by omega) (by omega)]
          exact Bool.false_ne_true
        have hlong : ¬ Builtin.List.listTooLong (its.toArray.size * k.toNat) = true := by
          rw [notLongL hlen]
          exact Bool.false_ne_true
        have hnew : List.foldl (fun x1 x2 => x1 ++ x2) #[] (List.replicate (if its.toArray.isEmpty = true then 0 else k.toNat) its.toArray) = (List.replicate k.toNat its).flatten.toArray := by
          rw [size_rep]
          cases its with
          | nil => simp
          | cons a r' => rw [if_neg (by simp)]
        refine wpAny_binaryOp_repeat_ref (T := "list") (U := "int") (by decide) ⟨_, e, rfl⟩ (fun s' => typeIs_int s' k t) noFill_list_mul F.fills_int_mul F.slot_int_rmul repeat_list F.slot_int_index.lookup
          (call_meets F.slot_int_rmul (typeIs_int s k t) F.entry_int_rmul (F.args_int_rmul_2 _ _) (int___rmul___int_list k t l its.toArray n)
            ⟨e, rfl, ⟨_, e, rfl⟩, call_meets F.slot_list_mul ⟨_, e, rfl⟩ F.entry_list_mul (F.args_list_mul_2 _ _) (AutoListH.list___mul___list_int_3 l its.toArray n k t hfit hcap hlong) ⟨e, ?_⟩⟩)
        rw [hnew]
        refine ⟨.ref _, _, I.lnew (t' := s.toks) (r.rep k.toNat) (by rw [PyProof.Rows.lm_len_rep_flat, Nat.mul_comm]; exact hz), rfl, ?_⟩
        have hq := I.fresh
        exact p (W.new _ (.lst _)) _ _ (Go.new ok hq) (ok.new hq) (rep_lst ok hq (by rw [rep_len]; exact le_line (rep_small h1 h3)) (q1.rep _))
    · exact p.elim
  · exact p.elim
theorem opx_mulX : OpX X E (binaryOp .Mult) mulX := by
  intro pins s σ H x y v u Q I rx ry q
  obtain ⟨W, μ, dx, dy, ok, r1, r2, p⟩ := q
  unfold mulX at p
  split at p
  · exact opx_mulT (E := E) pins s σ H x y v u Q I rx ry ⟨W, μ, _, _, ok, r1, r2, p⟩
  · exact opx_mulL (E := E) pins s σ H x y v u Q I rx ry ⟨W, μ, _, _, ok, r1, r2, p⟩
  · exact opx_mul pins s σ H x y v u Q I rx ry ⟨W, μ, dx, dy, ok, r1, r2, p⟩
end
/-! ### tuple(..), list(..), sorted(..), str(..) -/
def bTuple : List D → Mu → R D
  | [.lst xs], μ => .ok (.tup xs) μ
  | [.tup xs], μ => .ok (.tup xs) μ
  | _, _ => .bad
def bList : List D → Mu → R D
  | [.lst xs], μ => .ok (.lst xs) μ
  | [.tup xs], μ => .ok (.lst xs) μ
  | _, _ => .bad
@[simp] theorem tuple_lst (xs : List D) (μ : Mu) : bTuple [.lst xs] μ = .ok (.tup xs) μ := of_eq_true (eq_self _)
@[simp] theorem tuple_tup (xs : List D) (μ : Mu) : bTuple [.tup xs] μ = .ok (.tup xs) μ := of_eq_true (eq_self _)
@[simp] theorem list_lst (xs : List D) (μ : Mu) : bList [.lst xs] μ = .ok (.lst xs) μ := of_eq_true (eq_self _)
@[simp] theorem list_tup (xs : List D) (μ : Mu) : bList [.tup xs] μ = .ok (.lst xs) μ := of_eq_true (eq_self _)
/-- texts in order -/
def insS (x : Str) : List Str → List Str
  | [] => [x]
  | y :: ys => if strLt y x = true then y :: insS x ys else x :: y :: ys
def srtS : List Str → List Str
  | [] => []
  | x :: xs => insS x (srtS xs)
def bSorted : List D → Mu → R D
  | [.lst ds], μ => match strsD ds with
    | some xs => if xs.length < 64 then .ok (.lst ((srtS xs).map .str)) μ else .bad
    | none => .bad
  | _, _ => .bad
def bStr : List D → Mu → R D
  | [.int i], μ => if i.natAbs.log2 < 1920 ∧ (toString i : Str).length ≤ 1000000 then .ok (.str (toString i)) μ else .bad
  | [.str x], μ => .ok (.str x) μ
  | _, _ => .bad
section
variable {X : Cx} {E : XK}
theorem cx_tuple : CallX X E (.type "tuple") bTuple := callx fun W H μ ds xs Q ok r p => by
  unfold bTuple at p
  split at p
  · cases r with
    | cons r1 r2 =>
      cases r2
      cases r1 with
      | lst z h q =>
        exact ⟨_, call_tuple_of, _, _, rfl, .inl ⟨(same_lq ok.sub h).sq, fun l hl => p _ _ _ (Go.new ok hl) (ok.new hl) (rep_tup ok hl z q)⟩⟩
  · cases r with
    | cons r1 r2 =>
      cases r2
      cases r1 with
      | tup z h q => exact ⟨_, call_tuple_of, _, _, rfl, .inr ⟨same_t ok.sub h, p W _ H (Go.refl _ _) ok (.tup z h q)⟩⟩
  · exact p.elim
theorem cx_list : CallX X E (.type "list") bList := callx fun W H μ ds xs Q ok r p => by
  unfold bList at p
  split at p
  · cases r with
    | cons r1 r2 =>
      cases r2
      cases r1 with
      | lst z h q => exact ⟨_, call_list_of, _, _, rfl, .inl (same_lq ok.sub h).sq, fun l hl => p _ _ _ (Go.new ok hl) (ok.new hl) (rep_lst ok hl z q)⟩
  · cases r with
    | cons r1 r2 =>
      cases r2
      cases r1 with
      | tup z h q => exact ⟨_, call_list_of, _, _, rfl, .inr (same_t ok.sub h), fun l hl => p _ _ _ (Go.new ok hl) (ok.new hl) (rep_lst ok hl z q)⟩
  · exact p.elim
theorem cx_str : CallX X E (.type "str") bStr := callx fun W H μ ds xs Q ok r p => by
  unfold bStr at p
  split at p
  · rename_i i
    split at p
    · rename_i h
      cases r with
      | cons r1 r2 =>
        cases r2
        cases r1
        exact ⟨_, call_str_int, _, rfl, h.1, post_pure ok p (.str _ (le_line h.2))⟩
    · exact p.elim
  · cases r with
    | cons r1 r2 =>
      cases r2
      cases r1 with
      | str x z => exact ⟨_, SkE.call_str_str, _, rfl, post_pure ok p (.str _ z)⟩
  · exact p.elim
/-! sorted -/
abbrev leS (x y : Str) : Prop := x.cps.toList ≤ y.cps.toList
theorem leS_of {x y : Str} (h : strLt y x = false) : leS x y := List.not_lt.mp (of_decide_eq_false h)
theorem leS_lt {x y : Str} (h : strLt x y = true) : leS x y := by
  rcases List.le_total x.cps.toList y.cps.toList with z | z
  · exact z
  · exact absurd (of_decide_eq_true h) (List.not_lt.mpr z)
theorem leS_trans {x y z : Str} (a : leS x y) (b : leS y z) : leS x z := List.le_trans a b
theorem leS_anti {x y : Str} (a : leS x y) (b : leS y x) : x = y := by
  have e := List.le_antisymm a b
  cases x
  cases y
  simpa using e
theorem rising_pw : ∀ (ys : List Str) (p : Str), risingS p ys = true → (p :: ys).Pairwise leS
  | [], p, _ => by simp
  | y :: ys, p, h => by
    unfold risingS at h
    rw [Bool.and_eq_true, Bool.not_eq_true', ltCps_eq] at h
    have ih := rising_pw ys y h.2
    have hy : leS p y := leS_of h.1
    refine List.pairwise_cons.mpr ⟨fun z hz => ?_, ih⟩
    rcases List.mem_cons.mp hz with e | hz'
    · rw [e]; exact hy
    · exact leS_trans hy ((List.pairwise_cons.mp ih).1 z hz')
theorem sortedS_pw {ys : List Str} (h : sortedS ys = true) : ys.Pairwise leS := by
  cases ys with
  | nil => exact .nil
  | cons y ys => exact rising_pw ys y h
theorem insS_perm (x : Str) : ∀ ys : List Str, (insS x ys).Perm (x :: ys)
  | [] => List.Perm.refl _
  | y :: ys => by
    unfold insS
    split
    · exact ((insS_perm x ys).cons y).trans (List.Perm.swap x y ys)
    · exact List.Perm.refl _
theorem srtS_perm : ∀ xs : List Str, (srtS xs).Perm xs
  | [] => List.Perm.refl _
  | x :: xs => (insS_perm x _).trans ((srtS_perm xs).cons x)
theorem insS_pw (x : Str) : ∀ {ys : List Str}, ys.Pairwise leS → (insS x ys).Pairwise leS
  | [], _ => by simp [insS]
  | y :: ys, h => by
    have hh := List.pairwise_cons.mp h
    unfold insS
    split
    · rename_i hl
      refine List.pairwise_cons.mpr ⟨fun z hz => ?_, insS_pw x hh.2⟩
      rcases List.mem_cons.mp ((insS_perm x ys).mem_iff.mp hz) with e | hz'
      · rw [e]; exact leS_lt hl
      · exact hh.1 z hz'
    · rename_i hl
      have hxy : leS x y := leS_of (by simpa using hl)
      refine List.pairwise_cons.mpr ⟨fun z hz => ?_, h⟩
      rcases List.mem_cons.mp hz with e | hz'
      · rw [e]; exact hxy
      · exact leS_trans hxy (hh.1 z hz')
theorem srtS_pw : ∀ xs : List Str, (srtS xs).Pairwise leS
  | [] => .nil
  | x :: xs => insS_pw x (srtS_pw xs)
theorem srtS_uniq {xs ys : List Str} (p : ys.Perm xs) (h : sortedS ys = true) : ys = srtS xs :=
  List.Perm.eq_of_pairwise (fun a b _ _ h1 h2 => leS_anti h1 h2) (sortedS_pw h) (srtS_pw xs) (p.trans (srtS_perm xs).symm)
theorem strs_bound {K : PySem.W.Frag} {W : Wd} : ∀ {vs : List V} {ds : List D} {ys : List Str}, Reps K W vs ds → strsD ds = some ys → ∀ y ∈ ys, y.length ≤ sizeLine
  | _, _, _, .nil, h => by
    simp [strsD] at h
    subst h
    exact fun y hy => nomatch hy
  | _, _, _, .cons (d := d) (ds := ds) r rs, h => by
    cases d with
    | str x =>
      cases r with
      | str _ z =>
        unfold strsD at h
        cases e : strsD ds with
        | none => rw [e] at h; exact nomatch h
        | some cs =>
          rw [e] at h
          cases h
          intro y hy
          rcases List.mem_cons.mp hy with q | q
          · rw [q]; exact z
          · exact strs_bound rs e y q
    | _ => simp [strsD] at h
theorem cx_sorted : CallX X E (.builtin "sorted") bSorted := callx fun W H μ ds xs Q ok r p => by
  unfold bSorted at p
  split at p
  · rename_i es
    split at p
    · rename_i ys hy
      split at p
      · rename_i hn
        cases r with
        | cons r1 r2 =>
          cases r2
          cases r1 with
          | lst z h q =>
            have b := strs_bound q hy
            have e := strsD_rep q hy
            subst e
            refine ⟨_, cr_sortedS, _, ys, rfl, (same_lq ok.sub h).sq, hn, fun zs l pm so hl => ?_⟩
            have ez := srtS_uniq pm so
            subst ez
            have hlz : (srtS ys).length = ys.length := (srtS_perm ys).length_eq
            exact p _ _ _ (Go.new ok hl) (ok.new hl) (rep_lst ok hl (by rw [List.length_map, hlz]; exact le_line (by omega)) (strs_reps fun y m => b y ((srtS_perm ys).mem_iff.mp m)))
      · exact p.elim
    · exact p.elim
  · exact p.elim
end
end DL
/-! DL20: defs as values, isinstance of own classes, zip, != of data. -/
namespace DL
open PySem L2 PySem.Spec PyProof.Rows
/-! ### a def held by a name -/
def dfn (c : Nat) : D := .glo c
/-- the slot i holds the def at f -/
def isFn (i c : Nat) (ρ : En) : Bool := match ρ[i]? with
  | some (some (.glo g)) => decide (g = c)
  | _ => false
def dcallL (i n : Nat) (F : List D → Mu → R D) (dd : List D) (fa : FA) : FE := fun ρ μ => if isFn i n ρ = true then (fa ρ μ).bind fun ds μ1 => F (ds ++ dd) μ1 else .bad
@[simp] theorem ap_callL (i n : Nat) (F : List D → Mu → R D) (dd : List D) (fa : FA) (ρ : En) (μ : Mu) : dcallL i n F dd fa ρ μ = if isFn i n ρ = true then (fa ρ μ).bind fun ds μ1 => F (ds ++ dd) μ1 else .bad := of_eq_true (eq_self _)
/-- one of two readings, chosen by the names -/
def dchoose (c : En → Bool) (f g : FE) : FE := fun ρ μ => if c ρ = true then f ρ μ else g ρ μ
@[simp] theorem ap_choose (c : En → Bool) (f g : FE) (ρ : En) (μ : Mu) : dchoose c f g ρ μ = if c ρ = true then f ρ μ else g ρ μ := of_eq_true (eq_self _)
section
variable {X : Cx} {E : XK} {k i n : Nat} {f : Addr} {fd : FuncData} {ps : List Str} {F : List D → Mu → R D} {dd : List D} {x : Str} {p pos : Pos} {e : Expr} {es : List Expr} {fa : FA} {fe ge : FE} {c : En → Bool}
theorem de_choose (h1 : DE X E e fe) (h2 : DE X E e ge) : DE X E e (dchoose c fe ge) := ⟨fun pins s σ H Q I q => by
  obtain ⟨W, ρ, μ, ok, en, pq⟩ := q
  unfold dchoose at pq
  by_cases hc : c ρ = true
  · rw [if_pos hc] at pq
    exact h1.run pins s σ H Q I ⟨W, ρ, μ, ok, en, pq⟩
  · rw [if_neg hc] at pq
    exact h2.run pins s σ H Q I ⟨W, ρ, μ, ok, en, pq⟩⟩
theorem de_fn (n : Nat) (hm : X.mg x = some (.ref (cl X.K n))) (hg : Gl X x := by rfl) (hd : (x == ("__debug__" : Str)) = false := by decide) : DE X E (.Name x pos) (dc (dfn n)) := de_glob (v := .ref (cl X.K n)) hm rfl (fun _ => .glo _) hg hd
theorem de_callL (n : Nat) (hfn : f = cl X.K n) (G : FnG X.prog X.w X.K X.mg X.base k f fd ps F) (c : Cal X E k) (i : Nat) (hk : PySem.W.keepIn X.K (.ref f) = true) (b : Dfl X.K fd ps (e :: es).length dd) (ha : DA X E (e :: es) fa)
    (hN : X.N[i]? = some x := by rfl) (hv : Vis X.env.scope x := by first | exact Or.inl rfl | exact Or.inr (Or.inl rfl) | exact Or.inr (Or.inr rfl))
    (hf : HasLen fa (e :: es).length := by repeat (first | exact aNil_len | refine aCons_len ?_)) (hdb : (x == ("__debug__" : Str)) = false := by decide) (hcd : (x == ("__classdict__" : Str)) = false := by decide)
    (he : starEach (e :: es) X.env = (false, eval e X.env) :: starEach es X.env := by rfl) (hpl : (backTo pos (starEach es X.env)).any (·.1) = false := by rfl) :
    DE X E (.Call (.Name x p) (e :: es) [] pos) (dcallL i n F dd fa) := by
  subst hfn
  refine ⟨fun pins s σ H Q I q => ?_⟩
  obtain ⟨W, ρ, μ, ok, en, pq⟩ := q
  unfold dcallL at pq
  by_cases hq : isFn i n ρ = true
  · rw [if_pos hq] at pq
    have hs : σ[i]? = some (some (.ref (cl X.K n))) := by
      unfold isFn at hq
      split at hq
      · rename_i g hr
        have eg := of_decide_eq_true hq
        subst eg
        obtain ⟨v, hv, rv⟩ := en.at_ i _ hr
        cases rv
        exact hv
      · cases hq
    refine wpAny_Call_Name_kw (thn ((pe_var (pos := p) hN hv hdb hcd).run pins s σ H (fun v H1 => v = .ref (cl X.K n) ∧ H1 = H) I ⟨.ref (cl X.K n), hs, rfl, rfl⟩) fun u s1 ⟨v, H1, I1, r1, q1⟩ => ?_)
    obtain ⟨rfl, rfl⟩ := q1
    cases r1
    have rd : rA X.K E fa σ H1 (fun vs H1 => ∃ W1 ds μ1, vs.length = (e :: es).length ∧ Ok X.K W1 H1 μ1 ∧ Reps X.K W1 vs ds ∧ postE X.K E W1 H1 (F (ds ++ dd) μ1) Q) := by
      refine ⟨W, ρ, μ, ok, en, ?_⟩
      revert pq
      cases hq : fa ρ μ with
      | ok ds μ1 => exact fun p W1 xs H1 g o r => ⟨W1, ds, μ1, by rw [r.length]; exact hf ρ μ ds μ1 hq, o, r, post.mono g p⟩
      | ex c fs μ1 => exact fun p => p
      | bad => exact fun p => p
    refine PySem.W.callWith_K (h₀ := X.base) I.ok.mod.kin hk (thn (ha.run pos pins s1 σ _ _ I1 rd) fun us s2 ⟨vs, H2, I2, r, W1, ds, μ1, hn, o1, r1, q1⟩ => ⟨I2.kIn, ?_⟩) he hpl
    exact callF_args G c b I2 (show us.length = _ by rw [← r.length]; exact hn) r o1 r1 q1
  · rw [if_neg hq] at pq
    exact pq.elim
end
/-! ### isinstance of own classes -/
/-- a class whose instances isinstance may be asked about -/
structure IsC (K : PySem.W.Frag) (C : Addr) : Prop where
  cl : Cls K C
  ha : PySem.W.findIn K (.ref C) "__class__" = some (some (.builtin "object.__class__"))
  hn : PySem.W.specialIn K (.builtin "object.__class__") "__get__" = some (some (.builtin "getset_descriptor.__get__"))
  ht : PySem.W.takesIn K (.builtin "object.__class__") = some true
  hm : PySem.W.mroIn K C (.type "object") = some true
/-- a type: an own class, a built-in one -/
inductive Ty where
  | own (C : Nat) | blt (t : String)
  deriving DecidableEq
def Ty.val (K : PySem.W.Frag) : Ty → Value
  | .own C => .ref (cl K C)
  | .blt t => .type t
def tyV (μ : Mu) (d : D) : Option Ty := match insD μ d with
  | some (C, _) => some (.own C)
  | none => (tyName μ d).map .blt
/-- the same class: both an own one, both a built-in one -/
def sameC : D → D → Bool
  | .glo a, .glo b => decide (a = b)
  | .cst (.ty a), .cst (.ty b) => decide (a = b)
  | _, _ => false
/-- isinstance(x, c): cs, the own classes that x may be of; kt, what is known of c -/
def isiO (cs : List Nat) (kt : Ty → Option Bool) (d : D) (μ : Mu) : Option Bool := match tyV μ d with
  | some t => match kt t with
    | some b => (match t with
      | .own C => if C ∈ cs then some b else none
      | _ => some b)
    | none => none
  | none => none
def bIsiO (c : D) (cs : List Nat) (kt : Ty → Option Bool) : List D → Mu → R D
  | [d, c'], μ => if sameC c' c = true then R.of ((isiO cs kt d μ).map .bl) μ else .bad
  | _, _ => .bad
@[simp] theorem isiO_ap (c : Nat) (cs : List Nat) (kt : Ty → Option Bool) (d : D) (μ : Mu) : bIsiO (.glo c) cs kt [d, .glo c] μ = R.of ((isiO cs kt d μ).map .bl) μ := by
  unfold bIsiO
  simp [sameC]
/-- what is known of a class: which types are of it, which are not -/
def ktL (yes no : List Ty) : Ty → Option Bool := fun t => if t ∈ yes then some true else if t ∈ no then some false else none
def Ty.d : Ty → D
  | .own C => .glo C
  | .blt t => .cst (.ty t)
theorem cx_isiO {X : Cx} {E : XK} {cs : List Nat} {kt : Ty → Option Bool} (c : Ty) (hcs : ∀ C ∈ cs, IsC X.K (cl X.K C)) (hk : ∀ t b, kt t = some b → PySem.W.kitOne X.K (t.val X.K) (c.val X.K) = some b) : CallX X E (.builtin "isinstance") (bIsiO c.d cs kt) := callx fun W H μ ds xs Q ok r p => by
  unfold bIsiO at p
  split at p
  · rename_i d c'
    split at p
    · rename_i ec
      cases r with
      | cons r1 r2 =>
        cases r2 with
        | cons r2 r3 =>
          cases r3
          rename_i v1 v2
          have hcv : ClsV v2 (c.val X.K) := by
            cases c with
            | own C =>
              unfold sameC Ty.d at ec
              cases c' <;> simp at ec
              subst ec
              cases r2
              exact .own _
            | blt t =>
              unfold sameC Ty.d at ec
              cases c' <;> simp at ec
              rename_i w
              cases w <;> simp at ec
              subst ec
              cases r2
              exact .ty _
          cases hi0 : isiO cs kt d μ with
          | none => rw [hi0] at p; exact p.elim
          | some b =>
            rw [hi0] at p
            have q : Q (.bl b) H := post_pure ok p (.bl b)
            unfold isiO at hi0
            split at hi0
            · rename_i t ht
              split at hi0
              · rename_i b' hb
                have ty : TyX X.K H v1 (t.val X.K) ∧ b' = b := by
                  unfold tyV at ht
                  cases hi : insD μ d with
                  | none =>
                    rw [hi] at ht
                    cases hn : tyName μ d with
                    | none => rw [hn] at ht; cases ht
                    | some n =>
                      rw [hn] at ht
                      cases ht
                      exact ⟨tyName_rep ok r1 hn, Option.some.inj hi0⟩
                  | some z =>
                    obtain ⟨C, fs⟩ := z
                    rw [hi] at ht
                    cases ht
                    dsimp only at hi0
                    split at hi0
                    · rename_i hC
                      obtain ⟨a, dx, ns, vs, ds, rfl, ha, _, _⟩ := ins_rep ok r1 hi
                      have K := hcs C hC
                      exact ⟨.base (.ins ha K.cl K.ha K.hn K.ht K.hm), Option.some.inj hi0⟩
                    · cases hi0
                obtain ⟨ty, rfl⟩ := ty
                exact ⟨_, call_isi, v1, v2, t.val X.K, c.val X.K, b', rfl, hcv, ty, hk t b' hb, q⟩
              · cases hi0
            · cases hi0
    · exact p.elim
  · exact p.elim
/-! ### zip -/
def zipD (xs ys : List D) : List D := (xs.zip ys).map fun q => .tup [q.1, q.2]
def itZ (f : FA) : FA := fun ρ μ => (f ρ μ).bind fun ds μ1 => match ds with
  | [.lst xs, .lst ys] => .ok (zipD xs ys) μ1
  | [.tup xs, .tup ys] => .ok (zipD xs ys) μ1
  | _ => .bad
@[simp] theorem ap_itZ (f : FA) (ρ : En) (μ : Mu) : itZ f ρ μ = (f ρ μ).bind fun ds μ1 => match ds with
  | [.lst xs, .lst ys] => .ok (zipD xs ys) μ1
  | [.tup xs, .tup ys] => .ok (zipD xs ys) μ1
  | _ => .bad := of_eq_true (eq_self _)
theorem zipD_len (xs ys : List D) : (zipD xs ys).length = min xs.length ys.length := by simp [zipD]
theorem zipD_get {xs ys : List D} {i : Nat} {x y : D} (hx : xs[i]? = some x) (hy : ys[i]? = some y) : (zipD xs ys)[i]? = some (.tup [x, y]) := by
  unfold zipD
  have e : (xs.zip ys)[i]? = some (x, y) := List.getElem?_zip_eq_some.mpr ⟨hx, hy⟩
  rw [List.getElem?_map, e]
  rfl
section
variable {K : PySem.W.Frag} {W : Wd} {a b : Addr} {vs ws : List V} {xs ys : List D}
theorem walk_zipL (z : xs.length ≤ sizeLine) (h1 : SqL K W.S a vs) (r1 : Reps K W vs xs) (h2 : SqL K W.S b ws) (r2 : Reps K W ws ys) : Walk K W (Itz K a b) (zipD xs ys) := by
  have l1 := r1.length
  have l2 := r2.length
  refine ⟨by rw [zipD_len]; omega, fun H i s hi => ?_, fun H i s hi => ⟨vs, ws, same_l s h1, same_l s h2, by rw [zipD_len] at hi; omega⟩, fun H i x H' s y d e W1 μ le ok => ?_⟩
  · rw [zipD_len] at hi
    obtain ⟨v, e, _⟩ := r1.get (List.getElem?_eq_getElem (show i < xs.length by omega))
    obtain ⟨w, e2, _⟩ := r2.get (List.getElem?_eq_getElem (show i < ys.length by omega))
    exact ⟨vs, ws, v, w, same_l s h1, same_l s h2, e, e2⟩
  · obtain ⟨T, xv, yv, rfl, hT, rfl, q1, q2⟩ := y
    obtain ⟨xd, e3, r3⟩ := r1.getV (q1 vs (same_l s h1))
    obtain ⟨yd, e4, r4⟩ := r2.getV (q2 ws (same_l s h2))
    rw [zipD_get e3 e4] at e
    cases e
    exact ⟨W1.new T (.tup [xv, yv]), Go.new ok hT, ok.new hT, rep_tup ok hT (by show 2 ≤ sizeLine; decide) (.cons (r3.mono le) (.cons (r4.mono le) .nil))⟩
theorem walk_zipT (z : xs.length ≤ sizeLine) (h1 : SqT K W.S a vs) (r1 : Reps K W vs xs) (h2 : SqT K W.S b ws) (r2 : Reps K W ws ys) : Walk K W (RZ.ItzT K a b) (zipD xs ys) := by
  have l1 := r1.length
  have l2 := r2.length
  refine ⟨by rw [zipD_len]; omega, fun H i s hi => ?_, fun H i s hi => ⟨vs, ws, same_t s h1, same_t s h2, by rw [zipD_len] at hi; omega⟩, fun H i x H' s y d e W1 μ le ok => ?_⟩
  · rw [zipD_len] at hi
    obtain ⟨v, e, _⟩ := r1.get (List.getElem?_eq_getElem (show i < xs.length by omega))
    obtain ⟨w, e2, _⟩ := r2.get (List.getElem?_eq_getElem (show i < ys.length by omega))
    exact ⟨vs, ws, v, w, same_t s h1, same_t s h2, e, e2⟩
  · obtain ⟨T, xv, yv, rfl, hT, rfl, q1, q2⟩ := y
    obtain ⟨xd, e3, r3⟩ := r1.getV (q1 vs (same_t s h1))
    obtain ⟨yd, e4, r4⟩ := r2.getV (q2 ws (same_t s h2))
    rw [zipD_get e3 e4] at e
    cases e
    exact ⟨W1.new T (.tup [xv, yv]), Go.new ok hT, ok.new hT, rep_tup ok hT (by show 2 ≤ sizeLine; decide) (.cons (r3.mono le) (.cons (r4.mono le) .nil))⟩
end
theorem di_zip {X : Cx} {E : XK} {e e2 : Expr} {fa : FA} {p pos tpos : Pos} {elts : List Expr} {kk : Nat} (hm : X.mg "zip" = none) (ha : DA X E [e, e2] fa) (hg : Gl X "zip" := by rfl) (hs : starEach [e, e2] X.env = (false, eval e X.env) :: starEach [e2] X.env := by rfl) (hpl : (backTo pos (starEach [e2] X.env)).any (·.1) = false := by rfl) :
    DI X E (.Tuple elts kk tpos) (.Call (.Name "zip" p) [e, e2] [] pos) (itZ fa) := by
  refine pi_imp (RZ.pi_zipA hg hm ha hs hpl) fun σ H Q ⟨W, ρ, μ, ok, en, p⟩ => ?_
  refine ⟨W, ρ, μ, ok, en, ?_⟩
  unfold itZ at p
  revert p
  cases fa ρ μ with
  | ex c fs μ1 => exact fun p => p
  | bad => exact fun p => p.elim
  | ok ds μ1 =>
    rw [R.bind_ok]
    intro p W1 vs H1 g1 o1 r
    match ds, r, p with
    | [.lst xs, .lst ys], .cons ra (.cons rb .nil), p =>
      cases ra with
      | lst z h r =>
        cases rb with
        | lst z2 h2 r2 => exact ⟨_, _, _, _, rfl, .inl ⟨(same_lq o1.sub h).sq, (same_lq o1.sub h2).sq, p W1 _ H1 g1 o1 (walk_zipL z h.sq r h2.sq r2)⟩⟩
    | [.tup xs, .tup ys], .cons ra (.cons rb .nil), p =>
      cases ra with
      | tup z h r =>
        cases rb with
        | tup z2 h2 r2 => exact ⟨_, _, _, _, rfl, .inr ⟨same_t o1.sub h, same_t o1.sub h2, p W1 _ H1 g1 o1 (walk_zipT z h r h2 r2)⟩⟩
/-! ### != of data -/
def dNeX : D → D → Mu → R D := fun x y μ => match x.kd, y.kd with
  | .flat _, .flat _ => dNe x y μ
  | _, _ => match x.py, y.py with
    | some p, some q => if SeqAt.shaped p = true ∧ SeqAt.shaped q = true then .ok (.bl (!PyData.eqv p q)) μ else .bad
    | _, _ => .bad
theorem opx_neX {X : Cx} {E : XK} (hu : X.A.units + 64 < cLine) : OpX X E (compareOp .NotEq) dNeX := by
  intro pins s σ H x y v u Q I rx ry q
  obtain ⟨W, μ, dx, dy, ok, r1, r2, p⟩ := q
  unfold dNeX at p
  split at p
  · exact opx_ne pins s σ H x y v u Q I rx ry ⟨W, μ, dx, dy, ok, r1, r2, p⟩
  · split at p
    · rename_i p1 p2 e1 e2
      split at p
      · rename_i hs
        exact op_neD hu pins s σ H x y v u Q I rx ry ⟨p1, p2, py_dp ok r1 e1, py_dp ok r2 e2, hs.1, hs.2, post_pure ok p (.bl _)⟩
      · exact p.elim
    · exact p.elim
end DL
/-! DL21: len(set(xs)) of texts. -/
namespace DL
open PySem L2 PySem.Spec PyProof.Rows
/-- the unlike ones, as they were met -/
def dd1 (σ : List Str) (x : Str) : List Str := if σ.any (· == x) = true then σ else σ ++ [x]
def met (xs : List Str) (i : Nat) : List Str := (xs.take i).foldl dd1 []
theorem met_succ {xs : List Str} {i : Nat} (h : i < xs.length) : met xs (i + 1) = dd1 (met xs i) (xs.getD i Str.empty) := by
  unfold met
  rw [List.take_succ, List.foldl_append]
  simp [h, List.getD]
theorem dd1_any (σ : List Str) (v k : Str) : (dd1 σ v).any (· == k) = (σ.any (· == k) || decide (k = v)) := by
  unfold dd1
  by_cases h : σ.any (· == v) = true
  · rw [if_pos h]
    by_cases e : k = v
    · rw [e, h]; rfl
    · rw [decide_eq_false e, Bool.or_false]
  · rw [if_neg h, List.any_append]
    by_cases e : k = v
    · subst e; simp
    · have hb : (v == k) = false := beq_eq_false_iff_ne.mpr fun z => e z.symm
      simp [hb, e]
theorem dd1_len (σ : List Str) (v : Str) : (dd1 σ v).length = if σ.any (· == v) then σ.length else σ.length + 1 := by
  unfold dd1
  split <;> simp
theorem met_len (xs : List Str) : ∀ i, i ≤ xs.length → (met xs i).length ≤ i
  | 0, _ => by simp [met]
  | i + 1, h => by
    rw [met_succ h, dd1_len]
    have := met_len xs i (by omega)
    split <;> omega
section
variable {prog : Program} {w : World} {A : Around} {R : Result → Shared → Prop} {J : Addr} {fp wr : List Addr} {G : Array GenState → Array GenState → Prop} {P : Nat → Value → Prop} {St : Nat → Shared → Prop}
abbrev SetAt (prog : Program) (w : World) (h : Heap) (S : Addr) (l : List Str) : Prop := h.SetOf (PySem.strKind prog w) S (fun k' => l.any (· == k')) l.length
theorem loop_met (xs : List Str) (W : WalksS prog w A.in1 J fp wr G xs.length P St) (S : Addr) (hSf : S ∉ fp) (hb : xs.length + 1 < scanBound) (hval : ∀ i v, P i v → ∃ t, v = .str (xs.getD i Str.empty) t) :
    ∀ (k i : Nat) (s : Shared), xs.length - i = k → i ≤ xs.length → St i s → SetAt prog w s.heap S (met xs i) → (∀ s', Moved (S :: wr) G s s' → SetAt prog w s'.heap S (met xs xs.length) → R (.ok (.ret .none)) s') →
      codeAny (model prog w) A (.builtin "set.update.loop" ⟨[.ref S, .ref J], []⟩) R s := by
  have out : S ∉ wr := fun z => hSf (W.sub _ z)
  have more : ∀ b ∈ wr, b ∈ S :: wr := fun b z => List.mem_cons_of_mem _ z
  have keep : ∀ {s s' : Shared} {l : List Str}, Moved wr G s s' → SetAt prog w s.heap S l → SetAt prog w s'.heap S l := fun hm ⟨o, es, ep, tb, ho, rest⟩ => ⟨o, es, ep, tb, hm.heap S _ out ho, rest⟩
  intro k
  induction k with
  | zero =>
    intro i s hk hi st hS hR
    obtain rfl : i = xs.length := by omega
    refine codeAny_builtin PyProof.Rows.F.entry_set_update_loop ?_
    rw [Around.under_plainId PyProof.Rows.F.plain_set_update_loop _]
    exact wpAny_bind (W.done s _ _ st fun s' hm => wpAny_pure (hR s' (hm.mono more) (keep hm hS)))
  | succ k ih =>
    intro i s hk hi st hS hR
    have lt : i < xs.length := by omega
    refine codeAny_builtin PyProof.Rows.F.entry_set_update_loop ?_
    rw [Around.under_plainId PyProof.Rows.F.plain_set_update_loop _]
    refine wpAny_bind (W.item i s _ _ lt st fun v s' hP st' hm => ?_)
    obtain ⟨t, rfl⟩ := hval i v hP
    have here : SetAt prog w s'.heap S (met xs i) := keep hm hS
    have room : (met xs i).length + 1 < scanBound := by
      have := met_len xs i hi
      omega
    show wpAny _ A.in1 (holding [Value.str (xs.getD i Str.empty) t] (setAdd S (.str (xs.getD i Str.empty) t)) >>= _) _ _ s'
    refine wpAny_bind (wpAny_holding ?_)
    unfold setAdd
    refine wpAny_holding (wpAny_bind ((PySem.strKind prog w).pyHash (k := xs.getD i Str.empty) (strKind_is _ _ _ _) ?_))
    refine wpAny_setAddHashed_of (knd := PySem.strKind prog w) (s := { s' with toks := s'.toks + 1 }) (strKind_is _ _ _ _) rfl here room fun h' hsb hS2 => ?_
    have next : SetAt prog w h' S (met xs (i + 1)) := SetOf_congr hS2 (fun k' => by rw [met_succ lt, dd1_any]) (by rw [met_succ lt, dd1_len])
    refine wpAny_pure ⟨plainId_quiet PyProof.Rows.F.plain_set_update_loop _, ih (i + 1) _ (by omega) lt (W.frame _ s' _ _ st' (Nat.le_succ _) fun b hb o e => ?_) next fun s2 hm2 hS3 => ?_⟩
    · rw [hsb.2 b fun z => hSf (by rw [← z]; exact hb)]
      exact e
    · refine hR s2 (Moved.trans W.gtrans ((hm.mono more).then_heap (Nat.le_succ _) fun b o hb e => ?_) hm2) hS3
      rw [hsb.2 b fun z => hb (by rw [z]; exact List.mem_cons_self)]
      exact e
end
section
variable {prog : Program} {w : World} {A : Around} {E : Value → Shared → Prop} {s : Shared}
abbrev newSet (led : Bool) : Obj := { cls := .type "set", dict := none, data := .set #[] 0 (.fresh 0 0 led) }
/-- set(xs) of a list of texts -/
theorem call_set_met {l : Addr} {items : Array Value} {xs : List Str} {Q : Value → Shared → Prop} (hh : A.handled = none) (hl : s.heap.IsList l items) (hi : StrsAre items.toList xs) (hb : xs.length + 1 < scanBound)
    (h : ∀ (h' : Heap) (tk : Nat), SetAt prog w h' s.heap.objs.size (met xs xs.length) → (∀ b o, b < s.heap.objs.size → s.heap.get? b = some o → h'.get? b = some o) → Q (.ref s.heap.objs.size) { s with heap := h', toks := tk }) :
    wpAny (model prog w) A (call (.type "set") [.ref l]) Q E s := by
  have hsz : items.size = xs.length := by rw [← StrsAre.len_eq hi, Array.length_toList]
  obtain ⟨c, tl, m0⟩ := PySem.F.called_set.mro
  have m1 := PySem.F.called_set.made
  have m2 := PySem.F.called_set.sub
  refine wpAny_call (codeAny_of_tree ?_)
  show wpAny _ _ (callAny (.type "set") _) _ _ _
  refine wpAny_pure ⟨Code.quiet_builtin _ (by decide +kernel), codeAny_builtin PySem.F.entry_type_call ?_⟩
  rw [Around.under_plain (weight_type_call_type "set" [.ref l] []) rfl]
  have m3 := PySem.F.called_set.notType
  have m4 := PySem.F.called_set.canCreate
  have m5 := PySem.F.typeCall_set_1 (.ref l)
  repeat (any_goals (first | assumption | wp_step))
  refine codeAny_mono (code_set_new_1 (.ref l) (E := E) (Q₁ := fun u s1 => ∃ led : Bool, u = .ref s.heap.objs.size ∧ s1 = { s with heap := s.heap.push (newSet led) }) fun led => ⟨led, rfl, rfl⟩) fun r s1 hr => ?_
  cases r with
  | error e => exact hr
  | ok fl =>
    cases fl with
    | ret u =>
      obtain ⟨led, rfl, rfl⟩ := hr
      have gS : (s.heap.push (newSet led)).get? s.heap.objs.size = some (newSet led) := Heap.get?_push_size _ rfl
      have tS : Shared.TypeIs { s with heap := s.heap.push (newSet led) } (.ref s.heap.objs.size) "set" := ⟨_, gS, rfl⟩
      have n1 := PySem.F.called_set.init.lookup
      have n2 := PySem.F.called_set.init.bind (.ref s.heap.objs.size)
      repeat (any_goals (first | assumption | wp_step))
      refine codeAny_mono (codeAny_call_builtin (R := wants (fun r s2 => r = .none ∧ ∃ h' tk, s2 = { s with heap := h', toks := tk } ∧ SetAt prog w h' s.heap.objs.size (met xs xs.length) ∧ ∀ b o, b < s.heap.objs.size → s.heap.get? b = some o → h'.get? b = some o) E) PySem.F.called_set.init.plain PySem.F.entry_set_init (check_set_init_1 tS ?_)) fun r2 s2 hr2 => ?_
      · obtain ⟨⟨oc, od, dt, sl⟩, ho, hc, nl, hd⟩ := hl
        simp only at hc hd
        subst hc hd
        have ho' : (s.heap.push (newSet led)).get? l = some { cls := .type "list", dict := od, data := .seq items nl, slots := sl } := Heap.get?_push_of_some _ ho
        have k1 := PySem.F.sub_list_set
        have k2 := PySem.F.sub_list_frozenset
        have k3 : (Value.type "list" == Value.type "dict") = false := by decide
        have hl1 : (s.heap.push (newSet led)).IsList l items := ⟨_, ho', rfl, nl, rfl⟩
        unfold Builtin.«set.__init__» noKeywords Builtin.Frozenset.updateFrom
        generalize hPI : pyIter = PI
        wp_walk
        subst hPI
        refine wpAny_pyIter_list hl1 (wpAny_bind (wpAny_runValue ?_))
        have lS : l < s.heap.objs.size := Heap.lt_size ho
        have h3 : A.in1.in1.in1.handled = none := by simp [hh]
        have nI : l ≠ (s.heap.push (newSet led)).objs.size := by
          rw [Heap.size_push]
          exact Nat.ne_of_lt (Nat.lt_succ_of_lt lS)
        have nS : s.heap.objs.size ∉ [(s.heap.push (newSet led)).objs.size, l] := by
          rw [Heap.size_push]
          intro z
          rcases List.mem_cons.mp z with z | z
          · exact absurd z (Nat.ne_of_lt (Nat.lt_succ_self _))
          · exact absurd (List.mem_singleton.mp z) (Nat.ne_of_gt lS)
        have hval : ∀ (i : Nat) (v : Value), items[i]? = some v → ∃ t, v = .str (xs.getD i Str.empty) t := fun i v hv => SS.strs_at hi i v (by rw [Array.getElem?_toList]; exact hv)
        have wk := (Walks.list (prog := prog) (w := w) h3 (s.heap.push (newSet led)).objs.size l nI items).toS
        rw [hsz] at wk
        refine loop_met xs wk s.heap.objs.size nS hb hval (xs.length - 0) 0 _ (by omega) (Nat.zero_le _) ⟨⟨_, Heap.get?_push_size _ rfl, rfl, rfl⟩, hl1.push _⟩ ?_ ?_
        · exact SetOf_congr ((setObjOf_fresh (knd := PySem.strKind prog w) led).setOf (Heap.get?_push_of_some _ gS) (by unfold scanBound; omega)) (fun _ => rfl) rfl
        · intro s' hm hS'
          obtain ⟨h', g', d', tk', os'⟩ := s'
          obtain rfl : g' = s.gens := hm.gens
          obtain rfl : d' = s.drawn := hm.drawn
          obtain rfl : os' = s.os := hm.os
          refine wpAny_pure (wpAny_pure ⟨rfl, h', tk', rfl, hS', fun b o hb e => hm.heap b o (fun z => ?_) (Heap.get?_push_of_some _ (Heap.get?_push_of_some _ e))⟩)
          rcases List.mem_cons.mp z with z | z
          · exact absurd z (Nat.ne_of_lt hb)
          · have z := List.mem_singleton.mp z
            rw [Heap.size_push] at z
            exact absurd z (Nat.ne_of_lt (Nat.lt_succ_of_lt hb))
      · cases r2 with
        | error e => exact hr2
        | ok fl2 =>
          cases fl2 with
          | ret r =>
            obtain ⟨rfl, h', tk, rfl, hS', hk'⟩ := hr2
            repeat (any_goals (first | assumption | wp_step))
            exact h _ _ hS' hk'
          | _ => exact hr2.elim
    | _ => exact hr.elim
end
end DL
/-! DL22: len(set(xs)) of numbers or texts; texts with fields. -/
namespace DL
open PySem L2 PySem.Spec PyProof.Rows
def setLen (ds : List D) : Option Nat := match intsD ds with
  | some ns => if ns.length ≤ 1000 then some (kinds ns) else none
  | none => match strsD ds with
    | some xs => if xs.length ≤ 1000 then some (met xs xs.length).length else none
    | none => none
def dlensetX (f : FE) : FE := fun ρ μ => (f ρ μ).bind fun d μ1 => match d with
  | .lst ds => R.of ((setLen ds).map fun n : Nat => D.int (n : Int)) μ1
  | _ => .bad
@[simp] theorem ap_lensetX (f : FE) (ρ : En) (μ : Mu) : dlensetX f ρ μ = (f ρ μ).bind fun d μ1 => match d with
  | .lst ds => R.of ((setLen ds).map fun n : Nat => D.int (n : Int)) μ1
  | _ => .bad := of_eq_true (eq_self _)
theorem de_lensetX {X : Cx} {E : XK} {a : Expr} {fa : FE} {p p2 q pos : Pos} (hm : X.mg "len" = none) (hm2 : X.mg "set" = none) (ha : DE X E a fa) (hc : X.calm = true := by rfl) (hg : Gl X "len" := by rfl) (hg2 : Gl X "set" := by rfl)
    (na : starEach [a] X.env = (false, eval a X.env) :: starEach [] X.env := by rfl) : DE X E (.Call (.Name "len" p) [.Call (.Name "set" p2) [a] [] q] [] pos) (dlensetX fa) := by
  constructor
  intro pins s σ H Q I rd
  obtain ⟨W, ρ, μ, ok, en, z⟩ := rd
  unfold dlensetX at z
  have inner : rE X.K E fa σ H (fun x H1 => ∃ l, x = .ref l ∧ ((∃ ns : List Int, SqL X.K H1 l (ns.map V.int) ∧ ns.length ≤ 1000 ∧ Q (.int (kinds ns)) H1) ∨ ∃ xs : List Str, SqL X.K H1 l (xs.map V.str) ∧ xs.length ≤ 1000 ∧ Q (.int (met xs xs.length).length) H1)) := seq z ok en fun d μ1 W1 v H1 g1 o1 en1 r z1 => by
    cases r with
    | lst zz h rs =>
      dsimp only at z1
      unfold setLen at z1
      split at z1
      · rename_i ns hns
        have e := intsD_rep rs hns
        subst e
        split at z1
        · rename_i hl
          exact ⟨_, rfl, .inl ⟨ns, (same_lq o1.sub h).sq, hl, post_pure o1 z1 (.int _)⟩⟩
        · exact z1.elim
      · split at z1
        · rename_i xs hxs
          have e := strsD_rep rs hxs
          subst e
          split at z1
          · rename_i hl
            exact ⟨_, rfl, .inr ⟨xs, (same_lq o1.sub h).sq, hl, post_pure o1 z1 (.int _)⟩⟩
          · exact z1.elim
        · exact z1.elim
    | _ => exact z1.elim
  refine PyProof.Rows.Call_ (ld_blt I hg hm PySem.boot_len (PyProof.Rows.callWith_builtin1 (PyProof.Rows.args_cons ?_ rfl) rfl rfl))
  refine PyProof.Rows.Call_ (ld_blt I hg2 hm2 PyProof.Rows.boot_set (PyProof.Rows.callWith_type1 (PyProof.Rows.args_cons (thn (ha.run pins s σ H _ I inner) fun v s1 hv => PyProof.Rows.args_nil ?_) na) na rfl))
  obtain ⟨y, H1, I1, w1, l, ey, alt⟩ := hv
  subst ey
  cases w1
  rcases alt with ⟨ns, sq, hl, fin⟩ | ⟨xs, sq, hl, fin⟩
  · obtain ⟨its, rv, pl, _⟩ := I1.list sq
    have hsz : its.toArray.size = ns.length := by
      rw [List.size_toArray, ← rv.length, List.length_map]
    refine PySem.call_set_list (I1.ok.hd hc) pl.isList (ns := ns) (by simpa using vals_ints rv) (by rw [hsz]; unfold scanBound; omega) fun h' tk made old => PyProof.Rows.args_nil ?_
    rw [hsz] at made
    obtain ⟨ob, en', ep, tt, ho, hex, hd, _, _, _, hf, hn⟩ := made
    have few : (PyProof.Rows.firstMet (fun i => ns.getD i 0) ns.length).length ≤ ns.length := PyProof.Rows.firstMet_length_le _ _
    exact call_len_set ho hex hd hf (by rw [hn]; omega) ⟨.int (kinds ns), H1, (I1.kept fun b o e => old b o (Heap.lt_size e) e).tok _, ⟨_, by rw [hn]; rfl⟩, fin⟩
  · obtain ⟨its, rv, pl, _⟩ := I1.list sq
    refine call_set_met (I1.ok.hd hc) pl.isList (xs := xs) (by simpa using rv.strs) (by unfold scanBound; omega) fun h' tk made old => PyProof.Rows.args_nil ?_
    obtain ⟨ob, en', ep, tt, ho, hex, hd, _, _, _, hf, hn⟩ := made
    have few := met_len xs xs.length (Nat.le_refl _)
    exact call_len_set ho hex hd hf (by rw [hn]; omega) ⟨.int (met xs xs.length).length, H1, (I1.kept fun b o e => old b o (Heap.lt_size e) e).tok _, ⟨_, by rw [hn]⟩, fin⟩
/-! ### f-strings -/
def fmtD : D → Option Str
  | .str y => some y
  | .int i => if i.natAbs.log2 < 1920 then some (toString i) else none
  | _ => none
def fmtR : D → Option Str
  | .str y => some (reprText y)
  | .int i => if i.natAbs.log2 < 1920 then some (toString i) else none
  | _ => none
/-- a text, where it is short enough -/
def shortS (o : Option Str) : Option D := match o with
  | some x => if x.length ≤ 1000000 then some (.str x) else none
  | none => none
def dfmt (f : FE) : FE := fun ρ μ => (f ρ μ).bind fun d μ1 => R.of (shortS (fmtD d)) μ1
def dfmtR (f : FE) : FE := fun ρ μ => (f ρ μ).bind fun d μ1 => R.of (shortS (fmtR d)) μ1
@[simp] theorem ap_fmt (f : FE) (ρ : En) (μ : Mu) : dfmt f ρ μ = (f ρ μ).bind fun d μ1 => R.of (shortS (fmtD d)) μ1 := of_eq_true (eq_self _)
@[simp] theorem ap_fmtR (f : FE) (ρ : En) (μ : Mu) : dfmtR f ρ μ = (f ρ μ).bind fun d μ1 => R.of (shortS (fmtR d)) μ1 := of_eq_true (eq_self _)
/-- the parts one behind the other -/
def joinF : List FE → Str → En → Mu → R D
  | [], acc, _, μ => .ok (.str acc) μ
  | f :: fs, acc, ρ, μ => (f ρ μ).bind fun d μ1 => match d with
    | .str y => if acc.length + y.length ≤ 1000000 then joinF fs (acc ++ y) ρ μ1 else .bad
    | _ => .bad
def djoin (fs : List FE) : FE := fun ρ μ => joinF fs Str.empty ρ μ
@[simp] theorem ap_join (fs : List FE) (ρ : En) (μ : Mu) : djoin fs ρ μ = joinF fs Str.empty ρ μ := of_eq_true (eq_self _)
section
variable {X : Cx} {E : XK} {e : Expr} {fe : FE} {pos : Pos}
theorem de_fmt (he : DE X E e fe) : DE X E (.FormattedValue e (-1) none pos) (dfmt fe) := pe_imp (pe_fmt he) fun σ H Q ⟨W, ρ, μ, ok, en, p⟩ => by
  refine seq p ok en fun d μ1 W1 v H1 g1 o1 en1 r p1 => ?_
  unfold shortS fmtD at p1
  cases d with
  | str y =>
    cases r with
    | str _ z =>
      dsimp only at p1
      split at p1
      · exact .inl ⟨y, rfl, z, post_pure o1 p1 (.str _ z)⟩
      · exact p1.elim
  | int i =>
    cases r
    dsimp only at p1
    by_cases h : i.natAbs.log2 < 1920
    · rw [if_pos h] at p1
      dsimp only at p1
      split at p1
      · rename_i hl
        exact .inr ⟨i, rfl, h, post_pure o1 p1 (.str _ (le_line hl))⟩
      · exact p1.elim
    · rw [if_neg h] at p1
      exact p1.elim
  | _ => exact p1.elim
theorem de_fmtR (he : DE X E e fe) : DE X E (.FormattedValue e 114 none pos) (dfmtR fe) := pe_imp (pe_fmtR he) fun σ H Q ⟨W, ρ, μ, ok, en, p⟩ => by
  refine seq p ok en fun d μ1 W1 v H1 g1 o1 en1 r p1 => ?_
  unfold shortS fmtR at p1
  cases d with
  | str y =>
    cases r with
    | str _ z =>
      dsimp only at p1
      split at p1
      · rename_i hl
        exact .inl ⟨y, rfl, le_line hl, post_pure o1 p1 (.str _ (le_line hl))⟩
      · exact p1.elim
  | int i =>
    cases r
    dsimp only at p1
    by_cases h : i.natAbs.log2 < 1920
    · rw [if_pos h] at p1
      dsimp only at p1
      split at p1
      · rename_i hl
        exact .inr ⟨i, rfl, h, post_pure o1 p1 (.str _ (le_line hl))⟩
      · exact p1.elim
    · rw [if_neg h] at p1
      exact p1.elim
  | _ => exact p1.elim
inductive DJ (X : Cx) (E : XK) : List Expr → List FE → Prop
  | nil : DJ X E [] []
  | cons {e : Expr} {f : FE} {es : List Expr} {fs : List FE} (h : DE X E e f) (r : DJ X E es fs) : DJ X E (e :: es) (f :: fs)
theorem DJ.pj {es : List Expr} {fs : List FE} (h : DJ X E es fs) : PJ X es (fs.map (rE X.K E)) := by
  induction h with
  | nil => exact .nil
  | cons h r ih => exact .cons h ih
theorem join_js : ∀ (fs : List FE) (acc : Str) (σ : L2.St) (H : Hp) (Q : VK) (W : Wd) (ρ : En) (μ : Mu), acc.length ≤ sizeLine → Ok X.K W H μ → Envs X.K W σ ρ → postE X.K E W H (joinF fs acc ρ μ) Q → tJs (fs.map (rE X.K E)) acc σ H fun out H1 => Q (.str out) H1
  | [], acc, σ, H, Q, W, ρ, μ, ha, ok, en, p => by
    unfold joinF at p
    exact post_pure ok p (.str _ ha)
  | f :: fs, acc, σ, H, Q, W, ρ, μ, ha, ok, en, p => by
    unfold joinF at p
    refine seq p ok en fun d μ1 W1 v H1 g1 o1 en1 r p1 => ?_
    cases d with
    | str y =>
      cases r
      dsimp only at p1
      split at p1
      · rename_i hl
        have h2 : (acc ++ y).length ≤ sizeLine := by rw [strlen_app]; exact le_line hl
        exact ⟨y, rfl, h2, join_js fs (acc ++ y) σ H1 Q W1 ρ μ1 h2 o1 en1 p1⟩
      · exact p1.elim
    | _ => exact p1.elim
theorem de_joined {v1 v2 : Expr} {rest : List Expr} {fs : List FE} (h : DJ X E (v1 :: v2 :: rest) fs) : DE X E (.JoinedStr (v1 :: v2 :: rest) pos) (djoin fs) :=
  pe_imp (pe_joined h.pj) fun σ H Q ⟨W, ρ, μ, ok, en, p⟩ => join_js fs Str.empty σ H Q W ρ μ (Nat.zero_le _) ok en p
end
end DL
/-! DL23: == by an own __eq__. -/
namespace DL
open PySem L2 PySem.Spec PyProof.Rows
/-- the type of what stands at the right -/
def tyW (μ : Mu) : D → Option Ty
  | .non => some (.blt "NoneType")
  | .bl _ => some (.blt "bool")
  | .int _ => some (.blt "int")
  | .str _ => some (.blt "str")
  | .tup _ => some (.blt "tuple")
  | .lst _ => some (.blt "list")
  | d => match insD μ d with
    | some (C, _) => some (.own C)
    | none => none
theorem looks_obj {M : Model} {h : Heap} {a : Addr} {o : Obj} (e : h.get? a = some o) : PySem.W.Looks M h (typeOf (.ref a)) o.cls := (PySem.W.Looks.ld e).andThen .now
section
variable {X : Cx} {E : XK} {pins : List (Addr × Obj)} {σ : L2.St} {H : Hp} {s : Shared}
theorem ins_inst {a C dx : Addr} {fs : List (Str × V)} (I : Inv X pins σ H s) (e : H a = some (.ins C dx fs)) : ∃ od : Obj, PySem.W.InstAt s.heap a (PySem.W.instObj C dx) C (some od) := by
  obtain ⟨mA, O, r, wi, _, ho⟩ := ins_get I.hok e
  obtain ⟨od, hod, hl⟩ := lookIn_ns O.ns
  exact ⟨od, O.obj, rfl, rfl, hod⟩
theorem looks_ty {W : Wd} {μ : Mu} {v : V} {d : D} {u : Value} {t : Ty} (I : Inv X pins σ H s) (ok : Ok X.K W H μ) (r : Rep X.K W v d) (rv : RelV v u) (h : tyW μ d = some t) : PySem.W.Looks (model X.prog X.w) s.heap (typeOf u) (t.val X.K) := by
  have own : ∀ {C : Nat} {fs : List (Str × D)}, insD μ d = some (C, fs) → PySem.W.Looks (model X.prog X.w) s.heap (typeOf u) (.ref (cl X.K C)) := fun hi => by
    obtain ⟨a, dx, ns, vs, ds, rfl, ha, _, _⟩ := ins_rep ok r hi
    cases rv
    obtain ⟨od, J⟩ := ins_inst I ha
    exact J.type
  have via : (match insD μ d with | some (C, _) => some (Ty.own C) | none => none) = some t → PySem.W.Looks (model X.prog X.w) s.heap (typeOf u) (t.val X.K) := fun z => by
    cases hi : insD μ d with
    | none => rw [hi] at z; cases z
    | some q =>
      obtain ⟨C, fs⟩ := q
      rw [hi] at z
      cases z
      exact own hi
  cases r with
  | non => cases h; cases rv; exact PySem.W.Looks.of_pure rfl
  | bl b => cases h; cases rv; exact PySem.W.Looks.of_pure rfl
  | int i => cases h; obtain ⟨tk, rfl⟩ := rv; exact PySem.W.Looks.of_pure rfl
  | str x z => cases h; obtain ⟨tk, rfl⟩ := rv; exact PySem.W.Looks.of_pure rfl
  | tup z h1 q =>
    cases h
    cases rv
    obtain ⟨its, _, ⟨o, ho, hc, _⟩, _⟩ := I.tuple (same_t ok.sub h1)
    show PySem.W.Looks _ _ _ (Value.type "tuple")
    rw [← hc]
    exact looks_obj ho
  | lst z h1 q =>
    cases h
    cases rv
    obtain ⟨its, n, _, e⟩ := (same_lq ok.sub h1).isL I
    exact looks_obj e
  | hdl ha => exact via h
  | cst v => cases h
  | glo c => exact via h
  | obj h1 e rs => exact via h
/-- x == y, x of the class C with an own __eq__ that keeps F; ts: types that y may have -/
def eqOwn (C : Nat) (F : List D → Mu → R D) (ts : List Ty) : D → D → Mu → R D := fun x y μ => match insD μ x, tyW μ y with
  | some (C', _), some t => if C' = C ∧ t ∈ ts then F [x, y] μ else .bad
  | _, _ => .bad
theorem opx_own {k C : Nat} {f : Addr} {fd : FuncData} {ps : List Str} {F : List D → Mu → R D} {ts : List Ty} {op : CmpOp} (hop : ∀ a b, compareOp op a b = richCompare op a b) (G : FnG X.prog X.w X.K X.mg X.base k f fd ps F) (c : Cal X E k) (b : Dfl X.K fd ps 2 [])
    (hs : PySem.W.findIn X.K (.ref (cl X.K C)) (cmpInfo op).2.1 = some (some (.ref f))) (hf : PySem.W.isFn X.K (.ref f) = true) (hts : ∀ t ∈ ts, PySem.W.notFirst X.K (cl X.K C) (t.val X.K) = true) : OpX X E (compareOp op) (eqOwn C F ts) := by
  intro pins s σ H x y v u Q I rx ry q
  obtain ⟨W, μ, dx, dy, ok, r1, r2, p⟩ := q
  unfold eqOwn at p
  split at p
  · rename_i C' fs t hi ht
    split at p
    · rename_i hq
      obtain ⟨rfl, hm⟩ := hq
      have lk := looks_ty I ok r2 ry ht
      obtain ⟨a, dd, ns, vs, ds, rfl, ha, _, _⟩ := ins_rep ok r1 hi
      cases rx
      obtain ⟨od, J⟩ := ins_inst I ha
      obtain ⟨m, hF⟩ := I.fr
      rw [hop]
      refine PySem.W.cmp_K (op := op) (tb := t.val X.K) c.room.units0 hF I.ok.mod.kin J lk (hts t hm) hs hf ?_
      refine wpAny_mono (callF_args (us := [.ref a, u]) (vs := [.ref a, y]) (n := 2) (ds := [dx, dy]) G c b I rfl (.cons rfl (.cons ry .nil)) ok (.cons r1 (.cons r2 .nil)) p) (fun w s' z => ?_) fun _ _ e => e
      obtain ⟨z', H', I', rz, qz⟩ := z
      exact SlX.cmpback rz ⟨z', H', I', rz, qz⟩
    · exact p.elim
  · exact p.elim
end
end DL
/-! DL24: != by an own __eq__, str(o), repr(o) by own __str__, __repr__. -/
namespace DL
open PySem L2 PySem.Spec PyProof.Rows
section
variable {X : Cx} {E : XK} {k C : Nat} {f : Addr} {fd : FuncData} {ps : List Str} {F : List D → Mu → R D} {pins : List (Addr × Obj)} {σ : L2.St} {H : Hp} {s : Shared} {Q : VK} {us : List Value} {vs : List V} {W : Wd} {ds : List D} {μ : Mu} {n : Nat} {dd : List D}
/-- a call below a built-in -/
theorem callF_at {A : Around} (hA : Room k A) (hg : A.guards = some []) (he : Env0 X.prog X.w X.K X.mg X.base A X.stack s H) (G : FnG X.prog X.w X.K X.mg X.base k f fd ps F) (hx : Passes (L2.CX X.prog X.w) X E) (b : Dfl X.K fd ps n dd)
    (I : Inv X pins σ H s) (hn : us.length = n) (rv : Vals vs us) (ok : Ok X.K W H μ) (r : Reps X.K W vs ds) (q : postE X.K E W H (F (ds ++ dd) μ) Q) : wpAny (model X.prog X.w) A (call (.ref f) us) (EP X pins σ Q) X.xe s := by
  obtain ⟨dvs, d0, r0, rd, hl, hb⟩ := b.ex
  have hlen : (us ++ d0).length = ps.length := by rw [List.length_append, hn]; exact hl
  refine wpAny_call (codeAny_mono (G.run A X.stack s H ⟨us, []⟩ (us ++ d0) (vs ++ dvs) Q E W (ds ++ dd) μ hA hg he hlen (hb s us I.kIn hlen) (rv.append r0) ok (r.app (rd W)) q) fun z s2 hz => ?_)
  match z, hz with
  | .error e, hz => exact hx pins σ H s e s2 I hz
  | .ok (.ret u), hz => exact I.after hz
end
theorem ifBound_B {M : Model} {A : Around} {E : Value → Shared → Prop} {s : Shared} {K : PySem.W.Frag} {x C : Addr} {ox : Obj} {od : Option Obj} {name : Str} {id : String} {args : List Value} {Q : Option Value → Shared → Prop} (X : K.In s.heap) (I : PySem.W.InstAt s.heap x ox C od)
    (hs : PySem.W.findIn K (.ref C) name = some (some (.builtin id))) (hb : ∀ self, bindSpecial (.builtin id) self = pure (.builtin id, [self])) (h : wpAny M A (call (.builtin id) (.ref x :: args)) (fun v => Q (some v)) E s) : wpAny M A (callSpecialIfBound? (.ref x) name args) Q E s := by
  simp only [callSpecialIfBound?, bindSpecialIfBound?]
  refine wpAny_holding (wpAny_bind (wpAny_bind (wpAny_bind (I.type.here ((PySem.W.looks_findIn X hs).here ?_)))))
  simp only [hb]
  refine wpAny_bind (wpAny_askSetting (wpAny_ite ?_))
  have fin : wpAny M A (call (.builtin id) ([.ref x] ++ args) >>= fun v => pure (some v)) Q E s := wpAny_bind (wpAny_mono h (fun v s' z => wpAny_pure z) fun _ _ z => z)
  split
  · exact wpAny_bind (wpAny_pure (wpAny_pure fin))
  · exact wpAny_tryCatch (wpAny_bind (wpAny_pure (wpAny_pure fin)))
section
variable {prog : Program} {w : World} {A : Around} {E : Value → Shared → Prop} {s : Shared} {K : PySem.W.Frag} {x C f L : Addr} {h₀ : Heap} {m : Str → Option Value} {ox : Obj} {od : Option Obj} {b tb : Value}
open Builtin in
theorem ne_slot {Q : Value → Shared → Prop} (hu : A.in1.units < cLine) (X : K.In s.heap) (I : PySem.W.InstAt s.heap x ox C od) (hm : PySem.W.mroIn K C (.type "object") = some true) (hs : PySem.W.findIn K (.ref C) "__eq__" = some (some (.ref f))) (hf : PySem.W.isFn K (.ref f) = true)
    (h : wpAny (model prog w) A.in1 (call (.ref f) [.ref x, b]) (PySem.W.BoolBack fun r s' => Q (.bool (!r)) s') E s) : wpAny (model prog w) A (call (.builtin "object.__ne__") [.ref x, b]) Q E s := by
  refine wpAny_call (codeAny_call_builtin (by decide +kernel) PySem.F.cmpEntry_ne (PySem.W.check_slot (i := "object.__ne__") (owner := "object") (n := "__ne__") PySem.F.cmpKind_ne PySem.F.cmpSplit_ne (I.type.andThen (PySem.W.looks_mroIn X hm)) (PySem.F.cmpArgs_ne _ _) ?_))
  unfold Builtin.«object.__ne__»
  refine wpAny_bind (m := slotArgs "__ne__" 1 _) (wpAny_pure ?_)
  refine wpAny_bind (m := cRoomFor _ _) (wpAny_cRoomFor hu ?_)
  refine wpAny_bind (m := callSpecialIfBound? (.ref x) (Str.ofString "__eq__") _) (PySem.W.ifBound_K X I hs hf (wpAny_mono h (fun r s' hq => ?_) fun _ _ y => y))
  cases r <;> first | exact hq.elim | exact wpAny_bind (wpAny_pure (wpAny_pure hq))
end
section
variable {prog : Program} {w : World} {A : Around} {E : Value → Shared → Prop} {s : Shared} {K : PySem.W.Frag} {x C f L : Addr} {h₀ : Heap} {m : Str → Option Value} {ox : Obj} {od : Option Obj} {b tb : Value}
theorem ne_K {Q : Value → Shared → Prop} (hu : A.units + 1 < cLine) (X : K.In s.heap) (I : PySem.W.InstAt s.heap x ox C od) (hb : PySem.W.Looks (model prog w) s.heap (typeOf b) tb) (hn : PySem.W.notFirst K C tb = true)
    (hne : PySem.W.findIn K (.ref C) "__ne__" = some (some (.builtin "object.__ne__"))) (hm : PySem.W.mroIn K C (.type "object") = some true) (hs : PySem.W.findIn K (.ref C) "__eq__" = some (some (.ref f))) (hf : PySem.W.isFn K (.ref f) = true)
    (h : wpAny (model prog w) A.in1 (call (.ref f) [.ref x, b]) (PySem.W.BoolBack fun r s' => Q (.bool (!r)) s') E s) : wpAny (model prog w) A (richCompare .NotEq (.ref x) b) Q E s := by
  have bd : ∀ self, bindSpecial (.builtin "object.__ne__") self = pure (.builtin "object.__ne__", [self]) := PySem.F.slot_object_ne.bind
  have one : wpAny (model prog w) A (tryCompare (.ref x) (cmpInfo .NotEq).2.1 b) (fun r s' => ∃ v, r = some v ∧ Q v s') E s := by
    unfold tryCompare
    refine wpAny_bind (ifBound_B X I hne bd (ne_slot hu X I hm hs hf (wpAny_mono h (fun v s' z => ?_) fun _ _ e => e)))
    cases v <;> first | exact z.elim | exact wpAny_pure ⟨_, rfl, z⟩
  unfold richCompare
  simp only [oneThing_ref]
  refine wpAny_holding (wpAny_bind (wpAny_cRoomFor (Nat.lt_of_succ_lt hu) ?_))
  refine wpAny_bind (I.type.here (wpAny_bind (hb.here ?_)))
  split
  · rename_i q
    have e : PySem.W.subIn K tb (.ref C) = some false := by
      rcases Bool.or_eq_true_iff.mp hn with z | z
      · rw [beq_iff_eq.mp z] at q
        simp at q
      · exact beq_iff_eq.mp z
    refine wpAny_bind ((PySem.W.looks_subIn X e).here ?_)
    simp only [Bool.false_eq_true, if_false]
    refine wpAny_bind (wpAny_mono one (fun r s' z => ?_) fun _ _ z => z)
    obtain ⟨v, rfl, z⟩ := z
    exact wpAny_pure z
  · refine wpAny_bind (wpAny_pure ?_)
    simp only [Bool.false_eq_true, if_false]
    refine wpAny_bind (wpAny_mono one (fun r s' z => ?_) fun _ _ z => z)
    obtain ⟨v, rfl, z⟩ := z
    exact wpAny_pure z
/-- repr(o) by an own __repr__ -/
theorem repr_K {Q : Value → Shared → Prop} (hu : A.in1.units < cLine) (X : K.In s.heap) (I : PySem.W.InstAt s.heap x ox C od) (hs : PySem.W.findIn K (.ref C) "__repr__" = some (some (.ref f))) (hf : PySem.W.isFn K (.ref f) = true)
    (h : wpAny (model prog w) A.in1 (call (.ref f) [.ref x]) (PySem.W.StrBack Q) E s) : wpAny (model prog w) A (call (.builtin "repr") [.ref x]) Q E s := by
  refine Calls.call_function_entry PySem.F.kind_repr PySem.F.plain_repr PySem.F.entry_repr (PySem.F.args_repr1 _) ?_
  unfold Builtin.«repr»
  refine wpAny_bind (wpAny_pure ?_)
  refine wpAny_bind (m := cRoomFor _ _) (wpAny_cRoomFor hu ?_)
  refine wpAny_bind (m := specialOf (.ref x) _) (wpAny_bind (I.type.here ((PySem.W.looks_findIn X hs).here ?_)))
  refine wpAny_bind (m := callSpecialIfBound? (.ref x) (Str.ofString "__repr__") _) (PySem.W.ifBound_K X I hs hf (wpAny_mono h (fun r s' hq => ?_) fun _ _ y => y))
  cases r <;> first | exact hq.elim | skip
  rename_i y t
  refine wpAny_bind (wpAny_isInstance (T := "str") (b := true) (typeIs_str _ _ _) isSubtype_str_str ?_)
  exact wpAny_pure ⟨_, rfl, hq⟩
end
/-! ### as rules -/
def notB : R D → R D
  | .ok (.bl b) μ => .ok (.bl (!b)) μ
  | .ex c fs μ => .ex c fs μ
  | _ => .bad
/-- x != y, x of the class C with an own __eq__ alone -/
def neOwn (C : Nat) (F : List D → Mu → R D) (ts : List Ty) : D → D → Mu → R D := fun x y μ => match insD μ x, tyW μ y with
  | some (C', _), some t => if C' = C ∧ t ∈ ts then notB (F [x, y] μ) else .bad
  | _, _ => .bad
def strOnly : R D → R D
  | .ok (.str x) μ => .ok (.str x) μ
  | .ex c fs μ => .ex c fs μ
  | _ => .bad
/-- str(o), repr(o) of an instance of C, or as ahead -/
def bOwn (C : Nat) (F : List D → Mu → R D) (g : List D → Mu → R D) : List D → Mu → R D := fun ds μ => match ds with
  | [d] => match insD μ d with
    | some (C', _) => if C' = C then strOnly (F [d] μ) else .bad
    | none => g [d] μ
  | _ => .bad
section
variable {X : Cx} {E : XK} {k C : Nat} {f : Addr} {fd : FuncData} {ps : List Str} {F : List D → Mu → R D} {ts : List Ty}
theorem Room.units1 {k : Nat} {A : Around} (r : Room (k + 1) A) : A.units + 1 < cLine := by have := r.un; omega
theorem opx_neOwn (G : FnG X.prog X.w X.K X.mg X.base k f fd ps F) (c : Cal X E (k + 1)) (b : Dfl X.K fd ps 2 []) (hne : PySem.W.findIn X.K (.ref (cl X.K C)) "__ne__" = some (some (.builtin "object.__ne__"))) (hm : PySem.W.mroIn X.K (cl X.K C) (.type "object") = some true)
    (hs : PySem.W.findIn X.K (.ref (cl X.K C)) "__eq__" = some (some (.ref f))) (hf : PySem.W.isFn X.K (.ref f) = true) (hts : ∀ t ∈ ts, PySem.W.notFirst X.K (cl X.K C) (t.val X.K) = true) : OpX X E (compareOp .NotEq) (neOwn C F ts) := by
  intro pins s σ H x y v u Q I rx ry q
  obtain ⟨W, μ, dx, dy, ok, r1, r2, p⟩ := q
  unfold neOwn at p
  split at p
  · rename_i C' fs t hi ht
    split at p
    · rename_i hq
      obtain ⟨rfl, hmem⟩ := hq
      have lk := looks_ty I ok r2 ry ht
      obtain ⟨a, dd, ns, vs, ds, rfl, ha, _, _⟩ := ins_rep ok r1 hi
      cases rx
      obtain ⟨od, J⟩ := ins_inst I ha
      show wpAny _ _ (richCompare .NotEq (.ref a) u) _ _ _
      refine ne_K (Room.units1 c.room) I.kIn J lk (hts t hmem) hne hm hs hf ?_
      have p' : postE X.K E W H (F ([dx, dy] ++ []) μ) (fun z H' => ∃ bb, z = .bl bb ∧ Q (.bl (!bb)) H') := by
        rw [List.append_nil]
        revert p
        cases F [dx, dy] μ with
        | ok d μ1 =>
          intro p W' v' H' g' o' r'
          cases r' with
          | bl bb => exact ⟨bb, rfl, p W' _ H' g' o' (.bl _)⟩
          | _ => exact p.elim
        | ex c fs μ1 => exact fun p => p
        | bad => exact fun p => p
      refine wpAny_mono (callF_at (us := [.ref a, u]) (vs := [.ref a, y]) (n := 2) (ds := [dx, dy]) (Room.in1 c.room) c.guards I.env0.in1 G c.pass b I rfl (.cons rfl (.cons ry .nil)) ok (.cons r1 (.cons r2 .nil)) p') (fun w s' z => ?_) fun _ _ e => e
      obtain ⟨z', H', I', rz, bb, rfl, qz⟩ := z
      cases rz
      exact ⟨.bl (!bb), H', I', rfl, qz⟩
    · exact p.elim
  · exact p.elim
theorem str_back {pins : List (Addr × Obj)} {σ : L2.St} {Q : VK} {w : Value} {s' : Shared} (z : EP X pins σ (fun z H' => ∃ y, z = .str y ∧ Q (.str y) H') w s') : PySem.W.StrBack (EP X pins σ Q) w s' := by
  obtain ⟨z', H', I', rz, y, rfl, qz⟩ := z
  obtain ⟨t, rfl⟩ := rz
  exact ⟨.str y, H', I', ⟨t, rfl⟩, qz⟩
theorem str_post {W : Wd} {H : Hp} {μ : Mu} {ds : List D} {Q : VK} (p : postE X.K E W H (strOnly (F ds μ)) Q) : postE X.K E W H (F (ds ++ []) μ) (fun z H' => ∃ y, z = .str y ∧ Q (.str y) H') := by
  rw [List.append_nil]
  revert p
  cases F ds μ with
  | ok d μ1 =>
    intro p W' v' H' g' o' r'
    cases r' with
    | str y z => exact ⟨y, rfl, p W' _ H' g' o' (.str y z)⟩
    | _ => exact p.elim
  | ex c fs μ1 => exact fun p => p
  | bad => exact fun p => p
theorem cx_strOwn {g : List D → Mu → R D} (hg : CallX X E (.type "str") g) (G : FnG X.prog X.w X.K X.mg X.base k f fd ps F) (c : Cal X E (k + 2)) (b : Dfl X.K fd ps 1 []) (hs : PySem.W.findIn X.K (.ref (cl X.K C)) "__str__" = some (some (.ref f))) (hf : PySem.W.isFn X.K (.ref f) = true) : CallX X E (.type "str") (bOwn C F g) := by
  intro pins s σ H xs us Q I rx q
  obtain ⟨W, μ, ds, ok, r1, p⟩ := q
  unfold bOwn at p
  split at p
  · rename_i d
    split at p
    · rename_i C' fs hi
      split at p
      · rename_i e
        subst e
        cases r1 with
        | cons r1 r2 =>
          cases r2
          obtain ⟨a, dd, ns, vs, ds, rfl, ha, _, _⟩ := ins_rep ok r1 hi
          obtain ⟨u, rfl, ru⟩ := rx.one
          cases ru
          obtain ⟨od, J⟩ := ins_inst I ha
          have rm : Room k X.A.in1.in1 := (show Room (k + 1) X.A.in1 from Room.in1 c.room).in1
          exact PySem.W.kso_call rm.units0 I.kIn J hs hf (wpAny_mono (callF_at (us := [.ref a]) (vs := [.ref a]) (n := 1) (ds := [d]) rm c.guards I.env0.in1.in1 G c.pass b I rfl (.cons rfl .nil) ok (.cons r1 .nil) (str_post p)) (fun w s' z => str_back z) fun _ _ e => e)
      · exact p.elim
    · exact hg pins s σ H xs us Q I rx ⟨W, μ, _, ok, r1, p⟩
  · exact p.elim
theorem cx_reprOwn {g : List D → Mu → R D} (hg : CallX X E (.builtin "repr") g) (G : FnG X.prog X.w X.K X.mg X.base k f fd ps F) (c : Cal X E (k + 1)) (b : Dfl X.K fd ps 1 []) (hs : PySem.W.findIn X.K (.ref (cl X.K C)) "__repr__" = some (some (.ref f))) (hf : PySem.W.isFn X.K (.ref f) = true) : CallX X E (.builtin "repr") (bOwn C F g) := by
  intro pins s σ H xs us Q I rx q
  obtain ⟨W, μ, ds, ok, r1, p⟩ := q
  unfold bOwn at p
  split at p
  · rename_i d
    split at p
    · rename_i C' fs hi
      split at p
      · rename_i e
        subst e
        cases r1 with
        | cons r1 r2 =>
          cases r2
          obtain ⟨a, dd, ns, vs, ds, rfl, ha, _, _⟩ := ins_rep ok r1 hi
          obtain ⟨u, rfl, ru⟩ := rx.one
          cases ru
          obtain ⟨od, J⟩ := ins_inst I ha
          have rm : Room k X.A.in1 := Room.in1 c.room
          exact repr_K rm.units0 I.kIn J hs hf (wpAny_mono (callF_at (us := [.ref a]) (vs := [.ref a]) (n := 1) (ds := [d]) rm c.guards I.env0.in1 G c.pass b I rfl (.cons rfl .nil) ok (.cons r1 .nil) (str_post p)) (fun w s' z => str_back z) fun _ _ e => e)
      · exact p.elim
    · exact hg pins s σ H xs us Q I rx ⟨W, μ, _, ok, r1, p⟩
  · exact p.elim
end
end DL
/-! DL25: data of the module's own, one of two readings, defs apart. -/
namespace DL
open PySem L2 PySem.Spec PyProof.Rows
/-! ### what the module holds -/
mutual
/-- the value u of the written part is the datum d -/
def holdV (K : PySem.W.Frag) : Nat → Value → D → Bool
  | _, .none, .non => true
  | _, .bool b, .bl c => b == c
  | _, .int i _, .int j => i == j
  | _, .str x _, .str y => x == y && decide (x.length ≤ 1000000)
  | n + 1, .ref a, .tup ds => match K.lookup a with
    | some o => (match o.data with
      | .seq its _ => o.cls == .type "tuple" && (decide (its.size ≤ 1000000) && holdVs K n its.toList ds)
      | _ => false)
    | none => false
  | _, _, _ => false
def holdVs (K : PySem.W.Frag) : Nat → List Value → List D → Bool
  | _, [], [] => true
  | n, u :: us, d :: ds => holdV K n u d && holdVs K n us ds
  | _, _, _ => false
end
mutual
theorem holdV_rep {K : PySem.W.Frag} : ∀ (n : Nat) (u : Value) (d : D), holdV K n u d = true → ∃ v, RelV v u ∧ ∀ W, Rep K W v d
  | n, u, .non, h => by
    cases u <;> first | exact ⟨.non, rfl, fun _ => .non⟩ | (cases n <;> simp [holdV] at h)
  | n, u, .bl c, h => by
    cases u with
    | bool b =>
      have e : b = c := by cases n <;> simpa [holdV] using h
      subst e
      exact ⟨.bl b, rfl, fun _ => .bl b⟩
    | _ => cases n <;> simp [holdV] at h
  | n, u, .int j, h => by
    cases u with
    | int i t =>
      have e : i = j := by cases n <;> simpa [holdV] using h
      subst e
      exact ⟨.int i, ⟨t, rfl⟩, fun _ => .int i⟩
    | _ => cases n <;> simp [holdV] at h
  | n, u, .str y, h => by
    cases u with
    | str x t =>
      have e : x = y ∧ x.length ≤ 1000000 := by cases n <;> simpa [holdV] using h
      obtain ⟨rfl, hl⟩ := e
      exact ⟨.str x, ⟨t, rfl⟩, fun _ => .str x (le_line hl)⟩
    | _ => cases n <;> simp [holdV] at h
  | 0, u, .tup ds, h => by cases u <;> simp [holdV] at h
  | n + 1, u, .tup ds, h => by
    cases u with
    | ref a =>
      unfold holdV at h
      split at h
      · rename_i o ho
        split at h
        · rename_i its m hd
          simp only [Bool.and_eq_true, beq_iff_eq, decide_eq_true_eq] at h
          obtain ⟨hc, hz, hv⟩ := h
          obtain ⟨vs, rv, rp⟩ := holdVs_reps n its.toList ds hv
          have hl : its.size ≤ sizeLine := le_line hz
          refine ⟨.ref a, rfl, fun W => .tup ?_ (.inr ⟨o, its, m, ho, hc, hd, hl, rv⟩) (rp W)⟩
          rw [← (rp W).length, rv.length, Array.length_toList]
          exact hl
        · cases h
      · cases h
    | _ => simp [holdV] at h
  | n, u, .lst _, h => by cases n <;> cases u <;> simp [holdV] at h
  | n, u, .hdl _, h => by cases n <;> cases u <;> simp [holdV] at h
  | n, u, .cst _, h => by cases n <;> cases u <;> simp [holdV] at h
  | n, u, .obj _ _, h => by cases n <;> cases u <;> simp [holdV] at h
  | n, u, .glo _, h => by cases n <;> cases u <;> simp [holdV] at h
theorem holdVs_reps {K : PySem.W.Frag} : ∀ (n : Nat) (us : List Value) (ds : List D), holdVs K n us ds = true → ∃ vs, Vals vs us ∧ ∀ W, Reps K W vs ds
  | n, [], [], _ => ⟨[], .nil, fun _ => .nil⟩
  | n, [], _ :: _, h => by cases n <;> simp [holdVs] at h
  | n, _ :: _, [], h => by cases n <;> simp [holdVs] at h
  | n, u :: us, d :: ds, h => by
    have h : (holdV K n u d && holdVs K n us ds) = true := by cases n <;> simpa [holdVs] using h
    rw [Bool.and_eq_true] at h
    obtain ⟨v, r, p⟩ := holdV_rep n u d h.1
    obtain ⟨vs, rs, ps⟩ := holdVs_reps n us ds h.2
    exact ⟨v :: vs, .cons r rs, fun W => .cons (p W) (ps W)⟩
end
/-- a global of the module is the datum d -/
def gloB (K : PySem.W.Frag) (x : Str) (d : D) : Bool := match PySem.W.nsIn K mainGlobals x with
  | some (some u) => holdV K 8 u d
  | _ => false
theorem gloB_ok {K : PySem.W.Frag} {h : Heap} {mg : Str → Option Value} (X : K.In h) (G : h.Ns mainGlobals mg) {x : Str} {d : D} (c : gloB K x d = true) : ∃ u v, mg x = some u ∧ RelV v u ∧ ∀ W, Rep K W v d := by
  unfold gloB at c
  split at c
  · rename_i u e
    obtain ⟨v, r, p⟩ := holdV_rep 8 u d c
    exact ⟨u, v, PySem.W.mg_of X G e, r, p⟩
  · cases c
/-! ### one of two readings -/
theorem opx_if {X : Cx} {E : XK} {f : Value → Value → Sem Value} {g1 g2 : D → D → Mu → R D} (c : D → D → Mu → Bool) (h1 : OpX X E f g1) (h2 : OpX X E f g2) : OpX X E f (fun x y μ => if c x y μ = true then g1 x y μ else g2 x y μ) := by
  intro pins s σ H x y v u Q I rx ry q
  obtain ⟨W, μ, dx, dy, ok, r1, r2, p⟩ := q
  dsimp only at p
  by_cases hc : c dx dy μ = true
  · rw [if_pos hc] at p
    exact h1 pins s σ H x y v u Q I rx ry ⟨W, μ, dx, dy, ok, r1, r2, p⟩
  · rw [if_neg hc] at p
    exact h2 pins s σ H x y v u Q I rx ry ⟨W, μ, dx, dy, ok, r1, r2, p⟩
/-- == where the left one may be an instance -/
def eqP (C : Nat) (F : List D → Mu → R D) (ts : List Ty) : D → D → Mu → R D := fun x y μ => if (insD μ x).isSome = true then eqOwn C F ts x y μ else dEq x y μ
def neP (C : Nat) (F : List D → Mu → R D) (ts : List Ty) : D → D → Mu → R D := fun x y μ => if (insD μ x).isSome = true then neOwn C F ts x y μ else dNeX x y μ
/-! ### defs apart -/
theorem FunD.ne {K : PySem.W.Frag} {x x' q q' : Str} {p p' : Arguments} {b b' : List Stmt} {sc sc' : Scope} {dv dv' : List V} {kw kw' : List (Str × V)} {f f' : Addr} {fd fd' : FuncData} (F : FunD K x q p b sc dv kw f fd) (F' : FunD K x' q' p' b' sc' dv' kw' f' fd') (h : x ≠ x') : f ≠ f' := by
  rintro rfl
  obtain ⟨oc, od, dV, kV, doc, pm, an, cdv, ct, osl, rfl, lk, _⟩ := F.ex
  obtain ⟨oc', od', dV', kV', doc', pm', an', cdv', ct', osl', rfl, lk', _⟩ := F'.ex
  have e := lk.symm.trans lk'
  have e2 : PySem.W.fnOf x q p b sc dV kV doc pm an cdv ct = PySem.W.fnOf x' q' p' b' sc' dV' kV' doc' pm' an' cdv' ct' := by
    injection e with e
    injection e with e1 e2 e3 e4
    injection e3
  have e3 := congrArg FuncData.name e2
  exact h e3
end DL
/-! DL26: facts of classes by Bools of the written part. -/
namespace DL
open PySem L2 PySem.Spec PyProof.Rows
/-- the keyword default x of the def at f, if it is an object -/
def kwAt (f : Str × Option Str) (x : Str) (K : PySem.W.Frag) : Addr := match K.lookup (He.fAd K f) with
  | some ⟨_, _, .func fd, _⟩ => (match fd.kwdefaults with
    | .ref d => (match PySem.W.nsIn K d x with
      | some (some (.ref b)) => b
      | _ => 0)
    | _ => 0)
  | _ => 0
/-- f() -/
theorem de_call0 {X : Cx} {E : XK} {k : Nat} {f : Addr} {fd : FuncData} {ps : List Str} {F : List D → Mu → R D} {dd : List D} {x : Str} {p pos : Pos} (G : FnG X.prog X.w X.K X.mg X.base k f fd ps F) (c : Cal X E k) (hm : X.mg x = some (.ref f)) (hk : PySem.W.keepIn X.K (.ref f) = true) (b : Dfl X.K fd ps 0 dd)
    (hg : Gl X x := by rfl) (hdb : (x == ("__debug__" : Str)) = false := by decide) : DE X E (.Call (.Name x p) [] [] pos) (dcall F dd aNil) := by
  refine ⟨fun pins s σ H Q I q => ?_⟩
  obtain ⟨W, ρ, μ, ok, en, pq⟩ := q
  refine wpAny_Call_Name_kw (ld_glob I hg hm ?_ hdb)
  unfold dcall aNil at pq
  rw [R.bind_ok] at pq
  exact PySem.W.callWith_K0 I.kIn hk (callF_args (us := []) (vs := []) (n := 0) G c b I rfl .nil ok .nil pq)
/-- what isinstance may be asked about the class at C -/
def isCB (K : PySem.W.Frag) (C : Nat) : Bool :=
  decide (PySem.W.findIn K (.ref (cl K C)) "__class__" = some (some (.builtin "object.__class__"))) && (decide (PySem.W.specialIn K (.builtin "object.__class__") "__get__" = some (some (.builtin "getset_descriptor.__get__"))) &&
    (decide (PySem.W.takesIn K (.builtin "object.__class__") = some true) && decide (PySem.W.mroIn K (cl K C) (.type "object") = some true)))
theorem isCB_ok {K : PySem.W.Frag} {C : Nat} (c : Cls K (cl K C)) (h : isCB K C = true) : IsC K (cl K C) := by
  unfold isCB at h
  simp only [Bool.and_eq_true, decide_eq_true_eq] at h
  exact ⟨c, h.1, h.2.1, h.2.2.1, h.2.2.2⟩
def ktB (K : PySem.W.Frag) (c : Ty) (yes no : List Ty) : Bool :=
  yes.all (fun t => decide (PySem.W.kitOne K (t.val K) (c.val K) = some true)) && no.all fun t => decide (PySem.W.kitOne K (t.val K) (c.val K) = some false)
theorem ktB_ok {K : PySem.W.Frag} {c : Ty} {yes no : List Ty} (h : ktB K c yes no = true) : ∀ t b, ktL yes no t = some b → PySem.W.kitOne K (t.val K) (c.val K) = some b := by
  unfold ktB at h
  simp only [Bool.and_eq_true, decide_eq_true_eq, List.all_eq_true] at h
  obtain ⟨h1, h2⟩ := h
  intro t b e
  unfold ktL at e
  split at e
  · rename_i m
    cases e
    exact h1 t m
  · split at e
    · rename_i m
      cases e
      exact h2 t m
    · cases e
def basicT : List Ty := [.blt "NoneType", .blt "bool", .blt "int", .blt "str", .blt "tuple", .blt "list", .blt "dict"]
/-- the types of a right operand -/
def rightT (cs : List Nat) : List Ty := cs.map Ty.own ++ [.blt "NoneType", .blt "bool", .blt "int", .blt "str", .blt "tuple", .blt "list"]
def nfB (K : PySem.W.Frag) (C : Nat) (ts : List Ty) : Bool := ts.all fun t => PySem.W.notFirst K (cl K C) (t.val K)
theorem nfB_ok {K : PySem.W.Frag} {C : Nat} {ts : List Ty} (h : nfB K C ts = true) : ∀ t ∈ ts, PySem.W.notFirst K (cl K C) (t.val K) = true := List.all_eq_true.mp h
end DL
/-! DL27: what the head tells, in the form that the tops want. -/
namespace DL
open PySem L2 PySem.Spec PyProof.Rows
theorem holdV_ref {K : PySem.W.Frag} {n : Nat} {a : Addr} {d : D} (h : holdV K n (.ref a) d = true) : ∀ W, Rep K W (.ref a) d := by
  obtain ⟨v, r, p⟩ := holdV_rep n _ d h
  have e : v = .ref a := by
    cases v <;> first | (cases r; rfl) | (obtain ⟨_, r⟩ := r; cases r) | (cases r) | skip
  rw [← e]
  exact p
noncomputable def gloB_sub {K : PySem.W.Frag} {h : Heap} {mg : Str → Option Value} (X : K.In h) (G : h.Ns mainGlobals mg) {x : Str} {d : D} (c : gloB K x d = true) : { q : Value × V // mg x = some q.1 ∧ RelV q.2 q.1 ∧ ∀ W, Rep K W q.2 d } :=
  ⟨(Classical.choose (gloB_ok X G c), Classical.choose (Classical.choose_spec (gloB_ok X G c))), Classical.choose_spec (Classical.choose_spec (gloB_ok X G c))⟩
end DL
/-! DL28: tuple, list, sorted of a list that changes. -/
namespace DL
open PySem L2 PySem.Spec PyProof.Rows
/-- the list that stands at a handle -/
def thaw (μ : Mu) : D → D
  | .hdl l => match μ[l]? with
    | some (.lst xs) => if xs.length ≤ 1000000 then .lst xs else .hdl l
    | _ => .hdl l
  | d => d
theorem thaw_lq {K : PySem.W.Frag} {W : Wd} {H : Hp} {μ : Mu} {v : V} {d : D} {xs : List D} (ok : Ok K W H μ) (r : Rep K W v d) (h : thaw μ d = .lst xs) : ∃ a vs, v = .ref a ∧ Lq K H a vs ∧ Reps K W vs xs ∧ xs.length ≤ sizeLine := by
  cases r with
  | lst z h1 q =>
    simp [thaw] at h
    subst h
    exact ⟨_, _, rfl, same_lq ok.sub h1, q, z⟩
  | @hdl a l ha =>
    unfold thaw at h
    dsimp only at h
    cases hm : μ[l]? with
    | none => rw [hm] at h; cases h
    | some m =>
      rw [hm] at h
      cases m with
      | lst ys =>
        dsimp only at h
        split at h
        · rename_i hz
          cases h
          obtain ⟨o, ho, vs, rfl, rs⟩ := ok.cell l a _ ha hm
          exact ⟨a, vs, rfl, .inl (.inl ho), rs, le_line hz⟩
        · cases h
      | _ => cases h
  | _ => simp [thaw] at h
def bTupleX : List D → Mu → R D
  | [d], μ => match thaw μ d with
    | .lst xs => .ok (.tup xs) μ
    | .tup xs => .ok (.tup xs) μ
    | _ => .bad
  | _, _ => .bad
def bListX : List D → Mu → R D
  | [d], μ => match thaw μ d with
    | .lst xs => .ok (.lst xs) μ
    | .tup xs => .ok (.lst xs) μ
    | _ => .bad
  | _, _ => .bad
@[simp] theorem tupleX_lst (xs : List D) (μ : Mu) : bTupleX [.lst xs] μ = .ok (.tup xs) μ := of_eq_true (eq_self _)
@[simp] theorem tupleX_tup (xs : List D) (μ : Mu) : bTupleX [.tup xs] μ = .ok (.tup xs) μ := of_eq_true (eq_self _)
@[simp] theorem listX_lst (xs : List D) (μ : Mu) : bListX [.lst xs] μ = .ok (.lst xs) μ := of_eq_true (eq_self _)
@[simp] theorem listX_tup (xs : List D) (μ : Mu) : bListX [.tup xs] μ = .ok (.lst xs) μ := of_eq_true (eq_self _)
theorem tupleX_hdl {μ : Mu} {l : Nat} {xs : List D} (h : μ[l]? = some (.lst xs)) (z : xs.length ≤ 1000000) : bTupleX [.hdl l] μ = .ok (.tup xs) μ := by simp [bTupleX, thaw, h, z]
theorem listX_hdl {μ : Mu} {l : Nat} {xs : List D} (h : μ[l]? = some (.lst xs)) (z : xs.length ≤ 1000000) : bListX [.hdl l] μ = .ok (.lst xs) μ := by simp [bListX, thaw, h, z]
theorem thaw_tup {μ : Mu} {d : D} {xs : List D} (h : thaw μ d = .tup xs) : d = .tup xs := by
  cases d with
  | hdl l =>
    unfold thaw at h
    dsimp only at h
    split at h
    · split at h <;> cases h
    · cases h
  | _ => simpa [thaw] using h
section
variable {X : Cx} {E : XK}
theorem cx_tupleX : CallX X E (.type "tuple") bTupleX := callx fun W H μ ds xs Q ok r p => by
  unfold bTupleX at p
  split at p
  · cases r with
    | cons r1 r2 =>
      cases r2
      split at p
      · rename_i ys ht
        obtain ⟨a, vs, rfl, h, rs, z⟩ := thaw_lq ok r1 ht
        exact ⟨_, call_tuple_of, _, _, rfl, .inl ⟨h.sq, fun l hl => p _ _ _ (Go.new ok hl) (ok.new hl) (rep_tup ok hl z rs)⟩⟩
      · rename_i ys ht
        have e := thaw_tup ht
        subst e
        cases r1 with
        | tup z h q => exact ⟨_, call_tuple_of, _, _, rfl, .inr ⟨same_t ok.sub h, p W _ H (Go.refl _ _) ok (.tup z h q)⟩⟩
      · exact p.elim
  · exact p.elim
theorem cx_listX : CallX X E (.type "list") bListX := callx fun W H μ ds xs Q ok r p => by
  unfold bListX at p
  split at p
  · cases r with
    | cons r1 r2 =>
      cases r2
      split at p
      · rename_i ys ht
        obtain ⟨a, vs, rfl, h, rs, z⟩ := thaw_lq ok r1 ht
        exact ⟨_, call_list_of, _, _, rfl, .inl h.sq, fun l hl => p _ _ _ (Go.new ok hl) (ok.new hl) (rep_lst ok hl z rs)⟩
      · rename_i ys ht
        have e := thaw_tup ht
        subst e
        cases r1 with
        | tup z h q => exact ⟨_, call_list_of, _, _, rfl, .inr (same_t ok.sub h), fun l hl => p _ _ _ (Go.new ok hl) (ok.new hl) (rep_lst ok hl z q)⟩
      · exact p.elim
  · exact p.elim
end
end DL
/-! DL29: small plain data: its text, == and != of it. -/
namespace DL
open PySem L2 PySem.Spec PyProof.Rows
/-- numbers, texts and tuples of them, so many at each depth -/
def tm : List Nat → D → Bool
  | _, .int i => decide (i.natAbs < 10 ^ 11)
  | _, .str x => decide (x.cps.size ≤ 40) && x.cps.toList.all fun c => decide (c < 128)
  | a :: as, .tup xs => decide (xs.length ≤ a) && xs.all (tm as)
  | _, _ => false
def bulkB : List Nat → Nat
  | [] => 40
  | a :: as => 40 + a * (bulkB as + 1)
structure PyOk (n b : Nat) (p : PyData) : Prop where
  h1 : p.leavesShort 13 = true
  h2 : p.showable = true
  h3 : p.hasDict = false
  h4 : p.depth ≤ n
  h5 : p.bulk ≤ b
  h6 : p.canLay0 = true
theorem bulkB_40 : ∀ as : List Nat, 40 ≤ bulkB as
  | [] => Nat.le_refl _
  | a :: as => by unfold bulkB; omega
theorem str_leaf {x : Str} (h : (x.cps.toList.all fun c => decide (c < 128)) = true) : (PyData.str x).leavesShort 13 = true := by
  simp only [List.all_eq_true, decide_eq_true_eq] at h
  simp only [PyData.leavesShort, List.all_eq_true, decide_eq_true_eq]
  exact fun c hc => Nat.lt_trans (h c hc) (by decide)
theorem str_lay {x : Str} (h : (x.cps.toList.all fun c => decide (c < 128)) = true) : (PyData.str x).canLay0 = true := by
  simp only [List.all_eq_true, decide_eq_true_eq] at h
  simp only [PyData.canLay0, PyData.strOk]
  rw [← Array.all_toList]
  simp only [List.all_eq_true, decide_eq_true_eq]
  exact fun c hc => Nat.lt_trans (h c hc) (by decide)
theorem tm_py : ∀ (as : List Nat) (d : D), tm as d = true → ∃ p, d.py = some p ∧ PyOk as.length (bulkB as) p := by
  intro as
  induction as with
  | nil =>
    intro d h
    cases d with
    | int i =>
      have hi : i.natAbs < 10 ^ 11 := by simpa [tm] using h
      exact ⟨.int i, by simp [D.py], ⟨by simp [PyData.leavesShort]; exact PyData.shown_int_le2 (by omega) (by omega), by simp [PyData.showable]; exact lt_log (by omega), by simp [PyData.hasDict], by simp [PyData.depth], by simp [PyData.bulk], by simp [PyData.canLay0]⟩⟩
    | str x =>
      simp only [tm, Bool.and_eq_true, decide_eq_true_eq] at h
      exact ⟨.str x, by simp [D.py], ⟨str_leaf h.2, by simp [PyData.showable], by simp [PyData.hasDict], by simp [PyData.depth], by simp only [PyData.bulk]; exact h.1, str_lay h.2⟩⟩
    | _ => simp [tm] at h
  | cons a as ih =>
    intro d h
    cases d with
    | int i =>
      have hi : i.natAbs < 10 ^ 11 := by simpa [tm] using h
      exact ⟨.int i, by simp [D.py], ⟨by simp [PyData.leavesShort]; exact PyData.shown_int_le2 (by omega) (by omega), by simp [PyData.showable]; exact lt_log (by omega), by simp [PyData.hasDict], by simp [PyData.depth], by simp [PyData.bulk], by simp [PyData.canLay0]⟩⟩
    | str x =>
      simp only [tm, Bool.and_eq_true, decide_eq_true_eq] at h
      exact ⟨.str x, by simp [D.py], ⟨str_leaf h.2, by simp [PyData.showable], by simp [PyData.hasDict], by simp [PyData.depth], by simp only [PyData.bulk]; exact Nat.le_trans h.1 (bulkB_40 _), str_lay h.2⟩⟩
    | tup xs =>
      simp only [tm, Bool.and_eq_true, decide_eq_true_eq, List.all_eq_true] at h
      obtain ⟨hl, hx⟩ := h
      have key : ∀ ys : List D, (∀ y ∈ ys, tm as y = true) → ∃ ps, D.pys ys = some ps ∧ PyData.leavesShortAll 13 ps = true ∧ PyData.showableAll ps = true ∧ PyData.hasDictAll ps = false ∧ PyData.depthAll ps ≤ as.length ∧ PyData.bulkAll ps ≤ ys.length * (bulkB as + 1) ∧ PyData.canLayAll0 ps = true := by
        intro ys
        induction ys with
        | nil => exact fun _ => ⟨[], by simp [D.pys], by simp [PyData.leavesShortAll], by simp [PyData.showableAll], by simp [PyData.hasDictAll], by simp [PyData.depthAll], by simp [PyData.bulkAll], by simp [PyData.canLayAll0]⟩
        | cons y ys ihy =>
          intro hy
          obtain ⟨p, e1, q⟩ := ih y (hy y (by simp))
          obtain ⟨ps, e2, q1, q2, q3, q4, q5, q6⟩ := ihy fun z hz => hy z (List.mem_cons_of_mem _ hz)
          refine ⟨p :: ps, by simp [D.pys, e1, e2], by simp [PyData.leavesShortAll, q.h1, q1], by simp [PyData.showableAll, q.h2, q2], by simp [PyData.hasDictAll, q.h3, q3], ?_, ?_, by simp [PyData.canLayAll0, q.h6, q6]⟩
          · have := q.h4
            simp only [PyData.depthAll]
            omega
          · have := q.h5
            simp only [PyData.bulkAll, List.length_cons, Nat.add_mul]
            omega
      obtain ⟨ps, e, q1, q2, q3, q4, q5, q6⟩ := key xs hx
      refine ⟨.tuple ps, by simp [D.py, e], ⟨by simpa [PyData.leavesShort] using q1, by simpa [PyData.showable] using q2, by simpa [PyData.hasDict] using q3, by simp [PyData.depth]; exact q4, ?_, by simpa [PyData.canLay0] using q6⟩⟩
      have := Nat.mul_le_mul_right (bulkB as + 1) hl
      simp only [PyData.bulk, bulkB]
      omega
    | _ => simp [tm] at h
/-- repr of it -/
theorem tm_repr {as : List Nat} {d : D} (h : tm as d = true) (h1 : as.length ≤ 40) (h2 : bulkB as ≤ 60000) (μ : Mu) : ∃ x, bRepr [d] μ = .ok (.str x) μ := by
  obtain ⟨p, e, q⟩ := tm_py as d h
  have r := repr_short e q.h1 q.h2 q.h3 (Nat.le_trans q.h4 h1) (Nat.le_trans q.h5 h2)
  exact ⟨p.shown, by simp [bRepr, r]⟩
/-- no handle in it -/
theorem tm_closed : ∀ (as : List Nat) (d : D) (n : Nat), tm as d = true → d.closed n = true := by
  have cl : ∀ (n : Nat) (xs : List D), (∀ x ∈ xs, x.closed n = true) → D.closedL n xs = true := by
    intro n xs
    induction xs with
    | nil => exact fun _ => by simp [D.closedL]
    | cons x xs ih => exact fun h => by simp [D.closedL, h x (by simp), ih fun y hy => h y (List.mem_cons_of_mem _ hy)]
  intro as
  induction as with
  | nil => intro d n h; cases d <;> simp [tm] at h <;> simp [D.closed]
  | cons a as ih =>
    intro d n h
    cases d with
    | tup xs =>
      simp only [tm, Bool.and_eq_true, decide_eq_true_eq, List.all_eq_true] at h
      simp only [D.closed]
      exact cl n xs fun x hx => ih x n (h.2 x hx)
    | int i => simp [D.closed]
    | str x => simp [D.closed]
    | _ => simp [tm] at h
/-- == of it is = -/
theorem tm_eq : ∀ (as : List Nat) (n : Nat) (x y : D), as.length < n → tm as x = true → tm as y = true → ∃ b, eqD n x y = some b ∧ (b = true ↔ x = y) := by
  intro as
  induction as with
  | nil =>
    intro n x y hn hx hy
    obtain ⟨m, rfl⟩ : ∃ m, n = m + 1 := ⟨n - 1, by simp at hn; omega⟩
    cases x <;> simp [tm] at hx <;> cases y <;> simp [tm] at hy <;> simp [eqD, D.kd, eqV]
  | cons a as ih =>
    intro n x y hn hx hy
    obtain ⟨m, rfl⟩ : ∃ m, n = m + 1 := ⟨n - 1, by simp at hn; omega⟩
    have hm : as.length < m := by simp at hn; omega
    cases x with
    | int i => cases y <;> simp [tm] at hy <;> simp [eqD, D.kd, eqV]
    | str i => cases y <;> simp [tm] at hy <;> simp [eqD, D.kd, eqV]
    | tup xs =>
      cases y with
      | int i => exact ⟨false, by simp [eqD, D.kd], by simp⟩
      | str i => exact ⟨false, by simp [eqD, D.kd], by simp⟩
      | tup ys =>
        simp only [tm, Bool.and_eq_true, decide_eq_true_eq, List.all_eq_true] at hx hy
        have key : ∀ xs ys : List D, (∀ x ∈ xs, tm as x = true) → (∀ y ∈ ys, tm as y = true) → ∃ b, eqL (eqD m) xs ys = some b ∧ (b = true ↔ xs = ys) := by
          intro xs
          induction xs with
          | nil =>
            intro ys _ _
            cases ys with
            | nil => exact ⟨true, by simp [eqL], by simp⟩
            | cons y ys => exact ⟨false, by simp [eqL], by simp⟩
          | cons x xs ihx =>
            intro ys h1 h2
            cases ys with
            | nil => exact ⟨false, by simp [eqL], by simp⟩
            | cons y ys =>
              obtain ⟨b1, e1, i1⟩ := ih m x y hm (h1 x (by simp)) (h2 y (by simp))
              obtain ⟨b2, e2, i2⟩ := ihx ys (fun z hz => h1 z (List.mem_cons_of_mem _ hz)) fun z hz => h2 z (List.mem_cons_of_mem _ hz)
              refine ⟨b1 && b2, by simp [eqL, e1, e2], ?_⟩
              rw [Bool.and_eq_true, i1, i2, List.cons.injEq]
        obtain ⟨b, e, i⟩ := key xs ys hx.2 hy.2
        exact ⟨b, by simp [eqD, D.kd, e], by rw [i]; simp⟩
      | _ => simp [tm] at hy
    | _ => simp [tm] at hx
theorem tm_dEq {as : List Nat} {x y : D} (hx : tm as x = true) (hy : tm as y = true) (hn : as.length < 20) (μ : Mu) : ∃ b, dEq x y μ = .ok (.bl b) μ ∧ (b = true ↔ x = y) := by
  obtain ⟨b, e, i⟩ := tm_eq as 20 x y hn hx hy
  exact ⟨b, by simp [dEq, e], i⟩
theorem tm_self {as : List Nat} {x : D} (hx : tm as x = true) (hn : as.length < 20) (μ : Mu) : dEq x x μ = .ok (.bl true) μ := by
  obtain ⟨b, e, i⟩ := tm_dEq hx hx hn μ
  rw [e, i.mpr rfl]
end DL
/-! DL30: framed defs reckoned; counted loops; the laws' draws (with addX, mulX). -/
namespace DL
open PySem L2 PySem.Spec PyProof.Rows
theorem framed_ok {F : List D → Mu → R D} {ds : List D} {d : D} {μ μ1 : Mu} (hc : D.closedL 0 ds = true) (h : F ds [] = .ok d μ1) (hd : d.closed 0 = true) : framed F ds μ = .ok d μ := by
  unfold framed
  rw [if_pos hc, h]
  dsimp only
  rw [if_pos hd]
theorem framed_open {F : List D → Mu → R D} {ds : List D} {μ : Mu} (hc : D.closedL 0 ds = false) : framed F ds μ = F ds μ := by
  unfold framed
  rw [hc]
  simp
theorem trunc0 {d : D} {μ1 : Mu} (hd : d.closed 0 = true) : trunc 0 d μ1 = .ok d [] := by
  unfold trunc closedMu
  simp [hd]
/-- a framed def, by its body over no cells -/
theorem fr_ok {n : Nat} {g : FS} {ds : List D} {d : D} {μ μ1 : Mu} (hc : D.closedL 0 ds = true) (h : g (startD n ds) [] = .rt d μ1) (hd : d.closed 0 = true) : framed (callF n g) ds μ = .ok d μ := by
  refine framed_ok (μ1 := []) hc ?_ hd
  unfold callF
  rw [h]
  exact trunc0 hd
theorem open_hdl (l : Nat) (ds : List D) : D.closedL 0 (.hdl l :: ds) = false := by simp [D.closedL, D.closed]
theorem closed_of {n : Nat} : ∀ {xs : List D}, (∀ x ∈ xs, x.closed n = true) → D.closedL n xs = true
  | [], _ => by simp [D.closedL]
  | x :: xs, h => by simp [D.closedL, h x (by simp), closed_of (xs := xs) fun y hy => h y (List.mem_cons_of_mem _ hy)]
/-- a loop over numbers, counted -/
theorem for_upto {t : Tg} {b : FS} (I : Nat → En → Mu → Prop) : ∀ {n k : Nat} {ρ : En} {μ : Mu}, (∀ i, k ≤ i → i < k + n → ∀ ρ μ, I i ρ μ → ∃ ρ1 ρ2 μ2, asg t (.int (i : Int)) ρ = some ρ1 ∧ b ρ1 μ = .nx ρ2 μ2 ∧ I (i + 1) ρ2 μ2) → I k ρ μ → ∃ ρ' μ', forD t b (upto k n) ρ μ = .nx ρ' μ' ∧ I (k + n) ρ' μ'
  | 0, k, ρ, μ, _, h => ⟨ρ, μ, by simp [upto, for_nil], h⟩
  | n + 1, k, ρ, μ, hb, h => by
    obtain ⟨ρ1, ρ2, μ2, e1, e2, i2⟩ := hb k (Nat.le_refl _) (by omega) ρ μ h
    obtain ⟨ρ', μ', e, i'⟩ := for_upto (n := n) (k := k + 1) I (fun i h1 h2 ρ μ hi => hb i (by omega) (by omega) ρ μ hi) i2
    refine ⟨ρ', μ', ?_, by rw [show k + (n + 1) = k + 1 + n by omega]; exact i'⟩
    rw [upto, for_cons, e1]
    dsimp only
    rw [e2]
    exact e
/-- .. over any list, counted -/
theorem for_list {t : Tg} {b : FS} (I : Nat → En → Mu → Prop) : ∀ {xs : List D} {k : Nat} {ρ : En} {μ : Mu}, (∀ i x, xs[i]? = some x → ∀ ρ μ, I (k + i) ρ μ → ∃ ρ1 ρ2 μ2, asg t x ρ = some ρ1 ∧ b ρ1 μ = .nx ρ2 μ2 ∧ I (k + i + 1) ρ2 μ2) → I k ρ μ → ∃ ρ' μ', forD t b xs ρ μ = .nx ρ' μ' ∧ I (k + xs.length) ρ' μ'
  | [], k, ρ, μ, _, h => ⟨ρ, μ, for_nil _ _ _ _, h⟩
  | x :: xs, k, ρ, μ, hb, h => by
    obtain ⟨ρ1, ρ2, μ2, e1, e2, i2⟩ := hb 0 x rfl ρ μ h
    obtain ⟨ρ', μ', e, i'⟩ := for_list (xs := xs) (k := k + 1) I (fun i y hy ρ μ hi => by
      have := hb (i + 1) y (by simpa using hy) ρ μ (by rw [show k + (i + 1) = k + 1 + i by omega]; exact hi)
      rw [show k + (i + 1) = k + 1 + i by omega] at this
      exact this) i2
    refine ⟨ρ', μ', ?_, by rw [List.length_cons, show k + (xs.length + 1) = k + 1 + xs.length by omega]; exact i'⟩
    rw [for_cons, e1]
    dsimp only
    rw [e2]
    exact e
/-- side by side -/
inductive F2 {α β : Type} (P : α → β → Prop) : List α → List β → Prop
  | nil : F2 P [] []
  | cons {x : α} {y : β} {xs : List α} {ys : List β} : P x y → F2 P xs ys → F2 P (x :: xs) (y :: ys)
theorem F2.length {α β : Type} {P : α → β → Prop} : ∀ {xs : List α} {ys : List β}, F2 P xs ys → ys.length = xs.length
  | _, _, .nil => rfl
  | _, _, .cons _ h => by simp [h.length]
theorem F2.imp {α β : Type} {P Q : α → β → Prop} (i : ∀ x y, P x y → Q x y) : ∀ {xs : List α} {ys : List β}, F2 P xs ys → F2 Q xs ys
  | _, _, .nil => .nil
  | _, _, .cons p h => .cons (i _ _ p) (h.imp i)
theorem F2.right {α β : Type} {P : α → β → Prop} : ∀ {xs : List α} {ys : List β}, F2 P xs ys → ∀ y ∈ ys, ∃ x ∈ xs, P x y
  | _, _, .nil, _, h => by cases h
  | _, _, .cons (x := x) p t, y, h => by
    rcases List.mem_cons.mp h with rfl | h
    · exact ⟨x, by simp, p⟩
    · obtain ⟨z, hz, q⟩ := t.right y h
      exact ⟨z, List.mem_cons_of_mem _ hz, q⟩
theorem F2.eq {α : Type} : ∀ {xs ys : List α}, F2 (fun x y => y = x) xs ys → ys = xs
  | _, _, .nil => rfl
  | _, _, .cons p h => by rw [p, h.eq]
/-- a comprehension with effects on the cells: what is taken -/
theorem lc_eff {t : Tg} {ft : FT} {fe : FE} {ρ : En} (I : Mu → Prop) (P : D → D → Prop) : ∀ {xs : List D} {μ : Mu}, (∀ x ∈ xs, ∀ μ, I μ → ∃ ρ1 b μ1, asg t x ρ = some ρ1 ∧ ft ρ1 μ = .ok b μ1 ∧ I μ1 ∧ (b = true → ∃ y μ2, fe ρ1 μ1 = .ok y μ2 ∧ I μ2 ∧ P x y)) → I μ →
    ∃ ys zs μ', lcD t ft fe ρ xs μ = .ok ys μ' ∧ I μ' ∧ List.Sublist zs xs ∧ F2 P zs ys
  | [], μ, _, i => ⟨[], [], μ, by simp, i, List.Sublist.refl _, .nil⟩
  | x :: xs, μ, h, i => by
    obtain ⟨ρ1, b, μ1, e1, e2, i1, hb⟩ := h x (by simp) μ i
    cases b with
    | false =>
      obtain ⟨ys, zs, μ', e, i', s, f⟩ := lc_eff (xs := xs) I P (fun z hz => h z (List.mem_cons_of_mem _ hz)) i1
      exact ⟨ys, zs, μ', by rw [lcD, e1]; simp [e2, e], i', s.cons _, f⟩
    | true =>
      obtain ⟨y, μ2, e3, i2, p⟩ := hb rfl
      obtain ⟨ys, zs, μ', e, i', s, f⟩ := lc_eff (xs := xs) I P (fun z hz => h z (List.mem_cons_of_mem _ hz)) i2
      exact ⟨y :: ys, x :: zs, μ', by rw [lcD, e1]; simp [e2, e3, e], i', s.cons₂ _, .cons p f⟩
/-! ### the laws' draws -/
def gPoolX1 : FS := gif (dtest (dbin ltD (dvar 1) (dcallB bLen (aCons (dvar 0) aNil)))) (gasg (.nm 2) (dcallB bAbs (aCons (dbin dIx (dvar 0) (dvar 1)) aNil))) gnil
def gPoolX2 : FS := (gseq (gasg (.nm 3) (dbin modD (dbin mulX (dbin addX (dbin addX (dbin addX (dbin modD (dvar 2) (dc (.int 2147483629))) (dbin mulX (dbin mulX (dc (.int 7919)) (dvar 1)) (dvar 1))) (dbin mulX (dc (.int 31)) (dvar 1))) (dc (.int 17))) (dc (.int 48271))) (dc (.int 2147483647))))
    (gret (dcel (aCons (dbin mulX (dvar 2) (dcallB bInt (aCons (dbin geD (dvar 2) (dbin powD (dc (.int 10)) (dc (.int 18)))) aNil))) (aCons (dbin modD (dbin mulX (dvar 3) (dvar 3)) (dc (.int 2147483629))) aNil)))))
def gPoolX : FS := gseq (gasg (.nm 2) (dc (.int 0))) (gseq gPoolX1 gPoolX2)
def gTakeX : FS := (gseq (gif (dtest (dbin gtD (dbin dIx (dvar 0) (dc (.int 0))) (dc (.int 0)))) (gseq (gasg (.nm 2) (dbin modD (dbin dIx (dvar 0) (dc (.int 0))) (dvar 1)))
    (gseq (gsetix (dvar 0) (dc (.int 0)) (dbin fdivD (dbin dIx (dvar 0) (dc (.int 0))) (dvar 1)))
    (gret (dvar 2)))) gnil)
    (gseq (gsetix (dvar 0) (dc (.int 1)) (dbin modD (dbin addX (dbin mulX (dbin dIx (dvar 0) (dc (.int 1))) (dc (.int 48271))) (dc (.int 12345))) (dc (.int 2147483647))))
    (gret (dbin modD (dbin fdivD (dbin modD (dbin mulX (dbin dIx (dvar 0) (dc (.int 1))) (dbin dIx (dvar 0) (dc (.int 1)))) (dc (.int 2147483629))) (dc (.int 64))) (dvar 1)))))
theorem poolX2 (s : D) (k : Nat) (hk : k ≤ 1000) (c : Int) (μ : Mu) : ∃ a b : Int, gPoolX2 [some s, some (.int k), some (.int c), none] μ = .rt (.hdl μ.length) (μ ++ [.lst [.int a, .int b]]) ∧ 0 ≤ b ∧ b < 2147483648 := by
  have m0 := Int.emod_nonneg ((c % 2147483629 + 7919 * (k : Int) * k + 31 * k + 17) * 48271) (b := 2147483647) (by omega)
  have m1 := Int.emod_lt_of_pos ((c % 2147483629 + 7919 * (k : Int) * k + 31 * k + 17) * 48271) (b := 2147483647) (by omega)
  generalize hx : (c % 2147483629 + 7919 * (k : Int) * k + 31 * k + 17) * 48271 % 2147483647 = x at m0 m1
  have n0 := Int.emod_nonneg (x * x) (b := 2147483629) (by omega)
  have n1 := Int.emod_lt_of_pos (x * x) (b := 2147483629) (by omega)
  generalize hy : x * x % 2147483629 = y at n0 n1
  have hk2 : -18446744073709551616 < (k : Int) ∧ (k : Int) < 18446744073709551616 := by omega
  have hx2 : -18446744073709551616 < x ∧ x < 18446744073709551616 := by omega
  by_cases hc18 : (1000000000000000000 : Int) ≤ c
  · exact ⟨c, y, by simp [gPoolX2, hk2.1, hk2.2, bInt, hc18, hx, hx2.1, hx2.2, hy], n0, by omega⟩
  · exact ⟨0, y, by simp [gPoolX2, hk2.1, hk2.2, bInt, hc18, hx, hx2.1, hx2.2, hy], n0, by omega⟩
theorem poolX_ok (ns : List Int) (hl : ns.length ≤ 1000) (k : Nat) (hk : k ≤ 1000) (μ : Mu) (hμ : AllC μ) : ∃ μ', callF 4 gPoolX [.lst (ns.map .int), .int k] μ = .ok (.hdl μ.length) μ' ∧ Pool μ' μ.length ∧ ∃ m, μ' = μ ++ [m] := by
  have main : ∀ c : Int, gPoolX1 [some (.lst (ns.map .int)), some (.int k), some (.int 0), none] μ = .nx [some (.lst (ns.map .int)), some (.int k), some (.int c), none] μ →
      ∃ μ', callF 4 gPoolX [.lst (ns.map .int), .int k] μ = .ok (.hdl μ.length) μ' ∧ Pool μ' μ.length ∧ ∃ m, μ' = μ ++ [m] := by
    intro c hc
    obtain ⟨a, b, e, b0, b1⟩ := poolX2 (.lst (ns.map .int)) k hk c μ
    have body : gPoolX (startD 4 [.lst (ns.map .int), .int k]) μ = .rt (.hdl μ.length) (μ ++ [.lst [.int a, .int b]]) := by
      simp [gPoolX, startD, hc, e]
    refine ⟨μ ++ [.lst [.int a, .int b]], ?_, ⟨⟨a, b, by simp, b0, b1⟩, hμ.app fun m hm n => by rw [List.mem_singleton.mp hm]; exact pool_cl _ _ n⟩, _, rfl⟩
    rw [callF_eq _ _ _ _ _ _ body]
    simp [trunc, D.closed]
  by_cases h : k < ns.length
  · refine main (if ns[k] < 0 then -ns[k] else ns[k]) ?_
    have hk' : (k : Int) < ns.length := by omega
    have e : atI (ns.map D.int) k = some (.int ns[k]) := by simp [atI, ixN, h]
    simp [gPoolX1, bLen, lenD, seqD, hk', e]
  · refine main 0 ?_
    have hk' : ¬ (k : Int) < ns.length := by omega
    simp [gPoolX1, bLen, lenD, seqD, hk']
theorem takeX_ok {μ : Mu} {l : Nat} (h : Pool μ l) (n : Int) (hn : 0 < n ∧ n < 1073741824) : ∃ v μ', framed (callF 3 gTakeX) [.hdl l, .int n] μ = .ok (.int v) μ' ∧ 0 ≤ v ∧ v < n ∧ Pool μ' l ∧ ∃ m, μ' = μ.set l m := by
  rw [framed_open (open_hdl _ _)]
  obtain ⟨a, b, e, b0, b1⟩ := h.ex
  have hll : l < μ.length := (List.getElem?_eq_some_iff.mp e).1
  by_cases ha : 0 < a
  · have body : gTakeX (startD 3 [.hdl l, .int n]) μ = .rt (.int (a % n)) (μ.set l (.lst [.int (a / n), .int b])) := by
      simp [gTakeX, startD, ix_hdl e, ha, hn.1, hn.2, gsetix, e, ixN]
    refine ⟨_, _, (callF_eq _ _ _ _ _ _ body).trans (trunc_len (by simp) (by simp [D.closed]) (h.cl.set l (pool_cl _ _))), Int.emod_nonneg _ (by omega), Int.emod_lt_of_pos _ hn.1, ⟨⟨a / n, b, by simp [hll], b0, b1⟩, h.cl.set l (pool_cl _ _)⟩, _, rfl⟩
  · have m0 := Int.emod_nonneg (b * 48271 + 12345) (b := 2147483647) (by omega)
    have m1 := Int.emod_lt_of_pos (b * 48271 + 12345) (b := 2147483647) (by omega)
    generalize hy : (b * 48271 + 12345) % 2147483647 = y at m0 m1
    have hb2 : -18446744073709551616 < b ∧ b < 18446744073709551616 := by omega
    have hy2 : -18446744073709551616 < y ∧ y < 18446744073709551616 := by omega
    have e2 : (μ.set l (.lst [.int a, .int y]))[l]? = some (.lst [.int a, .int y]) := by simp [hll]
    have body : gTakeX (startD 3 [.hdl l, .int n]) μ = .rt (.int (y * y % 2147483629 / 64 % n)) (μ.set l (.lst [.int a, .int y])) := by
      simp [gTakeX, startD, ix_hdl e, ha, hn.1, hn.2, gsetix, e, ixN, hy, ix_hdl e2, hb2.1, hb2.2, hy2.1, hy2.2]
    refine ⟨_, _, (callF_eq _ _ _ _ _ _ body).trans (trunc_len (by simp) (by simp [D.closed]) (h.cl.set l (pool_cl _ _))), Int.emod_nonneg _ (by omega), Int.emod_lt_of_pos _ hn.1, ⟨⟨_, y, e2, m0, by omega⟩, h.cl.set l (pool_cl _ _)⟩, _, rfl⟩
/-- two memories that differ at the pool alone -/
structure Step (l : Nat) (μ μ' : Mu) : Prop where
  pool : Pool μ' l
  len : μ'.length = μ.length
  at_ : ∀ i, i ≠ l → μ'[i]? = μ[i]?
theorem Step.refl {l : Nat} {μ : Mu} (h : Pool μ l) : Step l μ μ := ⟨h, rfl, fun _ _ => rfl⟩
theorem Step.trans {l : Nat} {μ μ1 μ2 : Mu} (a : Step l μ μ1) (b : Step l μ1 μ2) : Step l μ μ2 := ⟨b.pool, b.len.trans a.len, fun i h => (b.at_ i h).trans (a.at_ i h)⟩
theorem take_step {μ : Mu} {l : Nat} (h : Pool μ l) (n : Int) (hn : 0 < n ∧ n < 1073741824) : ∃ v μ', framed (callF 3 gTakeX) [.hdl l, .int n] μ = .ok (.int v) μ' ∧ 0 ≤ v ∧ v < n ∧ Step l μ μ' := by
  obtain ⟨v, μ', e, h1, h2, p, m, rfl⟩ := takeX_ok h n hn
  exact ⟨v, _, e, h1, h2, p, by simp, fun i hi => by rw [List.getElem?_set_ne (Ne.symm hi)]⟩
/-- a def that was handed the pool gives back a datum and forgets its own cells -/
theorem call_step {n : Nat} {g : FS} {l : Nat} {ds : List D} {d : D} {μ μ1 : Mu} (h : g (startD n (.hdl l :: ds)) μ = .rt d μ1) (hd : d.closed 0 = true) (p : Pool μ1 l) (hl : l < μ.length) (hm : μ.length ≤ μ1.length) (hs : ∀ i, i < μ.length → i ≠ l → μ1[i]? = μ[i]?) (hdm : ∀ n, d.closed n = true) :
    ∃ μ', framed (callF n g) (.hdl l :: ds) μ = .ok d μ' ∧ Step l μ μ' := by
  rw [framed_open (open_hdl _ _)]
  unfold callF
  rw [h]
  dsimp only
  unfold trunc
  rw [if_pos (by rw [hdm, p.cl.mu]; rfl)]
  refine ⟨_, rfl, ⟨?_, fun m hm => p.cl m (List.mem_of_mem_take hm)⟩, by simp; omega, fun i hi => ?_⟩
  · obtain ⟨a, b, e, h1, h2⟩ := p.ex
    exact ⟨a, b, by rw [List.getElem?_take_of_lt hl]; exact e, h1, h2⟩
  · by_cases z : i < μ.length
    · rw [List.getElem?_take_of_lt z]
      exact hs i z hi
    · rw [List.getElem?_eq_none (by simp; omega), List.getElem?_eq_none (by omega)]
end DL
/-! DL31: which kind is of which. -/
namespace DL
open PySem L2
@[simp] theorem k_NoneType__bool : kitB "NoneType" "bool" = some false := by decide +kernel
@[simp] theorem k_bool__bool : kitB "bool" "bool" = some true := by decide +kernel
@[simp] theorem k_int__bool : kitB "int" "bool" = some false := by decide +kernel
@[simp] theorem k_str__bool : kitB "str" "bool" = some false := by decide +kernel
@[simp] theorem k_tuple__bool : kitB "tuple" "bool" = some false := by decide +kernel
@[simp] theorem k_list__bool : kitB "list" "bool" = some false := by decide +kernel
@[simp] theorem k_dict__bool : kitB "dict" "bool" = some false := by decide +kernel
@[simp] theorem k_NoneType__int : kitB "NoneType" "int" = some false := by decide +kernel
@[simp] theorem k_bool__int : kitB "bool" "int" = some true := by decide +kernel
@[simp] theorem k_int__int : kitB "int" "int" = some true := by decide +kernel
@[simp] theorem k_str__int : kitB "str" "int" = some false := by decide +kernel
@[simp] theorem k_tuple__int : kitB "tuple" "int" = some false := by decide +kernel
@[simp] theorem k_list__int : kitB "list" "int" = some false := by decide +kernel
@[simp] theorem k_dict__int : kitB "dict" "int" = some false := by decide +kernel
@[simp] theorem k_NoneType__tuple : kitB "NoneType" "tuple" = some false := by decide +kernel
@[simp] theorem k_bool__tuple : kitB "bool" "tuple" = some false := by decide +kernel
@[simp] theorem k_int__tuple : kitB "int" "tuple" = some false := by decide +kernel
@[simp] theorem k_str__tuple : kitB "str" "tuple" = some false := by decide +kernel
@[simp] theorem k_tuple__tuple : kitB "tuple" "tuple" = some true := by decide +kernel
@[simp] theorem k_list__tuple : kitB "list" "tuple" = some false := by decide +kernel
@[simp] theorem k_dict__tuple : kitB "dict" "tuple" = some false := by decide +kernel
@[simp] theorem k_NoneType__list : kitB "NoneType" "list" = some false := by decide +kernel
@[simp] theorem k_bool__list : kitB "bool" "list" = some false := by decide +kernel
@[simp] theorem k_int__list : kitB "int" "list" = some false := by decide +kernel
@[simp] theorem k_str__list : kitB "str" "list" = some false := by decide +kernel
@[simp] theorem k_tuple__list : kitB "tuple" "list" = some false := by decide +kernel
@[simp] theorem k_list__list : kitB "list" "list" = some true := by decide +kernel
@[simp] theorem k_dict__list : kitB "dict" "list" = some false := by decide +kernel
@[simp] theorem k_NoneType__dict : kitB "NoneType" "dict" = some false := by decide +kernel
@[simp] theorem k_bool__dict : kitB "bool" "dict" = some false := by decide +kernel
@[simp] theorem k_int__dict : kitB "int" "dict" = some false := by decide +kernel
@[simp] theorem k_str__dict : kitB "str" "dict" = some false := by decide +kernel
@[simp] theorem k_tuple__dict : kitB "tuple" "dict" = some false := by decide +kernel
@[simp] theorem k_list__dict : kitB "list" "dict" = some false := by decide +kernel
@[simp] theorem k_dict__dict : kitB "dict" "dict" = some true := by decide +kernel
/-- it is true, whatever cells there are -/
def isTrue : R D → Bool
  | .ok (.bl b) _ => b
  | _ => false
theorem fr_true {F : List D → Mu → R D} {ds : List D} (hc : D.closedL 0 ds = true) (h : isTrue (framed F ds []) = true) (μ : Mu) : framed F ds μ = .ok (.bl true) μ := by
  cases hF : F ds [] with
  | ok d μ1 =>
    by_cases cd : d.closed 0 = true
    · rw [framed_ok (μ := []) hc hF cd] at h
      cases d <;> simp [isTrue] at h
      subst h
      exact framed_ok hc hF (by simp [D.closed])
    · unfold framed at h
      rw [if_pos hc, hF] at h
      dsimp only at h
      rw [if_neg cd] at h
      cases d <;> simp [isTrue] at h
      exact absurd (by simp [D.closed]) cd
  | ex c fs μ1 =>
    unfold framed at h
    rw [if_pos hc, hF] at h
    dsimp only at h
    split at h <;> simp [isTrue, hF] at h
  | bad =>
    unfold framed at h
    rw [if_pos hc, hF] at h
    simp [isTrue] at h
def okT (F : List D → Mu → R D) (ds : List D) : Bool := D.closedL 0 ds && isTrue (F ds [])
theorem okT_fr {F : List D → Mu → R D} {ds : List D} (h : okT (framed F) ds = true) (μ : Mu) : framed F ds μ = .ok (.bl true) μ := by
  unfold okT at h
  rw [Bool.and_eq_true] at h
  exact fr_true h.1 h.2 μ
end DL
namespace DL02
open PySem PySem.Spec PyProof.Rows L2 DL
/-! the text -/
def topS (i : Nat) : Stmt := PySem.Challenge.pw_wholeparcels_k02_parcels_made_and_told.main.body.getD i (.Pass ⟨0, 0, 0, 0⟩)
def clsS (i j : Nat) : Stmt := match topS i with
  | .ClassDef _ _ _ b _ _ _ _ _ _ _ => b.getD j (.Pass ⟨0, 0, 0, 0⟩)
  | s => s
abbrev s_Parcel_eq : Stmt := clsS 36 12
theorem sc_Parcel_eq : FnScope ["self", "other"] ["self", "other"] (defScope s_Parcel_eq) := ⟨rfl, rfl, rfl, by decide +kernel, rfl, by decide +kernel, by decide +kernel⟩
abbrev s_is_name : Stmt := topS 9
theorem sc_is_name : FnScope ["thing", "sign"] ["thing"] (defScope s_is_name) := ⟨rfl, rfl, rfl, by decide +kernel, rfl, by decide +kernel, by decide +kernel⟩
abbrev s_is_path : Stmt := topS 10
theorem sc_is_path : FnScope ["thing", "names", "one"] ["thing"] (defScope s_is_path) := ⟨rfl, rfl, rfl, by decide +kernel, rfl, by decide +kernel, by decide +kernel⟩
abbrev s_is_tuple : Stmt := topS 20
theorem sc_is_tuple : FnScope ["thing", "many"] ["thing", "many"] (defScope s_is_tuple) := ⟨rfl, rfl, rfl, by decide +kernel, rfl, by decide +kernel, by decide +kernel⟩
abbrev s_is_aside : Stmt := topS 28
theorem sc_is_aside : FnScope ["thing"] ["thing"] (defScope s_is_aside) := ⟨rfl, rfl, rfl, by decide +kernel, rfl, by decide +kernel, by decide +kernel⟩
abbrev s_is_whole : Stmt := topS 7
theorem sc_is_whole : FnScope ["thing"] ["thing"] (defScope s_is_whole) := ⟨rfl, rfl, rfl, by decide +kernel, rfl, by decide +kernel, by decide +kernel⟩
abbrev s_is_from : Stmt := topS 8
theorem sc_is_from : FnScope ["thing", "least", "most"] ["thing", "least", "most"] (defScope s_is_from) := ⟨rfl, rfl, rfl, by decide +kernel, rfl, by decide +kernel, by decide +kernel⟩
abbrev s_is_choice : Stmt := topS 29
theorem sc_is_choice : FnScope ["thing"] ["thing"] (defScope s_is_choice) := ⟨rfl, rfl, rfl, by decide +kernel, rfl, by decide +kernel, by decide +kernel⟩
abbrev s_is_edition : Stmt := topS 18
theorem sc_is_edition : FnScope ["thing"] ["thing"] (defScope s_is_edition) := ⟨rfl, rfl, rfl, by decide +kernel, rfl, by decide +kernel, by decide +kernel⟩
abbrev s_is_clash : Stmt := topS 26
theorem sc_is_clash : FnScope ["thing"] ["thing"] (defScope s_is_clash) := ⟨rfl, rfl, rfl, by decide +kernel, rfl, by decide +kernel, by decide +kernel⟩
abbrev s_is_deed : Stmt := topS 30
theorem sc_is_deed : FnScope ["thing"] ["thing"] (defScope s_is_deed) := ⟨rfl, rfl, rfl, by decide +kernel, rfl, by decide +kernel, by decide +kernel⟩
abbrev s_is_worth : Stmt := topS 19
theorem sc_is_worth : FnScope ["thing"] ["thing"] (defScope s_is_worth) := ⟨rfl, rfl, rfl, by decide +kernel, rfl, by decide +kernel, by decide +kernel⟩
abbrev s_is_file : Stmt := topS 27
theorem sc_is_file : FnScope ["thing"] ["thing"] (defScope s_is_file) := ⟨rfl, rfl, rfl, by decide +kernel, rfl, by decide +kernel, by decide +kernel⟩
abbrev s_is_option : Stmt := topS 24
theorem sc_is_option : FnScope ["thing"] ["thing"] (defScope s_is_option) := ⟨rfl, rfl, rfl, by decide +kernel, rfl, by decide +kernel, by decide +kernel⟩
abbrev s_are_all : Stmt := topS 21
theorem sc_are_all : FnScope ["thing", "most", "fits", "one"] ["thing", "most", "fits"] (defScope s_are_all) := ⟨rfl, rfl, rfl, by decide +kernel, rfl, by decide +kernel, by decide +kernel⟩
abbrev s_heads_of : Stmt := topS 23
theorem sc_heads_of : FnScope ["some", "one"] ["some"] (defScope s_heads_of) := ⟨rfl, rfl, rfl, by decide +kernel, rfl, by decide +kernel, by decide +kernel⟩
abbrev s_is_need : Stmt := topS 25
theorem sc_is_need : FnScope ["thing"] ["thing"] (defScope s_is_need) := ⟨rfl, rfl, rfl, by decide +kernel, rfl, by decide +kernel, by decide +kernel⟩
abbrev s_rise : Stmt := topS 22
theorem sc_rise : FnScope ["some", "one", "other"] ["some"] (defScope s_rise) := ⟨rfl, rfl, rfl, by decide +kernel, rfl, by decide +kernel, by decide +kernel⟩
abbrev s_are_rising : Stmt := topS 32
theorem sc_are_rising : FnScope ["thing", "most", "fits"] ["thing", "most", "fits"] (defScope s_are_rising) := ⟨rfl, rfl, rfl, by decide +kernel, rfl, by decide +kernel, by decide +kernel⟩
abbrev s_are_asides : Stmt := topS 33
theorem sc_are_asides : FnScope ["thing", "files", "settings", "paths", "others", "path", "other"] ["thing", "files", "settings"] (defScope s_are_asides) := ⟨rfl, rfl, rfl, by decide +kernel, rfl, by decide +kernel, by decide +kernel⟩
abbrev s_are_calls : Stmt := topS 35
theorem sc_are_calls : FnScope ["thing"] ["thing"] (defScope s_are_calls) := ⟨rfl, rfl, rfl, by decide +kernel, rfl, by decide +kernel, by decide +kernel⟩
abbrev s_are_choices : Stmt := topS 34
theorem sc_are_choices : FnScope ["thing", "files", "settings", "path", "target", "rank"] ["thing", "files", "settings"] (defScope s_are_choices) := ⟨rfl, rfl, rfl, by decide +kernel, rfl, by decide +kernel, by decide +kernel⟩
abbrev s_are_needs : Stmt := topS 31
theorem sc_are_needs : FnScope ["name", "thing", "need"] ["name", "thing"] (defScope s_are_needs) := ⟨rfl, rfl, rfl, by decide +kernel, rfl, by decide +kernel, by decide +kernel⟩
abbrev s_Parcel_init : Stmt := clsS 36 0
theorem sc_Parcel_init : FnScope ["self", "name", "edition", "needs", "ahead", "clashes", "files", "settings", "asides", "choices", "calls", "deeds", "path"] ["self", "name", "edition", "needs", "ahead", "clashes", "files", "settings", "asides", "choices", "calls", "deeds"] (defScope s_Parcel_init) := ⟨rfl, rfl, rfl, by decide +kernel, rfl, by decide +kernel, by decide +kernel⟩
abbrev s_law_great : Stmt := topS 46
theorem sc_law_great : FnScope ["_law_paths", "_law_others", "_law_need", "_law_filed", "_law_tuned", "_law_own", "_law_path"] [] (defScope s_law_great) := ⟨rfl, rfl, rfl, by decide +kernel, rfl, by decide +kernel, by decide +kernel⟩
abbrev s_law_made : Stmt := topS 43
theorem sc_law_made : FnScope ["_law_own"] ["_law_own"] (defScope s_law_made) := ⟨rfl, rfl, rfl, by decide +kernel, rfl, by decide +kernel, by decide +kernel⟩
abbrev s_law_pool : Stmt := topS 38
theorem sc_law_pool : FnScope ["_law_script", "_law_k", "_law_cell", "_law_mixed"] ["_law_script", "_law_k"] (defScope s_law_pool) := ⟨rfl, rfl, rfl, by decide +kernel, rfl, by decide +kernel, by decide +kernel⟩
abbrev s_Parcel_repr : Stmt := clsS 36 14
theorem sc_Parcel_repr : FnScope ["self"] ["self"] (defScope s_Parcel_repr) := ⟨rfl, rfl, rfl, by decide +kernel, rfl, by decide +kernel, by decide +kernel⟩
abbrev s_Parcel_str : Stmt := clsS 36 13
theorem sc_Parcel_str : FnScope ["self"] ["self"] (defScope s_Parcel_str) := ⟨rfl, rfl, rfl, by decide +kernel, rfl, by decide +kernel, by decide +kernel⟩
abbrev s_Parcel_ahead : Stmt := clsS 36 4
theorem sc_Parcel_ahead : FnScope ["self"] ["self"] (defScope s_Parcel_ahead) := ⟨rfl, rfl, rfl, by decide +kernel, rfl, by decide +kernel, by decide +kernel⟩
abbrev s_Parcel_asides : Stmt := clsS 36 8
theorem sc_Parcel_asides : FnScope ["self"] ["self"] (defScope s_Parcel_asides) := ⟨rfl, rfl, rfl, by decide +kernel, rfl, by decide +kernel, by decide +kernel⟩
abbrev s_Parcel_called : Stmt := clsS 36 1
theorem sc_Parcel_called : FnScope ["self"] ["self"] (defScope s_Parcel_called) := ⟨rfl, rfl, rfl, by decide +kernel, rfl, by decide +kernel, by decide +kernel⟩
abbrev s_Parcel_calls : Stmt := clsS 36 10
theorem sc_Parcel_calls : FnScope ["self"] ["self"] (defScope s_Parcel_calls) := ⟨rfl, rfl, rfl, by decide +kernel, rfl, by decide +kernel, by decide +kernel⟩
abbrev s_Parcel_choices : Stmt := clsS 36 9
theorem sc_Parcel_choices : FnScope ["self"] ["self"] (defScope s_Parcel_choices) := ⟨rfl, rfl, rfl, by decide +kernel, rfl, by decide +kernel, by decide +kernel⟩
abbrev s_Parcel_clashes : Stmt := clsS 36 5
theorem sc_Parcel_clashes : FnScope ["self"] ["self"] (defScope s_Parcel_clashes) := ⟨rfl, rfl, rfl, by decide +kernel, rfl, by decide +kernel, by decide +kernel⟩
abbrev s_Parcel_deeds : Stmt := clsS 36 11
theorem sc_Parcel_deeds : FnScope ["self"] ["self"] (defScope s_Parcel_deeds) := ⟨rfl, rfl, rfl, by decide +kernel, rfl, by decide +kernel, by decide +kernel⟩
abbrev s_Parcel_edition : Stmt := clsS 36 2
theorem sc_Parcel_edition : FnScope ["self"] ["self"] (defScope s_Parcel_edition) := ⟨rfl, rfl, rfl, by decide +kernel, rfl, by decide +kernel, by decide +kernel⟩
abbrev s_Parcel_files : Stmt := clsS 36 6
theorem sc_Parcel_files : FnScope ["self"] ["self"] (defScope s_Parcel_files) := ⟨rfl, rfl, rfl, by decide +kernel, rfl, by decide +kernel, by decide +kernel⟩
abbrev s_Parcel_needs : Stmt := clsS 36 3
theorem sc_Parcel_needs : FnScope ["self"] ["self"] (defScope s_Parcel_needs) := ⟨rfl, rfl, rfl, by decide +kernel, rfl, by decide +kernel, by decide +kernel⟩
abbrev s_Parcel_settings : Stmt := clsS 36 7
theorem sc_Parcel_settings : FnScope ["self"] ["self"] (defScope s_Parcel_settings) := ⟨rfl, rfl, rfl, by decide +kernel, rfl, by decide +kernel, by decide +kernel⟩
abbrev s_law_parts : Stmt := topS 44
theorem sc_law_parts : FnScope ["_law_one", "_law_found"] ["_law_one"] (defScope s_law_parts) := ⟨rfl, rfl, rfl, by decide +kernel, rfl, by decide +kernel, by decide +kernel⟩
abbrev s_law_right : Stmt := topS 45
theorem sc_law_right : FnScope ["_law_own", "_law_one", "_law_turn", "_law_thing"] ["_law_own"] (defScope s_law_right) := ⟨rfl, rfl, rfl, by decide +kernel, rfl, by decide +kernel, by decide +kernel⟩
abbrev s_law_take : Stmt := topS 39
theorem sc_law_take : FnScope ["_law_pool_here", "_law_many", "_law_found"] ["_law_pool_here", "_law_many"] (defScope s_law_take) := ⟨rfl, rfl, rfl, by decide +kernel, rfl, by decide +kernel, by decide +kernel⟩
abbrev s_law_needs : Stmt := topS 40
theorem sc_law_needs : FnScope ["_law_pool_here", "_law_who", "_law_every", "_law_many", "_law_found", "_law_turn", "_law_others", "_law_at", "_law_some", "_law_one"] ["_law_pool_here", "_law_who", "_law_every", "_law_many"] (defScope s_law_needs) := ⟨rfl, rfl, rfl, by decide +kernel, rfl, by decide +kernel, by decide +kernel⟩
abbrev s_law_rising : Stmt := topS 41
theorem sc_law_rising : FnScope ["_law_pool_here", "_law_menu", "_law_many", "_law_one"] ["_law_pool_here", "_law_menu", "_law_many"] (defScope s_law_rising) := ⟨rfl, rfl, rfl, by decide +kernel, rfl, by decide +kernel, by decide +kernel⟩
abbrev s_law_spec : Stmt := topS 42
theorem sc_law_spec : FnScope ["_law_pool_here", "_law_who", "_law_every", "_law_wants", "_law_firsts", "_law_rival", "_law_bars", "_law_own", "_law_brought", "_law_kept", "_law_led", "_law_lines", "_law_picks", "_law_told", "_law_acts", "_law_done", "_law_filed", "_law_tuned", "_law_year", "_law_one", "_law_other"] ["_law_pool_here", "_law_who", "_law_every"] (defScope s_law_spec) := ⟨rfl, rfl, rfl, by decide +kernel, rfl, by decide +kernel, by decide +kernel⟩
abbrev s_law : Stmt := topS 47
theorem sc_law : FnScope ["_law_script", "_law_bare", "_law_k", "_law_pool_here", "_law_every", "_law_own", "_law_other", "_law_at", "_law_filed", "_law_tuned", "_law_bent", "_law_part", "_law_path", "_law_worth"] ["_law_script"] (defScope s_law) := ⟨rfl, rfl, rfl, by decide +kernel, rfl, by decide +kernel, by decide +kernel⟩
/-! names as numbers -/
abbrev cC_Parcel : Nat := 88379461166444
theorem nC_Parcel : nmC cC_Parcel = "Parcel" := by decide +kernel
abbrev cv_is_clash : Nat := 7598521876928885608
theorem nv_is_clash : nmC cv_is_clash = "is_clash" := by decide +kernel
abbrev cv_is_file : Nat := 29681726131891301
theorem nv_is_file : nmC cv_is_file = "is_file" := by decide +kernel
abbrev cv_is_deed : Nat := 29681726098072932
theorem nv_is_deed : nmC cv_is_deed = "is_deed" := by decide +kernel
abbrev cv_is_name : Nat := 29681726265584997
theorem nv_is_name : nmC cv_is_name = "is_name" := by decide +kernel
abbrev cv_is_choice : Nat := 1945221600476849070949
theorem nv_is_choice : nmC cv_is_choice = "is_choice" := by decide +kernel
abbrev cv_is_aside : Nat := 7598521868456911973
theorem nv_is_aside : nmC cv_is_aside = "is_aside" := by decide +kernel
abbrev cv_is_need : Nat := 29681726265845092
theorem nv_is_need : nmC cv_is_need = "is_need" := by decide +kernel
abbrev cv_is_option : Nat := 1945221613705432231790
theorem nv_is_option : nmC cv_is_option = "is_option" := by decide +kernel
def isAll : List Nat := [cC_Parcel]
def yes_Parcel : List Ty := [.own cC_Parcel]
def no_Parcel : List Ty := basicT ++ []
def right_Parcel : List Ty := rightT [cC_Parcel]
/-! what the defs are worth -/
def kb_b_is_from_1_most {α : Type} (us mv ws : List α) : List α := (pk us 0 (pk mv 0 (pk ws 0 [])))
def K_b_is_from_1_most (ds es : List D) : List D := kb_b_is_from_1_most ds [.int 0] es
def kb_b_is_from_1_least_most {α : Type} (us mv ws : List α) : List α := (pk us 0 (pk ws 0 (pk ws 1 [])))
def K_b_is_from_1_least_most (ds es : List D) : List D := kb_b_is_from_1_least_most ds [] es
def kb_b_Parcel_init_3_needs_ahead_clashes_files_settings_asides_choices_calls_deeds {α : Type} (us mv ws : List α) : List α := (pk us 0 (pk us 1 (pk us 2 (pk ws 0 (pk ws 1 (pk ws 2 (pk ws 3 (pk ws 4 (pk ws 5 (pk ws 6 (pk ws 7 (pk ws 8 []))))))))))))
def K_b_Parcel_init_3_needs_ahead_clashes_files_settings_asides_choices_calls_deeds (ds es : List D) : List D := kb_b_Parcel_init_3_needs_ahead_clashes_files_settings_asides_choices_calls_deeds ds [] es
def g_Parcel_eq : FS := (gseq (gif (tnot (dtest (dcallB (bIsiO (.glo cC_Parcel) isAll (ktL yes_Parcel no_Parcel)) (aCons (dvar 1) (aCons (dc (.glo cC_Parcel)) aNil))))) (gret (dc (.bl false))) gnil)
    (gseq (gif (tor (dtest (dbin dNeX (dat [cC_Parcel] "own_name" (dvar 0)) (dat [cC_Parcel] "own_name" (dvar 1)))) (dtest (dbin dNeX (dat [cC_Parcel] "own_edition" (dvar 0)) (dat [cC_Parcel] "own_edition" (dvar 1))))) (gret (dc (.bl false))) gnil)
    (gret (dbin dEq (dat [cC_Parcel] "own_parts" (dvar 0)) (dat [cC_Parcel] "own_parts" (dvar 1))))))
def F_Parcel_eq : List D → Mu → R D := framed <| callF 2 g_Parcel_eq
def g_is_name : FS := (gret (dand (dcallB bIsi (aCons (dvar 0) (aCons (dc (.cst (.ty "str"))) aNil))) (dand (dchain leD leD (dc (.int 1)) (dcallB bLen (aCons (dvar 0) aNil)) (dc (.int 8))) (dcallB bAll (aCons (dlc (itA (dvar 0)) [1] (.nm 1) tyes (dbin dIn (dvar 1) (dc (.str "abcdefghijklmnopqrstuvwxyz")))) aNil)))))
def F_is_name : List D → Mu → R D := framed <| callF 2 g_is_name
def g_is_path : FS := (gseq (gif (tnot (dtest (dcallB bIsi (aCons (dvar 0) (aCons (dc (.cst (.ty "str"))) aNil))))) (gret (dc (.bl false))) gnil)
    (gseq (gasg (.nm 1) (dbm "str" mSplit (dvar 0) (aCons (dc (.str "/")) aNil)))
    (gret (dand (dbin leD (dcallB bLen (aCons (dvar 1) aNil)) (dc (.int 3))) (dcallB bAll (aCons (dlc (itA (dvar 1)) [2] (.nm 2) tyes (dcall F_is_name [] (aCons (dvar 2) aNil))) aNil))))))
def F_is_path : List D → Mu → R D := framed <| callF 3 g_is_path
def g_is_tuple : FS := (gret (dand (dcallB bIsi (aCons (dvar 0) (aCons (dc (.cst (.ty "tuple"))) aNil))) (dbin dEq (dcallB bLen (aCons (dvar 0) aNil)) (dvar 1))))
def F_is_tuple : List D → Mu → R D := framed <| callF 2 g_is_tuple
def g_is_aside : FS := (gret (dand (dcall F_is_tuple [] (aCons (dvar 0) (aCons (dc (.int 2)) aNil))) (dand (dcall F_is_path [] (aCons (dbin dIx (dvar 0) (dc (.int 0))) aNil)) (dcall F_is_path [] (aCons (dbin dIx (dvar 0) (dc (.int 1))) aNil)))))
def F_is_aside : List D → Mu → R D := framed <| callF 1 g_is_aside
def g_is_whole : FS := (gret (dand (dcallB bIsi (aCons (dvar 0) (aCons (dc (.cst (.ty "int"))) aNil))) (dnot (dcallB bIsi (aCons (dvar 0) (aCons (dc (.cst (.ty "bool"))) aNil))))))
def F_is_whole : List D → Mu → R D := framed <| callF 1 g_is_whole
def g_is_from : FS := (gret (dand (dcall F_is_whole [] (aCons (dvar 0) aNil)) (dchain leD leD (dvar 1) (dvar 0) (dvar 2))))
def F_is_from : List D → Mu → R D := framed <| callF 3 g_is_from
def g_is_choice : FS := (gret (dand (dcall F_is_tuple [] (aCons (dvar 0) (aCons (dc (.int 3)) aNil))) (dand (dcall F_is_path [] (aCons (dbin dIx (dvar 0) (dc (.int 0))) aNil)) (dand (dcall F_is_path [] (aCons (dbin dIx (dvar 0) (dc (.int 1))) aNil)) (dcallK F_is_from K_b_is_from_1_most (aCons (dbin dIx (dvar 0) (dc (.int 2))) aNil) (aCons (dc (.int 99)) aNil))))))
def F_is_choice : List D → Mu → R D := framed <| callF 1 g_is_choice
def g_is_edition : FS := (gret (dcallK F_is_from K_b_is_from_1_least_most (aCons (dvar 0) aNil) (aCons (dc (.int 1)) (aCons (dc (.int 999)) aNil))))
def F_is_edition : List D → Mu → R D := framed <| callF 1 g_is_edition
def g_is_clash : FS := (gseq (gif (tor (tnot (dtest (dcall F_is_tuple [] (aCons (dvar 0) (aCons (dc (.int 3)) aNil))))) (tnot (dtest (dcall F_is_name [] (aCons (dbin dIx (dvar 0) (dc (.int 0))) aNil))))) (gret (dc (.bl false))) gnil)
    (gret (dand (dcall F_is_edition [] (aCons (dbin dIx (dvar 0) (dc (.int 1))) aNil)) (dand (dcall F_is_edition [] (aCons (dbin dIx (dvar 0) (dc (.int 2))) aNil)) (dbin leD (dbin dIx (dvar 0) (dc (.int 1))) (dbin dIx (dvar 0) (dc (.int 2))))))))
def F_is_clash : List D → Mu → R D := framed <| callF 1 g_is_clash
def g_is_deed : FS := (gseq (gif (tor (tnot (dtest (dcall F_is_tuple [] (aCons (dvar 0) (aCons (dc (.int 3)) aNil))))) (tor (tnot (dtest (dcallB bIsi (aCons (dbin dIx (dvar 0) (dc (.int 0))) (aCons (dc (.cst (.ty "str"))) aNil))))) (dtest (dbin dNotIn (dbin dIx (dvar 0) (dc (.int 0))) (dc (.tup [(.str "ahead put"), (.str "behind set"), (.str "ahead loose")])))))) (gret (dc (.bl false))) gnil)
    (gret (dand (dcall F_is_name [] (aCons (dbin dIx (dvar 0) (dc (.int 1))) aNil)) (dcallK F_is_from K_b_is_from_1_least_most (aCons (dbin dIx (dvar 0) (dc (.int 2))) aNil) (aCons (dneg (dc (.int 99))) (aCons (dc (.int 99)) aNil))))))
def F_is_deed : List D → Mu → R D := framed <| callF 1 g_is_deed
def g_is_worth : FS := (gret (dcallK F_is_from K_b_is_from_1_most (aCons (dvar 0) aNil) (aCons (dc (.int 1000000000)) aNil)))
def F_is_worth : List D → Mu → R D := framed <| callF 1 g_is_worth
def g_is_file : FS := (gret (dand (dcall F_is_tuple [] (aCons (dvar 0) (aCons (dc (.int 2)) aNil))) (dand (dcall F_is_path [] (aCons (dbin dIx (dvar 0) (dc (.int 0))) aNil)) (dcall F_is_worth [] (aCons (dbin dIx (dvar 0) (dc (.int 1))) aNil)))))
def F_is_file : List D → Mu → R D := framed <| callF 1 g_is_file
def g_is_option : FS := (gret (dand (dcall F_is_tuple [] (aCons (dvar 0) (aCons (dc (.int 2)) aNil))) (dand (dcall F_is_name [] (aCons (dbin dIx (dvar 0) (dc (.int 0))) aNil)) (dcall F_is_edition [] (aCons (dbin dIx (dvar 0) (dc (.int 1))) aNil)))))
def F_is_option : List D → Mu → R D := framed <| callF 1 g_is_option
def g_are_all_v1 : FS := (gret (dand (dcallB bIsi (aCons (dvar 0) (aCons (dc (.cst (.ty "tuple"))) aNil))) (dand (dbin leD (dcallB bLen (aCons (dvar 0) aNil)) (dvar 1)) (dcallB bAll (aCons (dlc (itA (dvar 0)) [3] (.nm 3) tyes (dchoose (isFn 2 cv_is_option) (dcallL 2 cv_is_option F_is_option [] (aCons (dvar 3) aNil)) dbad)) aNil)))))
def F_are_all_v1 : List D → Mu → R D := framed <| callF 4 g_are_all_v1
def g_heads_of : FS := (gret (dlc (itA (dvar 0)) [1] (.nm 1) tyes (dbin dIx (dvar 1) (dc (.int 0)))))
def F_heads_of : List D → Mu → R D := framed <| callF 2 g_heads_of
def g_is_need : FS := (gseq (gif (tor (tnot (dtest (dcall F_are_all_v1 [] (aCons (dvar 0) (aCons (dc (.int 3)) (aCons (dc (dfn cv_is_option)) aNil)))))) (dtest (dbin dEq (dvar 0) (dtup aNil)))) (gret (dc (.bl false))) gnil)
    (gret (dbin dEq (dlensetX (dcall F_heads_of [] (aCons (dvar 0) aNil))) (dcallB bLen (aCons (dvar 0) aNil)))))
def F_is_need : List D → Mu → R D := framed <| callF 1 g_is_need
def g_are_all_v2 : FS := (gret (dand (dcallB bIsi (aCons (dvar 0) (aCons (dc (.cst (.ty "tuple"))) aNil))) (dand (dbin leD (dcallB bLen (aCons (dvar 0) aNil)) (dvar 1)) (dcallB bAll (aCons (dlc (itA (dvar 0)) [3] (.nm 3) tyes (dchoose (isFn 2 cv_is_need) (dcallL 2 cv_is_need F_is_need [] (aCons (dvar 3) aNil)) (dchoose (isFn 2 cv_is_clash) (dcallL 2 cv_is_clash F_is_clash [] (aCons (dvar 3) aNil)) (dchoose (isFn 2 cv_is_file) (dcallL 2 cv_is_file F_is_file [] (aCons (dvar 3) aNil)) (dchoose (isFn 2 cv_is_aside) (dcallL 2 cv_is_aside F_is_aside [] (aCons (dvar 3) aNil)) (dchoose (isFn 2 cv_is_choice) (dcallL 2 cv_is_choice F_is_choice [] (aCons (dvar 3) aNil)) (dchoose (isFn 2 cv_is_name) (dcallL 2 cv_is_name F_is_name [] (aCons (dvar 3) aNil)) (dchoose (isFn 2 cv_is_deed) (dcallL 2 cv_is_deed F_is_deed [] (aCons (dvar 3) aNil)) dbad)))))))) aNil)))))
def F_are_all_v2 : List D → Mu → R D := framed <| callF 4 g_are_all_v2
def g_rise : FS := (gret (dcallB bAll (aCons (dlc (itZ (aCons (dvar 0) (aCons (dsl (dvar 0) (osome (dc (.int 1))) onone) aNil))) [1, 2] (.tp [(.nm 1), (.nm 2)]) tyes (dbin ltD (dvar 1) (dvar 2))) aNil)))
def F_rise : List D → Mu → R D := framed <| callF 3 g_rise
def g_are_rising : FS := (gret (dand (dcall F_are_all_v2 [] (aCons (dvar 0) (aCons (dvar 1) (aCons (dvar 2) aNil)))) (dcall F_rise [] (aCons (dcall F_heads_of [] (aCons (dvar 0) aNil)) aNil))))
def F_are_rising : List D → Mu → R D := framed <| callF 3 g_are_rising
def g_are_asides : FS := (gseq (gif (tnot (dtest (dcall F_are_rising [] (aCons (dvar 0) (aCons (dc (.int 3)) (aCons (dc (dfn cv_is_aside)) aNil)))))) (gret (dc (.bl false))) gnil)
    (gseq (gasg (.nm 3) (dcall F_heads_of [] (aCons (dvar 0) aNil)))
    (gseq (gasg (.nm 4) (dlc (itA (dvar 0)) [5, 6] (.tp [(.nm 5), (.nm 6)]) tyes (dvar 6)))
    (gseq (gif (tor (dtest (dbin dNeX (dlensetX (dvar 4)) (dcallB bLen (aCons (dvar 4) aNil)))) (dtest (dcallB bAny (aCons (dlc (itA (dvar 3)) [5] (.nm 5) tyes (dbin dIn (dvar 5) (dcall F_heads_of [] (aCons (dvar 2) aNil)))) aNil)))) (gret (dc (.bl false))) gnil)
    (gret (dnot (dcallB bAny (aCons (dlc (itA (dvar 4)) [6] (.nm 6) tyes (dbin dIn (dvar 6) (dbin addX (dbin addX (dvar 3) (dcall F_heads_of [] (aCons (dvar 1) aNil))) (dcall F_heads_of [] (aCons (dvar 2) aNil))))) aNil))))))))
def F_are_asides : List D → Mu → R D := framed <| callF 7 g_are_asides
def g_are_calls : FS := (gret (dand (dcall F_are_all_v2 [] (aCons (dvar 0) (aCons (dc (.int 4)) (aCons (dc (dfn cv_is_name)) aNil)))) (dcall F_rise [] (aCons (dvar 0) aNil))))
def F_are_calls : List D → Mu → R D := framed <| callF 1 g_are_calls
def g_are_choices : FS := (gseq (gif (tnot (dtest (dcall F_are_rising [] (aCons (dvar 0) (aCons (dc (.int 3)) (aCons (dc (dfn cv_is_choice)) aNil)))))) (gret (dc (.bl false))) gnil)
    (gseq (gif (dtest (dcallB bAny (aCons (dlc (itA (dcall F_heads_of [] (aCons (dvar 0) aNil))) [3] (.nm 3) tyes (dbin dIn (dvar 3) (dbin addX (dcall F_heads_of [] (aCons (dvar 1) aNil)) (dcall F_heads_of [] (aCons (dvar 2) aNil))))) aNil))) (gret (dc (.bl false))) gnil)
    (gret (dcallB bAll (aCons (dlc (itA (dvar 0)) [3, 4, 5] (.tp [(.nm 3), (.nm 4), (.nm 5)]) tyes (dbin dIn (dvar 4) (dcall F_heads_of [] (aCons (dvar 1) aNil)))) aNil)))))
def F_are_choices : List D → Mu → R D := framed <| callF 6 g_are_choices
def g_are_needs : FS := (gret (dand (dcall F_are_all_v2 [] (aCons (dvar 1) (aCons (dc (.int 4)) (aCons (dc (dfn cv_is_need)) aNil)))) (dnot (dcallB bAny (aCons (dlc (itA (dvar 1)) [2] (.nm 2) tyes (dbin dIn (dvar 0) (dcall F_heads_of [] (aCons (dvar 2) aNil)))) aNil)))))
def F_are_needs : List D → Mu → R D := framed <| callF 3 g_are_needs
def g_Parcel_init : FS := (gseq (gif (tnot (dtest (dcall F_is_name [] (aCons (dvar 1) aNil)))) gbad gnil)
    (gseq (gif (tnot (dtest (dcall F_is_edition [] (aCons (dvar 2) aNil)))) gbad gnil)
    (gseq (gif (tnot (dtest (dcall F_are_needs [] (aCons (dvar 1) (aCons (dvar 3) aNil))))) gbad gnil)
    (gseq (gif (tnot (dtest (dcall F_are_needs [] (aCons (dvar 1) (aCons (dvar 4) aNil))))) gbad gnil)
    (gseq (gif (tor (tnot (dtest (dcall F_are_all_v2 [] (aCons (dvar 5) (aCons (dc (.int 4)) (aCons (dc (dfn cv_is_clash)) aNil)))))) (dtest (dbin dIn (dvar 1) (dcall F_heads_of [] (aCons (dvar 5) aNil))))) gbad gnil)
    (gseq (gif (tnot (dtest (dcall F_are_rising [] (aCons (dvar 6) (aCons (dc (.int 8)) (aCons (dc (dfn cv_is_file)) aNil)))))) gbad gnil)
    (gseq (gif (tor (tnot (dtest (dcall F_are_rising [] (aCons (dvar 7) (aCons (dc (.int 8)) (aCons (dc (dfn cv_is_file)) aNil)))))) (dtest (dcallB bAny (aCons (dlc (itA (dcall F_heads_of [] (aCons (dvar 7) aNil))) [12] (.nm 12) tyes (dbin dIn (dvar 12) (dcall F_heads_of [] (aCons (dvar 6) aNil)))) aNil)))) gbad gnil)
    (gseq (gif (tnot (dtest (dcall F_are_asides [] (aCons (dvar 8) (aCons (dvar 6) (aCons (dvar 7) aNil)))))) gbad gnil)
    (gseq (gif (tnot (dtest (dcall F_are_choices [] (aCons (dvar 9) (aCons (dvar 6) (aCons (dvar 7) aNil)))))) gbad gnil)
    (gseq (gif (tnot (dtest (dcall F_are_calls [] (aCons (dvar 10) aNil)))) gbad gnil)
    (gseq (gif (tnot (dtest (dcall F_are_all_v2 [] (aCons (dvar 11) (aCons (dc (.int 4)) (aCons (dc (dfn cv_is_deed)) aNil)))))) gbad gnil)
    (gseq (gsetat [cC_Parcel] "own_name" (dvar 0) (dvar 1))
    (gseq (gsetat [cC_Parcel] "own_edition" (dvar 0) (dvar 2))
    (gsetat [cC_Parcel] "own_parts" (dvar 0) (dtup (aCons (dvar 3) (aCons (dvar 4) (aCons (dvar 5) (aCons (dvar 6) (aCons (dvar 7) (aCons (dvar 8) (aCons (dvar 9) (aCons (dvar 10) (aCons (dvar 11) aNil))))))))))))))))))))))))
def F_Parcel_init : List D → Mu → R D := framed <| callF 13 g_Parcel_init
def g_law_great : FS := (gseq (gasg (.nm 0) (dlst (aCons (dc (.str "a")) (aCons (dc (.str "abcdefgh/abcdefgh/abcdefgh")) (aCons (dc (.str "b/c")) (aCons (dc (.str "d")) (aCons (dc (.str "e")) (aCons (dc (.str "f")) (aCons (dc (.str "g")) (aCons (dc (.str "h")) aNil))))))))))
    (gseq (gasg (.nm 1) (dlst (aCons (dc (.str "p")) (aCons (dc (.str "q")) (aCons (dc (.str "r")) (aCons (dc (.str "s")) (aCons (dc (.str "t")) (aCons (dc (.str "u")) (aCons (dc (.str "v")) (aCons (dc (.str "w")) aNil))))))))))
    (gseq (gasg (.nm 2) (dtup (aCons (dtup (aCons (dc (.str "b")) (aCons (dc (.int 999)) aNil))) (aCons (dtup (aCons (dc (.str "c")) (aCons (dc (.int 1)) aNil))) (aCons (dtup (aCons (dc (.str "d")) (aCons (dc (.int 5)) aNil))) aNil)))))
    (gseq (gasg (.nm 3) (dcallB bTupleX (aCons (dlc (itA (dcallB bSorted (aCons (dvar 0) aNil))) [6] (.nm 6) tyes (dtup (aCons (dvar 6) (aCons (dbin powD (dc (.int 10)) (dc (.int 9))) aNil)))) aNil)))
    (gseq (gasg (.nm 4) (dcallB bTupleX (aCons (dlc (itA (dvar 1)) [6] (.nm 6) tyes (dtup (aCons (dvar 6) (aCons (dc (.int 0)) aNil)))) aNil)))
    (gseq (gasg (.nm 5) (dtup (aCons (dc (.str "abcdefgh")) (aCons (dc (.int 999)) (aCons (dbin mulX (dtup (aCons (dvar 2) aNil)) (dc (.int 4))) (aCons (dbin mulX (dtup (aCons (dvar 2) aNil)) (dc (.int 4))) (aCons (dbin mulX (dtup (aCons (dtup (aCons (dc (.str "b")) (aCons (dc (.int 1)) (aCons (dc (.int 999)) aNil)))) aNil)) (dc (.int 4))) (aCons (dvar 3) (aCons (dvar 4) aNil)))))))))
    (gseq (gasg (.nm 5) (dbin addX (dvar 5) (dtup (aCons (dtup (aCons (dtup (aCons (dc (.str "a")) (aCons (dc (.str "z/a")) aNil))) (aCons (dtup (aCons (dc (.str "b/c")) (aCons (dc (.str "z/b")) aNil))) (aCons (dtup (aCons (dc (.str "zz")) (aCons (dc (.str "z/c")) aNil))) aNil)))) (aCons (dtup (aCons (dtup (aCons (dc (.str "x")) (aCons (dc (.str "a")) (aCons (dc (.int 99)) aNil)))) (aCons (dtup (aCons (dc (.str "y")) (aCons (dc (.str "a")) (aCons (dc (.int 0)) aNil)))) (aCons (dtup (aCons (dc (.str "z")) (aCons (dc (.str "d")) (aCons (dc (.int 5)) aNil)))) aNil)))) aNil)))))
    (gret (dbin addX (dvar 5) (dtup (aCons (dtup (aCons (dc (.str "a")) (aCons (dc (.str "b")) (aCons (dc (.str "c")) (aCons (dc (.str "dd")) aNil))))) (aCons (dbin mulX (dtup (aCons (dtup (aCons (dc (.str "ahead put")) (aCons (dc (.str "n")) (aCons (dc (.int 99)) aNil)))) (aCons (dtup (aCons (dc (.str "behind set")) (aCons (dc (.str "n")) (aCons (dneg (dc (.int 99))) aNil)))) aNil))) (dc (.int 2))) aNil))))))))))))
def F_law_great : List D → Mu → R D := framed <| callF 7 g_law_great
def g_law_made : FS := (gret (dmakeK (makeO cC_Parcel F_Parcel_init) K_b_Parcel_init_3_needs_ahead_clashes_files_settings_asides_choices_calls_deeds (aCons (dbin dIx (dvar 0) (dc (.int 0))) (aCons (dbin dIx (dvar 0) (dc (.int 1))) aNil)) (aCons (dbin dIx (dvar 0) (dc (.int 2))) (aCons (dbin dIx (dvar 0) (dc (.int 3))) (aCons (dbin dIx (dvar 0) (dc (.int 4))) (aCons (dbin dIx (dvar 0) (dc (.int 5))) (aCons (dbin dIx (dvar 0) (dc (.int 6))) (aCons (dbin dIx (dvar 0) (dc (.int 7))) (aCons (dbin dIx (dvar 0) (dc (.int 8))) (aCons (dbin dIx (dvar 0) (dc (.int 9))) (aCons (dbin dIx (dvar 0) (dc (.int 10))) aNil)))))))))))
def F_law_made : List D → Mu → R D := framed <| callF 1 g_law_made
def g_law_pool : FS := (gseq (gasg (.nm 2) (dc (.int 0)))
    (gseq (gif (dtest (dbin ltD (dvar 1) (dcallB bLen (aCons (dvar 0) aNil)))) (gasg (.nm 2) (dcallB bAbs (aCons (dbin dIx (dvar 0) (dvar 1)) aNil))) gnil)
    (gseq (gasg (.nm 3) (dbin modD (dbin mulX (dbin addX (dbin addX (dbin addX (dbin modD (dvar 2) (dc (.int 2147483629))) (dbin mulX (dbin mulX (dc (.int 7919)) (dvar 1)) (dvar 1))) (dbin mulX (dc (.int 31)) (dvar 1))) (dc (.int 17))) (dc (.int 48271))) (dc (.int 2147483647))))
    (gret (dcel (aCons (dbin mulX (dvar 2) (dcallB bInt (aCons (dbin geD (dvar 2) (dbin powD (dc (.int 10)) (dc (.int 18)))) aNil))) (aCons (dbin modD (dbin mulX (dvar 3) (dvar 3)) (dc (.int 2147483629))) aNil)))))))
def F_law_pool : List D → Mu → R D := callF 4 g_law_pool
def g_Parcel_repr : FS := (gret (djoin [(dc (.str "Parcel(")), (dfmtR (dat [cC_Parcel] "own_name" (dvar 0))), (dc (.str ", ")), (dfmt (dat [cC_Parcel] "own_edition" (dvar 0))), (dc (.str ")"))]))
def F_Parcel_repr : List D → Mu → R D := framed <| callF 1 g_Parcel_repr
def g_Parcel_str : FS := (gret (djoin [(dfmt (dat [cC_Parcel] "own_name" (dvar 0))), (dc (.str " ")), (dfmt (dat [cC_Parcel] "own_edition" (dvar 0)))]))
def F_Parcel_str : List D → Mu → R D := framed <| callF 1 g_Parcel_str
def g_Parcel_ahead : FS := (gret (dbin dIx (dat [cC_Parcel] "own_parts" (dvar 0)) (dc (.int 1))))
def F_Parcel_ahead : List D → Mu → R D := framed <| callF 1 g_Parcel_ahead
def g_Parcel_asides : FS := (gret (dbin dIx (dat [cC_Parcel] "own_parts" (dvar 0)) (dc (.int 5))))
def F_Parcel_asides : List D → Mu → R D := framed <| callF 1 g_Parcel_asides
def g_Parcel_called : FS := (gret (dat [cC_Parcel] "own_name" (dvar 0)))
def F_Parcel_called : List D → Mu → R D := framed <| callF 1 g_Parcel_called
def g_Parcel_calls : FS := (gret (dbin dIx (dat [cC_Parcel] "own_parts" (dvar 0)) (dc (.int 7))))
def F_Parcel_calls : List D → Mu → R D := framed <| callF 1 g_Parcel_calls
def g_Parcel_choices : FS := (gret (dbin dIx (dat [cC_Parcel] "own_parts" (dvar 0)) (dc (.int 6))))
def F_Parcel_choices : List D → Mu → R D := framed <| callF 1 g_Parcel_choices
def g_Parcel_clashes : FS := (gret (dbin dIx (dat [cC_Parcel] "own_parts" (dvar 0)) (dc (.int 2))))
def F_Parcel_clashes : List D → Mu → R D := framed <| callF 1 g_Parcel_clashes
def g_Parcel_deeds : FS := (gret (dbin dIx (dat [cC_Parcel] "own_parts" (dvar 0)) (dc (.int 8))))
def F_Parcel_deeds : List D → Mu → R D := framed <| callF 1 g_Parcel_deeds
def g_Parcel_edition : FS := (gret (dat [cC_Parcel] "own_edition" (dvar 0)))
def F_Parcel_edition : List D → Mu → R D := framed <| callF 1 g_Parcel_edition
def g_Parcel_files : FS := (gret (dbin dIx (dat [cC_Parcel] "own_parts" (dvar 0)) (dc (.int 3))))
def F_Parcel_files : List D → Mu → R D := framed <| callF 1 g_Parcel_files
def g_Parcel_needs : FS := (gret (dbin dIx (dat [cC_Parcel] "own_parts" (dvar 0)) (dc (.int 0))))
def F_Parcel_needs : List D → Mu → R D := framed <| callF 1 g_Parcel_needs
def g_Parcel_settings : FS := (gret (dbin dIx (dat [cC_Parcel] "own_parts" (dvar 0)) (dc (.int 4))))
def F_Parcel_settings : List D → Mu → R D := framed <| callF 1 g_Parcel_settings
def g_law_parts : FS := (gseq (gasg (.nm 1) (dlst (aCons (dmeth cC_Parcel "called" F_Parcel_called [] (dvar 0) aNil) (aCons (dmeth cC_Parcel "edition" F_Parcel_edition [] (dvar 0) aNil) (aCons (dmeth cC_Parcel "needs" F_Parcel_needs [] (dvar 0) aNil) (aCons (dmeth cC_Parcel "ahead" F_Parcel_ahead [] (dvar 0) aNil) (aCons (dmeth cC_Parcel "clashes" F_Parcel_clashes [] (dvar 0) aNil) (aCons (dmeth cC_Parcel "files" F_Parcel_files [] (dvar 0) aNil) (aCons (dmeth cC_Parcel "settings" F_Parcel_settings [] (dvar 0) aNil) aNil)))))))))
    (gret (dcallB bTupleX (aCons (dbin addX (dvar 1) (dlst (aCons (dmeth cC_Parcel "asides" F_Parcel_asides [] (dvar 0) aNil) (aCons (dmeth cC_Parcel "choices" F_Parcel_choices [] (dvar 0) aNil) (aCons (dmeth cC_Parcel "calls" F_Parcel_calls [] (dvar 0) aNil) (aCons (dmeth cC_Parcel "deeds" F_Parcel_deeds [] (dvar 0) aNil) aNil)))))) aNil))))
def F_law_parts : List D → Mu → R D := framed <| callF 2 g_law_parts
def g_law_right : FS := (gseq (gasg (.nm 1) (dcall F_law_made [] (aCons (dvar 0) aNil)))
    (gseq (gfor (itR1 (aCons (dc (.int 2)) aNil)) (.nm 2) (gif (dtest (dbin (neP cC_Parcel F_Parcel_eq right_Parcel) (dcallB (bOwn cC_Parcel F_Parcel_repr bRepr) (aCons (dcall F_law_parts [] (aCons (dvar 1) aNil)) aNil)) (dcallB (bOwn cC_Parcel F_Parcel_repr bRepr) (aCons (dvar 0) aNil)))) (gret (dc (.bl false))) gnil))
    (gseq (gif (tor (dtest (dbin (neP cC_Parcel F_Parcel_eq right_Parcel) (dcallB (bOwn cC_Parcel F_Parcel_str bStr) (aCons (dvar 1) aNil)) (dbin addX (dbin addX (dbin dIx (dvar 0) (dc (.int 0))) (dc (.str " "))) (dcallB (bOwn cC_Parcel F_Parcel_str bStr) (aCons (dbin dIx (dvar 0) (dc (.int 1))) aNil))))) (dtest (dbin (neP cC_Parcel F_Parcel_eq right_Parcel) (dcallB (bOwn cC_Parcel F_Parcel_repr bRepr) (aCons (dvar 1) aNil)) (dbin addX (dbin addX (dbin addX (dbin addX (dc (.str "Parcel(")) (dcallB (bOwn cC_Parcel F_Parcel_repr bRepr) (aCons (dbin dIx (dvar 0) (dc (.int 0))) aNil))) (dc (.str ", "))) (dcallB (bOwn cC_Parcel F_Parcel_str bStr) (aCons (dbin dIx (dvar 0) (dc (.int 1))) aNil))) (dc (.str ")")))))) (gret (dc (.bl false))) gnil)
    (gseq (gif (dtest (dbin (neP cC_Parcel F_Parcel_eq right_Parcel) (dlc (itA (dlst (aCons (dc .non) (aCons (dvar 0) (aCons (dbin dIx (dvar 0) (dc (.int 0))) (aCons (dc (.int 5)) (aCons (dcallB (bOwn cC_Parcel F_Parcel_str bStr) (aCons (dvar 1) aNil)) (aCons (dtup (aCons (dvar 1) aNil)) aNil)))))))) [3] (.nm 3) (dtest (dbin (eqP cC_Parcel F_Parcel_eq right_Parcel) (dvar 1) (dvar 3))) (dvar 3)) (dlst aNil))) (gret (dc (.bl false))) gnil)
    (gret (dbin (eqP cC_Parcel F_Parcel_eq right_Parcel) (dvar 1) (dcall F_law_made [] (aCons (dvar 0) aNil))))))))
def F_law_right : List D → Mu → R D := framed <| callF 4 g_law_right
def g_law_take : FS := (gseq (gif (dtest (dbin gtD (dbin dIx (dvar 0) (dc (.int 0))) (dc (.int 0)))) (gseq (gasg (.nm 2) (dbin modD (dbin dIx (dvar 0) (dc (.int 0))) (dvar 1)))
    (gseq (gsetix (dvar 0) (dc (.int 0)) (dbin fdivD (dbin dIx (dvar 0) (dc (.int 0))) (dvar 1)))
    (gret (dvar 2)))) gnil)
    (gseq (gsetix (dvar 0) (dc (.int 1)) (dbin modD (dbin addX (dbin mulX (dbin dIx (dvar 0) (dc (.int 1))) (dc (.int 48271))) (dc (.int 12345))) (dc (.int 2147483647))))
    (gret (dbin modD (dbin fdivD (dbin modD (dbin mulX (dbin dIx (dvar 0) (dc (.int 1))) (dbin dIx (dvar 0) (dc (.int 1)))) (dc (.int 2147483629))) (dc (.int 64))) (dvar 1)))))
def F_law_take : List D → Mu → R D := framed <| callF 3 g_law_take
def g_law_needs : FS := (gseq (gasg (.nm 4) (dcel aNil))
    (gseq (gfor (itR1 (aCons (dbin mulX (dbin dIx (dlst (aCons (dc (.int 0)) (aCons (dc (.int 0)) (aCons (dc (.int 1)) (aCons (dc (.int 1)) (aCons (dc (.int 2)) aNil)))))) (dcall F_law_take [] (aCons (dvar 0) (aCons (dc (.int 5)) aNil)))) (dvar 3)) aNil)) (.nm 5) (gseq (gasg (.nm 6) (dlc (itA (dvar 2)) [9] (.nm 9) (dtest (dbin dNeX (dvar 9) (dvar 1))) (dvar 9)))
    (gseq (gasg (.nm 7) (dcall F_law_take [] (aCons (dvar 0) (aCons (dcallB bLen (aCons (dvar 6) aNil)) aNil))))
    (gseq (gasg (.nm 8) (dcel (aCons (dtup (aCons (dbin dIx (dvar 6) (dvar 7)) (aCons (dbin dIx (dlst (aCons (dc (.int 1)) (aCons (dc (.int 1)) (aCons (dc (.int 2)) aNil)))) (dcall F_law_take [] (aCons (dvar 0) (aCons (dc (.int 3)) aNil)))) aNil))) aNil)))
    (gseq (gif (dtest (dbin dEq (dcall F_law_take [] (aCons (dvar 0) (aCons (dc (.int 3)) aNil))) (dc (.int 0)))) (gexpr (dbm "list" mAppend (dvar 8) (aCons (dtup (aCons (dbin dIx (dvar 6) (dbin modD (dbin addX (dvar 7) (dc (.int 1))) (dcallB bLen (aCons (dvar 6) aNil)))) (aCons (dc (.int 1)) aNil))) aNil))) gnil)
    (gexpr (dbm "list" mAppend (dvar 4) (aCons (dcallB bTupleX (aCons (dvar 8) aNil)) aNil))))))))
    (gret (dcallB bTupleX (aCons (dvar 4) aNil)))))
def F_law_needs : List D → Mu → R D := framed <| callF 10 g_law_needs
def g_law_rising : FS := (gret (dcallB bSorted (aCons (dlc (itA (dvar 1)) [3] (.nm 3) (dtest (dbin ltD (dcall F_law_take [] (aCons (dvar 0) (aCons (dc (.int 9)) aNil))) (dvar 2))) (dvar 3)) aNil)))
def F_law_rising : List D → Mu → R D := framed <| callF 4 g_law_rising
def g_law_spec : FS := (gseq (gasg (.nm 3) (dcall F_law_needs [] (aCons (dvar 0) (aCons (dvar 1) (aCons (dvar 2) (aCons (dc (.int 1)) aNil))))))
    (gseq (gasg (.nm 4) (dcall F_law_needs [] (aCons (dvar 0) (aCons (dvar 1) (aCons (dvar 2) (aCons (dcallB bInt (aCons (dbin dEq (dcall F_law_take [] (aCons (dvar 0) (aCons (dc (.int 3)) aNil))) (dc (.int 0))) aNil)) aNil))))))
    (gseq (gasg (.nm 5) (dbin dIx (dvar 2) (dcall F_law_take [] (aCons (dvar 0) (aCons (dcallB bLen (aCons (dvar 2) aNil)) aNil)))))
    (gseq (gasg (.nm 6) (dbin mulX (dtup (aCons (dtup (aCons (dvar 5) (aCons (dc (.int 1)) (aCons (dbin addX (dc (.int 1)) (dcall F_law_take [] (aCons (dvar 0) (aCons (dc (.int 2)) aNil)))) aNil)))) aNil)) (dcallB bInt (aCons (dand (dbin dNeX (dvar 5) (dvar 1)) (dbin dEq (dcall F_law_take [] (aCons (dvar 0) (aCons (dc (.int 6)) aNil))) (dc (.int 0)))) aNil))))
    (gseq (gasg (.nm 7) (dbin addX (dlst (aCons (dbin addX (dc (.str "x/")) (dvar 1)) (aCons (dbin addX (dc (.str "y/")) (dvar 1)) (aCons (dc (.str "s")) aNil)))) (dbin mulX (dlst (aCons (dc (.str "t")) (aCons (dc (.str "u")) aNil))) (dcallB bInt (aCons (dbin dEq (dcall F_law_take [] (aCons (dvar 0) (aCons (dc (.int 4)) aNil))) (dc (.int 0))) aNil)))))
    (gseq (gasg (.nm 8) (dcall F_law_rising [] (aCons (dvar 0) (aCons (dcallB bSorted (aCons (dvar 7) aNil)) (aCons (dc (.int 4)) aNil)))))
    (gseq (gasg (.nm 9) (dlc (itA (dcall F_law_rising [] (aCons (dvar 0) (aCons (dlst (aCons (dbin addX (dc (.str "etc/")) (dvar 1)) (aCons (dc (.str "s")) (aCons (dc (.str "z")) aNil)))) (aCons (dc (.int 2)) aNil))))) [19] (.nm 19) (dtest (dbin dNotIn (dvar 19) (dvar 8))) (dvar 19)))
    (gseq (gasg (.nm 10) (dlc (itA (dcall F_law_rising [] (aCons (dvar 0) (aCons (dlst (aCons (dc (.str "s")) (aCons (dc (.str "t")) (aCons (dc (.str "x/a")) (aCons (dc (.str "y/d")) aNil))))) (aCons (dc (.int 1)) aNil))))) [19] (.nm 19) (dtest (dbin dNotIn (dvar 19) (dvar 9))) (dvar 19)))
    (gseq (gasg (.nm 11) (dcallB bTupleX (aCons (dlc (itA (dsl (dvar 10) onone (osome (dc (.int 3))))) [19] (.nm 19) tyes (dtup (aCons (dvar 19) (aCons (dbin addX (dc (.str "far/")) (dbin dIx (dvar 19) (dneg (dc (.int 1))))) aNil)))) aNil)))
    (gseq (gif (dtest (dbin ltD (dlensetX (dlc (itA (dvar 11)) [19, 20] (.tp [(.nm 19), (.nm 20)]) tyes (dvar 20))) (dcallB bLen (aCons (dvar 11) aNil)))) (gasg (.nm 11) (dsl (dvar 11) onone (osome (dc (.int 1))))) gnil)
    (gseq (gasg (.nm 12) (dcel aNil))
    (gseq (gif (dtest (dbin dNeX (dvar 8) (dlst aNil))) (gfor (itA (dcall F_law_rising [] (aCons (dvar 0) (aCons (dlst (aCons (dc (.str "edit")) (aCons (dc (.str "view")) aNil))) (aCons (dc (.int 3)) aNil))))) (.nm 19) (gexpr (dbm "list" mAppend (dvar 12) (aCons (dtup (aCons (dvar 19) (aCons (dbin dIx (dvar 8) (dcall F_law_take [] (aCons (dvar 0) (aCons (dcallB bLen (aCons (dvar 8) aNil)) aNil)))) (aCons (dcall F_law_take [] (aCons (dvar 0) (aCons (dc (.int 3)) aNil))) aNil)))) aNil)))) gnil)
    (gseq (gasg (.nm 13) (dcallB bTupleX (aCons (dcall F_law_rising [] (aCons (dvar 0) (aCons (dlst (aCons (dc (.str "fonts")) (aCons (dc (.str "menus")) aNil))) (aCons (dc (.int 4)) aNil)))) aNil)))
    (gseq (gasg (.nm 14) (dlst (aCons (dtup (aCons (dc (.str "ahead put")) (aCons (dc (.str "n")) (aCons (dc (.int 2)) aNil)))) (aCons (dtup (aCons (dc (.str "behind set")) (aCons (dc (.str "n")) (aCons (dneg (dc (.int 1))) aNil)))) (aCons (dtup (aCons (dc (.str "ahead loose")) (aCons (dc (.str "m")) (aCons (dc (.int 5)) aNil)))) (aCons (dtup (aCons (dc (.str "behind set")) (aCons (dc (.str "k")) (aCons (dc (.int 3)) aNil)))) aNil))))))
    (gseq (gasg (.nm 15) (dcallB bTupleX (aCons (dlc (itA (dvar 14)) [19] (.nm 19) (dtest (dbin dEq (dcall F_law_take [] (aCons (dvar 0) (aCons (dc (.int 4)) aNil))) (dc (.int 0)))) (dvar 19)) aNil)))
    (gseq (gasg (.nm 16) (dcallB bTupleX (aCons (dlc (itA (dvar 8)) [19] (.nm 19) tyes (dtup (aCons (dvar 19) (aCons (dcall F_law_take [] (aCons (dvar 0) (aCons (dc (.int 4)) aNil))) aNil)))) aNil)))
    (gseq (gasg (.nm 17) (dcallB bTupleX (aCons (dlc (itA (dvar 9)) [19] (.nm 19) tyes (dtup (aCons (dvar 19) (aCons (dcall F_law_take [] (aCons (dvar 0) (aCons (dc (.int 3)) aNil))) aNil)))) aNil)))
    (gseq (gasg (.nm 18) (dbin addX (dc (.int 1)) (dcall F_law_take [] (aCons (dvar 0) (aCons (dc (.int 3)) aNil)))))
    (gret (dtup (aCons (dvar 1) (aCons (dvar 18) (aCons (dvar 3) (aCons (dvar 4) (aCons (dvar 6) (aCons (dvar 16) (aCons (dvar 17) (aCons (dvar 11) (aCons (dcallB bTupleX (aCons (dvar 12) aNil)) (aCons (dvar 13) (aCons (dvar 15) aNil)))))))))))))))))))))))))))))))
def F_law_spec : List D → Mu → R D := framed <| callF 21 g_law_spec
def g_law : FS := (gseq (gasg (.nm 1) (dbin addX (dtup (aCons (dc (.str "a")) (aCons (dc (.int 1)) aNil))) (dbin mulX (dtup (aCons (dtup aNil) aNil)) (dc (.int 9)))))
    (gseq (gif (tor (tnot (dtest (dcall F_law_right [] (aCons (dcall F_law_great [] aNil) aNil)))) (tor (tnot (dtest (dcall F_law_right [] (aCons (dvar 1) aNil)))) (dtest (dbin (neP cC_Parcel F_Parcel_eq right_Parcel) (dmake (makeO cC_Parcel F_Parcel_init) [.tup [], .tup [], .tup [], .tup [], .tup [], .tup [], .tup [], .tup [], .tup []] (aCons (dc (.str "a")) (aCons (dc (.int 1)) aNil))) (dcall F_law_made [] (aCons (dvar 1) aNil)))))) (gret (dc (.bl false))) gnil)
    (gseq (gfor (itR1 (aCons (dcallB bMax (aCons (dc (.int 1)) (aCons (dcallB bMin (aCons (dc (.int 20)) (aCons (dcallB bLen (aCons (dvar 0) aNil)) aNil))) aNil))) aNil)) (.nm 2) (gseq (gasg (.nm 3) (dcall F_law_pool [] (aCons (dvar 0) (aCons (dvar 2) aNil))))
    (gseq (gasg (.nm 4) (dlst (aCons (dc (.str "a")) (aCons (dc (.str "bb")) (aCons (dc (.str "c")) (aCons (dc (.str "d")) aNil))))))
    (gseq (gasg (.nm 5) (dcall F_law_spec [] (aCons (dvar 3) (aCons (dbin dIx (dvar 4) (dcall F_law_take [] (aCons (dvar 3) (aCons (dc (.int 4)) aNil)))) (aCons (dvar 4) aNil)))))
    (gseq (gasg (.nm 6) (dcall F_law_spec [] (aCons (dvar 3) (aCons (dbin dIx (dvar 5) (dc (.int 0))) (aCons (dvar 4) aNil)))))
    (gseq (gif (tnot (dtest (dcall F_law_right [] (aCons (dvar 5) aNil)))) (gret (dc (.bl false))) gnil)
    (gseq (gfor (itR1 (aCons (dc (.int 11)) aNil)) (.nm 7) (gseq (gasg (.nm 10) (dbin addX (dbin addX (dsl (dvar 5) onone (osome (dvar 7))) (dtup (aCons (dbin dIx (dvar 6) (dvar 7)) aNil))) (dsl (dvar 5) (osome (dbin addX (dvar 7) (dc (.int 1)))) onone)))
    (gif (tand (dtest (dbin dNotIn (dvar 7) (dtup (aCons (dc (.int 5)) (aCons (dc (.int 6)) (aCons (dc (.int 7)) (aCons (dc (.int 8)) aNil))))))) (dtest (dbin (neP cC_Parcel F_Parcel_eq right_Parcel) (dbin (eqP cC_Parcel F_Parcel_eq right_Parcel) (dcall F_law_made [] (aCons (dvar 5) aNil)) (dcall F_law_made [] (aCons (dvar 10) aNil))) (dbin (eqP cC_Parcel F_Parcel_eq right_Parcel) (dvar 5) (dvar 10))))) (gret (dc (.bl false))) gnil)))
    (gseq (gasg (.nm 8) (dcallB bTupleX (aCons (dlc (itA (dbin dIx (dvar 5) (dc (.int 5)))) [12, 13] (.tp [(.nm 12), (.nm 13)]) tyes (dtup (aCons (dvar 12) (aCons (dbin addX (dvar 13) (dc (.int 1))) aNil)))) aNil)))
    (gseq (gasg (.nm 9) (dcallB bTupleX (aCons (dlc (itA (dbin dIx (dvar 5) (dc (.int 6)))) [12, 13] (.tp [(.nm 12), (.nm 13)]) tyes (dtup (aCons (dvar 12) (aCons (dbin addX (dvar 13) (dc (.int 1))) aNil)))) aNil)))
    (gseq (gfor (itA (dlst (aCons (dtup (aCons (dc (.int 5)) (aCons (dvar 8) aNil))) (aCons (dtup (aCons (dc (.int 6)) (aCons (dvar 9) aNil))) (aCons (dtup (aCons (dc (.int 7)) (aCons (dsl (dbin dIx (dvar 5) (dc (.int 7))) (osome (dc (.int 1))) onone) aNil))) (aCons (dtup (aCons (dc (.int 8)) (aCons (dsl (dbin dIx (dvar 5) (dc (.int 8))) onone (osome (dneg (dc (.int 1))))) aNil))) aNil)))))) (.tp [(.nm 7), (.nm 11)]) (gif (dtest (dbin (neP cC_Parcel F_Parcel_eq right_Parcel) (dbin (eqP cC_Parcel F_Parcel_eq right_Parcel) (dcall F_law_made [] (aCons (dvar 5) aNil)) (dcall F_law_made [] (aCons (dbin addX (dbin addX (dsl (dvar 5) onone (osome (dvar 7))) (dtup (aCons (dvar 11) aNil))) (dsl (dvar 5) (osome (dbin addX (dvar 7) (dc (.int 1)))) onone)) aNil))) (dbin (eqP cC_Parcel F_Parcel_eq right_Parcel) (dbin dIx (dvar 5) (dvar 7)) (dvar 11)))) (gret (dc (.bl false))) gnil))
    (gseq (gif (dtest (dbin (neP cC_Parcel F_Parcel_eq right_Parcel) (dbin (eqP cC_Parcel F_Parcel_eq right_Parcel) (dcall F_law_made [] (aCons (dvar 5) aNil)) (dcall F_law_made [] (aCons (dvar 6) aNil))) (dbin (eqP cC_Parcel F_Parcel_eq right_Parcel) (dvar 5) (dvar 6)))) (gret (dc (.bl false))) gnil)
    (gif (dtest (dbin (eqP cC_Parcel F_Parcel_eq right_Parcel) (dbin (neP cC_Parcel F_Parcel_eq right_Parcel) (dcall F_law_made [] (aCons (dvar 5) aNil)) (dcall F_law_made [] (aCons (dvar 6) aNil))) (dbin (eqP cC_Parcel F_Parcel_eq right_Parcel) (dvar 5) (dvar 6)))) (gret (dc (.bl false))) gnil))))))))))))
    (gret (dc (.bl true))))))
def F_law : List D → Mu → R D := callF 14 g_law
/-! what the top has left -/
abbrev FnP (K : PySem.W.Frag) (x q : Str) (st : Stmt) (kws : List (Str × V)) (f : Addr) (fd : FuncData) : Prop := FunD K x q (defArgs st) (defBody st) (defScope st) [] kws f fd
structure Tops (K : PySem.W.Frag) (mg : Str → Option Value) where
  m_Parcel : mg "Parcel" = some (.ref (cl K cC_Parcel))
  cl_Parcel : Cls K (cl K cC_Parcel)
  f_Parcel_eq : Addr
  d_Parcel_eq : FuncData
  F_Parcel_eq : FnP K "__eq__" "Parcel.__eq__" s_Parcel_eq [] f_Parcel_eq d_Parcel_eq
  fn_Parcel_eq : PySem.W.isFn K (.ref f_Parcel_eq) = true
  f_is_name : Addr
  d_is_name : FuncData
  F_is_name : FnP K "is_name" "is_name" s_is_name [] f_is_name d_is_name
  m_is_name : mg "is_name" = some (.ref f_is_name)
  mv_is_name : mg "is_name" = some (.ref (cl K cv_is_name))
  fv_is_name : f_is_name = cl K cv_is_name
  f_is_path : Addr
  d_is_path : FuncData
  F_is_path : FnP K "is_path" "is_path" s_is_path [] f_is_path d_is_path
  m_is_path : mg "is_path" = some (.ref f_is_path)
  f_is_tuple : Addr
  d_is_tuple : FuncData
  F_is_tuple : FnP K "is_tuple" "is_tuple" s_is_tuple [] f_is_tuple d_is_tuple
  m_is_tuple : mg "is_tuple" = some (.ref f_is_tuple)
  f_is_aside : Addr
  d_is_aside : FuncData
  F_is_aside : FnP K "is_aside" "is_aside" s_is_aside [] f_is_aside d_is_aside
  m_is_aside : mg "is_aside" = some (.ref f_is_aside)
  mv_is_aside : mg "is_aside" = some (.ref (cl K cv_is_aside))
  fv_is_aside : f_is_aside = cl K cv_is_aside
  f_is_whole : Addr
  d_is_whole : FuncData
  F_is_whole : FnP K "is_whole" "is_whole" s_is_whole [] f_is_whole d_is_whole
  m_is_whole : mg "is_whole" = some (.ref f_is_whole)
  f_is_from : Addr
  d_is_from : FuncData
  F_is_from : FnP K "is_from" "is_from" s_is_from [("least", .int 0)] f_is_from d_is_from
  m_is_from : mg "is_from" = some (.ref f_is_from)
  f_is_choice : Addr
  d_is_choice : FuncData
  F_is_choice : FnP K "is_choice" "is_choice" s_is_choice [] f_is_choice d_is_choice
  m_is_choice : mg "is_choice" = some (.ref f_is_choice)
  mv_is_choice : mg "is_choice" = some (.ref (cl K cv_is_choice))
  fv_is_choice : f_is_choice = cl K cv_is_choice
  f_is_edition : Addr
  d_is_edition : FuncData
  F_is_edition : FnP K "is_edition" "is_edition" s_is_edition [] f_is_edition d_is_edition
  m_is_edition : mg "is_edition" = some (.ref f_is_edition)
  f_is_clash : Addr
  d_is_clash : FuncData
  F_is_clash : FnP K "is_clash" "is_clash" s_is_clash [] f_is_clash d_is_clash
  m_is_clash : mg "is_clash" = some (.ref f_is_clash)
  mv_is_clash : mg "is_clash" = some (.ref (cl K cv_is_clash))
  fv_is_clash : f_is_clash = cl K cv_is_clash
  f_is_deed : Addr
  d_is_deed : FuncData
  F_is_deed : FnP K "is_deed" "is_deed" s_is_deed [] f_is_deed d_is_deed
  m_is_deed : mg "is_deed" = some (.ref f_is_deed)
  mv_is_deed : mg "is_deed" = some (.ref (cl K cv_is_deed))
  fv_is_deed : f_is_deed = cl K cv_is_deed
  f_is_worth : Addr
  d_is_worth : FuncData
  F_is_worth : FnP K "is_worth" "is_worth" s_is_worth [] f_is_worth d_is_worth
  m_is_worth : mg "is_worth" = some (.ref f_is_worth)
  f_is_file : Addr
  d_is_file : FuncData
  F_is_file : FnP K "is_file" "is_file" s_is_file [] f_is_file d_is_file
  m_is_file : mg "is_file" = some (.ref f_is_file)
  mv_is_file : mg "is_file" = some (.ref (cl K cv_is_file))
  fv_is_file : f_is_file = cl K cv_is_file
  f_is_option : Addr
  d_is_option : FuncData
  F_is_option : FnP K "is_option" "is_option" s_is_option [] f_is_option d_is_option
  m_is_option : mg "is_option" = some (.ref f_is_option)
  mv_is_option : mg "is_option" = some (.ref (cl K cv_is_option))
  fv_is_option : f_is_option = cl K cv_is_option
  f_are_all : Addr
  d_are_all : FuncData
  F_are_all : FnP K "are_all" "are_all" s_are_all [] f_are_all d_are_all
  m_are_all : mg "are_all" = some (.ref f_are_all)
  f_heads_of : Addr
  d_heads_of : FuncData
  F_heads_of : FnP K "heads_of" "heads_of" s_heads_of [] f_heads_of d_heads_of
  m_heads_of : mg "heads_of" = some (.ref f_heads_of)
  f_is_need : Addr
  d_is_need : FuncData
  F_is_need : FnP K "is_need" "is_need" s_is_need [] f_is_need d_is_need
  m_is_need : mg "is_need" = some (.ref f_is_need)
  mv_is_need : mg "is_need" = some (.ref (cl K cv_is_need))
  fv_is_need : f_is_need = cl K cv_is_need
  f_rise : Addr
  d_rise : FuncData
  F_rise : FnP K "rise" "rise" s_rise [] f_rise d_rise
  m_rise : mg "rise" = some (.ref f_rise)
  f_are_rising : Addr
  d_are_rising : FuncData
  F_are_rising : FnP K "are_rising" "are_rising" s_are_rising [] f_are_rising d_are_rising
  m_are_rising : mg "are_rising" = some (.ref f_are_rising)
  f_are_asides : Addr
  d_are_asides : FuncData
  F_are_asides : FnP K "are_asides" "are_asides" s_are_asides [] f_are_asides d_are_asides
  m_are_asides : mg "are_asides" = some (.ref f_are_asides)
  f_are_calls : Addr
  d_are_calls : FuncData
  F_are_calls : FnP K "are_calls" "are_calls" s_are_calls [] f_are_calls d_are_calls
  m_are_calls : mg "are_calls" = some (.ref f_are_calls)
  f_are_choices : Addr
  d_are_choices : FuncData
  F_are_choices : FnP K "are_choices" "are_choices" s_are_choices [] f_are_choices d_are_choices
  m_are_choices : mg "are_choices" = some (.ref f_are_choices)
  f_are_needs : Addr
  d_are_needs : FuncData
  F_are_needs : FnP K "are_needs" "are_needs" s_are_needs [] f_are_needs d_are_needs
  m_are_needs : mg "are_needs" = some (.ref f_are_needs)
  f_Parcel_init : Addr
  d_Parcel_init : FuncData
  F_Parcel_init : FnP K "__init__" "Parcel.__init__" s_Parcel_init [("needs", .ref (kwAt (nmC cC_Parcel, some "__init__") "needs" K)), ("ahead", .ref (kwAt (nmC cC_Parcel, some "__init__") "ahead" K)), ("clashes", .ref (kwAt (nmC cC_Parcel, some "__init__") "clashes" K)), ("files", .ref (kwAt (nmC cC_Parcel, some "__init__") "files" K)), ("settings", .ref (kwAt (nmC cC_Parcel, some "__init__") "settings" K)), ("asides", .ref (kwAt (nmC cC_Parcel, some "__init__") "asides" K)), ("choices", .ref (kwAt (nmC cC_Parcel, some "__init__") "choices" K)), ("calls", .ref (kwAt (nmC cC_Parcel, some "__init__") "calls" K)), ("deeds", .ref (kwAt (nmC cC_Parcel, some "__init__") "deeds" K))] f_Parcel_init d_Parcel_init
  fn_Parcel_init : PySem.W.isFn K (.ref f_Parcel_init) = true
  e_Parcel_init_needs : ∀ W, Rep K W (.ref (kwAt (nmC cC_Parcel, some "__init__") "needs" K)) (.tup [])
  e_Parcel_init_ahead : ∀ W, Rep K W (.ref (kwAt (nmC cC_Parcel, some "__init__") "ahead" K)) (.tup [])
  e_Parcel_init_clashes : ∀ W, Rep K W (.ref (kwAt (nmC cC_Parcel, some "__init__") "clashes" K)) (.tup [])
  e_Parcel_init_files : ∀ W, Rep K W (.ref (kwAt (nmC cC_Parcel, some "__init__") "files" K)) (.tup [])
  e_Parcel_init_settings : ∀ W, Rep K W (.ref (kwAt (nmC cC_Parcel, some "__init__") "settings" K)) (.tup [])
  e_Parcel_init_asides : ∀ W, Rep K W (.ref (kwAt (nmC cC_Parcel, some "__init__") "asides" K)) (.tup [])
  e_Parcel_init_choices : ∀ W, Rep K W (.ref (kwAt (nmC cC_Parcel, some "__init__") "choices" K)) (.tup [])
  e_Parcel_init_calls : ∀ W, Rep K W (.ref (kwAt (nmC cC_Parcel, some "__init__") "calls" K)) (.tup [])
  e_Parcel_init_deeds : ∀ W, Rep K W (.ref (kwAt (nmC cC_Parcel, some "__init__") "deeds" K)) (.tup [])
  f_law_great : Addr
  d_law_great : FuncData
  F_law_great : FnP K "_law_great" "_law_great" s_law_great [] f_law_great d_law_great
  m_law_great : mg "_law_great" = some (.ref f_law_great)
  f_law_made : Addr
  d_law_made : FuncData
  F_law_made : FnP K "_law_made" "_law_made" s_law_made [] f_law_made d_law_made
  m_law_made : mg "_law_made" = some (.ref f_law_made)
  f_law_pool : Addr
  d_law_pool : FuncData
  F_law_pool : FnP K "_law_pool" "_law_pool" s_law_pool [] f_law_pool d_law_pool
  m_law_pool : mg "_law_pool" = some (.ref f_law_pool)
  f_Parcel_repr : Addr
  d_Parcel_repr : FuncData
  F_Parcel_repr : FnP K "__repr__" "Parcel.__repr__" s_Parcel_repr [] f_Parcel_repr d_Parcel_repr
  fn_Parcel_repr : PySem.W.isFn K (.ref f_Parcel_repr) = true
  f_Parcel_str : Addr
  d_Parcel_str : FuncData
  F_Parcel_str : FnP K "__str__" "Parcel.__str__" s_Parcel_str [] f_Parcel_str d_Parcel_str
  fn_Parcel_str : PySem.W.isFn K (.ref f_Parcel_str) = true
  f_Parcel_ahead : Addr
  d_Parcel_ahead : FuncData
  F_Parcel_ahead : FnP K "ahead" "Parcel.ahead" s_Parcel_ahead [] f_Parcel_ahead d_Parcel_ahead
  fn_Parcel_ahead : PySem.W.isFn K (.ref f_Parcel_ahead) = true
  f_Parcel_asides : Addr
  d_Parcel_asides : FuncData
  F_Parcel_asides : FnP K "asides" "Parcel.asides" s_Parcel_asides [] f_Parcel_asides d_Parcel_asides
  fn_Parcel_asides : PySem.W.isFn K (.ref f_Parcel_asides) = true
  f_Parcel_called : Addr
  d_Parcel_called : FuncData
  F_Parcel_called : FnP K "called" "Parcel.called" s_Parcel_called [] f_Parcel_called d_Parcel_called
  fn_Parcel_called : PySem.W.isFn K (.ref f_Parcel_called) = true
  f_Parcel_calls : Addr
  d_Parcel_calls : FuncData
  F_Parcel_calls : FnP K "calls" "Parcel.calls" s_Parcel_calls [] f_Parcel_calls d_Parcel_calls
  fn_Parcel_calls : PySem.W.isFn K (.ref f_Parcel_calls) = true
  f_Parcel_choices : Addr
  d_Parcel_choices : FuncData
  F_Parcel_choices : FnP K "choices" "Parcel.choices" s_Parcel_choices [] f_Parcel_choices d_Parcel_choices
  fn_Parcel_choices : PySem.W.isFn K (.ref f_Parcel_choices) = true
  f_Parcel_clashes : Addr
  d_Parcel_clashes : FuncData
  F_Parcel_clashes : FnP K "clashes" "Parcel.clashes" s_Parcel_clashes [] f_Parcel_clashes d_Parcel_clashes
  fn_Parcel_clashes : PySem.W.isFn K (.ref f_Parcel_clashes) = true
  f_Parcel_deeds : Addr
  d_Parcel_deeds : FuncData
  F_Parcel_deeds : FnP K "deeds" "Parcel.deeds" s_Parcel_deeds [] f_Parcel_deeds d_Parcel_deeds
  fn_Parcel_deeds : PySem.W.isFn K (.ref f_Parcel_deeds) = true
  f_Parcel_edition : Addr
  d_Parcel_edition : FuncData
  F_Parcel_edition : FnP K "edition" "Parcel.edition" s_Parcel_edition [] f_Parcel_edition d_Parcel_edition
  fn_Parcel_edition : PySem.W.isFn K (.ref f_Parcel_edition) = true
  f_Parcel_files : Addr
  d_Parcel_files : FuncData
  F_Parcel_files : FnP K "files" "Parcel.files" s_Parcel_files [] f_Parcel_files d_Parcel_files
  fn_Parcel_files : PySem.W.isFn K (.ref f_Parcel_files) = true
  f_Parcel_needs : Addr
  d_Parcel_needs : FuncData
  F_Parcel_needs : FnP K "needs" "Parcel.needs" s_Parcel_needs [] f_Parcel_needs d_Parcel_needs
  fn_Parcel_needs : PySem.W.isFn K (.ref f_Parcel_needs) = true
  f_Parcel_settings : Addr
  d_Parcel_settings : FuncData
  F_Parcel_settings : FnP K "settings" "Parcel.settings" s_Parcel_settings [] f_Parcel_settings d_Parcel_settings
  fn_Parcel_settings : PySem.W.isFn K (.ref f_Parcel_settings) = true
  f_law_parts : Addr
  d_law_parts : FuncData
  F_law_parts : FnP K "_law_parts" "_law_parts" s_law_parts [] f_law_parts d_law_parts
  m_law_parts : mg "_law_parts" = some (.ref f_law_parts)
  f_law_right : Addr
  d_law_right : FuncData
  F_law_right : FnP K "_law_right" "_law_right" s_law_right [] f_law_right d_law_right
  m_law_right : mg "_law_right" = some (.ref f_law_right)
  f_law_take : Addr
  d_law_take : FuncData
  F_law_take : FnP K "_law_take" "_law_take" s_law_take [] f_law_take d_law_take
  m_law_take : mg "_law_take" = some (.ref f_law_take)
  f_law_needs : Addr
  d_law_needs : FuncData
  F_law_needs : FnP K "_law_needs" "_law_needs" s_law_needs [] f_law_needs d_law_needs
  m_law_needs : mg "_law_needs" = some (.ref f_law_needs)
  f_law_rising : Addr
  d_law_rising : FuncData
  F_law_rising : FnP K "_law_rising" "_law_rising" s_law_rising [] f_law_rising d_law_rising
  m_law_rising : mg "_law_rising" = some (.ref f_law_rising)
  f_law_spec : Addr
  d_law_spec : FuncData
  F_law_spec : FnP K "_law_spec" "_law_spec" s_law_spec [] f_law_spec d_law_spec
  m_law_spec : mg "_law_spec" = some (.ref f_law_spec)
  f_law : Addr
  d_law : FuncData
  F_law : FnP K "law" "law" s_law [] f_law d_law
  m_law : mg "law" = some (.ref f_law)
  me_Parcel_ahead : Meth K (cl K cC_Parcel) "ahead" f_Parcel_ahead
  me_Parcel_asides : Meth K (cl K cC_Parcel) "asides" f_Parcel_asides
  me_Parcel_called : Meth K (cl K cC_Parcel) "called" f_Parcel_called
  me_Parcel_calls : Meth K (cl K cC_Parcel) "calls" f_Parcel_calls
  me_Parcel_choices : Meth K (cl K cC_Parcel) "choices" f_Parcel_choices
  me_Parcel_clashes : Meth K (cl K cC_Parcel) "clashes" f_Parcel_clashes
  me_Parcel_deeds : Meth K (cl K cC_Parcel) "deeds" f_Parcel_deeds
  me_Parcel_edition : Meth K (cl K cC_Parcel) "edition" f_Parcel_edition
  me_Parcel_files : Meth K (cl K cC_Parcel) "files" f_Parcel_files
  me_Parcel_needs : Meth K (cl K cC_Parcel) "needs" f_Parcel_needs
  me_Parcel_settings : Meth K (cl K cC_Parcel) "settings" f_Parcel_settings
  mk_Parcel : Mk K (cl K cC_Parcel) f_Parcel_init
  kt_Parcel : ∀ t b, ktL yes_Parcel no_Parcel t = some b → PySem.W.kitOne K (t.val K) ((Ty.own cC_Parcel).val K) = some b
  isc : ∀ C ∈ isAll, IsC K (cl K C)
  at_own_edition : ∀ C ∈ [cC_Parcel], Cls K (cl K C) ∧ NoAttr K (cl K C) "own_edition"
  at_own_name : ∀ C ∈ [cC_Parcel], Cls K (cl K C) ∧ NoAttr K (cl K C) "own_name"
  at_own_parts : ∀ C ∈ [cC_Parcel], Cls K (cl K C) ∧ NoAttr K (cl K C) "own_parts"
  eq_Parcel : PySem.W.findIn K (.ref (cl K cC_Parcel)) "__eq__" = some (some (.ref f_Parcel_eq))
  ne_Parcel : PySem.W.findIn K (.ref (cl K cC_Parcel)) "__ne__" = some (some (.builtin "object.__ne__"))
  mo_Parcel : PySem.W.mroIn K (cl K cC_Parcel) (.type "object") = some true
  nf_Parcel : ∀ t ∈ right_Parcel, PySem.W.notFirst K (cl K cC_Parcel) (t.val K) = true
  str_Parcel : PySem.W.findIn K (.ref (cl K cC_Parcel)) "__str__" = some (some (.ref f_Parcel_str))
  repr_Parcel : PySem.W.findIn K (.ref (cl K cC_Parcel)) "__repr__" = some (some (.ref f_Parcel_repr))
  z_abs : mg "abs" = none
  z_all : mg "all" = none
  z_any : mg "any" = none
  z_bool : mg "bool" = none
  z_int : mg "int" = none
  z_isinstance : mg "isinstance" = none
  z_len : mg "len" = none
  z_max : mg "max" = none
  z_min : mg "min" = none
  z_range : mg "range" = none
  z_repr : mg "repr" = none
  z_set : mg "set" = none
  z_sorted : mg "sorted" = none
  z_str : mg "str" = none
  z_tuple : mg "tuple" = none
  z_zip : mg "zip" = none
  c_LETTERS : { t : Tok // mg "LETTERS" = some (.str "abcdefghijklmnopqrstuvwxyz" t) }
  c_MOST_BY : { t : Tok // mg "MOST_BY" = some (.int 99 t) }
  c_MOST_EDITION : { t : Tok // mg "MOST_EDITION" = some (.int 999 t) }
  c_MOST_NAME : { t : Tok // mg "MOST_NAME" = some (.int 8 t) }
  c_MOST_NAMES : { t : Tok // mg "MOST_NAMES" = some (.int 3 t) }
  c_MOST_OPTIONS : { t : Tok // mg "MOST_OPTIONS" = some (.int 3 t) }
  c_MOST_RANK : { t : Tok // mg "MOST_RANK" = some (.int 99 t) }
  c_MOST_WORTH : { t : Tok // mg "MOST_WORTH" = some (.int 1000000000 t) }
  c_WHENS : { q : Value × V // mg "WHENS" = some q.1 ∧ RelV q.2 q.1 ∧ ∀ W, Rep K W q.2 (.tup [(.str "ahead put"), (.str "behind set"), (.str "ahead loose")]) }
section
variable {P : Program} {w : World} {K : PySem.W.Frag} {mg : Str → Option Value} {base : Heap}
theorem Tops.b_Parcel_eq_2 (T : Tops K mg) : Dfl K T.d_Parcel_eq ["self", "other"] 2 [] := dfl0 (T.F_Parcel_eq.bindsN fun _ _ _ _ _ _ us hl => match us, hl with | [_, _], _ => rfl)
theorem Tops.b_Parcel_init_3 (T : Tops K mg) : Dfl K T.d_Parcel_init ["self", "name", "edition", "needs", "ahead", "clashes", "files", "settings", "asides", "choices", "calls", "deeds"] 3 [.tup [], .tup [], .tup [], .tup [], .tup [], .tup [], .tup [], .tup [], .tup []] := dfl_kw T.F_Parcel_init 3 [.tup [], .tup [], .tup [], .tup [], .tup [], .tup [], .tup [], .tup [], .tup []] (by simp) rfl (fun _ => (.cons (T.e_Parcel_init_needs _) (.cons (T.e_Parcel_init_ahead _) (.cons (T.e_Parcel_init_clashes _) (.cons (T.e_Parcel_init_files _) (.cons (T.e_Parcel_init_settings _) (.cons (T.e_Parcel_init_asides _) (.cons (T.e_Parcel_init_choices _) (.cons (T.e_Parcel_init_calls _) (.cons (T.e_Parcel_init_deeds _) .nil)))))))))) fun D doc pm an cdv ct us ks h1 h2 => match us, ks, h1, h2 with | [_, _, _], [_, _, _, _, _, _, _, _, _], _, _ => ⟨_, _, _, _, _, _, rfl, rfl, ⟨_, _, _, _, _, _, rfl, rfl, ⟨_, _, _, _, _, _, rfl, rfl, ⟨_, _, _, _, _, _, rfl, rfl, ⟨_, _, _, _, _, _, rfl, rfl, ⟨_, _, _, _, _, _, rfl, rfl, ⟨_, _, _, _, _, _, rfl, rfl, ⟨_, _, _, _, _, _, rfl, rfl, ⟨_, _, _, _, _, _, rfl, rfl, rfl⟩⟩⟩⟩⟩⟩⟩⟩⟩
theorem Tops.b_law_made_1 (T : Tops K mg) : Dfl K T.d_law_made ["_law_own"] 1 [] := dfl0 (T.F_law_made.bindsN fun _ _ _ _ _ _ us hl => match us, hl with | [_], _ => rfl)
theorem Tops.b_law_right_1 (T : Tops K mg) : Dfl K T.d_law_right ["_law_own"] 1 [] := dfl0 (T.F_law_right.bindsN fun _ _ _ _ _ _ us hl => match us, hl with | [_], _ => rfl)
theorem Tops.b_law_great_0 (T : Tops K mg) : Dfl K T.d_law_great [] 0 [] := dfl0 (T.F_law_great.bindsN fun _ _ _ _ _ _ us hl => match us, hl with | [], _ => rfl)
theorem Tops.b_law_pool_2 (T : Tops K mg) : Dfl K T.d_law_pool ["_law_script", "_law_k"] 2 [] := dfl0 (T.F_law_pool.bindsN fun _ _ _ _ _ _ us hl => match us, hl with | [_, _], _ => rfl)
theorem Tops.b_law_spec_3 (T : Tops K mg) : Dfl K T.d_law_spec ["_law_pool_here", "_law_who", "_law_every"] 3 [] := dfl0 (T.F_law_spec.bindsN fun _ _ _ _ _ _ us hl => match us, hl with | [_, _, _], _ => rfl)
theorem Tops.b_law_take_2 (T : Tops K mg) : Dfl K T.d_law_take ["_law_pool_here", "_law_many"] 2 [] := dfl0 (T.F_law_take.bindsN fun _ _ _ _ _ _ us hl => match us, hl with | [_, _], _ => rfl)
theorem Tops.b_is_name_1 (T : Tops K mg) : Dfl K T.d_is_name ["thing"] 1 [] := dfl0 (T.F_is_name.bindsN fun _ _ _ _ _ _ us hl => match us, hl with | [_], _ => rfl)
theorem Tops.b_is_edition_1 (T : Tops K mg) : Dfl K T.d_is_edition ["thing"] 1 [] := dfl0 (T.F_is_edition.bindsN fun _ _ _ _ _ _ us hl => match us, hl with | [_], _ => rfl)
theorem Tops.b_are_needs_2 (T : Tops K mg) : Dfl K T.d_are_needs ["name", "thing"] 2 [] := dfl0 (T.F_are_needs.bindsN fun _ _ _ _ _ _ us hl => match us, hl with | [_, _], _ => rfl)
theorem Tops.b_heads_of_1 (T : Tops K mg) : Dfl K T.d_heads_of ["some"] 1 [] := dfl0 (T.F_heads_of.bindsN fun _ _ _ _ _ _ us hl => match us, hl with | [_], _ => rfl)
theorem Tops.b_are_all_3 (T : Tops K mg) : Dfl K T.d_are_all ["thing", "most", "fits"] 3 [] := dfl0 (T.F_are_all.bindsN fun _ _ _ _ _ _ us hl => match us, hl with | [_, _, _], _ => rfl)
theorem Tops.b_are_rising_3 (T : Tops K mg) : Dfl K T.d_are_rising ["thing", "most", "fits"] 3 [] := dfl0 (T.F_are_rising.bindsN fun _ _ _ _ _ _ us hl => match us, hl with | [_, _, _], _ => rfl)
theorem Tops.b_are_asides_3 (T : Tops K mg) : Dfl K T.d_are_asides ["thing", "files", "settings"] 3 [] := dfl0 (T.F_are_asides.bindsN fun _ _ _ _ _ _ us hl => match us, hl with | [_, _, _], _ => rfl)
theorem Tops.b_are_choices_3 (T : Tops K mg) : Dfl K T.d_are_choices ["thing", "files", "settings"] 3 [] := dfl0 (T.F_are_choices.bindsN fun _ _ _ _ _ _ us hl => match us, hl with | [_, _, _], _ => rfl)
theorem Tops.b_are_calls_1 (T : Tops K mg) : Dfl K T.d_are_calls ["thing"] 1 [] := dfl0 (T.F_are_calls.bindsN fun _ _ _ _ _ _ us hl => match us, hl with | [_], _ => rfl)
theorem Tops.b_is_deed_1 (T : Tops K mg) : Dfl K T.d_is_deed ["thing"] 1 [] := dfl0 (T.F_is_deed.bindsN fun _ _ _ _ _ _ us hl => match us, hl with | [_], _ => rfl)
theorem Tops.b_is_choice_1 (T : Tops K mg) : Dfl K T.d_is_choice ["thing"] 1 [] := dfl0 (T.F_is_choice.bindsN fun _ _ _ _ _ _ us hl => match us, hl with | [_], _ => rfl)
theorem Tops.b_is_aside_1 (T : Tops K mg) : Dfl K T.d_is_aside ["thing"] 1 [] := dfl0 (T.F_is_aside.bindsN fun _ _ _ _ _ _ us hl => match us, hl with | [_], _ => rfl)
theorem Tops.b_is_file_1 (T : Tops K mg) : Dfl K T.d_is_file ["thing"] 1 [] := dfl0 (T.F_is_file.bindsN fun _ _ _ _ _ _ us hl => match us, hl with | [_], _ => rfl)
theorem Tops.b_is_clash_1 (T : Tops K mg) : Dfl K T.d_is_clash ["thing"] 1 [] := dfl0 (T.F_is_clash.bindsN fun _ _ _ _ _ _ us hl => match us, hl with | [_], _ => rfl)
theorem Tops.b_is_need_1 (T : Tops K mg) : Dfl K T.d_is_need ["thing"] 1 [] := dfl0 (T.F_is_need.bindsN fun _ _ _ _ _ _ us hl => match us, hl with | [_], _ => rfl)
theorem Tops.b_is_path_1 (T : Tops K mg) : Dfl K T.d_is_path ["thing"] 1 [] := dfl0 (T.F_is_path.bindsN fun _ _ _ _ _ _ us hl => match us, hl with | [_], _ => rfl)
theorem Tops.b_is_tuple_2 (T : Tops K mg) : Dfl K T.d_is_tuple ["thing", "many"] 2 [] := dfl0 (T.F_is_tuple.bindsN fun _ _ _ _ _ _ us hl => match us, hl with | [_, _], _ => rfl)
theorem Tops.b_is_from_1_most (T : Tops K mg) : KDfl K T.d_is_from ["thing", "least", "most"] 1 ["most"] K_b_is_from_1_most := by
  refine kdfl T.F_is_from 1 ["most"] [("least", .int 0)] [.int 0] (fun {α} => kb_b_is_from_1_most) (by simp) (by simp) (fun r1 r2 r3 => (vals_pk (vals_pk (vals_pk .nil 0 r3) 0 r2) 0 r1)) (fun W vs ds zs es h1 h2 r1 r2 => ?_) (fun us mv ws h1 h2 h3 => ?_) (fun D doc pm an cdv ct us mv ws h1 h2 h3 => ?_)
  · have rm : Reps K W ([.int 0] : List V) ([.int 0] : List D) := (.cons (.int _) .nil)
    exact (reps_pk (reps_pk (reps_pk .nil 0 r2) 0 rm) 0 r1)
  · match us, mv, ws, h1, h2, h3 with | [_], [_], [_], _, _, _ => rfl
  · match us, mv, ws, h1, h2, h3 with | [_], [_], [_], _, _, _ => exact ⟨_, _, _, _, _, _, rfl, rfl, rfl⟩
theorem Tops.b_is_whole_1 (T : Tops K mg) : Dfl K T.d_is_whole ["thing"] 1 [] := dfl0 (T.F_is_whole.bindsN fun _ _ _ _ _ _ us hl => match us, hl with | [_], _ => rfl)
theorem Tops.b_is_from_1_least_most (T : Tops K mg) : KDfl K T.d_is_from ["thing", "least", "most"] 1 ["least", "most"] K_b_is_from_1_least_most := by
  refine kdfl T.F_is_from 1 ["least", "most"] [] [] (fun {α} => kb_b_is_from_1_least_most) (by simp) (by simp) (fun r1 r2 r3 => (vals_pk (vals_pk (vals_pk .nil 1 r3) 0 r3) 0 r1)) (fun W vs ds zs es h1 h2 r1 r2 => ?_) (fun us mv ws h1 h2 h3 => ?_) (fun D doc pm an cdv ct us mv ws h1 h2 h3 => ?_)
  · have rm : Reps K W ([] : List V) ([] : List D) := .nil
    exact (reps_pk (reps_pk (reps_pk .nil 1 r2) 0 r2) 0 r1)
  · match us, mv, ws, h1, h2, h3 with | [_], [], [_, _], _, _, _ => rfl
  · match us, mv, ws, h1, h2, h3 with | [_], [], [_, _], _, _, _ => exact rfl
theorem Tops.b_is_worth_1 (T : Tops K mg) : Dfl K T.d_is_worth ["thing"] 1 [] := dfl0 (T.F_is_worth.bindsN fun _ _ _ _ _ _ us hl => match us, hl with | [_], _ => rfl)
theorem Tops.b_is_option_1 (T : Tops K mg) : Dfl K T.d_is_option ["thing"] 1 [] := dfl0 (T.F_is_option.bindsN fun _ _ _ _ _ _ us hl => match us, hl with | [_], _ => rfl)
theorem Tops.b_rise_1 (T : Tops K mg) : Dfl K T.d_rise ["some"] 1 [] := dfl0 (T.F_rise.bindsN fun _ _ _ _ _ _ us hl => match us, hl with | [_], _ => rfl)
theorem Tops.b_Parcel_init_3_needs_ahead_clashes_files_settings_asides_choices_calls_deeds (T : Tops K mg) : KDfl K T.d_Parcel_init ["self", "name", "edition", "needs", "ahead", "clashes", "files", "settings", "asides", "choices", "calls", "deeds"] 3 ["needs", "ahead", "clashes", "files", "settings", "asides", "choices", "calls", "deeds"] K_b_Parcel_init_3_needs_ahead_clashes_files_settings_asides_choices_calls_deeds := by
  refine kdfl T.F_Parcel_init 3 ["needs", "ahead", "clashes", "files", "settings", "asides", "choices", "calls", "deeds"] [] [] (fun {α} => kb_b_Parcel_init_3_needs_ahead_clashes_files_settings_asides_choices_calls_deeds) (by simp) (by simp) (fun r1 r2 r3 => (vals_pk (vals_pk (vals_pk (vals_pk (vals_pk (vals_pk (vals_pk (vals_pk (vals_pk (vals_pk (vals_pk (vals_pk .nil 8 r3) 7 r3) 6 r3) 5 r3) 4 r3) 3 r3) 2 r3) 1 r3) 0 r3) 2 r1) 1 r1) 0 r1)) (fun W vs ds zs es h1 h2 r1 r2 => ?_) (fun us mv ws h1 h2 h3 => ?_) (fun D doc pm an cdv ct us mv ws h1 h2 h3 => ?_)
  · have rm : Reps K W ([] : List V) ([] : List D) := .nil
    exact (reps_pk (reps_pk (reps_pk (reps_pk (reps_pk (reps_pk (reps_pk (reps_pk (reps_pk (reps_pk (reps_pk (reps_pk .nil 8 r2) 7 r2) 6 r2) 5 r2) 4 r2) 3 r2) 2 r2) 1 r2) 0 r2) 2 r1) 1 r1) 0 r1)
  · match us, mv, ws, h1, h2, h3 with | [_, _, _], [], [_, _, _, _, _, _, _, _, _], _, _, _ => rfl
  · match us, mv, ws, h1, h2, h3 with | [_, _, _], [], [_, _, _, _, _, _, _, _, _], _, _, _ => exact rfl
theorem Tops.b_Parcel_repr_1 (T : Tops K mg) : Dfl K T.d_Parcel_repr ["self"] 1 [] := dfl0 (T.F_Parcel_repr.bindsN fun _ _ _ _ _ _ us hl => match us, hl with | [_], _ => rfl)
theorem Tops.b_law_parts_1 (T : Tops K mg) : Dfl K T.d_law_parts ["_law_one"] 1 [] := dfl0 (T.F_law_parts.bindsN fun _ _ _ _ _ _ us hl => match us, hl with | [_], _ => rfl)
theorem Tops.b_Parcel_str_1 (T : Tops K mg) : Dfl K T.d_Parcel_str ["self"] 1 [] := dfl0 (T.F_Parcel_str.bindsN fun _ _ _ _ _ _ us hl => match us, hl with | [_], _ => rfl)
theorem Tops.b_Parcel_settings_1 (T : Tops K mg) : Dfl K T.d_Parcel_settings ["self"] 1 [] := dfl0 (T.F_Parcel_settings.bindsN fun _ _ _ _ _ _ us hl => match us, hl with | [_], _ => rfl)
theorem Tops.b_Parcel_files_1 (T : Tops K mg) : Dfl K T.d_Parcel_files ["self"] 1 [] := dfl0 (T.F_Parcel_files.bindsN fun _ _ _ _ _ _ us hl => match us, hl with | [_], _ => rfl)
theorem Tops.b_Parcel_clashes_1 (T : Tops K mg) : Dfl K T.d_Parcel_clashes ["self"] 1 [] := dfl0 (T.F_Parcel_clashes.bindsN fun _ _ _ _ _ _ us hl => match us, hl with | [_], _ => rfl)
theorem Tops.b_Parcel_ahead_1 (T : Tops K mg) : Dfl K T.d_Parcel_ahead ["self"] 1 [] := dfl0 (T.F_Parcel_ahead.bindsN fun _ _ _ _ _ _ us hl => match us, hl with | [_], _ => rfl)
theorem Tops.b_Parcel_needs_1 (T : Tops K mg) : Dfl K T.d_Parcel_needs ["self"] 1 [] := dfl0 (T.F_Parcel_needs.bindsN fun _ _ _ _ _ _ us hl => match us, hl with | [_], _ => rfl)
theorem Tops.b_Parcel_edition_1 (T : Tops K mg) : Dfl K T.d_Parcel_edition ["self"] 1 [] := dfl0 (T.F_Parcel_edition.bindsN fun _ _ _ _ _ _ us hl => match us, hl with | [_], _ => rfl)
theorem Tops.b_Parcel_called_1 (T : Tops K mg) : Dfl K T.d_Parcel_called ["self"] 1 [] := dfl0 (T.F_Parcel_called.bindsN fun _ _ _ _ _ _ us hl => match us, hl with | [_], _ => rfl)
theorem Tops.b_Parcel_deeds_1 (T : Tops K mg) : Dfl K T.d_Parcel_deeds ["self"] 1 [] := dfl0 (T.F_Parcel_deeds.bindsN fun _ _ _ _ _ _ us hl => match us, hl with | [_], _ => rfl)
theorem Tops.b_Parcel_calls_1 (T : Tops K mg) : Dfl K T.d_Parcel_calls ["self"] 1 [] := dfl0 (T.F_Parcel_calls.bindsN fun _ _ _ _ _ _ us hl => match us, hl with | [_], _ => rfl)
theorem Tops.b_Parcel_choices_1 (T : Tops K mg) : Dfl K T.d_Parcel_choices ["self"] 1 [] := dfl0 (T.F_Parcel_choices.bindsN fun _ _ _ _ _ _ us hl => match us, hl with | [_], _ => rfl)
theorem Tops.b_Parcel_asides_1 (T : Tops K mg) : Dfl K T.d_Parcel_asides ["self"] 1 [] := dfl0 (T.F_Parcel_asides.bindsN fun _ _ _ _ _ _ us hl => match us, hl with | [_], _ => rfl)
theorem Tops.b_law_needs_4 (T : Tops K mg) : Dfl K T.d_law_needs ["_law_pool_here", "_law_who", "_law_every", "_law_many"] 4 [] := dfl0 (T.F_law_needs.bindsN fun _ _ _ _ _ _ us hl => match us, hl with | [_, _, _, _], _ => rfl)
theorem Tops.b_law_rising_3 (T : Tops K mg) : Dfl K T.d_law_rising ["_law_pool_here", "_law_menu", "_law_many"] 3 [] := dfl0 (T.F_law_rising.bindsN fun _ _ _ _ _ _ us hl => match us, hl with | [_, _, _], _ => rfl)
set_option maxHeartbeats 8000000 in
theorem ok_Parcel_eq (T : Tops K mg) : FnG P w K mg base 1 T.f_Parcel_eq T.d_Parcel_eq ["self", "other"] F_Parcel_eq := by
  refine FnG.framed <| FunD.g T.F_Parcel_eq sc_Parcel_eq fun cdv A outer s H E c => ?_
  exact (ds_cons (ds_if (dt_not (dtest_val (de_callB (cx_isiO (.own cC_Parcel) T.isc T.kt_Parcel) T.z_isinstance (da_cons (dv 1) (da_cons (de_glob (v := .ref (cl K cC_Parcel)) T.m_Parcel rfl fun _ => .glo _) da_nil))))) (ds_one (ds_ret dbool)) ds_nil)
    (ds_cons (ds_if (dt_w (dw_or (dt_cmp (opx_neX c.room.units) (de_at T.at_own_name (dv 0)) (de_at T.at_own_name (dv 1))) (dw_or1 (dt_cmp (opx_neX c.room.units) (de_at T.at_own_edition (dv 0)) (de_at T.at_own_edition (dv 1)))))) (ds_one (ds_ret dbool)) ds_nil)
    (ds_one (ds_ret (de_cmp (opx_eq c.room.units) (de_at T.at_own_parts (dv 0)) (de_at T.at_own_parts (dv 1)))))))
set_option maxHeartbeats 8000000 in
theorem ok_is_name (T : Tops K mg) : FnG P w K mg base 1 T.f_is_name T.d_is_name ["thing"] F_is_name := by
  refine FnG.framed <| FunD.g T.F_is_name sc_is_name fun cdv A outer s H E c => ?_
  exact (ds_one (ds_ret (de_and (de_callB cx_isi T.z_isinstance (da_cons (dv 0) (da_cons (de_ty T.z_str) da_nil))) (de_and (de_chain opx_le opx_le dint (de_callB cx_len T.z_len (da_cons (dv 0) da_nil)) (de_glob T.c_MOST_NAME.2 (v := .int 8) ⟨_, rfl⟩ fun _ => .int _)) (de_one (de_callB (cx_all rfl) T.z_all (da_cons (de_lc [("sign", 1)] rfl sc_is_name.nd (di_any (dv 0)) (blkOk_by (N := ["thing", "sign"]) (sc := defScope s_is_name) (by decide +kernel)) (fun s1 H1 C1 cl1 fp1 => (dg_name sc_is_name.nd)) (fun s1 H1 C1 cl1 fp1 => dts_nil) (fun s1 H1 C1 cl1 fp1 => (de_cmp (opx_in (c.blk s1 H1 _ _ fp1).room.units) (dv 1) (de_glob T.c_LETTERS.2 (v := .str "abcdefghijklmnopqrstuvwxyz") ⟨_, rfl⟩ fun _ => .str _ (by decide +kernel))))) da_nil)))))))
set_option maxHeartbeats 8000000 in
theorem ok_is_path (T : Tops K mg) : FnG P w K mg base 2 T.f_is_path T.d_is_path ["thing"] F_is_path := by
  have G_is_name := ok_is_name (P := P) (w := w) (base := base) T
  refine FnG.framed <| FunD.g T.F_is_path sc_is_path fun cdv A outer s H E c => ?_
  exact (ds_cons (ds_if (dt_not (dtest_val (de_callB cx_isi T.z_isinstance (da_cons (dv 0) (da_cons (de_ty T.z_str) da_nil))))) (ds_one (ds_ret dbool)) ds_nil)
    (ds_cons (ds_set 1 sc_is_path.nd (de_bm PySem.F.plainAttrs_str PySem.F.slot_str_split PySem.F.type_str_split mx_split (dv 0) (da_cons dstr da_nil)))
    (ds_one (ds_ret (de_and (de_cmp opx_le (de_callB cx_len T.z_len (da_cons (dv 1) da_nil)) (de_glob T.c_MOST_NAMES.2 (v := .int 3) ⟨_, rfl⟩ fun _ => .int _)) (de_one (de_callB (cx_all rfl) T.z_all (da_cons (de_lc [("one", 2)] rfl sc_is_path.nd (di_any (dv 1)) (blkOk_by (N := ["thing", "names", "one"]) (sc := defScope s_is_path) (by decide +kernel)) (fun s1 H1 C1 cl1 fp1 => (dg_name sc_is_path.nd)) (fun s1 H1 C1 cl1 fp1 => dts_nil) (fun s1 H1 C1 cl1 fp1 => (de_call G_is_name ((c.blk s1 H1 _ _ fp1).mono (by decide)) T.m_is_name T.F_is_name.kp T.b_is_name_1 (da_cons (dv 2) da_nil)))) da_nil))))))))
set_option maxHeartbeats 8000000 in
theorem ok_is_tuple (T : Tops K mg) : FnG P w K mg base 1 T.f_is_tuple T.d_is_tuple ["thing", "many"] F_is_tuple := by
  refine FnG.framed <| FunD.g T.F_is_tuple sc_is_tuple fun cdv A outer s H E c => ?_
  exact (ds_one (ds_ret (de_and (de_callB cx_isi T.z_isinstance (da_cons (dv 0) (da_cons (de_ty T.z_tuple) da_nil))) (de_one (de_cmp (opx_eq c.room.units) (de_callB cx_len T.z_len (da_cons (dv 0) da_nil)) (dv 1))))))
set_option maxHeartbeats 8000000 in
theorem ok_is_aside (T : Tops K mg) : FnG P w K mg base 3 T.f_is_aside T.d_is_aside ["thing"] F_is_aside := by
  have G_is_path := ok_is_path (P := P) (w := w) (base := base) T
  have G_is_tuple := ok_is_tuple (P := P) (w := w) (base := base) T
  refine FnG.framed <| FunD.g T.F_is_aside sc_is_aside fun cdv A outer s H E c => ?_
  exact (ds_one (ds_ret (de_and (de_call G_is_tuple (c.mono (by decide)) T.m_is_tuple T.F_is_tuple.kp T.b_is_tuple_2 (da_cons (dv 0) (da_cons dint da_nil))) (de_and (de_call G_is_path (c.mono (by decide)) T.m_is_path T.F_is_path.kp T.b_is_path_1 (da_cons (de_ix (dv 0) dint) da_nil)) (de_one (de_call G_is_path (c.mono (by decide)) T.m_is_path T.F_is_path.kp T.b_is_path_1 (da_cons (de_ix (dv 0) dint) da_nil)))))))
set_option maxHeartbeats 8000000 in
theorem ok_is_whole (T : Tops K mg) : FnG P w K mg base 1 T.f_is_whole T.d_is_whole ["thing"] F_is_whole := by
  refine FnG.framed <| FunD.g T.F_is_whole sc_is_whole fun cdv A outer s H E c => ?_
  exact (ds_one (ds_ret (de_and (de_callB cx_isi T.z_isinstance (da_cons (dv 0) (da_cons (de_ty T.z_int) da_nil))) (de_one (de_not (de_callB cx_isi T.z_isinstance (da_cons (dv 0) (da_cons (de_ty T.z_bool) da_nil))))))))
set_option maxHeartbeats 8000000 in
theorem ok_is_from (T : Tops K mg) : FnG P w K mg base 2 T.f_is_from T.d_is_from ["thing", "least", "most"] F_is_from := by
  have G_is_whole := ok_is_whole (P := P) (w := w) (base := base) T
  refine FnG.framed <| FunD.g T.F_is_from sc_is_from fun cdv A outer s H E c => ?_
  exact (ds_one (ds_ret (de_and (de_call G_is_whole (c.mono (by decide)) T.m_is_whole T.F_is_whole.kp T.b_is_whole_1 (da_cons (dv 0) da_nil)) (de_one (de_chain opx_le opx_le (dv 1) (dv 0) (dv 2))))))
set_option maxHeartbeats 8000000 in
theorem ok_is_choice (T : Tops K mg) : FnG P w K mg base 3 T.f_is_choice T.d_is_choice ["thing"] F_is_choice := by
  have G_is_from := ok_is_from (P := P) (w := w) (base := base) T
  have G_is_path := ok_is_path (P := P) (w := w) (base := base) T
  have G_is_tuple := ok_is_tuple (P := P) (w := w) (base := base) T
  refine FnG.framed <| FunD.g T.F_is_choice sc_is_choice fun cdv A outer s H E c => ?_
  exact (ds_one (ds_ret (de_and (de_call G_is_tuple (c.mono (by decide)) T.m_is_tuple T.F_is_tuple.kp T.b_is_tuple_2 (da_cons (dv 0) (da_cons dint da_nil))) (de_and (de_call G_is_path (c.mono (by decide)) T.m_is_path T.F_is_path.kp T.b_is_path_1 (da_cons (de_ix (dv 0) dint) da_nil)) (de_and (de_call G_is_path (c.mono (by decide)) T.m_is_path T.F_is_path.kp T.b_is_path_1 (da_cons (de_ix (dv 0) dint) da_nil)) (de_one (de_callK G_is_from (c.mono (by decide)) T.m_is_from T.F_is_from.kp T.b_is_from_1_most (da_cons (de_ix (dv 0) dint) da_nil) (dk_cons (de_glob T.c_MOST_RANK.2 (v := .int 99) ⟨_, rfl⟩ fun _ => .int _) dk_nil))))))))
set_option maxHeartbeats 8000000 in
theorem ok_is_edition (T : Tops K mg) : FnG P w K mg base 3 T.f_is_edition T.d_is_edition ["thing"] F_is_edition := by
  have G_is_from := ok_is_from (P := P) (w := w) (base := base) T
  refine FnG.framed <| FunD.g T.F_is_edition sc_is_edition fun cdv A outer s H E c => ?_
  exact (ds_one (ds_ret (de_callK G_is_from (c.mono (by decide)) T.m_is_from T.F_is_from.kp T.b_is_from_1_least_most (da_cons (dv 0) da_nil) (dk_cons dint (dk_cons (de_glob T.c_MOST_EDITION.2 (v := .int 999) ⟨_, rfl⟩ fun _ => .int _) dk_nil)))))
set_option maxHeartbeats 8000000 in
theorem ok_is_clash (T : Tops K mg) : FnG P w K mg base 4 T.f_is_clash T.d_is_clash ["thing"] F_is_clash := by
  have G_is_edition := ok_is_edition (P := P) (w := w) (base := base) T
  have G_is_name := ok_is_name (P := P) (w := w) (base := base) T
  have G_is_tuple := ok_is_tuple (P := P) (w := w) (base := base) T
  refine FnG.framed <| FunD.g T.F_is_clash sc_is_clash fun cdv A outer s H E c => ?_
  exact (ds_cons (ds_if (dt_w (dw_or (dt_not (dtest_val (de_call G_is_tuple (c.mono (by decide)) T.m_is_tuple T.F_is_tuple.kp T.b_is_tuple_2 (da_cons (dv 0) (da_cons dint da_nil))))) (dw_or1 (dt_not (dtest_val (de_call G_is_name (c.mono (by decide)) T.m_is_name T.F_is_name.kp T.b_is_name_1 (da_cons (de_ix (dv 0) dint) da_nil))))))) (ds_one (ds_ret dbool)) ds_nil)
    (ds_one (ds_ret (de_and (de_call G_is_edition (c.mono (by decide)) T.m_is_edition T.F_is_edition.kp T.b_is_edition_1 (da_cons (de_ix (dv 0) dint) da_nil)) (de_and (de_call G_is_edition (c.mono (by decide)) T.m_is_edition T.F_is_edition.kp T.b_is_edition_1 (da_cons (de_ix (dv 0) dint) da_nil)) (de_one (de_cmp opx_le (de_ix (dv 0) dint) (de_ix (dv 0) dint))))))))
set_option maxHeartbeats 8000000 in
theorem ok_is_deed (T : Tops K mg) : FnG P w K mg base 3 T.f_is_deed T.d_is_deed ["thing"] F_is_deed := by
  have G_is_from := ok_is_from (P := P) (w := w) (base := base) T
  have G_is_name := ok_is_name (P := P) (w := w) (base := base) T
  have G_is_tuple := ok_is_tuple (P := P) (w := w) (base := base) T
  refine FnG.framed <| FunD.g T.F_is_deed sc_is_deed fun cdv A outer s H E c => ?_
  exact (ds_cons (ds_if (dt_w (dw_or (dt_not (dtest_val (de_call G_is_tuple (c.mono (by decide)) T.m_is_tuple T.F_is_tuple.kp T.b_is_tuple_2 (da_cons (dv 0) (da_cons dint da_nil))))) (dw_or (dt_not (dtest_val (de_callB cx_isi T.z_isinstance (da_cons (de_ix (dv 0) dint) (da_cons (de_ty T.z_str) da_nil))))) (dw_or1 (dt_cmp (opx_notin c.room.units) (de_ix (dv 0) dint) (de_glob T.c_WHENS.2.1 (v := T.c_WHENS.1.2) T.c_WHENS.2.2.1 T.c_WHENS.2.2.2)))))) (ds_one (ds_ret dbool)) ds_nil)
    (ds_one (ds_ret (de_and (de_call G_is_name (c.mono (by decide)) T.m_is_name T.F_is_name.kp T.b_is_name_1 (da_cons (de_ix (dv 0) dint) da_nil)) (de_one (de_callK G_is_from (c.mono (by decide)) T.m_is_from T.F_is_from.kp T.b_is_from_1_least_most (da_cons (de_ix (dv 0) dint) da_nil) (dk_cons (de_neg (de_glob T.c_MOST_BY.2 (v := .int 99) ⟨_, rfl⟩ fun _ => .int _)) (dk_cons (de_glob T.c_MOST_BY.2 (v := .int 99) ⟨_, rfl⟩ fun _ => .int _) dk_nil))))))))
set_option maxHeartbeats 8000000 in
theorem ok_is_worth (T : Tops K mg) : FnG P w K mg base 3 T.f_is_worth T.d_is_worth ["thing"] F_is_worth := by
  have G_is_from := ok_is_from (P := P) (w := w) (base := base) T
  refine FnG.framed <| FunD.g T.F_is_worth sc_is_worth fun cdv A outer s H E c => ?_
  exact (ds_one (ds_ret (de_callK G_is_from (c.mono (by decide)) T.m_is_from T.F_is_from.kp T.b_is_from_1_most (da_cons (dv 0) da_nil) (dk_cons (de_glob T.c_MOST_WORTH.2 (v := .int 1000000000) ⟨_, rfl⟩ fun _ => .int _) dk_nil))))
set_option maxHeartbeats 8000000 in
theorem ok_is_file (T : Tops K mg) : FnG P w K mg base 4 T.f_is_file T.d_is_file ["thing"] F_is_file := by
  have G_is_path := ok_is_path (P := P) (w := w) (base := base) T
  have G_is_tuple := ok_is_tuple (P := P) (w := w) (base := base) T
  have G_is_worth := ok_is_worth (P := P) (w := w) (base := base) T
  refine FnG.framed <| FunD.g T.F_is_file sc_is_file fun cdv A outer s H E c => ?_
  exact (ds_one (ds_ret (de_and (de_call G_is_tuple (c.mono (by decide)) T.m_is_tuple T.F_is_tuple.kp T.b_is_tuple_2 (da_cons (dv 0) (da_cons dint da_nil))) (de_and (de_call G_is_path (c.mono (by decide)) T.m_is_path T.F_is_path.kp T.b_is_path_1 (da_cons (de_ix (dv 0) dint) da_nil)) (de_one (de_call G_is_worth (c.mono (by decide)) T.m_is_worth T.F_is_worth.kp T.b_is_worth_1 (da_cons (de_ix (dv 0) dint) da_nil)))))))
set_option maxHeartbeats 8000000 in
theorem ok_is_option (T : Tops K mg) : FnG P w K mg base 4 T.f_is_option T.d_is_option ["thing"] F_is_option := by
  have G_is_edition := ok_is_edition (P := P) (w := w) (base := base) T
  have G_is_name := ok_is_name (P := P) (w := w) (base := base) T
  have G_is_tuple := ok_is_tuple (P := P) (w := w) (base := base) T
  refine FnG.framed <| FunD.g T.F_is_option sc_is_option fun cdv A outer s H E c => ?_
  exact (ds_one (ds_ret (de_and (de_call G_is_tuple (c.mono (by decide)) T.m_is_tuple T.F_is_tuple.kp T.b_is_tuple_2 (da_cons (dv 0) (da_cons dint da_nil))) (de_and (de_call G_is_name (c.mono (by decide)) T.m_is_name T.F_is_name.kp T.b_is_name_1 (da_cons (de_ix (dv 0) dint) da_nil)) (de_one (de_call G_is_edition (c.mono (by decide)) T.m_is_edition T.F_is_edition.kp T.b_is_edition_1 (da_cons (de_ix (dv 0) dint) da_nil)))))))
set_option maxHeartbeats 8000000 in
theorem ok_are_all_v1 (T : Tops K mg) : FnG P w K mg base 5 T.f_are_all T.d_are_all ["thing", "most", "fits"] F_are_all_v1 := by
  have G_is_option := ok_is_option (P := P) (w := w) (base := base) T
  refine FnG.framed <| FunD.g T.F_are_all sc_are_all fun cdv A outer s H E c => ?_
  exact (ds_one (ds_ret (de_and (de_callB cx_isi T.z_isinstance (da_cons (dv 0) (da_cons (de_ty T.z_tuple) da_nil))) (de_and (de_cmp opx_le (de_callB cx_len T.z_len (da_cons (dv 0) da_nil)) (dv 1)) (de_one (de_callB (cx_all rfl) T.z_all (da_cons (de_lc [("one", 3)] rfl sc_are_all.nd (di_any (dv 0)) (blkOk_by (N := ["thing", "most", "fits", "one"]) (sc := defScope s_are_all) (by decide +kernel)) (fun s1 H1 C1 cl1 fp1 => (dg_name sc_are_all.nd)) (fun s1 H1 C1 cl1 fp1 => dts_nil) (fun s1 H1 C1 cl1 fp1 => (de_choose (de_callL cv_is_option T.fv_is_option G_is_option ((c.blk s1 H1 _ _ fp1).mono (by decide)) 2 T.F_is_option.kp T.b_is_option_1 (da_cons (dv 3) da_nil)) de_bad))) da_nil)))))))
set_option maxHeartbeats 8000000 in
theorem ok_heads_of (T : Tops K mg) : FnG P w K mg base 1 T.f_heads_of T.d_heads_of ["some"] F_heads_of := by
  refine FnG.framed <| FunD.g T.F_heads_of sc_heads_of fun cdv A outer s H E c => ?_
  exact (ds_one (ds_ret (de_lc [("one", 1)] rfl sc_heads_of.nd (di_any (dv 0)) (blkOk_by (N := ["some", "one"]) (sc := defScope s_heads_of) (by decide +kernel)) (fun s1 H1 C1 cl1 fp1 => (dg_name sc_heads_of.nd)) (fun s1 H1 C1 cl1 fp1 => dts_nil) (fun s1 H1 C1 cl1 fp1 => (de_ix (dv 1) dint)))))
set_option maxHeartbeats 8000000 in
theorem ok_is_need (T : Tops K mg) : FnG P w K mg base 6 T.f_is_need T.d_is_need ["thing"] F_is_need := by
  have G_are_all_v1 := ok_are_all_v1 (P := P) (w := w) (base := base) T
  have G_heads_of := ok_heads_of (P := P) (w := w) (base := base) T
  refine FnG.framed <| FunD.g T.F_is_need sc_is_need fun cdv A outer s H E c => ?_
  exact (ds_cons (ds_if (dt_w (dw_or (dt_not (dtest_val (de_call G_are_all_v1 (c.mono (by decide)) T.m_are_all T.F_are_all.kp T.b_are_all_3 (da_cons (dv 0) (da_cons (de_glob T.c_MOST_OPTIONS.2 (v := .int 3) ⟨_, rfl⟩ fun _ => .int _) (da_cons (de_fn cv_is_option T.mv_is_option) da_nil)))))) (dw_or1 (dt_cmp (opx_eq c.room.units) (dv 0) (de_tup da_nil))))) (ds_one (ds_ret dbool)) ds_nil)
    (ds_one (ds_ret (de_cmp (opx_eq c.room.units) (de_lensetX T.z_len T.z_set (de_call G_heads_of (c.mono (by decide)) T.m_heads_of T.F_heads_of.kp T.b_heads_of_1 (da_cons (dv 0) da_nil))) (de_callB cx_len T.z_len (da_cons (dv 0) da_nil))))))
set_option maxHeartbeats 8000000 in
theorem ok_are_all_v2 (T : Tops K mg) : FnG P w K mg base 7 T.f_are_all T.d_are_all ["thing", "most", "fits"] F_are_all_v2 := by
  have G_is_aside := ok_is_aside (P := P) (w := w) (base := base) T
  have G_is_choice := ok_is_choice (P := P) (w := w) (base := base) T
  have G_is_clash := ok_is_clash (P := P) (w := w) (base := base) T
  have G_is_deed := ok_is_deed (P := P) (w := w) (base := base) T
  have G_is_file := ok_is_file (P := P) (w := w) (base := base) T
  have G_is_name := ok_is_name (P := P) (w := w) (base := base) T
  have G_is_need := ok_is_need (P := P) (w := w) (base := base) T
  refine FnG.framed <| FunD.g T.F_are_all sc_are_all fun cdv A outer s H E c => ?_
  exact (ds_one (ds_ret (de_and (de_callB cx_isi T.z_isinstance (da_cons (dv 0) (da_cons (de_ty T.z_tuple) da_nil))) (de_and (de_cmp opx_le (de_callB cx_len T.z_len (da_cons (dv 0) da_nil)) (dv 1)) (de_one (de_callB (cx_all rfl) T.z_all (da_cons (de_lc [("one", 3)] rfl sc_are_all.nd (di_any (dv 0)) (blkOk_by (N := ["thing", "most", "fits", "one"]) (sc := defScope s_are_all) (by decide +kernel)) (fun s1 H1 C1 cl1 fp1 => (dg_name sc_are_all.nd)) (fun s1 H1 C1 cl1 fp1 => dts_nil) (fun s1 H1 C1 cl1 fp1 => (de_choose (de_callL cv_is_need T.fv_is_need G_is_need ((c.blk s1 H1 _ _ fp1).mono (by decide)) 2 T.F_is_need.kp T.b_is_need_1 (da_cons (dv 3) da_nil)) (de_choose (de_callL cv_is_clash T.fv_is_clash G_is_clash ((c.blk s1 H1 _ _ fp1).mono (by decide)) 2 T.F_is_clash.kp T.b_is_clash_1 (da_cons (dv 3) da_nil)) (de_choose (de_callL cv_is_file T.fv_is_file G_is_file ((c.blk s1 H1 _ _ fp1).mono (by decide)) 2 T.F_is_file.kp T.b_is_file_1 (da_cons (dv 3) da_nil)) (de_choose (de_callL cv_is_aside T.fv_is_aside G_is_aside ((c.blk s1 H1 _ _ fp1).mono (by decide)) 2 T.F_is_aside.kp T.b_is_aside_1 (da_cons (dv 3) da_nil)) (de_choose (de_callL cv_is_choice T.fv_is_choice G_is_choice ((c.blk s1 H1 _ _ fp1).mono (by decide)) 2 T.F_is_choice.kp T.b_is_choice_1 (da_cons (dv 3) da_nil)) (de_choose (de_callL cv_is_name T.fv_is_name G_is_name ((c.blk s1 H1 _ _ fp1).mono (by decide)) 2 T.F_is_name.kp T.b_is_name_1 (da_cons (dv 3) da_nil)) (de_choose (de_callL cv_is_deed T.fv_is_deed G_is_deed ((c.blk s1 H1 _ _ fp1).mono (by decide)) 2 T.F_is_deed.kp T.b_is_deed_1 (da_cons (dv 3) da_nil)) de_bad))))))))) da_nil)))))))
set_option maxHeartbeats 8000000 in
theorem ok_rise (T : Tops K mg) : FnG P w K mg base 1 T.f_rise T.d_rise ["some"] F_rise := by
  refine FnG.framed <| FunD.g T.F_rise sc_rise fun cdv A outer s H E c => ?_
  exact (ds_one (ds_ret (de_callB (cx_all rfl) T.z_all (da_cons (de_lc [("one", 1), ("other", 2)] rfl sc_rise.nd (di_zip T.z_zip (da_cons (dv 0) (da_cons (de_slice (dv 0) (do_some dint) do_none) da_nil))) (blkOk_by (N := ["some", "one", "other"]) (sc := defScope s_rise) (by decide +kernel)) (fun s1 H1 C1 cl1 fp1 => (dg_tup rfl (dgs_cons (dg_name sc_rise.nd) (dgs_cons (dg_name sc_rise.nd) dgs_nil)))) (fun s1 H1 C1 cl1 fp1 => dts_nil) (fun s1 H1 C1 cl1 fp1 => (de_cmp opx_lt (dv 1) (dv 2)))) da_nil))))
set_option maxHeartbeats 8000000 in
theorem ok_are_rising (T : Tops K mg) : FnG P w K mg base 8 T.f_are_rising T.d_are_rising ["thing", "most", "fits"] F_are_rising := by
  have G_are_all_v2 := ok_are_all_v2 (P := P) (w := w) (base := base) T
  have G_heads_of := ok_heads_of (P := P) (w := w) (base := base) T
  have G_rise := ok_rise (P := P) (w := w) (base := base) T
  refine FnG.framed <| FunD.g T.F_are_rising sc_are_rising fun cdv A outer s H E c => ?_
  exact (ds_one (ds_ret (de_and (de_call G_are_all_v2 (c.mono (by decide)) T.m_are_all T.F_are_all.kp T.b_are_all_3 (da_cons (dv 0) (da_cons (dv 1) (da_cons (dv 2) da_nil)))) (de_one (de_call G_rise (c.mono (by decide)) T.m_rise T.F_rise.kp T.b_rise_1 (da_cons (de_call G_heads_of (c.mono (by decide)) T.m_heads_of T.F_heads_of.kp T.b_heads_of_1 (da_cons (dv 0) da_nil)) da_nil))))))
set_option maxHeartbeats 8000000 in
theorem ok_are_asides (T : Tops K mg) : FnG P w K mg base 9 T.f_are_asides T.d_are_asides ["thing", "files", "settings"] F_are_asides := by
  have G_are_rising := ok_are_rising (P := P) (w := w) (base := base) T
  have G_heads_of := ok_heads_of (P := P) (w := w) (base := base) T
  refine FnG.framed <| FunD.g T.F_are_asides sc_are_asides fun cdv A outer s H E c => ?_
  exact (ds_cons (ds_if (dt_not (dtest_val (de_call G_are_rising (c.mono (by decide)) T.m_are_rising T.F_are_rising.kp T.b_are_rising_3 (da_cons (dv 0) (da_cons dint (da_cons (de_fn cv_is_aside T.mv_is_aside) da_nil)))))) (ds_one (ds_ret dbool)) ds_nil)
    (ds_cons (ds_set 3 sc_are_asides.nd (de_call G_heads_of (c.mono (by decide)) T.m_heads_of T.F_heads_of.kp T.b_heads_of_1 (da_cons (dv 0) da_nil)))
    (ds_cons (ds_setLc 4 [("path", 5), ("other", 6)] rfl sc_are_asides.nd (di_any (dv 0)) (blkOk_by (N := ["thing", "files", "settings", "paths", "others", "path", "other"]) (sc := defScope s_are_asides) (by decide +kernel)) (fun s1 H1 C1 cl1 fp1 => (dg_tup rfl (dgs_cons (dg_name sc_are_asides.nd) (dgs_cons (dg_name sc_are_asides.nd) dgs_nil)))) (fun s1 H1 C1 cl1 fp1 => dts_nil) (fun s1 H1 C1 cl1 fp1 => (dv 6)))
    (ds_cons (ds_if (dt_w (dw_or (dt_cmp (opx_neX c.room.units) (de_lensetX T.z_len T.z_set (dv 4)) (de_callB cx_len T.z_len (da_cons (dv 4) da_nil))) (dw_or1 (dtest_val (de_callB (cx_any rfl) T.z_any (da_cons (de_lc [("path", 5)] rfl sc_are_asides.nd (di_any (dv 3)) (blkOk_by (N := ["thing", "files", "settings", "paths", "others", "path", "other"]) (sc := defScope s_are_asides) (by decide +kernel)) (fun s1 H1 C1 cl1 fp1 => (dg_name sc_are_asides.nd)) (fun s1 H1 C1 cl1 fp1 => dts_nil) (fun s1 H1 C1 cl1 fp1 => (de_cmp (opx_in (c.blk s1 H1 _ _ fp1).room.units) (dv 5) (de_call G_heads_of ((c.blk s1 H1 _ _ fp1).mono (by decide)) T.m_heads_of T.F_heads_of.kp T.b_heads_of_1 (da_cons (dv 2) da_nil))))) da_nil)))))) (ds_one (ds_ret dbool)) ds_nil)
    (ds_one (ds_ret (de_not (de_callB (cx_any rfl) T.z_any (da_cons (de_lc [("other", 6)] rfl sc_are_asides.nd (di_any (dv 4)) (blkOk_by (N := ["thing", "files", "settings", "paths", "others", "path", "other"]) (sc := defScope s_are_asides) (by decide +kernel)) (fun s1 H1 C1 cl1 fp1 => (dg_name sc_are_asides.nd)) (fun s1 H1 C1 cl1 fp1 => dts_nil) (fun s1 H1 C1 cl1 fp1 => (de_cmp (opx_in (c.blk s1 H1 _ _ fp1).room.units) (dv 6) (de_bin opx_addX (de_bin opx_addX (dv 3) (de_call G_heads_of ((c.blk s1 H1 _ _ fp1).mono (by decide)) T.m_heads_of T.F_heads_of.kp T.b_heads_of_1 (da_cons (dv 1) da_nil))) (de_call G_heads_of ((c.blk s1 H1 _ _ fp1).mono (by decide)) T.m_heads_of T.F_heads_of.kp T.b_heads_of_1 (da_cons (dv 2) da_nil)))))) da_nil)))))))))
set_option maxHeartbeats 8000000 in
theorem ok_are_calls (T : Tops K mg) : FnG P w K mg base 8 T.f_are_calls T.d_are_calls ["thing"] F_are_calls := by
  have G_are_all_v2 := ok_are_all_v2 (P := P) (w := w) (base := base) T
  have G_rise := ok_rise (P := P) (w := w) (base := base) T
  refine FnG.framed <| FunD.g T.F_are_calls sc_are_calls fun cdv A outer s H E c => ?_
  exact (ds_one (ds_ret (de_and (de_call G_are_all_v2 (c.mono (by decide)) T.m_are_all T.F_are_all.kp T.b_are_all_3 (da_cons (dv 0) (da_cons dint (da_cons (de_fn cv_is_name T.mv_is_name) da_nil)))) (de_one (de_call G_rise (c.mono (by decide)) T.m_rise T.F_rise.kp T.b_rise_1 (da_cons (dv 0) da_nil))))))
set_option maxHeartbeats 8000000 in
theorem ok_are_choices (T : Tops K mg) : FnG P w K mg base 9 T.f_are_choices T.d_are_choices ["thing", "files", "settings"] F_are_choices := by
  have G_are_rising := ok_are_rising (P := P) (w := w) (base := base) T
  have G_heads_of := ok_heads_of (P := P) (w := w) (base := base) T
  refine FnG.framed <| FunD.g T.F_are_choices sc_are_choices fun cdv A outer s H E c => ?_
  exact (ds_cons (ds_if (dt_not (dtest_val (de_call G_are_rising (c.mono (by decide)) T.m_are_rising T.F_are_rising.kp T.b_are_rising_3 (da_cons (dv 0) (da_cons dint (da_cons (de_fn cv_is_choice T.mv_is_choice) da_nil)))))) (ds_one (ds_ret dbool)) ds_nil)
    (ds_cons (ds_if (dtest_val (de_callB (cx_any rfl) T.z_any (da_cons (de_lc [("path", 3)] rfl sc_are_choices.nd (di_any (de_call G_heads_of (c.mono (by decide)) T.m_heads_of T.F_heads_of.kp T.b_heads_of_1 (da_cons (dv 0) da_nil))) (blkOk_by (N := ["thing", "files", "settings", "path", "target", "rank"]) (sc := defScope s_are_choices) (by decide +kernel)) (fun s1 H1 C1 cl1 fp1 => (dg_name sc_are_choices.nd)) (fun s1 H1 C1 cl1 fp1 => dts_nil) (fun s1 H1 C1 cl1 fp1 => (de_cmp (opx_in (c.blk s1 H1 _ _ fp1).room.units) (dv 3) (de_bin opx_addX (de_call G_heads_of ((c.blk s1 H1 _ _ fp1).mono (by decide)) T.m_heads_of T.F_heads_of.kp T.b_heads_of_1 (da_cons (dv 1) da_nil)) (de_call G_heads_of ((c.blk s1 H1 _ _ fp1).mono (by decide)) T.m_heads_of T.F_heads_of.kp T.b_heads_of_1 (da_cons (dv 2) da_nil)))))) da_nil))) (ds_one (ds_ret dbool)) ds_nil)
    (ds_one (ds_ret (de_callB (cx_all rfl) T.z_all (da_cons (de_lc [("path", 3), ("target", 4), ("rank", 5)] rfl sc_are_choices.nd (di_any (dv 0)) (blkOk_by (N := ["thing", "files", "settings", "path", "target", "rank"]) (sc := defScope s_are_choices) (by decide +kernel)) (fun s1 H1 C1 cl1 fp1 => (dg_tup rfl (dgs_cons (dg_name sc_are_choices.nd) (dgs_cons (dg_name sc_are_choices.nd) (dgs_cons (dg_name sc_are_choices.nd) dgs_nil))))) (fun s1 H1 C1 cl1 fp1 => dts_nil) (fun s1 H1 C1 cl1 fp1 => (de_cmp (opx_in (c.blk s1 H1 _ _ fp1).room.units) (dv 4) (de_call G_heads_of ((c.blk s1 H1 _ _ fp1).mono (by decide)) T.m_heads_of T.F_heads_of.kp T.b_heads_of_1 (da_cons (dv 1) da_nil))))) da_nil))))))
set_option maxHeartbeats 8000000 in
theorem ok_are_needs (T : Tops K mg) : FnG P w K mg base 8 T.f_are_needs T.d_are_needs ["name", "thing"] F_are_needs := by
  have G_are_all_v2 := ok_are_all_v2 (P := P) (w := w) (base := base) T
  have G_heads_of := ok_heads_of (P := P) (w := w) (base := base) T
  refine FnG.framed <| FunD.g T.F_are_needs sc_are_needs fun cdv A outer s H E c => ?_
  exact (ds_one (ds_ret (de_and (de_call G_are_all_v2 (c.mono (by decide)) T.m_are_all T.F_are_all.kp T.b_are_all_3 (da_cons (dv 1) (da_cons dint (da_cons (de_fn cv_is_need T.mv_is_need) da_nil)))) (de_one (de_not (de_callB (cx_any rfl) T.z_any (da_cons (de_lc [("need", 2)] rfl sc_are_needs.nd (di_any (dv 1)) (blkOk_by (N := ["name", "thing", "need"]) (sc := defScope s_are_needs) (by decide +kernel)) (fun s1 H1 C1 cl1 fp1 => (dg_name sc_are_needs.nd)) (fun s1 H1 C1 cl1 fp1 => dts_nil) (fun s1 H1 C1 cl1 fp1 => (de_cmp (opx_in (c.blk s1 H1 _ _ fp1).room.units) (dv 0) (de_call G_heads_of ((c.blk s1 H1 _ _ fp1).mono (by decide)) T.m_heads_of T.F_heads_of.kp T.b_heads_of_1 (da_cons (dv 2) da_nil))))) da_nil)))))))
set_option maxHeartbeats 8000000 in
theorem ok_Parcel_init (T : Tops K mg) : FnG P w K mg base 10 T.f_Parcel_init T.d_Parcel_init ["self", "name", "edition", "needs", "ahead", "clashes", "files", "settings", "asides", "choices", "calls", "deeds"] F_Parcel_init := by
  have G_are_all_v2 := ok_are_all_v2 (P := P) (w := w) (base := base) T
  have G_are_asides := ok_are_asides (P := P) (w := w) (base := base) T
  have G_are_calls := ok_are_calls (P := P) (w := w) (base := base) T
  have G_are_choices := ok_are_choices (P := P) (w := w) (base := base) T
  have G_are_needs := ok_are_needs (P := P) (w := w) (base := base) T
  have G_are_rising := ok_are_rising (P := P) (w := w) (base := base) T
  have G_heads_of := ok_heads_of (P := P) (w := w) (base := base) T
  have G_is_edition := ok_is_edition (P := P) (w := w) (base := base) T
  have G_is_name := ok_is_name (P := P) (w := w) (base := base) T
  refine FnG.framed <| FunD.g T.F_Parcel_init sc_Parcel_init fun cdv A outer s H E c => ?_
  exact (ds_cons (ds_if (dt_not (dtest_val (de_call G_is_name (c.mono (by decide)) T.m_is_name T.F_is_name.kp T.b_is_name_1 (da_cons (dv 1) da_nil)))) (ds_one ds_bad) ds_nil)
    (ds_cons (ds_if (dt_not (dtest_val (de_call G_is_edition (c.mono (by decide)) T.m_is_edition T.F_is_edition.kp T.b_is_edition_1 (da_cons (dv 2) da_nil)))) (ds_one ds_bad) ds_nil)
    (ds_cons (ds_if (dt_not (dtest_val (de_call G_are_needs (c.mono (by decide)) T.m_are_needs T.F_are_needs.kp T.b_are_needs_2 (da_cons (dv 1) (da_cons (dv 3) da_nil))))) (ds_one ds_bad) ds_nil)
    (ds_cons (ds_if (dt_not (dtest_val (de_call G_are_needs (c.mono (by decide)) T.m_are_needs T.F_are_needs.kp T.b_are_needs_2 (da_cons (dv 1) (da_cons (dv 4) da_nil))))) (ds_one ds_bad) ds_nil)
    (ds_cons (ds_if (dt_w (dw_or (dt_not (dtest_val (de_call G_are_all_v2 (c.mono (by decide)) T.m_are_all T.F_are_all.kp T.b_are_all_3 (da_cons (dv 5) (da_cons dint (da_cons (de_fn cv_is_clash T.mv_is_clash) da_nil)))))) (dw_or1 (dt_cmp (opx_in c.room.units) (dv 1) (de_call G_heads_of (c.mono (by decide)) T.m_heads_of T.F_heads_of.kp T.b_heads_of_1 (da_cons (dv 5) da_nil)))))) (ds_one ds_bad) ds_nil)
    (ds_cons (ds_if (dt_not (dtest_val (de_call G_are_rising (c.mono (by decide)) T.m_are_rising T.F_are_rising.kp T.b_are_rising_3 (da_cons (dv 6) (da_cons dint (da_cons (de_fn cv_is_file T.mv_is_file) da_nil)))))) (ds_one ds_bad) ds_nil)
    (ds_cons (ds_if (dt_w (dw_or (dt_not (dtest_val (de_call G_are_rising (c.mono (by decide)) T.m_are_rising T.F_are_rising.kp T.b_are_rising_3 (da_cons (dv 7) (da_cons dint (da_cons (de_fn cv_is_file T.mv_is_file) da_nil)))))) (dw_or1 (dtest_val (de_callB (cx_any rfl) T.z_any (da_cons (de_lc [("path", 12)] rfl sc_Parcel_init.nd (di_any (de_call G_heads_of (c.mono (by decide)) T.m_heads_of T.F_heads_of.kp T.b_heads_of_1 (da_cons (dv 7) da_nil))) (blkOk_by (N := ["self", "name", "edition", "needs", "ahead", "clashes", "files", "settings", "asides", "choices", "calls", "deeds", "path"]) (sc := defScope s_Parcel_init) (by decide +kernel)) (fun s1 H1 C1 cl1 fp1 => (dg_name sc_Parcel_init.nd)) (fun s1 H1 C1 cl1 fp1 => dts_nil) (fun s1 H1 C1 cl1 fp1 => (de_cmp (opx_in (c.blk s1 H1 _ _ fp1).room.units) (dv 12) (de_call G_heads_of ((c.blk s1 H1 _ _ fp1).mono (by decide)) T.m_heads_of T.F_heads_of.kp T.b_heads_of_1 (da_cons (dv 6) da_nil))))) da_nil)))))) (ds_one ds_bad) ds_nil)
    (ds_cons (ds_if (dt_not (dtest_val (de_call G_are_asides (c.mono (by decide)) T.m_are_asides T.F_are_asides.kp T.b_are_asides_3 (da_cons (dv 8) (da_cons (dv 6) (da_cons (dv 7) da_nil)))))) (ds_one ds_bad) ds_nil)
    (ds_cons (ds_if (dt_not (dtest_val (de_call G_are_choices (c.mono (by decide)) T.m_are_choices T.F_are_choices.kp T.b_are_choices_3 (da_cons (dv 9) (da_cons (dv 6) (da_cons (dv 7) da_nil)))))) (ds_one ds_bad) ds_nil)
    (ds_cons (ds_if (dt_not (dtest_val (de_call G_are_calls (c.mono (by decide)) T.m_are_calls T.F_are_calls.kp T.b_are_calls_1 (da_cons (dv 10) da_nil)))) (ds_one ds_bad) ds_nil)
    (ds_cons (ds_if (dt_not (dtest_val (de_call G_are_all_v2 (c.mono (by decide)) T.m_are_all T.F_are_all.kp T.b_are_all_3 (da_cons (dv 11) (da_cons dint (da_cons (de_fn cv_is_deed T.mv_is_deed) da_nil)))))) (ds_one ds_bad) ds_nil)
    (ds_cons (ds_setat T.at_own_name (dv 1) (dv 0))
    (ds_cons (ds_setat T.at_own_edition (dv 2) (dv 0))
    (ds_one (ds_setat T.at_own_parts (de_tup (da_cons (dv 3) (da_cons (dv 4) (da_cons (dv 5) (da_cons (dv 6) (da_cons (dv 7) (da_cons (dv 8) (da_cons (dv 9) (da_cons (dv 10) (da_cons (dv 11) da_nil)))))))))) (dv 0))))))))))))))))
set_option maxHeartbeats 8000000 in
theorem ok_law_great (T : Tops K mg) : FnG P w K mg base 1 T.f_law_great T.d_law_great [] F_law_great := by
  refine FnG.framed <| FunD.g T.F_law_great sc_law_great fun cdv A outer s H E c => ?_
  exact (ds_cons (ds_set 0 sc_law_great.nd (de_lst (da_cons dstr (da_cons dstr (da_cons dstr (da_cons dstr (da_cons dstr (da_cons dstr (da_cons dstr (da_cons dstr da_nil))))))))))
    (ds_cons (ds_set 1 sc_law_great.nd (de_lst (da_cons dstr (da_cons dstr (da_cons dstr (da_cons dstr (da_cons dstr (da_cons dstr (da_cons dstr (da_cons dstr da_nil))))))))))
    (ds_cons (ds_set 2 sc_law_great.nd (de_tup (da_cons (de_tup (da_cons dstr (da_cons dint da_nil))) (da_cons (de_tup (da_cons dstr (da_cons dint da_nil))) (da_cons (de_tup (da_cons dstr (da_cons dint da_nil))) da_nil)))))
    (ds_cons (ds_set 3 sc_law_great.nd (de_callTy cx_tupleX T.z_tuple (da_cons (de_lc [("_law_path", 6)] rfl sc_law_great.nd (di_any (de_callB cx_sorted T.z_sorted (da_cons (dv 0) da_nil))) (blkOk_by (N := ["_law_paths", "_law_others", "_law_need", "_law_filed", "_law_tuned", "_law_own", "_law_path"]) (sc := defScope s_law_great) (by decide +kernel)) (fun s1 H1 C1 cl1 fp1 => (dg_name sc_law_great.nd)) (fun s1 H1 C1 cl1 fp1 => dts_nil) (fun s1 H1 C1 cl1 fp1 => (de_tup (da_cons (dv 6) (da_cons (de_bin opx_pow dint dint) da_nil))))) da_nil)))
    (ds_cons (ds_set 4 sc_law_great.nd (de_callTy cx_tupleX T.z_tuple (da_cons (de_lc [("_law_path", 6)] rfl sc_law_great.nd (di_any (dv 1)) (blkOk_by (N := ["_law_paths", "_law_others", "_law_need", "_law_filed", "_law_tuned", "_law_own", "_law_path"]) (sc := defScope s_law_great) (by decide +kernel)) (fun s1 H1 C1 cl1 fp1 => (dg_name sc_law_great.nd)) (fun s1 H1 C1 cl1 fp1 => dts_nil) (fun s1 H1 C1 cl1 fp1 => (de_tup (da_cons (dv 6) (da_cons dint da_nil))))) da_nil)))
    (ds_cons (ds_set 5 sc_law_great.nd (de_tup (da_cons dstr (da_cons dint (da_cons (de_bin opx_mulX (de_tup (da_cons (dv 2) da_nil)) dint) (da_cons (de_bin opx_mulX (de_tup (da_cons (dv 2) da_nil)) dint) (da_cons (de_bin opx_mulX (de_tup (da_cons (de_tup (da_cons dstr (da_cons dint (da_cons dint da_nil)))) da_nil)) dint) (da_cons (dv 3) (da_cons (dv 4) da_nil)))))))))
    (ds_cons (ds_set 5 sc_law_great.nd (de_bin opx_addX (dv 5) (de_tup (da_cons (de_tup (da_cons (de_tup (da_cons dstr (da_cons dstr da_nil))) (da_cons (de_tup (da_cons dstr (da_cons dstr da_nil))) (da_cons (de_tup (da_cons dstr (da_cons dstr da_nil))) da_nil)))) (da_cons (de_tup (da_cons (de_tup (da_cons dstr (da_cons dstr (da_cons dint da_nil)))) (da_cons (de_tup (da_cons dstr (da_cons dstr (da_cons dint da_nil)))) (da_cons (de_tup (da_cons dstr (da_cons dstr (da_cons dint da_nil)))) da_nil)))) da_nil)))))
    (ds_one (ds_ret (de_bin opx_addX (dv 5) (de_tup (da_cons (de_tup (da_cons dstr (da_cons dstr (da_cons dstr (da_cons dstr da_nil))))) (da_cons (de_bin opx_mulX (de_tup (da_cons (de_tup (da_cons dstr (da_cons dstr (da_cons dint da_nil)))) (da_cons (de_tup (da_cons dstr (da_cons dstr (da_cons (de_neg dint) da_nil)))) da_nil))) dint) da_nil)))))))))))))
set_option maxHeartbeats 8000000 in
theorem ok_law_made (T : Tops K mg) : FnG P w K mg base 12 T.f_law_made T.d_law_made ["_law_own"] F_law_made := by
  have G_Parcel_init := ok_Parcel_init (P := P) (w := w) (base := base) T
  refine FnG.framed <| FunD.g T.F_law_made sc_law_made fun cdv A outer s H E c => ?_
  exact (ds_one (ds_ret (de_makeK T.mk_Parcel G_Parcel_init (c.mono (by decide)) T.m_Parcel T.b_Parcel_init_3_needs_ahead_clashes_files_settings_asides_choices_calls_deeds (fun _ => mkq_O) (da_cons (de_ix (dv 0) dint) (da_cons (de_ix (dv 0) dint) da_nil)) (dk_cons (de_ix (dv 0) dint) (dk_cons (de_ix (dv 0) dint) (dk_cons (de_ix (dv 0) dint) (dk_cons (de_ix (dv 0) dint) (dk_cons (de_ix (dv 0) dint) (dk_cons (de_ix (dv 0) dint) (dk_cons (de_ix (dv 0) dint) (dk_cons (de_ix (dv 0) dint) (dk_cons (de_ix (dv 0) dint) dk_nil))))))))))))
set_option maxHeartbeats 8000000 in
theorem ok_law_pool (T : Tops K mg) : FnG P w K mg base 1 T.f_law_pool T.d_law_pool ["_law_script", "_law_k"] F_law_pool := by
  refine FunD.g T.F_law_pool sc_law_pool fun cdv A outer s H E c => ?_
  exact (ds_cons (ds_set 2 sc_law_pool.nd dint)
    (ds_cons (ds_if (dt_cmp opx_lt (dv 1) (de_callB cx_len T.z_len (da_cons (dv 0) da_nil))) (ds_one (ds_set 2 sc_law_pool.nd (de_callB cx_abs T.z_abs (da_cons (de_ix (dv 0) (dv 1)) da_nil)))) ds_nil)
    (ds_cons (ds_set 3 sc_law_pool.nd (de_bin opx_mod (de_bin opx_mulX (de_bin opx_addX (de_bin opx_addX (de_bin opx_addX (de_bin opx_mod (dv 2) dint) (de_bin opx_mulX (de_bin opx_mulX dint (dv 1)) (dv 1))) (de_bin opx_mulX dint (dv 1))) dint) dint) dint))
    (ds_one (ds_ret (de_cel (da_cons (de_bin opx_mulX (dv 2) (de_callTy cx_int T.z_int (da_cons (de_cmp opx_ge (dv 2) (de_bin opx_pow dint dint)) da_nil))) (da_cons (de_bin opx_mod (de_bin opx_mulX (dv 3) (dv 3)) dint) da_nil))))))))
set_option maxHeartbeats 8000000 in
theorem ok_Parcel_repr (T : Tops K mg) : FnG P w K mg base 1 T.f_Parcel_repr T.d_Parcel_repr ["self"] F_Parcel_repr := by
  refine FnG.framed <| FunD.g T.F_Parcel_repr sc_Parcel_repr fun cdv A outer s H E c => ?_
  exact (ds_one (ds_ret (de_joined (.cons dstr (.cons (de_fmtR (de_at T.at_own_name (dv 0))) (.cons dstr (.cons (de_fmt (de_at T.at_own_edition (dv 0))) (.cons dstr .nil))))))))
set_option maxHeartbeats 8000000 in
theorem ok_Parcel_str (T : Tops K mg) : FnG P w K mg base 1 T.f_Parcel_str T.d_Parcel_str ["self"] F_Parcel_str := by
  refine FnG.framed <| FunD.g T.F_Parcel_str sc_Parcel_str fun cdv A outer s H E c => ?_
  exact (ds_one (ds_ret (de_joined (.cons (de_fmt (de_at T.at_own_name (dv 0))) (.cons dstr (.cons (de_fmt (de_at T.at_own_edition (dv 0))) .nil))))))
set_option maxHeartbeats 8000000 in
theorem ok_Parcel_ahead (T : Tops K mg) : FnG P w K mg base 1 T.f_Parcel_ahead T.d_Parcel_ahead ["self"] F_Parcel_ahead := by
  refine FnG.framed <| FunD.g T.F_Parcel_ahead sc_Parcel_ahead fun cdv A outer s H E c => ?_
  exact (ds_one (ds_ret (de_ix (de_at T.at_own_parts (dv 0)) dint)))
set_option maxHeartbeats 8000000 in
theorem ok_Parcel_asides (T : Tops K mg) : FnG P w K mg base 1 T.f_Parcel_asides T.d_Parcel_asides ["self"] F_Parcel_asides := by
  refine FnG.framed <| FunD.g T.F_Parcel_asides sc_Parcel_asides fun cdv A outer s H E c => ?_
  exact (ds_one (ds_ret (de_ix (de_at T.at_own_parts (dv 0)) dint)))
set_option maxHeartbeats 8000000 in
theorem ok_Parcel_called (T : Tops K mg) : FnG P w K mg base 1 T.f_Parcel_called T.d_Parcel_called ["self"] F_Parcel_called := by
  refine FnG.framed <| FunD.g T.F_Parcel_called sc_Parcel_called fun cdv A outer s H E c => ?_
  exact (ds_one (ds_ret (de_at T.at_own_name (dv 0))))
set_option maxHeartbeats 8000000 in
theorem ok_Parcel_calls (T : Tops K mg) : FnG P w K mg base 1 T.f_Parcel_calls T.d_Parcel_calls ["self"] F_Parcel_calls := by
  refine FnG.framed <| FunD.g T.F_Parcel_calls sc_Parcel_calls fun cdv A outer s H E c => ?_
  exact (ds_one (ds_ret (de_ix (de_at T.at_own_parts (dv 0)) dint)))
set_option maxHeartbeats 8000000 in
theorem ok_Parcel_choices (T : Tops K mg) : FnG P w K mg base 1 T.f_Parcel_choices T.d_Parcel_choices ["self"] F_Parcel_choices := by
  refine FnG.framed <| FunD.g T.F_Parcel_choices sc_Parcel_choices fun cdv A outer s H E c => ?_
  exact (ds_one (ds_ret (de_ix (de_at T.at_own_parts (dv 0)) dint)))
set_option maxHeartbeats 8000000 in
theorem ok_Parcel_clashes (T : Tops K mg) : FnG P w K mg base 1 T.f_Parcel_clashes T.d_Parcel_clashes ["self"] F_Parcel_clashes := by
  refine FnG.framed <| FunD.g T.F_Parcel_clashes sc_Parcel_clashes fun cdv A outer s H E c => ?_
  exact (ds_one (ds_ret (de_ix (de_at T.at_own_parts (dv 0)) dint)))
set_option maxHeartbeats 8000000 in
theorem ok_Parcel_deeds (T : Tops K mg) : FnG P w K mg base 1 T.f_Parcel_deeds T.d_Parcel_deeds ["self"] F_Parcel_deeds := by
  refine FnG.framed <| FunD.g T.F_Parcel_deeds sc_Parcel_deeds fun cdv A outer s H E c => ?_
  exact (ds_one (ds_ret (de_ix (de_at T.at_own_parts (dv 0)) dint)))
set_option maxHeartbeats 8000000 in
theorem ok_Parcel_edition (T : Tops K mg) : FnG P w K mg base 1 T.f_Parcel_edition T.d_Parcel_edition ["self"] F_Parcel_edition := by
  refine FnG.framed <| FunD.g T.F_Parcel_edition sc_Parcel_edition fun cdv A outer s H E c => ?_
  exact (ds_one (ds_ret (de_at T.at_own_edition (dv 0))))
set_option maxHeartbeats 8000000 in
theorem ok_Parcel_files (T : Tops K mg) : FnG P w K mg base 1 T.f_Parcel_files T.d_Parcel_files ["self"] F_Parcel_files := by
  refine FnG.framed <| FunD.g T.F_Parcel_files sc_Parcel_files fun cdv A outer s H E c => ?_
  exact (ds_one (ds_ret (de_ix (de_at T.at_own_parts (dv 0)) dint)))
set_option maxHeartbeats 8000000 in
theorem ok_Parcel_needs (T : Tops K mg) : FnG P w K mg base 1 T.f_Parcel_needs T.d_Parcel_needs ["self"] F_Parcel_needs := by
  refine FnG.framed <| FunD.g T.F_Parcel_needs sc_Parcel_needs fun cdv A outer s H E c => ?_
  exact (ds_one (ds_ret (de_ix (de_at T.at_own_parts (dv 0)) dint)))
set_option maxHeartbeats 8000000 in
theorem ok_Parcel_settings (T : Tops K mg) : FnG P w K mg base 1 T.f_Parcel_settings T.d_Parcel_settings ["self"] F_Parcel_settings := by
  refine FnG.framed <| FunD.g T.F_Parcel_settings sc_Parcel_settings fun cdv A outer s H E c => ?_
  exact (ds_one (ds_ret (de_ix (de_at T.at_own_parts (dv 0)) dint)))
set_option maxHeartbeats 8000000 in
theorem ok_law_parts (T : Tops K mg) : FnG P w K mg base 2 T.f_law_parts T.d_law_parts ["_law_one"] F_law_parts := by
  have G_Parcel_ahead := ok_Parcel_ahead (P := P) (w := w) (base := base) T
  have G_Parcel_asides := ok_Parcel_asides (P := P) (w := w) (base := base) T
  have G_Parcel_called := ok_Parcel_called (P := P) (w := w) (base := base) T
  have G_Parcel_calls := ok_Parcel_calls (P := P) (w := w) (base := base) T
  have G_Parcel_choices := ok_Parcel_choices (P := P) (w := w) (base := base) T
  have G_Parcel_clashes := ok_Parcel_clashes (P := P) (w := w) (base := base) T
  have G_Parcel_deeds := ok_Parcel_deeds (P := P) (w := w) (base := base) T
  have G_Parcel_edition := ok_Parcel_edition (P := P) (w := w) (base := base) T
  have G_Parcel_files := ok_Parcel_files (P := P) (w := w) (base := base) T
  have G_Parcel_needs := ok_Parcel_needs (P := P) (w := w) (base := base) T
  have G_Parcel_settings := ok_Parcel_settings (P := P) (w := w) (base := base) T
  refine FnG.framed <| FunD.g T.F_law_parts sc_law_parts fun cdv A outer s H E c => ?_
  exact (ds_cons (ds_set 1 sc_law_parts.nd (de_lst (da_cons (de_meth0 G_Parcel_called (c.mono (by decide)) T.cl_Parcel T.me_Parcel_called T.b_Parcel_called_1 (dv 0)) (da_cons (de_meth0 G_Parcel_edition (c.mono (by decide)) T.cl_Parcel T.me_Parcel_edition T.b_Parcel_edition_1 (dv 0)) (da_cons (de_meth0 G_Parcel_needs (c.mono (by decide)) T.cl_Parcel T.me_Parcel_needs T.b_Parcel_needs_1 (dv 0)) (da_cons (de_meth0 G_Parcel_ahead (c.mono (by decide)) T.cl_Parcel T.me_Parcel_ahead T.b_Parcel_ahead_1 (dv 0)) (da_cons (de_meth0 G_Parcel_clashes (c.mono (by decide)) T.cl_Parcel T.me_Parcel_clashes T.b_Parcel_clashes_1 (dv 0)) (da_cons (de_meth0 G_Parcel_files (c.mono (by decide)) T.cl_Parcel T.me_Parcel_files T.b_Parcel_files_1 (dv 0)) (da_cons (de_meth0 G_Parcel_settings (c.mono (by decide)) T.cl_Parcel T.me_Parcel_settings T.b_Parcel_settings_1 (dv 0)) da_nil)))))))))
    (ds_one (ds_ret (de_callTy cx_tupleX T.z_tuple (da_cons (de_bin opx_addX (dv 1) (de_lst (da_cons (de_meth0 G_Parcel_asides (c.mono (by decide)) T.cl_Parcel T.me_Parcel_asides T.b_Parcel_asides_1 (dv 0)) (da_cons (de_meth0 G_Parcel_choices (c.mono (by decide)) T.cl_Parcel T.me_Parcel_choices T.b_Parcel_choices_1 (dv 0)) (da_cons (de_meth0 G_Parcel_calls (c.mono (by decide)) T.cl_Parcel T.me_Parcel_calls T.b_Parcel_calls_1 (dv 0)) (da_cons (de_meth0 G_Parcel_deeds (c.mono (by decide)) T.cl_Parcel T.me_Parcel_deeds T.b_Parcel_deeds_1 (dv 0)) da_nil)))))) da_nil)))))
set_option maxHeartbeats 8000000 in
theorem ok_law_right (T : Tops K mg) : FnG P w K mg base 13 T.f_law_right T.d_law_right ["_law_own"] F_law_right := by
  have G_Parcel_eq := ok_Parcel_eq (P := P) (w := w) (base := base) T
  have G_Parcel_repr := ok_Parcel_repr (P := P) (w := w) (base := base) T
  have G_Parcel_str := ok_Parcel_str (P := P) (w := w) (base := base) T
  have G_law_made := ok_law_made (P := P) (w := w) (base := base) T
  have G_law_parts := ok_law_parts (P := P) (w := w) (base := base) T
  refine FnG.framed <| FunD.g T.F_law_right sc_law_right fun cdv A outer s H E c => ?_
  exact (ds_cons (ds_set 1 sc_law_right.nd (de_call G_law_made (c.mono (by decide)) T.m_law_made T.F_law_made.kp T.b_law_made_1 (da_cons (dv 0) da_nil)))
    (ds_cons (ds_for (passes_of rfl) rfl (di_range1 T.z_range (da_cons dint da_nil)) (dg_name sc_law_right.nd) (ds_one (ds_if (dt_cmp (opx_if _ (opx_neOwn G_Parcel_eq (c.mono (by decide)) T.b_Parcel_eq_2 T.ne_Parcel T.mo_Parcel T.eq_Parcel T.fn_Parcel_eq T.nf_Parcel) (opx_neX c.room.units)) (de_callB (cx_reprOwn (cx_repr c.guards c.room.units) G_Parcel_repr (c.mono (by decide)) T.b_Parcel_repr_1 T.repr_Parcel T.fn_Parcel_repr) T.z_repr (da_cons (de_call G_law_parts (c.mono (by decide)) T.m_law_parts T.F_law_parts.kp T.b_law_parts_1 (da_cons (dv 1) da_nil)) da_nil)) (de_callB (cx_reprOwn (cx_repr c.guards c.room.units) G_Parcel_repr (c.mono (by decide)) T.b_Parcel_repr_1 T.repr_Parcel T.fn_Parcel_repr) T.z_repr (da_cons (dv 0) da_nil))) (ds_one (ds_ret dbool)) ds_nil)))
    (ds_cons (ds_if (dt_w (dw_or (dt_cmp (opx_if _ (opx_neOwn G_Parcel_eq (c.mono (by decide)) T.b_Parcel_eq_2 T.ne_Parcel T.mo_Parcel T.eq_Parcel T.fn_Parcel_eq T.nf_Parcel) (opx_neX c.room.units)) (de_callTy (cx_strOwn cx_str G_Parcel_str (c.mono (by decide)) T.b_Parcel_str_1 T.str_Parcel T.fn_Parcel_str) T.z_str (da_cons (dv 1) da_nil)) (de_bin opx_addX (de_bin opx_addX (de_ix (dv 0) dint) dstr) (de_callTy (cx_strOwn cx_str G_Parcel_str (c.mono (by decide)) T.b_Parcel_str_1 T.str_Parcel T.fn_Parcel_str) T.z_str (da_cons (de_ix (dv 0) dint) da_nil)))) (dw_or1 (dt_cmp (opx_if _ (opx_neOwn G_Parcel_eq (c.mono (by decide)) T.b_Parcel_eq_2 T.ne_Parcel T.mo_Parcel T.eq_Parcel T.fn_Parcel_eq T.nf_Parcel) (opx_neX c.room.units)) (de_callB (cx_reprOwn (cx_repr c.guards c.room.units) G_Parcel_repr (c.mono (by decide)) T.b_Parcel_repr_1 T.repr_Parcel T.fn_Parcel_repr) T.z_repr (da_cons (dv 1) da_nil)) (de_bin opx_addX (de_bin opx_addX (de_bin opx_addX (de_bin opx_addX dstr (de_callB (cx_reprOwn (cx_repr c.guards c.room.units) G_Parcel_repr (c.mono (by decide)) T.b_Parcel_repr_1 T.repr_Parcel T.fn_Parcel_repr) T.z_repr (da_cons (de_ix (dv 0) dint) da_nil))) dstr) (de_callTy (cx_strOwn cx_str G_Parcel_str (c.mono (by decide)) T.b_Parcel_str_1 T.str_Parcel T.fn_Parcel_str) T.z_str (da_cons (de_ix (dv 0) dint) da_nil))) dstr))))) (ds_one (ds_ret dbool)) ds_nil)
    (ds_cons (ds_if (dt_cmp (opx_if _ (opx_neOwn G_Parcel_eq (c.mono (by decide)) T.b_Parcel_eq_2 T.ne_Parcel T.mo_Parcel T.eq_Parcel T.fn_Parcel_eq T.nf_Parcel) (opx_neX c.room.units)) (de_lc [("_law_thing", 3)] rfl sc_law_right.nd (di_any (de_lst (da_cons dnon (da_cons (dv 0) (da_cons (de_ix (dv 0) dint) (da_cons dint (da_cons (de_callTy (cx_strOwn cx_str G_Parcel_str (c.mono (by decide)) T.b_Parcel_str_1 T.str_Parcel T.fn_Parcel_str) T.z_str (da_cons (dv 1) da_nil)) (da_cons (de_tup (da_cons (dv 1) da_nil)) da_nil)))))))) (blkOk_by (N := ["_law_own", "_law_one", "_law_turn", "_law_thing"]) (sc := defScope s_law_right) (by decide +kernel)) (fun s1 H1 C1 cl1 fp1 => (dg_name sc_law_right.nd)) (fun s1 H1 C1 cl1 fp1 => (dts_one (dt_cmp (opx_if _ (opx_own (fun _ _ => rfl) G_Parcel_eq ((c.blk s1 H1 _ _ fp1).mono (by decide)) T.b_Parcel_eq_2 T.eq_Parcel T.fn_Parcel_eq T.nf_Parcel) (opx_eq (c.blk s1 H1 _ _ fp1).room.units)) (dv 1) (dv 3)))) (fun s1 H1 C1 cl1 fp1 => (dv 3))) (de_lst da_nil)) (ds_one (ds_ret dbool)) ds_nil)
    (ds_one (ds_ret (de_cmp (opx_if _ (opx_own (fun _ _ => rfl) G_Parcel_eq (c.mono (by decide)) T.b_Parcel_eq_2 T.eq_Parcel T.fn_Parcel_eq T.nf_Parcel) (opx_eq c.room.units)) (dv 1) (de_call G_law_made (c.mono (by decide)) T.m_law_made T.F_law_made.kp T.b_law_made_1 (da_cons (dv 0) da_nil)))))))))
set_option maxHeartbeats 8000000 in
theorem ok_law_take (T : Tops K mg) : FnG P w K mg base 1 T.f_law_take T.d_law_take ["_law_pool_here", "_law_many"] F_law_take := by
  refine FnG.framed <| FunD.g T.F_law_take sc_law_take fun cdv A outer s H E c => ?_
  exact (ds_cons (ds_if (dt_cmp opx_gt (de_ix (dv 0) dint) dint) (ds_cons (ds_set 2 sc_law_take.nd (de_bin opx_mod (de_ix (dv 0) dint) (dv 1)))
    (ds_cons (ds_setix (de_bin opx_fdiv (de_ix (dv 0) dint) (dv 1)) (dv 0) dint)
    (ds_one (ds_ret (dv 2))))) ds_nil)
    (ds_cons (ds_setix (de_bin opx_mod (de_bin opx_addX (de_bin opx_mulX (de_ix (dv 0) dint) dint) dint) dint) (dv 0) dint)
    (ds_one (ds_ret (de_bin opx_mod (de_bin opx_fdiv (de_bin opx_mod (de_bin opx_mulX (de_ix (dv 0) dint) (de_ix (dv 0) dint)) dint) dint) (dv 1))))))
set_option maxHeartbeats 8000000 in
theorem ok_law_needs (T : Tops K mg) : FnG P w K mg base 2 T.f_law_needs T.d_law_needs ["_law_pool_here", "_law_who", "_law_every", "_law_many"] F_law_needs := by
  have G_law_take := ok_law_take (P := P) (w := w) (base := base) T
  refine FnG.framed <| FunD.g T.F_law_needs sc_law_needs fun cdv A outer s H E c => ?_
  exact (ds_cons (ds_set 4 sc_law_needs.nd (de_cel da_nil))
    (ds_cons (ds_for (passes_of rfl) rfl (di_range1 T.z_range (da_cons (de_bin opx_mulX (de_ix (de_lst (da_cons dint (da_cons dint (da_cons dint (da_cons dint (da_cons dint da_nil)))))) (de_call G_law_take (c.mono (by decide)) T.m_law_take T.F_law_take.kp T.b_law_take_2 (da_cons (dv 0) (da_cons dint da_nil)))) (dv 3)) da_nil)) (dg_name sc_law_needs.nd) (ds_cons (ds_setLc 6 [("_law_one", 9)] rfl sc_law_needs.nd (di_any (dv 2)) (blkOk_by (N := ["_law_pool_here", "_law_who", "_law_every", "_law_many", "_law_found", "_law_turn", "_law_others", "_law_at", "_law_some", "_law_one"]) (sc := defScope s_law_needs) (by decide +kernel)) (fun s1 H1 C1 cl1 fp1 => (dg_name sc_law_needs.nd)) (fun s1 H1 C1 cl1 fp1 => (dts_one (dt_cmp (opx_neX (c.blk s1 H1 _ _ fp1).room.units) (dv 9) (dv 1)))) (fun s1 H1 C1 cl1 fp1 => (dv 9)))
    (ds_cons (ds_set 7 sc_law_needs.nd (de_call G_law_take (c.mono (by decide)) T.m_law_take T.F_law_take.kp T.b_law_take_2 (da_cons (dv 0) (da_cons (de_callB cx_len T.z_len (da_cons (dv 6) da_nil)) da_nil))))
    (ds_cons (ds_set 8 sc_law_needs.nd (de_cel (da_cons (de_tup (da_cons (de_ix (dv 6) (dv 7)) (da_cons (de_ix (de_lst (da_cons dint (da_cons dint (da_cons dint da_nil)))) (de_call G_law_take (c.mono (by decide)) T.m_law_take T.F_law_take.kp T.b_law_take_2 (da_cons (dv 0) (da_cons dint da_nil)))) da_nil))) da_nil)))
    (ds_cons (ds_if (dt_cmp (opx_eq c.room.units) (de_call G_law_take (c.mono (by decide)) T.m_law_take T.F_law_take.kp T.b_law_take_2 (da_cons (dv 0) (da_cons dint da_nil))) dint) (ds_one (ds_expr (de_bm PySem.F.plainAttrs_list PySem.F.slot_list_append PySem.F.type_list_append mx_append (dv 8) (da_cons (de_tup (da_cons (de_ix (dv 6) (de_bin opx_mod (de_bin opx_addX (dv 7) dint) (de_callB cx_len T.z_len (da_cons (dv 6) da_nil)))) (da_cons dint da_nil))) da_nil)))) ds_nil)
    (ds_one (ds_expr (de_bm PySem.F.plainAttrs_list PySem.F.slot_list_append PySem.F.type_list_append mx_append (dv 4) (da_cons (de_callTy cx_tupleX T.z_tuple (da_cons (dv 8) da_nil)) da_nil)))))))))
    (ds_one (ds_ret (de_callTy cx_tupleX T.z_tuple (da_cons (dv 4) da_nil))))))
set_option maxHeartbeats 8000000 in
theorem ok_law_rising (T : Tops K mg) : FnG P w K mg base 2 T.f_law_rising T.d_law_rising ["_law_pool_here", "_law_menu", "_law_many"] F_law_rising := by
  have G_law_take := ok_law_take (P := P) (w := w) (base := base) T
  refine FnG.framed <| FunD.g T.F_law_rising sc_law_rising fun cdv A outer s H E c => ?_
  exact (ds_one (ds_ret (de_callB cx_sorted T.z_sorted (da_cons (de_lc [("_law_one", 3)] rfl sc_law_rising.nd (di_any (dv 1)) (blkOk_by (N := ["_law_pool_here", "_law_menu", "_law_many", "_law_one"]) (sc := defScope s_law_rising) (by decide +kernel)) (fun s1 H1 C1 cl1 fp1 => (dg_name sc_law_rising.nd)) (fun s1 H1 C1 cl1 fp1 => (dts_one (dt_cmp opx_lt (de_call G_law_take ((c.blk s1 H1 _ _ fp1).mono (by decide)) T.m_law_take T.F_law_take.kp T.b_law_take_2 (da_cons (dv 0) (da_cons dint da_nil))) (dv 2)))) (fun s1 H1 C1 cl1 fp1 => (dv 3))) da_nil))))
set_option maxHeartbeats 8000000 in
theorem ok_law_spec (T : Tops K mg) : FnG P w K mg base 3 T.f_law_spec T.d_law_spec ["_law_pool_here", "_law_who", "_law_every"] F_law_spec := by
  have G_law_needs := ok_law_needs (P := P) (w := w) (base := base) T
  have G_law_rising := ok_law_rising (P := P) (w := w) (base := base) T
  have G_law_take := ok_law_take (P := P) (w := w) (base := base) T
  refine FnG.framed <| FunD.g T.F_law_spec sc_law_spec fun cdv A outer s H E c => ?_
  exact (ds_cons (ds_set 3 sc_law_spec.nd (de_call G_law_needs (c.mono (by decide)) T.m_law_needs T.F_law_needs.kp T.b_law_needs_4 (da_cons (dv 0) (da_cons (dv 1) (da_cons (dv 2) (da_cons dint da_nil))))))
    (ds_cons (ds_set 4 sc_law_spec.nd (de_call G_law_needs (c.mono (by decide)) T.m_law_needs T.F_law_needs.kp T.b_law_needs_4 (da_cons (dv 0) (da_cons (dv 1) (da_cons (dv 2) (da_cons (de_callTy cx_int T.z_int (da_cons (de_cmp (opx_eq c.room.units) (de_call G_law_take (c.mono (by decide)) T.m_law_take T.F_law_take.kp T.b_law_take_2 (da_cons (dv 0) (da_cons dint da_nil))) dint) da_nil)) da_nil))))))
    (ds_cons (ds_set 5 sc_law_spec.nd (de_ix (dv 2) (de_call G_law_take (c.mono (by decide)) T.m_law_take T.F_law_take.kp T.b_law_take_2 (da_cons (dv 0) (da_cons (de_callB cx_len T.z_len (da_cons (dv 2) da_nil)) da_nil)))))
    (ds_cons (ds_set 6 sc_law_spec.nd (de_bin opx_mulX (de_tup (da_cons (de_tup (da_cons (dv 5) (da_cons dint (da_cons (de_bin opx_addX dint (de_call G_law_take (c.mono (by decide)) T.m_law_take T.F_law_take.kp T.b_law_take_2 (da_cons (dv 0) (da_cons dint da_nil)))) da_nil)))) da_nil)) (de_callTy cx_int T.z_int (da_cons (de_and (de_cmp (opx_neX c.room.units) (dv 5) (dv 1)) (de_one (de_cmp (opx_eq c.room.units) (de_call G_law_take (c.mono (by decide)) T.m_law_take T.F_law_take.kp T.b_law_take_2 (da_cons (dv 0) (da_cons dint da_nil))) dint))) da_nil))))
    (ds_cons (ds_set 7 sc_law_spec.nd (de_bin opx_addX (de_lst (da_cons (de_bin opx_addX dstr (dv 1)) (da_cons (de_bin opx_addX dstr (dv 1)) (da_cons dstr da_nil)))) (de_bin opx_mulX (de_lst (da_cons dstr (da_cons dstr da_nil))) (de_callTy cx_int T.z_int (da_cons (de_cmp (opx_eq c.room.units) (de_call G_law_take (c.mono (by decide)) T.m_law_take T.F_law_take.kp T.b_law_take_2 (da_cons (dv 0) (da_cons dint da_nil))) dint) da_nil)))))
    (ds_cons (ds_set 8 sc_law_spec.nd (de_call G_law_rising (c.mono (by decide)) T.m_law_rising T.F_law_rising.kp T.b_law_rising_3 (da_cons (dv 0) (da_cons (de_callB cx_sorted T.z_sorted (da_cons (dv 7) da_nil)) (da_cons dint da_nil)))))
    (ds_cons (ds_set 9 sc_law_spec.nd (de_lc [("_law_one", 19)] rfl sc_law_spec.nd (di_any (de_call G_law_rising (c.mono (by decide)) T.m_law_rising T.F_law_rising.kp T.b_law_rising_3 (da_cons (dv 0) (da_cons (de_lst (da_cons (de_bin opx_addX dstr (dv 1)) (da_cons dstr (da_cons dstr da_nil)))) (da_cons dint da_nil))))) (blkOk_by (N := ["_law_pool_here", "_law_who", "_law_every", "_law_wants", "_law_firsts", "_law_rival", "_law_bars", "_law_own", "_law_brought", "_law_kept", "_law_led", "_law_lines", "_law_picks", "_law_told", "_law_acts", "_law_done", "_law_filed", "_law_tuned", "_law_year", "_law_one", "_law_other"]) (sc := defScope s_law_spec) (by decide +kernel)) (fun s1 H1 C1 cl1 fp1 => (dg_name sc_law_spec.nd)) (fun s1 H1 C1 cl1 fp1 => (dts_one (dt_cmp (opx_notin (c.blk s1 H1 _ _ fp1).room.units) (dv 19) (dv 8)))) (fun s1 H1 C1 cl1 fp1 => (dv 19))))
    (ds_cons (ds_setLc 10 [("_law_one", 19)] rfl sc_law_spec.nd (di_any (de_call G_law_rising (c.mono (by decide)) T.m_law_rising T.F_law_rising.kp T.b_law_rising_3 (da_cons (dv 0) (da_cons (de_lst (da_cons dstr (da_cons dstr (da_cons dstr (da_cons dstr da_nil))))) (da_cons dint da_nil))))) (blkOk_by (N := ["_law_pool_here", "_law_who", "_law_every", "_law_wants", "_law_firsts", "_law_rival", "_law_bars", "_law_own", "_law_brought", "_law_kept", "_law_led", "_law_lines", "_law_picks", "_law_told", "_law_acts", "_law_done", "_law_filed", "_law_tuned", "_law_year", "_law_one", "_law_other"]) (sc := defScope s_law_spec) (by decide +kernel)) (fun s1 H1 C1 cl1 fp1 => (dg_name sc_law_spec.nd)) (fun s1 H1 C1 cl1 fp1 => (dts_one (dt_cmp (opx_notin (c.blk s1 H1 _ _ fp1).room.units) (dv 19) (dv 9)))) (fun s1 H1 C1 cl1 fp1 => (dv 19)))
    (ds_cons (ds_set 11 sc_law_spec.nd (de_callTy cx_tupleX T.z_tuple (da_cons (de_lc [("_law_one", 19)] rfl sc_law_spec.nd (di_any (de_slice (dv 10) do_none (do_some dint))) (blkOk_by (N := ["_law_pool_here", "_law_who", "_law_every", "_law_wants", "_law_firsts", "_law_rival", "_law_bars", "_law_own", "_law_brought", "_law_kept", "_law_led", "_law_lines", "_law_picks", "_law_told", "_law_acts", "_law_done", "_law_filed", "_law_tuned", "_law_year", "_law_one", "_law_other"]) (sc := defScope s_law_spec) (by decide +kernel)) (fun s1 H1 C1 cl1 fp1 => (dg_name sc_law_spec.nd)) (fun s1 H1 C1 cl1 fp1 => dts_nil) (fun s1 H1 C1 cl1 fp1 => (de_tup (da_cons (dv 19) (da_cons (de_bin opx_addX dstr (de_ix (dv 19) (de_neg dint))) da_nil))))) da_nil)))
    (ds_cons (ds_if (dt_cmp opx_lt (de_lensetX T.z_len T.z_set (de_lc [("_law_one", 19), ("_law_other", 20)] rfl sc_law_spec.nd (di_any (dv 11)) (blkOk_by (N := ["_law_pool_here", "_law_who", "_law_every", "_law_wants", "_law_firsts", "_law_rival", "_law_bars", "_law_own", "_law_brought", "_law_kept", "_law_led", "_law_lines", "_law_picks", "_law_told", "_law_acts", "_law_done", "_law_filed", "_law_tuned", "_law_year", "_law_one", "_law_other"]) (sc := defScope s_law_spec) (by decide +kernel)) (fun s1 H1 C1 cl1 fp1 => (dg_tup rfl (dgs_cons (dg_name sc_law_spec.nd) (dgs_cons (dg_name sc_law_spec.nd) dgs_nil)))) (fun s1 H1 C1 cl1 fp1 => dts_nil) (fun s1 H1 C1 cl1 fp1 => (dv 20)))) (de_callB cx_len T.z_len (da_cons (dv 11) da_nil))) (ds_one (ds_set 11 sc_law_spec.nd (de_slice (dv 11) do_none (do_some dint)))) ds_nil)
    (ds_cons (ds_set 12 sc_law_spec.nd (de_cel da_nil))
    (ds_cons (ds_if (dt_cmp (opx_neX c.room.units) (dv 8) (de_lst da_nil)) (ds_one (ds_for (passes_of rfl) rfl (di_any (de_call G_law_rising (c.mono (by decide)) T.m_law_rising T.F_law_rising.kp T.b_law_rising_3 (da_cons (dv 0) (da_cons (de_lst (da_cons dstr (da_cons dstr da_nil))) (da_cons dint da_nil))))) (dg_name sc_law_spec.nd) (ds_one (ds_expr (de_bm PySem.F.plainAttrs_list PySem.F.slot_list_append PySem.F.type_list_append mx_append (dv 12) (da_cons (de_tup (da_cons (dv 19) (da_cons (de_ix (dv 8) (de_call G_law_take (c.mono (by decide)) T.m_law_take T.F_law_take.kp T.b_law_take_2 (da_cons (dv 0) (da_cons (de_callB cx_len T.z_len (da_cons (dv 8) da_nil)) da_nil)))) (da_cons (de_call G_law_take (c.mono (by decide)) T.m_law_take T.F_law_take.kp T.b_law_take_2 (da_cons (dv 0) (da_cons dint da_nil))) da_nil)))) da_nil)))))) ds_nil)
    (ds_cons (ds_set 13 sc_law_spec.nd (de_callTy cx_tupleX T.z_tuple (da_cons (de_call G_law_rising (c.mono (by decide)) T.m_law_rising T.F_law_rising.kp T.b_law_rising_3 (da_cons (dv 0) (da_cons (de_lst (da_cons dstr (da_cons dstr da_nil))) (da_cons dint da_nil)))) da_nil)))
    (ds_cons (ds_set 14 sc_law_spec.nd (de_lst (da_cons (de_tup (da_cons dstr (da_cons dstr (da_cons dint da_nil)))) (da_cons (de_tup (da_cons dstr (da_cons dstr (da_cons (de_neg dint) da_nil)))) (da_cons (de_tup (da_cons dstr (da_cons dstr (da_cons dint da_nil)))) (da_cons (de_tup (da_cons dstr (da_cons dstr (da_cons dint da_nil)))) da_nil))))))
    (ds_cons (ds_set 15 sc_law_spec.nd (de_callTy cx_tupleX T.z_tuple (da_cons (de_lc [("_law_one", 19)] rfl sc_law_spec.nd (di_any (dv 14)) (blkOk_by (N := ["_law_pool_here", "_law_who", "_law_every", "_law_wants", "_law_firsts", "_law_rival", "_law_bars", "_law_own", "_law_brought", "_law_kept", "_law_led", "_law_lines", "_law_picks", "_law_told", "_law_acts", "_law_done", "_law_filed", "_law_tuned", "_law_year", "_law_one", "_law_other"]) (sc := defScope s_law_spec) (by decide +kernel)) (fun s1 H1 C1 cl1 fp1 => (dg_name sc_law_spec.nd)) (fun s1 H1 C1 cl1 fp1 => (dts_one (dt_cmp (opx_eq (c.blk s1 H1 _ _ fp1).room.units) (de_call G_law_take ((c.blk s1 H1 _ _ fp1).mono (by decide)) T.m_law_take T.F_law_take.kp T.b_law_take_2 (da_cons (dv 0) (da_cons dint da_nil))) dint))) (fun s1 H1 C1 cl1 fp1 => (dv 19))) da_nil)))
    (ds_cons (ds_set 16 sc_law_spec.nd (de_callTy cx_tupleX T.z_tuple (da_cons (de_lc [("_law_one", 19)] rfl sc_law_spec.nd (di_any (dv 8)) (blkOk_by (N := ["_law_pool_here", "_law_who", "_law_every", "_law_wants", "_law_firsts", "_law_rival", "_law_bars", "_law_own", "_law_brought", "_law_kept", "_law_led", "_law_lines", "_law_picks", "_law_told", "_law_acts", "_law_done", "_law_filed", "_law_tuned", "_law_year", "_law_one", "_law_other"]) (sc := defScope s_law_spec) (by decide +kernel)) (fun s1 H1 C1 cl1 fp1 => (dg_name sc_law_spec.nd)) (fun s1 H1 C1 cl1 fp1 => dts_nil) (fun s1 H1 C1 cl1 fp1 => (de_tup (da_cons (dv 19) (da_cons (de_call G_law_take ((c.blk s1 H1 _ _ fp1).mono (by decide)) T.m_law_take T.F_law_take.kp T.b_law_take_2 (da_cons (dv 0) (da_cons dint da_nil))) da_nil))))) da_nil)))
    (ds_cons (ds_set 17 sc_law_spec.nd (de_callTy cx_tupleX T.z_tuple (da_cons (de_lc [("_law_one", 19)] rfl sc_law_spec.nd (di_any (dv 9)) (blkOk_by (N := ["_law_pool_here", "_law_who", "_law_every", "_law_wants", "_law_firsts", "_law_rival", "_law_bars", "_law_own", "_law_brought", "_law_kept", "_law_led", "_law_lines", "_law_picks", "_law_told", "_law_acts", "_law_done", "_law_filed", "_law_tuned", "_law_year", "_law_one", "_law_other"]) (sc := defScope s_law_spec) (by decide +kernel)) (fun s1 H1 C1 cl1 fp1 => (dg_name sc_law_spec.nd)) (fun s1 H1 C1 cl1 fp1 => dts_nil) (fun s1 H1 C1 cl1 fp1 => (de_tup (da_cons (dv 19) (da_cons (de_call G_law_take ((c.blk s1 H1 _ _ fp1).mono (by decide)) T.m_law_take T.F_law_take.kp T.b_law_take_2 (da_cons (dv 0) (da_cons dint da_nil))) da_nil))))) da_nil)))
    (ds_cons (ds_set 18 sc_law_spec.nd (de_bin opx_addX dint (de_call G_law_take (c.mono (by decide)) T.m_law_take T.F_law_take.kp T.b_law_take_2 (da_cons (dv 0) (da_cons dint da_nil)))))
    (ds_one (ds_ret (de_tup (da_cons (dv 1) (da_cons (dv 18) (da_cons (dv 3) (da_cons (dv 4) (da_cons (dv 6) (da_cons (dv 16) (da_cons (dv 17) (da_cons (dv 11) (da_cons (de_callTy cx_tupleX T.z_tuple (da_cons (dv 12) da_nil)) (da_cons (dv 13) (da_cons (dv 15) da_nil))))))))))))))))))))))))))))))))
set_option maxHeartbeats 8000000 in
theorem ok_law (T : Tops K mg) : FnG P w K mg base 14 T.f_law T.d_law ["_law_script"] F_law := by
  have G_Parcel_eq := ok_Parcel_eq (P := P) (w := w) (base := base) T
  have G_Parcel_init := ok_Parcel_init (P := P) (w := w) (base := base) T
  have G_law_great := ok_law_great (P := P) (w := w) (base := base) T
  have G_law_made := ok_law_made (P := P) (w := w) (base := base) T
  have G_law_pool := ok_law_pool (P := P) (w := w) (base := base) T
  have G_law_right := ok_law_right (P := P) (w := w) (base := base) T
  have G_law_spec := ok_law_spec (P := P) (w := w) (base := base) T
  have G_law_take := ok_law_take (P := P) (w := w) (base := base) T
  refine FunD.g T.F_law sc_law fun cdv A outer s H E c => ?_
  exact (ds_cons (ds_set 1 sc_law.nd (de_bin opx_addX (de_tup (da_cons dstr (da_cons dint da_nil))) (de_bin opx_mulX (de_tup (da_cons (de_tup da_nil) da_nil)) dint)))
    (ds_cons (ds_if (dt_w (dw_or (dt_not (dtest_val (de_call G_law_right (c.mono (by decide)) T.m_law_right T.F_law_right.kp T.b_law_right_1 (da_cons (de_call0 G_law_great (c.mono (by decide)) T.m_law_great T.F_law_great.kp T.b_law_great_0) da_nil)))) (dw_or (dt_not (dtest_val (de_call G_law_right (c.mono (by decide)) T.m_law_right T.F_law_right.kp T.b_law_right_1 (da_cons (dv 1) da_nil)))) (dw_or1 (dt_cmp (opx_if _ (opx_neOwn G_Parcel_eq (c.mono (by decide)) T.b_Parcel_eq_2 T.ne_Parcel T.mo_Parcel T.eq_Parcel T.fn_Parcel_eq T.nf_Parcel) (opx_neX c.room.units)) (de_make T.mk_Parcel G_Parcel_init (c.mono (by decide)) T.m_Parcel T.b_Parcel_init_3 (fun _ => mkq_O) (da_cons dstr (da_cons dint da_nil))) (de_call G_law_made (c.mono (by decide)) T.m_law_made T.F_law_made.kp T.b_law_made_1 (da_cons (dv 1) da_nil))))))) (ds_one (ds_ret dbool)) ds_nil)
    (ds_cons (ds_for (passes_of rfl) rfl (di_range1 T.z_range (da_cons (de_callB (cx_max rfl) T.z_max (da_cons dint (da_cons (de_callB (cx_min rfl) T.z_min (da_cons dint (da_cons (de_callB cx_len T.z_len (da_cons (dv 0) da_nil)) da_nil))) da_nil))) da_nil)) (dg_name sc_law.nd) (ds_cons (ds_set 3 sc_law.nd (de_call G_law_pool (c.mono (by decide)) T.m_law_pool T.F_law_pool.kp T.b_law_pool_2 (da_cons (dv 0) (da_cons (dv 2) da_nil))))
    (ds_cons (ds_set 4 sc_law.nd (de_lst (da_cons dstr (da_cons dstr (da_cons dstr (da_cons dstr da_nil))))))
    (ds_cons (ds_set 5 sc_law.nd (de_call G_law_spec (c.mono (by decide)) T.m_law_spec T.F_law_spec.kp T.b_law_spec_3 (da_cons (dv 3) (da_cons (de_ix (dv 4) (de_call G_law_take (c.mono (by decide)) T.m_law_take T.F_law_take.kp T.b_law_take_2 (da_cons (dv 3) (da_cons dint da_nil)))) (da_cons (dv 4) da_nil)))))
    (ds_cons (ds_set 6 sc_law.nd (de_call G_law_spec (c.mono (by decide)) T.m_law_spec T.F_law_spec.kp T.b_law_spec_3 (da_cons (dv 3) (da_cons (de_ix (dv 5) dint) (da_cons (dv 4) da_nil)))))
    (ds_cons (ds_if (dt_not (dtest_val (de_call G_law_right (c.mono (by decide)) T.m_law_right T.F_law_right.kp T.b_law_right_1 (da_cons (dv 5) da_nil)))) (ds_one (ds_ret dbool)) ds_nil)
    (ds_cons (ds_for (passes_of rfl) rfl (di_range1 T.z_range (da_cons dint da_nil)) (dg_name sc_law.nd) (ds_cons (ds_set 10 sc_law.nd (de_bin opx_addX (de_bin opx_addX (de_slice (dv 5) do_none (do_some (dv 7))) (de_tup (da_cons (de_ix (dv 6) (dv 7)) da_nil))) (de_slice (dv 5) (do_some (de_bin opx_addX (dv 7) dint)) do_none)))
    (ds_one (ds_if (dt_w (dw_and (dt_cmp (opx_notin c.room.units) (dv 7) (de_tup (da_cons dint (da_cons dint (da_cons dint (da_cons dint da_nil)))))) (dw_and1 (dt_cmp (opx_if _ (opx_neOwn G_Parcel_eq (c.mono (by decide)) T.b_Parcel_eq_2 T.ne_Parcel T.mo_Parcel T.eq_Parcel T.fn_Parcel_eq T.nf_Parcel) (opx_neX c.room.units)) (de_cmp (opx_if _ (opx_own (fun _ _ => rfl) G_Parcel_eq (c.mono (by decide)) T.b_Parcel_eq_2 T.eq_Parcel T.fn_Parcel_eq T.nf_Parcel) (opx_eq c.room.units)) (de_call G_law_made (c.mono (by decide)) T.m_law_made T.F_law_made.kp T.b_law_made_1 (da_cons (dv 5) da_nil)) (de_call G_law_made (c.mono (by decide)) T.m_law_made T.F_law_made.kp T.b_law_made_1 (da_cons (dv 10) da_nil))) (de_cmp (opx_if _ (opx_own (fun _ _ => rfl) G_Parcel_eq (c.mono (by decide)) T.b_Parcel_eq_2 T.eq_Parcel T.fn_Parcel_eq T.nf_Parcel) (opx_eq c.room.units)) (dv 5) (dv 10)))))) (ds_one (ds_ret dbool)) ds_nil))))
    (ds_cons (ds_set 8 sc_law.nd (de_callTy cx_tupleX T.z_tuple (da_cons (de_lc [("_law_path", 12), ("_law_worth", 13)] rfl sc_law.nd (di_any (de_ix (dv 5) dint)) (blkOk_by (N := ["_law_script", "_law_bare", "_law_k", "_law_pool_here", "_law_every", "_law_own", "_law_other", "_law_at", "_law_filed", "_law_tuned", "_law_bent", "_law_part", "_law_path", "_law_worth"]) (sc := defScope s_law) (by decide +kernel)) (fun s1 H1 C1 cl1 fp1 => (dg_tup rfl (dgs_cons (dg_name sc_law.nd) (dgs_cons (dg_name sc_law.nd) dgs_nil)))) (fun s1 H1 C1 cl1 fp1 => dts_nil) (fun s1 H1 C1 cl1 fp1 => (de_tup (da_cons (dv 12) (da_cons (de_bin opx_addX (dv 13) dint) da_nil))))) da_nil)))
    (ds_cons (ds_set 9 sc_law.nd (de_callTy cx_tupleX T.z_tuple (da_cons (de_lc [("_law_path", 12), ("_law_worth", 13)] rfl sc_law.nd (di_any (de_ix (dv 5) dint)) (blkOk_by (N := ["_law_script", "_law_bare", "_law_k", "_law_pool_here", "_law_every", "_law_own", "_law_other", "_law_at", "_law_filed", "_law_tuned", "_law_bent", "_law_part", "_law_path", "_law_worth"]) (sc := defScope s_law) (by decide +kernel)) (fun s1 H1 C1 cl1 fp1 => (dg_tup rfl (dgs_cons (dg_name sc_law.nd) (dgs_cons (dg_name sc_law.nd) dgs_nil)))) (fun s1 H1 C1 cl1 fp1 => dts_nil) (fun s1 H1 C1 cl1 fp1 => (de_tup (da_cons (dv 12) (da_cons (de_bin opx_addX (dv 13) dint) da_nil))))) da_nil)))
    (ds_cons (ds_for (passes_of rfl) rfl (di_any (de_lst (da_cons (de_tup (da_cons dint (da_cons (dv 8) da_nil))) (da_cons (de_tup (da_cons dint (da_cons (dv 9) da_nil))) (da_cons (de_tup (da_cons dint (da_cons (de_slice (de_ix (dv 5) dint) (do_some dint) do_none) da_nil))) (da_cons (de_tup (da_cons dint (da_cons (de_slice (de_ix (dv 5) dint) do_none (do_some (de_neg dint))) da_nil))) da_nil)))))) (dg_tup rfl (dgs_cons (dg_name sc_law.nd) (dgs_cons (dg_name sc_law.nd) dgs_nil))) (ds_one (ds_if (dt_cmp (opx_if _ (opx_neOwn G_Parcel_eq (c.mono (by decide)) T.b_Parcel_eq_2 T.ne_Parcel T.mo_Parcel T.eq_Parcel T.fn_Parcel_eq T.nf_Parcel) (opx_neX c.room.units)) (de_cmp (opx_if _ (opx_own (fun _ _ => rfl) G_Parcel_eq (c.mono (by decide)) T.b_Parcel_eq_2 T.eq_Parcel T.fn_Parcel_eq T.nf_Parcel) (opx_eq c.room.units)) (de_call G_law_made (c.mono (by decide)) T.m_law_made T.F_law_made.kp T.b_law_made_1 (da_cons (dv 5) da_nil)) (de_call G_law_made (c.mono (by decide)) T.m_law_made T.F_law_made.kp T.b_law_made_1 (da_cons (de_bin opx_addX (de_bin opx_addX (de_slice (dv 5) do_none (do_some (dv 7))) (de_tup (da_cons (dv 11) da_nil))) (de_slice (dv 5) (do_some (de_bin opx_addX (dv 7) dint)) do_none)) da_nil))) (de_cmp (opx_if _ (opx_own (fun _ _ => rfl) G_Parcel_eq (c.mono (by decide)) T.b_Parcel_eq_2 T.eq_Parcel T.fn_Parcel_eq T.nf_Parcel) (opx_eq c.room.units)) (de_ix (dv 5) (dv 7)) (dv 11))) (ds_one (ds_ret dbool)) ds_nil)))
    (ds_cons (ds_if (dt_cmp (opx_if _ (opx_neOwn G_Parcel_eq (c.mono (by decide)) T.b_Parcel_eq_2 T.ne_Parcel T.mo_Parcel T.eq_Parcel T.fn_Parcel_eq T.nf_Parcel) (opx_neX c.room.units)) (de_cmp (opx_if _ (opx_own (fun _ _ => rfl) G_Parcel_eq (c.mono (by decide)) T.b_Parcel_eq_2 T.eq_Parcel T.fn_Parcel_eq T.nf_Parcel) (opx_eq c.room.units)) (de_call G_law_made (c.mono (by decide)) T.m_law_made T.F_law_made.kp T.b_law_made_1 (da_cons (dv 5) da_nil)) (de_call G_law_made (c.mono (by decide)) T.m_law_made T.F_law_made.kp T.b_law_made_1 (da_cons (dv 6) da_nil))) (de_cmp (opx_if _ (opx_own (fun _ _ => rfl) G_Parcel_eq (c.mono (by decide)) T.b_Parcel_eq_2 T.eq_Parcel T.fn_Parcel_eq T.nf_Parcel) (opx_eq c.room.units)) (dv 5) (dv 6))) (ds_one (ds_ret dbool)) ds_nil)
    (ds_one (ds_if (dt_cmp (opx_if _ (opx_own (fun _ _ => rfl) G_Parcel_eq (c.mono (by decide)) T.b_Parcel_eq_2 T.eq_Parcel T.fn_Parcel_eq T.nf_Parcel) (opx_eq c.room.units)) (de_cmp (opx_if _ (opx_neOwn G_Parcel_eq (c.mono (by decide)) T.b_Parcel_eq_2 T.ne_Parcel T.mo_Parcel T.eq_Parcel T.fn_Parcel_eq T.nf_Parcel) (opx_neX c.room.units)) (de_call G_law_made (c.mono (by decide)) T.m_law_made T.F_law_made.kp T.b_law_made_1 (da_cons (dv 5) da_nil)) (de_call G_law_made (c.mono (by decide)) T.m_law_made T.F_law_made.kp T.b_law_made_1 (da_cons (dv 6) da_nil))) (de_cmp (opx_if _ (opx_own (fun _ _ => rfl) G_Parcel_eq (c.mono (by decide)) T.b_Parcel_eq_2 T.eq_Parcel T.fn_Parcel_eq T.nf_Parcel) (opx_eq c.room.units)) (dv 5) (dv 6))) (ds_one (ds_ret dbool)) ds_nil)))))))))))))
    (ds_one (ds_ret dbool)))))
end
end DL02
namespace DL02
open PySem PySem.Spec PyProof.Rows L2 DL
/-! the head -/
def h_Parcel_eq : He.DefD := ⟨(nmC cC_Parcel, some "__eq__"), "__eq__", "Parcel.__eq__", defArgs s_Parcel_eq, defBody s_Parcel_eq, defScope s_Parcel_eq, [], []⟩
def h_is_name : He.DefD := ⟨("is_name", none), "is_name", "is_name", defArgs s_is_name, defBody s_is_name, defScope s_is_name, [], []⟩
def h_is_path : He.DefD := ⟨("is_path", none), "is_path", "is_path", defArgs s_is_path, defBody s_is_path, defScope s_is_path, [], []⟩
def h_is_tuple : He.DefD := ⟨("is_tuple", none), "is_tuple", "is_tuple", defArgs s_is_tuple, defBody s_is_tuple, defScope s_is_tuple, [], []⟩
def h_is_aside : He.DefD := ⟨("is_aside", none), "is_aside", "is_aside", defArgs s_is_aside, defBody s_is_aside, defScope s_is_aside, [], []⟩
def h_is_whole : He.DefD := ⟨("is_whole", none), "is_whole", "is_whole", defArgs s_is_whole, defBody s_is_whole, defScope s_is_whole, [], []⟩
def h_is_from : He.DefD := ⟨("is_from", none), "is_from", "is_from", defArgs s_is_from, defBody s_is_from, defScope s_is_from, [], [("least", .int 0)]⟩
def h_is_choice : He.DefD := ⟨("is_choice", none), "is_choice", "is_choice", defArgs s_is_choice, defBody s_is_choice, defScope s_is_choice, [], []⟩
def h_is_edition : He.DefD := ⟨("is_edition", none), "is_edition", "is_edition", defArgs s_is_edition, defBody s_is_edition, defScope s_is_edition, [], []⟩
def h_is_clash : He.DefD := ⟨("is_clash", none), "is_clash", "is_clash", defArgs s_is_clash, defBody s_is_clash, defScope s_is_clash, [], []⟩
def h_is_deed : He.DefD := ⟨("is_deed", none), "is_deed", "is_deed", defArgs s_is_deed, defBody s_is_deed, defScope s_is_deed, [], []⟩
def h_is_worth : He.DefD := ⟨("is_worth", none), "is_worth", "is_worth", defArgs s_is_worth, defBody s_is_worth, defScope s_is_worth, [], []⟩
def h_is_file : He.DefD := ⟨("is_file", none), "is_file", "is_file", defArgs s_is_file, defBody s_is_file, defScope s_is_file, [], []⟩
def h_is_option : He.DefD := ⟨("is_option", none), "is_option", "is_option", defArgs s_is_option, defBody s_is_option, defScope s_is_option, [], []⟩
def h_are_all : He.DefD := ⟨("are_all", none), "are_all", "are_all", defArgs s_are_all, defBody s_are_all, defScope s_are_all, [], []⟩
def h_heads_of : He.DefD := ⟨("heads_of", none), "heads_of", "heads_of", defArgs s_heads_of, defBody s_heads_of, defScope s_heads_of, [], []⟩
def h_is_need : He.DefD := ⟨("is_need", none), "is_need", "is_need", defArgs s_is_need, defBody s_is_need, defScope s_is_need, [], []⟩
def h_rise : He.DefD := ⟨("rise", none), "rise", "rise", defArgs s_rise, defBody s_rise, defScope s_rise, [], []⟩
def h_are_rising : He.DefD := ⟨("are_rising", none), "are_rising", "are_rising", defArgs s_are_rising, defBody s_are_rising, defScope s_are_rising, [], []⟩
def h_are_asides : He.DefD := ⟨("are_asides", none), "are_asides", "are_asides", defArgs s_are_asides, defBody s_are_asides, defScope s_are_asides, [], []⟩
def h_are_calls : He.DefD := ⟨("are_calls", none), "are_calls", "are_calls", defArgs s_are_calls, defBody s_are_calls, defScope s_are_calls, [], []⟩
def h_are_choices : He.DefD := ⟨("are_choices", none), "are_choices", "are_choices", defArgs s_are_choices, defBody s_are_choices, defScope s_are_choices, [], []⟩
def h_are_needs : He.DefD := ⟨("are_needs", none), "are_needs", "are_needs", defArgs s_are_needs, defBody s_are_needs, defScope s_are_needs, [], []⟩
def h_Parcel_init : He.DefD := ⟨(nmC cC_Parcel, some "__init__"), "__init__", "Parcel.__init__", defArgs s_Parcel_init, defBody s_Parcel_init, defScope s_Parcel_init, [], [("needs", .adr (kwAt (nmC cC_Parcel, some "__init__") "needs")), ("ahead", .adr (kwAt (nmC cC_Parcel, some "__init__") "ahead")), ("clashes", .adr (kwAt (nmC cC_Parcel, some "__init__") "clashes")), ("files", .adr (kwAt (nmC cC_Parcel, some "__init__") "files")), ("settings", .adr (kwAt (nmC cC_Parcel, some "__init__") "settings")), ("asides", .adr (kwAt (nmC cC_Parcel, some "__init__") "asides")), ("choices", .adr (kwAt (nmC cC_Parcel, some "__init__") "choices")), ("calls", .adr (kwAt (nmC cC_Parcel, some "__init__") "calls")), ("deeds", .adr (kwAt (nmC cC_Parcel, some "__init__") "deeds"))]⟩
def h_law_great : He.DefD := ⟨("_law_great", none), "_law_great", "_law_great", defArgs s_law_great, defBody s_law_great, defScope s_law_great, [], []⟩
def h_law_made : He.DefD := ⟨("_law_made", none), "_law_made", "_law_made", defArgs s_law_made, defBody s_law_made, defScope s_law_made, [], []⟩
def h_law_pool : He.DefD := ⟨("_law_pool", none), "_law_pool", "_law_pool", defArgs s_law_pool, defBody s_law_pool, defScope s_law_pool, [], []⟩
def h_Parcel_repr : He.DefD := ⟨(nmC cC_Parcel, some "__repr__"), "__repr__", "Parcel.__repr__", defArgs s_Parcel_repr, defBody s_Parcel_repr, defScope s_Parcel_repr, [], []⟩
def h_Parcel_str : He.DefD := ⟨(nmC cC_Parcel, some "__str__"), "__str__", "Parcel.__str__", defArgs s_Parcel_str, defBody s_Parcel_str, defScope s_Parcel_str, [], []⟩
def h_Parcel_ahead : He.DefD := ⟨(nmC cC_Parcel, some "ahead"), "ahead", "Parcel.ahead", defArgs s_Parcel_ahead, defBody s_Parcel_ahead, defScope s_Parcel_ahead, [], []⟩
def h_Parcel_asides : He.DefD := ⟨(nmC cC_Parcel, some "asides"), "asides", "Parcel.asides", defArgs s_Parcel_asides, defBody s_Parcel_asides, defScope s_Parcel_asides, [], []⟩
def h_Parcel_called : He.DefD := ⟨(nmC cC_Parcel, some "called"), "called", "Parcel.called", defArgs s_Parcel_called, defBody s_Parcel_called, defScope s_Parcel_called, [], []⟩
def h_Parcel_calls : He.DefD := ⟨(nmC cC_Parcel, some "calls"), "calls", "Parcel.calls", defArgs s_Parcel_calls, defBody s_Parcel_calls, defScope s_Parcel_calls, [], []⟩
def h_Parcel_choices : He.DefD := ⟨(nmC cC_Parcel, some "choices"), "choices", "Parcel.choices", defArgs s_Parcel_choices, defBody s_Parcel_choices, defScope s_Parcel_choices, [], []⟩
def h_Parcel_clashes : He.DefD := ⟨(nmC cC_Parcel, some "clashes"), "clashes", "Parcel.clashes", defArgs s_Parcel_clashes, defBody s_Parcel_clashes, defScope s_Parcel_clashes, [], []⟩
def h_Parcel_deeds : He.DefD := ⟨(nmC cC_Parcel, some "deeds"), "deeds", "Parcel.deeds", defArgs s_Parcel_deeds, defBody s_Parcel_deeds, defScope s_Parcel_deeds, [], []⟩
def h_Parcel_edition : He.DefD := ⟨(nmC cC_Parcel, some "edition"), "edition", "Parcel.edition", defArgs s_Parcel_edition, defBody s_Parcel_edition, defScope s_Parcel_edition, [], []⟩
def h_Parcel_files : He.DefD := ⟨(nmC cC_Parcel, some "files"), "files", "Parcel.files", defArgs s_Parcel_files, defBody s_Parcel_files, defScope s_Parcel_files, [], []⟩
def h_Parcel_needs : He.DefD := ⟨(nmC cC_Parcel, some "needs"), "needs", "Parcel.needs", defArgs s_Parcel_needs, defBody s_Parcel_needs, defScope s_Parcel_needs, [], []⟩
def h_Parcel_settings : He.DefD := ⟨(nmC cC_Parcel, some "settings"), "settings", "Parcel.settings", defArgs s_Parcel_settings, defBody s_Parcel_settings, defScope s_Parcel_settings, [], []⟩
def h_law_parts : He.DefD := ⟨("_law_parts", none), "_law_parts", "_law_parts", defArgs s_law_parts, defBody s_law_parts, defScope s_law_parts, [], []⟩
def h_law_right : He.DefD := ⟨("_law_right", none), "_law_right", "_law_right", defArgs s_law_right, defBody s_law_right, defScope s_law_right, [], []⟩
def h_law_take : He.DefD := ⟨("_law_take", none), "_law_take", "_law_take", defArgs s_law_take, defBody s_law_take, defScope s_law_take, [], []⟩
def h_law_needs : He.DefD := ⟨("_law_needs", none), "_law_needs", "_law_needs", defArgs s_law_needs, defBody s_law_needs, defScope s_law_needs, [], []⟩
def h_law_rising : He.DefD := ⟨("_law_rising", none), "_law_rising", "_law_rising", defArgs s_law_rising, defBody s_law_rising, defScope s_law_rising, [], []⟩
def h_law_spec : He.DefD := ⟨("_law_spec", none), "_law_spec", "_law_spec", defArgs s_law_spec, defBody s_law_spec, defScope s_law_spec, [], []⟩
def h_law : He.DefD := ⟨("law", none), "law", "law", defArgs s_law, defBody s_law, defScope s_law, [], []⟩
def hfn : List He.DefD := [h_Parcel_eq, h_is_name, h_is_path, h_is_tuple, h_is_aside, h_is_whole, h_is_from, h_is_choice, h_is_edition, h_is_clash, h_is_deed, h_is_worth, h_is_file, h_is_option, h_are_all, h_heads_of, h_is_need, h_rise, h_are_rising, h_are_asides, h_are_calls, h_are_choices, h_are_needs, h_Parcel_init, h_law_great, h_law_made, h_law_pool, h_Parcel_repr, h_Parcel_str, h_Parcel_ahead, h_Parcel_asides, h_Parcel_called, h_Parcel_calls, h_Parcel_choices, h_Parcel_clashes, h_Parcel_deeds, h_Parcel_edition, h_Parcel_files, h_Parcel_needs, h_Parcel_settings, h_law_parts, h_law_right, h_law_take, h_law_needs, h_law_rising, h_law_spec, h_law]
def hfa : List He.Fa := ([.glo (nmC cC_Parcel), .cls (nmC cC_Parcel), .meth (nmC cC_Parcel) "__eq__", .glo "is_name", .glo "is_path", .glo "is_tuple", .glo "is_aside", .glo "is_whole", .glo "is_from", .glo "is_choice", .glo "is_edition", .glo "is_clash", .glo "is_deed", .glo "is_worth", .glo "is_file", .glo "is_option", .glo "are_all", .glo "heads_of", .glo "is_need", .glo "rise"] : List He.Fa) ++ ([.glo "are_rising", .glo "are_asides", .glo "are_calls", .glo "are_choices", .glo "are_needs", .meth (nmC cC_Parcel) "__init__", .glo "_law_great", .glo "_law_made", .glo "_law_pool", .meth (nmC cC_Parcel) "__repr__", .meth (nmC cC_Parcel) "__str__", .meth (nmC cC_Parcel) "ahead", .meth (nmC cC_Parcel) "asides", .meth (nmC cC_Parcel) "called", .meth (nmC cC_Parcel) "calls", .meth (nmC cC_Parcel) "choices", .meth (nmC cC_Parcel) "clashes", .meth (nmC cC_Parcel) "deeds", .meth (nmC cC_Parcel) "edition", .meth (nmC cC_Parcel) "files"] : List He.Fa) ++ ([.meth (nmC cC_Parcel) "needs", .meth (nmC cC_Parcel) "settings", .glo "_law_parts", .glo "_law_right", .glo "_law_take", .glo "_law_needs", .glo "_law_rising", .glo "_law_spec", .glo "law", .mkr (nmC cC_Parcel), .noat (nmC cC_Parcel) "own_edition", .noat (nmC cC_Parcel) "own_name", .noat (nmC cC_Parcel) "own_parts", .free "abs", .free "all", .free "any", .free "bool", .free "int", .free "isinstance", .free "len"] : List He.Fa) ++ ([.free "max", .free "min", .free "range", .free "repr", .free "set", .free "sorted", .free "str", .free "tuple", .free "zip", .str "LETTERS" "abcdefghijklmnopqrstuvwxyz", .int "MOST_BY" 99, .int "MOST_EDITION" 999, .int "MOST_NAME" 8, .int "MOST_NAMES" 3, .int "MOST_OPTIONS" 3, .int "MOST_RANK" 99, .int "MOST_WORTH" 1000000000] : List He.Fa)
def exL (K : PySem.W.Frag) : List Bool := [holdV K 8 (.ref (kwAt (nmC cC_Parcel, some "__init__") "needs" K)) (.tup []),
  holdV K 8 (.ref (kwAt (nmC cC_Parcel, some "__init__") "ahead" K)) (.tup []),
  holdV K 8 (.ref (kwAt (nmC cC_Parcel, some "__init__") "clashes" K)) (.tup []),
  holdV K 8 (.ref (kwAt (nmC cC_Parcel, some "__init__") "files" K)) (.tup []),
  holdV K 8 (.ref (kwAt (nmC cC_Parcel, some "__init__") "settings" K)) (.tup []),
  holdV K 8 (.ref (kwAt (nmC cC_Parcel, some "__init__") "asides" K)) (.tup []),
  holdV K 8 (.ref (kwAt (nmC cC_Parcel, some "__init__") "choices" K)) (.tup []),
  holdV K 8 (.ref (kwAt (nmC cC_Parcel, some "__init__") "calls" K)) (.tup []),
  holdV K 8 (.ref (kwAt (nmC cC_Parcel, some "__init__") "deeds" K)) (.tup []),
  ktB K (.own cC_Parcel) yes_Parcel no_Parcel,
  isCB K cC_Parcel,
  decide (PySem.W.findIn K (.ref (cl K cC_Parcel)) "__eq__" = some (some (.ref (He.fAd K (nmC cC_Parcel, some "__eq__"))))),
  decide (PySem.W.findIn K (.ref (cl K cC_Parcel)) "__ne__" = some (some (.builtin "object.__ne__"))),
  decide (PySem.W.mroIn K (cl K cC_Parcel) (.type "object") = some true),
  nfB K cC_Parcel right_Parcel,
  decide (PySem.W.findIn K (.ref (cl K cC_Parcel)) "__str__" = some (some (.ref (He.fAd K (nmC cC_Parcel, some "__str__"))))),
  decide (PySem.W.findIn K (.ref (cl K cC_Parcel)) "__repr__" = some (some (.ref (He.fAd K (nmC cC_Parcel, some "__repr__"))))),
  gloB K "WHENS" (.tup [(.str "ahead put"), (.str "behind set"), (.str "ahead loose")])]
def exB (K : PySem.W.Frag) : Bool := (exL K).all id
theorem exL_at {K : PySem.W.Frag} (h : exB K = true) (i : Nat) {b : Bool} (e : (exL K)[i]? = some b) : b = true := List.all_eq_true.mp h b (List.mem_of_getElem? e)
abbrev Rw : PySem.W.OpenRow := PySem.W.OpenLaw.row PySem.Challenge.rw_wholeparcels_k02_parcels_made_and_told
abbrev hk : PySem.W.Hook := He.hookX 5 hfa hfn [] [] exB
def hob (s : PySem.W.SharedT) : He.AlX := He.obsX 5 hfa hfn [] [] exB (HandSHeadRun.getT s)
theorem hob_eq (s : PySem.W.SharedT) : hob s = hk.obs s.abs := He.obsX_eq (HandSHeadRun.getT_eq s)
def hview : List Nat := [38, 39, 40, 41, 42, 43, 44, 45, 46, 47]
def hloose : List Str := (["WholeError", "NoParcel", "LETTERS", "MOST_NAME", "MOST_NAMES", "is_whole", "is_from", "is_name", "is_path", "MOST_EDITION", "MOST_WORTH", "MOST_RANK", "MOST_BY", "MOST_OPTIONS", "WHENS", "is_edition", "is_worth", "is_tuple", "are_all", "rise"] : List Str) ++ (["heads_of", "is_option", "is_need", "is_clash", "is_file", "is_aside", "is_choice", "is_deed", "are_needs", "are_rising", "are_asides", "are_choices", "are_calls", "Parcel"] : List Str)
theorem hrun (w : World) : HandSHeadRun.RunEq Rw (PySem.W.view Rw.prog hview) hk hob 4000 hloose w := by
  intro os
  kernel_rfl
noncomputable def tops {w : World} {K : PySem.W.Frag} {h : Heap} {mg : Str → Option Value} (X : K.In h) (G : h.Ns mainGlobals mg) (c : He.SaysX hfa hfn [] [] exB w h K) : Tops K mg where
  m_Parcel := (congrArg mg nC_Parcel).symm.trans (He.glo_ok X G (c.t.d.fact 0 (f := .glo (nmC cC_Parcel)) rfl))
  cl_Parcel := He.cls_ok (c.t.d.fact 1 (f := .cls (nmC cC_Parcel)) rfl)
  f_Parcel_eq := He.fAd K (nmC cC_Parcel, some "__eq__")
  d_Parcel_eq := Classical.choose (c.t.d.def_ 0 (d := h_Parcel_eq) rfl)
  F_Parcel_eq := Classical.choose_spec (c.t.d.def_ 0 (d := h_Parcel_eq) rfl)
  fn_Parcel_eq := (He.meth_ok (c.t.d.fact 2 (f := .meth (nmC cC_Parcel) "__eq__") rfl)).fn
  f_is_name := He.fAd K ("is_name", none)
  d_is_name := Classical.choose (c.t.d.def_ 1 (d := h_is_name) rfl)
  F_is_name := Classical.choose_spec (c.t.d.def_ 1 (d := h_is_name) rfl)
  m_is_name := He.glo_ok X G (c.t.d.fact 3 (f := .glo "is_name") rfl)
  mv_is_name := (He.glo_ok X G (c.t.d.fact 3 (f := .glo "is_name") rfl)).trans (congrArg (fun z => some (Value.ref (He.ga K z))) nv_is_name.symm)
  fv_is_name := congrArg (He.ga K) nv_is_name.symm
  f_is_path := He.fAd K ("is_path", none)
  d_is_path := Classical.choose (c.t.d.def_ 2 (d := h_is_path) rfl)
  F_is_path := Classical.choose_spec (c.t.d.def_ 2 (d := h_is_path) rfl)
  m_is_path := He.glo_ok X G (c.t.d.fact 4 (f := .glo "is_path") rfl)
  f_is_tuple := He.fAd K ("is_tuple", none)
  d_is_tuple := Classical.choose (c.t.d.def_ 3 (d := h_is_tuple) rfl)
  F_is_tuple := Classical.choose_spec (c.t.d.def_ 3 (d := h_is_tuple) rfl)
  m_is_tuple := He.glo_ok X G (c.t.d.fact 5 (f := .glo "is_tuple") rfl)
  f_is_aside := He.fAd K ("is_aside", none)
  d_is_aside := Classical.choose (c.t.d.def_ 4 (d := h_is_aside) rfl)
  F_is_aside := Classical.choose_spec (c.t.d.def_ 4 (d := h_is_aside) rfl)
  m_is_aside := He.glo_ok X G (c.t.d.fact 6 (f := .glo "is_aside") rfl)
  mv_is_aside := (He.glo_ok X G (c.t.d.fact 6 (f := .glo "is_aside") rfl)).trans (congrArg (fun z => some (Value.ref (He.ga K z))) nv_is_aside.symm)
  fv_is_aside := congrArg (He.ga K) nv_is_aside.symm
  f_is_whole := He.fAd K ("is_whole", none)
  d_is_whole := Classical.choose (c.t.d.def_ 5 (d := h_is_whole) rfl)
  F_is_whole := Classical.choose_spec (c.t.d.def_ 5 (d := h_is_whole) rfl)
  m_is_whole := He.glo_ok X G (c.t.d.fact 7 (f := .glo "is_whole") rfl)
  f_is_from := He.fAd K ("is_from", none)
  d_is_from := Classical.choose (c.t.d.def_ 6 (d := h_is_from) rfl)
  F_is_from := Classical.choose_spec (c.t.d.def_ 6 (d := h_is_from) rfl)
  m_is_from := He.glo_ok X G (c.t.d.fact 8 (f := .glo "is_from") rfl)
  f_is_choice := He.fAd K ("is_choice", none)
  d_is_choice := Classical.choose (c.t.d.def_ 7 (d := h_is_choice) rfl)
  F_is_choice := Classical.choose_spec (c.t.d.def_ 7 (d := h_is_choice) rfl)
  m_is_choice := He.glo_ok X G (c.t.d.fact 9 (f := .glo "is_choice") rfl)
  mv_is_choice := (He.glo_ok X G (c.t.d.fact 9 (f := .glo "is_choice") rfl)).trans (congrArg (fun z => some (Value.ref (He.ga K z))) nv_is_choice.symm)
  fv_is_choice := congrArg (He.ga K) nv_is_choice.symm
  f_is_edition := He.fAd K ("is_edition", none)
  d_is_edition := Classical.choose (c.t.d.def_ 8 (d := h_is_edition) rfl)
  F_is_edition := Classical.choose_spec (c.t.d.def_ 8 (d := h_is_edition) rfl)
  m_is_edition := He.glo_ok X G (c.t.d.fact 10 (f := .glo "is_edition") rfl)
  f_is_clash := He.fAd K ("is_clash", none)
  d_is_clash := Classical.choose (c.t.d.def_ 9 (d := h_is_clash) rfl)
  F_is_clash := Classical.choose_spec (c.t.d.def_ 9 (d := h_is_clash) rfl)
  m_is_clash := He.glo_ok X G (c.t.d.fact 11 (f := .glo "is_clash") rfl)
  mv_is_clash := (He.glo_ok X G (c.t.d.fact 11 (f := .glo "is_clash") rfl)).trans (congrArg (fun z => some (Value.ref (He.ga K z))) nv_is_clash.symm)
  fv_is_clash := congrArg (He.ga K) nv_is_clash.symm
  f_is_deed := He.fAd K ("is_deed", none)
  d_is_deed := Classical.choose (c.t.d.def_ 10 (d := h_is_deed) rfl)
  F_is_deed := Classical.choose_spec (c.t.d.def_ 10 (d := h_is_deed) rfl)
  m_is_deed := He.glo_ok X G (c.t.d.fact 12 (f := .glo "is_deed") rfl)
  mv_is_deed := (He.glo_ok X G (c.t.d.fact 12 (f := .glo "is_deed") rfl)).trans (congrArg (fun z => some (Value.ref (He.ga K z))) nv_is_deed.symm)
  fv_is_deed := congrArg (He.ga K) nv_is_deed.symm
  f_is_worth := He.fAd K ("is_worth", none)
  d_is_worth := Classical.choose (c.t.d.def_ 11 (d := h_is_worth) rfl)
  F_is_worth := Classical.choose_spec (c.t.d.def_ 11 (d := h_is_worth) rfl)
  m_is_worth := He.glo_ok X G (c.t.d.fact 13 (f := .glo "is_worth") rfl)
  f_is_file := He.fAd K ("is_file", none)
  d_is_file := Classical.choose (c.t.d.def_ 12 (d := h_is_file) rfl)
  F_is_file := Classical.choose_spec (c.t.d.def_ 12 (d := h_is_file) rfl)
  m_is_file := He.glo_ok X G (c.t.d.fact 14 (f := .glo "is_file") rfl)
  mv_is_file := (He.glo_ok X G (c.t.d.fact 14 (f := .glo "is_file") rfl)).trans (congrArg (fun z => some (Value.ref (He.ga K z))) nv_is_file.symm)
  fv_is_file := congrArg (He.ga K) nv_is_file.symm
  f_is_option := He.fAd K ("is_option", none)
  d_is_option := Classical.choose (c.t.d.def_ 13 (d := h_is_option) rfl)
  F_is_option := Classical.choose_spec (c.t.d.def_ 13 (d := h_is_option) rfl)
  m_is_option := He.glo_ok X G (c.t.d.fact 15 (f := .glo "is_option") rfl)
  mv_is_option := (He.glo_ok X G (c.t.d.fact 15 (f := .glo "is_option") rfl)).trans (congrArg (fun z => some (Value.ref (He.ga K z))) nv_is_option.symm)
  fv_is_option := congrArg (He.ga K) nv_is_option.symm
  f_are_all := He.fAd K ("are_all", none)
  d_are_all := Classical.choose (c.t.d.def_ 14 (d := h_are_all) rfl)
  F_are_all := Classical.choose_spec (c.t.d.def_ 14 (d := h_are_all) rfl)
  m_are_all := He.glo_ok X G (c.t.d.fact 16 (f := .glo "are_all") rfl)
  f_heads_of := He.fAd K ("heads_of", none)
  d_heads_of := Classical.choose (c.t.d.def_ 15 (d := h_heads_of) rfl)
  F_heads_of := Classical.choose_spec (c.t.d.def_ 15 (d := h_heads_of) rfl)
  m_heads_of := He.glo_ok X G (c.t.d.fact 17 (f := .glo "heads_of") rfl)
  f_is_need := He.fAd K ("is_need", none)
  d_is_need := Classical.choose (c.t.d.def_ 16 (d := h_is_need) rfl)
  F_is_need := Classical.choose_spec (c.t.d.def_ 16 (d := h_is_need) rfl)
  m_is_need := He.glo_ok X G (c.t.d.fact 18 (f := .glo "is_need") rfl)
  mv_is_need := (He.glo_ok X G (c.t.d.fact 18 (f := .glo "is_need") rfl)).trans (congrArg (fun z => some (Value.ref (He.ga K z))) nv_is_need.symm)
  fv_is_need := congrArg (He.ga K) nv_is_need.symm
  f_rise := He.fAd K ("rise", none)
  d_rise := Classical.choose (c.t.d.def_ 17 (d := h_rise) rfl)
  F_rise := Classical.choose_spec (c.t.d.def_ 17 (d := h_rise) rfl)
  m_rise := He.glo_ok X G (c.t.d.fact 19 (f := .glo "rise") rfl)
  f_are_rising := He.fAd K ("are_rising", none)
  d_are_rising := Classical.choose (c.t.d.def_ 18 (d := h_are_rising) rfl)
  F_are_rising := Classical.choose_spec (c.t.d.def_ 18 (d := h_are_rising) rfl)
  m_are_rising := He.glo_ok X G (c.t.d.fact 20 (f := .glo "are_rising") rfl)
  f_are_asides := He.fAd K ("are_asides", none)
  d_are_asides := Classical.choose (c.t.d.def_ 19 (d := h_are_asides) rfl)
  F_are_asides := Classical.choose_spec (c.t.d.def_ 19 (d := h_are_asides) rfl)
  m_are_asides := He.glo_ok X G (c.t.d.fact 21 (f := .glo "are_asides") rfl)
  f_are_calls := He.fAd K ("are_calls", none)
  d_are_calls := Classical.choose (c.t.d.def_ 20 (d := h_are_calls) rfl)
  F_are_calls := Classical.choose_spec (c.t.d.def_ 20 (d := h_are_calls) rfl)
  m_are_calls := He.glo_ok X G (c.t.d.fact 22 (f := .glo "are_calls") rfl)
  f_are_choices := He.fAd K ("are_choices", none)
  d_are_choices := Classical.choose (c.t.d.def_ 21 (d := h_are_choices) rfl)
  F_are_choices := Classical.choose_spec (c.t.d.def_ 21 (d := h_are_choices) rfl)
  m_are_choices := He.glo_ok X G (c.t.d.fact 23 (f := .glo "are_choices") rfl)
  f_are_needs := He.fAd K ("are_needs", none)
  d_are_needs := Classical.choose (c.t.d.def_ 22 (d := h_are_needs) rfl)
  F_are_needs := Classical.choose_spec (c.t.d.def_ 22 (d := h_are_needs) rfl)
  m_are_needs := He.glo_ok X G (c.t.d.fact 24 (f := .glo "are_needs") rfl)
  f_Parcel_init := He.fAd K (nmC cC_Parcel, some "__init__")
  d_Parcel_init := Classical.choose (c.t.d.def_ 23 (d := h_Parcel_init) rfl)
  F_Parcel_init := Classical.choose_spec (c.t.d.def_ 23 (d := h_Parcel_init) rfl)
  fn_Parcel_init := (He.meth_ok (c.t.d.fact 25 (f := .meth (nmC cC_Parcel) "__init__") rfl)).fn
  e_Parcel_init_needs := holdV_ref (exL_at c.more 0 rfl)
  e_Parcel_init_ahead := holdV_ref (exL_at c.more 1 rfl)
  e_Parcel_init_clashes := holdV_ref (exL_at c.more 2 rfl)
  e_Parcel_init_files := holdV_ref (exL_at c.more 3 rfl)
  e_Parcel_init_settings := holdV_ref (exL_at c.more 4 rfl)
  e_Parcel_init_asides := holdV_ref (exL_at c.more 5 rfl)
  e_Parcel_init_choices := holdV_ref (exL_at c.more 6 rfl)
  e_Parcel_init_calls := holdV_ref (exL_at c.more 7 rfl)
  e_Parcel_init_deeds := holdV_ref (exL_at c.more 8 rfl)
  f_law_great := He.fAd K ("_law_great", none)
  d_law_great := Classical.choose (c.t.d.def_ 24 (d := h_law_great) rfl)
  F_law_great := Classical.choose_spec (c.t.d.def_ 24 (d := h_law_great) rfl)
  m_law_great := He.glo_ok X G (c.t.d.fact 26 (f := .glo "_law_great") rfl)
  f_law_made := He.fAd K ("_law_made", none)
  d_law_made := Classical.choose (c.t.d.def_ 25 (d := h_law_made) rfl)
  F_law_made := Classical.choose_spec (c.t.d.def_ 25 (d := h_law_made) rfl)
  m_law_made := He.glo_ok X G (c.t.d.fact 27 (f := .glo "_law_made") rfl)
  f_law_pool := He.fAd K ("_law_pool", none)
  d_law_pool := Classical.choose (c.t.d.def_ 26 (d := h_law_pool) rfl)
  F_law_pool := Classical.choose_spec (c.t.d.def_ 26 (d := h_law_pool) rfl)
  m_law_pool := He.glo_ok X G (c.t.d.fact 28 (f := .glo "_law_pool") rfl)
  f_Parcel_repr := He.fAd K (nmC cC_Parcel, some "__repr__")
  d_Parcel_repr := Classical.choose (c.t.d.def_ 27 (d := h_Parcel_repr) rfl)
  F_Parcel_repr := Classical.choose_spec (c.t.d.def_ 27 (d := h_Parcel_repr) rfl)
  fn_Parcel_repr := (He.meth_ok (c.t.d.fact 29 (f := .meth (nmC cC_Parcel) "__repr__") rfl)).fn
  f_Parcel_str := He.fAd K (nmC cC_Parcel, some "__str__")
  d_Parcel_str := Classical.choose (c.t.d.def_ 28 (d := h_Parcel_str) rfl)
  F_Parcel_str := Classical.choose_spec (c.t.d.def_ 28 (d := h_Parcel_str) rfl)
  fn_Parcel_str := (He.meth_ok (c.t.d.fact 30 (f := .meth (nmC cC_Parcel) "__str__") rfl)).fn
  f_Parcel_ahead := He.fAd K (nmC cC_Parcel, some "ahead")
  d_Parcel_ahead := Classical.choose (c.t.d.def_ 29 (d := h_Parcel_ahead) rfl)
  F_Parcel_ahead := Classical.choose_spec (c.t.d.def_ 29 (d := h_Parcel_ahead) rfl)
  fn_Parcel_ahead := (He.meth_ok (c.t.d.fact 31 (f := .meth (nmC cC_Parcel) "ahead") rfl)).fn
  f_Parcel_asides := He.fAd K (nmC cC_Parcel, some "asides")
  d_Parcel_asides := Classical.choose (c.t.d.def_ 30 (d := h_Parcel_asides) rfl)
  F_Parcel_asides := Classical.choose_spec (c.t.d.def_ 30 (d := h_Parcel_asides) rfl)
  fn_Parcel_asides := (He.meth_ok (c.t.d.fact 32 (f := .meth (nmC cC_Parcel) "asides") rfl)).fn
  f_Parcel_called := He.fAd K (nmC cC_Parcel, some "called")
  d_Parcel_called := Classical.choose (c.t.d.def_ 31 (d := h_Parcel_called) rfl)
  F_Parcel_called := Classical.choose_spec (c.t.d.def_ 31 (d := h_Parcel_called) rfl)
  fn_Parcel_called := (He.meth_ok (c.t.d.fact 33 (f := .meth (nmC cC_Parcel) "called") rfl)).fn
  f_Parcel_calls := He.fAd K (nmC cC_Parcel, some "calls")
  d_Parcel_calls := Classical.choose (c.t.d.def_ 32 (d := h_Parcel_calls) rfl)
  F_Parcel_calls := Classical.choose_spec (c.t.d.def_ 32 (d := h_Parcel_calls) rfl)
  fn_Parcel_calls := (He.meth_ok (c.t.d.fact 34 (f := .meth (nmC cC_Parcel) "calls") rfl)).fn
  f_Parcel_choices := He.fAd K (nmC cC_Parcel, some "choices")
  d_Parcel_choices := Classical.choose (c.t.d.def_ 33 (d := h_Parcel_choices) rfl)
  F_Parcel_choices := Classical.choose_spec (c.t.d.def_ 33 (d := h_Parcel_choices) rfl)
  fn_Parcel_choices := (He.meth_ok (c.t.d.fact 35 (f := .meth (nmC cC_Parcel) "choices") rfl)).fn
  f_Parcel_clashes := He.fAd K (nmC cC_Parcel, some "clashes")
  d_Parcel_clashes := Classical.choose (c.t.d.def_ 34 (d := h_Parcel_clashes) rfl)
  F_Parcel_clashes := Classical.choose_spec (c.t.d.def_ 34 (d := h_Parcel_clashes) rfl)
  fn_Parcel_clashes := (He.meth_ok (c.t.d.fact 36 (f := .meth (nmC cC_Parcel) "clashes") rfl)).fn
  f_Parcel_deeds := He.fAd K (nmC cC_Parcel, some "deeds")
  d_Parcel_deeds := Classical.choose (c.t.d.def_ 35 (d := h_Parcel_deeds) rfl)
  F_Parcel_deeds := Classical.choose_spec (c.t.d.def_ 35 (d := h_Parcel_deeds) rfl)
  fn_Parcel_deeds := (He.meth_ok (c.t.d.fact 37 (f := .meth (nmC cC_Parcel) "deeds") rfl)).fn
  f_Parcel_edition := He.fAd K (nmC cC_Parcel, some "edition")
  d_Parcel_edition := Classical.choose (c.t.d.def_ 36 (d := h_Parcel_edition) rfl)
  F_Parcel_edition := Classical.choose_spec (c.t.d.def_ 36 (d := h_Parcel_edition) rfl)
  fn_Parcel_edition := (He.meth_ok (c.t.d.fact 38 (f := .meth (nmC cC_Parcel) "edition") rfl)).fn
  f_Parcel_files := He.fAd K (nmC cC_Parcel, some "files")
  d_Parcel_files := Classical.choose (c.t.d.def_ 37 (d := h_Parcel_files) rfl)
  F_Parcel_files := Classical.choose_spec (c.t.d.def_ 37 (d := h_Parcel_files) rfl)
  fn_Parcel_files := (He.meth_ok (c.t.d.fact 39 (f := .meth (nmC cC_Parcel) "files") rfl)).fn
  f_Parcel_needs := He.fAd K (nmC cC_Parcel, some "needs")
  d_Parcel_needs := Classical.choose (c.t.d.def_ 38 (d := h_Parcel_needs) rfl)
  F_Parcel_needs := Classical.choose_spec (c.t.d.def_ 38 (d := h_Parcel_needs) rfl)
  fn_Parcel_needs := (He.meth_ok (c.t.d.fact 40 (f := .meth (nmC cC_Parcel) "needs") rfl)).fn
  f_Parcel_settings := He.fAd K (nmC cC_Parcel, some "settings")
  d_Parcel_settings := Classical.choose (c.t.d.def_ 39 (d := h_Parcel_settings) rfl)
  F_Parcel_settings := Classical.choose_spec (c.t.d.def_ 39 (d := h_Parcel_settings) rfl)
  fn_Parcel_settings := (He.meth_ok (c.t.d.fact 41 (f := .meth (nmC cC_Parcel) "settings") rfl)).fn
  f_law_parts := He.fAd K ("_law_parts", none)
  d_law_parts := Classical.choose (c.t.d.def_ 40 (d := h_law_parts) rfl)
  F_law_parts := Classical.choose_spec (c.t.d.def_ 40 (d := h_law_parts) rfl)
  m_law_parts := He.glo_ok X G (c.t.d.fact 42 (f := .glo "_law_parts") rfl)
  f_law_right := He.fAd K ("_law_right", none)
  d_law_right := Classical.choose (c.t.d.def_ 41 (d := h_law_right) rfl)
  F_law_right := Classical.choose_spec (c.t.d.def_ 41 (d := h_law_right) rfl)
  m_law_right := He.glo_ok X G (c.t.d.fact 43 (f := .glo "_law_right") rfl)
  f_law_take := He.fAd K ("_law_take", none)
  d_law_take := Classical.choose (c.t.d.def_ 42 (d := h_law_take) rfl)
  F_law_take := Classical.choose_spec (c.t.d.def_ 42 (d := h_law_take) rfl)
  m_law_take := He.glo_ok X G (c.t.d.fact 44 (f := .glo "_law_take") rfl)
  f_law_needs := He.fAd K ("_law_needs", none)
  d_law_needs := Classical.choose (c.t.d.def_ 43 (d := h_law_needs) rfl)
  F_law_needs := Classical.choose_spec (c.t.d.def_ 43 (d := h_law_needs) rfl)
  m_law_needs := He.glo_ok X G (c.t.d.fact 45 (f := .glo "_law_needs") rfl)
  f_law_rising := He.fAd K ("_law_rising", none)
  d_law_rising := Classical.choose (c.t.d.def_ 44 (d := h_law_rising) rfl)
  F_law_rising := Classical.choose_spec (c.t.d.def_ 44 (d := h_law_rising) rfl)
  m_law_rising := He.glo_ok X G (c.t.d.fact 46 (f := .glo "_law_rising") rfl)
  f_law_spec := He.fAd K ("_law_spec", none)
  d_law_spec := Classical.choose (c.t.d.def_ 45 (d := h_law_spec) rfl)
  F_law_spec := Classical.choose_spec (c.t.d.def_ 45 (d := h_law_spec) rfl)
  m_law_spec := He.glo_ok X G (c.t.d.fact 47 (f := .glo "_law_spec") rfl)
  f_law := He.fAd K ("law", none)
  d_law := Classical.choose (c.t.d.def_ 46 (d := h_law) rfl)
  F_law := Classical.choose_spec (c.t.d.def_ 46 (d := h_law) rfl)
  m_law := He.glo_ok X G (c.t.d.fact 48 (f := .glo "law") rfl)
  me_Parcel_ahead := He.meth_ok (c.t.d.fact 31 (f := .meth (nmC cC_Parcel) "ahead") rfl)
  me_Parcel_asides := He.meth_ok (c.t.d.fact 32 (f := .meth (nmC cC_Parcel) "asides") rfl)
  me_Parcel_called := He.meth_ok (c.t.d.fact 33 (f := .meth (nmC cC_Parcel) "called") rfl)
  me_Parcel_calls := He.meth_ok (c.t.d.fact 34 (f := .meth (nmC cC_Parcel) "calls") rfl)
  me_Parcel_choices := He.meth_ok (c.t.d.fact 35 (f := .meth (nmC cC_Parcel) "choices") rfl)
  me_Parcel_clashes := He.meth_ok (c.t.d.fact 36 (f := .meth (nmC cC_Parcel) "clashes") rfl)
  me_Parcel_deeds := He.meth_ok (c.t.d.fact 37 (f := .meth (nmC cC_Parcel) "deeds") rfl)
  me_Parcel_edition := He.meth_ok (c.t.d.fact 38 (f := .meth (nmC cC_Parcel) "edition") rfl)
  me_Parcel_files := He.meth_ok (c.t.d.fact 39 (f := .meth (nmC cC_Parcel) "files") rfl)
  me_Parcel_needs := He.meth_ok (c.t.d.fact 40 (f := .meth (nmC cC_Parcel) "needs") rfl)
  me_Parcel_settings := He.meth_ok (c.t.d.fact 41 (f := .meth (nmC cC_Parcel) "settings") rfl)
  mk_Parcel := He.mkr_ok (c.t.d.fact 49 (f := .mkr (nmC cC_Parcel)) rfl)
  kt_Parcel := ktB_ok (exL_at c.more 9 rfl)
  isc := List.forall_mem_cons.mpr ⟨isCB_ok (He.cls_ok (c.t.d.fact 1 (f := .cls (nmC cC_Parcel)) rfl)) (exL_at c.more 10 rfl), fun _ h => absurd h List.not_mem_nil⟩
  at_own_edition := List.forall_mem_cons.mpr ⟨⟨He.cls_ok (c.t.d.fact 1 (f := .cls (nmC cC_Parcel)) rfl), He.noat_ok (c.t.d.fact 50 (f := .noat (nmC cC_Parcel) "own_edition") rfl)⟩, fun _ h => absurd h List.not_mem_nil⟩
  at_own_name := List.forall_mem_cons.mpr ⟨⟨He.cls_ok (c.t.d.fact 1 (f := .cls (nmC cC_Parcel)) rfl), He.noat_ok (c.t.d.fact 51 (f := .noat (nmC cC_Parcel) "own_name") rfl)⟩, fun _ h => absurd h List.not_mem_nil⟩
  at_own_parts := List.forall_mem_cons.mpr ⟨⟨He.cls_ok (c.t.d.fact 1 (f := .cls (nmC cC_Parcel)) rfl), He.noat_ok (c.t.d.fact 52 (f := .noat (nmC cC_Parcel) "own_parts") rfl)⟩, fun _ h => absurd h List.not_mem_nil⟩
  eq_Parcel := of_decide_eq_true (exL_at c.more 11 rfl)
  ne_Parcel := of_decide_eq_true (exL_at c.more 12 rfl)
  mo_Parcel := of_decide_eq_true (exL_at c.more 13 rfl)
  nf_Parcel := nfB_ok (exL_at c.more 14 rfl)
  str_Parcel := of_decide_eq_true (exL_at c.more 15 rfl)
  repr_Parcel := of_decide_eq_true (exL_at c.more 16 rfl)
  z_abs := He.free_ok X G (c.t.d.fact 53 (f := .free "abs") rfl)
  z_all := He.free_ok X G (c.t.d.fact 54 (f := .free "all") rfl)
  z_any := He.free_ok X G (c.t.d.fact 55 (f := .free "any") rfl)
  z_bool := He.free_ok X G (c.t.d.fact 56 (f := .free "bool") rfl)
  z_int := He.free_ok X G (c.t.d.fact 57 (f := .free "int") rfl)
  z_isinstance := He.free_ok X G (c.t.d.fact 58 (f := .free "isinstance") rfl)
  z_len := He.free_ok X G (c.t.d.fact 59 (f := .free "len") rfl)
  z_max := He.free_ok X G (c.t.d.fact 60 (f := .free "max") rfl)
  z_min := He.free_ok X G (c.t.d.fact 61 (f := .free "min") rfl)
  z_range := He.free_ok X G (c.t.d.fact 62 (f := .free "range") rfl)
  z_repr := He.free_ok X G (c.t.d.fact 63 (f := .free "repr") rfl)
  z_set := He.free_ok X G (c.t.d.fact 64 (f := .free "set") rfl)
  z_sorted := He.free_ok X G (c.t.d.fact 65 (f := .free "sorted") rfl)
  z_str := He.free_ok X G (c.t.d.fact 66 (f := .free "str") rfl)
  z_tuple := He.free_ok X G (c.t.d.fact 67 (f := .free "tuple") rfl)
  z_zip := He.free_ok X G (c.t.d.fact 68 (f := .free "zip") rfl)
  c_LETTERS := ⟨Classical.choose (He.str_ok X G (c.t.d.fact 69 (f := .str "LETTERS" "abcdefghijklmnopqrstuvwxyz") rfl)), Classical.choose_spec (He.str_ok X G (c.t.d.fact 69 (f := .str "LETTERS" "abcdefghijklmnopqrstuvwxyz") rfl))⟩
  c_MOST_BY := ⟨Classical.choose (He.int_ok X G (c.t.d.fact 70 (f := .int "MOST_BY" 99) rfl)), Classical.choose_spec (He.int_ok X G (c.t.d.fact 70 (f := .int "MOST_BY" 99) rfl))⟩
  c_MOST_EDITION := ⟨Classical.choose (He.int_ok X G (c.t.d.fact 71 (f := .int "MOST_EDITION" 999) rfl)), Classical.choose_spec (He.int_ok X G (c.t.d.fact 71 (f := .int "MOST_EDITION" 999) rfl))⟩
  c_MOST_NAME := ⟨Classical.choose (He.int_ok X G (c.t.d.fact 72 (f := .int "MOST_NAME" 8) rfl)), Classical.choose_spec (He.int_ok X G (c.t.d.fact 72 (f := .int "MOST_NAME" 8) rfl))⟩
  c_MOST_NAMES := ⟨Classical.choose (He.int_ok X G (c.t.d.fact 73 (f := .int "MOST_NAMES" 3) rfl)), Classical.choose_spec (He.int_ok X G (c.t.d.fact 73 (f := .int "MOST_NAMES" 3) rfl))⟩
  c_MOST_OPTIONS := ⟨Classical.choose (He.int_ok X G (c.t.d.fact 74 (f := .int "MOST_OPTIONS" 3) rfl)), Classical.choose_spec (He.int_ok X G (c.t.d.fact 74 (f := .int "MOST_OPTIONS" 3) rfl))⟩
  c_MOST_RANK := ⟨Classical.choose (He.int_ok X G (c.t.d.fact 75 (f := .int "MOST_RANK" 99) rfl)), Classical.choose_spec (He.int_ok X G (c.t.d.fact 75 (f := .int "MOST_RANK" 99) rfl))⟩
  c_MOST_WORTH := ⟨Classical.choose (He.int_ok X G (c.t.d.fact 76 (f := .int "MOST_WORTH" 1000000000) rfl)), Classical.choose_spec (He.int_ok X G (c.t.d.fact 76 (f := .int "MOST_WORTH" 1000000000) rfl))⟩
  c_WHENS := gloB_sub X G (exL_at c.more 17 rfl)
end DL02
namespace DL02
open PySem PySem.Spec PyProof.Rows L2 DL
theorem bools_map {α : Type} (f : α → Bool) : ∀ xs : List α, bools (xs.map fun x => .bl (f x)) = some (xs.map f)
  | [] => rfl
  | x :: xs => by simp [bools, bools_map f xs]
theorem all_map {α : Type} (f : α → Bool) (xs : List α) (μ : Mu) : bAll [.lst (xs.map fun x => .bl (f x))] μ = .ok (.bl (xs.all f)) μ := by
  simp [bAll, bools_map]
theorem any_map {α : Type} (f : α → Bool) (xs : List α) (μ : Mu) : bAny [.lst (xs.map fun x => .bl (f x))] μ = .ok (.bl (xs.any f)) μ := by
  simp [bAny, bools_map]
theorem filt_true (ds : List D) : List.filter (fun _ => true) ds = ds := List.filter_eq_self.mpr fun _ _ => rfl
def hd0 : D → D
  | .tup (y :: _) => y
  | _ => .non
theorem heads_ok {xs : List D} (h : ∀ x ∈ xs, ∃ y r, x = .tup (y :: r)) (hc : D.closedL 0 xs = true) (μ : Mu) : F_heads_of [.tup xs] μ = .ok (.lst (xs.map hd0)) μ := by
  refine fr_ok (μ1 := []) (by simp [D.closedL, D.closed, hc]) ?_ ?_
  · simp [g_heads_of, startD, wipeD]
    rw [lc_pure (fun x => [some (.tup xs), some x]) (fun _ => true) hd0 (xs := xs)]
    · simp [filt_true]
    · intro x hx
      obtain ⟨y, r, rfl⟩ := h x hx
      exact ⟨by simp, by simp, fun _ => by simp [hd0]⟩
  · simp only [D.closed]
    refine closed_of fun y hy => ?_
    obtain ⟨x, hx, rfl⟩ := List.mem_map.mp hy
    obtain ⟨y, r, rfl⟩ := h x hx
    have : ∀ (zs : List D), D.closedL 0 zs = true → ∀ z ∈ zs, z.closed 0 = true := by
      intro zs
      induction zs with
      | nil => intro _ z hz; cases hz
      | cons a zs ih =>
        intro h z hz
        simp [D.closedL] at h
        rcases List.mem_cons.mp hz with rfl | hz
        · exact h.1
        · exact ih h.2 z hz
    have h2 := this xs hc _ hx
    simp [D.closed, D.closedL] at h2
    exact h2.1
theorem all_need {ds : List D} {m : Int} (hl : (ds.length : Int) ≤ m) (hc : D.closedL 0 ds = true) (h : ∀ d ∈ ds, ∀ μ, F_is_need [d] μ = .ok (.bl true) μ) (μ : Mu) : F_are_all_v2 [.tup ds, .int m, dfn cv_is_need] μ = .ok (.bl true) μ := by
  refine fr_ok (μ1 := []) (by simp [D.closedL, D.closed, hc, dfn]) ?_ (by simp [D.closed])
  simp [g_are_all_v2, startD, wipeD, bLen, lenD, seqD, hl]
  rw [lc_pure (fun x => [some (.tup ds), some (.int m), some (dfn cv_is_need), some x]) (fun _ => true) (fun _ => .bl true) (xs := ds)]
  · simp [filt_true, all_map (fun _ => true)]
  · intro x hx
    exact ⟨by simp, by simp, fun _ => by simp [isFn, dfn, h x hx, cv_is_need, cv_is_clash, cv_is_file, cv_is_aside, cv_is_choice, cv_is_name, cv_is_deed]⟩
theorem all_clash {ds : List D} {m : Int} (hl : (ds.length : Int) ≤ m) (hc : D.closedL 0 ds = true) (h : ∀ d ∈ ds, ∀ μ, F_is_clash [d] μ = .ok (.bl true) μ) (μ : Mu) : F_are_all_v2 [.tup ds, .int m, dfn cv_is_clash] μ = .ok (.bl true) μ := by
  refine fr_ok (μ1 := []) (by simp [D.closedL, D.closed, hc, dfn]) ?_ (by simp [D.closed])
  simp [g_are_all_v2, startD, wipeD, bLen, lenD, seqD, hl]
  rw [lc_pure (fun x => [some (.tup ds), some (.int m), some (dfn cv_is_clash), some x]) (fun _ => true) (fun _ => .bl true) (xs := ds)]
  · simp [filt_true, all_map (fun _ => true)]
  · intro x hx
    exact ⟨by simp, by simp, fun _ => by simp [isFn, dfn, h x hx, cv_is_need, cv_is_clash, cv_is_file, cv_is_aside, cv_is_choice, cv_is_name, cv_is_deed]⟩
theorem all_file {ds : List D} {m : Int} (hl : (ds.length : Int) ≤ m) (hc : D.closedL 0 ds = true) (h : ∀ d ∈ ds, ∀ μ, F_is_file [d] μ = .ok (.bl true) μ) (μ : Mu) : F_are_all_v2 [.tup ds, .int m, dfn cv_is_file] μ = .ok (.bl true) μ := by
  refine fr_ok (μ1 := []) (by simp [D.closedL, D.closed, hc, dfn]) ?_ (by simp [D.closed])
  simp [g_are_all_v2, startD, wipeD, bLen, lenD, seqD, hl]
  rw [lc_pure (fun x => [some (.tup ds), some (.int m), some (dfn cv_is_file), some x]) (fun _ => true) (fun _ => .bl true) (xs := ds)]
  · simp [filt_true, all_map (fun _ => true)]
  · intro x hx
    exact ⟨by simp, by simp, fun _ => by simp [isFn, dfn, h x hx, cv_is_need, cv_is_clash, cv_is_file, cv_is_aside, cv_is_choice, cv_is_name, cv_is_deed]⟩
theorem all_aside {ds : List D} {m : Int} (hl : (ds.length : Int) ≤ m) (hc : D.closedL 0 ds = true) (h : ∀ d ∈ ds, ∀ μ, F_is_aside [d] μ = .ok (.bl true) μ) (μ : Mu) : F_are_all_v2 [.tup ds, .int m, dfn cv_is_aside] μ = .ok (.bl true) μ := by
  refine fr_ok (μ1 := []) (by simp [D.closedL, D.closed, hc, dfn]) ?_ (by simp [D.closed])
  simp [g_are_all_v2, startD, wipeD, bLen, lenD, seqD, hl]
  rw [lc_pure (fun x => [some (.tup ds), some (.int m), some (dfn cv_is_aside), some x]) (fun _ => true) (fun _ => .bl true) (xs := ds)]
  · simp [filt_true, all_map (fun _ => true)]
  · intro x hx
    exact ⟨by simp, by simp, fun _ => by simp [isFn, dfn, h x hx, cv_is_need, cv_is_clash, cv_is_file, cv_is_aside, cv_is_choice, cv_is_name, cv_is_deed]⟩
theorem all_choice {ds : List D} {m : Int} (hl : (ds.length : Int) ≤ m) (hc : D.closedL 0 ds = true) (h : ∀ d ∈ ds, ∀ μ, F_is_choice [d] μ = .ok (.bl true) μ) (μ : Mu) : F_are_all_v2 [.tup ds, .int m, dfn cv_is_choice] μ = .ok (.bl true) μ := by
  refine fr_ok (μ1 := []) (by simp [D.closedL, D.closed, hc, dfn]) ?_ (by simp [D.closed])
  simp [g_are_all_v2, startD, wipeD, bLen, lenD, seqD, hl]
  rw [lc_pure (fun x => [some (.tup ds), some (.int m), some (dfn cv_is_choice), some x]) (fun _ => true) (fun _ => .bl true) (xs := ds)]
  · simp [filt_true, all_map (fun _ => true)]
  · intro x hx
    exact ⟨by simp, by simp, fun _ => by simp [isFn, dfn, h x hx, cv_is_need, cv_is_clash, cv_is_file, cv_is_aside, cv_is_choice, cv_is_name, cv_is_deed]⟩
theorem all_name {ds : List D} {m : Int} (hl : (ds.length : Int) ≤ m) (hc : D.closedL 0 ds = true) (h : ∀ d ∈ ds, ∀ μ, F_is_name [d] μ = .ok (.bl true) μ) (μ : Mu) : F_are_all_v2 [.tup ds, .int m, dfn cv_is_name] μ = .ok (.bl true) μ := by
  refine fr_ok (μ1 := []) (by simp [D.closedL, D.closed, hc, dfn]) ?_ (by simp [D.closed])
  simp [g_are_all_v2, startD, wipeD, bLen, lenD, seqD, hl]
  rw [lc_pure (fun x => [some (.tup ds), some (.int m), some (dfn cv_is_name), some x]) (fun _ => true) (fun _ => .bl true) (xs := ds)]
  · simp [filt_true, all_map (fun _ => true)]
  · intro x hx
    exact ⟨by simp, by simp, fun _ => by simp [isFn, dfn, h x hx, cv_is_need, cv_is_clash, cv_is_file, cv_is_aside, cv_is_choice, cv_is_name, cv_is_deed]⟩
theorem all_deed {ds : List D} {m : Int} (hl : (ds.length : Int) ≤ m) (hc : D.closedL 0 ds = true) (h : ∀ d ∈ ds, ∀ μ, F_is_deed [d] μ = .ok (.bl true) μ) (μ : Mu) : F_are_all_v2 [.tup ds, .int m, dfn cv_is_deed] μ = .ok (.bl true) μ := by
  refine fr_ok (μ1 := []) (by simp [D.closedL, D.closed, hc, dfn]) ?_ (by simp [D.closed])
  simp [g_are_all_v2, startD, wipeD, bLen, lenD, seqD, hl]
  rw [lc_pure (fun x => [some (.tup ds), some (.int m), some (dfn cv_is_deed), some x]) (fun _ => true) (fun _ => .bl true) (xs := ds)]
  · simp [filt_true, all_map (fun _ => true)]
  · intro x hx
    exact ⟨by simp, by simp, fun _ => by simp [isFn, dfn, h x hx, cv_is_need, cv_is_clash, cv_is_file, cv_is_aside, cv_is_choice, cv_is_name, cv_is_deed]⟩
theorem all1_option {ds : List D} {m : Int} (hl : (ds.length : Int) ≤ m) (hc : D.closedL 0 ds = true) (h : ∀ d ∈ ds, ∀ μ, F_is_option [d] μ = .ok (.bl true) μ) (μ : Mu) : F_are_all_v1 [.tup ds, .int m, dfn cv_is_option] μ = .ok (.bl true) μ := by
  refine fr_ok (μ1 := []) (by simp [D.closedL, D.closed, hc, dfn]) ?_ (by simp [D.closed])
  simp [g_are_all_v1, startD, wipeD, bLen, lenD, seqD, hl]
  rw [lc_pure (fun x => [some (.tup ds), some (.int m), some (dfn cv_is_option), some x]) (fun _ => true) (fun _ => .bl true) (xs := ds)]
  · simp [filt_true, all_map (fun _ => true)]
  · intro x hx
    exact ⟨by simp, by simp, fun _ => by simp [isFn, dfn, h x hx, cv_is_need, cv_is_clash, cv_is_file, cv_is_aside, cv_is_choice, cv_is_name, cv_is_deed]⟩
end DL02
namespace DL02
open PySem PySem.Spec PyProof.Rows L2 DL
theorem cut_tail (xs : List D) : cutD xs (some 1) none = xs.drop 1 := by
  cases xs with
  | nil => simp [DL.cutD]
  | cons x xs =>
    simp [DL.cutD, HT.sIx]
theorem strs_closed (ss : List Str) (n : Nat) : D.closedL n (ss.map .str) = true := closed_of fun x hx => by
  obtain ⟨s, _, rfl⟩ := List.mem_map.mp hx
  simp [D.closed]
theorem adj {ss : List Str} (h : ss.Pairwise (fun x y => strLt x y = true)) : ∀ q ∈ zipD (ss.map .str) ((ss.map .str).drop 1), ∃ x y, q = .tup [.str x, .str y] ∧ strLt x y = true := by
  induction ss with
  | nil => intro q hq; simp [zipD] at hq
  | cons a ss ih =>
    intro q hq
    cases ss with
    | nil => simp [zipD] at hq
    | cons b ss =>
      have hp := List.pairwise_cons.mp h
      simp [zipD] at hq
      rcases hq with rfl | hq
      · exact ⟨a, b, rfl, hp.1 b (by simp)⟩
      · exact ih hp.2 q (by simp [zipD]; exact hq)
theorem rise_lst {ss : List Str} (h : ss.Pairwise (fun x y => strLt x y = true)) (μ : Mu) : F_rise [.lst (ss.map .str)] μ = .ok (.bl true) μ := by
  refine fr_ok (μ1 := []) (by simp [D.closedL, D.closed, strs_closed]) ?_ (by simp [D.closed])
  simp [g_rise, startD, wipeD, slD]
  rw [cut_tail, lc_pure (fun d => match d with | .tup [x, y] => [some (.lst (ss.map .str)), some x, some y] | _ => []) (fun _ => true) (fun _ => .bl true) (xs := zipD (ss.map .str) ((ss.map .str).drop 1))]
  · simp [filt_true, all_map (fun _ => true)]
  · intro q hq
    obtain ⟨x, y, rfl, hxy⟩ := adj h q hq
    exact ⟨by simp, by simp, fun _ => by simp [hxy]⟩
theorem rise_tup {ss : List Str} (h : ss.Pairwise (fun x y => strLt x y = true)) (μ : Mu) : F_rise [.tup (ss.map .str)] μ = .ok (.bl true) μ := by
  refine fr_ok (μ1 := []) (by simp [D.closedL, D.closed, strs_closed]) ?_ (by simp [D.closed])
  simp [g_rise, startD, wipeD, slD]
  rw [cut_tail, lc_pure (fun d => match d with | .tup [x, y] => [some (.tup (ss.map .str)), some x, some y] | _ => []) (fun _ => true) (fun _ => .bl true) (xs := zipD (ss.map .str) ((ss.map .str).drop 1))]
  · simp [filt_true, all_map (fun _ => true)]
  · intro q hq
    obtain ⟨x, y, rfl, hxy⟩ := adj h q hq
    exact ⟨by simp, by simp, fun _ => by simp [hxy]⟩
theorem in_strs (x : Str) (ss : List Str) (μ : Mu) : dIn (.str x) (.lst (ss.map .str)) μ = .ok (.bl (decide (x ∈ ss))) μ := by
  have key : inL (fun d => eqD 20 d (.str x)) (ss.map .str) = some (decide (x ∈ ss)) := by
    induction ss with
    | nil => simp [inL]
    | cons a ss ih =>
      simp only [List.map_cons, inL, ih]
      simp [eqD, D.kd, eqV]
      by_cases e : a = x
      · simp [e]
      · have e2 : ¬ x = a := fun z => e z.symm
        simp [e, e2]
  simp [dIn, inD, seqD, key]
theorem notin_strs (x : Str) (ss : List Str) (μ : Mu) : dNotIn (.str x) (.lst (ss.map .str)) μ = .ok (.bl (!decide (x ∈ ss))) μ := by
  have key : inL (fun d => eqD 20 d (.str x)) (ss.map .str) = some (decide (x ∈ ss)) := by
    induction ss with
    | nil => simp [inL]
    | cons a ss ih =>
      simp only [List.map_cons, inL, ih]
      simp [eqD, D.kd, eqV]
      by_cases e : a = x
      · simp [e]
      · have e2 : ¬ x = a := fun z => e z.symm
        simp [e, e2]
  simp [dNotIn, inD, seqD, key]
end DL02
namespace DL02
open PySem PySem.Spec PyProof.Rows L2 DL
def evN : List Str := ["a", "bb", "c", "d"]
def fMenu (w : Str) : List Str := ["s", "t", "u", "x/" ++ w, "y/" ++ w]
def sMenu (w : Str) : List Str := ["etc/" ++ w, "s", "z"]
def aMenu : List (Str × Str) := [("s", "far/s"), ("t", "far/t"), ("x/a", "far/a"), ("y/d", "far/d")]
def cMenu : List Str := ["edit", "view"]
def kMenu : List Str := ["fonts", "menus"]
def acts : List D := [.tup [.str "ahead put", .str "n", .int 2], .tup [.str "behind set", .str "n", .int (-1)], .tup [.str "ahead loose", .str "m", .int 5], .tup [.str "behind set", .str "k", .int 3]]
/-- a need of a parcel w, a clash of it -/
def needB (w : Str) (d : D) : Bool := okT F_is_need [d] && (tm [3, 3] d && (match F_heads_of [d] [] with
  | .ok (.lst hs) _ => (hs.all fun h => match h with | .str x => decide (x ≠ w) | _ => false)
  | _ => false))
def barB (w : Str) (d : D) : Bool := okT F_is_clash [d] && (tm [3, 3] d && (match d with | .tup (.str x :: _) => decide (x ≠ w) | _ => false))
def oth (w : Str) : List D := (evN.filter (fun x => x ≠ w)).map .str
/-! what is so of the few things that are drawn -/
theorem name_all : (evN.all fun w => okT F_is_name [.str w]) = true := by decide +kernel
theorem need_all : (evN.all fun w => decide ((oth w).length = 3) && (List.range 3).all fun v => match (oth w)[v]?, (oth w)[(v + 1) % 3]? with
  | some x, some y => [1, 2].all fun e => needB w (.tup [.tup [x, .int e]]) && needB w (.tup [.tup [x, .int e], .tup [y, .int 1]])
  | _, _ => false) = true := by decide +kernel
theorem bar_all : (evN.all fun w => evN.all fun x => decide (x = w) || [1, 2].all fun e => barB w (.tup [.str x, .int 1, .int e])) = true := by decide +kernel
theorem file_all : (evN.all fun w => (fMenu w ++ sMenu w).all fun p => (List.range 6).all fun n => okT F_is_file [.tup [.str p, .int n]]) = true := by decide +kernel
theorem aside_all : (aMenu.all fun q => okT F_is_aside [.tup [.str q.1, .str q.2]]) = true := by decide +kernel
theorem choice_all : (evN.all fun w => cMenu.all fun c => (fMenu w).all fun p => (List.range 3).all fun n => okT F_is_choice [.tup [.str c, .str p, .int n]]) = true := by decide +kernel
theorem call_all : (kMenu.all fun c => okT F_is_name [.str c]) = true := by decide +kernel
theorem deed_all : (acts.all fun c => okT F_is_deed [c]) = true := by decide +kernel
theorem year_all : ((List.range 4).all fun n => okT F_is_edition [.int (n + 1)]) = true := by decide +kernel
def pwS (l : List Str) : Bool := decide (l.Pairwise fun x y => strLt x y = true)
theorem menu_pw : (evN.all fun w => pwS (fMenu w) && (pwS (sMenu w) && (pwS (aMenu.map (·.1)) && (pwS cMenu && pwS kMenu)))) = true := by decide +kernel
end DL02
namespace DL02
open PySem PySem.Spec PyProof.Rows L2 DL
def pw (q : Str × Int) : D := .tup [.str q.1, .int q.2]
def pp (q : Str × Str) : D := .tup [.str q.1, .str q.2]
def pc (q : Str × Str × Int) : D := .tup [.str q.1, .str q.2.1, .int q.2.2]
structure Sp where
  who : Str
  year : Int
  wants : List D
  firsts : List D
  bars : List D
  files : List (Str × Int)
  tuned : List (Str × Int)
  lines : List (Str × Str)
  picks : List (Str × Str × Int)
  told : List Str
  done : List D
def Sp.ps (s : Sp) : List D := [.tup s.wants, .tup s.firsts, .tup s.bars, .tup (s.files.map pw), .tup (s.tuned.map pw), .tup (s.lines.map pp), .tup (s.picks.map pc), .tup (s.told.map .str), .tup s.done]
def Sp.d (s : Sp) : D := .tup (.str s.who :: .int s.year :: s.ps)
structure Sp.Ok (s : Sp) : Prop where
  who : s.who ∈ evN
  year : 1 ≤ s.year ∧ s.year ≤ 4
  wants : (∀ x ∈ s.wants, needB s.who x = true) ∧ s.wants.length ≤ 2
  firsts : (∀ x ∈ s.firsts, needB s.who x = true) ∧ s.firsts.length ≤ 2
  bars : (∀ x ∈ s.bars, barB s.who x = true) ∧ s.bars.length ≤ 1
  files : (s.files.map (·.1)).Sublist (fMenu s.who) ∧ ∀ q ∈ s.files, 0 ≤ q.2 ∧ q.2 ≤ 5
  tuned : (s.tuned.map (·.1)).Sublist (sMenu s.who) ∧ (∀ q ∈ s.tuned, 0 ≤ q.2 ∧ q.2 ≤ 5) ∧ ∀ q ∈ s.tuned, q.1 ∉ s.files.map (·.1)
  lines : s.lines.Sublist aMenu ∧ s.lines.length ≤ 3 ∧ ∀ q ∈ s.lines, q.1 ∉ s.tuned.map (·.1)
  picks : (s.picks.map (·.1)).Sublist cMenu ∧ ∀ q ∈ s.picks, q.2.1 ∈ s.files.map (·.1) ∧ 0 ≤ q.2.2 ∧ q.2.2 ≤ 2
  told : s.told.Sublist kMenu
  done : s.done.Sublist acts
section
variable {s : Sp}
theorem okT_at {α : Type} {l : List α} {f : α → Bool} (h : l.all f = true) {x : α} (hx : x ∈ l) : f x = true := List.all_eq_true.mp h x hx
theorem closed_at {xs : List D} (h : D.closedL 0 xs = true) : ∀ x ∈ xs, x.closed 0 = true := by
  induction xs with
  | nil => intro x hx; cases hx
  | cons a zs ih =>
    intro z hz
    simp [D.closedL] at h
    rcases List.mem_cons.mp hz with rfl | hz
    · exact h.1
    · exact ih h.2 z hz
theorem okT_closed {F : List D → Mu → R D} {d : D} (h : okT F [d] = true) : d.closed 0 = true := by
  unfold okT at h
  rw [Bool.and_eq_true] at h
  simpa [D.closedL] using h.1
theorem need_at {d : D} (h : needB s.who d = true) : (∀ μ, F_is_need [d] μ = .ok (.bl true) μ) ∧ d.closed 0 = true ∧ ∃ hs : List Str, (∀ μ, F_heads_of [d] μ = .ok (.lst (hs.map .str)) μ) ∧ s.who ∉ hs := by
  unfold needB at h
  simp only [Bool.and_eq_true] at h
  obtain ⟨a1, _, a3⟩ := h
  have hcl := okT_closed a1
  refine ⟨okT_fr (F := callF 1 g_is_need) a1, hcl, ?_⟩
  cases e : F_heads_of [d] [] with
  | ok x μ1 =>
    rw [e] at a3
    cases x with
    | lst hs =>
      dsimp only at a3
      rw [List.all_eq_true] at a3
      have key : ∀ l : List D, (∀ h ∈ l, (match h with | .str x => decide (x ≠ s.who) | _ => false) = true) → ∃ ss : List Str, l = ss.map .str ∧ s.who ∉ ss := by
        intro l
        induction l with
        | nil => exact fun _ => ⟨[], rfl, by simp⟩
        | cons y l ih =>
          intro hl
          obtain ⟨ss, rfl, hn⟩ := ih fun z hz => hl z (List.mem_cons_of_mem _ hz)
          have hy := hl y (by simp)
          cases y <;> simp at hy
          rename_i x
          exact ⟨x :: ss, rfl, by simp [hn]; exact fun z => hy z.symm⟩
      obtain ⟨ss, rfl, hn⟩ := key hs a3
      refine ⟨ss, fun μ => ?_, hn⟩
      have e' : framed (callF 2 g_heads_of) [d] [] = .ok (.lst (ss.map .str)) μ1 := e
      have hc : D.closedL 0 [d] = true := by simp [D.closedL, hcl]
      have hd : (D.lst (ss.map D.str)).closed 0 = true := by simp [D.closed, strs_closed]
      cases e2 : callF 2 g_heads_of [d] [] with
      | ok y μ2 =>
        by_cases cy : y.closed 0 = true
        · rw [framed_ok hc e2 cy] at e'
          cases e'
          exact framed_ok hc e2 cy
        · unfold framed at e'
          rw [if_pos hc, e2] at e'
          dsimp only at e'
          rw [if_neg cy] at e'
          cases e'
          exact absurd hd cy
      | ex c fs μ2 =>
        unfold framed at e'
        rw [if_pos hc, e2] at e'
        dsimp only at e'
        split at e' <;> cases e'
      | bad =>
        unfold framed at e'
        rw [if_pos hc, e2] at e'
        cases e'
    | _ => cases a3
  | ex c fs μ1 => rw [e] at a3; cases a3
  | bad => rw [e] at a3; cases a3
theorem needs_true (hw : s.who ∈ evN) {ds : List D} (h : ∀ x ∈ ds, needB s.who x = true) (hl : ds.length ≤ 2) (μ : Mu) : F_are_needs [.str s.who, .tup ds] μ = .ok (.bl true) μ := by
  have hc : D.closedL 0 ds = true := closed_of fun x hx => (need_at (h x hx)).2.1
  refine fr_ok (μ1 := []) (by simp [D.closedL, D.closed, hc]) ?_ (by simp [D.closed])
  have a := all_need (m := 4) (by omega) hc (fun d hd => (need_at (h d hd)).1) []
  simp [g_are_needs, startD, wipeD, a]
  rw [lc_pure (fun x => [some (.str s.who), some (.tup ds), some x]) (fun _ => true) (fun _ => .bl false) (xs := ds)]
  · simp [filt_true, any_map (fun _ => false)]
  · intro x hx
    obtain ⟨_, _, hs, e, hn⟩ := need_at (h x hx)
    exact ⟨by simp, by simp, fun _ => by simp [e, in_strs, hn]⟩
theorem bars_true (hw : s.who ∈ evN) {ds : List D} (h : ∀ x ∈ ds, barB s.who x = true) (hl : ds.length ≤ 1) (μ : Mu) : F_are_all_v2 [.tup ds, .int 4, dfn cv_is_clash] μ = .ok (.bl true) μ ∧ ∃ hs : List Str, F_heads_of [.tup ds] μ = .ok (.lst (hs.map .str)) μ ∧ s.who ∉ hs := by
  have at_ : ∀ x ∈ ds, okT F_is_clash [x] = true ∧ ∃ y r, x = .tup (.str y :: r) ∧ y ≠ s.who := fun x hx => by
    have a := h x hx
    unfold barB at a
    simp only [Bool.and_eq_true] at a
    refine ⟨a.1, ?_⟩
    have b := a.2.2
    split at b
    · rename_i y r
      exact ⟨y, r, rfl, of_decide_eq_true b⟩
    · cases b
  have hc : D.closedL 0 ds = true := closed_of fun x hx => okT_closed (at_ x hx).1
  refine ⟨all_clash (by omega) hc (fun d hd => okT_fr (F := callF 1 g_is_clash) (at_ d hd).1) μ, ?_⟩
  have hh := heads_ok (xs := ds) (fun x hx => by
    obtain ⟨_, y, r, rfl, _⟩ := at_ x hx
    exact ⟨_, _, rfl⟩) hc μ
  have key : ∃ hs : List Str, ds.map hd0 = hs.map .str ∧ s.who ∉ hs := by
    clear hh hc hl h
    induction ds with
    | nil => exact ⟨[], rfl, by simp⟩
    | cons x ds ih =>
      obtain ⟨hs, e, hn⟩ := ih fun z hz => at_ z (List.mem_cons_of_mem _ hz)
      obtain ⟨_, y, r, rfl, hy⟩ := at_ x (by simp)
      exact ⟨y :: hs, by simp [hd0, e], by simp [hn]; exact fun z => hy z.symm⟩
  obtain ⟨hs, e, hn⟩ := key
  exact ⟨hs, by rw [hh, e], hn⟩
theorem pw_closed (l : List (Str × Int)) : D.closedL 0 (l.map pw) = true := closed_of fun x hx => by
  obtain ⟨q, _, rfl⟩ := List.mem_map.mp hx
  simp [pw, D.closed, D.closedL]
theorem pp_closed (l : List (Str × Str)) : D.closedL 0 (l.map pp) = true := closed_of fun x hx => by
  obtain ⟨q, _, rfl⟩ := List.mem_map.mp hx
  simp [pp, D.closed, D.closedL]
theorem pc_closed (l : List (Str × Str × Int)) : D.closedL 0 (l.map pc) = true := closed_of fun x hx => by
  obtain ⟨q, _, rfl⟩ := List.mem_map.mp hx
  simp [pc, D.closed, D.closedL]
theorem pw_heads (l : List (Str × Int)) (μ : Mu) : F_heads_of [.tup (l.map pw)] μ = .ok (.lst ((l.map (·.1)).map .str)) μ := by
  rw [heads_ok (fun x hx => by
    obtain ⟨q, _, rfl⟩ := List.mem_map.mp hx
    exact ⟨_, _, rfl⟩) (pw_closed l)]
  simp [hd0, pw, Function.comp_def]
theorem pp_heads (l : List (Str × Str)) (μ : Mu) : F_heads_of [.tup (l.map pp)] μ = .ok (.lst ((l.map (·.1)).map .str)) μ := by
  rw [heads_ok (fun x hx => by
    obtain ⟨q, _, rfl⟩ := List.mem_map.mp hx
    exact ⟨_, _, rfl⟩) (pp_closed l)]
  simp [hd0, pp, Function.comp_def]
theorem pc_heads (l : List (Str × Str × Int)) (μ : Mu) : F_heads_of [.tup (l.map pc)] μ = .ok (.lst ((l.map (·.1)).map .str)) μ := by
  rw [heads_ok (fun x hx => by
    obtain ⟨q, _, rfl⟩ := List.mem_map.mp hx
    exact ⟨_, _, rfl⟩) (pc_closed l)]
  simp [hd0, pc, Function.comp_def]
theorem pw_of {w : Str} (hw : w ∈ evN) {l : List Str} : (l.Sublist (fMenu w) ∨ l.Sublist (sMenu w) ∨ l.Sublist (aMenu.map (·.1)) ∨ l.Sublist cMenu ∨ l.Sublist kMenu) → l.Pairwise fun x y => strLt x y = true := by
  have a := okT_at menu_pw hw
  simp only [Bool.and_eq_true, pwS, decide_eq_true_eq] at a
  obtain ⟨a1, a2, a3, a4, a5⟩ := a
  rintro (h | h | h | h | h)
  · exact a1.sublist h
  · exact a2.sublist h
  · exact a3.sublist h
  · exact a4.sublist h
  · exact a5.sublist h
theorem file_true {w p : Str} (hw : w ∈ evN) (hp : p ∈ fMenu w ++ sMenu w) {n : Int} (h : 0 ≤ n ∧ n ≤ 5) (μ : Mu) : F_is_file [.tup [.str p, .int n]] μ = .ok (.bl true) μ := by
  obtain ⟨m, rfl⟩ := Int.eq_ofNat_of_zero_le h.1
  exact okT_fr (F := callF 1 g_is_file) (okT_at (okT_at (okT_at file_all hw) hp) (List.mem_range.mpr (by omega))) μ
theorem rising_files {w : Str} (hw : w ∈ evN) {l : List (Str × Int)} (h : (l.map (·.1)).Sublist (fMenu w) ∨ (l.map (·.1)).Sublist (sMenu w)) (hn : ∀ q ∈ l, 0 ≤ q.2 ∧ q.2 ≤ 5) (μ : Mu) : F_are_rising [.tup (l.map pw), .int 8, dfn cv_is_file] μ = .ok (.bl true) μ := by
  refine fr_ok (μ1 := []) (by simp [D.closedL, D.closed, pw_closed, dfn]) ?_ (by simp [D.closed])
  have hl : l.length ≤ 5 := by
    have : (l.map (·.1)).length ≤ 5 := by
      rcases h with h | h
      · exact h.length_le
      · exact Nat.le_trans h.length_le (by simp [sMenu])
    simpa using this
  have a := all_file (ds := l.map pw) (m := 8) (by simp; omega) (pw_closed l) (fun d hd => by
    obtain ⟨q, hq, rfl⟩ := List.mem_map.mp hd
    refine file_true hw ?_ (hn q hq)
    have hm : q.1 ∈ l.map (·.1) := List.mem_map.mpr ⟨q, hq, rfl⟩
    rcases h with h | h
    · exact List.mem_append_left _ (h.subset hm)
    · exact List.mem_append_right _ (h.subset hm)) []
  have b := rise_lst (pw_of hw (by rcases h with h | h; exact .inl h; exact .inr (.inl h))) []
  simp [g_are_rising, startD, a, pw_heads]
  simp at b
  simp [b]
end
end DL02
namespace DL02
open PySem PySem.Spec PyProof.Rows L2 DL
theorem met_nodup : ∀ (xs acc : List Str), (∀ x ∈ xs, x ∉ acc) → xs.Nodup → (xs.foldl dd1 acc).length = acc.length + xs.length
  | [], acc, _, _ => by simp
  | x :: xs, acc, h, hn => by
    have hx : x ∉ acc := h x (by simp)
    have e : dd1 acc x = acc ++ [x] ∨ (dd1 acc x).length = acc.length + 1 ∧ ∀ y, y ∈ dd1 acc x ↔ (y ∈ acc ∨ y = x) := by
      unfold dd1
      have : acc.any (· == x) = false := by
        rw [List.any_eq_false]
        intro z hz q
        exact hx (by rw [← beq_iff_eq.mp q]; exact hz)
      simp [this]
    have hn' := List.nodup_cons.mp hn
    have mem : ∀ y, y ∈ dd1 acc x ↔ (y ∈ acc ∨ y = x) := by
      rcases e with e | e
      · intro y; rw [e]; simp
      · exact e.2
    have len : (dd1 acc x).length = acc.length + 1 := by
      rcases e with e | e
      · rw [e]; simp
      · exact e.1
    rw [List.foldl_cons, met_nodup xs (dd1 acc x) (fun y hy z => by
      rcases (mem y).mp z with z | z
      · exact h y (List.mem_cons_of_mem _ hy) z
      · exact hn'.1 (by rw [← z]; exact hy)) hn'.2, len, List.length_cons]
    omega
theorem strsD_map : ∀ ss : List Str, strsD (ss.map .str) = some ss
  | [] => by simp [strsD]
  | s :: ss => by simp [strsD, strsD_map ss]
theorem intsD_strs : ∀ ss : List Str, ss ≠ [] → intsD (ss.map .str) = none
  | [], h => absurd rfl h
  | s :: ss, _ => by simp [intsD]
theorem setLen_nodup {ss : List Str} (h : ss.Nodup) (hl : ss.length ≤ 1000) : setLen (ss.map .str) = some ss.length := by
  cases ss with
  | nil => simp [setLen, intsD, kinds, PyProof.Rows.firstMet]
  | cons s ss =>
    unfold setLen
    rw [intsD_strs _ (by simp), strsD_map]
    dsimp only
    rw [if_pos hl]
    have := met_nodup (s :: ss) [] (fun x _ z => by cases z) h
    simp only [met, List.take_length]
    rw [this]
    simp
section
variable {s : Sp}
theorem far_apart : (evN.all fun w => aMenu.all fun q => decide (q.2 ∉ aMenu.map (·.1) ++ fMenu w ++ sMenu w)) = true := by decide +kernel
theorem far_nodup : (aMenu.map (·.2)).Nodup := by decide +kernel
theorem pick_apart : (evN.all fun w => cMenu.all fun q => decide (q ∉ fMenu w ++ sMenu w)) = true := by decide +kernel
theorem asides_core {L : List (Str × Str)} {A O F S : List Str} {fd sd : D} (hA : L.map (·.1) = A) (hO : L.map (·.2) = O) (cf : fd.closed 0 = true) (cs : sd.closed 0 = true) (ris : F_are_rising [.tup (L.map pp), .int 3, dfn cv_is_aside] [] = .ok (.bl true) [])
    (hf : F_heads_of [fd] [] = .ok (.lst (F.map .str)) []) (hs : F_heads_of [sd] [] = .ok (.lst (S.map .str)) []) (nd : O.Nodup) (ln : A.length + F.length + S.length + O.length ≤ 1000) (d1 : ∀ a ∈ A, a ∉ S) (d2 : ∀ o ∈ O, o ∉ A ++ F ++ S) (μ : Mu) : F_are_asides [.tup (L.map pp), fd, sd] μ = .ok (.bl true) μ := by
  refine fr_ok (μ1 := []) (by simp [D.closedL, D.closed, pp_closed, cf, cs]) ?_ (by simp [D.closed])
  have hp := pp_heads L []
  rw [hA] at hp
  have lc1 : lcD (.tp [.nm 5, .nm 6]) tyes (dvar 6) [some (.tup (L.map pp)), some fd, some sd, some (.lst (A.map .str)), none, none, none] (L.map pp) [] = .ok (O.map .str) [] := by
    rw [lc_pure (fun d => match d with | .tup [x, y] => [some (.tup (L.map pp)), some fd, some sd, some (.lst (A.map .str)), none, some x, some y] | _ => []) (fun _ => true) (fun d => match d with | .tup [x, y] => y | _ => .non) (xs := L.map pp)]
    · rw [← hO]
      simp [filt_true, pp, Function.comp_def]
    · intro q hq
      obtain ⟨z, _, rfl⟩ := List.mem_map.mp hq
      exact ⟨by simp [pp], by simp, fun _ => by simp [pp]⟩
  have sl := setLen_nodup nd (by omega)
  have lc2 : ∀ ρ5 ρ6 : Option D, lcD (.nm 5) tyes (dbin dIn (dvar 5) (dcall F_heads_of [] (aCons (dvar 2) aNil))) [some (.tup (L.map pp)), some fd, some sd, some (.lst (A.map .str)), some (.lst (O.map .str)), ρ5, ρ6] (A.map .str) [] = .ok ((A.map D.str).map fun _ => .bl false) [] := by
    intro ρ5 ρ6
    rw [lc_pure (fun d => [some (.tup (L.map pp)), some fd, some sd, some (.lst (A.map .str)), some (.lst (O.map .str)), some d, ρ6]) (fun _ => true) (fun _ => .bl false) (xs := A.map .str)]
    · rw [filt_true]
    · intro q hq
      obtain ⟨z, hz, rfl⟩ := List.mem_map.mp hq
      exact ⟨by simp, by simp, fun _ => by simp [hs, in_strs, d1 z hz]⟩
  have lc3 : ∀ ρ5 ρ6 : Option D, lcD (.nm 6) tyes (dbin dIn (dvar 6) (dbin addX (dbin addX (dvar 3) (dcall F_heads_of [] (aCons (dvar 1) aNil))) (dcall F_heads_of [] (aCons (dvar 2) aNil)))) [some (.tup (L.map pp)), some fd, some sd, some (.lst (A.map .str)), some (.lst (O.map .str)), ρ5, ρ6] (O.map .str) [] = .ok ((O.map D.str).map fun _ => .bl false) [] := by
    intro ρ5 ρ6
    rw [lc_pure (fun d => [some (.tup (L.map pp)), some fd, some sd, some (.lst (A.map .str)), some (.lst (O.map .str)), ρ5, some d]) (fun _ => true) (fun _ => .bl false) (xs := O.map .str)]
    · rw [filt_true]
    · intro q hq
      obtain ⟨z, hz, rfl⟩ := List.mem_map.mp hq
      have i := in_strs z (A ++ F ++ S) []
      rw [decide_eq_false (d2 z hz), List.map_append, List.map_append] at i
      exact ⟨by simp, by simp, fun _ => by simp [hf, hs, show A.length + F.length ≤ 1000000 by omega, show A.length + F.length + S.length ≤ 1000000 by omega]; simpa using i⟩
  have an2 := any_map (fun _ => false) (A.map D.str) []
  have an3 := any_map (fun _ => false) (O.map D.str) []
  simp only [g_are_asides, startD]
  simp [ris, hp, wipeD, lc1, sl, bLen, lenD, seqD, dNeX, D.kd, dNe, scal]
  rw [lc2]
  simp only [R.bind_ok, an2]
  simp [wipeD]
  rw [lc3]
  simp only [R.bind_ok, an3]
  simp
theorem lines_true (o : s.Ok) (μ : Mu) : F_are_asides [.tup (s.lines.map pp), .tup (s.files.map pw), .tup (s.tuned.map pw)] μ = .ok (.bl true) μ := by
  obtain ⟨hs, hl, hd⟩ := o.lines
  have sub1 : (s.lines.map (·.1)).Sublist (aMenu.map (·.1)) := hs.map _
  have sub2 : (s.lines.map (·.2)).Sublist (aMenu.map (·.2)) := hs.map _
  have a := all_aside (ds := s.lines.map pp) (m := 3) (by simp; omega) (pp_closed _) (fun d hd => by
    obtain ⟨q, hq, rfl⟩ := List.mem_map.mp hd
    exact okT_fr (F := callF 1 g_is_aside) (okT_at aside_all (hs.subset hq))) []
  have b := rise_lst (pw_of o.who (.inr (.inr (.inl sub1)))) []
  have ris : F_are_rising [.tup (s.lines.map pp), .int 3, dfn cv_is_aside] [] = .ok (.bl true) [] := by
    refine fr_ok (μ1 := []) (by simp [D.closedL, D.closed, pp_closed, dfn]) ?_ (by simp [D.closed])
    have hp := pp_heads s.lines []
    generalize s.lines.map (·.1) = A at hp b
    simp [g_are_rising, startD, a, hp, b]
  have l1 : s.files.length ≤ 5 := by have := o.files.1.length_le; simpa [fMenu] using this
  have l2 : s.tuned.length ≤ 3 := by have := o.tuned.1.length_le; simpa [sMenu] using this
  refine asides_core rfl rfl (by simp [D.closed, pw_closed]) (by simp [D.closed, pw_closed]) ris (pw_heads _ _) (pw_heads _ _) (far_nodup.sublist sub2) (by simp; omega) (fun x hx => ?_) (fun x hx => ?_) μ
  · obtain ⟨y, hy, rfl⟩ := List.mem_map.mp hx
    exact hd y hy
  · obtain ⟨y, hy, rfl⟩ := List.mem_map.mp hx
    have far := okT_at (okT_at far_apart o.who) (hs.subset hy)
    simp only [decide_eq_true_eq, List.mem_append, not_or] at far
    obtain ⟨⟨f1, f2⟩, f3⟩ := far
    simp only [List.mem_append, not_or]
    exact ⟨⟨fun z => f1 (sub1.subset z), fun z => f2 (o.files.1.subset z)⟩, fun z => f3 (o.tuned.1.subset z)⟩
theorem choices_core {L : List (Str × Str × Int)} {A F S : List Str} {fd sd : D} (hA : L.map (·.1) = A) (cf : fd.closed 0 = true) (cs : sd.closed 0 = true) (ris : F_are_rising [.tup (L.map pc), .int 3, dfn cv_is_choice] [] = .ok (.bl true) [])
    (hf : F_heads_of [fd] [] = .ok (.lst (F.map .str)) []) (hs : F_heads_of [sd] [] = .ok (.lst (S.map .str)) []) (ln : A.length + F.length + S.length ≤ 1000) (d1 : ∀ a ∈ A, a ∉ F ++ S) (d2 : ∀ q ∈ L, q.2.1 ∈ F) (μ : Mu) : F_are_choices [.tup (L.map pc), fd, sd] μ = .ok (.bl true) μ := by
  refine fr_ok (μ1 := []) (by simp [D.closedL, D.closed, pc_closed, cf, cs]) ?_ (by simp [D.closed])
  have hp := pc_heads L []
  rw [hA] at hp
  have lc2 : ∀ ρ3 ρ5 ρ6 : Option D, lcD (.nm 3) tyes (dbin dIn (dvar 3) (dbin addX (dcall F_heads_of [] (aCons (dvar 1) aNil)) (dcall F_heads_of [] (aCons (dvar 2) aNil)))) [some (.tup (L.map pc)), some fd, some sd, ρ3, ρ5, ρ6] (A.map .str) [] = .ok ((A.map D.str).map fun _ => .bl false) [] := by
    intro ρ3 ρ5 ρ6
    rw [lc_pure (fun d => [some (.tup (L.map pc)), some fd, some sd, some d, ρ5, ρ6]) (fun _ => true) (fun _ => .bl false) (xs := A.map .str)]
    · rw [filt_true]
    · intro q hq
      obtain ⟨z, hz, rfl⟩ := List.mem_map.mp hq
      have i := in_strs z (F ++ S) []
      rw [decide_eq_false (d1 z hz), List.map_append] at i
      exact ⟨by simp, by simp, fun _ => by simp [hf, hs, show F.length + S.length ≤ 1000000 by omega]; simpa using i⟩
  have lc3 : ∀ ρ3 ρ5 ρ6 : Option D, lcD (.tp [.nm 3, .nm 4, .nm 5]) tyes (dbin dIn (dvar 4) (dcall F_heads_of [] (aCons (dvar 1) aNil))) [some (.tup (L.map pc)), some fd, some sd, ρ3, ρ5, ρ6] (L.map pc) [] = .ok ((L.map pc).map fun _ => .bl true) [] := by
    intro ρ3 ρ5 ρ6
    rw [lc_pure (fun d => match d with | .tup [x, y, z] => [some (.tup (L.map pc)), some fd, some sd, some x, some y, some z] | _ => []) (fun _ => true) (fun _ => .bl true) (xs := L.map pc)]
    · rw [filt_true]
    · intro q hq
      obtain ⟨z, hz, rfl⟩ := List.mem_map.mp hq
      exact ⟨by simp [pc], by simp, fun _ => by simp [pc, hf, in_strs, d2 z hz]⟩
  have an2 := any_map (fun _ => false) (A.map D.str) []
  have an3 := all_map (fun _ => true) (L.map pc) []
  simp only [g_are_choices, startD]
  simp [ris, hp, wipeD]
  rw [lc2]
  simp only [R.bind_ok, an2]
  simp [wipeD]
  rw [lc3]
  simp only [R.bind_ok, an3]
  simp
theorem picks_true (o : s.Ok) (μ : Mu) : F_are_choices [.tup (s.picks.map pc), .tup (s.files.map pw), .tup (s.tuned.map pw)] μ = .ok (.bl true) μ := by
  obtain ⟨hs, hd⟩ := o.picks
  have l1 : s.files.length ≤ 5 := by have := o.files.1.length_le; simpa [fMenu] using this
  have l2 : s.tuned.length ≤ 3 := by have := o.tuned.1.length_le; simpa [sMenu] using this
  have l3 : s.picks.length ≤ 2 := by have := hs.length_le; simpa [cMenu] using this
  have a := all_choice (ds := s.picks.map pc) (m := 3) (by simp; omega) (pc_closed _) (fun d hd' => by
    obtain ⟨q, hq, rfl⟩ := List.mem_map.mp hd'
    obtain ⟨h1, h2, h3⟩ := hd q hq
    obtain ⟨m, hm⟩ := Int.eq_ofNat_of_zero_le h2
    have hc : q.1 ∈ cMenu := hs.subset (List.mem_map.mpr ⟨q, hq, rfl⟩)
    have := okT_at (okT_at (okT_at (okT_at choice_all o.who) hc) (o.files.1.subset h1)) (List.mem_range.mpr (show m < 3 by omega))
    unfold pc
    rw [hm]
    exact okT_fr (F := callF 1 g_is_choice) this) []
  have b := rise_lst (pw_of o.who (.inr (.inr (.inr (.inl hs))))) []
  have ris : F_are_rising [.tup (s.picks.map pc), .int 3, dfn cv_is_choice] [] = .ok (.bl true) [] := by
    refine fr_ok (μ1 := []) (by simp [D.closedL, D.closed, pc_closed, dfn]) ?_ (by simp [D.closed])
    have hp := pc_heads s.picks []
    generalize s.picks.map (·.1) = A at hp b
    simp [g_are_rising, startD, a, hp, b]
  refine choices_core rfl (by simp [D.closed, pw_closed]) (by simp [D.closed, pw_closed]) ris (pw_heads _ _) (pw_heads _ _) (by simp; omega) (fun x hx => ?_) (fun q hq => (hd q hq).1) μ
  have ap := okT_at (okT_at pick_apart o.who) (hs.subset hx)
  simp only [decide_eq_true_eq, List.mem_append, not_or] at ap
  simp only [List.mem_append, not_or]
  exact ⟨fun z => ap.1 (o.files.1.subset z), fun z => ap.2 (o.tuned.1.subset z)⟩
theorem told_true (o : s.Ok) (μ : Mu) : F_are_calls [.tup (s.told.map .str)] μ = .ok (.bl true) μ := by
  have l3 : s.told.length ≤ 2 := by have := o.told.length_le; simpa [kMenu] using this
  have a := all_name (ds := s.told.map .str) (m := 4) (by simp; omega) (strs_closed _ _) (fun d hd' => by
    obtain ⟨q, hq, rfl⟩ := List.mem_map.mp hd'
    exact okT_fr (F := callF 2 g_is_name) (okT_at call_all (o.told.subset hq))) []
  have b := rise_tup (pw_of o.who (.inr (.inr (.inr (.inr o.told))))) []
  refine fr_ok (μ1 := []) (by simp [D.closedL, D.closed, strs_closed]) ?_ (by simp [D.closed])
  simp [g_are_calls, startD, a, b]
theorem acts_closed : D.closedL 0 acts = true := by decide +kernel
theorem done_true (o : s.Ok) (μ : Mu) : F_are_all_v2 [.tup s.done, .int 4, dfn cv_is_deed] μ = .ok (.bl true) μ := by
  have l3 : s.done.length ≤ 4 := by have := o.done.length_le; simpa [acts] using this
  refine all_deed (by omega) (closed_of fun x hx => closed_at acts_closed x (o.done.subset hx)) (fun d hq => okT_fr (F := callF 1 g_is_deed) (okT_at deed_all (o.done.subset hq))) μ
end
end DL02
namespace DL02
open PySem PySem.Spec PyProof.Rows L2 DL
def objP (n e : D) (ps : List D) : D := .obj cC_Parcel [("own_name", n), ("own_edition", e), ("own_parts", .tup ps)]
theorem init_ok {n : Str} {e : Int} {p0 p1 p2 p3 p4 p5 p6 p7 p8 : D} {hs H3 H4 : List Str} (f1 : ∀ μ, F_is_name [.str n] μ = .ok (.bl true) μ) (f2 : ∀ μ, F_is_edition [.int e] μ = .ok (.bl true) μ) (f3 : ∀ μ, F_are_needs [.str n, p0] μ = .ok (.bl true) μ) (f4 : ∀ μ, F_are_needs [.str n, p1] μ = .ok (.bl true) μ)
    (f5 : ∀ μ, F_are_all_v2 [p2, .int 4, dfn cv_is_clash] μ = .ok (.bl true) μ) (f6 : ∀ μ, F_heads_of [p2] μ = .ok (.lst (hs.map .str)) μ) (f7 : n ∉ hs) (f8 : ∀ μ, F_are_rising [p3, .int 8, dfn cv_is_file] μ = .ok (.bl true) μ) (f9 : ∀ μ, F_are_rising [p4, .int 8, dfn cv_is_file] μ = .ok (.bl true) μ)
    (g3 : ∀ μ, F_heads_of [p3] μ = .ok (.lst (H3.map .str)) μ) (g4 : ∀ μ, F_heads_of [p4] μ = .ok (.lst (H4.map .str)) μ) (gd : ∀ x ∈ H4, x ∉ H3) (f10 : ∀ μ, F_are_asides [p5, p3, p4] μ = .ok (.bl true) μ) (f11 : ∀ μ, F_are_choices [p6, p3, p4] μ = .ok (.bl true) μ) (f12 : ∀ μ, F_are_calls [p7] μ = .ok (.bl true) μ) (f13 : ∀ μ, F_are_all_v2 [p8, .int 4, dfn cv_is_deed] μ = .ok (.bl true) μ)
    (hc : D.closedL 1 [p0, p1, p2, p3, p4, p5, p6, p7, p8] = true) :
    F_Parcel_init [.hdl 0, .str n, .int e, p0, p1, p2, p3, p4, p5, p6, p7, p8] [.ins cC_Parcel [] []] = .ok .non [.ins cC_Parcel ["own_name", "own_edition", "own_parts"] [.str n, .int e, .tup [p0, p1, p2, p3, p4, p5, p6, p7, p8]]] := by
  have lc : ∀ μ, lcD (.nm 12) tyes (dbin dIn (dvar 12) (dcall F_heads_of [] (aCons (dvar 6) aNil))) [some (.hdl 0), some (.str n), some (.int e), some p0, some p1, some p2, some p3, some p4, some p5, some p6, some p7, some p8, none] (H4.map .str) μ = .ok ((H4.map D.str).map fun _ => .bl false) μ := by
    intro μ
    rw [lc_pure (fun d => [some (.hdl 0), some (.str n), some (.int e), some p0, some p1, some p2, some p3, some p4, some p5, some p6, some p7, some p8, some d]) (fun _ => true) (fun _ => .bl false) (xs := H4.map .str)]
    · rw [filt_true]
    · intro q hq
      obtain ⟨z, hz, rfl⟩ := List.mem_map.mp hq
      exact ⟨by simp, by simp, fun _ => by simp [g3, in_strs, gd z hz]⟩
  have an := fun μ => any_map (fun _ => false) (H4.map D.str) μ
  unfold F_Parcel_init
  rw [framed_open (open_hdl _ _)]
  have body : ∃ ρ, g_Parcel_init (startD 13 [.hdl 0, .str n, .int e, p0, p1, p2, p3, p4, p5, p6, p7, p8]) [.ins cC_Parcel [] []] = .nx ρ [.ins cC_Parcel ["own_name", "own_edition", "own_parts"] [.str n, .int e, .tup [p0, p1, p2, p3, p4, p5, p6, p7, p8]]] := by
    refine ⟨[some (.hdl 0), some (.str n), some (.int e), some p0, some p1, some p2, some p3, some p4, some p5, some p6, some p7, some p8, none], ?_⟩
    simp only [g_Parcel_init, startD]
    simp [f1, f2, f3, f4, f5, f6, in_strs, f7, f8, f9, g4, wipeD]
    simp only [lc, R.bind_ok, an]
    simp [f10, f11, f12, f13, gsetat, putP]
    rfl
  obtain ⟨ρ, body⟩ := body
  unfold callF
  rw [body]
  dsimp only
  unfold trunc
  rw [if_pos]
  · rfl
  · simp [D.closed, closedMu, MO.closed, D.closedL] at hc ⊢
    exact hc
end DL02
namespace DL02
open PySem PySem.Spec PyProof.Rows L2 DL
theorem at_i {xs : List D} {x : D} (k : Nat) (h : xs[k]? = some x) : atI xs (k : Int) = some x := by
  have hk := List.getElem?_eq_some_iff.mp h
  simp [atI, ixN, hk.1]
  exact hk.2
theorem made_ok {n : Str} {e : Int} {p0 p1 p2 p3 p4 p5 p6 p7 p8 : D} (fi : F_Parcel_init [.hdl 0, .str n, .int e, p0, p1, p2, p3, p4, p5, p6, p7, p8] [.ins cC_Parcel [] []] = .ok .non [.ins cC_Parcel ["own_name", "own_edition", "own_parts"] [.str n, .int e, .tup [p0, p1, p2, p3, p4, p5, p6, p7, p8]]])
    (hc : D.closedL 0 [p0, p1, p2, p3, p4, p5, p6, p7, p8] = true) (μ : Mu) : F_law_made [.tup [.str n, .int e, p0, p1, p2, p3, p4, p5, p6, p7, p8]] μ = .ok (objP (.str n) (.int e) [p0, p1, p2, p3, p4, p5, p6, p7, p8]) μ := by
  have hc' := hc
  simp only [D.closedL, Bool.and_eq_true] at hc'
  refine fr_ok (μ1 := []) (by simp [D.closedL, D.closed]; simpa [D.closedL] using hc) ?_ (by simp [objP, D.closed, D.closedF]; simpa [D.closedL] using hc)
  have a2 : atI [.str n, .int e, p0, p1, p2, p3, p4, p5, p6, p7, p8] (2 : Int) = some p0 := at_i 2 rfl
  have a3 : atI [.str n, .int e, p0, p1, p2, p3, p4, p5, p6, p7, p8] (3 : Int) = some p1 := at_i 3 rfl
  have a4 : atI [.str n, .int e, p0, p1, p2, p3, p4, p5, p6, p7, p8] (4 : Int) = some p2 := at_i 4 rfl
  have a5 : atI [.str n, .int e, p0, p1, p2, p3, p4, p5, p6, p7, p8] (5 : Int) = some p3 := at_i 5 rfl
  have a6 : atI [.str n, .int e, p0, p1, p2, p3, p4, p5, p6, p7, p8] (6 : Int) = some p4 := at_i 6 rfl
  have a7 : atI [.str n, .int e, p0, p1, p2, p3, p4, p5, p6, p7, p8] (7 : Int) = some p5 := at_i 7 rfl
  have a8 : atI [.str n, .int e, p0, p1, p2, p3, p4, p5, p6, p7, p8] (8 : Int) = some p6 := at_i 8 rfl
  have a9 : atI [.str n, .int e, p0, p1, p2, p3, p4, p5, p6, p7, p8] (9 : Int) = some p7 := at_i 9 rfl
  have a10 : atI [.str n, .int e, p0, p1, p2, p3, p4, p5, p6, p7, p8] (10 : Int) = some p8 := at_i 10 rfl
  have mk : makeO cC_Parcel F_Parcel_init (fun x => K_b_Parcel_init_3_needs_ahead_clashes_files_settings_asides_choices_calls_deeds (x :: [.str n, .int e]) [p0, p1, p2, p3, p4, p5, p6, p7, p8]) [] = .ok (objP (.str n) (.int e) [p0, p1, p2, p3, p4, p5, p6, p7, p8]) [] := by
    have k : K_b_Parcel_init_3_needs_ahead_clashes_files_settings_asides_choices_calls_deeds (.hdl 0 :: [.str n, .int e]) [p0, p1, p2, p3, p4, p5, p6, p7, p8] = [.hdl 0, .str n, .int e, p0, p1, p2, p3, p4, p5, p6, p7, p8] := rfl
    unfold makeO
    simp only [List.length_nil, List.nil_append]
    rw [k, fi]
    simp [objP]
    exact trunc0 (by simp [D.closed, D.closedF]; simpa [D.closedL] using hc)
  simp only [g_law_made, startD]
  simp [a2, a3, a4, a5, a6, a7, a8, a9, a10]
  rw [mk]
  simp
theorem at_name (n e : D) (ps : List D) (μ : Mu) : atD [cC_Parcel] "own_name" μ (objP n e ps) = some n := by kernel_rfl
theorem at_edition (n e : D) (ps : List D) (μ : Mu) : atD [cC_Parcel] "own_edition" μ (objP n e ps) = some e := by kernel_rfl
theorem at_parts (n e : D) (ps : List D) (μ : Mu) : atD [cC_Parcel] "own_parts" μ (objP n e ps) = some (.tup ps) := by kernel_rfl
theorem ins_obj (n e : D) (ps : List D) (μ : Mu) : insD μ (objP n e ps) = some (cC_Parcel, [(("own_name" : Str), n), (("own_edition" : Str), e), (("own_parts" : Str), .tup ps)]) := rfl
theorem obj_closed {n e : D} {ps : List D} (h : D.closedL 0 (n :: e :: ps) = true) : D.closedL 0 [objP n e ps] = true := by
  simp only [D.closedL, objP, D.closed, D.closedF] at h ⊢
  simpa using h
theorem lk_called (n e p : D) : (([("own_name", n), ("own_edition", e), ("own_parts", p)] : List (Str × D)).lookup ("called" : Str)).isNone = true := by kernel_rfl
theorem lk_edition (n e p : D) : (([("own_name", n), ("own_edition", e), ("own_parts", p)] : List (Str × D)).lookup ("edition" : Str)).isNone = true := by kernel_rfl
theorem lk_needs (n e p : D) : (([("own_name", n), ("own_edition", e), ("own_parts", p)] : List (Str × D)).lookup ("needs" : Str)).isNone = true := by kernel_rfl
theorem lk_ahead (n e p : D) : (([("own_name", n), ("own_edition", e), ("own_parts", p)] : List (Str × D)).lookup ("ahead" : Str)).isNone = true := by kernel_rfl
theorem lk_clashes (n e p : D) : (([("own_name", n), ("own_edition", e), ("own_parts", p)] : List (Str × D)).lookup ("clashes" : Str)).isNone = true := by kernel_rfl
theorem lk_files (n e p : D) : (([("own_name", n), ("own_edition", e), ("own_parts", p)] : List (Str × D)).lookup ("files" : Str)).isNone = true := by kernel_rfl
theorem lk_settings (n e p : D) : (([("own_name", n), ("own_edition", e), ("own_parts", p)] : List (Str × D)).lookup ("settings" : Str)).isNone = true := by kernel_rfl
theorem lk_asides (n e p : D) : (([("own_name", n), ("own_edition", e), ("own_parts", p)] : List (Str × D)).lookup ("asides" : Str)).isNone = true := by kernel_rfl
theorem lk_choices (n e p : D) : (([("own_name", n), ("own_edition", e), ("own_parts", p)] : List (Str × D)).lookup ("choices" : Str)).isNone = true := by kernel_rfl
theorem lk_calls (n e p : D) : (([("own_name", n), ("own_edition", e), ("own_parts", p)] : List (Str × D)).lookup ("calls" : Str)).isNone = true := by kernel_rfl
theorem lk_deeds (n e p : D) : (([("own_name", n), ("own_edition", e), ("own_parts", p)] : List (Str × D)).lookup ("deeds" : Str)).isNone = true := by kernel_rfl
section
variable {n e p0 p1 p2 p3 p4 p5 p6 p7 p8 : D} (h : D.closedL 0 [n, e, p0, p1, p2, p3, p4, p5, p6, p7, p8] = true)
include h
theorem called_ok (μ : Mu) : F_Parcel_called [objP n e [p0, p1, p2, p3, p4, p5, p6, p7, p8]] μ = .ok n μ := fr_ok (μ1 := []) (obj_closed h) (by simp [g_Parcel_called, startD, at_name]) (closed_at h n (by simp))
theorem edition_ok (μ : Mu) : F_Parcel_edition [objP n e [p0, p1, p2, p3, p4, p5, p6, p7, p8]] μ = .ok e μ := fr_ok (μ1 := []) (obj_closed h) (by simp [g_Parcel_edition, startD, at_edition]) (closed_at h e (by simp))
theorem needs_ok (μ : Mu) : F_Parcel_needs [objP n e [p0, p1, p2, p3, p4, p5, p6, p7, p8]] μ = .ok p0 μ := by
  have a : atI [p0, p1, p2, p3, p4, p5, p6, p7, p8] (0 : Int) = some p0 := at_i 0 rfl
  exact fr_ok (μ1 := []) (obj_closed h) (by simp [g_Parcel_needs, startD, at_parts, a]) (closed_at h p0 (by simp))
theorem ahead_ok (μ : Mu) : F_Parcel_ahead [objP n e [p0, p1, p2, p3, p4, p5, p6, p7, p8]] μ = .ok p1 μ := by
  have a : atI [p0, p1, p2, p3, p4, p5, p6, p7, p8] (1 : Int) = some p1 := at_i 1 rfl
  exact fr_ok (μ1 := []) (obj_closed h) (by simp [g_Parcel_ahead, startD, at_parts, a]) (closed_at h p1 (by simp))
theorem clashes_ok (μ : Mu) : F_Parcel_clashes [objP n e [p0, p1, p2, p3, p4, p5, p6, p7, p8]] μ = .ok p2 μ := by
  have a : atI [p0, p1, p2, p3, p4, p5, p6, p7, p8] (2 : Int) = some p2 := at_i 2 rfl
  exact fr_ok (μ1 := []) (obj_closed h) (by simp [g_Parcel_clashes, startD, at_parts, a]) (closed_at h p2 (by simp))
theorem files_ok (μ : Mu) : F_Parcel_files [objP n e [p0, p1, p2, p3, p4, p5, p6, p7, p8]] μ = .ok p3 μ := by
  have a : atI [p0, p1, p2, p3, p4, p5, p6, p7, p8] (3 : Int) = some p3 := at_i 3 rfl
  exact fr_ok (μ1 := []) (obj_closed h) (by simp [g_Parcel_files, startD, at_parts, a]) (closed_at h p3 (by simp))
theorem settings_ok (μ : Mu) : F_Parcel_settings [objP n e [p0, p1, p2, p3, p4, p5, p6, p7, p8]] μ = .ok p4 μ := by
  have a : atI [p0, p1, p2, p3, p4, p5, p6, p7, p8] (4 : Int) = some p4 := at_i 4 rfl
  exact fr_ok (μ1 := []) (obj_closed h) (by simp [g_Parcel_settings, startD, at_parts, a]) (closed_at h p4 (by simp))
theorem asides_ok (μ : Mu) : F_Parcel_asides [objP n e [p0, p1, p2, p3, p4, p5, p6, p7, p8]] μ = .ok p5 μ := by
  have a : atI [p0, p1, p2, p3, p4, p5, p6, p7, p8] (5 : Int) = some p5 := at_i 5 rfl
  exact fr_ok (μ1 := []) (obj_closed h) (by simp [g_Parcel_asides, startD, at_parts, a]) (closed_at h p5 (by simp))
theorem choices_ok (μ : Mu) : F_Parcel_choices [objP n e [p0, p1, p2, p3, p4, p5, p6, p7, p8]] μ = .ok p6 μ := by
  have a : atI [p0, p1, p2, p3, p4, p5, p6, p7, p8] (6 : Int) = some p6 := at_i 6 rfl
  exact fr_ok (μ1 := []) (obj_closed h) (by simp [g_Parcel_choices, startD, at_parts, a]) (closed_at h p6 (by simp))
theorem calls_ok (μ : Mu) : F_Parcel_calls [objP n e [p0, p1, p2, p3, p4, p5, p6, p7, p8]] μ = .ok p7 μ := by
  have a : atI [p0, p1, p2, p3, p4, p5, p6, p7, p8] (7 : Int) = some p7 := at_i 7 rfl
  exact fr_ok (μ1 := []) (obj_closed h) (by simp [g_Parcel_calls, startD, at_parts, a]) (closed_at h p7 (by simp))
theorem deeds_ok (μ : Mu) : F_Parcel_deeds [objP n e [p0, p1, p2, p3, p4, p5, p6, p7, p8]] μ = .ok p8 μ := by
  have a : atI [p0, p1, p2, p3, p4, p5, p6, p7, p8] (8 : Int) = some p8 := at_i 8 rfl
  exact fr_ok (μ1 := []) (obj_closed h) (by simp [g_Parcel_deeds, startD, at_parts, a]) (closed_at h p8 (by simp))
theorem called_m {ρ : En} {i : Nat} (hρ : ρ[i]? = some (some (objP n e [p0, p1, p2, p3, p4, p5, p6, p7, p8]))) (μ : Mu) : dmeth cC_Parcel "called" F_Parcel_called [] (dvar i) aNil ρ μ = .ok n μ := by
  simp only [ap_meth, ap_var, hρ, R.bind_ok, ins_obj]
  rw [if_pos ⟨trivial, lk_called _ _ _⟩]
  simp [called_ok h]
theorem edition_m {ρ : En} {i : Nat} (hρ : ρ[i]? = some (some (objP n e [p0, p1, p2, p3, p4, p5, p6, p7, p8]))) (μ : Mu) : dmeth cC_Parcel "edition" F_Parcel_edition [] (dvar i) aNil ρ μ = .ok e μ := by
  simp only [ap_meth, ap_var, hρ, R.bind_ok, ins_obj]
  rw [if_pos ⟨trivial, lk_edition _ _ _⟩]
  simp [edition_ok h]
theorem needs_m {ρ : En} {i : Nat} (hρ : ρ[i]? = some (some (objP n e [p0, p1, p2, p3, p4, p5, p6, p7, p8]))) (μ : Mu) : dmeth cC_Parcel "needs" F_Parcel_needs [] (dvar i) aNil ρ μ = .ok p0 μ := by
  simp only [ap_meth, ap_var, hρ, R.bind_ok, ins_obj]
  rw [if_pos ⟨trivial, lk_needs _ _ _⟩]
  simp [needs_ok h]
theorem ahead_m {ρ : En} {i : Nat} (hρ : ρ[i]? = some (some (objP n e [p0, p1, p2, p3, p4, p5, p6, p7, p8]))) (μ : Mu) : dmeth cC_Parcel "ahead" F_Parcel_ahead [] (dvar i) aNil ρ μ = .ok p1 μ := by
  simp only [ap_meth, ap_var, hρ, R.bind_ok, ins_obj]
  rw [if_pos ⟨trivial, lk_ahead _ _ _⟩]
  simp [ahead_ok h]
theorem clashes_m {ρ : En} {i : Nat} (hρ : ρ[i]? = some (some (objP n e [p0, p1, p2, p3, p4, p5, p6, p7, p8]))) (μ : Mu) : dmeth cC_Parcel "clashes" F_Parcel_clashes [] (dvar i) aNil ρ μ = .ok p2 μ := by
  simp only [ap_meth, ap_var, hρ, R.bind_ok, ins_obj]
  rw [if_pos ⟨trivial, lk_clashes _ _ _⟩]
  simp [clashes_ok h]
theorem files_m {ρ : En} {i : Nat} (hρ : ρ[i]? = some (some (objP n e [p0, p1, p2, p3, p4, p5, p6, p7, p8]))) (μ : Mu) : dmeth cC_Parcel "files" F_Parcel_files [] (dvar i) aNil ρ μ = .ok p3 μ := by
  simp only [ap_meth, ap_var, hρ, R.bind_ok, ins_obj]
  rw [if_pos ⟨trivial, lk_files _ _ _⟩]
  simp [files_ok h]
theorem settings_m {ρ : En} {i : Nat} (hρ : ρ[i]? = some (some (objP n e [p0, p1, p2, p3, p4, p5, p6, p7, p8]))) (μ : Mu) : dmeth cC_Parcel "settings" F_Parcel_settings [] (dvar i) aNil ρ μ = .ok p4 μ := by
  simp only [ap_meth, ap_var, hρ, R.bind_ok, ins_obj]
  rw [if_pos ⟨trivial, lk_settings _ _ _⟩]
  simp [settings_ok h]
theorem asides_m {ρ : En} {i : Nat} (hρ : ρ[i]? = some (some (objP n e [p0, p1, p2, p3, p4, p5, p6, p7, p8]))) (μ : Mu) : dmeth cC_Parcel "asides" F_Parcel_asides [] (dvar i) aNil ρ μ = .ok p5 μ := by
  simp only [ap_meth, ap_var, hρ, R.bind_ok, ins_obj]
  rw [if_pos ⟨trivial, lk_asides _ _ _⟩]
  simp [asides_ok h]
theorem choices_m {ρ : En} {i : Nat} (hρ : ρ[i]? = some (some (objP n e [p0, p1, p2, p3, p4, p5, p6, p7, p8]))) (μ : Mu) : dmeth cC_Parcel "choices" F_Parcel_choices [] (dvar i) aNil ρ μ = .ok p6 μ := by
  simp only [ap_meth, ap_var, hρ, R.bind_ok, ins_obj]
  rw [if_pos ⟨trivial, lk_choices _ _ _⟩]
  simp [choices_ok h]
theorem calls_m {ρ : En} {i : Nat} (hρ : ρ[i]? = some (some (objP n e [p0, p1, p2, p3, p4, p5, p6, p7, p8]))) (μ : Mu) : dmeth cC_Parcel "calls" F_Parcel_calls [] (dvar i) aNil ρ μ = .ok p7 μ := by
  simp only [ap_meth, ap_var, hρ, R.bind_ok, ins_obj]
  rw [if_pos ⟨trivial, lk_calls _ _ _⟩]
  simp [calls_ok h]
theorem deeds_m {ρ : En} {i : Nat} (hρ : ρ[i]? = some (some (objP n e [p0, p1, p2, p3, p4, p5, p6, p7, p8]))) (μ : Mu) : dmeth cC_Parcel "deeds" F_Parcel_deeds [] (dvar i) aNil ρ μ = .ok p8 μ := by
  simp only [ap_meth, ap_var, hρ, R.bind_ok, ins_obj]
  rw [if_pos ⟨trivial, lk_deeds _ _ _⟩]
  simp [deeds_ok h]
theorem parts_ok (μ : Mu) : F_law_parts [objP n e [p0, p1, p2, p3, p4, p5, p6, p7, p8]] μ = .ok (.tup [n, e, p0, p1, p2, p3, p4, p5, p6, p7, p8]) μ := by
  refine fr_ok (μ1 := []) (obj_closed h) ?_ (by simpa [D.closed] using h)
  simp only [g_law_parts, startD, List.map_cons, List.map_nil, List.length_cons, List.length_nil, List.cons_append, List.nil_append, ap_seq, ap_set, ap_lst, ap_aCons, ap_aNil, R.bind_ok, List.getElem?_cons_zero, called_m h, edition_m h, needs_m h, ahead_m h, clashes_m h, files_m h, settings_m h, asides_m h, choices_m h, calls_m h, deeds_m h]
  simp only [R.to_ok, O.thn_nx, List.length_cons, List.length_nil, ap_ret, ap_callB, ap_aCons, ap_aNil, ap_bin, ap_lst, R.bind_ok, List.set_cons_succ, List.getElem?_cons_zero, called_m h, edition_m h, needs_m h, ahead_m h, clashes_m h, files_m h, settings_m h, asides_m h, choices_m h, calls_m h, deeds_m h]
  simp [-ap_meth]
  simp only [R.bind_ok, List.getElem?_cons_zero, called_m h, edition_m h, needs_m h, ahead_m h, clashes_m h, files_m h, settings_m h, asides_m h, choices_m h, calls_m h, deeds_m h]
  simp
end
end DL02
namespace DL02
open PySem PySem.Spec PyProof.Rows L2 DL
theorem isi_obj (n e : D) (ps : List D) (μ : Mu) : bIsiO (.glo cC_Parcel) isAll (ktL yes_Parcel no_Parcel) [objP n e ps, .glo cC_Parcel] μ = .ok (.bl true) μ := by kernel_rfl
theorem isi_non (μ : Mu) : bIsiO (.glo cC_Parcel) isAll (ktL yes_Parcel no_Parcel) [.non, .glo cC_Parcel] μ = .ok (.bl false) μ := by kernel_rfl
theorem isi_int (i : Int) (μ : Mu) : bIsiO (.glo cC_Parcel) isAll (ktL yes_Parcel no_Parcel) [.int i, .glo cC_Parcel] μ = .ok (.bl false) μ := by kernel_rfl
theorem isi_str (i : Str) (μ : Mu) : bIsiO (.glo cC_Parcel) isAll (ktL yes_Parcel no_Parcel) [.str i, .glo cC_Parcel] μ = .ok (.bl false) μ := by kernel_rfl
theorem isi_tup (i : List D) (μ : Mu) : bIsiO (.glo cC_Parcel) isAll (ktL yes_Parcel no_Parcel) [.tup i, .glo cC_Parcel] μ = .ok (.bl false) μ := by kernel_rfl
theorem eq_other {n e t : D} {ps : List D} (hc : D.closedL 0 (n :: e :: ps) = true) (ht : t.closed 0 = true) (hi : bIsiO (.glo cC_Parcel) isAll (ktL yes_Parcel no_Parcel) [t, .glo cC_Parcel] [] = .ok (.bl false) []) (μ : Mu) : F_Parcel_eq [objP n e ps, t] μ = .ok (.bl false) μ := by
  refine fr_ok (μ1 := []) ?_ ?_ (by simp [D.closed])
  · have := obj_closed hc
    simp only [D.closedL] at this ⊢
    simp at this
    simp [this, ht]
  · have hi' := hi
    simp [g_Parcel_eq, startD, -isiO_ap, hi]
theorem ne_ints (a b : Int) (μ : Mu) : dNe (.int a) (.int b) μ = .ok (.bl (!decide (a = b))) μ := by simp [dNe, D.kd, scal]
theorem neX_ints (a b : Int) (μ : Mu) : dNeX (.int a) (.int b) μ = .ok (.bl (!decide (a = b))) μ := by simp [dNeX, D.kd, ne_ints]
theorem neX_strs (a b : Str) (μ : Mu) : dNeX (.str a) (.str b) μ = .ok (.bl (!decide (a = b))) μ := by simp [dNeX, D.kd]
theorem neX_bls (a b : Bool) (μ : Mu) : dNeX (.bl a) (.bl b) μ = .ok (.bl (!decide (a = b))) μ := by simp [dNeX, dNe, D.kd, scal]
theorem eq_bls (a b : Bool) (μ : Mu) : dEq (.bl a) (.bl b) μ = .ok (.bl (decide (a = b))) μ := by
  simp [dEq, eqD, D.kd, eqV]
  cases a <;> cases b <;> simp
abbrev Tm (n : Str) (e : Int) (ps : List D) : Prop := tm [11, 8, 3, 3] (.tup (.str n :: .int e :: ps)) = true
theorem Tm.parts {n : Str} {e : Int} {ps : List D} (h : Tm n e ps) : tm [11, 8, 3, 3] (.tup ps) = true := by
  simp only [Tm, tm, Bool.and_eq_true, decide_eq_true_eq, List.length_cons, List.all_cons] at h ⊢
  exact ⟨by omega, h.2.2.2⟩
theorem Tm.closed {n : Str} {e : Int} {ps : List D} (h : Tm n e ps) (k : Nat) : D.closedL k (.str n :: .int e :: ps) = true := by
  have := tm_closed _ _ k h
  simpa only [D.closed] using this
theorem eq_ok {n n' : Str} {e e' : Int} {ps ps' : List D} (h : Tm n e ps) (h' : Tm n' e' ps') (μ : Mu) : ∃ b, F_Parcel_eq [objP (.str n) (.int e) ps, objP (.str n') (.int e') ps'] μ = .ok (.bl b) μ ∧ (b = true ↔ n = n' ∧ e = e' ∧ ps = ps') := by
  obtain ⟨b, eb, ib⟩ := tm_dEq h.parts h'.parts (by decide) []
  have hc : D.closedL 0 [objP (.str n) (.int e) ps, objP (.str n') (.int e') ps'] = true := by
    have a1 := obj_closed (h.closed 0)
    have a2 := obj_closed (h'.closed 0)
    simp only [D.closedL] at a1 a2 ⊢
    simp at a1 a2
    simp [a1, a2]
  by_cases hn : n = n'
  · by_cases he : e = e'
    · refine ⟨b, fr_ok (μ1 := []) hc ?_ (by simp [D.closed]), ?_⟩
      · simp [g_Parcel_eq, startD, -isiO_ap, isi_obj, at_name, at_edition, at_parts, neX_strs, neX_ints, hn, he, eb]
      · rw [ib]; simp [hn, he]
    · refine ⟨false, fr_ok (μ1 := []) hc ?_ (by simp [D.closed]), by simp [he]⟩
      simp [g_Parcel_eq, startD, -isiO_ap, isi_obj, at_name, at_edition, at_parts, neX_strs, neX_ints, hn, he]
  · refine ⟨false, fr_ok (μ1 := []) hc ?_ (by simp [D.closed]), by simp [hn]⟩
    simp [g_Parcel_eq, startD, -isiO_ap, isi_obj, at_name, at_edition, at_parts, neX_strs, neX_ints, hn]
theorem eqP_obj (n e n' e' : D) (ps ps' : List D) (μ : Mu) : eqP cC_Parcel F_Parcel_eq right_Parcel (objP n e ps) (objP n' e' ps') μ = F_Parcel_eq [objP n e ps, objP n' e' ps'] μ := by
  have : Ty.own cC_Parcel ∈ right_Parcel := by decide +kernel
  simp [eqP, ins_obj, eqOwn, tyW, insD, objP, this]
theorem neP_obj (n e n' e' : D) (ps ps' : List D) (μ : Mu) : neP cC_Parcel F_Parcel_eq right_Parcel (objP n e ps) (objP n' e' ps') μ = notB (F_Parcel_eq [objP n e ps, objP n' e' ps'] μ) := by
  have : Ty.own cC_Parcel ∈ right_Parcel := by decide +kernel
  simp [neP, ins_obj, neOwn, tyW, insD, objP, this]
theorem eqP_non (n e : D) (ps : List D) (μ : Mu) : eqP cC_Parcel F_Parcel_eq right_Parcel (objP n e ps) .non μ = F_Parcel_eq [objP n e ps, .non] μ := by
  have : Ty.blt "NoneType" ∈ right_Parcel := by decide +kernel
  simp [eqP, ins_obj, eqOwn, tyW, insD, objP, this]
theorem eqP_int (n e : D) (ps : List D) (i : Int) (μ : Mu) : eqP cC_Parcel F_Parcel_eq right_Parcel (objP n e ps) (.int i) μ = F_Parcel_eq [objP n e ps, .int i] μ := by
  have : Ty.blt "int" ∈ right_Parcel := by decide +kernel
  simp [eqP, ins_obj, eqOwn, tyW, insD, objP, this]
theorem eqP_str (n e : D) (ps : List D) (i : Str) (μ : Mu) : eqP cC_Parcel F_Parcel_eq right_Parcel (objP n e ps) (.str i) μ = F_Parcel_eq [objP n e ps, .str i] μ := by
  have : Ty.blt "str" ∈ right_Parcel := by decide +kernel
  simp [eqP, ins_obj, eqOwn, tyW, insD, objP, this]
theorem eqP_tup (n e : D) (ps i : List D) (μ : Mu) : eqP cC_Parcel F_Parcel_eq right_Parcel (objP n e ps) (.tup i) μ = F_Parcel_eq [objP n e ps, .tup i] μ := by
  have : Ty.blt "tuple" ∈ right_Parcel := by decide +kernel
  simp [eqP, ins_obj, eqOwn, tyW, insD, objP, this]
theorem neP_str (x y : Str) (μ : Mu) : neP cC_Parcel F_Parcel_eq right_Parcel (.str x) (.str y) μ = .ok (.bl (!decide (x = y))) μ := by simp [neP, insD, neX_strs]
theorem neP_bl (x y : Bool) (μ : Mu) : neP cC_Parcel F_Parcel_eq right_Parcel (.bl x) (.bl y) μ = .ok (.bl (!decide (x = y))) μ := by simp [neP, insD, neX_bls]
theorem eqP_bl (x y : Bool) (μ : Mu) : eqP cC_Parcel F_Parcel_eq right_Parcel (.bl x) (.bl y) μ = .ok (.bl (decide (x = y))) μ := by simp [eqP, insD, eq_bls]
theorem neP_nil (μ : Mu) : neP cC_Parcel F_Parcel_eq right_Parcel (.lst []) (.lst []) μ = .ok (.bl false) μ := by kernel_rfl
theorem eqP_tups (x y : List D) (μ : Mu) : eqP cC_Parcel F_Parcel_eq right_Parcel (.tup x) (.tup y) μ = dEq (.tup x) (.tup y) μ := by simp [eqP, insD]
theorem rep_plain (x : List D) (μ : Mu) : bOwn cC_Parcel F_Parcel_repr bRepr [.tup x] μ = bRepr [.tup x] μ := rfl
theorem rep_plainS (x : Str) (μ : Mu) : bOwn cC_Parcel F_Parcel_repr bRepr [.str x] μ = bRepr [.str x] μ := rfl
theorem str_plain (x : Int) (μ : Mu) : bOwn cC_Parcel F_Parcel_str bStr [.int x] μ = bStr [.int x] μ := rfl
theorem str_own (n e : D) (ps : List D) (μ : Mu) : bOwn cC_Parcel F_Parcel_str bStr [objP n e ps] μ = strOnly (F_Parcel_str [objP n e ps] μ) := by simp [bOwn, ins_obj]
theorem rep_own (n e : D) (ps : List D) (μ : Mu) : bOwn cC_Parcel F_Parcel_repr bRepr [objP n e ps] μ = strOnly (F_Parcel_repr [objP n e ps] μ) := by simp [bOwn, ins_obj]
theorem Tm.bounds {n : Str} {e : Int} {ps : List D} (h : Tm n e ps) : n.length ≤ 40 ∧ (∀ c ∈ n.cps.toList, c < 16 ^ 8) ∧ e.natAbs < 10 ^ 11 := by
  simp only [Tm, tm, Bool.and_eq_true, decide_eq_true_eq, List.length_cons, List.all_cons, List.all_eq_true] at h
  obtain ⟨_, ⟨h1, h2⟩, h3, _⟩ := h
  exact ⟨h1, fun c hc => Nat.lt_trans (h2 c hc) (by decide), h3⟩
theorem int_text {e : Int} (h : e.natAbs < 10 ^ 11) : ((toString e : String) : Str).length ≤ 13 ∧ e.natAbs.log2 < 1920 := ⟨PyData.shown_int_le2 (i := e) (by omega) (by omega), lt_log (by omega)⟩
theorem str_ok {n : Str} {e : Int} {ps : List D} (h : Tm n e ps) (μ : Mu) : F_Parcel_str [objP (.str n) (.int e) ps] μ = .ok (.str (n ++ " " ++ ((toString e : String) : Str))) μ := by
  obtain ⟨h1, h2, h3⟩ := h.bounds
  obtain ⟨h4, h5⟩ := int_text h3
  have h4r : (Str.ofString e.repr).length ≤ 13 := h4
  refine fr_ok (μ1 := []) (obj_closed (h.closed 0)) ?_ (by simp [D.closed])
  have l1 : (" " : Str).length = 1 := by decide +kernel
  have l0 : (Str.empty : Str).length = 0 := rfl
  simp [g_Parcel_str, startD, at_name, at_edition, joinF, fmtD, shortS, h5, show n.length ≤ 1000000 by omega, show ((toString e : String) : Str).length ≤ 1000000 by omega, strLen_append, l0, l1, Str.empty_append]
  repeat (first | rw [if_pos (by omega)] | simp)
theorem repr_ok {n : Str} {e : Int} {ps : List D} (h : Tm n e ps) (μ : Mu) : F_Parcel_repr [objP (.str n) (.int e) ps] μ = .ok (.str ("Parcel(" ++ reprText n ++ ", " ++ ((toString e : String) : Str) ++ ")")) μ ∧ (reprText n).length ≤ 500 := by
  obtain ⟨h1, h2, h3⟩ := h.bounds
  obtain ⟨h4, h5⟩ := int_text h3
  have h4r : (Str.ofString e.repr).length ≤ 13 := h4
  have h6 := StrLaws.reprText_len n h2
  refine ⟨fr_ok (μ1 := []) (obj_closed (h.closed 0)) ?_ (by simp [D.closed]), by omega⟩
  have l1 : ("Parcel(" : Str).length = 7 := by decide +kernel
  have l2 : (", " : Str).length = 2 := by decide +kernel
  have l3 : (")" : Str).length = 1 := by decide +kernel
  have l0 : (Str.empty : Str).length = 0 := rfl
  simp [g_Parcel_repr, startD, at_name, at_edition, joinF, fmtD, fmtR, shortS, h5, show (reprText n).length ≤ 1000000 by omega, show ((toString e : String) : Str).length ≤ 1000000 by omega, strLen_append, l0, l1, l2, l3, Str.empty_append]
  repeat (first | rw [if_pos (by omega)] | simp)
end DL02
namespace DL02
open PySem PySem.Spec PyProof.Rows L2 DL
theorem str_int {e : Int} (h : e.natAbs < 10 ^ 11) (μ : Mu) : bStr [.int e] μ = .ok (.str ((toString e : String) : Str)) μ := by
  obtain ⟨h4, h5⟩ := int_text h
  unfold bStr
  dsimp only
  rw [if_pos ⟨h5, by omega⟩]
theorem rep_str {n : Str} (h1 : n.length ≤ 40) (h2 : ∀ c ∈ n.cps.toList, c < 16 ^ 8) (μ : Mu) : bRepr [.str n] μ = .ok (.str (reprText n)) μ := by
  have h6 := StrLaws.reprText_len n h2
  have : reprD (.str n) = some (reprText n) := by
    unfold reprD
    simp only [D.py]
    rw [if_pos ⟨by simp [PyData.showable], by simp [PyData.hasDict], by simp [PyData.depth], by simp [PyData.shown]; omega⟩]
    rfl
  simp [bRepr, this]
/-- a spec that makes a parcel, and is tame, is right -/
theorem right_ok {n : Str} {e : Int} {p0 p1 p2 p3 p4 p5 p6 p7 p8 : D} (hm : ∀ μ, F_law_made [.tup [.str n, .int e, p0, p1, p2, p3, p4, p5, p6, p7, p8]] μ = .ok (objP (.str n) (.int e) [p0, p1, p2, p3, p4, p5, p6, p7, p8]) μ)
    (h : Tm n e [p0, p1, p2, p3, p4, p5, p6, p7, p8]) (μ : Mu) : F_law_right [.tup [.str n, .int e, p0, p1, p2, p3, p4, p5, p6, p7, p8]] μ = .ok (.bl true) μ := by
  obtain ⟨h1, h2, h3⟩ := h.bounds
  obtain ⟨h4, h5⟩ := int_text h3
  have hc := h.closed 0
  obtain ⟨x, hx⟩ := tm_repr h (by decide) (by decide) []
  obtain ⟨hr, hrl⟩ := repr_ok h []
  have hs := str_ok h []
  obtain ⟨b, eb, ib⟩ := eq_ok h h []
  rw [ib.mpr ⟨rfl, rfl, rfl⟩] at eb
  have hp := parts_ok hc []
  have hsi := str_int h3 []
  have hrs := rep_str h1 h2 []
  have l1 : ("Parcel(" : Str).length = 7 := by decide +kernel
  have l2 : (", " : Str).length = 2 := by decide +kernel
  have l3 : (")" : Str).length = 1 := by decide +kernel
  have l4 : (" " : Str).length = 1 := by decide +kernel
  have hmn := hm []
  generalize hT : ((toString e : String) : Str) = T at *
  generalize hS : (D.tup [.str n, .int e, p0, p1, p2, p3, p4, p5, p6, p7, p8]) = own at *
  have i0 : dIx own (.int 0) [] = .ok (.str n) [] := by rw [← hS]; simp
  have i1 : dIx own (.int 1) [] = .ok (.int e) [] := by rw [← hS]; simp
  have rp : bOwn cC_Parcel F_Parcel_repr bRepr [own] [] = .ok (.str x) [] := by rw [← hS, rep_plain, hS]; exact hx
  have eo : eqP cC_Parcel F_Parcel_eq right_Parcel (objP (.str n) (.int e) [p0, p1, p2, p3, p4, p5, p6, p7, p8]) own [] = .ok (.bl false) [] := by
    rw [← hS, eqP_tup]
    exact eq_other hc (by simpa [D.closed] using hc) (isi_tup _ _) []
  have ocl : own.closed 0 = true := by rw [← hS]; simpa [D.closed] using hc
  generalize hO : objP (.str n) (.int e) [p0, p1, p2, p3, p4, p5, p6, p7, p8] = obj at *
  have so : bOwn cC_Parcel F_Parcel_str bStr [obj] [] = .ok (.str (n ++ " " ++ T)) [] := by rw [← hO, str_own, hO, hs]; rfl
  have ro : bOwn cC_Parcel F_Parcel_repr bRepr [obj] [] = .ok (.str ("Parcel(" ++ reprText n ++ ", " ++ T ++ ")")) [] := by rw [← hO, rep_own, hO, hr]; rfl
  have e1 : eqP cC_Parcel F_Parcel_eq right_Parcel obj .non [] = .ok (.bl false) [] := by rw [← hO, eqP_non]; exact eq_other hc (by simp [D.closed]) (isi_non _) []
  have e2 : ∀ y : Str, eqP cC_Parcel F_Parcel_eq right_Parcel obj (.str y) [] = .ok (.bl false) [] := fun y => by rw [← hO, eqP_str]; exact eq_other hc (by simp [D.closed]) (isi_str _ _) []
  have e3 : eqP cC_Parcel F_Parcel_eq right_Parcel obj (.int 5) [] = .ok (.bl false) [] := by rw [← hO, eqP_int]; exact eq_other hc (by simp [D.closed]) (isi_int _ _) []
  have e4 : eqP cC_Parcel F_Parcel_eq right_Parcel obj (.tup [obj]) [] = .ok (.bl false) [] := by
    rw [← hO, eqP_tup]
    exact eq_other hc (by simpa only [D.closed] using obj_closed hc) (isi_tup _ _) []
  have e5 : eqP cC_Parcel F_Parcel_eq right_Parcel obj obj [] = .ok (.bl true) [] := by rw [← hO, eqP_obj, hO]; exact eb
  refine fr_ok (μ1 := []) (by simp [D.closedL, ocl]) ?_ (by simp [D.closed])
  have lc : lcD (.nm 3) (dtest (dbin (eqP cC_Parcel F_Parcel_eq right_Parcel) (dvar 1) (dvar 3))) (dvar 3) [some own, some obj, some (.int 1), none] [.non, own, .str n, .int 5, .str (n ++ " " ++ T), .tup [obj]] [] = .ok [] [] := by
    rw [lc_pure (fun d => [some own, some obj, some (.int 1), some d]) (fun _ => false) (fun d => d)]
    · simp
    · intro d hd
      simp only [List.mem_cons, List.not_mem_nil, or_false] at hd
      rcases hd with rfl | rfl | rfl | rfl | rfl | rfl
      · exact ⟨by simp, by simp [e1], by simp⟩
      · exact ⟨by simp, by simp [eo], by simp⟩
      · exact ⟨by simp, by simp [e2], by simp⟩
      · exact ⟨by simp, by simp [e3], by simp⟩
      · exact ⟨by simp, by simp [e2], by simp⟩
      · exact ⟨by simp, by simp [e4], by simp⟩
  simp only [g_law_right, startD]
  repeat (first | rw [if_pos (by omega)] | simp [hmn, upto, for_cons, for_nil, hp, rp, neP_str, so, i0, i1, str_plain, hsi, ro, rep_plainS, hrs, strLen_append, l1, l2, l3, l4, wipeD, lc, neP_nil, e5])
end DL02
namespace DL02
open PySem PySem.Spec PyProof.Rows L2 DL
theorem take_is : F_law_take = framed (callF 3 gTakeX) := rfl
theorem pool_is : F_law_pool = callF 4 gPoolX := rfl
theorem take_at {μ : Mu} {l : Nat} (h : Pool μ l) (n : Int) (hn : 0 < n ∧ n < 1073741824) : ∃ v μ', F_law_take [.hdl l, .int n] μ = .ok (.int v) μ' ∧ 0 ≤ v ∧ v < n ∧ Step l μ μ' := by
  rw [take_is]
  exact take_step h n hn
theorem pool_app {μ ex : Mu} {l : Nat} (h : Pool μ l) (he : AllC ex) : Pool (μ ++ ex) l := by
  obtain ⟨a, b, e, h1, h2⟩ := h.ex
  exact ⟨⟨a, b, by rw [List.getElem?_append_left (List.getElem?_eq_some_iff.mp e).1]; exact e, h1, h2⟩, h.cl.app he⟩
theorem pool_lt {μ : Mu} {l : Nat} (h : Pool μ l) : l < μ.length := by
  obtain ⟨a, b, e, _⟩ := h.ex
  exact (List.getElem?_eq_some_iff.mp e).1
theorem pool_set {μ : Mu} {l f : Nat} (h : Pool μ l) (hf : f ≠ l) {m : MO} (hm : ∀ n, m.closed n = true) : Pool (μ.set f m) l := by
  obtain ⟨a, b, e, h1, h2⟩ := h.ex
  exact ⟨⟨a, b, by rw [List.getElem?_set_ne hf]; exact e, h1, h2⟩, h.cl.set f hm⟩
theorem lst_cl {xs : List D} (h : ∀ x ∈ xs, ∀ n, x.closed n = true) : ∀ n, (MO.lst xs).closed n = true := fun n => closed_of fun x hx => h x hx n
theorem one_cl {m : MO} (h : ∀ n, m.closed n = true) : AllC [m] := fun k hk n => by rw [List.mem_singleton.mp hk]; exact h n
/-- within a def that was handed the pool -/
structure In (l : Nat) (μ0 μ : Mu) : Prop where
  pool : Pool μ l
  len : μ0.length ≤ μ.length
  at_ : ∀ i, i < μ0.length → i ≠ l → μ[i]? = μ0[i]?
theorem In.step {l : Nat} {μ0 μ μ' : Mu} (h : In l μ0 μ) (s : Step l μ μ') : In l μ0 μ' := ⟨s.pool, by rw [s.len]; exact h.len, fun i h1 h2 => (s.at_ i h2).trans (h.at_ i h1 h2)⟩
theorem In.app {l : Nat} {μ0 μ ex : Mu} (h : In l μ0 μ) (he : AllC ex) : In l μ0 (μ ++ ex) := ⟨pool_app h.pool he, by simp; have := h.len; omega, fun i h1 h2 => by
  have := h.len
  rw [List.getElem?_append_left (by omega)]
  exact h.at_ i h1 h2⟩
theorem In.set {l f : Nat} {μ0 μ : Mu} (h : In l μ0 μ) (hl : l < μ0.length) (hf : μ0.length ≤ f) {m : MO} (hm : ∀ n, m.closed n = true) : In l μ0 (μ.set f m) := ⟨pool_set h.pool (by omega) hm, by simp; exact h.len, fun i h1 h2 => by
  rw [List.getElem?_set_ne (by omega)]
  exact h.at_ i h1 h2⟩
theorem In.refl {l : Nat} {μ : Mu} (h : Pool μ l) : In l μ μ := ⟨h, Nat.le_refl _, fun _ _ _ => rfl⟩
def itNeed : FA := itR1 (aCons (dbin mulX (dbin dIx (dlst (aCons (dc (.int 0)) (aCons (dc (.int 0)) (aCons (dc (.int 1)) (aCons (dc (.int 1)) (aCons (dc (.int 2)) aNil)))))) (dcall F_law_take [] (aCons (dvar 0) (aCons (dc (.int 5)) aNil)))) (dvar 3)) aNil)
def bNeed : FS := (gseq (gasg (.nm 6) (dlc (itA (dvar 2)) [9] (.nm 9) (dtest (dbin dNeX (dvar 9) (dvar 1))) (dvar 9)))
    (gseq (gasg (.nm 7) (dcall F_law_take [] (aCons (dvar 0) (aCons (dcallB bLen (aCons (dvar 6) aNil)) aNil))))
    (gseq (gasg (.nm 8) (dcel (aCons (dtup (aCons (dbin dIx (dvar 6) (dvar 7)) (aCons (dbin dIx (dlst (aCons (dc (.int 1)) (aCons (dc (.int 1)) (aCons (dc (.int 2)) aNil)))) (dcall F_law_take [] (aCons (dvar 0) (aCons (dc (.int 3)) aNil)))) aNil))) aNil)))
    (gseq (gif (dtest (dbin dEq (dcall F_law_take [] (aCons (dvar 0) (aCons (dc (.int 3)) aNil))) (dc (.int 0)))) (gexpr (dbm "list" mAppend (dvar 8) (aCons (dtup (aCons (dbin dIx (dvar 6) (dbin modD (dbin addX (dvar 7) (dc (.int 1))) (dcallB bLen (aCons (dvar 6) aNil)))) (aCons (dc (.int 1)) aNil))) aNil))) gnil)
    (gexpr (dbm "list" mAppend (dvar 4) (aCons (dcallB bTupleX (aCons (dvar 8) aNil)) aNil)))))))
theorem needs_is : g_law_needs = gseq (gasg (.nm 4) (dcel aNil)) (gseq (gfor itNeed (.nm 5) bNeed) (gret (dcallB bTupleX (aCons (dvar 4) aNil)))) := rfl
theorem oth_lc {who : Str} (ρ : En) (hρ : ρ.length = 10) (h1 : ρ[1]? = some (some (.str who))) (h9 : ρ[9]? = some none) (μ : Mu) : lcD (.nm 9) (dtest (dbin dNeX (dvar 9) (dvar 1))) (dvar 9) ρ (evN.map .str) μ = .ok (oth who) μ := by
  rw [lc_pure (fun d => ρ.set 9 (some d)) (fun d => match d with | .str x => !decide (x = who) | _ => false) (fun d => d)]
  · rw [List.filter_map]
    simp [oth, Function.comp_def]
  · intro d hd
    obtain ⟨x, _, rfl⟩ := List.mem_map.mp hd
    have s9 : (ρ.set 9 (some (.str x)))[9]? = some (some (.str x)) := by simp [hρ]
    have s1 : (ρ.set 9 (some (.str x)))[1]? = some (some (.str who)) := by rw [List.getElem?_set_ne (by decide)]; exact h1
    exact ⟨by simp, by simp [s9, s1, neX_strs], fun _ => by simp [s9]⟩
theorem pick12 {v : Int} (h : 0 ≤ v ∧ v < 3) : ∃ e : Int, atI [D.int 1, D.int 1, D.int 2] v = some (D.int e) ∧ e ∈ ([1, 2] : List Int) := by
  obtain rfl | rfl | rfl : v = 0 ∨ v = 1 ∨ v = 2 := by omega
  · exact ⟨1, at_i 0 rfl, by decide⟩
  · exact ⟨1, at_i 1 rfl, by decide⟩
  · exact ⟨2, at_i 2 rfl, by decide⟩
theorem pick_two {who : Str} (hw : who ∈ evN) {v : Int} (h : 0 ≤ v ∧ v < 3) : ∃ x y : D, atI (oth who) v = some x ∧ atI (oth who) ((v + 1) % 3) = some y ∧ ∀ e ∈ ([1, 2] : List Int), needB who (.tup [.tup [x, .int e]]) = true ∧ needB who (.tup [.tup [x, .int e], .tup [y, .int 1]]) = true := by
  have a := okT_at need_all hw
  simp only [Bool.and_eq_true, decide_eq_true_eq] at a
  obtain ⟨hl, a⟩ := a
  obtain ⟨k, rfl⟩ := Int.eq_ofNat_of_zero_le h.1
  have b := okT_at a (List.mem_range.mpr (show k < 3 by omega))
  have e2 : ((k : Int) + 1) % 3 = ((k + 1) % 3 : Nat) := by omega
  cases hx : (oth who)[k]? with
  | none => rw [hx] at b; cases b
  | some x =>
    cases hy : (oth who)[(k + 1) % 3]? with
    | none => rw [hx, hy] at b; cases b
    | some y =>
      rw [hx, hy] at b
      refine ⟨x, y, at_i k hx, by rw [e2]; exact at_i _ hy, fun e he => ?_⟩
      have := okT_at b he
      simpa only [Bool.and_eq_true] using this
theorem oth_len {who : Str} (hw : who ∈ evN) : (oth who).length = 3 := by
  have a := okT_at need_all hw
  simp only [Bool.and_eq_true, decide_eq_true_eq] at a
  exact a.1
theorem tm_cl {as : List Nat} {d : D} (h : tm as d = true) : ∀ n, d.closed n = true := fun n => tm_closed as d n h
theorem needB_tm {w : Str} {d : D} (h : needB w d = true) : tm [3, 3] d = true := by
  unfold needB at h
  simp only [Bool.and_eq_true] at h
  exact h.2.1
theorem need_turn {who : Str} (hw : who ∈ evN) {l : Nat} {μ0 μ : Mu} (i : In l μ0 μ) (hl : l < μ0.length) {xs : List D} (hf : μ[μ0.length]? = some (.lst xs)) (hxs : ∀ x ∈ xs, needB who x = true) (hn : xs.length < 100) (m : D) (a5 a6 a7 a8 : Option D) :
    ∃ a6' a7' a8' μ' x, bNeed [some (.hdl l), some (.str who), some (.lst (evN.map .str)), some m, some (.hdl μ0.length), a5, a6, a7, a8, none] μ = .nx [some (.hdl l), some (.str who), some (.lst (evN.map .str)), some m, some (.hdl μ0.length), a5, a6', a7', a8', none] μ' ∧ In l μ0 μ' ∧ μ'[μ0.length]? = some (.lst (xs ++ [x])) ∧ needB who x = true := by
  have ol := oth_len hw
  obtain ⟨v, μ1, e1, v0, v3, s1⟩ := take_at i.pool 3 (by decide)
  have i1 := i.step s1
  obtain ⟨x, y, hx, hy, hb⟩ := pick_two hw ⟨v0, v3⟩
  obtain ⟨u, μ2, e2, u0, u3, s2⟩ := take_at i1.pool 3 (by decide)
  have i2 := i1.step s2
  obtain ⟨e, he, hem⟩ := pick12 ⟨u0, u3⟩
  obtain ⟨b1, b2⟩ := hb e hem
  have c1 : ∀ n, (D.tup [x, .int e]).closed n = true := fun n => by
    have := tm_cl (needB_tm b1) n
    simpa [D.closed, D.closedL] using this
  have i3 : In l μ0 (μ2 ++ [.lst [.tup [x, .int e]]]) := i2.app (one_cl (lst_cl fun z hz n => by rw [List.mem_singleton.mp hz]; exact c1 n))
  obtain ⟨w, μ4, e4, w0, w3, s4⟩ := take_at i3.pool 3 (by decide)
  have i4 := i3.step s4
  have hlen : μ2.length = μ.length := by rw [s2.len, s1.len]
  have lt0 : μ0.length < μ.length := (List.getElem?_eq_some_iff.mp hf).1
  have ne1 : μ2.length ≠ l := by have := pool_lt i2.pool; omega
  have at4 : μ4[μ2.length]? = some (.lst [.tup [x, .int e]]) := by
    rw [s4.at_ _ ne1]
    simp
  have f4 : μ4[μ0.length]? = some (.lst xs) := by
    rw [s4.at_ _ (by omega), List.getElem?_append_left (by omega), s2.at_ _ (by omega), s1.at_ _ (by omega)]
    exact hf
  have xcl : ∀ z ∈ xs, ∀ n, z.closed n = true := fun z hz => tm_cl (needB_tm (hxs z hz))
  have lc := oth_lc (who := who) [some (.hdl l), some (.str who), some (.lst (evN.map .str)), some m, some (.hdl μ0.length), a5, a6, a7, a8, none] rfl rfl rfl μ
  have tyl : ∀ (k : Nat) (μ : Mu) (zs : List D), μ[k]? = some (.lst zs) → tyD "list" (.hdl k) μ = true := fun k μ zs h => by simp [tyD, h]
  by_cases hw0 : w = 0
  · -- two options
    have c2 : ∀ n, (D.tup [y, .int 1]).closed n = true := fun n => by
      have := tm_cl (needB_tm b2) n
      simp [D.closed, D.closedL] at this ⊢
      exact this.2
    have i5 : In l μ0 (μ4.set μ2.length (.lst [.tup [x, .int e], .tup [y, .int 1]])) := i4.set hl (by omega) (lst_cl fun z hz n => by
      rcases List.mem_cons.mp hz with rfl | hz
      · exact c1 n
      · rw [List.mem_singleton.mp hz]; exact c2 n)
    have l4 : μ4.length = μ2.length + 1 := by rw [s4.len]; simp
    have at5 : (μ4.set μ2.length (.lst [.tup [x, .int e], .tup [y, .int 1]]))[μ2.length]? = some (.lst [.tup [x, .int e], .tup [y, .int 1]]) := by simp [l4]
    have f5 : (μ4.set μ2.length (.lst [.tup [x, .int e], .tup [y, .int 1]]))[μ0.length]? = some (.lst xs) := by rw [List.getElem?_set_ne (by omega)]; exact f4
    refine ⟨some (.lst (oth who)), some (.int v), some (.hdl μ2.length), _, .tup [.tup [x, .int e], .tup [y, .int 1]], ?_, i5.set hl (Nat.le_refl _) (m := .lst (xs ++ [.tup [.tup [x, .int e], .tup [y, .int 1]]])) (lst_cl fun z hz n => ?_), ?_, b2⟩
    · simp only [bNeed]
      simp [lc, wipeD, bLen, lenD, seqD, ol, e1, hx, e2, he, e4, hw0, hy, tyl _ _ _ at4, at4, tupleX_hdl at5, tyl _ _ _ f5, f5, show xs.length < 1000000 by omega]
    · rcases List.mem_append.mp hz with hz | hz
      · exact xcl z hz n
      · rw [List.mem_singleton.mp hz]; exact tm_cl (needB_tm b2) n
    · rw [List.getElem?_set_self]
      simp [l4]; omega
  · refine ⟨some (.lst (oth who)), some (.int v), some (.hdl μ2.length), _, .tup [.tup [x, .int e]], ?_, i4.set hl (Nat.le_refl _) (m := .lst (xs ++ [.tup [.tup [x, .int e]]])) (lst_cl fun z hz n => ?_), ?_, b1⟩
    · simp only [bNeed]
      simp [lc, wipeD, bLen, lenD, seqD, ol, e1, hx, e2, he, e4, hw0, tupleX_hdl at4, tyl _ _ _ f4, f4, show xs.length < 1000000 by omega]
    · rcases List.mem_append.mp hz with hz | hz
      · exact xcl z hz n
      · rw [List.mem_singleton.mp hz]; exact tm_cl (needB_tm b1) n
    · rw [List.getElem?_set_self]
      have l4 : μ4.length = μ2.length + 1 := by rw [s4.len]; simp
      omega
end DL02
namespace DL02
open PySem PySem.Spec PyProof.Rows L2 DL
theorem pick5 {v : Int} (h : 0 ≤ v ∧ v < 5) : ∃ t : Int, atI [D.int 0, D.int 0, D.int 1, D.int 1, D.int 2] v = some (D.int t) ∧ 0 ≤ t ∧ t ≤ 2 := by
  obtain rfl | rfl | rfl | rfl | rfl : v = 0 ∨ v = 1 ∨ v = 2 ∨ v = 3 ∨ v = 4 := by omega
  · exact ⟨0, at_i 0 rfl, by decide, by decide⟩
  · exact ⟨0, at_i 1 rfl, by decide, by decide⟩
  · exact ⟨1, at_i 2 rfl, by decide, by decide⟩
  · exact ⟨1, at_i 3 rfl, by decide, by decide⟩
  · exact ⟨2, at_i 4 rfl, by decide, by decide⟩
theorem needs_drawn {who : Str} (hw : who ∈ evN) {l : Nat} {μ : Mu} (p : Pool μ l) {m : Int} (hm : m = 0 ∨ m = 1) : ∃ ds μ', F_law_needs [.hdl l, .str who, .lst (evN.map .str), .int m] μ = .ok (.tup ds) μ' ∧ Step l μ μ' ∧ (∀ d ∈ ds, needB who d = true) ∧ ds.length ≤ 2 := by
  have hl := pool_lt p
  have i0 : In l μ (μ ++ [.lst []]) := (In.refl p).app (one_cl (lst_cl fun z hz => by cases hz))
  obtain ⟨v, μ1, e1, v0, v5, s1⟩ := take_at i0.pool 5 (by decide)
  have i1 := i0.step s1
  obtain ⟨t, ht, t0, t2⟩ := pick5 ⟨v0, v5⟩
  obtain ⟨k, hk⟩ : ∃ k : Nat, (k : Int) = t * m ∧ k ≤ 2 := by
    rcases hm with rfl | rfl
    · exact ⟨0, by simp⟩
    · exact ⟨t.toNat, by omega⟩
  have f1 : μ1[μ.length]? = some (.lst []) := by
    rw [s1.at_ _ (by omega)]
    simp
  obtain ⟨ρ', μ', e, a5, a6, a7, a8, xs, rfl, i', f', hxs, hlen⟩ := for_upto (t := .nm 5) (b := bNeed) (n := k) (k := 0) (fun j ρ μ' => ∃ a5 a6 a7 a8 xs, ρ = [some (.hdl l), some (.str who), some (.lst (evN.map .str)), some (.int m), some (.hdl μ.length), a5, a6, a7, a8, none] ∧ In l μ μ' ∧ μ'[μ.length]? = some (.lst xs) ∧ (∀ x ∈ xs, needB who x = true) ∧ xs.length = j)
    (ρ := [some (.hdl l), some (.str who), some (.lst (evN.map .str)), some (.int m), some (.hdl μ.length), none, none, none, none, none]) (μ := μ1)
    (fun j _ hj ρ μ' ⟨a5, a6, a7, a8, xs, hρ, i', f', hxs, hlen⟩ => by
      subst hρ
      obtain ⟨b6, b7, b8, μ'', x, eb, ib, fb, hb⟩ := need_turn hw i' hl f' hxs (by omega) (.int m) (some (.int j)) a6 a7 a8
      exact ⟨_, _, μ'', by simp, eb, _, _, _, _, _, rfl, ib, fb, fun z hz => by
        rcases List.mem_append.mp hz with hz | hz
        · exact hxs z hz
        · rw [List.mem_singleton.mp hz]; exact hb, by simp [hlen]⟩) ⟨_, _, _, _, [], rfl, i1, f1, (fun z hz => by cases hz), rfl⟩
  have e : forD (.nm 5) bNeed (upto 0 k) [some (.hdl l), some (.str who), some (.lst (evN.map .str)), some (.int m), some (.hdl μ.length), none, none, none, none, none] μ1 = .nx [some (.hdl l), some (.str who), some (.lst (evN.map .str)), some (.int m), some (.hdl μ.length), a5, a6, a7, a8, none] μ' := e
  have hk2 : (t * m).toNat = k := by omega
  have body : g_law_needs (startD 10 [.hdl l, .str who, .lst (evN.map .str), .int m]) μ = .rt (.tup xs) μ' := by
    rw [needs_is]
    have h1 : t * m ≤ 1000000 ∧ -1000000 ≤ t * m := by omega
    have h2 : (-18446744073709551616 < t ∧ t < 18446744073709551616) := by omega
    simp [startD, itNeed, e1, ht, h2.1, h2.2, h1.1, h1.2, hk2, e, tupleX_hdl f' (by omega)]
  have cl : ∀ n, (D.tup xs).closed n = true := fun n => by
    simp only [D.closed]
    exact closed_of fun x hx => tm_cl (needB_tm (hxs x hx)) n
  obtain ⟨μ2, e2, s2⟩ := call_step body (cl 0) i'.pool hl i'.len i'.at_ cl
  exact ⟨xs, μ2, e2, s2, hxs, by omega⟩
theorem srt_self : ∀ {ss : List Str}, ss.Pairwise (fun x y => strLt x y = true) → srtS ss = ss
  | [], _ => rfl
  | x :: ss, h => by
    have hp := List.pairwise_cons.mp h
    rw [srtS, srt_self hp.2]
    cases ss with
    | nil => rfl
    | cons y ss =>
      have hxy := hp.1 y (by simp)
      unfold insS
      have : strLt y x = false := by
        cases q : strLt y x with
        | false => rfl
        | true => exact absurd (of_decide_eq_true q) (List.not_lt.mpr (leS_lt hxy))
      simp [hxy, this]
theorem F2.sub {xs ys : List D} (h : F2 (fun x y => y = x) xs ys) : ys = xs := h.eq
theorem sub_strs {ys : List D} {ss : List Str} (h : ys.Sublist (ss.map .str)) : ∃ rs : List Str, ys = rs.map .str ∧ rs.Sublist ss := by
  obtain ⟨rs, h1, h2⟩ := List.sublist_map_iff.mp h
  exact ⟨rs, h2, h1⟩
theorem rising_drawn {l : Nat} {μ : Mu} (p : Pool μ l) {ss : List Str} (hs : ss.Pairwise (fun x y => strLt x y = true)) (hn : ss.length < 64) (m : Int) : ∃ (rs : List Str) (μ' : Mu), F_law_rising [.hdl l, .lst (ss.map .str), .int m] μ = .ok (.lst (rs.map .str)) μ' ∧ Step l μ μ' ∧ rs.Sublist ss := by
  have hl := pool_lt p
  obtain ⟨ys, zs, μ', e, i', sub, f2⟩ := lc_eff (t := .nm 3) (ft := dtest (dbin ltD (dcall F_law_take [] (aCons (dvar 0) (aCons (dc (.int 9)) aNil))) (dvar 2))) (fe := dvar 3) (ρ := [some (.hdl l), some (.lst (ss.map .str)), some (.int m), none]) (In l μ) (fun x y => y = x) (xs := ss.map .str) (μ := μ)
    (fun x hx μ1 i1 => by
      obtain ⟨v, μ2, e1, v0, v9, s1⟩ := take_at i1.pool 9 (by decide)
      exact ⟨_, decide (v < m), μ2, by simp; rfl, by simp [e1], i1.step s1, fun _ => ⟨x, μ2, by simp, i1.step s1, rfl⟩⟩) (In.refl p)
  rw [← f2.eq] at sub
  obtain ⟨rs, rfl, hr⟩ := sub_strs sub
  have hlen := hr.length_le
  have body : g_law_rising (startD 4 [.hdl l, .lst (ss.map .str), .int m]) μ = .rt (.lst (rs.map .str)) μ' := by
    simp only [g_law_rising, startD]
    simp [wipeD, e, bSorted, strsD_map, show rs.length < 64 by omega, srt_self (hs.sublist hr)]
  have cl : ∀ n, (D.lst (rs.map .str)).closed n = true := fun n => by simp [D.closed, strs_closed]
  obtain ⟨μ2, e2, s2⟩ := call_step body (cl 0) i'.pool hl i'.len i'.at_ cl
  exact ⟨rs, μ2, e2, s2, hr⟩
end DL02
namespace DL02
open PySem PySem.Spec PyProof.Rows L2 DL
def sp0e : FE := (dcall F_law_needs [] (aCons (dvar 0) (aCons (dvar 1) (aCons (dvar 2) (aCons (dc (.int 1)) aNil)))))
def sp0 : FS := gasg (.nm 3) sp0e
def sp1e : FE := (dcall F_law_needs [] (aCons (dvar 0) (aCons (dvar 1) (aCons (dvar 2) (aCons (dcallB bInt (aCons (dbin dEq (dcall F_law_take [] (aCons (dvar 0) (aCons (dc (.int 3)) aNil))) (dc (.int 0))) aNil)) aNil)))))
def sp1 : FS := gasg (.nm 4) sp1e
def sp2e : FE := (dbin dIx (dvar 2) (dcall F_law_take [] (aCons (dvar 0) (aCons (dcallB bLen (aCons (dvar 2) aNil)) aNil))))
def sp2 : FS := gasg (.nm 5) sp2e
def sp3e : FE := (dbin mulX (dtup (aCons (dtup (aCons (dvar 5) (aCons (dc (.int 1)) (aCons (dbin addX (dc (.int 1)) (dcall F_law_take [] (aCons (dvar 0) (aCons (dc (.int 2)) aNil)))) aNil)))) aNil)) (dcallB bInt (aCons (dand (dbin dNeX (dvar 5) (dvar 1)) (dbin dEq (dcall F_law_take [] (aCons (dvar 0) (aCons (dc (.int 6)) aNil))) (dc (.int 0)))) aNil)))
def sp3 : FS := gasg (.nm 6) sp3e
def sp4e : FE := (dbin addX (dlst (aCons (dbin addX (dc (.str "x/")) (dvar 1)) (aCons (dbin addX (dc (.str "y/")) (dvar 1)) (aCons (dc (.str "s")) aNil)))) (dbin mulX (dlst (aCons (dc (.str "t")) (aCons (dc (.str "u")) aNil))) (dcallB bInt (aCons (dbin dEq (dcall F_law_take [] (aCons (dvar 0) (aCons (dc (.int 4)) aNil))) (dc (.int 0))) aNil))))
def sp4 : FS := gasg (.nm 7) sp4e
def sp5e : FE := (dcall F_law_rising [] (aCons (dvar 0) (aCons (dcallB bSorted (aCons (dvar 7) aNil)) (aCons (dc (.int 4)) aNil))))
def sp5 : FS := gasg (.nm 8) sp5e
def sp6e : FE := (dlc (itA (dcall F_law_rising [] (aCons (dvar 0) (aCons (dlst (aCons (dbin addX (dc (.str "etc/")) (dvar 1)) (aCons (dc (.str "s")) (aCons (dc (.str "z")) aNil)))) (aCons (dc (.int 2)) aNil))))) [19] (.nm 19) (dtest (dbin dNotIn (dvar 19) (dvar 8))) (dvar 19))
def sp6 : FS := gasg (.nm 9) sp6e
def sp7e : FE := (dlc (itA (dcall F_law_rising [] (aCons (dvar 0) (aCons (dlst (aCons (dc (.str "s")) (aCons (dc (.str "t")) (aCons (dc (.str "x/a")) (aCons (dc (.str "y/d")) aNil))))) (aCons (dc (.int 1)) aNil))))) [19] (.nm 19) (dtest (dbin dNotIn (dvar 19) (dvar 9))) (dvar 19))
def sp7 : FS := gasg (.nm 10) sp7e
def sp8e : FE := (dcallB bTupleX (aCons (dlc (itA (dsl (dvar 10) onone (osome (dc (.int 3))))) [19] (.nm 19) tyes (dtup (aCons (dvar 19) (aCons (dbin addX (dc (.str "far/")) (dbin dIx (dvar 19) (dneg (dc (.int 1))))) aNil)))) aNil))
def sp8 : FS := gasg (.nm 11) sp8e
def sp9c : FT := (dtest (dbin ltD (dlensetX (dlc (itA (dvar 11)) [19, 20] (.tp [(.nm 19), (.nm 20)]) tyes (dvar 20))) (dcallB bLen (aCons (dvar 11) aNil))))
def sp9 : FS := gif sp9c (gasg (.nm 11) (dsl (dvar 11) onone (osome (dc (.int 1))))) gnil
def sp10e : FE := (dcel aNil)
def sp10 : FS := gasg (.nm 12) sp10e
def sp11c : FT := (dtest (dbin dNeX (dvar 8) (dlst aNil)))
def sp11 : FS := gif sp11c (gfor (itA (dcall F_law_rising [] (aCons (dvar 0) (aCons (dlst (aCons (dc (.str "edit")) (aCons (dc (.str "view")) aNil))) (aCons (dc (.int 3)) aNil))))) (.nm 19) (gexpr (dbm "list" mAppend (dvar 12) (aCons (dtup (aCons (dvar 19) (aCons (dbin dIx (dvar 8) (dcall F_law_take [] (aCons (dvar 0) (aCons (dcallB bLen (aCons (dvar 8) aNil)) aNil)))) (aCons (dcall F_law_take [] (aCons (dvar 0) (aCons (dc (.int 3)) aNil))) aNil)))) aNil)))) gnil
def sp12e : FE := (dcallB bTupleX (aCons (dcall F_law_rising [] (aCons (dvar 0) (aCons (dlst (aCons (dc (.str "fonts")) (aCons (dc (.str "menus")) aNil))) (aCons (dc (.int 4)) aNil)))) aNil))
def sp12 : FS := gasg (.nm 13) sp12e
def sp13e : FE := (dlst (aCons (dtup (aCons (dc (.str "ahead put")) (aCons (dc (.str "n")) (aCons (dc (.int 2)) aNil)))) (aCons (dtup (aCons (dc (.str "behind set")) (aCons (dc (.str "n")) (aCons (dneg (dc (.int 1))) aNil)))) (aCons (dtup (aCons (dc (.str "ahead loose")) (aCons (dc (.str "m")) (aCons (dc (.int 5)) aNil)))) (aCons (dtup (aCons (dc (.str "behind set")) (aCons (dc (.str "k")) (aCons (dc (.int 3)) aNil)))) aNil)))))
def sp13 : FS := gasg (.nm 14) sp13e
def sp14e : FE := (dcallB bTupleX (aCons (dlc (itA (dvar 14)) [19] (.nm 19) (dtest (dbin dEq (dcall F_law_take [] (aCons (dvar 0) (aCons (dc (.int 4)) aNil))) (dc (.int 0)))) (dvar 19)) aNil))
def sp14 : FS := gasg (.nm 15) sp14e
def sp15e : FE := (dcallB bTupleX (aCons (dlc (itA (dvar 8)) [19] (.nm 19) tyes (dtup (aCons (dvar 19) (aCons (dcall F_law_take [] (aCons (dvar 0) (aCons (dc (.int 4)) aNil))) aNil)))) aNil))
def sp15 : FS := gasg (.nm 16) sp15e
def sp16e : FE := (dcallB bTupleX (aCons (dlc (itA (dvar 9)) [19] (.nm 19) tyes (dtup (aCons (dvar 19) (aCons (dcall F_law_take [] (aCons (dvar 0) (aCons (dc (.int 3)) aNil))) aNil)))) aNil))
def sp16 : FS := gasg (.nm 17) sp16e
def sp17e : FE := (dbin addX (dc (.int 1)) (dcall F_law_take [] (aCons (dvar 0) (aCons (dc (.int 3)) aNil))))
def sp17 : FS := gasg (.nm 18) sp17e
def sp18e : FE := (dtup (aCons (dvar 1) (aCons (dvar 18) (aCons (dvar 3) (aCons (dvar 4) (aCons (dvar 6) (aCons (dvar 16) (aCons (dvar 17) (aCons (dvar 11) (aCons (dcallB bTupleX (aCons (dvar 12) aNil)) (aCons (dvar 13) (aCons (dvar 15) aNil))))))))))))
def sp18 : FS := gret sp18e
theorem sp_is : g_law_spec = gseq sp0 (gseq sp1 (gseq sp2 (gseq sp3 (gseq sp4 (gseq sp5 (gseq sp6 (gseq sp7 (gseq sp8 (gseq sp9 (gseq sp10 (gseq sp11 (gseq sp12 (gseq sp13 (gseq sp14 (gseq sp15 (gseq sp16 (gseq sp17 sp18))))))))))))))))) := rfl
section
variable {who : Str} {l : Nat} {ρ : En} {μ : Mu}
theorem set_at {ρ : En} {i j : Nat} {x : Option D} (h : j ≠ i) : (ρ.set i x)[j]? = ρ[j]? := List.getElem?_set_ne (Ne.symm h)
theorem sp0_ok (hw : who ∈ evN) (p : Pool μ l) (h0 : ρ[0]? = some (some (.hdl l))) (h1 : ρ[1]? = some (some (.str who))) (h2 : ρ[2]? = some (some (.lst (evN.map .str)))) : ∃ ds μ', sp0e ρ μ = .ok (.tup ds) μ' ∧ Step l μ μ' ∧ (∀ d ∈ ds, needB who d = true) ∧ ds.length ≤ 2 := by
  obtain ⟨ds, μ', e, s, h, hl⟩ := needs_drawn hw p (m := 1) (.inr rfl)
  exact ⟨ds, μ', by simp [sp0e, h0, h1, h2, e], s, h, hl⟩
theorem sp1_ok (hw : who ∈ evN) (p : Pool μ l) (h0 : ρ[0]? = some (some (.hdl l))) (h1 : ρ[1]? = some (some (.str who))) (h2 : ρ[2]? = some (some (.lst (evN.map .str)))) : ∃ ds μ', sp1e ρ μ = .ok (.tup ds) μ' ∧ Step l μ μ' ∧ (∀ d ∈ ds, needB who d = true) ∧ ds.length ≤ 2 := by
  obtain ⟨v, μ1, e1, v0, v3, s1⟩ := take_at p 3 (by decide)
  obtain ⟨ds, μ', e, s, h, hl⟩ := needs_drawn hw s1.pool (m := if v = 0 then 1 else 0) (by split <;> simp)
  refine ⟨ds, μ', ?_, s1.trans s, h, hl⟩
  by_cases hv : v = 0
  · simp [hv] at e
    simp [sp1e, h0, h1, h2, e1, bInt, hv, e]
  · simp [hv] at e
    simp [sp1e, h0, h1, h2, e1, bInt, hv, e]
theorem sp2_ok (p : Pool μ l) (h0 : ρ[0]? = some (some (.hdl l))) (h2 : ρ[2]? = some (some (.lst (evN.map .str)))) : ∃ r μ', sp2e ρ μ = .ok (.str r) μ' ∧ Step l μ μ' ∧ r ∈ evN := by
  obtain ⟨v, μ1, e1, v0, v4, s1⟩ := take_at p 4 (by decide)
  obtain ⟨k, rfl⟩ := Int.eq_ofNat_of_zero_le v0
  have hk : k < evN.length := by simp [evN]; omega
  refine ⟨evN[k], μ1, ?_, s1, List.getElem_mem _⟩
  have a : atI (evN.map D.str) (k : Int) = some (.str evN[k]) := at_i k (by simp [hk])
  have hl : ((evN.map D.str).length : Int) = 4 := rfl
  simp [sp2e, h0, h2, bLen, lenD, seqD]
  have hl' : (evN.length : Int) = 4 := rfl
  rw [hl', e1]
  simp [a]
theorem bar_at (hw : who ∈ evN) {r : Str} (hr : r ∈ evN) (hne : r ≠ who) {v : Int} (h : 0 ≤ v ∧ v < 2) : barB who (.tup [.str r, .int 1, .int (1 + v)]) = true := by
  have a := okT_at (okT_at bar_all hw) hr
  simp only [Bool.or_eq_true, decide_eq_true_eq, hne, false_or] at a
  obtain rfl | rfl : v = 0 ∨ v = 1 := by omega
  · exact okT_at a (by simp)
  · exact okT_at a (by simp)
theorem sp3_ok (hw : who ∈ evN) {r : Str} (hr : r ∈ evN) (p : Pool μ l) (h0 : ρ[0]? = some (some (.hdl l))) (h1 : ρ[1]? = some (some (.str who))) (h5 : ρ[5]? = some (some (.str r))) : ∃ ds μ', sp3e ρ μ = .ok (.tup ds) μ' ∧ Step l μ μ' ∧ (∀ d ∈ ds, barB who d = true) ∧ ds.length ≤ 1 := by
  obtain ⟨v, μ1, e1, v0, v2, s1⟩ := take_at p 2 (by decide)
  by_cases hne : r = who
  · exact ⟨[], μ1, by simp [sp3e, h0, h1, h5, e1, neX_strs, hne, bInt], s1, by simp, by simp⟩
  · obtain ⟨u, μ2, e2, u0, u6, s2⟩ := take_at s1.pool 6 (by decide)
    by_cases hu : u = 0
    · exact ⟨[.tup [.str r, .int 1, .int (1 + v)]], μ2, by simp [sp3e, h0, h1, h5, e1, neX_strs, hne, e2, hu, bInt], s1.trans s2, fun d hd => by rw [List.mem_singleton.mp hd]; exact bar_at hw hr hne ⟨v0, v2⟩, by simp⟩
    · exact ⟨[], μ2, by simp [sp3e, h0, h1, h5, e1, neX_strs, hne, e2, hu, bInt], s1.trans s2, by simp, by simp⟩
def ownA (w : Str) : List Str := ["x/" ++ w, "y/" ++ w, "s"]
def ownB (w : Str) : List Str := ["x/" ++ w, "y/" ++ w, "s", "t", "u"]
theorem ev_len : (evN.all fun w => decide (w.length ≤ 2)) = true := by decide +kernel
theorem sp4_ok (hw : who ∈ evN) (p : Pool μ l) (h0 : ρ[0]? = some (some (.hdl l))) (h1 : ρ[1]? = some (some (.str who))) : ∃ own μ', sp4e ρ μ = .ok (.lst (own.map .str)) μ' ∧ Step l μ μ' ∧ (own = ownA who ∨ own = ownB who) := by
  obtain ⟨v, μ1, e1, v0, v2, s1⟩ := take_at p 4 (by decide)
  have hwl := of_decide_eq_true (okT_at ev_len hw)
  have l1 : ("x/" : Str).length = 2 := by decide +kernel
  have l2 : ("y/" : Str).length = 2 := by decide +kernel
  by_cases hv : v = 0
  · exact ⟨ownB who, μ1, by simp [sp4e, h0, h1, e1, hv, bInt, l1, l2, show 2 + who.length ≤ 1000000 by omega, ownB], s1, .inr rfl⟩
  · exact ⟨ownA who, μ1, by simp [sp4e, h0, h1, e1, hv, bInt, l1, l2, show 2 + who.length ≤ 1000000 by omega, ownA], s1, .inl rfl⟩
theorem own_srt : (evN.all fun w => decide (srtS (ownA w) = ([("s" : Str), "x/" ++ w, "y/" ++ w] : List Str)) && decide (srtS (ownB w) = fMenu w)) = true := by decide +kernel
theorem sub_menu (w : Str) : ([("s" : Str), "x/" ++ w, "y/" ++ w] : List Str).Sublist (fMenu w) := by
  unfold fMenu
  exact (List.Sublist.refl _).cons _ |>.cons _ |>.cons₂ _
theorem sp5_ok (hw : who ∈ evN) {own : List Str} (ho : own = ownA who ∨ own = ownB who) (p : Pool μ l) (h0 : ρ[0]? = some (some (.hdl l))) (h7 : ρ[7]? = some (some (.lst (own.map .str)))) : ∃ (br : List Str) (μ' : Mu), sp5e ρ μ = .ok (.lst (br.map .str)) μ' ∧ Step l μ μ' ∧ br.Sublist (fMenu who) := by
  have a := okT_at own_srt hw
  simp only [Bool.and_eq_true, decide_eq_true_eq] at a
  have key : ∃ ss : List Str, srtS own = ss ∧ ss.Sublist (fMenu who) ∧ own.length < 64 := by
    rcases ho with rfl | rfl
    · exact ⟨_, a.1, sub_menu who, by simp [ownA]⟩
    · exact ⟨_, a.2, List.Sublist.refl _, by simp [ownB]⟩
  obtain ⟨ss, e1, hs, hl⟩ := key
  obtain ⟨br, μ', e, s, hb⟩ := rising_drawn p (pw_of hw (.inl hs)) (by have := hs.length_le; simp [fMenu] at this; omega) 4
  exact ⟨br, μ', by simp [sp5e, h0, h7, bSorted, strsD_map, hl, e1, e], s, hb.trans hs⟩
/-- what is not among some -/
theorem out_lc {ss rs : List Str} {k : Nat} (hρ : ρ.length = 21) (hk : ρ[k]? = some (some (.lst (ss.map .str)))) (hk2 : k ≠ 19) (μ : Mu) : lcD (.nm 19) (dtest (dbin dNotIn (dvar 19) (dvar k))) (dvar 19) (ρ.set 19 none) (rs.map .str) μ = .ok ((rs.filter fun x => decide (x ∉ ss)).map .str) μ := by
  rw [lc_pure (fun d => ρ.set 19 (some d)) (fun d => match d with | .str x => decide (x ∉ ss) | _ => false) (fun d => d)]
  · rw [List.filter_map]
    simp [Function.comp_def]
  · intro d hd
    obtain ⟨x, _, rfl⟩ := List.mem_map.mp hd
    have s19 : (ρ.set 19 (some (.str x)))[19]? = some (some (.str x)) := by simp [hρ]
    have sk : (ρ.set 19 (some (.str x)))[k]? = some (some (.lst (ss.map .str))) := by rw [set_at hk2]; exact hk
    exact ⟨by simp, by simp [s19, sk, notin_strs], fun _ => by simp [s19]⟩
theorem sp6_ok (hw : who ∈ evN) {br : List Str} (hρ : ρ.length = 21) (p : Pool μ l) (h0 : ρ[0]? = some (some (.hdl l))) (h1 : ρ[1]? = some (some (.str who))) (h8 : ρ[8]? = some (some (.lst (br.map .str)))) : ∃ (ks : List Str) (μ' : Mu), sp6e ρ μ = .ok (.lst (ks.map .str)) μ' ∧ Step l μ μ' ∧ ks.Sublist (sMenu who) ∧ ∀ x ∈ ks, x ∉ br := by
  have hwl := of_decide_eq_true (okT_at ev_len hw)
  have l1 : ("etc/" : Str).length = 4 := by decide +kernel
  obtain ⟨rs, μ', e, s, hb⟩ := rising_drawn p (ss := sMenu who) (pw_of hw (.inr (.inl (List.Sublist.refl _)))) (by simp [sMenu]) 2
  have lc := out_lc (rs := rs) hρ h8 (by decide) μ'
  refine ⟨rs.filter fun x => decide (x ∉ br), μ', ?_, s, List.filter_sublist.trans hb, fun x hx => ?_⟩
  · have e' : F_law_rising [.hdl l, .lst [.str ("etc/" ++ who), .str "s", .str "z"], .int 2] μ = .ok (.lst (rs.map .str)) μ' := e
    simp [sp6e, h0, h1, l1, show 4 + who.length ≤ 1000000 by omega, e', wipeD]
    rw [lc]
    simp
  · have := List.mem_filter.mp hx
    exact of_decide_eq_true this.2
theorem sp7_ok (hw : who ∈ evN) {ks : List Str} (hρ : ρ.length = 21) (p : Pool μ l) (h0 : ρ[0]? = some (some (.hdl l))) (h9 : ρ[9]? = some (some (.lst (ks.map .str)))) : ∃ (ls : List (Str × Str)) (μ' : Mu), sp7e ρ μ = .ok (.lst ((ls.map (·.1)).map .str)) μ' ∧ Step l μ μ' ∧ ls.Sublist aMenu ∧ ∀ q ∈ ls, q.1 ∉ ks := by
  obtain ⟨rs, μ', e, s, hb⟩ := rising_drawn p (ss := aMenu.map (·.1)) (pw_of hw (.inr (.inr (.inl (List.Sublist.refl _))))) (by simp [aMenu]) 1
  have lc := out_lc (rs := rs) hρ h9 (by decide) μ'
  obtain ⟨ls, h1, h2⟩ := List.sublist_map_iff.mp ((List.filter_sublist (p := fun x => decide (x ∉ ks)) (l := rs)).trans hb)
  refine ⟨ls, μ', ?_, s, h1, fun q hq => ?_⟩
  · have e' : F_law_rising [.hdl l, .lst [.str "s", .str "t", .str "x/a", .str "y/d"], .int 1] μ = .ok (.lst (rs.map .str)) μ' := e
    rw [← h2]
    simp [sp7e, h0, e', wipeD]
    rw [lc]
    simp
  · have hm : q.1 ∈ rs.filter fun x => decide (x ∉ ks) := by rw [h2]; exact List.mem_map.mpr ⟨q, hq, rfl⟩
    exact of_decide_eq_true (List.mem_filter.mp hm).2
end
end DL02
namespace DL02
open PySem PySem.Spec PyProof.Rows L2 DL
section
variable {who : Str} {l : Nat} {ρ : En} {μ : Mu}
theorem cut_take (xs : List D) (k : Nat) : DL.cutD xs none (some (k : Int)) = xs.take k := by
  simp only [DL.cutD, HT.sIx_none, HT.sIx_nat, List.drop_zero, Nat.sub_zero]
  by_cases h : k ≤ xs.length
  · rw [Nat.min_eq_left h]
  · rw [Nat.min_eq_right (by omega), List.take_length, List.take_of_length_le (by omega)]
theorem far_s (μ : Mu) : dIx (.str "s") (.int (-1)) μ = .ok (.str "s") μ := by kernel_rfl
theorem far_t (μ : Mu) : dIx (.str "t") (.int (-1)) μ = .ok (.str "t") μ := by kernel_rfl
theorem far_a (μ : Mu) : dIx (.str "x/a") (.int (-1)) μ = .ok (.str "a") μ := by kernel_rfl
theorem far_d (μ : Mu) : dIx (.str "y/d") (.int (-1)) μ = .ok (.str "d") μ := by kernel_rfl
theorem far_at {q : Str × Str} (hq : q ∈ aMenu) (μ : Mu) : ∃ z : Str, dIx (.str q.1) (.int (-1)) μ = .ok (.str z) μ ∧ "far/" ++ z = q.2 ∧ z.length = 1 := by
  simp only [aMenu, List.mem_cons, List.not_mem_nil, or_false] at hq
  rcases hq with rfl | rfl | rfl | rfl
  · exact ⟨"s", far_s μ, by decide +kernel, by decide +kernel⟩
  · exact ⟨"t", far_t μ, by decide +kernel, by decide +kernel⟩
  · exact ⟨"a", far_a μ, by decide +kernel, by decide +kernel⟩
  · exact ⟨"d", far_d μ, by decide +kernel, by decide +kernel⟩
theorem sp8_ok {ls : List (Str × Str)} (hs : ls.Sublist aMenu) (hρ : ρ.length = 21) (h10 : ρ[10]? = some (some (.lst ((ls.map (·.1)).map .str)))) : sp8e ρ μ = .ok (.tup ((ls.take 3).map pp)) μ := by
  have hc := cut_take ((ls.map (·.1)).map D.str) 3
  have hc' : DL.cutD ((ls.map (·.1)).map D.str) none (some 3) = ((ls.take 3).map (·.1)).map D.str := by
    rw [List.map_take, List.map_take]
    exact hc
  have l1 : ("far/" : Str).length = 4 := by decide +kernel
  have hs3 : (ls.take 3).Sublist aMenu := (List.take_sublist 3 ls).trans hs
  generalize ls.take 3 = L at hc' hs3
  have key : ∀ L : List (Str × Str), L.Sublist aMenu → lcD (.nm 19) tyes (dtup (aCons (dvar 19) (aCons (dbin addX (dc (.str "far/")) (dbin dIx (dvar 19) (dneg (dc (.int 1))))) aNil))) (ρ.set 19 none) ((L.map (·.1)).map .str) μ = .ok (L.map pp) μ := by
    intro L
    induction L with
    | nil => intro _; simp
    | cons q L ih =>
      intro hL
      have hq : q ∈ aMenu := hL.subset (by simp)
      obtain ⟨z, e, e2, e3⟩ := far_at hq μ
      have i2 := ih ((List.sublist_cons_self q L).trans hL)
      have s19 : (ρ.set 19 (some (.str q.1)))[19]? = some (some (.str q.1)) := by simp [hρ]
      simp only [List.map_cons]
      rw [lcD]
      simp [s19, e, l1, e3, e2, pp]
      rw [show List.map (D.str ∘ fun x => x.fst) L = (L.map (·.1)).map D.str by simp, i2]
      simp [pp]
  have k := key L hs3
  simp only [sp8e, ap_callB, ap_aCons, ap_aNil, ap_lc, ap_itA, ap_sl, ap_var, h10, R.bind_ok, ap_onone, ap_osome, ap_dc, slD, hc', R.of_some, items_lst, wipeD, k]
  simp
theorem sp9_ok {L : List (Str × Str)} (hs : L.Sublist aMenu) (hρ : ρ.length = 21) (h11 : ρ[11]? = some (some (.tup (L.map pp)))) : sp9 ρ μ = .nx ρ μ := by
  have lc : lcD (.tp [.nm 19, .nm 20]) tyes (dvar 20) ((ρ.set 20 none).set 19 none) (L.map pp) μ = .ok ((L.map (·.2)).map .str) μ := by
    rw [lc_pure (fun d => match d with | .tup [x, y] => (((ρ.set 20 none).set 19 none).set 19 (some x)).set 20 (some y) | _ => []) (fun _ => true) (fun d => match d with | .tup [x, y] => y | _ => .non) (xs := L.map pp)]
    · simp [filt_true, pp, Function.comp_def]
    · intro q hq
      obtain ⟨z, _, rfl⟩ := List.mem_map.mp hq
      exact ⟨by simp [pp], by simp, fun _ => by simp [pp, hρ]⟩
  have hl : L.length ≤ 4 := hs.length_le
  have sl := setLen_nodup (far_nodup.sublist (hs.map (·.2))) (by simp; omega)
  have c : sp9c ρ μ = .ok false μ := by
    simp only [sp9c, ap_test, ap_bin, ap_lensetX, ap_lc, ap_itA, ap_var, h11, R.bind_ok, items_tup, R.of_some, wipeD, lc, sl]
    simp [bLen, lenD, seqD, h11]
  simp only [sp9, ap_gif, c, R.to_ok]
  simp
theorem strs_py {ss : List Str} (h : ∀ x ∈ ss, (x.cps.toList.all fun c => decide (c < 128)) = true) : ∃ ps, D.pys (ss.map .str) = some ps ∧ PyData.canLayAll0 ps = true ∧ PyData.depthAll ps = 0 ∧ ps.length = ss.length := by
  induction ss with
  | nil => exact ⟨[], by simp [D.pys], by simp [PyData.canLayAll0], by simp [PyData.depthAll], rfl⟩
  | cons x ss ih =>
    obtain ⟨ps, e, h1, h2, h3⟩ := ih fun y hy => h y (List.mem_cons_of_mem _ hy)
    exact ⟨.str x :: ps, by simp [D.pys, D.py, e], by simp [PyData.canLayAll0, str_lay (h x (by simp)), h1], by simp [PyData.depthAll, PyData.depth, h2], by simp [h3]⟩
theorem neX_nil {ss : List Str} (h : ∀ x ∈ ss, (x.cps.toList.all fun c => decide (c < 128)) = true) (μ : Mu) : dNeX (.lst (ss.map .str)) (.lst []) μ = .ok (.bl (!ss.isEmpty)) μ := by
  obtain ⟨ps, e, h1, h2, h3⟩ := strs_py h
  have e1 : (D.lst (ss.map .str)).py = some (.list ps) := by simp [D.py, e]
  have e2 : (D.lst []).py = some (.list []) := by simp [D.py, D.pys]
  have s1 : SeqAt.shaped (.list ps) = true := by simp [SeqAt.shaped, PyData.canLay0, h1, PyData.depth, h2]
  have s2 : SeqAt.shaped (.list []) = true := by decide +kernel
  unfold dNeX
  simp only [D.kd, e1, e2]
  rw [if_pos ⟨s1, s2⟩]
  cases ss with
  | nil =>
    cases ps with
    | nil => simp [PyData.eqv, PyData.eqvAll]
    | cons p ps => simp at h3
  | cons x ss =>
    cases ps with
    | nil => simp at h3
    | cons p ps => simp [PyData.eqv, PyData.eqvAll]
theorem menu_ascii : (evN.all fun w => (fMenu w).all fun x => x.cps.toList.all fun c => decide (c < 128)) = true := by decide +kernel
def bPick : FS := (gexpr (dbm "list" mAppend (dvar 12) (aCons (dtup (aCons (dvar 19) (aCons (dbin dIx (dvar 8) (dcall F_law_take [] (aCons (dvar 0) (aCons (dcallB bLen (aCons (dvar 8) aNil)) aNil)))) (aCons (dcall F_law_take [] (aCons (dvar 0) (aCons (dc (.int 3)) aNil))) aNil)))) aNil)))
theorem sp11_is : sp11 = gif sp11c (gfor (itA (dcall F_law_rising [] (aCons (dvar 0) (aCons (dlst (aCons (dc (.str "edit")) (aCons (dc (.str "view")) aNil))) (aCons (dc (.int 3)) aNil))))) (.nm 19) bPick) gnil := rfl
theorem sp11_ok (hw : who ∈ evN) {br : List Str} (hb : br.Sublist (fMenu who)) {μ0 : Mu} (i : In l μ0 μ) (hl : l < μ0.length) (hρ : ρ.length = 21) (h0 : ρ[0]? = some (some (.hdl l))) (h8 : ρ[8]? = some (some (.lst (br.map .str)))) {f : Nat} (hf0 : μ0.length ≤ f) (h12 : ρ[12]? = some (some (.hdl f))) (hf : μ[f]? = some (.lst [])) (h19 : ρ[19]? = some none) :
    ∃ (ps : List (Str × Str × Int)) (a19 : Option D) (μ' : Mu), sp11 ρ μ = .nx (ρ.set 19 a19) μ' ∧ In l μ0 μ' ∧ μ'[f]? = some (.lst (ps.map pc)) ∧ (ps.map (·.1)).Sublist cMenu ∧ ∀ q ∈ ps, q.2.1 ∈ br ∧ 0 ≤ q.2.2 ∧ q.2.2 ≤ 2 := by
  have asc := okT_at menu_ascii hw
  have c : sp11c ρ μ = .ok (!br.isEmpty) μ := by
    have := neX_nil (ss := br) (fun x hx => okT_at asc (hb.subset hx)) μ
    simp [sp11c, h8, this]
  rw [sp11_is]
  by_cases he : br = []
  · subst he
    have r19 : ρ.set 19 none = ρ := by
      apply List.ext_getElem?
      intro j
      by_cases hj : 19 = j
      · subst hj
        rw [List.getElem?_set_self (by omega), h19]
      · rw [List.getElem?_set_ne hj]
    exact ⟨[], none, μ, by simp [c, r19], i, hf, by simp, by simp⟩
  · obtain ⟨cs, μ1, e1, s1, hcs⟩ := rising_drawn i.pool (ss := cMenu) (pw_of hw (.inr (.inr (.inr (.inl (List.Sublist.refl _)))))) (by simp [cMenu]) 3
    have e1' : F_law_rising [.hdl l, .lst [.str "edit", .str "view"], .int 3] μ = .ok (.lst (cs.map .str)) μ1 := e1
    have i1 := i.step s1
    have hne : f ≠ l := by omega
    have f1 : μ1[f]? = some (.lst []) := by rw [s1.at_ _ hne]; exact hf
    have hlen : 0 < br.length := List.length_pos_iff.mpr he
    have hbl : br.length ≤ 5 := by have := hb.length_le; simpa [fMenu] using this
    obtain ⟨ρ', μ', e, a19, ps, rfl, i', f', h1, h2⟩ := for_list (t := .nm 19) (b := bPick) (xs := cs.map .str) (k := 0) (fun j ρ' μ' => ∃ a19 ps, ρ' = ρ.set 19 a19 ∧ In l μ0 μ' ∧ μ'[f]? = some (.lst (ps.map pc)) ∧ ps.map (·.1) = cs.take j ∧ ∀ q ∈ ps, q.2.1 ∈ br ∧ 0 ≤ q.2.2 ∧ q.2.2 ≤ 2)
      (ρ := ρ) (μ := μ1)
      (fun j x hx ρ1 μ2 ⟨a19, ps, hρ1, i2, f2, h1, h2⟩ => by
        subst hρ1
        rw [Nat.zero_add] at h1
        obtain ⟨z, hz, rfl⟩ : ∃ z, cs[j]? = some z ∧ x = .str z := by
          rw [List.getElem?_map] at hx
          cases hz : cs[j]? with
          | none => rw [hz] at hx; cases hx
          | some z => rw [hz] at hx; cases hx; exact ⟨z, rfl, rfl⟩
        obtain ⟨v, μ3, e3, v0, vb, s3⟩ := take_at i2.pool (br.length : Int) (by omega)
        obtain ⟨k, rfl⟩ := Int.eq_ofNat_of_zero_le v0
        have hk : k < br.length := by omega
        obtain ⟨u, μ4, e4, u0, u3, s4⟩ := take_at s3.pool 3 (by decide)
        have i4 := (i2.step s3).step s4
        have f4 : μ4[f]? = some (.lst (ps.map pc)) := by rw [s4.at_ _ hne, s3.at_ _ hne]; exact f2
        have lt4 : f < μ4.length := (List.getElem?_eq_some_iff.mp f4).1
        have a : atI (br.map D.str) (k : Int) = some (.str br[k]) := at_i k (by simp [hk])
        have r0 : ((ρ.set 19 a19).set 19 (some (.str z)))[0]? = some (some (.hdl l)) := by rw [set_at (by decide), set_at (by decide)]; exact h0
        have r8 : ((ρ.set 19 a19).set 19 (some (.str z)))[8]? = some (some (.lst (br.map .str))) := by rw [set_at (by decide), set_at (by decide)]; exact h8
        have r12 : ((ρ.set 19 a19).set 19 (some (.str z)))[12]? = some (some (.hdl f)) := by rw [set_at (by decide), set_at (by decide)]; exact h12
        have r19 : ((ρ.set 19 a19).set 19 (some (.str z)))[19]? = some (some (.str z)) := by simp [hρ]
        have hpl : ps.length ≤ 64 := by
          have : (ps.map (·.1)).length ≤ cs.length := by rw [h1]; simp; omega
          have hc2 := hcs.length_le
          simp [cMenu] at hc2
          simp at this
          omega
        refine ⟨(ρ.set 19 a19).set 19 (some (.str z)), (ρ.set 19 a19).set 19 (some (.str z)), μ4.set f (.lst ((ps ++ [(z, br[k], u)]).map pc)), asg_nm _ _ _, ?_, some (.str z), ps ++ [(z, br[k], u)], by simp, i4.set hl hf0 (lst_cl fun y hy n => ?_), by rw [List.getElem?_set_self lt4], ?_, fun q hq => ?_⟩
        · have ty : tyD "list" (.hdl f) μ2 = true := by simp [tyD, f2]
          simp only [bPick, ap_expr, ap_bm, ap_aCons, ap_aNil, ap_tup, ap_bin, ap_var, ap_call, ap_callB, ap_dc, r0, r8, r12, r19, R.bind_ok, ty]
          simp only [if_true, bLen, lenD, seqD]
          simp [e3, a, e4, f4, show ps.length < 1000000 by omega, pc]
        · obtain ⟨q, _, rfl⟩ := List.mem_map.mp hy
          simp [pc, D.closed, D.closedL]
        · rw [List.map_append, h1, show 0 + j + 1 = j + 1 by omega, List.take_succ, hz]
          simp
        · rcases List.mem_append.mp hq with hq | hq
          · exact h2 q hq
          · rw [List.mem_singleton.mp hq]
            exact ⟨List.getElem_mem _, u0, by show u ≤ 2; omega⟩) ⟨none, [], by
        apply List.ext_getElem?
        intro j
        by_cases hj : 19 = j
        · subst hj
          rw [List.getElem?_set_self (by omega), h19]
        · rw [List.getElem?_set_ne hj], i1, f1, by simp, by simp⟩
    refine ⟨ps, a19, μ', ?_, i', f', ?_, h2⟩
    · have hbe : br.isEmpty = false := by cases br with | nil => exact absurd rfl he | cons _ _ => rfl
      simp [c, hbe, h0, e1', e]
    · rw [h1]
      exact (List.take_sublist _ _).trans hcs
theorem sp12_ok (hw : who ∈ evN) (p : Pool μ l) (h0 : ρ[0]? = some (some (.hdl l))) : ∃ (ts : List Str) (μ' : Mu), sp12e ρ μ = .ok (.tup (ts.map .str)) μ' ∧ Step l μ μ' ∧ ts.Sublist kMenu := by
  obtain ⟨ts, μ', e, s, hb⟩ := rising_drawn p (ss := kMenu) (pw_of hw (.inr (.inr (.inr (.inr (List.Sublist.refl _)))))) (by simp [kMenu]) 4
  have e' : F_law_rising [.hdl l, .lst [.str "fonts", .str "menus"], .int 4] μ = .ok (.lst (ts.map .str)) μ' := e
  exact ⟨ts, μ', by simp [sp12e, h0, e'], s, hb⟩
theorem sp13_ok : sp13e ρ μ = .ok (.lst acts) μ := by simp [sp13e, acts]
theorem sp14_ok {μ0 : Mu} (i : In l μ0 μ) (hρ : ρ.length = 21) (h0 : ρ[0]? = some (some (.hdl l))) (h14 : ρ[14]? = some (some (.lst acts))) : ∃ (ds : List D) (μ' : Mu), sp14e ρ μ = .ok (.tup ds) μ' ∧ Step l μ μ' ∧ ds.Sublist acts := by
  obtain ⟨ys, zs, μ', e, s, sub, f2⟩ := lc_eff (t := .nm 19) (ft := dtest (dbin dEq (dcall F_law_take [] (aCons (dvar 0) (aCons (dc (.int 4)) aNil))) (dc (.int 0)))) (fe := dvar 19) (ρ := ρ.set 19 none) (Step l μ) (fun x y => y = x) (xs := acts) (μ := μ)
    (fun x hx μ1 s1 => by
      obtain ⟨v, μ2, e1, v0, v9, s2⟩ := take_at s1.pool 4 (by decide)
      have r0 : ((ρ.set 19 none).set 19 (some x))[0]? = some (some (.hdl l)) := by rw [set_at (by decide), set_at (by decide)]; exact h0
      have r19 : ((ρ.set 19 none).set 19 (some x))[19]? = some (some x) := by simp [hρ]
      exact ⟨_, decide (v = 0), μ2, asg_nm _ _ _, by simp only [ap_test, ap_bin, ap_call, ap_aCons, ap_aNil, ap_var, ap_dc, r0, R.bind_ok]; simp [e1], s1.trans s2, fun _ => ⟨x, μ2, by simp only [ap_var, r19], s1.trans s2, rfl⟩⟩) (Step.refl i.pool)
  rw [f2.eq] at e
  exact ⟨zs, μ', by simp [sp14e, h14, wipeD, e], s, sub⟩
theorem worths {k n : Nat} {fe : FE} {xs : List Str} (hn : 0 < n ∧ n < 1000) (hρ : ρ.length = 21) (p : Pool μ l) (h0 : ρ[0]? = some (some (.hdl l))) : ∃ (qs : List (Str × Int)) (μ' : Mu), lcD (.nm 19) tyes (dtup (aCons (dvar 19) (aCons (dcall F_law_take [] (aCons (dvar 0) (aCons (dc (.int n)) aNil))) aNil))) (ρ.set 19 none) (xs.map .str) μ = .ok (qs.map pw) μ' ∧ Step l μ μ' ∧ qs.map (·.1) = xs ∧ ∀ q ∈ qs, 0 ≤ q.2 ∧ q.2 < n := by
  induction xs generalizing μ with
  | nil => exact ⟨[], μ, by simp, Step.refl p, rfl, by simp⟩
  | cons x xs ih =>
    obtain ⟨v, μ1, e1, v0, v9, s1⟩ := take_at p (n : Int) (by omega)
    obtain ⟨qs, μ', e, s, h1, h2⟩ := ih s1.pool
    have r0 : ((ρ.set 19 none).set 19 (some (.str x)))[0]? = some (some (.hdl l)) := by rw [set_at (by decide), set_at (by decide)]; exact h0
    have r19 : ((ρ.set 19 none).set 19 (some (.str x)))[19]? = some (some (.str x)) := by simp [hρ]
    refine ⟨(x, v) :: qs, μ', ?_, s1.trans s, by simp [h1], fun q hq => ?_⟩
    · rw [List.map_cons, lcD, asg_nm]
      simp only [ap_tyes, R.nox_ok, R.bind_ok, if_true, ap_tup, ap_aCons, ap_aNil, ap_var, ap_call, ap_dc, r0, r19]
      simp [e1, e, pw]
    · rcases List.mem_cons.mp hq with rfl | hq
      · exact ⟨v0, v9⟩
      · exact h2 q hq
theorem sp15_ok {xs : List Str} (hρ : ρ.length = 21) (p : Pool μ l) (h0 : ρ[0]? = some (some (.hdl l))) (h8 : ρ[8]? = some (some (.lst (xs.map .str)))) : ∃ (qs : List (Str × Int)) (μ' : Mu), sp15e ρ μ = .ok (.tup (qs.map pw)) μ' ∧ Step l μ μ' ∧ qs.map (·.1) = xs ∧ ∀ q ∈ qs, 0 ≤ q.2 ∧ q.2 < 4 := by
  obtain ⟨qs, μ', e, s, h1, h2⟩ := worths (k := 0) (n := 4) (fe := dbad) (xs := xs) (by decide) hρ p h0
  exact ⟨qs, μ', by simp only [sp15e, ap_callB, ap_aCons, ap_aNil, ap_lc, ap_itA, ap_var, h8, R.bind_ok, items_lst, R.of_some, wipeD]; rw [show (4 : Int) = ((4 : Nat) : Int) from rfl, e]; simp, s, h1, h2⟩
theorem sp16_ok {xs : List Str} (hρ : ρ.length = 21) (p : Pool μ l) (h0 : ρ[0]? = some (some (.hdl l))) (h9 : ρ[9]? = some (some (.lst (xs.map .str)))) : ∃ (qs : List (Str × Int)) (μ' : Mu), sp16e ρ μ = .ok (.tup (qs.map pw)) μ' ∧ Step l μ μ' ∧ qs.map (·.1) = xs ∧ ∀ q ∈ qs, 0 ≤ q.2 ∧ q.2 < 3 := by
  obtain ⟨qs, μ', e, s, h1, h2⟩ := worths (k := 0) (n := 3) (fe := dbad) (xs := xs) (by decide) hρ p h0
  exact ⟨qs, μ', by simp only [sp16e, ap_callB, ap_aCons, ap_aNil, ap_lc, ap_itA, ap_var, h9, R.bind_ok, items_lst, R.of_some, wipeD]; rw [show (3 : Int) = ((3 : Nat) : Int) from rfl, e]; simp, s, h1, h2⟩
theorem sp17_ok (p : Pool μ l) (h0 : ρ[0]? = some (some (.hdl l))) : ∃ (y : Int) (μ' : Mu), sp17e ρ μ = .ok (.int y) μ' ∧ Step l μ μ' ∧ 1 ≤ y ∧ y ≤ 3 := by
  obtain ⟨v, μ1, e1, v0, v3, s1⟩ := take_at p 3 (by decide)
  exact ⟨1 + v, μ1, by simp [sp17e, h0, e1], s1, by omega, by omega⟩
end
end DL02
namespace DL02
open PySem PySem.Spec PyProof.Rows L2 DL
theorem spec_drawn {who : Str} (hw : who ∈ evN) {l : Nat} {μ : Mu} (p : Pool μ l) : ∃ (s : Sp) (μ' : Mu), F_law_spec [.hdl l, .str who, .lst (evN.map .str)] μ = .ok s.d μ' ∧ Step l μ μ' ∧ s.Ok ∧ s.who = who ∧ (∀ q ∈ s.files, q.2 ≤ 4) ∧ (∀ q ∈ s.tuned, q.2 ≤ 4) := by
  have hl := pool_lt p
  let E : List D := evN.map .str
  obtain ⟨d3, μ1, e0, s0, h3, h3l⟩ := sp0_ok (ρ := [some (.hdl l), some (.str who), some (.lst E), none, none, none, none, none, none, none, none, none, none, none, none, none, none, none, none, none, none]) hw p rfl rfl rfl
  obtain ⟨d4, μ2, e1, s1, h4, h4l⟩ := sp1_ok (ρ := [some (.hdl l), some (.str who), some (.lst E), some (.tup d3), none, none, none, none, none, none, none, none, none, none, none, none, none, none, none, none, none]) hw s0.pool rfl rfl rfl
  obtain ⟨r, μ3, e2, s2, hr⟩ := sp2_ok (ρ := [some (.hdl l), some (.str who), some (.lst E), some (.tup d3), some (.tup d4), none, none, none, none, none, none, none, none, none, none, none, none, none, none, none, none]) s1.pool rfl rfl
  obtain ⟨d6, μ4, e3, s3, h6, h6l⟩ := sp3_ok (ρ := [some (.hdl l), some (.str who), some (.lst E), some (.tup d3), some (.tup d4), some (.str r), none, none, none, none, none, none, none, none, none, none, none, none, none, none, none]) hw hr s2.pool rfl rfl rfl
  obtain ⟨own, μ5, e4, s4, ho⟩ := sp4_ok (ρ := [some (.hdl l), some (.str who), some (.lst E), some (.tup d3), some (.tup d4), some (.str r), some (.tup d6), none, none, none, none, none, none, none, none, none, none, none, none, none, none]) hw s3.pool rfl rfl
  obtain ⟨br, μ6, e5, s5, hb⟩ := sp5_ok (ρ := [some (.hdl l), some (.str who), some (.lst E), some (.tup d3), some (.tup d4), some (.str r), some (.tup d6), some (.lst (own.map .str)), none, none, none, none, none, none, none, none, none, none, none, none, none]) hw ho s4.pool rfl rfl
  obtain ⟨ks, μ7, e6, s6, hk, hkb⟩ := sp6_ok (ρ := [some (.hdl l), some (.str who), some (.lst E), some (.tup d3), some (.tup d4), some (.str r), some (.tup d6), some (.lst (own.map .str)), some (.lst (br.map .str)), none, none, none, none, none, none, none, none, none, none, none, none]) hw rfl s5.pool rfl rfl rfl
  obtain ⟨ls, μ8, e7, s7, hls, hlk⟩ := sp7_ok (ρ := [some (.hdl l), some (.str who), some (.lst E), some (.tup d3), some (.tup d4), some (.str r), some (.tup d6), some (.lst (own.map .str)), some (.lst (br.map .str)), some (.lst (ks.map .str)), none, none, none, none, none, none, none, none, none, none, none]) hw rfl s6.pool rfl rfl
  have e8 := sp8_ok (μ := μ8) (ρ := [some (.hdl l), some (.str who), some (.lst E), some (.tup d3), some (.tup d4), some (.str r), some (.tup d6), some (.lst (own.map .str)), some (.lst (br.map .str)), some (.lst (ks.map .str)), some (.lst ((ls.map (·.1)).map .str)), none, none, none, none, none, none, none, none, none, none]) hls rfl rfl
  have h3s : (ls.take 3).Sublist aMenu := (List.take_sublist 3 ls).trans hls
  have e9 := sp9_ok (μ := μ8) (ρ := [some (.hdl l), some (.str who), some (.lst E), some (.tup d3), some (.tup d4), some (.str r), some (.tup d6), some (.lst (own.map .str)), some (.lst (br.map .str)), some (.lst (ks.map .str)), some (.lst ((ls.map (·.1)).map .str)), some (.tup ((ls.take 3).map pp)), none, none, none, none, none, none, none, none, none]) h3s rfl rfl
  have sA : Step l μ μ8 := ((((((s0.trans s1).trans s2).trans s3).trans s4).trans s5).trans s6).trans s7
  have iA : In l μ (μ8 ++ [.lst []]) := ((In.refl p).step sA).app (one_cl (lst_cl fun z hz => by cases hz))
  have fl : μ8.length = μ.length := sA.len
  obtain ⟨ps, a19, μ9, e11, i9, f9, hps, hpq⟩ := sp11_ok (ρ := [some (.hdl l), some (.str who), some (.lst E), some (.tup d3), some (.tup d4), some (.str r), some (.tup d6), some (.lst (own.map .str)), some (.lst (br.map .str)), some (.lst (ks.map .str)), some (.lst ((ls.map (·.1)).map .str)), some (.tup ((ls.take 3).map pp)), some (.hdl μ8.length), none, none, none, none, none, none, none, none]) (f := μ8.length) hw hb iA hl rfl rfl rfl (by omega) rfl (by simp) rfl
  obtain ⟨ts, μ10, e12, s12, hts⟩ := sp12_ok (ρ := [some (.hdl l), some (.str who), some (.lst E), some (.tup d3), some (.tup d4), some (.str r), some (.tup d6), some (.lst (own.map .str)), some (.lst (br.map .str)), some (.lst (ks.map .str)), some (.lst ((ls.map (·.1)).map .str)), some (.tup ((ls.take 3).map pp)), some (.hdl μ8.length), none, none, none, none, none, none, a19, none]) hw i9.pool rfl
  have e13 := sp13_ok (μ := μ10) (ρ := [some (.hdl l), some (.str who), some (.lst E), some (.tup d3), some (.tup d4), some (.str r), some (.tup d6), some (.lst (own.map .str)), some (.lst (br.map .str)), some (.lst (ks.map .str)), some (.lst ((ls.map (·.1)).map .str)), some (.tup ((ls.take 3).map pp)), some (.hdl μ8.length), some (.tup (ts.map .str)), none, none, none, none, none, a19, none])
  obtain ⟨dn, μ11, e14, s14, hdn⟩ := sp14_ok (ρ := [some (.hdl l), some (.str who), some (.lst E), some (.tup d3), some (.tup d4), some (.str r), some (.tup d6), some (.lst (own.map .str)), some (.lst (br.map .str)), some (.lst (ks.map .str)), some (.lst ((ls.map (·.1)).map .str)), some (.tup ((ls.take 3).map pp)), some (.hdl μ8.length), some (.tup (ts.map .str)), some (.lst acts), none, none, none, none, a19, none]) (i9.step s12) rfl rfl rfl
  obtain ⟨fs, μ12, e15, s15, hfs, hfw⟩ := sp15_ok (ρ := [some (.hdl l), some (.str who), some (.lst E), some (.tup d3), some (.tup d4), some (.str r), some (.tup d6), some (.lst (own.map .str)), some (.lst (br.map .str)), some (.lst (ks.map .str)), some (.lst ((ls.map (·.1)).map .str)), some (.tup ((ls.take 3).map pp)), some (.hdl μ8.length), some (.tup (ts.map .str)), some (.lst acts), some (.tup dn), none, none, none, a19, none]) rfl s14.pool rfl rfl
  obtain ⟨us, μ13, e16, s16, hus, huw⟩ := sp16_ok (ρ := [some (.hdl l), some (.str who), some (.lst E), some (.tup d3), some (.tup d4), some (.str r), some (.tup d6), some (.lst (own.map .str)), some (.lst (br.map .str)), some (.lst (ks.map .str)), some (.lst ((ls.map (·.1)).map .str)), some (.tup ((ls.take 3).map pp)), some (.hdl μ8.length), some (.tup (ts.map .str)), some (.lst acts), some (.tup dn), some (.tup (fs.map pw)), none, none, a19, none]) rfl s15.pool rfl rfl
  obtain ⟨y, μ14, e17, s17, hy1, hy3⟩ := sp17_ok (ρ := [some (.hdl l), some (.str who), some (.lst E), some (.tup d3), some (.tup d4), some (.str r), some (.tup d6), some (.lst (own.map .str)), some (.lst (br.map .str)), some (.lst (ks.map .str)), some (.lst ((ls.map (·.1)).map .str)), some (.tup ((ls.take 3).map pp)), some (.hdl μ8.length), some (.tup (ts.map .str)), some (.lst acts), some (.tup dn), some (.tup (fs.map pw)), some (.tup (us.map pw)), none, a19, none]) s16.pool rfl
  have sB : Step l μ9 μ14 := (((s12.trans s14).trans s15).trans s16).trans s17
  have hne : μ8.length ≠ l := by omega
  have f14 : μ14[μ8.length]? = some (.lst (ps.map pc)) := by rw [sB.at_ _ hne]; exact f9
  have i14 := i9.step sB
  have hpl : ps.length ≤ 2 := by have := hps.length_le; simpa [cMenu] using this
  let s : Sp := ⟨who, y, d3, d4, d6, fs, us, ls.take 3, ps, ts, dn⟩
  have hcl : ∀ n, s.d.closed n = true := fun n => by
    have c3 : D.closedL n d3 = true := closed_of fun x hx => tm_cl (needB_tm (h3 x hx)) n
    have c4 : D.closedL n d4 = true := closed_of fun x hx => tm_cl (needB_tm (h4 x hx)) n
    have c6 : D.closedL n d6 = true := closed_of fun x hx => by
      have := h6 x hx
      unfold barB at this
      simp only [Bool.and_eq_true] at this
      exact tm_cl this.2.1 n
    have c1 : ∀ q : List (Str × Int), D.closedL n (q.map pw) = true := fun q => closed_of fun x hx => by
      obtain ⟨z, _, rfl⟩ := List.mem_map.mp hx
      simp [pw, D.closed, D.closedL]
    have c2 : ∀ q : List (Str × Str), D.closedL n (q.map pp) = true := fun q => closed_of fun x hx => by
      obtain ⟨z, _, rfl⟩ := List.mem_map.mp hx
      simp [pp, D.closed, D.closedL]
    have c5 : ∀ q : List (Str × Str × Int), D.closedL n (q.map pc) = true := fun q => closed_of fun x hx => by
      obtain ⟨z, _, rfl⟩ := List.mem_map.mp hx
      simp [pc, D.closed, D.closedL]
    have ca : ∀ z ∈ acts, z.closed n = true := fun z hz => by
      simp only [acts, List.mem_cons, List.not_mem_nil, or_false] at hz
      rcases hz with rfl | rfl | rfl | rfl <;> simp [D.closed, D.closedL]
    have cd : D.closedL n dn = true := closed_of fun x hx => ca x (hdn.subset hx)
    simp only [s, Sp.d, Sp.ps, D.closed, D.closedL, c3, c4, c6, c1, c2, c5, cd, strs_closed, Bool.and_true]
  have body : g_law_spec (startD 21 [.hdl l, .str who, .lst E]) μ = .rt s.d μ14 := by
    have st : startD 21 [.hdl l, .str who, .lst E] = [some (.hdl l), some (.str who), some (.lst E), none, none, none, none, none, none, none, none, none, none, none, none, none, none, none, none, none, none] := rfl
    rw [sp_is, st]
    have lf : (sp18 [some (.hdl l), some (.str who), some (.lst E), some (.tup d3), some (.tup d4), some (.str r), some (.tup d6), some (.lst (own.map .str)), some (.lst (br.map .str)), some (.lst (ks.map .str)), some (.lst ((ls.map (·.1)).map .str)), some (.tup ((ls.take 3).map pp)), some (.hdl μ8.length), some (.tup (ts.map .str)), some (.lst acts), some (.tup dn), some (.tup (fs.map pw)), some (.tup (us.map pw)), some (.int y), a19, none] μ14) = .rt s.d μ14 := by
      have tx := tupleX_hdl f14 (by simp; omega)
      simp only [sp18, sp18e]
      simp [tx, s, Sp.d, Sp.ps]
    simp only [ap_seq, sp0, ap_set, e0, R.to_ok, O.thn_nx, List.set_cons_succ, List.set_cons_zero, sp1, e1, sp2, e2, sp3, e3, sp4, e4, sp5, e5, sp6, e6, sp7, e7, sp8, e8, e9, sp10, sp10e, ap_cel, ap_aNil, R.bind_ok, List.length_nil, Nat.zero_le, if_true, e11, sp12, e12, sp13, e13, sp14, e14, sp15, e15, sp16, e16, sp17, e17, lf]
  obtain ⟨μ', ef, sf⟩ := call_step body (hcl 0) i14.pool hl i14.len i14.at_ hcl
  refine ⟨s, μ', ef, sf, ?_, rfl, fun q hq => by have := hfw q hq; omega, fun q hq => by have := huw q hq; omega⟩
  exact {
    who := hw
    year := ⟨hy1, by show y ≤ 4; omega⟩
    wants := ⟨h3, h3l⟩
    firsts := ⟨h4, h4l⟩
    bars := ⟨h6, h6l⟩
    files := ⟨by show (fs.map (·.1)).Sublist _; rw [hfs]; exact hb, fun q hq => by have := hfw q hq; omega⟩
    tuned := ⟨by show (us.map (·.1)).Sublist _; rw [hus]; exact hk, fun q hq => by have := huw q hq; omega, fun q hq => by
      show q.1 ∉ fs.map (·.1)
      rw [hfs]
      exact hkb q.1 (by rw [← hus]; exact List.mem_map.mpr ⟨q, hq, rfl⟩)⟩
    lines := ⟨h3s, by show (ls.take 3).length ≤ 3; simp; omega, fun q hq => by
      show q.1 ∉ us.map (·.1)
      rw [hus]
      exact hlk q (List.mem_of_mem_take hq)⟩
    picks := ⟨hps, fun q hq => by
      show q.2.1 ∈ fs.map (·.1) ∧ _
      rw [hfs]
      exact hpq q hq⟩
    told := hts
    done := hdn }
end DL02
namespace DL02
open PySem PySem.Spec PyProof.Rows L2 DL
section
variable {s t : Sp}
theorem ev_tm : (evN.all fun w => tm [8, 3, 3] (.str w) && (fMenu w ++ sMenu w).all fun p => tm [3] (.str p)) = true := by decide +kernel
theorem am_tm : (aMenu.all fun q => tm [3] (.str q.1) && tm [3] (.str q.2)) = true := by decide +kernel
theorem cm_tm : (cMenu.all fun q => tm [3] (.str q)) = true := by decide +kernel
theorem km_tm : (kMenu.all fun q => tm [3, 3] (.str q)) = true := by decide +kernel
theorem ac_tm : (acts.all fun q => tm [3, 3] q) = true := by decide +kernel
theorem pw_tm {l : List (Str × Int)} (hl : l.length ≤ 8) (h1 : ∀ q ∈ l, tm [3] (.str q.1) = true) (h2 : ∀ q ∈ l, 0 ≤ q.2 ∧ q.2 ≤ 5) : tm [8, 3, 3] (.tup (l.map pw)) = true := by
  simp only [tm, Bool.and_eq_true, decide_eq_true_eq, List.length_map, List.all_eq_true]
  refine ⟨hl, fun x hx => ?_⟩
  obtain ⟨q, hq, rfl⟩ := List.mem_map.mp hx
  have a := h1 q hq
  have b := h2 q hq
  have c : q.2.natAbs < 10 ^ 11 := by omega
  simp only [pw, tm, Bool.and_eq_true, decide_eq_true_eq, List.length_cons, List.length_nil, List.all_cons, List.all_nil, and_true] at a ⊢
  exact ⟨by decide, a, c⟩
theorem spec_tm (o : s.Ok) : Tm s.who s.year s.ps := by
  have e1 := okT_at ev_tm o.who
  simp only [Bool.and_eq_true] at e1
  obtain ⟨ew, em⟩ := e1
  have l1 : s.files.length ≤ 5 := by have := o.files.1.length_le; simpa [fMenu] using this
  have l2 : s.tuned.length ≤ 3 := by have := o.tuned.1.length_le; simpa [sMenu] using this
  have l3 : s.picks.length ≤ 2 := by have := o.picks.1.length_le; simpa [cMenu] using this
  have l4 : s.told.length ≤ 2 := by have := o.told.length_le; simpa [kMenu] using this
  have l5 : s.done.length ≤ 4 := by have := o.done.length_le; simpa [acts] using this
  have a1 : tm [8, 3, 3] (.int s.year) = true := by
    have := o.year
    simp only [tm, decide_eq_true_eq]
    omega
  have needs : ∀ ds : List D, (∀ x ∈ ds, needB s.who x = true) → ds.length ≤ 2 → tm [8, 3, 3] (.tup ds) = true := fun ds h hl => by
    rw [show tm [8, 3, 3] (.tup ds) = (decide (ds.length ≤ 8) && ds.all (tm [3, 3])) from rfl]
    simp only [Bool.and_eq_true, decide_eq_true_eq, List.all_eq_true]
    exact ⟨by omega, fun x hx => needB_tm (h x hx)⟩
  have a2 := needs s.wants o.wants.1 o.wants.2
  have a3 := needs s.firsts o.firsts.1 o.firsts.2
  have a4 : tm [8, 3, 3] (.tup s.bars) = true := by
    rw [show tm [8, 3, 3] (.tup s.bars) = (decide (s.bars.length ≤ 8) && s.bars.all (tm [3, 3])) from rfl]
    simp only [Bool.and_eq_true, decide_eq_true_eq, List.all_eq_true]
    refine ⟨by have := o.bars.2; omega, fun x hx => ?_⟩
    have := o.bars.1 x hx
    unfold barB at this
    simp only [Bool.and_eq_true] at this
    exact this.2.1
  have a5 := pw_tm (l := s.files) (by omega) (fun q hq => okT_at em (List.mem_append_left _ (o.files.1.subset (List.mem_map.mpr ⟨q, hq, rfl⟩)))) o.files.2
  have a6 := pw_tm (l := s.tuned) (by omega) (fun q hq => okT_at em (List.mem_append_right _ (o.tuned.1.subset (List.mem_map.mpr ⟨q, hq, rfl⟩)))) o.tuned.2.1
  have a7 : tm [8, 3, 3] (.tup (s.lines.map pp)) = true := by
    rw [show tm [8, 3, 3] (.tup (s.lines.map pp)) = (decide ((s.lines.map pp).length ≤ 8) && (s.lines.map pp).all (tm [3, 3])) from rfl]
    simp only [Bool.and_eq_true, decide_eq_true_eq, List.all_eq_true, List.length_map]
    refine ⟨by have := o.lines.2.1; omega, fun x hx => ?_⟩
    obtain ⟨q, hq, rfl⟩ := List.mem_map.mp hx
    have b := okT_at am_tm (o.lines.1.subset hq)
    simp only [Bool.and_eq_true] at b
    simp only [pp, tm, Bool.and_eq_true, decide_eq_true_eq, List.length_cons, List.length_nil, List.all_cons, List.all_nil, and_true] at b ⊢
    exact ⟨by decide, b.1, b.2⟩
  have a8 : tm [8, 3, 3] (.tup (s.picks.map pc)) = true := by
    rw [show tm [8, 3, 3] (.tup (s.picks.map pc)) = (decide ((s.picks.map pc).length ≤ 8) && (s.picks.map pc).all (tm [3, 3])) from rfl]
    simp only [Bool.and_eq_true, decide_eq_true_eq, List.all_eq_true, List.length_map]
    refine ⟨by omega, fun x hx => ?_⟩
    obtain ⟨q, hq, rfl⟩ := List.mem_map.mp hx
    have b1 := okT_at cm_tm (o.picks.1.subset (List.mem_map.mpr ⟨q, hq, rfl⟩))
    have b2 := okT_at em (List.mem_append_left _ (o.files.1.subset (o.picks.2 q hq).1))
    have b3 := (o.picks.2 q hq).2
    have b4 : q.2.2.natAbs < 10 ^ 11 := by omega
    simp only [pc, tm, Bool.and_eq_true, decide_eq_true_eq, List.length_cons, List.length_nil, List.all_cons, List.all_nil, and_true] at b1 b2 ⊢
    exact ⟨by decide, b1, b2, b4⟩
  have a9 : tm [8, 3, 3] (.tup (s.told.map .str)) = true := by
    rw [show tm [8, 3, 3] (.tup (s.told.map .str)) = (decide ((s.told.map D.str).length ≤ 8) && (s.told.map D.str).all (tm [3, 3])) from rfl]
    simp only [Bool.and_eq_true, decide_eq_true_eq, List.all_eq_true, List.length_map]
    refine ⟨by omega, fun x hx => ?_⟩
    obtain ⟨q, hq, rfl⟩ := List.mem_map.mp hx
    exact okT_at km_tm (o.told.subset hq)
  have a10 : tm [8, 3, 3] (.tup s.done) = true := by
    rw [show tm [8, 3, 3] (.tup s.done) = (decide (s.done.length ≤ 8) && s.done.all (tm [3, 3])) from rfl]
    simp only [Bool.and_eq_true, decide_eq_true_eq, List.all_eq_true]
    exact ⟨by omega, fun x hx => okT_at ac_tm (o.done.subset hx)⟩
  show tm [11, 8, 3, 3] (.tup (.str s.who :: .int s.year :: s.ps)) = true
  rw [show tm [11, 8, 3, 3] (.tup (.str s.who :: .int s.year :: s.ps)) = (decide ((D.str s.who :: .int s.year :: s.ps).length ≤ 11) && (D.str s.who :: .int s.year :: s.ps).all (tm [8, 3, 3])) from rfl]
  simp only [Sp.ps, List.all_cons, List.all_nil, ew, a1, a2, a3, a4, a5, a6, a7, a8, a9, a10]
  rfl
def Sp.obj (s : Sp) : D := objP (.str s.who) (.int s.year) s.ps
theorem spec_made (o : s.Ok) (μ : Mu) : F_law_made [s.d] μ = .ok s.obj μ := by
  have hw := o.who
  obtain ⟨b1, hs, b2, b3⟩ : _ ∧ ∃ hs : List Str, (∀ μ, F_heads_of [.tup s.bars] μ = .ok (.lst (hs.map .str)) μ) ∧ s.who ∉ hs := by
    have a := fun μ => bars_true hw o.bars.1 o.bars.2 μ
    obtain ⟨_, hs, e, hn⟩ := a []
    refine ⟨fun μ => (a μ).1, hs, fun μ => ?_, hn⟩
    obtain ⟨_, hs', e', _⟩ := a μ
    have hc : D.closedL 0 s.bars = true := by
      have := (spec_tm o).closed 0
      simp only [Sp.ps, D.closedL, D.closed, Bool.and_eq_true] at this
      exact this.2.2.2.2.1
    have ex : ∀ x ∈ s.bars, ∃ y r, x = .tup (y :: r) := fun x hx => by
      have := o.bars.1 x hx
      unfold barB at this
      simp only [Bool.and_eq_true] at this
      have b := this.2.2
      split at b
      · exact ⟨_, _, rfl⟩
      · cases b
    rw [heads_ok ex hc] at e
    rw [heads_ok ex hc]
    injection e with e1 e2
    rw [e1]
  have hy : ∀ μ, F_is_edition [.int s.year] μ = .ok (.bl true) μ := fun μ => by
    have h := o.year
    obtain ⟨k, hk⟩ : ∃ k : Nat, s.year = (k : Int) + 1 := ⟨(s.year - 1).toNat, by omega⟩
    rw [hk]
    exact okT_fr (F := callF 1 g_is_edition) (okT_at year_all (List.mem_range.mpr (show k < 4 by omega))) μ
  have cl : ∀ k, D.closedL k s.ps = true := fun k => by
    have := (spec_tm o).closed k
    simp only [D.closedL, Bool.and_eq_true] at this
    exact this.2.2
  refine made_ok (init_ok (hs := hs) (H3 := s.files.map (·.1)) (H4 := s.tuned.map (·.1)) (okT_fr (F := callF 2 g_is_name) (okT_at name_all hw)) hy (needs_true hw o.wants.1 o.wants.2) (needs_true hw o.firsts.1 o.firsts.2) b1 b2 b3 (rising_files hw (.inl o.files.1) o.files.2) (rising_files hw (.inr o.tuned.1) o.tuned.2.1) (pw_heads _) (pw_heads _) (fun x hx => ?_) (lines_true o) (picks_true o) (told_true o) (done_true o) (cl 1)) (cl 0) μ
  obtain ⟨q, hq, rfl⟩ := List.mem_map.mp hx
  exact o.tuned.2.2 q hq
theorem spec_right (o : s.Ok) (μ : Mu) : F_law_right [s.d] μ = .ok (.bl true) μ := right_ok (fun μ => spec_made o μ) (spec_tm o) μ
/-- two parcels are alike just where the specs are -/
theorem same_b (o : s.Ok) (o' : t.Ok) (μ : Mu) : ∃ b, eqP cC_Parcel F_Parcel_eq right_Parcel s.obj t.obj μ = .ok (.bl b) μ ∧ neP cC_Parcel F_Parcel_eq right_Parcel s.obj t.obj μ = .ok (.bl (!b)) μ ∧ eqP cC_Parcel F_Parcel_eq right_Parcel s.d t.d μ = .ok (.bl b) μ ∧ (b = true ↔ s.who = t.who ∧ s.year = t.year ∧ s.ps = t.ps) := by
  obtain ⟨b, eb, ib⟩ := eq_ok (spec_tm o) (spec_tm o') μ
  obtain ⟨b', eb', ib'⟩ := tm_dEq (spec_tm o) (spec_tm o') (by decide) μ
  have hbb : b' = b := by
    have : (b' = true) ↔ (b = true) := by
      rw [ib, ib']
      simp
    cases b <;> cases b' <;> simp_all
  subst hbb
  refine ⟨b', ?_, ?_, ?_, ib⟩
  · exact (eqP_obj _ _ _ _ _ _ _).trans eb
  · refine (neP_obj _ _ _ _ _ _ _).trans ?_
    rw [eb]
    rfl
  · exact (eqP_tups _ _ _).trans eb'
end
end DL02
namespace DL02
open PySem PySem.Spec PyProof.Rows L2 DL
def lw0e : FE := (dbin addX (dtup (aCons (dc (.str "a")) (aCons (dc (.int 1)) aNil))) (dbin mulX (dtup (aCons (dtup aNil) aNil)) (dc (.int 9))))
def lw0 : FS := gasg (.nm 1) lw0e
def lw1c : FT := (tor (tnot (dtest (dcall F_law_right [] (aCons (dcall F_law_great [] aNil) aNil)))) (tor (tnot (dtest (dcall F_law_right [] (aCons (dvar 1) aNil)))) (dtest (dbin (neP cC_Parcel F_Parcel_eq right_Parcel) (dmake (makeO cC_Parcel F_Parcel_init) [.tup [], .tup [], .tup [], .tup [], .tup [], .tup [], .tup [], .tup [], .tup []] (aCons (dc (.str "a")) (aCons (dc (.int 1)) aNil))) (dcall F_law_made [] (aCons (dvar 1) aNil))))))
def lw1 : FS := gif lw1c (gret (dc (.bl false))) gnil
def lw2i : FA := (itR1 (aCons (dcallB bMax (aCons (dc (.int 1)) (aCons (dcallB bMin (aCons (dc (.int 20)) (aCons (dcallB bLen (aCons (dvar 0) aNil)) aNil))) aNil))) aNil))
def lw2b : FS := (gseq (gasg (.nm 3) (dcall F_law_pool [] (aCons (dvar 0) (aCons (dvar 2) aNil)))) (gseq (gasg (.nm 4) (dlst (aCons (dc (.str "a")) (aCons (dc (.str "bb")) (aCons (dc (.str "c")) (aCons (dc (.str "d")) aNil)))))) (gseq (gasg (.nm 5) (dcall F_law_spec [] (aCons (dvar 3) (aCons (dbin dIx (dvar 4) (dcall F_law_take [] (aCons (dvar 3) (aCons (dc (.int 4)) aNil)))) (aCons (dvar 4) aNil))))) (gseq (gasg (.nm 6) (dcall F_law_spec [] (aCons (dvar 3) (aCons (dbin dIx (dvar 5) (dc (.int 0))) (aCons (dvar 4) aNil))))) (gseq (gif (tnot (dtest (dcall F_law_right [] (aCons (dvar 5) aNil)))) (gret (dc (.bl false))) gnil) (gseq (gfor (itR1 (aCons (dc (.int 11)) aNil)) (.nm 7) (gseq (gasg (.nm 10) (dbin addX (dbin addX (dsl (dvar 5) onone (osome (dvar 7))) (dtup (aCons (dbin dIx (dvar 6) (dvar 7)) aNil))) (dsl (dvar 5) (osome (dbin addX (dvar 7) (dc (.int 1)))) onone))) (gif (tand (dtest (dbin dNotIn (dvar 7) (dtup (aCons (dc (.int 5)) (aCons (dc (.int 6)) (aCons (dc (.int 7)) (aCons (dc (.int 8)) aNil))))))) (dtest (dbin (neP cC_Parcel F_Parcel_eq right_Parcel) (dbin (eqP cC_Parcel F_Parcel_eq right_Parcel) (dcall F_law_made [] (aCons (dvar 5) aNil)) (dcall F_law_made [] (aCons (dvar 10) aNil))) (dbin (eqP cC_Parcel F_Parcel_eq right_Parcel) (dvar 5) (dvar 10))))) (gret (dc (.bl false))) gnil))) (gseq (gasg (.nm 8) (dcallB bTupleX (aCons (dlc (itA (dbin dIx (dvar 5) (dc (.int 5)))) [12, 13] (.tp [(.nm 12), (.nm 13)]) tyes (dtup (aCons (dvar 12) (aCons (dbin addX (dvar 13) (dc (.int 1))) aNil)))) aNil))) (gseq (gasg (.nm 9) (dcallB bTupleX (aCons (dlc (itA (dbin dIx (dvar 5) (dc (.int 6)))) [12, 13] (.tp [(.nm 12), (.nm 13)]) tyes (dtup (aCons (dvar 12) (aCons (dbin addX (dvar 13) (dc (.int 1))) aNil)))) aNil))) (gseq (gfor (itA (dlst (aCons (dtup (aCons (dc (.int 5)) (aCons (dvar 8) aNil))) (aCons (dtup (aCons (dc (.int 6)) (aCons (dvar 9) aNil))) (aCons (dtup (aCons (dc (.int 7)) (aCons (dsl (dbin dIx (dvar 5) (dc (.int 7))) (osome (dc (.int 1))) onone) aNil))) (aCons (dtup (aCons (dc (.int 8)) (aCons (dsl (dbin dIx (dvar 5) (dc (.int 8))) onone (osome (dneg (dc (.int 1))))) aNil))) aNil)))))) (.tp [(.nm 7), (.nm 11)]) (gif (dtest (dbin (neP cC_Parcel F_Parcel_eq right_Parcel) (dbin (eqP cC_Parcel F_Parcel_eq right_Parcel) (dcall F_law_made [] (aCons (dvar 5) aNil)) (dcall F_law_made [] (aCons (dbin addX (dbin addX (dsl (dvar 5) onone (osome (dvar 7))) (dtup (aCons (dvar 11) aNil))) (dsl (dvar 5) (osome (dbin addX (dvar 7) (dc (.int 1)))) onone)) aNil))) (dbin (eqP cC_Parcel F_Parcel_eq right_Parcel) (dbin dIx (dvar 5) (dvar 7)) (dvar 11)))) (gret (dc (.bl false))) gnil)) (gseq (gif (dtest (dbin (neP cC_Parcel F_Parcel_eq right_Parcel) (dbin (eqP cC_Parcel F_Parcel_eq right_Parcel) (dcall F_law_made [] (aCons (dvar 5) aNil)) (dcall F_law_made [] (aCons (dvar 6) aNil))) (dbin (eqP cC_Parcel F_Parcel_eq right_Parcel) (dvar 5) (dvar 6)))) (gret (dc (.bl false))) gnil) (gif (dtest (dbin (eqP cC_Parcel F_Parcel_eq right_Parcel) (dbin (neP cC_Parcel F_Parcel_eq right_Parcel) (dcall F_law_made [] (aCons (dvar 5) aNil)) (dcall F_law_made [] (aCons (dvar 6) aNil))) (dbin (eqP cC_Parcel F_Parcel_eq right_Parcel) (dvar 5) (dvar 6)))) (gret (dc (.bl false))) gnil)))))))))))
def lw2 : FS := gfor lw2i (.nm 2) lw2b
def lw3e : FE := (dc (.bl true))
def lw3 : FS := gret lw3e
theorem lw_is : g_law = gseq lw0 (gseq lw1 (gseq lw2 lw3)) := rfl
def tu0e : FE := (dcall F_law_pool [] (aCons (dvar 0) (aCons (dvar 2) aNil)))
def tu0 : FS := gasg (.nm 3) tu0e
def tu1e : FE := (dlst (aCons (dc (.str "a")) (aCons (dc (.str "bb")) (aCons (dc (.str "c")) (aCons (dc (.str "d")) aNil)))))
def tu1 : FS := gasg (.nm 4) tu1e
def tu2e : FE := (dcall F_law_spec [] (aCons (dvar 3) (aCons (dbin dIx (dvar 4) (dcall F_law_take [] (aCons (dvar 3) (aCons (dc (.int 4)) aNil)))) (aCons (dvar 4) aNil))))
def tu2 : FS := gasg (.nm 5) tu2e
def tu3e : FE := (dcall F_law_spec [] (aCons (dvar 3) (aCons (dbin dIx (dvar 5) (dc (.int 0))) (aCons (dvar 4) aNil))))
def tu3 : FS := gasg (.nm 6) tu3e
def tu4c : FT := (tnot (dtest (dcall F_law_right [] (aCons (dvar 5) aNil))))
def tu4 : FS := gif tu4c (gret (dc (.bl false))) gnil
def tu5i : FA := (itR1 (aCons (dc (.int 11)) aNil))
def tu5b : FS := (gseq (gasg (.nm 10) (dbin addX (dbin addX (dsl (dvar 5) onone (osome (dvar 7))) (dtup (aCons (dbin dIx (dvar 6) (dvar 7)) aNil))) (dsl (dvar 5) (osome (dbin addX (dvar 7) (dc (.int 1)))) onone))) (gif (tand (dtest (dbin dNotIn (dvar 7) (dtup (aCons (dc (.int 5)) (aCons (dc (.int 6)) (aCons (dc (.int 7)) (aCons (dc (.int 8)) aNil))))))) (dtest (dbin (neP cC_Parcel F_Parcel_eq right_Parcel) (dbin (eqP cC_Parcel F_Parcel_eq right_Parcel) (dcall F_law_made [] (aCons (dvar 5) aNil)) (dcall F_law_made [] (aCons (dvar 10) aNil))) (dbin (eqP cC_Parcel F_Parcel_eq right_Parcel) (dvar 5) (dvar 10))))) (gret (dc (.bl false))) gnil))
def tu5 : FS := gfor tu5i (.nm 7) tu5b
def tu6e : FE := (dcallB bTupleX (aCons (dlc (itA (dbin dIx (dvar 5) (dc (.int 5)))) [12, 13] (.tp [(.nm 12), (.nm 13)]) tyes (dtup (aCons (dvar 12) (aCons (dbin addX (dvar 13) (dc (.int 1))) aNil)))) aNil))
def tu6 : FS := gasg (.nm 8) tu6e
def tu7e : FE := (dcallB bTupleX (aCons (dlc (itA (dbin dIx (dvar 5) (dc (.int 6)))) [12, 13] (.tp [(.nm 12), (.nm 13)]) tyes (dtup (aCons (dvar 12) (aCons (dbin addX (dvar 13) (dc (.int 1))) aNil)))) aNil))
def tu7 : FS := gasg (.nm 9) tu7e
def tu8i : FA := (itA (dlst (aCons (dtup (aCons (dc (.int 5)) (aCons (dvar 8) aNil))) (aCons (dtup (aCons (dc (.int 6)) (aCons (dvar 9) aNil))) (aCons (dtup (aCons (dc (.int 7)) (aCons (dsl (dbin dIx (dvar 5) (dc (.int 7))) (osome (dc (.int 1))) onone) aNil))) (aCons (dtup (aCons (dc (.int 8)) (aCons (dsl (dbin dIx (dvar 5) (dc (.int 8))) onone (osome (dneg (dc (.int 1))))) aNil))) aNil))))))
def tu8b : FS := (gif (dtest (dbin (neP cC_Parcel F_Parcel_eq right_Parcel) (dbin (eqP cC_Parcel F_Parcel_eq right_Parcel) (dcall F_law_made [] (aCons (dvar 5) aNil)) (dcall F_law_made [] (aCons (dbin addX (dbin addX (dsl (dvar 5) onone (osome (dvar 7))) (dtup (aCons (dvar 11) aNil))) (dsl (dvar 5) (osome (dbin addX (dvar 7) (dc (.int 1)))) onone)) aNil))) (dbin (eqP cC_Parcel F_Parcel_eq right_Parcel) (dbin dIx (dvar 5) (dvar 7)) (dvar 11)))) (gret (dc (.bl false))) gnil)
def tu8 : FS := gfor tu8i (.tp [(.nm 7), (.nm 11)]) tu8b
def tu9c : FT := (dtest (dbin (neP cC_Parcel F_Parcel_eq right_Parcel) (dbin (eqP cC_Parcel F_Parcel_eq right_Parcel) (dcall F_law_made [] (aCons (dvar 5) aNil)) (dcall F_law_made [] (aCons (dvar 6) aNil))) (dbin (eqP cC_Parcel F_Parcel_eq right_Parcel) (dvar 5) (dvar 6))))
def tu9 : FS := gif tu9c (gret (dc (.bl false))) gnil
def tu10c : FT := (dtest (dbin (eqP cC_Parcel F_Parcel_eq right_Parcel) (dbin (neP cC_Parcel F_Parcel_eq right_Parcel) (dcall F_law_made [] (aCons (dvar 5) aNil)) (dcall F_law_made [] (aCons (dvar 6) aNil))) (dbin (eqP cC_Parcel F_Parcel_eq right_Parcel) (dvar 5) (dvar 6))))
def tu10 : FS := gif tu10c (gret (dc (.bl false))) gnil
theorem tu_is : lw2b = gseq tu0 (gseq tu1 (gseq tu2 (gseq tu3 (gseq tu4 (gseq tu5 (gseq tu6 (gseq tu7 (gseq tu8 (gseq tu9 tu10))))))))) := rfl
def tv0e : FE := (dbin addX (dbin addX (dsl (dvar 5) onone (osome (dvar 7))) (dtup (aCons (dbin dIx (dvar 6) (dvar 7)) aNil))) (dsl (dvar 5) (osome (dbin addX (dvar 7) (dc (.int 1)))) onone))
def tv0 : FS := gasg (.nm 10) tv0e
def tv1c : FT := (tand (dtest (dbin dNotIn (dvar 7) (dtup (aCons (dc (.int 5)) (aCons (dc (.int 6)) (aCons (dc (.int 7)) (aCons (dc (.int 8)) aNil))))))) (dtest (dbin (neP cC_Parcel F_Parcel_eq right_Parcel) (dbin (eqP cC_Parcel F_Parcel_eq right_Parcel) (dcall F_law_made [] (aCons (dvar 5) aNil)) (dcall F_law_made [] (aCons (dvar 10) aNil))) (dbin (eqP cC_Parcel F_Parcel_eq right_Parcel) (dvar 5) (dvar 10)))))
def tv1 : FS := gif tv1c (gret (dc (.bl false))) gnil
theorem tv_is : tu5b = gseq tv0 tv1 := rfl
theorem cut_drop (xs : List D) (k : Nat) : DL.cutD xs (some (k : Int)) none = xs.drop k := by
  simp only [DL.cutD, HT.sIx_none, HT.sIx_nat]
  by_cases h : k ≤ xs.length
  · rw [Nat.min_eq_left h, List.take_of_length_le (by simp)]
  · rw [Nat.min_eq_right (by omega)]
    simp
    omega
def bend (s t : Sp) : Nat → Sp
  | 0 => { s with who := t.who }
  | 1 => { s with year := t.year }
  | 2 => { s with wants := t.wants }
  | 3 => { s with firsts := t.firsts }
  | 4 => { s with bars := t.bars }
  | 9 => { s with told := t.told }
  | 10 => { s with done := t.done }
  | _ => s
theorem bend_ok {s t : Sp} (o : s.Ok) (o' : t.Ok) (h : t.who = s.who) : ∀ n, (bend s t n).Ok
  | 0 => by
    have : bend s t 0 = s := by simp [bend, h]
    rw [this]; exact o
  | 1 => ⟨o.who, o'.year, o.wants, o.firsts, o.bars, o.files, o.tuned, o.lines, o.picks, o.told, o.done⟩
  | 2 => ⟨o.who, o.year, by have := o'.wants; rw [h] at this; exact this, o.firsts, o.bars, o.files, o.tuned, o.lines, o.picks, o.told, o.done⟩
  | 3 => ⟨o.who, o.year, o.wants, by have := o'.firsts; rw [h] at this; exact this, o.bars, o.files, o.tuned, o.lines, o.picks, o.told, o.done⟩
  | 4 => ⟨o.who, o.year, o.wants, o.firsts, by have := o'.bars; rw [h] at this; exact this, o.files, o.tuned, o.lines, o.picks, o.told, o.done⟩
  | 5 => o
  | 6 => o
  | 7 => o
  | 8 => o
  | 9 => ⟨o.who, o.year, o.wants, o.firsts, o.bars, o.files, o.tuned, o.lines, o.picks, o'.told, o.done⟩
  | 10 => ⟨o.who, o.year, o.wants, o.firsts, o.bars, o.files, o.tuned, o.lines, o.picks, o.told, o'.done⟩
  | n + 11 => o
section
variable {S B K a3 a4 a7 a8 a9 a10 a11 a12 a13 : Option D} {μ : Mu} {s t : Sp}
theorem tv0_at (n : Nat) (hn : n < 11) {x0 x1 x2 x3 x4 x5 x6 x7 x8 x9 x10 : D} {ys : List D} {y : D} (hy : ys[n]? = some y) : tv0e [S, B, K, a3, a4, some (.tup [x0, x1, x2, x3, x4, x5, x6, x7, x8, x9, x10]), some (.tup ys), some (.int n), a8, a9, a10, a11, a12, a13] μ = .ok (.tup ([x0, x1, x2, x3, x4, x5, x6, x7, x8, x9, x10].take n ++ [y] ++ [x0, x1, x2, x3, x4, x5, x6, x7, x8, x9, x10].drop (n + 1))) μ := by
  have c1 := cut_take [x0, x1, x2, x3, x4, x5, x6, x7, x8, x9, x10] n
  have c2 := cut_drop [x0, x1, x2, x3, x4, x5, x6, x7, x8, x9, x10] (n + 1)
  have c3 : ((n : Int) + 1) = ((n + 1 : Nat) : Int) := by omega
  have ai : atI ys (n : Int) = some y := at_i n hy
  generalize hX : [x0, x1, x2, x3, x4, x5, x6, x7, x8, x9, x10] = X at *
  have hl : X.length = 11 := by rw [← hX]; rfl
  simp only [tv0e, ap_bin, ap_sl, ap_var, ap_onone, ap_osome, ap_tup, ap_aCons, ap_aNil, ap_dc, List.getElem?_cons_succ, List.getElem?_cons_zero, R.bind_ok, slD, R.of_some, addX_int, c3, c1, c2, DL.ix_tup, ai]
  simp [hl]
  rw [if_pos (by omega)]
  simp [hl]
  omega
theorem tu5_step (o : s.Ok) (o' : t.Ok) (h : t.who = s.who) (n : Nat) (hn : n < 11) : ∃ b10, tu5b [S, B, K, a3, a4, some s.d, some t.d, some (.int n), a8, a9, a10, a11, a12, a13] μ = .nx [S, B, K, a3, a4, some s.d, some t.d, some (.int n), a8, a9, b10, a11, a12, a13] μ := by
  have main : ∀ (y : D) (c : Bool), (D.str t.who :: .int t.year :: t.ps)[n]? = some y → dNotIn (.int n) (.tup [.int 5, .int 6, .int 7, .int 8]) μ = .ok (.bl c) μ → (c = true → D.tup ((D.str s.who :: .int s.year :: s.ps).take n ++ [y] ++ (D.str s.who :: .int s.year :: s.ps).drop (n + 1)) = (bend s t n).d) →
      ∃ b10, tu5b [S, B, K, a3, a4, some s.d, some t.d, some (.int n), a8, a9, a10, a11, a12, a13] μ = .nx [S, B, K, a3, a4, some s.d, some t.d, some (.int n), a8, a9, b10, a11, a12, a13] μ := by
    intro y c hy hc hb
    have e0 := tv0_at (S := S) (B := B) (K := K) (a3 := a3) (a4 := a4) (a8 := a8) (a9 := a9) (a10 := a10) (a11 := a11) (a12 := a12) (a13 := a13) (μ := μ) n hn (x0 := .str s.who) (x1 := .int s.year) (x2 := .tup s.wants) (x3 := .tup s.firsts) (x4 := .tup s.bars) (x5 := .tup (s.files.map pw)) (x6 := .tup (s.tuned.map pw)) (x7 := .tup (s.lines.map pp)) (x8 := .tup (s.picks.map pc)) (x9 := .tup (s.told.map .str)) (x10 := .tup s.done) hy
    cases c with
    | false =>
      refine ⟨some (.tup ((D.str s.who :: .int s.year :: s.ps).take n ++ [y] ++ (D.str s.who :: .int s.year :: s.ps).drop (n + 1))), ?_⟩
      rw [tv_is]
      simp only [ap_seq, tv0, ap_set]
      have e0' : tv0e [S, B, K, a3, a4, some s.d, some t.d, some (.int n), a8, a9, a10, a11, a12, a13] μ = .ok (.tup ((D.str s.who :: .int s.year :: s.ps).take n ++ [y] ++ (D.str s.who :: .int s.year :: s.ps).drop (n + 1))) μ := e0
      rw [e0']
      simp only [R.to_ok, O.thn_nx, List.set_cons_succ, List.set_cons_zero, tv1, ap_gif, tv1c, ap_tand, ap_test, ap_bin, ap_var, ap_tup, ap_aCons, ap_aNil, ap_dc, List.getElem?_cons_succ, List.getElem?_cons_zero, R.bind_ok, List.length_cons, List.length_nil]
      simp [hc]
    | true =>
      refine ⟨some (bend s t n).d, ?_⟩
      have ob := bend_ok o o' h n
      obtain ⟨b, eb1, eb2, eb3, _⟩ := same_b o ob μ
      rw [tv_is]
      simp only [ap_seq, tv0, ap_set]
      have e0' : tv0e [S, B, K, a3, a4, some s.d, some t.d, some (.int n), a8, a9, a10, a11, a12, a13] μ = .ok (bend s t n).d μ := by
        rw [← hb rfl]
        exact e0
      rw [e0']
      have m1 := spec_made o μ
      have m2 := spec_made ob μ
      generalize (bend s t n).d = bd at *
      generalize s.d = sd at *
      simp only [R.to_ok, O.thn_nx, List.set_cons_succ, List.set_cons_zero, tv1, ap_gif, tv1c, ap_tand, ap_test, ap_bin, ap_var, ap_tup, ap_aCons, ap_aNil, ap_dc, ap_call, List.getElem?_cons_succ, List.getElem?_cons_zero, R.bind_ok, List.length_cons, List.length_nil]
      simp [hc, m1, m2, eb1, eb3, neP_bl]
  obtain rfl | rfl | rfl | rfl | rfl | rfl | rfl | rfl | rfl | rfl | rfl : n = 0 ∨ n = 1 ∨ n = 2 ∨ n = 3 ∨ n = 4 ∨ n = 5 ∨ n = 6 ∨ n = 7 ∨ n = 8 ∨ n = 9 ∨ n = 10 := by omega
  · exact main _ true rfl (by kernel_rfl) fun _ => rfl
  · exact main _ true rfl (by kernel_rfl) fun _ => rfl
  · exact main _ true rfl (by kernel_rfl) fun _ => rfl
  · exact main _ true rfl (by kernel_rfl) fun _ => rfl
  · exact main _ true rfl (by kernel_rfl) fun _ => rfl
  · exact main _ false rfl (by kernel_rfl) fun h => by cases h
  · exact main _ false rfl (by kernel_rfl) fun h => by cases h
  · exact main _ false rfl (by kernel_rfl) fun h => by cases h
  · exact main _ false rfl (by kernel_rfl) fun h => by cases h
  · exact main _ true rfl (by kernel_rfl) fun _ => rfl
  · exact main _ true rfl (by kernel_rfl) fun _ => rfl
end
end DL02
namespace DL02
open PySem PySem.Spec PyProof.Rows L2 DL
theorem cut_init (xs : List D) : DL.cutD xs none (some (-1)) = xs.take (xs.length - 1) := by
  have : HT.sIx xs.length xs.length (some (-1)) = xs.length - 1 := by
    simp [HT.sIx]
    omega
  simp only [DL.cutD, HT.sIx_none, this, List.drop_zero, Nat.sub_zero]
def inc (l : List (Str × Int)) : List (Str × Int) := l.map fun q => (q.1, q.2 + 1)
theorem inc_fst (l : List (Str × Int)) : (inc l).map (·.1) = l.map (·.1) := by simp [inc, Function.comp_def]
section
variable {S B K a3 a4 a6 a7 a8 a9 a10 a11 a12 a13 : Option D} {μ : Mu} {s t : Sp}
theorem inc_lc {ρ : En} (hρ : ρ.length = 14) (l : List (Str × Int)) : lcD (.tp [.nm 12, .nm 13]) tyes (dtup (aCons (dvar 12) (aCons (dbin addX (dvar 13) (dc (.int 1))) aNil))) ((ρ.set 13 none).set 12 none) (l.map pw) μ = .ok ((inc l).map pw) μ := by
  rw [lc_pure (fun d => match d with | .tup [x, y] => (((ρ.set 13 none).set 12 none).set 12 (some x)).set 13 (some y) | _ => []) (fun _ => true) (fun d => match d with | .tup [x, .int y] => .tup [x, .int (y + 1)] | _ => .non) (xs := l.map pw)]
  · simp [filt_true, pw, inc, Function.comp_def]
  · intro q hq
    obtain ⟨z, _, rfl⟩ := List.mem_map.mp hq
    refine ⟨by simp [pw], by simp, fun _ => ?_⟩
    have r13 : ((((ρ.set 13 none).set 12 none).set 12 (some (D.str z.1))).set 13 (some (D.int z.2)))[13]? = some (some (.int z.2)) := by simp [hρ]
    have r12 : ((((ρ.set 13 none).set 12 none).set 12 (some (D.str z.1))).set 13 (some (D.int z.2)))[12]? = some (some (.str z.1)) := by
      rw [List.getElem?_set_ne (by decide)]
      simp [hρ]
    simp only [pw, ap_tup, ap_aCons, ap_aNil, ap_bin, ap_var, ap_dc, r12, r13, R.bind_ok, addX_int]
    simp
theorem tu6_ok : tu6e [S, B, K, a3, a4, some s.d, a6, a7, a8, a9, a10, a11, a12, a13] μ = .ok (.tup ((inc s.files).map pw)) μ := by
  have a : dIx s.d (.int 5) μ = .ok (.tup (s.files.map pw)) μ := by
    rw [Sp.d, DL.ix_tup, show atI (D.str s.who :: .int s.year :: s.ps) 5 = some (.tup (s.files.map pw)) from at_i 5 rfl]
    rfl
  have lc := inc_lc (μ := μ) (ρ := [S, B, K, a3, a4, some s.d, a6, a7, a8, a9, a10, a11, a12, a13]) rfl s.files
  simp only [tu6e, ap_callB, ap_aCons, ap_aNil, ap_lc, ap_itA, ap_bin, ap_var, ap_dc, List.getElem?_cons_succ, List.getElem?_cons_zero, R.bind_ok, a, items_tup, R.of_some, wipeD, lc]
  simp
theorem tu7_ok : tu7e [S, B, K, a3, a4, some s.d, a6, a7, a8, a9, a10, a11, a12, a13] μ = .ok (.tup ((inc s.tuned).map pw)) μ := by
  have a : dIx s.d (.int 6) μ = .ok (.tup (s.tuned.map pw)) μ := by
    rw [Sp.d, DL.ix_tup, show atI (D.str s.who :: .int s.year :: s.ps) 6 = some (.tup (s.tuned.map pw)) from at_i 6 rfl]
    rfl
  have lc := inc_lc (μ := μ) (ρ := [S, B, K, a3, a4, some s.d, a6, a7, a8, a9, a10, a11, a12, a13]) rfl s.tuned
  simp only [tu7e, ap_callB, ap_aCons, ap_aNil, ap_lc, ap_itA, ap_bin, ap_var, ap_dc, List.getElem?_cons_succ, List.getElem?_cons_zero, R.bind_ok, a, items_tup, R.of_some, wipeD, lc]
  simp
def feBent : FE := (dbin addX (dbin addX (dsl (dvar 5) onone (osome (dvar 7))) (dtup (aCons (dvar 11) aNil))) (dsl (dvar 5) (osome (dbin addX (dvar 7) (dc (.int 1)))) onone))
theorem tu8b_is : tu8b = gif (dtest (dbin (neP cC_Parcel F_Parcel_eq right_Parcel) (dbin (eqP cC_Parcel F_Parcel_eq right_Parcel) (dcall F_law_made [] (aCons (dvar 5) aNil)) (dcall F_law_made [] (aCons feBent aNil))) (dbin (eqP cC_Parcel F_Parcel_eq right_Parcel) (dbin dIx (dvar 5) (dvar 7)) (dvar 11)))) (gret (dc (.bl false))) gnil := rfl
theorem feBent_at (n : Nat) (hn : n < 11) {x0 x1 x2 x3 x4 x5 x6 x7 x8 x9 x10 : D} {y : D} : feBent [S, B, K, a3, a4, some (.tup [x0, x1, x2, x3, x4, x5, x6, x7, x8, x9, x10]), a6, some (.int n), a8, a9, a10, some y, a12, a13] μ = .ok (.tup ([x0, x1, x2, x3, x4, x5, x6, x7, x8, x9, x10].take n ++ [y] ++ [x0, x1, x2, x3, x4, x5, x6, x7, x8, x9, x10].drop (n + 1))) μ := by
  have c1 := cut_take [x0, x1, x2, x3, x4, x5, x6, x7, x8, x9, x10] n
  have c2 := cut_drop [x0, x1, x2, x3, x4, x5, x6, x7, x8, x9, x10] (n + 1)
  have c3 : ((n : Int) + 1) = ((n + 1 : Nat) : Int) := by omega
  generalize hX : [x0, x1, x2, x3, x4, x5, x6, x7, x8, x9, x10] = X at *
  have hl : X.length = 11 := by rw [← hX]; rfl
  simp only [feBent, ap_bin, ap_sl, ap_var, ap_onone, ap_osome, ap_tup, ap_aCons, ap_aNil, ap_dc, List.getElem?_cons_succ, List.getElem?_cons_zero, R.bind_ok, slD, R.of_some, addX_int, c3, c1, c2]
  simp [hl]
  rw [if_pos (by omega)]
  simp [hl]
  omega
theorem tu8_step (o : s.Ok) {s' : Sp} (o' : s'.Ok) (n : Nat) (hn : n < 11) {xs ys : List D} (hx : (D.str s.who :: .int s.year :: s.ps)[n]? = some (.tup xs)) (hb : D.tup ((D.str s.who :: .int s.year :: s.ps).take n ++ [.tup ys] ++ (D.str s.who :: .int s.year :: s.ps).drop (n + 1)) = s'.d) (h1 : s.who = s'.who) (h2 : s.year = s'.year) (hi : s.ps = s'.ps ↔ xs = ys) (ty : D.tup ys ∈ s'.ps) :
    tu8b [S, B, K, a3, a4, some s.d, a6, some (.int n), a8, a9, a10, some (.tup ys), a12, a13] μ = .nx [S, B, K, a3, a4, some s.d, a6, some (.int n), a8, a9, a10, some (.tup ys), a12, a13] μ := by
  obtain ⟨b, eb1, eb2, eb3, ib⟩ := same_b o o' μ
  have m1 := spec_made o μ
  have m2 := spec_made o' μ
  have tmx : tm [8, 3, 3] (.tup xs) = true := by
    have h := spec_tm o
    have hm := List.mem_of_getElem? hx
    rw [Tm, show tm [11, 8, 3, 3] (.tup (.str s.who :: .int s.year :: s.ps)) = (decide ((D.str s.who :: .int s.year :: s.ps).length ≤ 11) && (D.str s.who :: .int s.year :: s.ps).all (tm [8, 3, 3])) from rfl, Bool.and_eq_true] at h
    exact okT_at h.2 hm
  have tmy : tm [8, 3, 3] (.tup ys) = true := by
    have h := spec_tm o'
    rw [Tm, show tm [11, 8, 3, 3] (.tup (.str s'.who :: .int s'.year :: s'.ps)) = (decide ((D.str s'.who :: .int s'.year :: s'.ps).length ≤ 11) && (D.str s'.who :: .int s'.year :: s'.ps).all (tm [8, 3, 3])) from rfl, Bool.and_eq_true] at h
    exact okT_at h.2 (by simp [ty])
  obtain ⟨b', eb', ib'⟩ := tm_dEq tmx tmy (by decide) μ
  have hbb : b' = b := by
    have : (b' = true) ↔ (b = true) := by
      rw [ib, ib']
      simp [h1, h2, hi]
    cases b <;> cases b' <;> simp_all
  subst hbb
  have e0 := feBent_at (S := S) (B := B) (K := K) (a3 := a3) (a4 := a4) (a6 := a6) (a8 := a8) (a9 := a9) (a10 := a10) (a12 := a12) (a13 := a13) (μ := μ) n hn (x0 := .str s.who) (x1 := .int s.year) (x2 := .tup s.wants) (x3 := .tup s.firsts) (x4 := .tup s.bars) (x5 := .tup (s.files.map pw)) (x6 := .tup (s.tuned.map pw)) (x7 := .tup (s.lines.map pp)) (x8 := .tup (s.picks.map pc)) (x9 := .tup (s.told.map .str)) (x10 := .tup s.done) (y := .tup ys)
  have e0' : feBent [S, B, K, a3, a4, some s.d, a6, some (.int n), a8, a9, a10, some (.tup ys), a12, a13] μ = .ok s'.d μ := by
    rw [← hb]
    exact e0
  have ax : dIx s.d (.int n) μ = .ok (.tup xs) μ := by
    rw [Sp.d, DL.ix_tup, at_i n hx]
    rfl
  rw [tu8b_is]
  generalize s'.d = bd at *
  generalize s.d = sd at *
  simp only [ap_gif, ap_test, ap_bin, ap_var, ap_aCons, ap_aNil, ap_dc, ap_call, List.getElem?_cons_succ, List.getElem?_cons_zero, R.bind_ok, e0', ax, List.append_nil, m1, m2, eb1, eqP_tups, eb', neP_bl]
  simp
theorem incF_ok (o : s.Ok) (h : ∀ q ∈ s.files, q.2 ≤ 4) : ({ s with files := inc s.files } : Sp).Ok := by
  have e := inc_fst s.files
  exact ⟨o.who, o.year, o.wants, o.firsts, o.bars, ⟨by show ((inc s.files).map (·.1)).Sublist _; rw [e]; exact o.files.1, fun q hq => by
      obtain ⟨z, hz, rfl⟩ := List.mem_map.mp hq
      have := o.files.2 z hz
      have := h z hz
      show 0 ≤ z.2 + 1 ∧ z.2 + 1 ≤ 5
      omega⟩, ⟨o.tuned.1, o.tuned.2.1, fun q hq => by show q.1 ∉ (inc s.files).map (·.1); rw [e]; exact o.tuned.2.2 q hq⟩, o.lines, ⟨o.picks.1, fun q hq => by show q.2.1 ∈ (inc s.files).map (·.1) ∧ _; rw [e]; exact o.picks.2 q hq⟩, o.told, o.done⟩
theorem incT_ok (o : s.Ok) (h : ∀ q ∈ s.tuned, q.2 ≤ 4) : ({ s with tuned := inc s.tuned } : Sp).Ok := by
  have e := inc_fst s.tuned
  exact ⟨o.who, o.year, o.wants, o.firsts, o.bars, o.files, ⟨by show ((inc s.tuned).map (·.1)).Sublist _; rw [e]; exact o.tuned.1, fun q hq => by
      obtain ⟨z, hz, rfl⟩ := List.mem_map.mp hq
      have := o.tuned.2.1 z hz
      have := h z hz
      show 0 ≤ z.2 + 1 ∧ z.2 + 1 ≤ 5
      omega, fun q hq => by
      have : q.1 ∈ (inc s.tuned).map (·.1) := List.mem_map.mpr ⟨q, hq, rfl⟩
      rw [e] at this
      obtain ⟨z, hz, hz2⟩ := List.mem_map.mp this
      rw [← hz2]
      exact o.tuned.2.2 z hz⟩, ⟨o.lines.1, o.lines.2.1, fun q hq => by show q.1 ∉ (inc s.tuned).map (·.1); rw [e]; exact o.lines.2.2 q hq⟩, o.picks, o.told, o.done⟩
theorem dropL_ok (o : s.Ok) : ({ s with lines := s.lines.drop 1 } : Sp).Ok :=
  ⟨o.who, o.year, o.wants, o.firsts, o.bars, o.files, o.tuned, ⟨(List.drop_sublist 1 s.lines).trans o.lines.1, by show (s.lines.drop 1).length ≤ 3; have := o.lines.2.1; simp; omega, fun q hq => o.lines.2.2 q (List.mem_of_mem_drop hq)⟩, o.picks, o.told, o.done⟩
theorem takeP_ok (o : s.Ok) : ({ s with picks := s.picks.take (s.picks.length - 1) } : Sp).Ok :=
  ⟨o.who, o.year, o.wants, o.firsts, o.bars, o.files, o.tuned, o.lines, ⟨((List.take_sublist _ s.picks).map (·.1)).trans o.picks.1, fun q hq => o.picks.2 q (List.mem_of_mem_take hq)⟩, o.told, o.done⟩
end
end DL02
namespace DL02
open PySem PySem.Spec PyProof.Rows L2 DL
section
variable {S B K a3 a4 a6 a7 a8 a9 a10 a11 a12 a13 : Option D} {μ : Mu} {s t : Sp}
theorem pwmap_inj {l l' : List (Str × Int)} : l.map pw = l'.map pw ↔ l = l' := by
  constructor
  · intro h
    have : ∀ (a b : List (Str × Int)), a.map pw = b.map pw → a = b := by
      intro a
      induction a with
      | nil => intro b hb; cases b with | nil => rfl | cons _ _ => simp at hb
      | cons x a ih =>
        intro b hb
        cases b with
        | nil => simp at hb
        | cons y b =>
          simp only [List.map_cons, List.cons.injEq] at hb
          obtain ⟨h1, h2⟩ := hb
          have := ih b h2
          simp [pw] at h1
          rw [this]
          congr 1
          exact Prod.ext h1.1 h1.2
    exact this l l' h
  · exact fun h => by rw [h]
theorem tu8_ok (o : s.Ok) (hf : ∀ q ∈ s.files, q.2 ≤ 4) (ht : ∀ q ∈ s.tuned, q.2 ≤ 4) : ∃ b7 b11, tu8 [S, B, K, a3, a4, some s.d, a6, a7, some (.tup ((inc s.files).map pw)), some (.tup ((inc s.tuned).map pw)), a10, a11, a12, a13] μ = .nx [S, B, K, a3, a4, some s.d, a6, b7, some (.tup ((inc s.files).map pw)), some (.tup ((inc s.tuned).map pw)), a10, b11, a12, a13] μ := by
  have a5 : dIx s.d (.int 7) μ = .ok (.tup (s.lines.map pp)) μ := by
    rw [Sp.d, DL.ix_tup, show atI (D.str s.who :: .int s.year :: s.ps) 7 = some (.tup (s.lines.map pp)) from at_i 7 rfl]
    rfl
  have a6' : dIx s.d (.int 8) μ = .ok (.tup (s.picks.map pc)) μ := by
    rw [Sp.d, DL.ix_tup, show atI (D.str s.who :: .int s.year :: s.ps) 8 = some (.tup (s.picks.map pc)) from at_i 8 rfl]
    rfl
  have c1 : DL.cutD (s.lines.map pp) (some 1) none = (s.lines.drop 1).map pp := by rw [cut_tail, List.map_drop]
  have c2 : DL.cutD (s.picks.map pc) none (some (-1)) = (s.picks.take (s.picks.length - 1)).map pc := by rw [cut_init, List.map_take, List.length_map]
  have it : tu8i [S, B, K, a3, a4, some s.d, a6, a7, some (.tup ((inc s.files).map pw)), some (.tup ((inc s.tuned).map pw)), a10, a11, a12, a13] μ = .ok [.tup [.int 5, .tup ((inc s.files).map pw)], .tup [.int 6, .tup ((inc s.tuned).map pw)], .tup [.int 7, .tup ((s.lines.drop 1).map pp)], .tup [.int 8, .tup ((s.picks.take (s.picks.length - 1)).map pc)]] μ := by
    generalize s.d = sd at *
    generalize (s.lines.drop 1).map pp = L7 at *
    generalize (s.picks.take (s.picks.length - 1)).map pc = L8 at *
    simp [tu8i, a5, a6', slD, c1, c2]
  have t5 := tu8_step (S := S) (B := B) (K := K) (a3 := a3) (a4 := a4) (a6 := a6) (a8 := some (.tup ((inc s.files).map pw))) (a9 := some (.tup ((inc s.tuned).map pw))) (a10 := a10) (a12 := a12) (a13 := a13) (μ := μ) o (incF_ok o hf) 5 (by decide) (xs := s.files.map pw) (ys := (inc s.files).map pw) rfl rfl rfl rfl (by simp [Sp.ps]) (by simp [Sp.ps])
  rw [show ((5 : Nat) : Int) = (5 : Int) from rfl] at t5
  have t6 := tu8_step (S := S) (B := B) (K := K) (a3 := a3) (a4 := a4) (a6 := a6) (a8 := some (.tup ((inc s.files).map pw))) (a9 := some (.tup ((inc s.tuned).map pw))) (a10 := a10) (a12 := a12) (a13 := a13) (μ := μ) o (incT_ok o ht) 6 (by decide) (xs := s.tuned.map pw) (ys := (inc s.tuned).map pw) rfl rfl rfl rfl (by simp [Sp.ps]) (by simp [Sp.ps])
  rw [show ((6 : Nat) : Int) = (6 : Int) from rfl] at t6
  have t7 := tu8_step (S := S) (B := B) (K := K) (a3 := a3) (a4 := a4) (a6 := a6) (a8 := some (.tup ((inc s.files).map pw))) (a9 := some (.tup ((inc s.tuned).map pw))) (a10 := a10) (a12 := a12) (a13 := a13) (μ := μ) o (dropL_ok o) 7 (by decide) (xs := s.lines.map pp) (ys := (s.lines.drop 1).map pp) rfl rfl rfl rfl (by simp [Sp.ps]) (by simp [Sp.ps])
  rw [show ((7 : Nat) : Int) = (7 : Int) from rfl] at t7
  have t8 := tu8_step (S := S) (B := B) (K := K) (a3 := a3) (a4 := a4) (a6 := a6) (a8 := some (.tup ((inc s.files).map pw))) (a9 := some (.tup ((inc s.tuned).map pw))) (a10 := a10) (a12 := a12) (a13 := a13) (μ := μ) o (takeP_ok o) 8 (by decide) (xs := s.picks.map pc) (ys := (s.picks.take (s.picks.length - 1)).map pc) rfl rfl rfl rfl (by simp [Sp.ps]) (by simp [Sp.ps])
  rw [show ((8 : Nat) : Int) = (8 : Int) from rfl] at t8
  refine ⟨some (.int 8), some (.tup ((s.picks.take (s.picks.length - 1)).map pc)), ?_⟩
  simp only [tu8, ap_for, it, R.to_ok]
  generalize s.d = sd at *
  rw [for_cons]
  simp only [asg_tp, asgL_cons, asg_nm, asgL_nil, Option.bind_some, List.set_cons_succ, List.set_cons_zero]
  rw [t5]
  simp only [O.pass_nx]
  rw [for_cons]
  simp only [asg_tp, asgL_cons, asg_nm, asgL_nil, Option.bind_some, List.set_cons_succ, List.set_cons_zero]
  rw [t6]
  simp only [O.pass_nx]
  rw [for_cons]
  simp only [asg_tp, asgL_cons, asg_nm, asgL_nil, Option.bind_some, List.set_cons_succ, List.set_cons_zero]
  rw [t7]
  simp only [O.pass_nx]
  rw [for_cons]
  simp only [asg_tp, asgL_cons, asg_nm, asgL_nil, Option.bind_some, List.set_cons_succ, List.set_cons_zero]
  rw [t8]
  simp only [O.pass_nx, for_nil]
theorem tu5_ok (o : s.Ok) (o' : t.Ok) (h : t.who = s.who) : ∃ b7 b10, tu5 [S, B, K, a3, a4, some s.d, some t.d, a7, a8, a9, a10, a11, a12, a13] μ = .nx [S, B, K, a3, a4, some s.d, some t.d, b7, a8, a9, b10, a11, a12, a13] μ := by
  obtain ⟨ρ', μ', e, b7, b10, hρ', hμ'⟩ := for_upto (t := .nm 7) (b := tu5b) (n := 11) (k := 0) (fun _ ρ' μ' => ∃ b7 b10, ρ' = [S, B, K, a3, a4, some s.d, some t.d, b7, a8, a9, b10, a11, a12, a13] ∧ μ' = μ) (ρ := [S, B, K, a3, a4, some s.d, some t.d, a7, a8, a9, a10, a11, a12, a13]) (μ := μ)
    (fun i _ hi ρ' μ' ⟨b7, b10, hρ, hμ⟩ => by
      subst hρ
      subst hμ
      obtain ⟨c10, ec⟩ := tu5_step (S := S) (B := B) (K := K) (a3 := a3) (a4 := a4) (a8 := a8) (a9 := a9) (a10 := b10) (a11 := a11) (a12 := a12) (a13 := a13) (μ := μ') o o' h i (by omega)
      exact ⟨_, _, _, asg_nm _ _ _, ec, _, _, rfl, rfl⟩) ⟨_, _, rfl, rfl⟩
  refine ⟨b7, b10, ?_⟩
  rw [hρ', hμ'] at e
  have e' : forD (.nm 7) tu5b (upto 0 11) [S, B, K, a3, a4, some s.d, some t.d, a7, a8, a9, a10, a11, a12, a13] μ = _ := e
  simp only [tu5, ap_for, tu5i, ap_itR1, ap_aCons, ap_aNil, ap_dc, R.bind_ok]
  simp [e']
theorem turn_ok (ns : List Int) (hns : ns.length ≤ 63) (k : Nat) (hk : k < 100) (hμ : AllC μ) : ∃ b3 b4 b5 b6 b7 b8 b9 b10 b11 μ2, lw2b [some (.lst (ns.map .int)), B, some (.int k), a3, a4, a6, a7, a8, a9, a10, a11, a12, a13, none] μ = .nx [some (.lst (ns.map .int)), B, some (.int k), b3, b4, b5, b6, b7, b8, b9, b10, b11, a13, none] μ2 ∧ AllC μ2 := by
  obtain ⟨μ1, e1, p1, m, hm⟩ := poolX_ok ns (by omega) k (by omega) μ hμ
  rw [← pool_is] at e1
  obtain ⟨v, μ2, e2, v0, v4, s2⟩ := take_at p1 4 (by decide)
  obtain ⟨j, rfl⟩ := Int.eq_ofNat_of_zero_le v0
  have hj : j < evN.length := by simp [evN]; omega
  have aw : atI (evN.map D.str) (j : Int) = some (.str evN[j]) := at_i j (by simp [hj])
  obtain ⟨s, μ3, e3, s3, o, hw, hf, ht⟩ := spec_drawn (List.getElem_mem hj) s2.pool
  obtain ⟨t, μ4, e4, s4, o', hw', _, _⟩ := spec_drawn o.who s3.pool
  obtain ⟨b7, b10, e5⟩ := tu5_ok (S := some (.lst (ns.map .int))) (B := B) (K := some (.int k)) (a3 := some (.hdl μ.length)) (a4 := some (.lst (evN.map .str))) (a7 := a8) (a8 := a9) (a9 := a10) (a10 := a11) (a11 := a12) (a12 := a13) (a13 := none) (μ := μ4) o o' hw'
  obtain ⟨c7, c11, e8⟩ := tu8_ok (S := some (.lst (ns.map .int))) (B := B) (K := some (.int k)) (a3 := some (.hdl μ.length)) (a4 := some (.lst (evN.map .str))) (a6 := some t.d) (a7 := b7) (a10 := b10) (a11 := a12) (a12 := a13) (a13 := none) (μ := μ4) o hf ht
  have e6 := tu6_ok (S := some (.lst (ns.map .int))) (B := B) (K := some (.int k)) (a3 := some (.hdl μ.length)) (a4 := some (.lst (evN.map .str))) (a6 := some t.d) (a7 := b7) (a8 := a9) (a9 := a10) (a10 := b10) (a11 := a12) (a12 := a13) (a13 := none) (μ := μ4) (s := s)
  have e7 := tu7_ok (S := some (.lst (ns.map .int))) (B := B) (K := some (.int k)) (a3 := some (.hdl μ.length)) (a4 := some (.lst (evN.map .str))) (a6 := some t.d) (a7 := b7) (a8 := some (.tup ((inc s.files).map pw))) (a9 := a10) (a10 := b10) (a11 := a12) (a12 := a13) (a13 := none) (μ := μ4) (s := s)
  have rt := spec_right o μ4
  have m1 := spec_made o μ4
  have m2 := spec_made o' μ4
  obtain ⟨b, eb1, eb2, eb3, _⟩ := same_b o o' μ4
  have i0 : dIx s.d (.int 0) μ3 = .ok (.str s.who) μ3 := by
    rw [Sp.d, DL.ix_tup, show atI (D.str s.who :: .int s.year :: s.ps) 0 = some (.str s.who) from at_i 0 rfl]
    rfl
  have ev : (D.lst [.str "a", .str "bb", .str "c", .str "d"]) = .lst (evN.map .str) := rfl
  refine ⟨some (.hdl μ.length), some (.lst (evN.map .str)), some s.d, some t.d, c7, some (.tup ((inc s.files).map pw)), some (.tup ((inc s.tuned).map pw)), b10, c11, μ4, ?_, (s4.pool).cl⟩
  rw [tu_is]
  generalize hev : evN.map D.str = EV at *
  generalize s.d = sd at *
  generalize t.d = td at *
  simp only [ap_seq, tu0, ap_set, tu0e, ap_call, ap_aCons, ap_aNil, ap_var, List.getElem?_cons_succ, List.getElem?_cons_zero, R.bind_ok, List.append_nil, e1, R.to_ok, O.thn_nx, List.set_cons_succ, List.set_cons_zero, tu1, tu1e, ap_lst, ap_dc, List.length_cons, List.length_nil, Nat.reduceAdd, Nat.reduceLeDiff, if_true, ev, tu2, tu2e, ap_bin, e2, DL.ix_lst, aw, R.of_some, e3, tu3, tu3e, i0, e4, tu4, ap_gif, tu4c, ap_tnot, ap_test, rt, Bool.not_true, Bool.false_eq_true, if_false, ap_nil, e5, tu6, e6, tu7, e7, e8, tu9, tu9c, m1, m2, eb1, eb2, eb3, neP_bl, decide_true, tu10, tu10c, eqP_bl]
  cases b <;> rfl
end
end DL02
namespace DL02
open PySem PySem.Spec PyProof.Rows L2 DL
def greatPs : List D := [(.tup [(.tup [(.tup [(.str "b"), (.int 999)]), (.tup [(.str "c"), (.int 1)]), (.tup [(.str "d"), (.int 5)])]), (.tup [(.tup [(.str "b"), (.int 999)]), (.tup [(.str "c"), (.int 1)]), (.tup [(.str "d"), (.int 5)])]), (.tup [(.tup [(.str "b"), (.int 999)]), (.tup [(.str "c"), (.int 1)]), (.tup [(.str "d"), (.int 5)])]), (.tup [(.tup [(.str "b"), (.int 999)]), (.tup [(.str "c"), (.int 1)]), (.tup [(.str "d"), (.int 5)])])]), (.tup [(.tup [(.tup [(.str "b"), (.int 999)]), (.tup [(.str "c"), (.int 1)]), (.tup [(.str "d"), (.int 5)])]), (.tup [(.tup [(.str "b"), (.int 999)]), (.tup [(.str "c"), (.int 1)]), (.tup [(.str "d"), (.int 5)])]), (.tup [(.tup [(.str "b"), (.int 999)]), (.tup [(.str "c"), (.int 1)]), (.tup [(.str "d"), (.int 5)])]), (.tup [(.tup [(.str "b"), (.int 999)]), (.tup [(.str "c"), (.int 1)]), (.tup [(.str "d"), (.int 5)])])]), (.tup [(.tup [(.str "b"), (.int 1), (.int 999)]), (.tup [(.str "b"), (.int 1), (.int 999)]), (.tup [(.str "b"), (.int 1), (.int 999)]), (.tup [(.str "b"), (.int 1), (.int 999)])]), (.tup [(.tup [(.str "a"), (.int 1000000000)]), (.tup [(.str "abcdefgh/abcdefgh/abcdefgh"), (.int 1000000000)]), (.tup [(.str "b/c"), (.int 1000000000)]), (.tup [(.str "d"), (.int 1000000000)]), (.tup [(.str "e"), (.int 1000000000)]), (.tup [(.str "f"), (.int 1000000000)]), (.tup [(.str "g"), (.int 1000000000)]), (.tup [(.str "h"), (.int 1000000000)])]), (.tup [(.tup [(.str "p"), (.int 0)]), (.tup [(.str "q"), (.int 0)]), (.tup [(.str "r"), (.int 0)]), (.tup [(.str "s"), (.int 0)]), (.tup [(.str "t"), (.int 0)]), (.tup [(.str "u"), (.int 0)]), (.tup [(.str "v"), (.int 0)]), (.tup [(.str "w"), (.int 0)])]), (.tup [(.tup [(.str "a"), (.str "z/a")]), (.tup [(.str "b/c"), (.str "z/b")]), (.tup [(.str "zz"), (.str "z/c")])]), (.tup [(.tup [(.str "x"), (.str "a"), (.int 99)]), (.tup [(.str "y"), (.str "a"), (.int 0)]), (.tup [(.str "z"), (.str "d"), (.int 5)])]), (.tup [(.str "a"), (.str "b"), (.str "c"), (.str "dd")]), (.tup [(.tup [(.str "ahead put"), (.str "n"), (.int 99)]), (.tup [(.str "behind set"), (.str "n"), (.int (-99))]), (.tup [(.str "ahead put"), (.str "n"), (.int 99)]), (.tup [(.str "behind set"), (.str "n"), (.int (-99))])])]
def greatD : D := .tup (.str "abcdefgh" :: .int 999 :: greatPs)
def greatO : D := objP (.str "abcdefgh") (.int 999) greatPs
theorem great_made (μ : Mu) : F_law_made [greatD] μ = .ok greatO μ := by kernel_rfl
theorem great_tm : Tm "abcdefgh" 999 greatPs := by decide +kernel
theorem great_right (μ : Mu) : F_law_right [greatD] μ = .ok (.bl true) μ := right_ok (fun μ => great_made μ) great_tm μ
def barePs : List D := [(.tup []), (.tup []), (.tup []), (.tup []), (.tup []), (.tup []), (.tup []), (.tup []), (.tup [])]
def bareD : D := .tup (.str "a" :: .int 1 :: barePs)
def bareO : D := objP (.str "a") (.int 1) barePs
theorem bare_made (μ : Mu) : F_law_made [bareD] μ = .ok bareO μ := by kernel_rfl
theorem bare_tm : Tm "a" 1 barePs := by decide +kernel
theorem bare_right (μ : Mu) : F_law_right [bareD] μ = .ok (.bl true) μ := right_ok (fun μ => bare_made μ) bare_tm μ
theorem great_is (μ : Mu) : F_law_great [] μ = .ok greatD μ := by kernel_rfl
theorem one_made : makeO cC_Parcel F_Parcel_init (fun x => (x :: [.str "a", .int 1]) ++ [.tup [], .tup [], .tup [], .tup [], .tup [], .tup [], .tup [], .tup [], .tup []]) [] = .ok bareO [] := by kernel_rfl
theorem one_ne : neP cC_Parcel F_Parcel_eq right_Parcel bareO bareO [] = .ok (.bl false) [] := by kernel_rfl
theorem mem_upto {x : D} : ∀ {n : Nat} {a : Int}, x ∈ upto a n → ∃ k : Int, x = .int k ∧ a ≤ k ∧ k < a + n
  | 0, a, h => by simp [upto] at h
  | n + 1, a, h => by
    simp [upto] at h
    rcases h with rfl | h
    · exact ⟨a, rfl, by omega, by omega⟩
    · obtain ⟨k, e, h1, h2⟩ := mem_upto h
      exact ⟨k, e, by omega, by omega⟩
theorem law_is (ns : List Int) (hns : ns.length ≤ 63) : ∃ μ', F_law [.lst (ns.map D.int)] [] = .ok (.bl true) μ' := by
  obtain ⟨n, hn, hn2⟩ : ∃ n : Int, (if (if (ns.length : Int) < 20 then (ns.length : Int) else 20) > 1 then (if (ns.length : Int) < 20 then (ns.length : Int) else 20) else 1) = n ∧ 0 ≤ n ∧ n ≤ 20 := ⟨_, rfl, by split <;> split <;> omega, by split <;> split <;> omega⟩
  obtain ⟨ρ', μ', e, hc, _⟩ := for_inv (t := .nm 2) (b := lw2b) (xs := upto 0 n.toNat) (fun ρ μ => AllC μ ∧ ∃ a2 a3 a4 a5 a6 a7 a8 a9 a10 a11 a12, ρ = [some (.lst (ns.map .int)), some bareD, a2, a3, a4, a5, a6, a7, a8, a9, a10, a11, a12, none]) (ρ := [some (.lst (ns.map .int)), some bareD, none, none, none, none, none, none, none, none, none, none, none, none]) (μ := [])
    (fun x hx ρ μ hi => by
      obtain ⟨hc, a2, a3, a4, a5, a6, a7, a8, a9, a10, a11, a12, rfl⟩ := hi
      obtain ⟨k, rfl, h1, h2⟩ := mem_upto hx
      obtain ⟨j, rfl⟩ := Int.eq_ofNat_of_zero_le h1
      obtain ⟨b3, b4, b5, b6, b7, b8, b9, b10, b11, μ2, e, c2⟩ := turn_ok (B := some bareD) (a3 := a3) (a4 := a4) (a6 := a5) (a7 := a6) (a8 := a7) (a9 := a8) (a10 := a9) (a11 := a10) (a12 := a11) (a13 := a12) ns hns j (by omega) hc
      exact ⟨_, _, μ2, asg_nm _ _ _, e, c2, _, _, _, _, _, _, _, _, _, _, _, rfl⟩) ⟨(fun m hm => by cases hm), _, _, _, _, _, _, _, _, _, _, _, rfl⟩
  have body : g_law (startD 14 [.lst (ns.map D.int)]) [] = .rt (.bl true) μ' := by
    rw [lw_is]
    have hb : n ≤ 1000000 ∧ -1000000 ≤ n := by omega
    have st : startD 14 [.lst (ns.map D.int)] = [some (.lst (ns.map .int)), none, none, none, none, none, none, none, none, none, none, none, none, none] := rfl
    have e0 : ∀ ρ : En, lw0e ρ [] = .ok bareD [] := fun ρ => by kernel_rfl
    have c1 : ∀ a2 a3 a4 a5 a6 a7 a8 a9 a10 a11 a12 a13 : Option D, lw1c [some (.lst (ns.map .int)), some bareD, a2, a3, a4, a5, a6, a7, a8, a9, a10, a11, a12, a13] [] = .ok false [] := by
      intros
      have g1 := great_right []
      have g2 := bare_right []
      have g3 := great_is []
      have g4 := bare_made []
      have g5 := one_made
      have g6 := one_ne
      generalize greatD = gd at *
      generalize bareD = bd at *
      generalize bareO = bo at *
      simp only [lw1c, ap_tor, ap_tnot, ap_test, ap_call, ap_aCons, ap_aNil, ap_var, ap_dc, ap_bin, ap_make, List.getElem?_cons_succ, List.getElem?_cons_zero, R.bind_ok, List.append_nil, g1, g2, g3, g4, g5, g6, Bool.not_true, Bool.false_eq_true, if_false]
    rw [st]
    simp only [ap_seq, lw0, ap_set, e0, R.to_ok, O.thn_nx, List.set_cons_succ, List.set_cons_zero, lw1, ap_gif, c1, Bool.false_eq_true, if_false, ap_nil, lw2, ap_for, lw2i, ap_itR1, ap_aCons, ap_callB, ap_dc, ap_aNil, ap_var, List.getElem?_cons_succ, List.getElem?_cons_zero, R.bind_ok]
    simp [bLen, lenD, seqD, bMin, bMax]
    simp at hn
    rw [hn]
    simp [hb, e, lw3, lw3e]
  unfold F_law
  rw [callF_eq _ _ _ _ _ _ body]
  exact ⟨_, by simp [trunc, D.closed, closedMu]; rfl⟩
end DL02
open PySem PySem.W PySem.Calls PyProof.Rows
theorem PySem.Challenge.cw_wholeparcels_k02_parcels_made_and_told_holds : PySem.Challenge.rw_wholeparcels_k02_parcels_made_and_told.Holds := by
  w_on; o_law
  refine HandSHeadRun.head_any (r := DL02.Rw) (q := view DL02.Rw.prog DL02.hview) (H := DL02.hk) (ob := DL02.hob) (M := 4000) (loose := DL02.hloose) (d := HandSHeadRun.topDef DL02.Rw.prog 47) (kwd := []) DL02.hob_eq
    (by kernel_rfl) (fun s => by kernel_rfl) DL02.hrun (by kernel_rfl) (by kernel_rfl) (by kernel_rfl) (by rfl) (by first | assumption | decide +kernel) (by decide +kernel) ⟨rfl, rfl, rfl, rfl, rfl, by decide +kernel⟩ ?hw ?hc
  case hw => w_witness2
  case hc =>
    refine DL.walk_g (l := PySem.Challenge.rw_wholeparcels_k02_parcels_made_and_told) (n := 63) (k := 14) (x := "_law_script") rfl (by decide) (by kernel_rfl) ⟨rfl, by decide, by decide⟩ ?F
    intro w mg fa h Y G hmg0
    obtain ⟨K, KX, c⟩ := Y
    have named : mg ("law" : PySem.Str) = some (.ref fa) := by
      have e : (HandSHeadRun.topDef DL02.Rw.prog 47).name = ("law" : PySem.Str) := by kernel_rfl
      rw [← e]
      exact hmg0
    have T := DL02.tops KX G c
    have e := named.symm.trans T.m_law
    cases e
    have b := L2.FunD.bindsA (ps := ["_law_script"]) T.F_law fun _ _ _ _ _ _ us hl => match us, hl with | [_], _ => rfl
    exact ⟨K, T.d_law, DL02.F_law, KX, fun s v => b s [v] rfl, fun base _ _ => DL02.ok_law T, fun ns hl _ => DL02.law_is ns hl⟩
