import PyProof.Rows.All
import Wide.All
import OpenK.AllK
import Wide.FinOn
import HandS.ForMost
import HandS.Exc
import HandS.WordsExc
import HandS.Defaults
import HandS.HeadHook1
import HandS.Text
import HandS.TupAny
import HandS.Zip
import HandS.Deep
import HandS.Small
import HandS.RaiseMore
import HandS.IsInst
import KE.KStateDown
import Lean
import HandS.More
import HandS.Head0
import HandS.Head1
import HandS.Head2
import HandS.HeadEnd
import HandS.HeadHook2
import HandS.EndBits
import HandS.Dict
import HandS.Codes
import PyProof.FitsReplace
import HandS.TupMul
import HandS.Strs
import PyProof.Rows.StrMeet
import HandS.CallLocal
import HandS.FStr
import HandS.SlotsOwn
import KE.KFmtOwn
import PyProof.InstEq
import HandS.HeadHook4
import HandS.WordsDict
import HandS.ExcInit
import HandS.ExcField
import HandS.ExcIs
import HandS.TryMany
import HandS.TryOnly
import KE.KExcInit
import PyProof.ExcBaseAll.RuntimeError
import PyProof.ExcBaseAll.LookupError
import KE.KExcIs
import KE.KEqNest
import PyProof.NeKinds
import HandS.DictComp
import HandS.Iter
import PySem.Challenge.RW_wholeparcels_k46_disc_refuses
set_option Elab.async false
set_option linter.all false
set_option maxRecDepth 100000
set_option maxHeartbeats 0
/-! DL0: data as trees and cells; what an expression, a statement is worth over them. -/
namespace DL
open PySem L2

/-- no exception is let out; one that does not look at the names -/
def E0 : WX := fun _ _ _ _ => False
abbrev lift (E : XK) : WX := fun c d _ H => E c d H
/-- a name as a number: its signs, by 256 -/
def signsOf : Nat → Nat → List Nat → List Nat
  | 0, _, acc => acc
  | f + 1, n, acc => if n = 0 then acc else signsOf f (n / 256) (n % 256 :: acc)
def nmC (n : Nat) : Str := ⟨(signsOf 64 n []).toArray⟩
/-- what the module's name with the number n stands for -/
def cl (K : PySem.W.Frag) (n : Nat) : Addr := He.ga K (nmC n)
/-- a datum: trees, and handles of cells; classes and defs by their names' numbers -/
inductive D where
  | non | bl (b : Bool) | int (i : Int) | str (x : Str)
  | tup (xs : List D) | lst (xs : List D)
  | hdl (l : Nat)
  | cst (v : V)
  | obj (C : Nat) (fs : List (Str × D))
  | glo (c : Nat)

/-- a cell -/
inductive MO where
  | lst (xs : List D)
  | dct (ks : List Key) (xs : List D)
  | dtt (ks : List (List Key)) (xs : List D)
  | ins (C : Nat) (ns : List Str) (xs : List D)
  | gone
abbrev Mu := List MO

/-- S: what never changes any more; io: where each cell stands -/
structure Wd where
  S : Hp
  io : List Addr

/-- a list that is to be read: tracked, locked, or one of the module's own -/
def Lq (K : PySem.W.Frag) (H : Hp) (a : Addr) (xs : List V) : Prop := Rd H a (.lst xs) ∨ ∃ (its : List Value) (n : Nat), K.lookup a = some { cls := .type "list", data := .seq its.toArray n } ∧ its.length ≤ sizeLine ∧ Vals xs its
mutual
inductive Rep (K : PySem.W.Frag) (W : Wd) : V → D → Prop
  | non : Rep K W .non .non
  | bl (b : Bool) : Rep K W (.bl b) (.bl b)
  | int (i : Int) : Rep K W (.int i) (.int i)
  | str (x : Str) : x.length ≤ sizeLine → Rep K W (.str x) (.str x)
  | tup {a : Addr} {xs : List V} {ds : List D} : ds.length ≤ sizeLine → SqT K W.S a xs → Reps K W xs ds → Rep K W (.ref a) (.tup ds)
  | lst {a : Addr} {xs : List V} {ds : List D} : ds.length ≤ sizeLine → Lq K W.S a xs → Reps K W xs ds → Rep K W (.ref a) (.lst ds)
  | hdl {a : Addr} {l : Nat} : W.io[l]? = some a → Rep K W (.ref a) (.hdl l)
  | cst (v : V) : Rep K W v (.cst v)
  | glo (c : Nat) : Rep K W (.ref (cl K c)) (.glo c)
  | obj {a dx : Addr} {C : Nat} {ns : List Str} {vs : List V} {ds : List D} : W.S a = some (.ins (cl K C) dx (ns.zip vs)) → ns.length = vs.length → Reps K W vs ds → Rep K W (.ref a) (.obj C (ns.zip ds))
inductive Reps (K : PySem.W.Frag) (W : Wd) : List V → List D → Prop
  | nil : Reps K W [] []
  | cons {v : V} {vs : List V} {d : D} {ds : List D} : Rep K W v d → Reps K W vs ds → Reps K W (v :: vs) (d :: ds)
end

theorem Reps.length {K : PySem.W.Frag} {W : Wd} : ∀ {vs : List V} {ds : List D}, Reps K W vs ds → vs.length = ds.length
  | _, _, .nil => rfl
  | _, _, .cons _ h => by rw [List.length_cons, List.length_cons, h.length]
theorem Reps.get {K : PySem.W.Frag} {W : Wd} : ∀ {vs : List V} {ds : List D} {i : Nat} {d : D}, Reps K W vs ds → ds[i]? = some d → ∃ v, vs[i]? = some v ∧ Rep K W v d
  | _, _, _, _, .nil, e => by simp at e
  | _, _, 0, _, .cons r _, e => by
    simp at e
    subst e
    exact ⟨_, rfl, r⟩
  | _, _, i + 1, d, .cons _ t, e => by
    obtain ⟨v, h1, h2⟩ := Reps.get (i := i) (d := d) t (by simpa using e)
    exact ⟨v, by simpa using h1, h2⟩
theorem Reps.getV {K : PySem.W.Frag} {W : Wd} : ∀ {vs : List V} {ds : List D} {i : Nat} {v : V}, Reps K W vs ds → vs[i]? = some v → ∃ d, ds[i]? = some d ∧ Rep K W v d
  | _, _, _, _, .nil, e => by simp at e
  | _, _, 0, _, .cons r _, e => by
    simp at e
    subst e
    exact ⟨_, rfl, r⟩
  | _, _, i + 1, v, .cons _ t, e => by
    obtain ⟨d, h1, h2⟩ := Reps.getV (i := i) (v := v) t (by simpa using e)
    exact ⟨d, by simpa using h1, h2⟩
theorem Reps.app {K : PySem.W.Frag} {W : Wd} : ∀ {vs us : List V} {ds es : List D}, Reps K W vs ds → Reps K W us es → Reps K W (vs ++ us) (ds ++ es)
  | _, _, _, _, .nil, s => s
  | _, _, _, _, .cons r t, s => .cons r (Reps.app t s)
theorem Reps.take {K : PySem.W.Frag} {W : Wd} : ∀ {vs : List V} {ds : List D} (n : Nat), Reps K W vs ds → Reps K W (vs.take n) (ds.take n)
  | _, _, 0, _ => .nil
  | _, _, _ + 1, .nil => .nil
  | _, _, n + 1, .cons r t => .cons r (Reps.take n t)
theorem Reps.drop {K : PySem.W.Frag} {W : Wd} : ∀ {vs : List V} {ds : List D} (n : Nat), Reps K W vs ds → Reps K W (vs.drop n) (ds.drop n)
  | _, _, 0, h => h
  | _, _, _ + 1, .nil => .nil
  | _, _, n + 1, .cons _ t => Reps.drop n t
theorem Reps.set {K : PySem.W.Frag} {W : Wd} {v : V} {d : D} (r : Rep K W v d) : ∀ {vs : List V} {ds : List D} (i : Nat), Reps K W vs ds → Reps K W (vs.set i v) (ds.set i d)
  | _, _, _, .nil => .nil
  | _, _, 0, .cons _ t => .cons r t
  | _, _, i + 1, .cons q t => .cons q (Reps.set r i t)

/-- W' knows all that W knows -/
structure Le (W W' : Wd) : Prop where
  s : Same W.S W'.S
  io : W.io <+: W'.io
theorem Le.refl (W : Wd) : Le W W := ⟨Same.refl _, List.prefix_refl _⟩
theorem Le.trans {W W1 W2 : Wd} (a : Le W W1) (b : Le W1 W2) : Le W W2 := ⟨a.s.trans b.s, a.io.trans b.io⟩
theorem prefix_get {l l' : List Addr} (h : l <+: l') {i : Nat} {a : Addr} (e : l[i]? = some a) : l'[i]? = some a := by
  obtain ⟨t, rfl⟩ := h
  rw [List.getElem?_append_left (List.getElem?_eq_some_iff.mp e).1]
  exact e
theorem same_rd {H H' : Hp} {a : Addr} {u : HO} (e : Same H H') (h : Rd H a u) : Rd H' a u := by
  rcases h with h | ⟨o, h⟩
  · exact .inl (e _ _ h)
  · exact .inr ⟨o, e _ _ h⟩
theorem same_lq {K : PySem.W.Frag} {H H' : Hp} {a : Addr} {xs : List V} (e : Same H H') (h : Lq K H a xs) : Lq K H' a xs := by
  rcases h with h | h
  · exact .inl (same_rd e h)
  · exact .inr h
theorem Lq.sq {K : PySem.W.Frag} {H : Hp} {a : Addr} {xs : List V} (h : Lq K H a xs) : SqL K H a xs := by
  rcases h with h | ⟨its, n, h1, h2, h3⟩
  · exact .inl h
  · exact .inr ⟨_, its.toArray, n, h1, rfl, rfl, rfl, by simpa using h2, by simpa using h3⟩
theorem Lq.isL {X : Cx} {pins : List (Addr × Obj)} {σ : St} {H : Hp} {s : Shared} {a : Addr} {xs : List V} (h : Lq X.K H a xs) (I : Inv X pins σ H s) : ∃ (its : List Value) (n : Nat), Vals xs its ∧ s.heap.get? a = some { cls := .type "list", data := .seq its.toArray n } := by
  rcases h with h | ⟨its, n, h1, h2, h3⟩
  · obtain ⟨z, its, n, r, e⟩ := h.ok I.hok
    exact ⟨its, n, r, e⟩
  · exact ⟨its, n, h3, I.kIn _ _ h1⟩
theorem same_l {K : PySem.W.Frag} {H H' : Hp} {a : Addr} {xs : List V} (e : Same H H') (h : SqL K H a xs) : SqL K H' a xs := e.seq h
theorem same_t {K : PySem.W.Frag} {H H' : Hp} {a : Addr} {xs : List V} (e : Same H H') (h : SqT K H a xs) : SqT K H' a xs := by
  rcases h with (h | ⟨o, h⟩) | h
  · exact .inl (.inl (e _ _ h))
  · exact .inl (.inr ⟨o, e _ _ h⟩)
  · exact .inr h
mutual
theorem Rep.mono {K : PySem.W.Frag} {W W' : Wd} (l : Le W W') : ∀ {v : V} {d : D}, Rep K W v d → Rep K W' v d
  | _, _, .non => .non
  | _, _, .bl b => .bl b
  | _, _, .int i => .int i
  | _, _, .str x z => .str x z
  | _, _, .tup z h r => .tup z (same_t l.s h) (Reps.mono l r)
  | _, _, .lst z h r => .lst z (same_lq l.s h) (Reps.mono l r)
  | _, _, .hdl h => .hdl (prefix_get l.io h)
  | _, _, .cst v => .cst v
  | _, _, .glo c => .glo c
  | _, _, .obj h n r => .obj (l.s _ _ h) n (Reps.mono l r)
theorem Reps.mono {K : PySem.W.Frag} {W W' : Wd} (l : Le W W') : ∀ {vs : List V} {ds : List D}, Reps K W vs ds → Reps K W' vs ds
  | _, _, .nil => .nil
  | _, _, .cons r t => .cons (Rep.mono l r) (Reps.mono l t)
end

/-- what stands at a cell's place -/
def CellO (K : PySem.W.Frag) (W : Wd) : MO → HO → Prop
  | .lst ds, o => ∃ vs, o = .lst vs ∧ Reps K W vs ds
  | .dct ks ds, o => ∃ vs, o = .dK (ks.zip vs) ∧ ks.length = vs.length ∧ Reps K W vs ds
  | .dtt ks ds, o => ∃ vs, o = .dT (ks.zip vs) ∧ ks.length = vs.length ∧ Reps K W vs ds
  | .ins C ns ds, o => ∃ dx vs, o = .ins (cl K C) dx (ns.zip vs) ∧ ns.length = vs.length ∧ Reps K W vs ds
  | .gone, o => ∀ fs, o ≠ .xd fs
theorem CellO.mono {K : PySem.W.Frag} {W W' : Wd} (l : Le W W') : ∀ {m : MO} {o : HO}, CellO K W m o → CellO K W' m o
  | .lst ds, _, ⟨vs, e, r⟩ => ⟨vs, e, r.mono l⟩
  | .dct ks ds, _, ⟨vs, e, n, r⟩ => ⟨vs, e, n, r.mono l⟩
  | .dtt ks ds, _, ⟨vs, e, n, r⟩ => ⟨vs, e, n, r.mono l⟩
  | .ins C ns ds, _, ⟨dx, vs, e, n, r⟩ => ⟨dx, vs, e, n, r.mono l⟩
  | .gone, _, h => h
theorem CellO.notxd {K : PySem.W.Frag} {W : Wd} : ∀ {m : MO} {o : HO}, CellO K W m o → ∀ fs, o ≠ .xd fs
  | .lst ds, _, ⟨vs, e, r⟩, fs => by rw [e]; exact fun z => nomatch z
  | .dct ks ds, _, ⟨vs, e, n, r⟩, fs => by rw [e]; exact fun z => nomatch z
  | .dtt ks ds, _, ⟨vs, e, n, r⟩, fs => by rw [e]; exact fun z => nomatch z
  | .ins C ns ds, _, ⟨dx, vs, e, n, r⟩, fs => by rw [e]; exact fun z => nomatch z
  | .gone, _, h, fs => h fs
def CellIs (K : PySem.W.Frag) (W : Wd) (H : Hp) (a : Addr) (m : MO) : Prop := ∃ o, H a = some o ∧ CellO K W m o
theorem CellIs.mono {K : PySem.W.Frag} {W W' : Wd} {H H' : Hp} {a : Addr} (l : Le W W') (h : ∀ o, H a = some o → H' a = some o) {m : MO} : CellIs K W H a m → CellIs K W' H' a m
  | ⟨o, e, r⟩ => ⟨o, h _ e, r.mono l⟩

structure Ok (K : PySem.W.Frag) (W : Wd) (H : Hp) (μ : Mu) : Prop where
  sub : Same W.S H
  len : W.io.length = μ.length
  nd : W.io.Nodup
  apart : ∀ (l : Nat) a o, W.io[l]? = some a → μ[l]? = some o → o ≠ .gone → W.S a = none
  cell : ∀ (l : Nat) a o, W.io[l]? = some a → μ[l]? = some o → CellIs K W H a o

/-- from (W, H) to (W', H') -/
structure Go (W : Wd) (H : Hp) (W' : Wd) (H' : Hp) : Prop where
  le : Le W W'
  kept : ∀ a o, H a = some o → a ∉ W.io → H' a = some o
  grow : ∀ a, H' a = none → H a = none
  newio : ∀ a, a ∈ W'.io → a ∈ W.io ∨ H a = none
  newS : ∀ a o, W'.S a = some o → W.S a = some o ∨ H a = none ∨ a ∈ W.io
theorem Go.refl (W : Wd) (H : Hp) : Go W H W H := ⟨Le.refl W, fun _ _ h _ => h, fun _ h => h, fun _ h => .inl h, fun _ _ h => .inl h⟩
theorem Go.trans {W W1 W2 : Wd} {H H1 H2 : Hp} (a : Go W H W1 H1) (b : Go W1 H1 W2 H2) : Go W H W2 H2 where
  le := a.le.trans b.le
  kept := fun x o h n => b.kept x o (a.kept x o h n) fun z => by
    rcases a.newio x z with z | z
    · exact n z
    · rw [h] at z; cases z
  grow := fun x h => a.grow x (b.grow x h)
  newio := fun x h => by
    rcases b.newio x h with h | h
    · exact a.newio x h
    · exact .inr (a.grow x h)
  newS := fun x o h => by
    rcases b.newS x o h with h | h | h
    · exact a.newS x o h
    · exact .inr (.inl (a.grow x h))
    · rcases a.newio x h with h | h
      · exact .inr (.inr h)
      · exact .inr (.inl h)

/-- the environment by slots -/
abbrev En := List (Option D)
structure Envs (K : PySem.W.Frag) (W : Wd) (σ : St) (ρ : En) : Prop where
  len : ρ.length = σ.length
  at_ : ∀ (i : Nat) d, ρ[i]? = some (some d) → ∃ v, σ[i]? = some (some v) ∧ Rep K W v d
theorem Envs.mono {K : PySem.W.Frag} {W W' : Wd} {σ : St} {ρ : En} (l : Le W W') (h : Envs K W σ ρ) : Envs K W' σ ρ := ⟨h.len, fun i d e => by
  obtain ⟨v, h1, h2⟩ := h.at_ i d e
  exact ⟨v, h1, h2.mono l⟩⟩
theorem Envs.set {K : PySem.W.Frag} {W : Wd} {σ : St} {ρ : En} {v : V} {d : D} (h : Envs K W σ ρ) (r : Rep K W v d) (i : Nat) : Envs K W (σ.set i (some v)) (ρ.set i (some d)) := ⟨by simp [h.len], fun j e he => by
  by_cases hj : i = j
  · subst hj
    by_cases hl : i < ρ.length
    · rw [List.getElem?_set_self hl] at he
      cases he
      exact ⟨v, List.getElem?_set_self (by rw [← h.len]; exact hl), r⟩
    · rw [List.getElem?_eq_none (by simp; omega)] at he
      cases he
  · rw [List.getElem?_set_ne hj] at he
    obtain ⟨u, h1, h2⟩ := h.at_ j e he
    exact ⟨u, by rw [List.getElem?_set_ne hj]; exact h1, h2⟩⟩
theorem Envs.unset {K : PySem.W.Frag} {W : Wd} {σ : St} {ρ : En} (h : Envs K W σ ρ) (x : Option V) (i : Nat) : Envs K W (σ.set i x) (ρ.set i none) := ⟨by simp [h.len], fun j e he => by
  by_cases hj : i = j
  · subst hj
    by_cases hl : i < ρ.length
    · rw [List.getElem?_set_self hl] at he
      cases he
    · rw [List.getElem?_eq_none (by simp; omega)] at he
      cases he
  · rw [List.getElem?_set_ne hj] at he
    obtain ⟨u, h1, h2⟩ := h.at_ j e he
    exact ⟨u, by rw [List.getElem?_set_ne hj]; exact h1, h2⟩⟩

/-- what comes out -/
inductive R (α : Type) where
  | ok (a : α) (μ : Mu)
  | ex (c : Nat) (fs : List (Str × D)) (μ : Mu)
  | bad
def R.bind {α β : Type} : R α → (α → Mu → R β) → R β
  | .ok a μ, k => k a μ
  | .ex c fs μ, _ => .ex c fs μ
  | .bad, _ => .bad
@[simp] theorem R.bind_ok {α β : Type} (a : α) (μ : Mu) (k : α → Mu → R β) : (R.ok a μ).bind k = k a μ := of_eq_true (eq_self _)
@[simp] theorem R.bind_ex {α β : Type} (c : Nat) (fs : List (Str × D)) (μ : Mu) (k : α → Mu → R β) : (R.ex c fs μ : R α).bind k = .ex c fs μ := of_eq_true (eq_self _)
@[simp] theorem R.bind_bad {α β : Type} (k : α → Mu → R β) : (R.bad : R α).bind k = .bad := of_eq_true (eq_self _)
/-- a pure answer, or none -/
def R.of {α : Type} (o : Option α) (μ : Mu) : R α := match o with
  | some a => .ok a μ
  | none => .bad
@[simp] theorem R.of_some {α : Type} (a : α) (μ : Mu) : R.of (some a) μ = .ok a μ := of_eq_true (eq_self _)
@[simp] theorem R.of_none {α : Type} (μ : Mu) : (R.of none μ : R α) = .bad := of_eq_true (eq_self _)

/-- an exception as it lies in the heap: its own dict's address (none: it has no field) -/
def ExcIs (K : PySem.W.Frag) (W : Wd) (H : Hp) (fs : List (Str × D)) (d : Option Addr) : Prop :=
  (fs = [] ∧ d = none) ∨ ∃ (a : Addr) (ns : List Str) (vs : List V) (ds : List D), d = some a ∧ H a = some (.xd (ns.zip vs)) ∧ fs = ns.zip ds ∧ ns.length = vs.length ∧ Reps K W vs ds ∧ W.S a = none ∧ a ∉ W.io

def post {α : Type} (K : PySem.W.Frag) (E : XK) (W : Wd) (H : Hp) (Rp : Wd → V → α → Prop) (r : R α) (Q : VK) : Prop := match r with
  | .ok d μ => ∀ W' v H', Go W H W' H' → Ok K W' H' μ → Rp W' v d → Q v H'
  | .ex c fs μ => ∀ W' H' d, Go W H W' H' → Ok K W' H' μ → ExcIs K W' H' fs d → E (.ref (cl K c)) d H'
  | .bad => False
abbrev postE (K : PySem.W.Frag) (E : XK) (W : Wd) (H : Hp) (r : R D) (Q : VK) : Prop := post K E W H (fun W v d => Rep K W v d) r Q
theorem post.mono {α : Type} {K : PySem.W.Frag} {E : XK} {W W1 : Wd} {H H1 : Hp} {Rp : Wd → V → α → Prop} {r : R α} {Q : VK} (g : Go W H W1 H1) (h : post K E W H Rp r Q) : post K E W1 H1 Rp r Q := by
  cases r with
  | ok d μ => exact fun W' v H' g' o r => h W' v H' (g.trans g') o r
  | ex c fs μ => exact fun W' H' d g' o r => h W' H' d (g.trans g') o r
  | bad => exact h

abbrev FE := En → Mu → R D
def rE (K : PySem.W.Frag) (E : WX) (f : FE) : TE := fun σ H Q => ∃ W ρ μ, Ok K W H μ ∧ Envs K W σ ρ ∧ postE K (WE E σ) W H (f ρ μ) Q
abbrev DE (X : Cx) (E : WX) (e : Expr) (f : FE) : Prop := PE X e (rE X.K E f)
theorem pe_imp {X : Cx} {e : Expr} {t t' : TE} (h : PE X e t) (i : ∀ σ H Q, t' σ H Q → t σ H Q) : PE X e t' := ⟨fun pins s σ H Q I q => h.run pins s σ H Q I (i σ H Q q)⟩
theorem ps_imp {X : Cx} {e : Stmt} {t t' : TS} (h : PS X e t) (i : ∀ D σ H, t' D σ H → t D σ H) : PS X e t' := ⟨fun pins s σ H D I q => h.run pins s σ H D I (i D σ H q)⟩
theorem pss_imp {X : Cx} {e : List Stmt} {t t' : TS} (h : PSs X e t) (i : ∀ D σ H, t' D σ H → t D σ H) : PSs X e t' := ⟨fun pins s σ H D I q => h.run pins s σ H D I (i D σ H q)⟩
theorem pa_imp {X : Cx} {e : List Expr} {t t' : TA} (h : PA X e t) (i : ∀ σ H Q, t' σ H Q → t σ H Q) : PA X e t' := ⟨fun pos pins s σ H Q I q => h.run pos pins s σ H Q I (i σ H Q q)⟩
theorem pt_imp {X : Cx} {e : Expr} {t t' : TT} (h : PT X e t) (i : ∀ σ H Q, t' σ H Q → t σ H Q) : PT X e t' := ⟨fun pins s σ H Q I q => h.run pins s σ H Q I (i σ H Q q)⟩
theorem pw_imp {X : Cx} {e : Expr} {t t' : TT} (h : PW X e t) (i : ∀ σ H Q, t' σ H Q → t σ H Q) : PW X e t' := ⟨fun wh pins s σ H Q I q => h.run wh pins s σ H Q I (i σ H Q q)⟩

/-- one part, then what follows -/
theorem seq {β : Type} {K : PySem.W.Frag} {E : WX} {fa : FE} {k : D → Mu → R β} {Rp : Wd → V → β → Prop} {σ : St} {H : Hp} {W : Wd} {ρ : En} {μ : Mu} {Q Q1 : VK} (p : post K (WE E σ) W H Rp ((fa ρ μ).bind k) Q) (ok : Ok K W H μ) (en : Envs K W σ ρ)
    (hk : ∀ d μ1 W1 x H1, Go W H W1 H1 → Ok K W1 H1 μ1 → Envs K W1 σ ρ → Rep K W1 x d → post K (WE E σ) W1 H1 Rp (k d μ1) Q → Q1 x H1) : rE K E fa σ H Q1 := by
  refine ⟨W, ρ, μ, ok, en, ?_⟩
  revert p
  cases h : fa ρ μ with
  | ok d μ1 => exact fun p W1 x H1 g o r => hk d μ1 W1 x H1 g o (en.mono g.le) r (post.mono g p)
  | ex c fs μ1 => exact fun p => p
  | bad => exact fun p => p

/-! ### tests -/
abbrev FT := En → Mu → R Bool
def postT (K : PySem.W.Frag) (E : XK) (W : Wd) (H : Hp) (r : R Bool) (Q : Bool → Hp → Prop) : Prop := match r with
  | .ok b μ => ∀ W' H', Go W H W' H' → Ok K W' H' μ → Q b H'
  | .ex c fs μ => ∀ W' H' d, Go W H W' H' → Ok K W' H' μ → ExcIs K W' H' fs d → E (.ref (cl K c)) d H'
  | .bad => False
theorem postT.mono {K : PySem.W.Frag} {E : XK} {W W1 : Wd} {H H1 : Hp} {r : R Bool} {Q : Bool → Hp → Prop} (g : Go W H W1 H1) (h : postT K E W H r Q) : postT K E W1 H1 r Q := by
  cases r with
  | ok d μ => exact fun W' H' g' o => h W' H' (g.trans g') o
  | ex c fs μ => exact fun W' H' d g' o r => h W' H' d (g.trans g') o r
  | bad => exact h
def rT (K : PySem.W.Frag) (E : WX) (f : FT) : TT := fun σ H Q => ∃ W ρ μ, Ok K W H μ ∧ Envs K W σ ρ ∧ postT K (WE E σ) W H (f ρ μ) Q
abbrev DT (X : Cx) (E : WX) (e : Expr) (f : FT) : Prop := PT X e (rT X.K E f)
abbrev DW (X : Cx) (E : WX) (e : Expr) (f : FT) : Prop := PW X e (rT X.K E f)

/-! ### argument lists -/
abbrev FA := En → Mu → R (List D)
def postA (K : PySem.W.Frag) (E : XK) (W : Wd) (H : Hp) (r : R (List D)) (Q : List V → Hp → Prop) : Prop := match r with
  | .ok ds μ => ∀ W' vs H', Go W H W' H' → Ok K W' H' μ → Reps K W' vs ds → Q vs H'
  | .ex c fs μ => ∀ W' H' d, Go W H W' H' → Ok K W' H' μ → ExcIs K W' H' fs d → E (.ref (cl K c)) d H'
  | .bad => False
theorem postA.mono {K : PySem.W.Frag} {E : XK} {W W1 : Wd} {H H1 : Hp} {r : R (List D)} {Q : List V → Hp → Prop} (g : Go W H W1 H1) (h : postA K E W H r Q) : postA K E W1 H1 r Q := by
  cases r with
  | ok d μ => exact fun W' v H' g' o r => h W' v H' (g.trans g') o r
  | ex c fs μ => exact fun W' H' d g' o r => h W' H' d (g.trans g') o r
  | bad => exact h
def rA (K : PySem.W.Frag) (E : WX) (f : FA) : TA := fun σ H Q => ∃ W ρ μ, Ok K W H μ ∧ Envs K W σ ρ ∧ postA K (WE E σ) W H (f ρ μ) Q
abbrev DA (X : Cx) (E : WX) (e : List Expr) (f : FA) : Prop := PA X e (rA X.K E f)

/-- the same of a whole argument list -/
theorem seqA {β : Type} {K : PySem.W.Frag} {E : WX} {fa : FA} {k : List D → Mu → R β} {Rp : Wd → V → β → Prop} {σ : St} {H : Hp} {W : Wd} {ρ : En} {μ : Mu} {Q : VK} {Q1 : List V → Hp → Prop} (p : post K (WE E σ) W H Rp ((fa ρ μ).bind k) Q) (ok : Ok K W H μ) (en : Envs K W σ ρ)
    (hk : ∀ ds μ1 W1 xs H1, Go W H W1 H1 → Ok K W1 H1 μ1 → Envs K W1 σ ρ → Reps K W1 xs ds → post K (WE E σ) W1 H1 Rp (k ds μ1) Q → Q1 xs H1) : rA K E fa σ H Q1 := by
  refine ⟨W, ρ, μ, ok, en, ?_⟩
  revert p
  cases h : fa ρ μ with
  | ok d μ1 => exact fun p W1 x H1 g o r => hk d μ1 W1 x H1 g o (en.mono g.le) r (post.mono g p)
  | ex c fs μ1 => exact fun p => p
  | bad => exact fun p => p
def aNil : FA := fun _ μ => .ok [] μ
def aCons (f : FE) (g : FA) : FA := fun ρ μ => (f ρ μ).bind fun d μ1 => (g ρ μ1).bind fun ds μ2 => .ok (d :: ds) μ2
section
variable {X : Cx} {E : WX}
theorem da_nil : DA X E [] aNil := pa_imp pa_nil fun σ H Q ⟨W, ρ, μ, ok, en, p⟩ => p W [] H (Go.refl W H) ok .nil
theorem da_cons {e : Expr} {es : List Expr} {f : FE} {g : FA} (h : DE X E e f) (hs : DA X E es g) (hst : starEach (e :: es) X.env = (false, eval e X.env) :: starEach es X.env := by rfl) : DA X E (e :: es) (aCons f g) := by
  refine pa_imp (pa_cons h hs hst) fun σ H Q ⟨W, ρ, μ, ok, en, p⟩ => ?_
  refine ⟨W, ρ, μ, ok, en, ?_⟩
  unfold aCons at p
  revert p
  cases f ρ μ with
  | ok d μ1 =>
    intro p W1 x H1 g1 o1 r1
    refine ⟨W1, ρ, μ1, o1, en.mono g1.le, ?_⟩
    have p := postA.mono g1 p
    revert p
    rw [R.bind_ok]
    cases g ρ μ1 with
    | ok ds μ2 => exact fun p W2 xs H2 g2 o2 r2 => p W2 (x :: xs) H2 g2 o2 (.cons (r1.mono g2.le) r2)
    | ex c fs μ2 => exact fun p => p
    | bad => exact fun p => p
  | ex c fs μ1 => exact fun p => p
  | bad => exact fun p => p
end

/-! ### names and constants -/
def dvar (i : Nat) : FE := fun ρ μ => match ρ[i]? with
  | some (some d) => .ok d μ
  | _ => .bad
def dc (d : D) : FE := fun _ μ => .ok d μ
section
variable {X : Cx} {E : WX}
theorem dv (i : Nat) {x : Str} {pos : Pos} (hN : X.N[i]? = some x := by rfl) (hv : Vis X.env.scope x := by first | exact Or.inl rfl | exact Or.inr (Or.inl rfl) | exact Or.inr (Or.inr rfl)) (hd : (x == ("__debug__" : Str)) = false := by decide)
    (hcd : (x == ("__classdict__" : Str)) = false := by decide) : DE X E (.Name x pos) (dvar i) := by
  refine pe_imp (pe_var hN hv hd hcd) fun σ H Q ⟨W, ρ, μ, ok, en, p⟩ => ?_
  unfold dvar at p
  revert p
  cases e : ρ[i]? with
  | none => exact fun p => p.elim
  | some o =>
    cases o with
    | none => exact fun p => p.elim
    | some d =>
      intro p
      obtain ⟨v, h1, h2⟩ := en.at_ i d e
      exact ⟨v, h1, p W v H (Go.refl W H) ok h2⟩
theorem dconst {e : Expr} {v : V} {d : D} (h : PE X e (tC v)) (r : ∀ W, Rep X.K W v d) : DE X E e (dc d) := pe_imp h fun σ H Q ⟨W, ρ, μ, ok, en, p⟩ => p W v H (Go.refl W H) ok (r W)
theorem dint {i j pos} : DE X E (.Constant (.int i) j pos) (dc (.int i)) := dconst pe_int fun _ => .int i
theorem dbool {b j pos} : DE X E (.Constant (.bool b) j pos) (dc (.bl b)) := dconst pe_bl fun _ => .bl b
theorem dnon {j pos} : DE X E (.Constant .none j pos) (dc .non) := dconst pe_non fun _ => .non
theorem dstr {x j pos} (hx : x.length ≤ sizeLine := by decide +kernel) : DE X E (.Constant (.str x) j pos) (dc (.str x)) := dconst pe_str fun _ => .str x hx

/-! ### two-place operations -/
/-- the rule r does g -/
def OpD (K : PySem.W.Frag) (E : WX) (r : R2) (g : D → D → Mu → R D) : Prop :=
  ∀ (E' : XK) W H μ x y vx vy Q, Ok K W H μ → Rep K W vx x → Rep K W vy y → postE K E' W H (g x y μ) Q → r vx vy H Q
/-- .. a pure one that makes nothing -/
theorem OpD.pure {K : PySem.W.Frag} {E : WX} {r : R2} {g : D → D → Option D} (h : ∀ W H μ x y vx vy d, Ok K W H μ → Rep K W vx x → Rep K W vy y → g x y = some d → ∃ v, Rep K W v d ∧ ∀ Q : VK, Q v H → r vx vy H Q) : OpD K E r (fun x y μ => R.of (g x y) μ) := by
  intro E' W H μ x y vx vy Q ok rx ry
  show postE K E' W H (R.of (g x y) μ) Q → _
  cases e : g x y with
  | none => exact fun p => p.elim
  | some d =>
    intro p
    obtain ⟨v, h1, h2⟩ := h W H μ x y vx vy d ok rx ry e
    exact h2 Q (p W v H (Go.refl W H) ok h1)
def dbin (g : D → D → Mu → R D) (fa fb : FE) : FE := fun ρ μ => (fa ρ μ).bind fun x μ1 => (fb ρ μ1).bind fun y μ2 => g x y μ2
theorem tOp_of {r : R2} {g : D → D → Mu → R D} {fa fb : FE} (h : OpD X.K E r g) : ∀ σ H Q, rE X.K E (dbin g fa fb) σ H Q → tOp r (rE X.K E fa) (rE X.K E fb) σ H Q := fun σ H Q ⟨W, ρ, μ, ok, en, p⟩ =>
  seq p ok en fun x μ1 W1 vx H1 g1 ok1 en1 rx p1 => seq p1 ok1 en1 fun y μ2 W2 vy H2 g2 ok2 en2 ry p2 => h _ W2 H2 μ2 x y vx vy Q ok2 (rx.mono g2.le) ry p2
theorem dbinop {op : Operator} {a b : Expr} {pos : Pos} {fa fb : FE} {r : R2} {g : D → D → Mu → R D} (ho : OpR X (binaryOp op) r) (h : OpD X.K E r g) (ha : DE X E a fa) (hb : DE X E b fb) : DE X E (.BinOp a op b pos) (dbin g fa fb) :=
  pe_imp (pe_op ho ha hb) (tOp_of h)
theorem dcmp {op : CmpOp} {a b : Expr} {pos : Pos} {fa fb : FE} {r : R2} {g : D → D → Mu → R D} (ho : OpR X (compareOp op) r) (h : OpD X.K E r g) (ha : DE X E a fa) (hb : DE X E b fb) (hm : behindInMarks op b = false := by first | exact nomark _ | rfl) : DE X E (.Compare a [op] [b] pos) (dbin g fa fb) :=
  pe_imp (pe_cmpR ho ha hb hm) (tOp_of h)
def dun (g : D → Mu → R D) (fa : FE) : FE := fun ρ μ => (fa ρ μ).bind fun x μ1 => g x μ1

/-! ### tests of values -/
def dtest (f : FE) : FT := fun ρ μ => (f ρ μ).bind fun d μ1 => match d with
  | .bl b => .ok b μ1
  | _ => .bad
theorem tB_of {f : FE} : ∀ σ H Q, rT X.K E (dtest f) σ H Q → tB (rE X.K E f) σ H Q := fun σ H Q ⟨W, ρ, μ, ok, en, p⟩ => by
  refine ⟨W, ρ, μ, ok, en, ?_⟩
  unfold dtest at p
  revert p
  cases f ρ μ with
  | ok d μ1 =>
    rw [R.bind_ok]
    cases d with
    | bl b =>
      intro p W1 v H1 g1 o1 r1
      cases r1
      exact ⟨b, rfl, p W1 H1 g1 o1⟩
    | _ => exact fun p => p.elim
  | ex c fs μ1 => exact fun p => p
  | bad => exact fun p => p
theorem dtest_val {e : Expr} {f : FE} (h : DE X E e f) (he : ∀ whole, isTrue e X.env whole = (do let v ← whole; standAt e.pos; holding [v] (truthy v)) := by intro _; rfl) : DT X E e (dtest f) := pt_imp (pt_val h he) tB_of
theorem dtest_cmp {op : CmpOp} {a b : Expr} {pos : Pos} {fa fb : FE} {r : R2} {g : D → D → Mu → R D} (ho : OpR X (compareOp op) r) (h : OpD X.K E r g) (ha : DE X E a fa) (hb : DE X E b fb) (hm : behindInMarks op b = false := by first | exact nomark _ | rfl) : DT X E (.Compare a [op] [b] pos) (dtest (dbin g fa fb)) := by
  refine pt_imp (pt_cmpR ho ha hb hm) fun σ H Q q => ?_
  have q := tB_of σ H Q q
  unfold tTest
  exact tOp_of h σ H _ q
def tand (f g : FT) : FT := fun ρ μ => (f ρ μ).bind fun b μ1 => if b = true then g ρ μ1 else .ok false μ1
def tor (f g : FT) : FT := fun ρ μ => (f ρ μ).bind fun b μ1 => if b = true then .ok true μ1 else g ρ μ1
def tnot (f : FT) : FT := fun ρ μ => (f ρ μ).bind fun b μ1 => .ok (!b) μ1
theorem seqT {K : PySem.W.Frag} {fa : FT} {k : Bool → Mu → R Bool} {σ : St} {H : Hp} {W : Wd} {ρ : En} {μ : Mu} {Q Q1 : Bool → Hp → Prop} (p : postT K (WE E σ) W H ((fa ρ μ).bind k) Q) (ok : Ok K W H μ) (en : Envs K W σ ρ)
    (hk : ∀ b μ1 W1 H1, Go W H W1 H1 → Ok K W1 H1 μ1 → Envs K W1 σ ρ → postT K (WE E σ) W1 H1 (k b μ1) Q → Q1 b H1) : rT K E fa σ H Q1 := by
  refine ⟨W, ρ, μ, ok, en, ?_⟩
  revert p
  cases h : fa ρ μ with
  | ok d μ1 => exact fun p W1 H1 g o => hk d μ1 W1 H1 g o (en.mono g.le) (postT.mono g p)
  | ex c fs μ1 => exact fun p => p
  | bad => exact fun p => p
theorem tAnd_of {f g : FT} : ∀ σ H Q, rT X.K E (tand f g) σ H Q → tAnd (rT X.K E f) (rT X.K E g) σ H Q := fun σ H Q ⟨W, ρ, μ, ok, en, p⟩ =>
  seqT p ok en fun b μ1 W1 H1 g1 o1 en1 p1 => by
    cases b with
    | true => exact ⟨W1, ρ, μ1, o1, en1, p1⟩
    | false => exact p1 W1 H1 (Go.refl _ _) o1
theorem tOr_of {f g : FT} : ∀ σ H Q, rT X.K E (tor f g) σ H Q → tOr (rT X.K E f) (rT X.K E g) σ H Q := fun σ H Q ⟨W, ρ, μ, ok, en, p⟩ =>
  seqT p ok en fun b μ1 W1 H1 g1 o1 en1 p1 => by
    cases b with
    | false => exact ⟨W1, ρ, μ1, o1, en1, p1⟩
    | true => exact p1 W1 H1 (Go.refl _ _) o1
variable {a b : Expr} {rest : List Expr} {pos : Pos} {f g : FT}
theorem dw_and1 (ha : DT X E a f) : DW X E (.BoolOp .And [a] pos) f := pw_and1 ha
theorem dw_or1 (ha : DT X E a f) : DW X E (.BoolOp .Or [a] pos) f := pw_or1 ha
theorem dw_and (ha : DT X E a f) (hb : DW X E (.BoolOp .And (b :: rest) pos) g) : DW X E (.BoolOp .And (a :: b :: rest) pos) (tand f g) := pw_imp (pw_and ha hb) tAnd_of
theorem dw_or (ha : DT X E a f) (hb : DW X E (.BoolOp .Or (b :: rest) pos) g) : DW X E (.BoolOp .Or (a :: b :: rest) pos) (tor f g) := pw_imp (pw_or ha hb) tOr_of
theorem dt_w (h : DW X E a f) : DT X E a f := h.pt
theorem dt_not (ha : DT X E a f) : DT X E (.UnaryOp .Not a pos) (tnot f) := pt_imp (pt_not ha) fun σ H Q ⟨W, ρ, μ, ok, en, p⟩ =>
  seqT p ok en fun b μ1 W1 H1 g1 o1 en1 p1 => p1 W1 H1 (Go.refl _ _) o1
end
end DL
/-! DL1: statements, targets, walks, loops, comprehensions. -/
namespace DL
open PySem L2

/-- no exception is let out -/
def R.nox {α : Type} : R α → R α
  | .ok a μ => .ok a μ
  | _ => .bad
@[simp] theorem R.nox_ok {α : Type} (a : α) (μ : Mu) : (R.ok a μ).nox = .ok a μ := of_eq_true (eq_self _)
@[simp] theorem R.nox_bad {α : Type} : (R.bad : R α).nox = .bad := of_eq_true (eq_self _)
@[simp] theorem R.nox_ex {α : Type} (c : Nat) (fs : List (Str × D)) (μ : Mu) : (R.ex c fs μ : R α).nox = .bad := of_eq_true (eq_self _)

/-! ### a new object that never changes -/
section
variable {K : PySem.W.Frag} {W : Wd} {H : Hp} {μ : Mu} {p : Addr} {o : HO}
theorem same_new {H : Hp} {p : Addr} {o : HO} (h : H p = none) : Same H (upd H p o) := fun b x e => by
  rw [upd_ne (ne_of_none e h)]
  exact e
def Wd.new (W : Wd) (p : Addr) (o : HO) : Wd := ⟨upd W.S p o, W.io⟩
theorem Ok.snone (ok : Ok K W H μ) (h : H p = none) : W.S p = none := ok.sub.free h
theorem Go.new (ok : Ok K W H μ) (h : H p = none) : Go W H (W.new p o) (upd H p o) := by
  refine ⟨⟨same_new (ok.snone h), List.prefix_refl _⟩, fun a u e _ => ?_, fun a e => ?_, fun a e => .inl e, fun a u e => ?_⟩
  · rw [upd_ne (ne_of_none e h)]
    exact e
  · by_cases z : a = p
    · rw [z]; exact h
    · rw [upd_ne z] at e; exact e
  · by_cases z : a = p
    · rw [z]; exact .inr (.inl h)
    · exact .inl (by rw [← e]; exact (upd_ne z).symm)
theorem Ok.new (ok : Ok K W H μ) (h : H p = none) : Ok K (W.new p o) (upd H p o) μ := by
  have g := Go.new (o := o) ok h
  refine ⟨fun a u e => ?_, ok.len, ok.nd, fun l a m e1 e2 n => ?_, fun l a m e1 e2 => ?_⟩
  · by_cases z : a = p
    · have e : upd W.S p o a = some u := e
      rw [z] at e ⊢
      rw [upd_same] at e ⊢
      exact e
    · have e : upd W.S p o a = some u := e
      rw [upd_ne z] at e ⊢
      exact ok.sub a u e
  · show upd W.S p o a = none
    by_cases z : a = p
    · obtain ⟨u, e, _⟩ := ok.cell l a m e1 e2
      rw [z, h] at e
      cases e
    · rw [upd_ne z]
      exact ok.apart l a m e1 e2 n
  · exact (ok.cell l a m e1 e2).mono g.le fun u e => by
      rw [upd_ne (ne_of_none e h)]
      exact e
/-- a new tuple, a new list -/
theorem rep_tup {vs : List V} {ds : List D} (ok : Ok K W H μ) (h : H p = none) (z : ds.length ≤ sizeLine) (r : Reps K W vs ds) : Rep K (W.new p (.tup vs)) (.ref p) (.tup ds) :=
  .tup z (.inl (.inl (show upd W.S p (.tup vs) p = _ from upd_same))) (r.mono (Go.new ok h).le)
theorem rep_lst {vs : List V} {ds : List D} (ok : Ok K W H μ) (h : H p = none) (z : ds.length ≤ sizeLine) (r : Reps K W vs ds) : Rep K (W.new p (.lst vs)) (.ref p) (.lst ds) :=
  .lst z (.inl (.inl (show upd W.S p (.lst vs) p = _ from upd_same))) (r.mono (Go.new ok h).le)
end

/-! ### a new cell, a changed cell, a frozen cell -/
section
variable {K : PySem.W.Frag} {W : Wd} {H : Hp} {μ : Mu} {p a : Addr} {l : Nat} {m m' : MO} {o o' : HO}
def Wd.cell (W : Wd) (p : Addr) : Wd := ⟨W.S, W.io ++ [p]⟩
theorem Ok.notio (ok : Ok K W H μ) (h : H p = none) : p ∉ W.io := fun z => by
  obtain ⟨l, hl, e⟩ := List.mem_iff_getElem.mp z
  have hm : l < μ.length := by rw [← ok.len]; exact hl
  obtain ⟨u, q, _⟩ := ok.cell l p μ[l] (by rw [List.getElem?_eq_getElem hl, e]) (List.getElem?_eq_getElem hm)
  rw [h] at q
  cases q
theorem Go.cell (ok : Ok K W H μ) (h : H p = none) : Go W H (W.cell p) (upd H p o) := by
  refine ⟨⟨Same.refl _, List.prefix_append _ _⟩, fun a u e _ => ?_, fun a e => ?_, fun a e => ?_, fun a u e => .inl e⟩
  · rw [upd_ne (ne_of_none e h)]
    exact e
  · by_cases z : a = p
    · rw [z]; exact h
    · rw [upd_ne z] at e; exact e
  · have e : a ∈ W.io ++ [p] := e
    rcases List.mem_append.mp e with e | e
    · exact .inl e
    · have e : a = p := by simpa using e
      rw [e]; exact .inr h
theorem Ok.newcell (ok : Ok K W H μ) (h : H p = none) (c : CellO K W m o) : Ok K (W.cell p) (upd H p o) (μ ++ [m]) := by
  have g := Go.cell (o := o) ok h
  have hn := ok.notio h
  have get : ∀ (l : Nat) a k, (W.io ++ [p])[l]? = some a → (μ ++ [m])[l]? = some k → (W.io[l]? = some a ∧ μ[l]? = some k) ∨ (a = p ∧ k = m) := fun l a k e1 e2 => by
    by_cases hl : l < W.io.length
    · rw [List.getElem?_append_left hl] at e1
      rw [List.getElem?_append_left (by rw [← ok.len]; exact hl)] at e2
      exact .inl ⟨e1, e2⟩
    · rw [List.getElem?_append_right (by omega)] at e1
      rw [List.getElem?_append_right (by rw [← ok.len]; omega), ← ok.len] at e2
      cases hz : l - W.io.length with
      | zero =>
        rw [hz] at e1 e2
        simp at e1 e2
        exact .inr ⟨e1.symm, e2.symm⟩
      | succ n =>
        rw [hz] at e1
        simp at e1
  refine ⟨fun a u e => ?_, by simp [Wd.cell, ok.len], ?_, fun l a k e1 e2 n => ?_, fun l a k e1 e2 => ?_⟩
  · have e : W.S a = some u := e
    rw [upd_ne (ne_of_none (ok.sub _ _ e) h)]
    exact ok.sub _ _ e
  · show (W.io ++ [p]).Nodup
    rw [List.nodup_append]
    exact ⟨ok.nd, by simp, fun x hx y hy z => hn (by
      have e : y = p := by simpa using hy
      rw [← e, ← z]; exact hx)⟩
  · show W.S a = none
    rcases get l a k e1 e2 with ⟨e1, e2⟩ | ⟨rfl, rfl⟩
    · exact ok.apart l a k e1 e2 n
    · exact ok.snone h
  · rcases get l a k e1 e2 with ⟨e1, e2⟩ | ⟨rfl, rfl⟩
    · exact (ok.cell l a k e1 e2).mono g.le fun u e => by
        rw [upd_ne (ne_of_none e h)]
        exact e
    · exact ⟨o, upd_same, c.mono g.le⟩
theorem Ok.io_ne (ok : Ok K W H μ) {l2 : Nat} {b : Addr} (h1 : W.io[l]? = some a) (h2 : W.io[l2]? = some b) (hne : l2 ≠ l) : b ≠ a := fun e => by
  obtain ⟨i1, e1⟩ := List.getElem?_eq_some_iff.mp h1
  obtain ⟨i2, e2⟩ := List.getElem?_eq_some_iff.mp h2
  exact hne ((List.getElem_inj ok.nd).mp (e2.trans (e.trans e1.symm)))
/-- the cell l holds m' from now on -/
theorem Ok.setcell (ok : Ok K W H μ) (h1 : W.io[l]? = some a) (h2 : μ[l]? = some m) (hg : m ≠ .gone) (c : CellO K W m' o') : Ok K W (upd H a o') (μ.set l m') ∧ Go W H W (upd H a o') := by
  have ha : W.S a = none := ok.apart l a m h1 h2 hg
  obtain ⟨o, ho, _⟩ := ok.cell l a m h1 h2
  have hm : a ∈ W.io := List.mem_of_getElem? h1
  refine ⟨⟨fun b u e => ?_, by rw [List.length_set]; exact ok.len, ok.nd, fun l2 b k e1 e2 n => ?_, fun l2 b k e1 e2 => ?_⟩, ⟨Le.refl _, fun b u e n => ?_, fun b e => ?_, fun b e => .inl e, fun b u e => .inl e⟩⟩
  · rw [upd_ne (ne_of_none e ha)]
    exact ok.sub _ _ e
  · by_cases z : l2 = l
    · subst z
      rw [h1] at e1
      cases e1
      exact ha
    · rw [List.getElem?_set_ne (Ne.symm z)] at e2
      exact ok.apart l2 b k e1 e2 n
  · by_cases z : l2 = l
    · subst z
      rw [h1] at e1
      cases e1
      rw [List.getElem?_set_self (List.getElem?_eq_some_iff.mp h2).1] at e2
      cases e2
      exact ⟨o', upd_same, c⟩
    · rw [List.getElem?_set_ne (Ne.symm z)] at e2
      exact (ok.cell l2 b k e1 e2).mono (Le.refl _) fun u e => by
        rw [upd_ne (ok.io_ne h1 e1 z)]
        exact e
  · rw [upd_ne (fun z => n (by rw [z]; exact hm))]
    exact e
  · by_cases z : b = a
    · rw [z, upd_same] at e
      cases e
    · rw [upd_ne z] at e
      exact e
/-- the cell l never changes any more -/
theorem Ok.freeze (ok : Ok K W H μ) (h1 : W.io[l]? = some a) (h2 : μ[l]? = some m) (hg : m ≠ .gone) (ho : H a = some o) : Ok K (W.new a o) H (μ.set l .gone) ∧ Go W H (W.new a o) H := by
  have ha : W.S a = none := ok.apart l a m h1 h2 hg
  have hm : a ∈ W.io := List.mem_of_getElem? h1
  have le : Le W (W.new a o) := ⟨same_new ha, List.prefix_refl _⟩
  refine ⟨⟨fun b u e => ?_, by rw [List.length_set]; exact ok.len, ok.nd, fun l2 b k e1 e2 n => ?_, fun l2 b k e1 e2 => ?_⟩, ⟨le, fun b u e n => e, fun b e => e, fun b e => .inl e, fun b u e => ?_⟩⟩
  · have e : upd W.S a o b = some u := e
    by_cases z : b = a
    · rw [z] at e ⊢
      rw [upd_same] at e
      rw [ho]; exact e
    · rw [upd_ne z] at e
      exact ok.sub _ _ e
  · show upd W.S a o b = none
    by_cases z : l2 = l
    · subst z
      rw [List.getElem?_set_self (List.getElem?_eq_some_iff.mp h2).1] at e2
      cases e2
      exact absurd rfl n
    · rw [List.getElem?_set_ne (Ne.symm z)] at e2
      rw [upd_ne (ok.io_ne h1 e1 z)]
      exact ok.apart l2 b k e1 e2 n
  · by_cases z : l2 = l
    · subst z
      rw [List.getElem?_set_self (List.getElem?_eq_some_iff.mp h2).1] at e2
      cases e2
      have e1 : W.io[l2]? = some b := e1
      rw [h1] at e1
      cases e1
      obtain ⟨o2, ho2, c2⟩ := ok.cell l2 a m h1 h2
      rw [ho] at ho2
      cases ho2
      exact ⟨o, ho, c2.notxd⟩
    · rw [List.getElem?_set_ne (Ne.symm z)] at e2
      exact (ok.cell l2 b k e1 e2).mono le fun u e => e
  · have e : upd W.S a o b = some u := e
    by_cases z : b = a
    · rw [z]; exact .inr (.inr hm)
    · rw [upd_ne z] at e
      exact .inl e
end

/-! ### targets -/
inductive Tg where
  | nm (i : Nat)
  | tp (ts : List Tg)
mutual
def Tg.slots : Tg → List Nat
  | .nm i => [i]
  | .tp ts => Tg.slotsL ts
def Tg.slotsL : List Tg → List Nat
  | [] => []
  | t :: ts => t.slots ++ Tg.slotsL ts
end
mutual
def asg : Tg → D → En → Option En
  | .nm i, d, ρ => some (ρ.set i (some d))
  | .tp ts, d, ρ => match d with
    | .tup ds => asgL ts ds ρ
    | _ => none
def asgL : List Tg → List D → En → Option En
  | [], [], ρ => some ρ
  | t :: ts, d :: ds, ρ => match asg t d ρ with
    | some ρ1 => asgL ts ds ρ1
    | none => none
  | _, _, _ => none
end
@[simp] theorem asg_nm (i : Nat) (d : D) (ρ : En) : asg (.nm i) d ρ = some (ρ.set i (some d)) := by simp [asg]
@[simp] theorem asg_tp (ts : List Tg) (ds : List D) (ρ : En) : asg (.tp ts) (.tup ds) ρ = asgL ts ds ρ := by simp [asg]
@[simp] theorem asgL_nil (ρ : En) : asgL [] [] ρ = some ρ := by simp [asgL]
@[simp] theorem asgL_cons (t : Tg) (ts : List Tg) (d : D) (ds : List D) (ρ : En) : asgL (t :: ts) (d :: ds) ρ = (asg t d ρ).bind (asgL ts ds) := by
  cases h : asg t d ρ <;> simp [asgL, h]
theorem asgL_len : ∀ {ts : List Tg} {ds : List D} {ρ ρ' : En}, asgL ts ds ρ = some ρ' → ds.length = ts.length
  | [], [], _, _, _ => rfl
  | [], _ :: _, _, _, e => by simp [asgL] at e
  | _ :: _, [], _, _, e => by simp [asgL] at e
  | t :: ts, d :: ds, ρ, ρ', e => by
    rw [asgL_cons] at e
    cases h : asg t d ρ with
    | none => rw [h] at e; cases e
    | some ρ1 =>
      rw [h] at e
      rw [List.length_cons, List.length_cons, asgL_len (ts := ts) (ds := ds) e]
/-- only some slots changed -/
structure But (vs : List Nat) (σ σ' : St) : Prop where
  len : σ'.length = σ.length
  at_ : ∀ j, j ∉ vs → σ'[j]? = σ[j]?
theorem But.refl (vs : List Nat) (σ : St) : But vs σ σ := ⟨rfl, fun _ _ => rfl⟩
theorem But.trans {vs us : List Nat} {σ σ1 σ2 : St} (a : But vs σ σ1) (b : But us σ1 σ2) : But (vs ++ us) σ σ2 :=
  ⟨b.len.trans a.len, fun j h => by
    rw [List.mem_append] at h
    rw [b.at_ j fun z => h (.inr z), a.at_ j fun z => h (.inl z)]⟩
theorem But.set (σ : St) (i : Nat) (x : Option V) : But [i] σ (σ.set i x) := ⟨by simp, fun j h => by
  have hj : i ≠ j := fun z => h (by simp [z])
  rw [List.getElem?_set_ne hj]⟩
def rG (K : PySem.W.Frag) (t : Tg) : TG := fun v σ H Q => ∃ W ρ ρ' d μ, Ok K W H μ ∧ Envs K W σ ρ ∧ Rep K W v d ∧ asg t d ρ = some ρ' ∧ ∀ σ', Envs K W σ' ρ' → But t.slots σ σ' → Q σ' H
def rGs (K : PySem.W.Frag) (ts : List Tg) : TGs := fun vs σ H Q => ∃ W ρ ρ' ds μ, Ok K W H μ ∧ Envs K W σ ρ ∧ Reps K W vs ds ∧ asgL ts ds ρ = some ρ' ∧ ∀ σ', Envs K W σ' ρ' → But (Tg.slotsL ts) σ σ' → Q σ' H
abbrev DG (X : Cx) (tg : Expr) (t : Tg) : Prop := PG X tg (rG X.K t)
abbrev DGs (X : Cx) (tg : List Expr) (t : List Tg) : Prop := PGs X tg (rGs X.K t)
theorem pg_imp {X : Cx} {e : Expr} {t t' : TG} (h : PG X e t) (i : ∀ v σ H Q, t' v σ H Q → t v σ H Q) : PG X e t' := ⟨fun pins s σ H v u Q I r q => h.run pins s σ H v u Q I r (i v σ H Q q)⟩
theorem pgs_imp {X : Cx} {e : List Expr} {t t' : TGs} (h : PGs X e t) (i : ∀ v σ H Q, t' v σ H Q → t v σ H Q) : PGs X e t' := ⟨fun pins s σ H v u Q I r q => h.run pins s σ H v u Q I r (i v σ H Q q)⟩
section
variable {X : Cx} {pos : Pos}
theorem dg_name {i : Nat} {x : Str} (hN : X.N.Nodup) (hi : X.N[i]? = some x := by rfl) (hx : Loc X.env.scope x := by first | exact .inl rfl | exact .inr rfl) (hf : X.fn x = true ∨ X.env.scope.names.lookup x = some .local := by first | exact .inl rfl | exact .inr rfl) : DG X (.Name x pos) (.nm i) :=
  pg_imp (pg_name hN hi hx hf) fun v σ H Q ⟨W, ρ, ρ', d, μ, ok, en, r, e, q⟩ => by
    rw [asg_nm] at e
    cases e
    exact q _ (en.set r i) (But.set σ i _)
theorem dgs_nil : DGs X [] [] := pgs_imp pgs_nil fun vs σ H Q ⟨W, ρ, ρ', ds, μ, ok, en, r, e, q⟩ => by
  have l := r.length
  rw [asgL_len e] at l
  cases r with
  | nil =>
    rw [asgL_nil] at e
    cases e
    exact ⟨rfl, q σ en (But.refl _ _)⟩
  | cons _ _ => cases l
theorem dgs_cons {e : Expr} {es : List Expr} {t : Tg} {ts : List Tg} (h : DG X e t) (hs : DGs X es ts) (hst : (assignEach (e :: es) X.env).map (·.2) = assign e X.env :: (assignEach es X.env).map (·.2) := by rfl) : DGs X (e :: es) (t :: ts) :=
  pgs_imp (pgs_cons h hs hst) fun vs σ H Q ⟨W, ρ, ρ', ds, μ, ok, en, r, e, q⟩ => by
    cases r with
    | nil => simp [asgL] at e
    | @cons v vs d ds r rs =>
      rw [asgL_cons] at e
      cases h : asg t d ρ with
      | none => rw [h] at e; cases e
      | some ρ1 =>
        rw [h] at e
        refine ⟨v, vs, rfl, W, ρ, ρ1, d, μ, ok, en, r, h, fun σ1 en1 b1 => ⟨W, ρ1, ρ', ds, μ, ok, en1, rs, e, fun σ2 en2 b2 => q σ2 en2 ?_⟩⟩
        show But (t.slots ++ Tg.slotsL ts) σ σ2
        exact b1.trans b2
theorem dg_tup {es : List Expr} {k : Nat} {ts : List Tg} (hc : X.calm = true) (h : DGs X es ts) (hn : (assignEach es X.env).length = ts.length := by rfl) (hst : (assignEach es X.env).findIdx? (·.1) = none := by rfl) : DG X (.Tuple es k pos) (.tp ts) :=
  pg_imp (pg_tup hc h hn hst) fun v σ H Q ⟨W, ρ, ρ', d, μ, ok, en, r, e, q⟩ => by
    cases r with
    | @tup a xs ds z sq rs =>
      rw [asg_tp] at e
      refine ⟨a, xs, rfl, same_t ok.sub sq, ?_, W, ρ, ρ', ds, μ, ok, en, rs, e, fun σ' en' b => q σ' en' b⟩
      rw [rs.length]
      exact asgL_len e
    | _ => simp [asg] at e
end

/-! ### statements -/
inductive O where
  | nx (ρ : En) (μ : Mu)
  | rt (d : D) (μ : Mu)
  | bk (ρ : En) (μ : Mu)
  | ct (ρ : En) (μ : Mu)
  | ex (ρ : En) (c : Nat) (fs : List (Str × D)) (μ : Mu)
  | bad
def postS (K : PySem.W.Frag) (E : WX) (W : Wd) (H : Hp) (o : O) (Z : Ends) : Prop := match o with
  | .nx ρ μ => ∀ W' σ' H', Go W H W' H' → Ok K W' H' μ → Envs K W' σ' ρ → Z.nx σ' H'
  | .bk ρ μ => ∀ W' σ' H', Go W H W' H' → Ok K W' H' μ → Envs K W' σ' ρ → Z.bk σ' H'
  | .ct ρ μ => ∀ W' σ' H', Go W H W' H' → Ok K W' H' μ → Envs K W' σ' ρ → Z.ct σ' H'
  | .rt d μ => ∀ W' v H', Go W H W' H' → Ok K W' H' μ → Rep K W' v d → Z.rt v H'
  | .ex ρ c fs μ => ∀ W' σ' H' d, Go W H W' H' → Ok K W' H' μ → Envs K W' σ' ρ → ExcIs K W' H' fs d → E (.ref (cl K c)) d σ' H'
  | .bad => False
theorem postS.mono {K : PySem.W.Frag} {E : WX} {W W1 : Wd} {H H1 : Hp} {o : O} {Z : Ends} (g : Go W H W1 H1) (h : postS K E W H o Z) : postS K E W1 H1 o Z := by
  cases o with
  | nx ρ μ => exact fun W' v H' g' o r => h W' v H' (g.trans g') o r
  | bk ρ μ => exact fun W' v H' g' o r => h W' v H' (g.trans g') o r
  | ct ρ μ => exact fun W' v H' g' o r => h W' v H' (g.trans g') o r
  | rt ρ μ => exact fun W' v H' g' o r => h W' v H' (g.trans g') o r
  | ex ρ c fs μ => exact fun W' σ' H' d g' o n r => h W' σ' H' d (g.trans g') o n r
  | bad => exact h
abbrev FS := En → Mu → O
def rS (K : PySem.W.Frag) (E : WX) (g : FS) : TS := fun Z σ H => ∃ W ρ μ, Ok K W H μ ∧ Envs K W σ ρ ∧ postS K E W H (g ρ μ) Z
abbrev DS (X : Cx) (E : WX) (st : Stmt) (g : FS) : Prop := PS X st (rS X.K E g)
abbrev DSs (X : Cx) (E : WX) (st : List Stmt) (g : FS) : Prop := PSs X st (rS X.K E g)
def R.to {α : Type} (r : R α) (ρ : En) (k : α → Mu → O) : O := match r with
  | .ok a μ => k a μ
  | .ex c fs μ => .ex ρ c fs μ
  | .bad => .bad
@[simp] theorem R.to_ok {α : Type} (a : α) (μ : Mu) (ρ : En) (k : α → Mu → O) : (R.ok a μ).to ρ k = k a μ := of_eq_true (eq_self _)
@[simp] theorem R.to_bad {α : Type} (ρ : En) (k : α → Mu → O) : (R.bad : R α).to ρ k = .bad := of_eq_true (eq_self _)
@[simp] theorem R.to_ex {α : Type} (c : Nat) (fs : List (Str × D)) (μ : Mu) (ρ : En) (k : α → Mu → O) : (R.ex c fs μ : R α).to ρ k = .ex ρ c fs μ := of_eq_true (eq_self _)
theorem seqS {K : PySem.W.Frag} {E : WX} {fa : FE} {k : D → Mu → O} {σ : St} {H : Hp} {W : Wd} {ρ : En} {μ : Mu} {Z : Ends} {Q1 : VK} (p : postS K E W H ((fa ρ μ).to ρ k) Z) (ok : Ok K W H μ) (en : Envs K W σ ρ)
    (hk : ∀ d μ1 W1 x H1, Go W H W1 H1 → Ok K W1 H1 μ1 → Envs K W1 σ ρ → Rep K W1 x d → postS K E W1 H1 (k d μ1) Z → Q1 x H1) : rE K E fa σ H Q1 := by
  refine ⟨W, ρ, μ, ok, en, ?_⟩
  revert p
  cases h : fa ρ μ with
  | ok d μ1 => exact fun p W1 x H1 g o r => hk d μ1 W1 x H1 g o (en.mono g.le) r (postS.mono g p)
  | ex c fs μ1 => exact fun p W' H' d g o r => p W' σ H' d g o (en.mono g.le) r
  | bad => exact fun p => p
theorem seqST {K : PySem.W.Frag} {E : WX} {fa : FT} {k : Bool → Mu → O} {σ : St} {H : Hp} {W : Wd} {ρ : En} {μ : Mu} {Z : Ends} {Q1 : Bool → Hp → Prop} (p : postS K E W H ((fa ρ μ).to ρ k) Z) (ok : Ok K W H μ) (en : Envs K W σ ρ)
    (hk : ∀ b μ1 W1 H1, Go W H W1 H1 → Ok K W1 H1 μ1 → Envs K W1 σ ρ → postS K E W1 H1 (k b μ1) Z → Q1 b H1) : rT K E fa σ H Q1 := by
  refine ⟨W, ρ, μ, ok, en, ?_⟩
  revert p
  cases h : fa ρ μ with
  | ok d μ1 => exact fun p W1 H1 g o => hk d μ1 W1 H1 g o (en.mono g.le) (postS.mono g p)
  | ex c fs μ1 => exact fun p W' H' d g o r => p W' σ H' d g o (en.mono g.le) r
  | bad => exact fun p => p
def gnil : FS := fun ρ μ => .nx ρ μ
def gseq (g h : FS) : FS := fun ρ μ => match g ρ μ with
  | .nx ρ' μ' => h ρ' μ'
  | o => o
def gret (f : FE) : FS := fun ρ μ => (f ρ μ).to ρ fun d μ1 => .rt d μ1
def gexpr (f : FE) : FS := fun ρ μ => (f ρ μ).to ρ fun _ μ1 => .nx ρ μ1
def gasg (t : Tg) (f : FE) : FS := fun ρ μ => (f ρ μ).to ρ fun d μ1 => match asg t d ρ with
  | some ρ' => .nx ρ' μ1
  | none => .bad
def gif (c : FT) (g h : FS) : FS := fun ρ μ => (c ρ μ).to ρ fun b μ1 => if b = true then g ρ μ1 else h ρ μ1
section
variable {X : Cx} {E : WX} {st : Stmt} {sts : List Stmt} {g h : FS} {e : Expr} {f : FE} {pos : Pos}
theorem ds_nil : DSs X E [] gnil := pss_imp pss_nil fun Z σ H ⟨W, ρ, μ, ok, en, p⟩ => p W σ H (Go.refl _ _) ok en
theorem ds_one (a : DS X E st g) : DSs X E [st] g := pss_one a
theorem ds_cons (a : DS X E st g) (b : DSs X E sts h) : DSs X E (st :: sts) (gseq g h) := pss_imp (pss_cons a b) fun Z σ H ⟨W, ρ, μ, ok, en, p⟩ => by
  refine ⟨W, ρ, μ, ok, en, ?_⟩
  unfold gseq at p
  revert p
  cases g ρ μ with
  | nx ρ' μ' => exact fun p W' σ' H' g' o r => ⟨W', ρ', μ', o, r, postS.mono g' p⟩
  | bk ρ μ => exact fun p => p
  | ct ρ μ => exact fun p => p
  | rt ρ μ => exact fun p => p
  | ex ρ c fs μ => exact fun p => p
  | bad => exact fun p => p
theorem ds_pass : DS X E (.Pass pos) gnil := ps_imp ps_pass fun Z σ H ⟨W, ρ, μ, ok, en, p⟩ => p W σ H (Go.refl _ _) ok en
theorem ds_break : DS X E (.Break pos) (fun ρ μ => .bk ρ μ) := ps_imp ps_break fun Z σ H ⟨W, ρ, μ, ok, en, p⟩ => p W σ H (Go.refl _ _) ok en
theorem ds_continue : DS X E (.Continue pos) (fun ρ μ => .ct ρ μ) := ps_imp ps_continue fun Z σ H ⟨W, ρ, μ, ok, en, p⟩ => p W σ H (Go.refl _ _) ok en
theorem ds_ret (a : DE X E e f) : DS X E (.Return (some e) pos) (gret f) := ps_imp (ps_ret a) fun Z σ H ⟨W, ρ, μ, ok, en, p⟩ =>
  seqS p ok en fun d μ1 W1 x H1 g1 o1 en1 r p1 => p1 W1 x H1 (Go.refl _ _) o1 r
theorem ds_retN : DS X E (.Return none pos) (fun _ μ => .rt .non μ) := ps_imp ps_retN fun Z σ H ⟨W, ρ, μ, ok, en, p⟩ => p W .non H (Go.refl _ _) ok .non
theorem ds_expr (a : DE X E e f) (hs : swapsWith e none pos.line X.env = pure false := by rfl) : DS X E (.Expr e pos) (gexpr f) := ps_imp (ps_expr a hs) fun Z σ H ⟨W, ρ, μ, ok, en, p⟩ =>
  seqS p ok en fun d μ1 W1 x H1 g1 o1 en1 r p1 => p1 W1 σ H1 (Go.refl _ _) o1 en1
theorem tAsg_of {t : Tg} : ∀ Z σ H, rS X.K E (gasg t f) Z σ H → tAsg (rE X.K E f) (rG X.K t) Z σ H := fun Z σ H ⟨W, ρ, μ, ok, en, p⟩ =>
  seqS p ok en fun d μ1 W1 x H1 g1 o1 en1 r p1 => by
    revert p1
    cases e : asg t d ρ with
    | none => exact fun p => p.elim
    | some ρ' => exact fun p1 => ⟨W1, ρ, ρ', d, μ1, o1, en1, r, e, fun σ' en' _ => p1 W1 σ' H1 (Go.refl _ _) o1 en'⟩
theorem ds_asg {tg : Expr} {t : Tg} (a : DE X E e f) (b : DG X tg t) (hs : swapsWithSole [tg] e pos.line X.env = pure false := by rfl) (hw : swappedStores [tg] e X.env = pure none := by rfl)
    (h1 : (assignEach [tg] X.env).map (·.2) = [assign tg X.env] := by rfl) : DS X E (.Assign [tg] e pos) (gasg t f) := ps_imp (ps_asg a b hs hw h1) tAsg_of
theorem ds_set (i : Nat) {x : Str} {pos' : Pos} (hN : X.N.Nodup) (a : DE X E e f) (hi : X.N[i]? = some x := by rfl) (hx : Loc X.env.scope x := by first | exact .inl rfl | exact .inr rfl) (hs : swapsWith e (some (.Name x pos')) pos.line X.env = pure false := by rfl) (hf : X.fn x = true ∨ X.env.scope.names.lookup x = some .local := by first | exact .inl rfl | exact .inr rfl) :
    DS X E (.Assign [.Name x pos'] e pos) (gasg (.nm i) f) := ps_imp (ps_set hN hi hx a hs hf) fun Z σ H ⟨W, ρ, μ, ok, en, p⟩ =>
  seqS p ok en fun d μ1 W1 v H1 g1 o1 en1 r p1 => by
    rw [asg_nm] at p1
    exact p1 W1 _ H1 (Go.refl _ _) o1 (en1.set r i)
theorem ds_if {c : Expr} {a b : List Stmt} {fc : FT} (hc : DT X E c fc) (ha : DSs X E a g) (hb : DSs X E b h) : DS X E (.If c a b pos) (gif fc g h) := ps_imp (ps_if hc ha hb) fun Z σ H ⟨W, ρ, μ, ok, en, p⟩ =>
  seqST p ok en fun d μ1 W1 H1 g1 o1 en1 p1 => by
    cases d with
    | true => exact ⟨W1, ρ, μ1, o1, en1, p1⟩
    | false => exact ⟨W1, ρ, μ1, o1, en1, p1⟩
end

/-! ### walks -/
structure Walk (K : PySem.W.Frag) (W : Wd) (J : It) (xs : List D) : Prop where
  len : xs.length ≤ sizeLine
  go : ∀ H i, Same W.S H → i < xs.length → J.go i H
  stop : ∀ H i, Same W.S H → xs.length ≤ i → J.stop i H
  yld : ∀ H i x H', Same W.S H → J.yld i H x H' → ∀ d, xs[i]? = some d → ∀ W1 μ, Le W W1 → Ok K W1 H μ → ∃ W2, Go W1 H W2 H' ∧ Ok K W2 H' μ ∧ Rep K W2 x d
def postI (K : PySem.W.Frag) (E : XK) (W : Wd) (H : Hp) (r : R (List D)) (Q : It → Hp → Prop) : Prop := match r with
  | .ok xs μ => ∀ W' J H', Go W H W' H' → Ok K W' H' μ → Walk K W' J xs → Q J H'
  | .ex c fs μ => ∀ W' H' d, Go W H W' H' → Ok K W' H' μ → ExcIs K W' H' fs d → E (.ref (cl K c)) d H'
  | .bad => False
def rI (K : PySem.W.Frag) (E : WX) (f : FA) : TI := fun σ H Q => ∃ W ρ μ, Ok K W H μ ∧ Envs K W σ ρ ∧ postI K (WE E σ) W H (f ρ μ) Q
abbrev DI (X : Cx) (E : WX) (tg iter : Expr) (f : FA) : Prop := PI X tg iter (rI X.K E f)
theorem pi_imp {X : Cx} {tg e : Expr} {t t' : TI} (h : PI X tg e t) (i : ∀ σ H Q, t' σ H Q → t σ H Q) : PI X tg e t' := ⟨fun pins s σ H Q I q => h.run pins s σ H Q I (i σ H Q q)⟩
theorem Walk.le {K : PySem.W.Frag} {W W' : Wd} {J : It} {xs : List D} (w : Walk K W J xs) (l : Le W W') : Walk K W' J xs :=
  ⟨w.len, fun H i s => w.go H i (l.s.trans s), fun H i s => w.stop H i (l.s.trans s), fun H i x H' s y d e W1 μ l1 ok => w.yld H i x H' (l.s.trans s) y d e W1 μ (l.trans l1) ok⟩

/-! ### for -/
def forD (t : Tg) (b : FS) : List D → En → Mu → O
  | [], ρ, μ => .nx ρ μ
  | x :: xs, ρ, μ => match asg t x ρ with
    | none => .bad
    | some ρ1 => match b ρ1 μ with
      | .nx ρ2 μ2 => forD t b xs ρ2 μ2
      | .ct ρ2 μ2 => forD t b xs ρ2 μ2
      | .bk ρ2 μ2 => .nx ρ2 μ2
      | o => o
def gfor (fi : FA) (t : Tg) (b : FS) : FS := fun ρ μ => (fi ρ μ).to ρ fun xs μ1 => forD t b xs ρ μ1
section
variable {X : Cx} {E : WX} {pos : Pos}
theorem ds_for {tg iter : Expr} {body : List Stmt} {fi : FA} {t : Tg} {b : FS} (hp : PassesOwn (model X.prog X.w) X.A X.env X.xe) (hc : X.calm = true) (hi : DI X E tg iter fi) (hg : DG X tg t) (hb : DSs X E body b)
    (hs : ∀ x, foldedSetIterable iter X.env x = pure x := by intro _; rfl) : DS X E (.For tg iter body [] pos) (gfor fi t b) := by
  refine ps_imp (ps_for hp hc hi hg hb hs) fun Z σ H ⟨W, ρ, μ, ok, en, p⟩ => ?_
  refine ⟨W, ρ, μ, ok, en, ?_⟩
  unfold gfor at p
  revert p
  cases fi ρ μ with
  | ex c fs μ1 => exact fun p W' H' d g o r => p W' σ H' d g o (en.mono g.le) r
  | bad => exact fun p => p
  | ok xs μ1 =>
    rw [R.to_ok]
    intro p W1 J H1 g1 o1 wk
    refine ⟨fun i m σ H => m = xs.length - i ∧ i ≤ xs.length ∧ ∃ W2 ρ μ, Le W1 W2 ∧ Ok X.K W2 H μ ∧ Envs X.K W2 σ ρ ∧ postS X.K E W2 H (forD t b (xs.drop i) ρ μ) Z, ⟨xs.length, by simp, Nat.zero_le _, W1, ρ, μ1, Le.refl _, o1, en.mono g1.le, postS.mono g1 p⟩, ?_⟩
    rintro i m σ2 H2 ⟨rfl, hi, W2, ρ2, μ2, l2, o2, en2, p2⟩
    have s2 : Same W1.S H2 := l2.s.trans o2.sub
    by_cases hlt : i < xs.length
    · rw [List.drop_eq_getElem_cons hlt] at p2
      unfold forD at p2
      refine .inr ⟨wk.go H2 i s2 hlt, fun σ3 H3 => ∃ W3 ρ3 μ3, Le W1 W3 ∧ Ok X.K W3 H3 μ3 ∧ Envs X.K W3 σ3 ρ3 ∧ postS X.K E W3 H3 (forD t b (xs.drop (i + 1)) ρ3 μ3) Z, fun σ3 H3 ⟨W3, ρ3, μ3, l3, o3, en3, p3⟩ => ⟨xs.length - (i + 1), by omega, rfl, hlt, W3, ρ3, μ3, l3, o3, en3, p3⟩, fun x H3 y => ?_⟩
      obtain ⟨W3, g3, o3, r3⟩ := wk.yld H2 i x H3 s2 y xs[i] (List.getElem?_eq_getElem hlt) W2 μ2 l2 o2
      revert p2
      cases e : asg t xs[i] ρ2 with
      | none => exact fun p => p.elim
      | some ρ3 =>
        intro p2
        refine ⟨W3, ρ2, ρ3, xs[i], μ2, o3, en2.mono g3.le, r3, e, fun σ4 en4 _ => ⟨W3, ρ3, μ2, o3, en4, ?_⟩⟩
        have p3 := postS.mono g3 p2
        revert p3
        dsimp only
        cases b ρ3 μ2 with
        | nx ρ5 μ5 => exact fun p W5 σ5 H5 g5 o5 e5 => ⟨W5, ρ5, μ5, (l2.trans g3.le).trans g5.le, o5, e5, postS.mono g5 p⟩
        | ct ρ5 μ5 => exact fun p W5 σ5 H5 g5 o5 e5 => ⟨W5, ρ5, μ5, (l2.trans g3.le).trans g5.le, o5, e5, postS.mono g5 p⟩
        | bk ρ5 μ5 => exact fun p => p
        | rt d μ5 => exact fun p => p
        | ex c fs μ5 => exact fun p => p
        | bad => exact fun p => p
    · have ei : i = xs.length := by omega
      subst ei
      rw [List.drop_length] at p2
      exact .inl ⟨wk.stop H2 _ s2 (Nat.le_refl _), p2 W2 σ2 H2 (Go.refl _ _) o2 en2⟩
end
end DL
/-! DL2: comprehensions, what is walked, displays, cells, calls of defs. -/
namespace DL
open PySem L2

/-! ### comprehensions -/
def wipeD (ρ : En) : List Nat → En
  | [] => ρ
  | v :: vs => (wipeD ρ vs).set v none
theorem Envs.wipe {K : PySem.W.Frag} {W : Wd} {σ : St} {ρ : En} (h : Envs K W σ ρ) : ∀ vs : List Nat, Envs K W (L2.wipe σ vs) (wipeD ρ vs)
  | [] => h
  | v :: vs => (Envs.wipe h vs).unset none v
theorem wipe_out {σ : St} {j : Nat} : ∀ {vs : List Nat}, j ∉ vs → (L2.wipe σ vs)[j]? = σ[j]?
  | [], _ => rfl
  | v :: vs, h => by
    show ((L2.wipe σ vs).set v none)[j]? = _
    rw [List.getElem?_set_ne (fun z => h (by simp [z]))]
    exact wipe_out fun z => h (by simp [z])
theorem wipe_in {σ : St} {j : Nat} : ∀ {vs : List Nat}, j ∈ vs → (L2.wipe σ vs)[j]? = if j < σ.length then some none else none
  | [], h => by cases h
  | v :: vs, h => by
    show ((L2.wipe σ vs).set v none)[j]? = _
    by_cases e : v = j
    · subst e
      rw [List.getElem?_set]
      simp [L2.wipe_length]
    · rw [List.getElem?_set_ne e]
      exact wipe_in (by
        rcases List.mem_cons.mp h with z | z
        · exact absurd z.symm e
        · exact z)
theorem wipe_but {σ σ2 : St} {vs ts : List Nat} (hs : ∀ i ∈ ts, i ∈ vs) (b : But ts (L2.wipe σ vs) σ2) : L2.wipe σ2 vs = L2.wipe σ vs := by
  have hl : σ2.length = σ.length := by rw [b.len, L2.wipe_length]
  apply List.ext_getElem?
  intro j
  by_cases h : j ∈ vs
  · rw [wipe_in h, wipe_in h, hl]
  · rw [wipe_out h, wipe_out h, b.at_ j fun z => h (hs j z), wipe_out h]
abbrev DTs (X : Cx) (ifs : List Expr) (f : FT) : Prop := PTs X ifs (rT X.K E0 f)
theorem pts_imp {X : Cx} {e : List Expr} {t t' : TT} (h : PTs X e t) (i : ∀ σ H Q, t' σ H Q → t σ H Q) : PTs X e t' := ⟨fun pins s σ H Q I q => h.run pins s σ H Q I (i σ H Q q)⟩
def tyes : FT := fun _ μ => .ok true μ
theorem dts_nil {X : Cx} : DTs X [] tyes := pts_imp pts_nil fun σ H Q ⟨W, ρ, μ, ok, en, p⟩ => p W H (Go.refl _ _) ok
theorem dts_one {X : Cx} {c : Expr} {f : FT} (h : DT X E0 c f) : DTs X [c] f := pts_one h
def lcD (t : Tg) (ft : FT) (fe : FE) (ρ : En) : List D → Mu → R (List D)
  | [], μ => .ok [] μ
  | x :: xs, μ => match asg t x ρ with
    | none => .bad
    | some ρ1 => (ft ρ1 μ).nox.bind fun b μ1 => if b = true then (fe ρ1 μ1).nox.bind fun y μ2 => (lcD t ft fe ρ xs μ2).bind fun ys μ3 => .ok (y :: ys) μ3 else lcD t ft fe ρ xs μ1
def dlc (fi : FA) (vs : List Nat) (t : Tg) (ft : FT) (fe : FE) : FE := fun ρ μ => (fi ρ μ).bind fun xs μ1 => (lcD t ft fe (wipeD ρ vs) xs μ1).bind fun ys μ2 => .ok (.lst ys) μ2
/-- an object outside of W changes, or comes -/
theorem Ok.other {K : PySem.W.Frag} {W : Wd} {H : Hp} {μ : Mu} {p : Addr} {o : HO} (ok : Ok K W H μ) (h1 : W.S p = none) (h2 : p ∉ W.io) : Ok K W (upd H p o) μ :=
  ⟨fun a u e => by rw [upd_ne (ne_of_none e h1)]; exact ok.sub a u e, ok.len, ok.nd, ok.apart, fun l a m e1 e2 => (ok.cell l a m e1 e2).mono (Le.refl _) fun u e => by
    rw [upd_ne (fun z => h2 (by rw [← z]; exact List.mem_of_getElem? e1))]
    exact e⟩
theorem Go.other {W W' : Wd} {H H' : Hp} {p : Addr} {o : HO} (g : Go W H W' H') (h : H p = none) : Go W H W' (upd H' p o) :=
  ⟨g.le, fun a u e n => by rw [upd_ne (ne_of_none e h)]; exact g.kept a u e n, fun a e => by
    by_cases z : a = p
    · rw [z]; exact h
    · rw [upd_ne z] at e
      exact g.grow a e, g.newio, g.newS⟩
theorem Go.out {W W' : Wd} {H H' : Hp} {p : Addr} {o : HO} (g : Go W H W' H') (h : H p = some o) (h1 : W.S p = none) (h2 : p ∉ W.io) : H' p = some o ∧ W'.S p = none ∧ p ∉ W'.io := by
  refine ⟨g.kept p o h h2, ?_, fun z => ?_⟩
  · cases e : W'.S p with
    | none => rfl
    | some u =>
      rcases g.newS p u e with z | z | z
      · rw [h1] at z; cases z
      · rw [h] at z; cases z
      · exact absurd z h2
  · rcases g.newio p z with z | z
    · exact h2 z
    · rw [h] at z; cases z
section
variable {X : Cx} {E : WX} {pos : Pos}
theorem tLc_of {fi : FA} {vs : List Nat} {t : Tg} {ft : FT} {fe : FE} (hsub : ∀ i ∈ t.slots, i ∈ vs) : ∀ σ H Q, rE X.K E (dlc fi vs t ft fe) σ H Q → tLc (rI X.K E fi) (rG X.K t) (rT X.K E0 ft) (rE X.K E0 fe) vs σ H Q := fun σ H Q ⟨W, ρ, μ, ok, en, p⟩ => by
  refine ⟨W, ρ, μ, ok, en, ?_⟩
  unfold dlc at p
  revert p
  cases fi ρ μ with
  | ex c fs μ1 => exact fun p => p
  | bad => exact fun p => p
  | ok xs μ1 =>
    rw [R.bind_ok]
    intro p W1 J H1 g1 o1 wk Dn hD
    have hz := wk.len
    have en1 := (en.mono g1.le).wipe vs
    refine ⟨fun i m H2 => m = xs.length - i ∧ i ≤ xs.length ∧ ∃ W2 μ2 acc ds, Go W1 H1 W2 H2 ∧ Ok X.K W2 H2 μ2 ∧ H2 Dn = some (.lst acc) ∧ Dn ∉ W2.io ∧ W2.S Dn = none ∧ Reps X.K W2 acc ds ∧ acc.length ≤ i ∧ postE X.K (WE E σ) W1 H1 ((lcD t ft fe (wipeD ρ vs) (xs.drop i) μ2).bind fun ys μ3 => .ok (.lst (ds ++ ys)) μ3) Q,
      ⟨xs.length, by simp, Nat.zero_le _, W1, μ1, [], [], (Go.refl _ _).other hD, o1.other (o1.snone hD) (o1.notio hD), upd_same, o1.notio hD, o1.snone hD, .nil, Nat.le_refl _, ?_⟩, ?_⟩
    · exact post.mono g1 p
    rintro i m H2 ⟨rfl, hi, W2, μ2, acc, ds, g2, o2, hacc, n2, s2, r2, l2, p2⟩
    have sm : Same W1.S H2 := g2.le.s.trans o2.sub
    by_cases hlt : i < xs.length
    · rw [List.drop_eq_getElem_cons hlt] at p2
      unfold lcD at p2
      refine .inr ⟨wk.go H2 i sm hlt, fun H3 => ∃ W3 μ3 acc ds, Go W1 H1 W3 H3 ∧ Ok X.K W3 H3 μ3 ∧ H3 Dn = some (.lst acc) ∧ Dn ∉ W3.io ∧ W3.S Dn = none ∧ Reps X.K W3 acc ds ∧ acc.length ≤ i + 1 ∧ postE X.K (WE E σ) W1 H1 ((lcD t ft fe (wipeD ρ vs) (xs.drop (i + 1)) μ3).bind fun ys μ3 => .ok (.lst (ds ++ ys)) μ3) Q,
        fun H3 ⟨W3, μ3, acc, ds, q⟩ => ⟨xs.length - (i + 1), by omega, rfl, hlt, W3, μ3, acc, ds, q⟩, fun x H3 y => ?_⟩
      obtain ⟨W3, g3, o3, r3⟩ := wk.yld H2 i x H3 sm y xs[i] (List.getElem?_eq_getElem hlt) W2 μ2 g2.le o2
      obtain ⟨a3, s3, n3⟩ := g3.out hacc s2 n2
      revert p2
      cases e : asg t xs[i] (wipeD ρ vs) with
      | none => exact fun p => p.elim
      | some ρ3 =>
        dsimp only
        intro p2
        refine ⟨W3, wipeD ρ vs, ρ3, xs[i], μ2, o3, en1.mono (g2.le.trans g3.le), r3, e, fun σ4 en4 b4 => ⟨wipe_but hsub b4, ?_⟩⟩
        refine ⟨W3, ρ3, μ2, o3, en4, ?_⟩
        revert p2
        cases ft ρ3 μ2 with
        | ex c fs μ4 => exact fun p => p.elim
        | bad => exact fun p => p.elim
        | ok b μ4 =>
          rw [R.nox_ok, R.bind_ok]
          intro p2 W4 H4 g4 o4
          obtain ⟨a4, s4, n4⟩ := g4.out a3 s3 n3
          cases b with
          | false =>
            rw [if_neg Bool.false_ne_true] at p2 ⊢
            exact ⟨W4, μ4, acc, ds, (g2.trans g3).trans g4, o4, a4, n4, s4, r2.mono (g3.le.trans g4.le), by omega, p2⟩
          | true =>
            rw [if_pos rfl] at p2 ⊢
            refine ⟨W4, ρ3, μ4, o4, en4.mono g4.le, ?_⟩
            revert p2
            cases fe ρ3 μ4 with
            | ex c fs μ5 => exact fun p => p.elim
            | bad => exact fun p => p.elim
            | ok yd μ5 =>
              rw [R.nox_ok, R.bind_ok]
              intro p2 W5 yv H5 g5 o5 r5
              obtain ⟨a5, s5, n5⟩ := g5.out a4 s4 n4
              refine ⟨acc, a5, by omega, W5, μ5, acc ++ [yv], ds ++ [yd], (((g2.trans g3).trans g4).trans g5).other hD, o5.other s5 n5, upd_same, n5, s5, (r2.mono ((g3.le.trans g4.le).trans g5.le)).app (.cons r5 .nil), by simp; omega, ?_⟩
              revert p2
              cases lcD t ft fe (wipeD ρ vs) (xs.drop (i + 1)) μ5 with
              | ex c fs μ6 => exact fun p => p
              | bad => exact fun p => p
              | ok ys μ6 =>
                rw [R.bind_ok, R.bind_ok, R.bind_ok, List.append_assoc]
                exact fun p => p
    · have ei : i = xs.length := by omega
      subst ei
      rw [List.drop_length] at p2
      unfold lcD at p2
      rw [R.bind_ok, List.append_nil] at p2
      refine .inl ⟨wk.stop H2 _ sm (Nat.le_refl _), ?_⟩
      have lD : Le W2 (W2.new Dn (.lst acc)) := ⟨same_new s2, List.prefix_refl _⟩
      refine p2 (W2.new Dn (.lst acc)) (.ref Dn) H2 ⟨g2.le.trans lD, g2.kept, g2.grow, g2.newio, fun a u e => ?_⟩ ?_ ?_
      · by_cases z : a = Dn
        · rw [z]; exact .inr (.inl hD)
        · exact g2.newS a u (by rw [← e]; exact (upd_ne z).symm)
      · refine ⟨fun a u e => ?_, o2.len, o2.nd, fun l a m e1 e2 n => ?_, fun l a m e1 e2 => (o2.cell l a m e1 e2).mono lD fun u e => e⟩
        · by_cases z : a = Dn
          · have e : upd W2.S Dn (.lst acc) a = some u := e
            rw [z, upd_same] at e
            rw [z, hacc, e]
          · have e : upd W2.S Dn (.lst acc) a = some u := e
            rw [upd_ne z] at e
            exact o2.sub a u e
        · show upd W2.S Dn (.lst acc) a = none
          have z : a ≠ Dn := fun z => n2 (by rw [← z]; exact List.mem_of_getElem? e1)
          rw [upd_ne z]
          exact o2.apart l a m e1 e2 n
      · refine .lst ?_ (.inl (.inl (show upd W2.S Dn (.lst acc) Dn = _ from upd_same))) (r2.mono lD)
        rw [← r2.length]
        omega
theorem de_lc {elt tg iter : Expr} {ifs : List Expr} {scope : Scope} {fi : FA} {t : Tg} {ft : FT} {fe : FE} (own : List (Str × Nat)) (hc : X.calm = true) (hN : X.N.Nodup) (hi : DI X E tg iter fi) (ok : BlkOk X.N X.env.scope scope own)
    (hg : ∀ (s : Shared) (H : Hp) (C : Addr) (cl : List (Str × Addr)) (fp : List Addr), DG (X.blk s H scope (compEnvC scope cl C X.env) fp) tg t) (ht : ∀ (s : Shared) (H : Hp) (C : Addr) (cl : List (Str × Addr)) (fp : List Addr), DTs (X.blk s H scope (compEnvC scope cl C X.env) fp) ifs ft)
    (he : ∀ (s : Shared) (H : Hp) (C : Addr) (cl : List (Str × Addr)) (fp : List Addr), DE (X.blk s H scope (compEnvC scope cl C X.env) fp) E0 elt fe) (hsub : ∀ i ∈ t.slots, i ∈ own.map (·.2) := by decide) (hs : ∀ x, foldedSetIterable iter X.env x = pure x := by intro _; rfl) :
    DE X E (.ListComp elt [⟨tg, iter, ifs, 0⟩] scope pos) (dlc fi (own.map (·.2)) t ft fe) := pe_imp (pe_lc (te := rE X.K E0 fe) (g := rG X.K t) (tt := rT X.K E0 ft) hc hN hi ok hg ht he hs) (tLc_of hsub)
theorem ds_setLc (i : Nat) {y : Str} {py spos : Pos} {elt tg iter : Expr} {ifs : List Expr} {scope : Scope} {fi : FA} {t : Tg} {ft : FT} {fe : FE} (own : List (Str × Nat)) (hc : X.calm = true) (hN : X.N.Nodup) (hi : DI X E tg iter fi) (ok : BlkOk X.N X.env.scope scope own)
    (hg : ∀ (s : Shared) (H : Hp) (C : Addr) (cl : List (Str × Addr)) (fp : List Addr), DG (X.blk s H scope (compEnvC scope cl C X.env) fp) tg t) (ht : ∀ (s : Shared) (H : Hp) (C : Addr) (cl : List (Str × Addr)) (fp : List Addr), DTs (X.blk s H scope (compEnvC scope cl C X.env) fp) ifs ft)
    (he : ∀ (s : Shared) (H : Hp) (C : Addr) (cl : List (Str × Addr)) (fp : List Addr), DE (X.blk s H scope (compEnvC scope cl C X.env) fp) E0 elt fe) (hsub : ∀ i ∈ t.slots, i ∈ own.map (·.2) := by decide) (hy : X.N[i]? = some y := by rfl) (hyl : X.env.scope.names.lookup y = some .local := by rfl)
    (hsw : swapsWith (.ListComp elt [⟨tg, iter, ifs, 0⟩] scope pos) (some (.Name y py)) spos.line X.env = pure true := by exact sw_true rfl rfl rfl (by decide +kernel)) (hs : ∀ x, foldedSetIterable iter X.env x = pure x := by intro _; rfl) :
    DS X E (.Assign [.Name y py] (.ListComp elt [⟨tg, iter, ifs, 0⟩] scope pos) spos) (gasg (.nm i) (dlc fi (own.map (·.2)) t ft fe)) := by
  refine ps_imp (ps_setLc (te := rE X.K E0 fe) (g := rG X.K t) (tt := rT X.K E0 ft) hc hN hy hyl hsw hi ok hg ht he hs) fun Z σ H ⟨W, ρ, μ, ok, en, p⟩ => ?_
  refine tLc_of (X := X) (E := E) hsub σ H _ (seqS p ok en fun d μ1 W1 v H1 g1 o1 en1 r p1 => ?_)
  rw [asg_nm] at p1
  exact p1 W1 _ H1 (Go.refl _ _) o1 (en1.set r i)
end

/-! ### what is walked -/
section
variable {K : PySem.W.Frag} {W : Wd} {a : Addr} {vs : List V} {ds : List D}
theorem walk_list (z : ds.length ≤ sizeLine) (h : SqL K W.S a vs) (r : Reps K W vs ds) : Walk K W (Itl K a) ds := by
  have hl := r.length
  refine ⟨z, fun H i s hi => ?_, fun H i s hi => ⟨vs, same_l s h, by omega⟩, fun H i x H' s y d e W1 μ l1 ok => ?_⟩
  · obtain ⟨v, e, _⟩ := r.get (List.getElem?_eq_getElem hi)
    exact ⟨vs, v, same_l s h, e⟩
  · obtain ⟨rfl, q⟩ := y
    obtain ⟨v, e1, r1⟩ := r.get e
    have e2 := q vs (same_l s h)
    rw [e1] at e2
    cases e2
    exact ⟨W1, Go.refl _ _, ok, r1.mono l1⟩
theorem walk_tup (z : ds.length ≤ sizeLine) (h : SqT K W.S a vs) (r : Reps K W vs ds) : Walk K W (Itt K a) ds := by
  have hl := r.length
  refine ⟨z, fun H i s hi => ?_, fun H i s hi => ⟨vs, same_t s h, by omega⟩, fun H i x H' s y d e W1 μ l1 ok => ?_⟩
  · obtain ⟨v, e, _⟩ := r.get (List.getElem?_eq_getElem hi)
    exact ⟨vs, v, same_t s h, e⟩
  · obtain ⟨rfl, q⟩ := y
    obtain ⟨v, e1, r1⟩ := r.get e
    have e2 := q vs (same_t s h)
    rw [e1] at e2
    cases e2
    exact ⟨W1, Go.refl _ _, ok, r1.mono l1⟩
/-- the signs of a text -/
def signs (x : Str) : List D := x.cps.toList.map fun c => .str ⟨#[c]⟩
theorem walk_str (x : Str) (z : x.length ≤ sizeLine) : Walk K W (Its x) (signs x) := by
  have hz : (signs x).length = x.cps.size := by simp [signs]
  refine ⟨by rw [hz]; exact z, fun H i s hi => by rw [hz] at hi; exact hi, fun H i s hi => by rw [hz] at hi; exact hi, fun H i v H' s y d e W1 μ l1 ok => ?_⟩
  obtain ⟨rfl, c, hc, rfl⟩ := y
  have e2 : (signs x)[i]? = some (.str ⟨#[c]⟩) := by
    unfold signs
    rw [List.getElem?_map, Array.getElem?_toList, hc]
    rfl
  rw [e2] at e
  cases e
  exact ⟨W1, Go.refl _ _, ok, .str _ (by show 1 ≤ sizeLine; decide)⟩
/-- numbers from lo on -/
def upto (lo : Int) : Nat → List D
  | 0 => []
  | n + 1 => .int lo :: upto (lo + 1) n
theorem upto_len : ∀ (lo : Int) (n : Nat), (upto lo n).length = n
  | _, 0 => rfl
  | lo, n + 1 => by rw [upto, List.length_cons, upto_len]
theorem upto_get : ∀ (lo : Int) (n i : Nat), i < n → (upto lo n)[i]? = some (.int (lo + i))
  | _, 0, _, h => by omega
  | lo, n + 1, 0, _ => by simp [upto]
  | lo, n + 1, i + 1, h => by
    rw [upto, List.getElem?_cons_succ, upto_get (lo + 1) n i (by omega)]
    congr 2
    omega
theorem walk_range (lo : Int) (n : Nat) (z : n ≤ sizeLine) : Walk K W (Itr lo n) (upto lo n) := by
  refine ⟨by rw [upto_len]; exact z, fun H i s hi => by rw [upto_len] at hi; exact hi, fun H i s hi => by rw [upto_len] at hi; exact hi, fun H i v H' s y d e W1 μ l1 ok => ?_⟩
  obtain ⟨rfl, rfl⟩ := y
  have hi : i < n := by
    have := (List.getElem?_eq_some_iff.mp e).1
    rw [upto_len] at this
    exact this
  rw [upto_get lo n i hi] at e
  cases e
  exact ⟨W1, Go.refl _ _, ok, .int _⟩
/-- numbered -/
def enumD (k : Int) : List D → List D
  | [] => []
  | x :: xs => .tup [.int k, x] :: enumD (k + 1) xs
theorem enumD_len : ∀ (k : Int) (xs : List D), (enumD k xs).length = xs.length
  | _, [] => rfl
  | k, x :: xs => by rw [enumD, List.length_cons, List.length_cons, enumD_len]
theorem enumD_get : ∀ (k : Int) (xs : List D) (i : Nat) (x : D), xs[i]? = some x → (enumD k xs)[i]? = some (.tup [.int (k + i), x])
  | _, [], _, _, h => by simp at h
  | k, y :: ys, 0, x, h => by
    simp at h
    subst h
    simp [enumD]
  | k, y :: ys, i + 1, x, h => by
    rw [enumD, List.getElem?_cons_succ, enumD_get (k + 1) ys i x (by simpa using h)]
    congr 4
    omega
theorem walk_enum (z : ds.length ≤ sizeLine) (h : SqL K W.S a vs) (r : Reps K W vs ds) : Walk K W (Ite K a) (enumD 0 ds) := by
  have hl := r.length
  refine ⟨by rw [enumD_len]; exact z, fun H i s hi => ?_, fun H i s hi => ⟨vs, same_l s h, by rw [enumD_len] at hi; omega⟩, fun H i x H' s y d e W1 μ l1 ok => ?_⟩
  · rw [enumD_len] at hi
    obtain ⟨v, e, _⟩ := r.get (List.getElem?_eq_getElem hi)
    exact ⟨vs, v, same_l s h, e⟩
  · obtain ⟨T, xv, rfl, hT, rfl, q⟩ := y
    have e2 := q vs (same_l s h)
    obtain ⟨xd, e3, r3⟩ := r.getV e2
    rw [enumD_get 0 ds i xd e3] at e
    cases e
    refine ⟨W1.new T (.tup [.int i, xv]), Go.new ok hT, ok.new hT, rep_tup ok hT (by show 2 ≤ sizeLine; decide) (.cons ?_ (.cons (r3.mono l1) .nil))⟩
    have : (0 : Int) + i = i := by omega
    rw [this]
    exact .int _
end
/-- the items of what is walked -/
def itemsD : D → Option (List D)
  | .lst xs => some xs
  | .tup xs => some xs
  | .str x => some (signs x)
  | _ => none
def itA (f : FE) : FA := fun ρ μ => (f ρ μ).bind fun d μ1 => R.of (itemsD d) μ1
def itR1 (f : FA) : FA := fun ρ μ => (f ρ μ).bind fun ds μ1 => match ds with
  | [.int n] => if n ≤ 1000000 ∧ -1000000 ≤ n then .ok (upto 0 n.toNat) μ1 else .bad
  | _ => .bad
def itR2 (f : FA) : FA := fun ρ μ => (f ρ μ).bind fun ds μ1 => match ds with
  | [.int m, .int n] => if n ≤ 1000000 ∧ -1000000 ≤ m ∧ m ≤ 1000000 ∧ -1000000 ≤ n then .ok (upto m (n - m).toNat) μ1 else .bad
  | _ => .bad
def itE (f : FA) : FA := fun ρ μ => (f ρ μ).bind fun ds μ1 => match ds with
  | [.lst xs] => .ok (enumD 0 xs) μ1
  | _ => .bad
theorem pi_or {X : Cx} {tg e : Expr} {t u : TI} (h : PI X tg e t) (h' : PI X tg e u) : PI X tg e (fun σ H Q => t σ H Q ∨ u σ H Q) := ⟨fun pins s σ H Q I q => by
  rcases q with q | q
  · exact h.run pins s σ H Q I q
  · exact h'.run pins s σ H Q I q⟩
section
variable {X : Cx} {E : WX} {tg e : Expr} {f : FE} {pos p : Pos}
theorem di_any (h : DE X E e f) : DI X E tg e (itA f) := by
  refine pi_imp (pi_or (pi_list h) (pi_or (pi_tup h) (pi_str h))) fun σ H Q ⟨W, ρ, μ, ok, en, p⟩ => ?_
  unfold itA at p
  revert p
  cases hf : f ρ μ with
  | ex c fs μ1 =>
    intro p
    refine .inl ⟨W, ρ, μ, ok, en, ?_⟩
    rw [hf]
    exact p
  | bad => exact fun p => p.elim
  | ok d μ1 =>
    rw [R.bind_ok]
    cases d with
    | lst xs =>
      intro p
      refine .inl ⟨W, ρ, μ, ok, en, ?_⟩
      rw [hf]
      intro W1 v H1 g1 o1 r
      cases r with
      | lst z h r => exact ⟨_, rfl, ⟨_, (same_lq o1.sub h).sq⟩, p W1 _ H1 g1 o1 (walk_list z h.sq r)⟩
    | tup xs =>
      intro p
      refine .inr (.inl ⟨W, ρ, μ, ok, en, ?_⟩)
      rw [hf]
      intro W1 v H1 g1 o1 r
      cases r with
      | tup z h r => exact ⟨_, rfl, ⟨_, same_t o1.sub h⟩, p W1 _ H1 g1 o1 (walk_tup z h r)⟩
    | str x =>
      intro p
      refine .inr (.inr ⟨W, ρ, μ, ok, en, ?_⟩)
      rw [hf]
      intro W1 v H1 g1 o1 r
      cases r with
      | str _ z => exact ⟨_, rfl, p W1 _ H1 g1 o1 (walk_str x z)⟩
    | _ => exact fun p => p.elim
theorem di_range1 {fa : FA} (hm : X.mg "range" = none) (ha : DA X E [e] fa) (hg : Gl X "range" := by rfl) (hs : starEach [e] X.env = [(false, eval e X.env)] := by rfl) : DI X E tg (.Call (.Name "range" p) [e] [] pos) (itR1 fa) := by
  refine pi_imp (pi_range1 hg hm ha hs) fun σ H Q ⟨W, ρ, μ, ok, en, p⟩ => ?_
  refine ⟨W, ρ, μ, ok, en, ?_⟩
  unfold itR1 at p
  revert p
  cases fa ρ μ with
  | ex c fs μ1 => exact fun p => p
  | bad => exact fun p => p.elim
  | ok ds μ1 =>
    rw [R.bind_ok]
    intro p W1 vs H1 g1 o1 r
    match ds, r, p with
    | [.int n], .cons r .nil, p =>
      cases r
      dsimp only at p
      by_cases hn : n ≤ 1000000 ∧ -1000000 ≤ n
      · rw [if_pos hn] at p
        exact ⟨n, rfl, by omega, by omega, p W1 _ H1 g1 o1 (walk_range 0 n.toNat (by show n.toNat ≤ 16777216; omega))⟩
      · rw [if_neg hn] at p
        exact p.elim
theorem di_range2 {e2 : Expr} {fa : FA} (hm : X.mg "range" = none) (ha : DA X E [e, e2] fa) (hg : Gl X "range" := by rfl) (hs : starEach [e, e2] X.env = [(false, eval e X.env), (false, eval e2 X.env)] := by rfl) (hs2 : starEach [e2] X.env = [(false, eval e2 X.env)] := by rfl) : DI X E tg (.Call (.Name "range" p) [e, e2] [] pos) (itR2 fa) := by
  refine pi_imp (pi_range2 hg hm ha hs hs2) fun σ H Q ⟨W, ρ, μ, ok, en, p⟩ => ?_
  refine ⟨W, ρ, μ, ok, en, ?_⟩
  unfold itR2 at p
  revert p
  cases fa ρ μ with
  | ex c fs μ1 => exact fun p => p
  | bad => exact fun p => p.elim
  | ok ds μ1 =>
    rw [R.bind_ok]
    intro p W1 vs H1 g1 o1 r
    match ds, r, p with
    | [.int m, .int n], .cons r (.cons r' .nil), p =>
      cases r
      cases r'
      dsimp only at p
      by_cases hn : n ≤ 1000000 ∧ -1000000 ≤ m ∧ m ≤ 1000000 ∧ -1000000 ≤ n
      · rw [if_pos hn] at p
        exact ⟨m, n, rfl, ⟨by omega, by omega, by omega, by omega⟩, p W1 _ H1 g1 o1 (walk_range m (n - m).toNat (by show (n - m).toNat ≤ 16777216; omega))⟩
      · rw [if_neg hn] at p
        exact p.elim
theorem di_enum {fa : FA} {tpos : Pos} {elts : List Expr} {kk : Nat} (hm : X.mg "enumerate" = none) (ha : DA X E [e] fa) (hg : Gl X "enumerate" := by rfl) (hs : starEach [e] X.env = [(false, eval e X.env)] := by rfl) : DI X E (.Tuple elts kk tpos) (.Call (.Name "enumerate" p) [e] [] pos) (itE fa) := by
  refine pi_imp (pi_enum hg hm ha hs) fun σ H Q ⟨W, ρ, μ, ok, en, p⟩ => ?_
  refine ⟨W, ρ, μ, ok, en, ?_⟩
  unfold itE at p
  revert p
  cases fa ρ μ with
  | ex c fs μ1 => exact fun p => p
  | bad => exact fun p => p.elim
  | ok ds μ1 =>
    rw [R.bind_ok]
    intro p W1 vs H1 g1 o1 r
    match ds, r, p with
    | [.lst xs], .cons r .nil, p =>
      cases r with
      | lst z h r => exact ⟨_, _, rfl, (same_lq o1.sub h).sq, p W1 _ H1 g1 o1 (walk_enum z h.sq r)⟩
end

/-! ### displays -/
def dtup (f : FA) : FE := fun ρ μ => (f ρ μ).bind fun ds μ1 => if ds.length ≤ 1000000 then .ok (.tup ds) μ1 else .bad
def dlst (f : FA) : FE := fun ρ μ => (f ρ μ).bind fun ds μ1 => if ds.length ≤ 1000000 then .ok (.lst ds) μ1 else .bad
/-- a list that is changed later: a cell -/
def dcel (f : FA) : FE := fun ρ μ => (f ρ μ).bind fun ds μ1 => if ds.length ≤ 1000000 then .ok (.hdl μ1.length) (μ1 ++ [.lst ds]) else .bad
/-- a cell's list that never changes any more -/
def dfrz (f : FE) : FE := fun ρ μ => (f ρ μ).bind fun d μ1 => match d with
  | .hdl l => match μ1[l]? with
    | some (.lst xs) => if xs.length ≤ 1000000 then .ok (.lst xs) (μ1.set l .gone) else .bad
    | _ => .bad
  | _ => .bad
section
variable {X : Cx} {E : WX} {e : Expr} {es : List Expr} {f : FE} {fa : FA} {pos : Pos}
theorem le_line {n : Nat} (h : n ≤ 1000000) : n ≤ sizeLine := Nat.le_trans h (by decide)
theorem de_tup {x1 : Nat} (h : DA X E es fa) : DE X E (.Tuple es x1 pos) (dtup fa) := pe_imp (pe_tup h) fun σ H Q ⟨W, ρ, μ, ok, en, p⟩ => by
  refine seqA p ok en fun ds μ1 W1 xs H1 g1 o1 en1 r p1 => ?_
  by_cases hn : ds.length ≤ 1000000
  · rw [if_pos hn] at p1
    exact ⟨by rw [r.length]; exact le_line hn, fun q hq => p1 _ _ _ (Go.new o1 hq) (o1.new hq) (rep_tup o1 hq (le_line hn) r)⟩
  · rw [if_neg hn] at p1
    exact p1.elim
theorem de_lst (h : DA X E es fa) : DE X E (.List es pos) (dlst fa) := pe_imp (pe_lst h) fun σ H Q ⟨W, ρ, μ, ok, en, p⟩ => by
  refine seqA p ok en fun ds μ1 W1 xs H1 g1 o1 en1 r p1 => ?_
  by_cases hn : ds.length ≤ 1000000
  · rw [if_pos hn] at p1
    exact ⟨by rw [r.length]; exact le_line hn, fun q hq => p1 _ _ _ (Go.new o1 hq) (o1.new hq) (rep_lst o1 hq (le_line hn) r)⟩
  · rw [if_neg hn] at p1
    exact p1.elim
theorem de_cel (h : DA X E es fa) : DE X E (.List es pos) (dcel fa) := pe_imp (pe_lst h) fun σ H Q ⟨W, ρ, μ, ok, en, p⟩ => by
  refine seqA p ok en fun ds μ1 W1 xs H1 g1 o1 en1 r p1 => ?_
  by_cases hn : ds.length ≤ 1000000
  · rw [if_pos hn] at p1
    refine ⟨by rw [r.length]; exact le_line hn, fun q hq => p1 (W1.cell q) _ _ (Go.cell o1 hq) (o1.newcell hq ⟨xs, rfl, r⟩) (.hdl ?_)⟩
    show (W1.io ++ [q])[μ1.length]? = some q
    rw [← o1.len]
    simp
  · rw [if_neg hn] at p1
    exact p1.elim
theorem de_frz (h : DE X E e f) : DE X E e (dfrz f) := pe_imp h fun σ H Q ⟨W, ρ, μ, ok, en, p⟩ => by
  refine seq p ok en fun d μ1 W1 v H1 g1 o1 en1 r p1 => ?_
  cases d with
  | hdl l =>
    cases r with
    | @hdl a _ ha =>
      revert p1
      dsimp only
      cases hm : μ1[l]? with
      | none => exact fun p => p.elim
      | some m =>
        cases m with
        | lst xs =>
          by_cases hn : xs.length ≤ 1000000
          · dsimp only
            rw [if_pos hn]
            intro p1
            obtain ⟨o, ho, vs, rfl, rs⟩ := o1.cell l a _ ha hm
            obtain ⟨ok2, g2⟩ := o1.freeze ha hm (fun z => nomatch z) ho
            exact p1 _ _ _ g2 ok2 (.lst (le_line hn) (.inl (.inl (show upd W1.S a (.lst vs) a = _ from upd_same))) (rs.mono g2.le))
          · dsimp only
            rw [if_neg hn]
            exact fun p => p.elim
        | _ => exact fun p => p.elim
  | _ => exact p1.elim
end
end DL
/-! DL3: defs and their calls. -/
namespace DL
open PySem L2

/-! ### no handle from n on -/
mutual
def D.closed (n : Nat) : D → Bool
  | .hdl l => decide (l < n)
  | .tup xs => D.closedL n xs
  | .lst xs => D.closedL n xs
  | .obj _ fs => D.closedF n fs
  | _ => true
def D.closedL (n : Nat) : List D → Bool
  | [] => true
  | x :: xs => x.closed n && D.closedL n xs
def D.closedF (n : Nat) : List (Str × D) → Bool
  | [] => true
  | (_, x) :: xs => x.closed n && D.closedF n xs
end
theorem closedF_zip {n : Nat} : ∀ {ns : List Str} {ds : List D}, D.closedF n (ns.zip ds) = true → ns.length = ds.length → D.closedL n ds = true
  | [], [], _, _ => by simp [D.closedL]
  | [], _ :: _, _, e => by cases e
  | _ :: _, [], _, e => by cases e
  | m :: ns, d :: ds, h, e => by
    simp [D.closedF, D.closedL] at h ⊢
    exact ⟨h.1, closedF_zip h.2 (by simpa using e)⟩
def MO.closed (n : Nat) : MO → Bool
  | .lst xs => D.closedL n xs
  | .dct _ xs => D.closedL n xs
  | .dtt _ xs => D.closedL n xs
  | .ins _ _ xs => D.closedL n xs
  | .gone => true
theorem take_get {l : List Addr} {n i : Nat} {a : Addr} (h : l[i]? = some a) (hi : i < n) : (l.take n)[i]? = some a := by
  rw [List.getElem?_take_of_lt hi]
  exact h
mutual
theorem Rep.cut {K : PySem.W.Frag} {W : Wd} {n : Nat} : ∀ {v : V} {d : D}, d.closed n = true → Rep K W v d → Rep K ⟨W.S, W.io.take n⟩ v d
  | _, _, _, .non => .non
  | _, _, _, .bl b => .bl b
  | _, _, _, .int i => .int i
  | _, _, _, .str x z => .str x z
  | _, _, c, .tup z h r => .tup z h (Reps.cut (by simpa [D.closed] using c) r)
  | _, _, c, .lst z h r => .lst z h (Reps.cut (by simpa [D.closed] using c) r)
  | _, _, c, .hdl h => .hdl (take_get h (by simpa [D.closed] using c))
  | _, _, _, .cst v => .cst v
  | _, _, _, .glo c => .glo c
  | _, _, c, .obj h e r => .obj h e (Reps.cut (closedF_zip (by simpa [D.closed] using c) (e.trans r.length)) r)
theorem Reps.cut {K : PySem.W.Frag} {W : Wd} {n : Nat} : ∀ {vs : List V} {ds : List D}, D.closedL n ds = true → Reps K W vs ds → Reps K ⟨W.S, W.io.take n⟩ vs ds
  | _, _, _, .nil => .nil
  | _, _, c, .cons r t => by
    simp [D.closedL] at c
    exact .cons (Rep.cut c.1 r) (Reps.cut c.2 t)
end
theorem CellO.cut {K : PySem.W.Frag} {W : Wd} {n : Nat} : ∀ {m : MO} {o : HO}, m.closed n = true → CellO K W m o → CellO K ⟨W.S, W.io.take n⟩ m o
  | .lst ds, _, c, ⟨vs, e, r⟩ => ⟨vs, e, r.cut c⟩
  | .dct ks ds, _, c, ⟨vs, e, z, r⟩ => ⟨vs, e, z, r.cut c⟩
  | .dtt ks ds, _, c, ⟨vs, e, z, r⟩ => ⟨vs, e, z, r.cut c⟩
  | .ins C ns ds, _, c, ⟨dx, vs, e, z, r⟩ => ⟨dx, vs, e, z, r.cut c⟩
  | .gone, _, _, h => h
def closedMu (n : Nat) (μ : Mu) : Bool := (μ.take n).all (·.closed n)
/-- a def's answer: its own cells are forgotten where nothing points there -/
def trunc (n : Nat) (d : D) (μ : Mu) : R D := if (d.closed n && closedMu n μ) = true then .ok d (μ.take n) else .ok d μ
def truncX (n : Nat) (c : Nat) (fs : List (Str × D)) (μ : Mu) : R D := if (D.closedF n fs && closedMu n μ) = true then .ex c fs (μ.take n) else .ex c fs μ
theorem Ok.cut {K : PySem.W.Frag} {W : Wd} {H : Hp} {μ : Mu} {n : Nat} (ok : Ok K W H μ) (c : closedMu n μ = true) : Ok K ⟨W.S, W.io.take n⟩ H (μ.take n) := by
  have get : ∀ (l : Nat) a m, (W.io.take n)[l]? = some a → (μ.take n)[l]? = some m → l < n ∧ W.io[l]? = some a ∧ μ[l]? = some m := fun l a m e1 e2 => by
    have hl : l < n := by
      have := (List.getElem?_eq_some_iff.mp e1).1
      rw [List.length_take] at this
      omega
    rw [List.getElem?_take_of_lt hl] at e1 e2
    exact ⟨hl, e1, e2⟩
  refine ⟨ok.sub, by simp [ok.len], ok.nd.sublist (List.take_sublist _ _), fun l a m e1 e2 z => ?_, fun l a m e1 e2 => ?_⟩
  · obtain ⟨_, e1, e2⟩ := get l a m e1 e2
    exact ok.apart l a m e1 e2 z
  · have hm : m.closed n = true := by
      unfold closedMu at c
      exact List.all_eq_true.mp c m (List.mem_of_getElem? e2)
    obtain ⟨_, e1, e2⟩ := get l a m e1 e2
    obtain ⟨o, ho, r⟩ := ok.cell l a m e1 e2
    exact ⟨o, ho, r.cut hm⟩
theorem Go.cut {W W' : Wd} {H H' : Hp} (g : Go W H W' H') : Go W H ⟨W'.S, W'.io.take W.io.length⟩ H' := by
  have e : W'.io.take W.io.length = W.io := by
    obtain ⟨t, ht⟩ := g.le.io
    rw [← ht]
    simp
  refine ⟨⟨g.le.s, by rw [e]; exact List.prefix_refl _⟩, g.kept, g.grow, fun a h => ?_, g.newS⟩
  have h : a ∈ W'.io.take W.io.length := h
  rw [e] at h
  exact .inl h
theorem ExcIs.cut {K : PySem.W.Frag} {W : Wd} {H : Hp} {n : Nat} {fs : List (Str × D)} {d : Option Addr} (c : D.closedF n fs = true) (x : ExcIs K W H fs d) : ExcIs K ⟨W.S, W.io.take n⟩ H fs d := by
  rcases x with x | ⟨a, ns, vs, ds, h1, h2, h3, h4, h5, h6, h7⟩
  · exact .inl x
  · subst h3
    exact .inr ⟨a, ns, vs, ds, h1, h2, rfl, h4, h5.cut (closedF_zip c (h4.trans h5.length)), h6, fun z => h7 (List.mem_of_mem_take z)⟩

/-! ### a def's answer by its body -/
def startD (n : Nat) (ds : List D) : En := ds.map some ++ List.replicate (n - ds.length) none
def callF (n : Nat) (g : FS) (ds : List D) (μ : Mu) : R D := match g (startD n ds) μ with
  | .rt d μ1 => trunc μ.length d μ1
  | .nx _ μ1 => trunc μ.length .non μ1
  | .ex _ c fs μ1 => truncX μ.length c fs μ1
  | _ => .bad
theorem envs_start {K : PySem.W.Frag} {W : Wd} {N : List Str} {vs : List V} {ds : List D} (r : Reps K W vs ds) : Envs K W (start N vs) (startD N.length ds) := by
  have hl := r.length
  unfold L2.start startD
  refine ⟨by simp [hl], fun i d e => ?_⟩
  by_cases h : i < ds.length
  · rw [List.getElem?_append_left (by simpa using h), List.getElem?_map] at e
    cases q : ds[i]? with
    | none => rw [q] at e; cases e
    | some d' =>
      rw [q] at e
      cases e
      obtain ⟨v, e1, r1⟩ := r.get q
      refine ⟨v, ?_, r1⟩
      rw [List.getElem?_append_left (by rw [List.length_map, hl]; exact h), List.getElem?_map, e1]
      rfl
  · rw [List.getElem?_append_right (by simpa using h)] at e
    have := List.mem_of_getElem? e
    simp at this
/-- a def that keeps F, by at most level k, where no repr is under way -/
structure FnG (P : Program) (w : World) (K : PySem.W.Frag) (mg : Str → Option Value) (base : Heap) (k : Nat) (f : Addr) (fd : FuncData) (ps : List Str) (F : List D → Mu → R D) : Prop where
  run : ∀ (A : Around) (outer : List Env) (s : Shared) (H : Hp) (args : Args) (us : List Value) (vs : List V) (Q : VK) (E : XK) (W : Wd) (ds : List D) (μ : Mu), Room k A → A.guards = some [] → Env0 P w K mg base A outer s H →
    us.length = ps.length → BindsTo s fd args (ps.zip us) → Vals vs us → Ok K W H μ → Reps K W vs ds → postE K E W H (F ds μ) Q → codeAny (model P w) A (.call (.ref f) args) (CR (L2.CX P w) outer P w H s Q E) s
theorem FnG.mono {P : Program} {w : World} {K : PySem.W.Frag} {mg : Str → Option Value} {base : Heap} {j k : Nat} {f : Addr} {fd : FuncData} {ps : List Str} {F : List D → Mu → R D} (h : FnG P w K mg base j f fd ps F) (l : j ≤ k) : FnG P w K mg base k f fd ps F :=
  ⟨fun A outer s H args us vs Q E W ds μ hr => h.run A outer s H args us vs Q E W ds μ (hr.mono l)⟩
/-- .. another function that is the same where it is no bad one -/
theorem FnG.congr {P : Program} {w : World} {K : PySem.W.Frag} {mg : Str → Option Value} {base : Heap} {k : Nat} {f : Addr} {fd : FuncData} {ps : List Str} {F G : List D → Mu → R D} (h : FnG P w K mg base k f fd ps F) (e : ∀ ds μ, ds.length = ps.length → G ds μ ≠ .bad → F ds μ = G ds μ) : FnG P w K mg base k f fd ps G :=
  ⟨fun A outer s H args us vs Q E W ds μ hr hg e0 hl hb rv ok r p => h.run A outer s H args us vs Q E W ds μ hr hg e0 hl hb rv ok r (by
    have hd : ds.length = ps.length := by rw [← r.length, rv.length, hl]
    have hn : G ds μ ≠ .bad := fun z => by rw [z] at p; exact p
    rw [e ds μ hd hn]
    exact p)⟩
/-- where no argument has a handle the cells are nothing to it -/
def framed (F : List D → Mu → R D) (ds : List D) (μ : Mu) : R D := if D.closedL 0 ds = true then (match F ds [] with
    | .ok d μ1 => if d.closed 0 = true then .ok d μ else F ds μ
    | .ex c fs μ1 => if D.closedF 0 fs = true then .ex c fs μ else F ds μ
    | .bad => .bad) else F ds μ
theorem Ok.none {K : PySem.W.Frag} {W : Wd} {H : Hp} {μ : Mu} (ok : Ok K W H μ) : Ok K ⟨W.S, []⟩ H [] :=
  ⟨ok.sub, rfl, List.nodup_nil, fun l a o e => by simp at e, fun l a o e => by simp at e⟩
theorem Go.back {K : PySem.W.Frag} {W W' : Wd} {H H' : Hp} {μ μ1 : Mu} (ok : Ok K W H μ) (g : Go ⟨W.S, []⟩ H W' H') (o : Ok K W' H' μ1) : Go W H ⟨W'.S, W.io⟩ H' ∧ Ok K ⟨W'.S, W.io⟩ H' μ := by
  have le : Le W ⟨W'.S, W.io⟩ := ⟨g.le.s, List.prefix_refl _⟩
  have nw : ∀ a u, W'.S a = some u → W.S a = some u ∨ H a = .none := fun a u e => by
    rcases g.newS a u e with z | z | z
    · exact .inl z
    · exact .inr z
    · cases z
  refine ⟨⟨le, fun a u e _ => g.kept a u e (by simp), g.grow, fun a e => .inl e, fun a u e => ?_⟩, ⟨o.sub, ok.len, ok.nd, fun l a m e1 e2 n => ?_, fun l a m e1 e2 => (ok.cell l a m e1 e2).mono le fun u e => g.kept a u e (by simp)⟩⟩
  · rcases nw a u e with z | z
    · exact .inl z
    · exact .inr (.inl z)
  · show W'.S a = .none
    cases e : W'.S a with
    | none => rfl
    | some u =>
      rcases nw a u e with z | z
      · rw [ok.apart l a m e1 e2 n] at z
        cases z
      · obtain ⟨v, hv, _⟩ := ok.cell l a m e1 e2
        rw [z] at hv
        cases hv
theorem Le.io0 {S : Hp} {io : List Addr} : Le ⟨S, []⟩ ⟨S, io⟩ := ⟨Same.refl _, List.nil_prefix⟩
theorem FnG.framed {P : Program} {w : World} {K : PySem.W.Frag} {mg : Str → Option Value} {base : Heap} {k : Nat} {f : Addr} {fd : FuncData} {ps : List Str} {F : List D → Mu → R D} (h : FnG P w K mg base k f fd ps F) : FnG P w K mg base k f fd ps (DL.framed F) := by
  refine ⟨fun A outer s H args us vs Q E W ds μ hr hg e0 hl hb rv ok r p => ?_⟩
  have plain : postE K E W H (F ds μ) Q → codeAny (model P w) A (.call (.ref f) args) (CR (L2.CX P w) outer P w H s Q E) s := fun p => h.run A outer s H args us vs Q E W ds μ hr hg e0 hl hb rv ok r p
  unfold DL.framed at p
  by_cases c : D.closedL 0 ds = true
  · rw [if_pos c] at p
    have r0 : Reps K ⟨W.S, []⟩ vs ds := by
      have := r.cut c
      rwa [List.take_zero] at this
    cases hF : F ds [] with
    | ok d μ1 =>
      rw [hF] at p
      dsimp only at p
      by_cases cd : d.closed 0 = true
      · rw [if_pos cd] at p
        refine h.run A outer s H args us vs Q E ⟨W.S, []⟩ ds [] hr hg e0 hl hb rv ok.none r0 ?_
        rw [hF]
        intro W' v H' g o r'
        obtain ⟨g2, o2⟩ := Go.back ok g o
        refine p ⟨W'.S, W.io⟩ v H' g2 o2 ?_
        have r2 := r'.cut cd
        rw [List.take_zero] at r2
        exact r2.mono Le.io0
      · rw [if_neg cd] at p
        exact plain p
    | ex cc fs μ1 =>
      rw [hF] at p
      dsimp only at p
      by_cases cd : D.closedF 0 fs = true
      · rw [if_pos cd] at p
        refine h.run A outer s H args us vs Q E ⟨W.S, []⟩ ds [] hr hg e0 hl hb rv ok.none r0 ?_
        rw [hF]
        intro W' H' d g o x
        obtain ⟨g2, o2⟩ := Go.back ok g o
        refine p ⟨W'.S, W.io⟩ H' d g2 o2 ?_
        have x2 := x.cut cd
        rw [List.take_zero] at x2
        rcases x2 with z | ⟨a, ns, vs', ds', z1, z2, z3, z4, z5, z6, z7⟩
        · exact .inl z
        · refine .inr ⟨a, ns, vs', ds', z1, z2, z3, z4, z5.mono Le.io0, z6, fun hm => ?_⟩
          have hm : a ∈ W.io := hm
          obtain ⟨l, hl, el⟩ := List.mem_iff_getElem.mp hm
          have hμ : l < μ.length := by rw [← ok.len]; exact hl
          obtain ⟨u, hu, cu⟩ := ok.cell l a μ[l] (by rw [List.getElem?_eq_getElem hl, el]) (List.getElem?_eq_getElem hμ)
          have hk := g.kept a u hu (by simp)
          rw [z2] at hk
          cases hk
          exact cu.notxd _ rfl
      · rw [if_neg cd] at p
        exact plain p
    | bad =>
      rw [hF] at p
      exact p.elim
  · rw [if_neg c] at p
    exact plain p
/-- the calm context of a body -/
structure Cal (X : Cx) (E : WX) (k : Nat) : Prop where
  room : Room k X.A
  guards : X.A.guards = some []
  take : Takes X E
theorem Cal.pass {X : Cx} {E : WX} {k : Nat} (c : Cal X E k) : ∀ σ, PassesAt (L2.CX X.prog X.w) X σ (WE E σ) := passAt c.take
theorem take0 {X : Cx} : Takes X E0 := takes0
theorem pass0 {X : Cx} : ∀ σ, PassesAt (L2.CX X.prog X.w) X σ (WE E0 σ) := fun _ _ _ _ _ _ _ h => by
  obtain ⟨_, _, _, _, _, _, _, _, _, _, _, _, z⟩ := h
  exact z.elim
theorem Cal.mono {X : Cx} {E : WX} {j k : Nat} (c : Cal X E k) (h : j ≤ k) : Cal X E j := ⟨c.room.mono h, c.guards, c.take⟩
theorem Cal.blk {X : Cx} {E : WX} {k : Nat} (c : Cal X E k) (s : Shared) (H : Hp) (scope : Scope) (env : Env) (fp : List Addr) : Cal (X.blk s H scope env fp) E0 k := ⟨c.room, c.guards, take0⟩
theorem trunc_post {K : PySem.W.Frag} {E : XK} {W W' : Wd} {H H' : Hp} {μ μ1 : Mu} {d : D} {v : V} {Q : VK} (hl : W.io.length = μ.length) (p : postE K E W H (trunc μ.length d μ1) Q) (g : Go W H W' H') (o : Ok K W' H' μ1) (r : Rep K W' v d) : Q v H' := by
  unfold trunc at p
  by_cases c : (d.closed μ.length && closedMu μ.length μ1) = true
  · rw [if_pos c] at p
    simp only [Bool.and_eq_true] at c
    have g' := g.cut
    rw [hl] at g'
    exact p _ v H' g' (o.cut c.2) (r.cut c.1)
  · rw [if_neg c] at p
    exact p W' v H' g o r
theorem truncX_post {K : PySem.W.Frag} {E : XK} {W W' : Wd} {H H' : Hp} {μ μ1 : Mu} {c : Nat} {fs : List (Str × D)} {d : Option Addr} {Q : VK} (hl : W.io.length = μ.length) (p : postE K E W H (truncX μ.length c fs μ1) Q) (g : Go W H W' H') (o : Ok K W' H' μ1) (r : ExcIs K W' H' fs d) : E (.ref (cl K c)) d H' := by
  unfold truncX at p
  by_cases z : (D.closedF μ.length fs && closedMu μ.length μ1) = true
  · rw [if_pos z] at p
    simp only [Bool.and_eq_true] at z
    have g' := g.cut
    rw [hl] at g'
    exact p _ H' d g' (o.cut z.2) (r.cut z.1)
  · rw [if_neg z] at p
    exact p W' H' d g o r
section
variable {P : Program} {w : World} {K : PySem.W.Frag} {mg : Str → Option Value} {base : Heap}
theorem pass_body {N : List Str} {qual : Str} {scope : Scope} {f : Addr} {cd : Value} {A : Around} {outer : List Env} {s : Shared} {H : Hp} {E : XK} : Passes (L2.CX P w) (cxOf (L2.CX P w) P w K mg base N qual scope f cd A outer s H E) E :=
  fun pins σ H' s' e s2 I h => by
    have tk : Takes (cxOf (L2.CX P w) P w K mg base N qual scope f cd A outer s H E) (fun cls d _ H => E cls d H) := takes_of rfl rfl rfl rfl
    exact tk e s2 (XE.of_call I (fun cls d H' h => h) h)
/-- a def's body keeps its F -/
theorem fn_body {k : Nat} {f : Addr} {name qual : Str} {params : Arguments} {body : List Stmt} {scope : Scope} {dV kV doc pm cdv ct oc : Value} {an od : Option Addr} {osl : Array (Option Value)} {N ps : List Str} {g : FS}
    (lk : K.lookup f = some ⟨oc, od, .func (PySem.W.fnOf name qual params body scope dV kV doc pm an cdv ct), osl⟩) (hcd : PySem.W.codeIn K cdv qual = true) (sc : FnScope N ps scope)
    (hb : ∀ (A : Around) (outer : List Env) (s : Shared) (H : Hp) (E : XK), Cal (cxOf (L2.CX P w) P w K mg base N qual scope f cdv A outer s H E) (lift E) k → DSs (cxOf (L2.CX P w) P w K mg base N qual scope f cdv A outer s H E) (lift E) body g) :
    FnG P w K mg base (k + 1) f (PySem.W.fnOf name qual params body scope dV kV doc pm an cdv ct) ps (callF N.length g) := by
  refine ⟨fun A outer s H args us vs Q E W ds μ hr hg e0 hl hbd rv ok r p => ?_⟩
  have hvl : vs.length = ps.length := by rw [rv.length, hl]
  have kin : K.In s.heap := e0.mod.kin.keeps fun b o e => (e0.bs b o e).1
  have nl : s.heap.NoLimit := e0.mod.nolimit.keeps fun b o e => (e0.bs b o e).1
  have kinds : ∀ y ∈ ps.zip us, scope.names.lookup y.1 = some .local ∨ (scope.names.lookup y.1 = some .cell ∧ ((cellsFrom (s.heap.objs.size + 1) scope.names []).lookup y.1).isSome = true) := by
    rintro ⟨n, v⟩ hy
    rcases sc.par n (List.of_mem_zip hy).1 with q | q
    · exact .inl q
    · exact .inr ⟨q, PySem.W.cellsFrom_some _ _ _ (.inl q)⟩
  have X0 : Cal (cxOf (L2.CX P w) P w K mg base N qual scope f cdv A outer s H E) (lift E) k :=
    ⟨hr.deeper _, hg, takes_of rfl rfl rfl rfl⟩
  refine codeAny_call_function hr.depth (kin _ _ lk) rfl sc.co sc.gen rfl (PySem.W.codeRec_of kin hcd) (hbd _ _ _ _ ?_)
  refine wpAny_newFunctionEnv_cells sc.kind kinds fun env he s1 x => ?_
  subst he
  refine ⟨nl.keeps x.toInCall.keep, codeAny_func ?_⟩
  have I0 : Inv (cxOf (L2.CX P w) P w K mg base N qual scope f cdv A outer s H E) [] (start N vs) H s1 := inv_start sc hr.hd e0 hvl rv x
  have rd : rS K (lift E) g { nx := fun _ H' => Q .non H', rt := Q } (start N vs) H := by
    refine ⟨W, startD N.length ds, μ, ok, envs_start r, ?_⟩
    unfold callF at p
    revert p
    cases g (startD N.length ds) μ with
    | rt d μ1 => exact fun p W' v H' g o r => trunc_post ok.len p g o r
    | nx ρ1 μ1 => exact fun p W' σ' H' g o _ => trunc_post ok.len p g o .non
    | ex ρ1 c fs μ1 => exact fun p W' σ' H' d g o _ r => truncX_post ok.len p g o r
    | bk _ _ => exact fun p => p.elim
    | ct _ _ => exact fun p => p.elim
    | bad => exact fun p => p
  refine wpAny_mono ((hb A outer s H E X0).run [] s1 (start N vs) H _ I0 rd) (fun fl s2 hs => ?_) fun e s2 hs => hs
  have fin : ∀ {σ' : St} {H' : Hp} {v : V} {u : Value}, Inv (cxOf (L2.CX P w) P w K mg base N qual scope f cdv A outer s H E) [] σ' H' s2 → RelV v u → Q v H' → CE outer P w H s Q u s2 :=
    fun {σ' H' v u} J rr q => ⟨v, H', J.os, J.bare, J.base, J.hok, rr, q⟩
  cases fl with
  | ret u =>
    have ⟨v, σ', H', J, rr, q⟩ := hs
    exact fin J rr q
  | next =>
    have ⟨σ', H', J, q⟩ := hs
    exact fin (v := V.non) (u := Value.none) J rfl q
  | brk =>
    have ⟨_, _, _, q⟩ := hs
    exact absurd q id
  | cont =>
    have ⟨_, _, _, q⟩ := hs
    exact absurd q id
theorem Fun.g {x qual : Str} {st : Stmt} {f : Addr} {fd : FuncData} {N ps : List Str} {k : Nat} {g : FS} (F : Fun K x qual st f fd) (sc : FnScope N ps (defScope st))
    (hb : ∀ (cdv : Value) (A : Around) (outer : List Env) (s : Shared) (H : Hp) (E : XK), Cal (cxOf (L2.CX P w) P w K mg base N qual (defScope st) f cdv A outer s H E) (lift E) k → DSs (cxOf (L2.CX P w) P w K mg base N qual (defScope st) f cdv A outer s H E) (lift E) (defBody st) g) :
    FnG P w K mg base (k + 1) f fd ps (callF N.length g) := by
  obtain ⟨oc, od, kV, doc, pm, an, cdv, ct, osl, rfl, lk, hcd⟩ := F.ex
  exact fn_body lk hcd sc (hb cdv)
theorem FunD.g {x qual : Str} {params : Arguments} {body : List Stmt} {scope : Scope} {dvs : List V} {kws : List (Str × V)} {f : Addr} {fd : FuncData} {N ps : List Str} {k : Nat} {g : FS} (F : FunD K x qual params body scope dvs kws f fd) (sc : FnScope N ps scope)
    (hb : ∀ (cdv : Value) (A : Around) (outer : List Env) (s : Shared) (H : Hp) (E : XK), Cal (cxOf (L2.CX P w) P w K mg base N qual scope f cdv A outer s H E) (lift E) k → DSs (cxOf (L2.CX P w) P w K mg base N qual scope f cdv A outer s H E) (lift E) body g) :
    FnG P w K mg base (k + 1) f fd ps (callF N.length g) := by
  obtain ⟨oc, od, dV, kV, doc, pm, an, cdv, ct, osl, rfl, lk, hcd, _, _⟩ := F.ex
  exact fn_body lk hcd sc (hb cdv)
end

/-! ### calls -/
def HasLen (fa : FA) (n : Nat) : Prop := ∀ ρ μ ds μ1, fa ρ μ = .ok ds μ1 → ds.length = n
theorem aNil_len : HasLen aNil 0 := fun ρ μ ds μ1 h => by
  unfold aNil at h
  cases h
  rfl
theorem aCons_len {f : FE} {g : FA} {n : Nat} (h : HasLen g n) : HasLen (aCons f g) (n + 1) := fun ρ μ ds μ1 e => by
  unfold aCons at e
  cases hf : f ρ μ with
  | ok d μ2 =>
    rw [hf, R.bind_ok] at e
    cases hg : g ρ μ2 with
    | ok es μ3 =>
      rw [hg, R.bind_ok] at e
      cases e
      rw [List.length_cons, h _ _ _ _ hg]
    | ex c fs μ3 => rw [hg] at e; cases e
    | bad => rw [hg] at e; cases e
  | ex c fs μ2 => rw [hf] at e; cases e
  | bad => rw [hf] at e; cases e
def dcall (F : List D → Mu → R D) (dd : List D) (fa : FA) : FE := fun ρ μ => (fa ρ μ).bind fun ds μ1 => F (ds ++ dd) μ1
section
variable {X : Cx} {E : WX} {k : Nat} {f : Addr} {fd : FuncData} {ps : List Str} {F : List D → Mu → R D} {dvs : List V} {dd : List D} {d0 : List Value} {x : Str} {p pos : Pos} {e : Expr} {es : List Expr} {fa : FA}
theorem run_g {pins : List (Addr × Obj)} {σ : St} {H : Hp} {s : Shared} {Q : VK} {us : List Value} {vs : List V} {args : Args} {W : Wd} {ds : List D} {μ : Mu} (G : FnG X.prog X.w X.K X.mg X.base k f fd ps F) (c : Cal X E k)
    (I : Inv X pins σ H s) (hl : us.length = ps.length) (hb : BindsTo s fd args (ps.zip us)) (rv : Vals vs us) (ok : Ok X.K W H μ) (r : Reps X.K W vs ds) (q : postE X.K (WE E σ) W H (F ds μ) Q) :
    codeAny (model X.prog X.w) X.A (.call (.ref f) args) (callEnd (EP X pins σ Q) X.xe) s := by
  refine codeAny_mono (G.run X.A X.stack s H args us vs Q (WE E σ) W ds μ c.room c.guards I.env0 hl hb rv ok r q) fun z s2 hz => ?_
  match z, hz with
  | .error e, hz => exact c.pass σ pins H s e s2 I hz
  | .ok (.ret u), hz => exact I.after hz
/-- the defaults that fill up -/
structure Dfl (K : PySem.W.Frag) (fd : FuncData) (ps : List Str) (n : Nat) (dd : List D) : Prop where
  ex : ∃ (dvs : List V) (d0 : List Value), Vals dvs d0 ∧ (∀ W, Reps K W dvs dd) ∧ n + d0.length = ps.length ∧ Binds K fd ps d0
theorem dfl0 {K : PySem.W.Frag} {fd : FuncData} {ps : List Str} (b : Binds K fd ps []) : Dfl K fd ps ps.length [] := ⟨[], [], .nil, fun _ => .nil, rfl, b⟩
theorem callF_args {pins : List (Addr × Obj)} {σ : St} {H : Hp} {s : Shared} {Q : VK} {us : List Value} {vs : List V} {W : Wd} {ds : List D} {μ : Mu} {n : Nat} (G : FnG X.prog X.w X.K X.mg X.base k f fd ps F) (c : Cal X E k) (b : Dfl X.K fd ps n dd)
    (I : Inv X pins σ H s) (hn : us.length = n) (rv : Vals vs us) (ok : Ok X.K W H μ) (r : Reps X.K W vs ds) (q : postE X.K (WE E σ) W H (F (ds ++ dd) μ) Q) : wpAny (model X.prog X.w) X.A (call (.ref f) us) (EP X pins σ Q) X.xe s := by
  obtain ⟨dvs, d0, r0, rd, hl, hb⟩ := b.ex
  have hlen : (us ++ d0).length = ps.length := by rw [List.length_append, hn]; exact hl
  exact wpAny_call (run_g (args := ⟨us, []⟩) G c I hlen (hb s us I.kIn hlen) (rv.append r0) ok (r.app (rd W)) q)
theorem de_call (G : FnG X.prog X.w X.K X.mg X.base k f fd ps F) (c : Cal X E k) (hm : X.mg x = some (.ref f)) (hk : PySem.W.keepIn X.K (.ref f) = true) (b : Dfl X.K fd ps (e :: es).length dd) (ha : DA X E (e :: es) fa)
    (hf : HasLen fa (e :: es).length := by repeat (first | exact aNil_len | refine aCons_len ?_)) (hg : Gl X x := by rfl) (hdb : (x == ("__debug__" : Str)) = false := by decide) (he : starEach (e :: es) X.env = (false, eval e X.env) :: starEach es X.env := by rfl) (hpl : (backTo pos (starEach es X.env)).any (·.1) = false := by rfl) :
    DE X E (.Call (.Name x p) (e :: es) [] pos) (dcall F dd fa) := by
  refine ⟨fun pins s σ H Q I q => ?_⟩
  obtain ⟨W, ρ, μ, ok, en, pq⟩ := q
  refine wpAny_Call_Name_kw (ld_glob I hg hm ?_ hdb)
  unfold dcall at pq
  have rd : rA X.K E fa σ H (fun vs H1 => ∃ W1 ds μ1, vs.length = (e :: es).length ∧ Ok X.K W1 H1 μ1 ∧ Reps X.K W1 vs ds ∧ postE X.K (WE E σ) W1 H1 (F (ds ++ dd) μ1) Q) := by
    refine ⟨W, ρ, μ, ok, en, ?_⟩
    revert pq
    cases hq : fa ρ μ with
    | ok ds μ1 => exact fun p W1 xs H1 g o r => ⟨W1, ds, μ1, by rw [r.length]; exact hf ρ μ ds μ1 hq, o, r, post.mono g p⟩
    | ex c fs μ1 => exact fun p => p
    | bad => exact fun p => p
  refine PySem.W.callWith_K (h₀ := X.base) I.ok.mod.kin hk (thn (ha.run pos pins s σ H _ I rd) fun us s1 ⟨vs, H1, I1, r, W1, ds, μ1, hn, o1, r1, q1⟩ => ⟨I1.kIn, ?_⟩) he hpl
  exact callF_args G c b I1 (show us.length = _ by rw [← r.length]; exact hn) r o1 r1 q1
end
end DL
/-! DL4: operators, comparisons, built-ins over data. -/
namespace DL
open PySem L2

/-! ### operators by the kinds of their data -/
def rD (K : PySem.W.Frag) (E : WX) (g : D → D → Mu → R D) : R2 := fun x y H Q => ∃ (E' : XK) (W : Wd) (μ : Mu) (dx dy : D), Ok K W H μ ∧ Rep K W x dx ∧ Rep K W y dy ∧ postE K E' W H (g dx dy μ) Q
abbrev OpX (X : Cx) (E : WX) (f : Value → Value → Sem Value) (g : D → D → Mu → R D) : Prop := OpR X f (rD X.K E g)
theorem opx {X : Cx} {E : WX} {f : Value → Value → Sem Value} {g : D → D → Mu → R D} (h : ∀ {E' : XK} W H μ dx dy vx vy Q, Ok X.K W H μ → Rep X.K W vx dx → Rep X.K W vy dy → postE X.K E' W H (g dx dy μ) Q → ∃ r, OpR X f r ∧ r vx vy H Q) : OpX X E f g := by
  intro pins s σ H x y v u Q I rx ry q
  obtain ⟨_, W, μ, dx, dy, ok, r1, r2, p⟩ := q
  obtain ⟨r, o, z⟩ := h W H μ dx dy x y Q ok r1 r2 p
  exact o pins s σ H x y v u Q I rx ry z
theorem opd_D {K : PySem.W.Frag} {E : WX} {g : D → D → Mu → R D} : OpD K E (rD K E g) g := fun E' W H μ x y vx vy Q ok rx ry p => ⟨E', W, μ, x, y, ok, rx, ry, p⟩
section
variable {X : Cx} {E : WX} {a b : Expr} {fa fb : FE} {pos : Pos} {g : D → D → Mu → R D}
theorem de_bin {op : Operator} (ho : OpX X E (binaryOp op) g) (ha : DE X E a fa) (hb : DE X E b fb) : DE X E (.BinOp a op b pos) (dbin g fa fb) := dbinop ho opd_D ha hb
theorem de_cmp {op : CmpOp} (ho : OpX X E (compareOp op) g) (ha : DE X E a fa) (hb : DE X E b fb) (hm : behindInMarks op b = false := by first | exact nomark _ | rfl) : DE X E (.Compare a [op] [b] pos) (dbin g fa fb) := dcmp ho opd_D ha hb hm
theorem dt_cmp {op : CmpOp} (ho : OpX X E (compareOp op) g) (ha : DE X E a fa) (hb : DE X E b fb) (hm : behindInMarks op b = false := by first | exact nomark _ | rfl) : DT X E (.Compare a [op] [b] pos) (dtest (dbin g fa fb)) := dtest_cmp ho opd_D ha hb hm
end

/-- an answer that makes nothing -/
theorem post_pure {K : PySem.W.Frag} {E : XK} {W : Wd} {H : Hp} {μ : Mu} {d : D} {v : V} {Q : VK} (ok : Ok K W H μ) (p : postE K E W H (.ok d μ) Q) (r : Rep K W v d) : Q v H := p W v H (Go.refl _ _) ok r

/-! ### + - * // % ** -/
def addD : D → D → Mu → R D
  | .int i, .int j, μ => .ok (.int (i + j)) μ
  | .str x, .str y, μ => if x.length + y.length ≤ 1000000 then .ok (.str (x ++ y)) μ else .bad
  | .lst xs, .lst ys, μ => if xs.length + ys.length ≤ 1000000 then .ok (.lst (xs ++ ys)) μ else .bad
  | _, _, _ => .bad
def subD : D → D → Mu → R D
  | .int i, .int j, μ => .ok (.int (i - j)) μ
  | _, _, _ => .bad
/-- one factor is below 2 ^ 64 -/
def mulD : D → D → Mu → R D
  | .int i, .int j, μ => if (-(2 ^ 64) < i ∧ i < 2 ^ 64) ∨ (-(2 ^ 64) < j ∧ j < 2 ^ 64) then .ok (.int (i * j)) μ else .bad
  | _, _, _ => .bad
def modD : D → D → Mu → R D
  | .int i, .int j, μ => if 0 < j then .ok (.int (i % j)) μ else .bad
  | _, _, _ => .bad
def fdivD : D → D → Mu → R D
  | .int i, .int j, μ => if 0 < j ∧ j < 1073741824 then .ok (.int (i / j)) μ else .bad
  | _, _, _ => .bad
def powD : D → D → Mu → R D
  | .int i, .int j, μ => if 0 ≤ j ∧ j ≤ 1000000 ∧ i.natAbs < 2 ^ 64 then .ok (.int (i ^ j.toNat)) μ else .bad
  | _, _, _ => .bad
section
variable {X : Cx} {E : WX}
theorem op_catR : OpR X (binaryOp .Add) (fun x y H Q => ∃ l b xs zs, x = .ref l ∧ y = .ref b ∧ Lq X.K H l xs ∧ Lq X.K H b zs ∧ xs.length + zs.length ≤ sizeLine ∧ ∀ p, H p = none → Q (.ref p) (upd H p (.lst (xs ++ zs)))) := by
  intro pins s σ H x y v u Q I rx ry h
  obtain ⟨l, b, xs, zs, rfl, rfl, h1, h2, hz, q⟩ := h
  cases rx
  cases ry
  obtain ⟨its, n, r, e⟩ := h1.isL I
  obtain ⟨its2, n2, r2, e2⟩ := h2.isL I
  refine PySem.P.add_list e e2 ?_ (by
    rw [List.size_toArray, List.size_toArray, ← r.length, ← r2.length]
    exact hz)
  have ea : its.toArray ++ its2.toArray = (its ++ its2).toArray := by simp
  rw [ea]
  exact ⟨.ref _, _, I.lnew (t' := s.toks) (r.append r2) (by rw [List.length_append]; exact hz), rfl, q _ I.fresh⟩
theorem strlen_app (x y : Str) : (x ++ y).length = x.length + y.length := by
  show (x.cps ++ y.cps).size = x.cps.size + y.cps.size
  simp
theorem opx_add : OpX X E (binaryOp .Add) addD := opx fun W H μ dx dy vx vy Q ok r1 r2 p => by
  unfold addD at p
  split at p
  · cases r1; cases r2
    exact ⟨_, op_add, _, _, rfl, rfl, post_pure ok p (.int _)⟩
  · split at p
    · rename_i hn
      cases r1; cases r2
      exact ⟨_, op_add_str, _, _, rfl, rfl, le_line hn, post_pure ok p (.str _ (by rw [strlen_app]; exact le_line hn))⟩
    · exact p.elim
  · split at p
    · rename_i hn
      cases r1 with
      | lst z1 h1 q1 =>
        cases r2 with
        | lst z2 h2 q2 =>
          refine ⟨_, op_catR, _, _, _, _, rfl, rfl, same_lq ok.sub h1, same_lq ok.sub h2, by rw [q1.length, q2.length]; exact le_line hn, fun q hq => p _ _ _ (Go.new ok hq) (ok.new hq) (rep_lst ok hq (by rw [List.length_append]; exact le_line hn) (q1.app q2))⟩
    · exact p.elim
  · exact p.elim
theorem opx_sub : OpX X E (binaryOp .Sub) subD := opx fun W H μ dx dy vx vy Q ok r1 r2 p => by
  unfold subD at p
  split at p
  · cases r1; cases r2
    exact ⟨_, op_sub, _, _, rfl, rfl, post_pure ok p (.int _)⟩
  · exact p.elim
theorem opx_mul : OpX X E (binaryOp .Mult) mulD := opx fun W H μ dx dy vx vy Q ok r1 r2 p => by
  unfold mulD at p
  split at p
  · split at p
    · rename_i hn
      cases r1; cases r2
      exact ⟨_, op_mul, _, _, rfl, rfl, hn, post_pure ok p (.int _)⟩
    · exact p.elim
  · exact p.elim
theorem opx_mod : OpX X E (binaryOp .Mod) modD := opx fun W H μ dx dy vx vy Q ok r1 r2 p => by
  unfold modD at p
  split at p
  · split at p
    · rename_i hn
      cases r1; cases r2
      exact ⟨_, op_mod, _, _, rfl, rfl, hn, post_pure ok p (.int _)⟩
    · exact p.elim
  · exact p.elim
theorem opx_fdiv : OpX X E (binaryOp .FloorDiv) fdivD := opx fun W H μ dx dy vx vy Q ok r1 r2 p => by
  unfold fdivD at p
  split at p
  · split at p
    · rename_i hn
      cases r1; cases r2
      exact ⟨_, op_fdiv, _, _, rfl, rfl, hn, post_pure ok p (.int _)⟩
    · exact p.elim
  · exact p.elim
theorem opx_pow : OpX X E (binaryOp .Pow) powD := opx fun W H μ dx dy vx vy Q ok r1 r2 p => by
  unfold powD at p
  split at p
  · split at p
    · rename_i hn
      cases r1; cases r2
      exact ⟨_, op_pow, _, _, rfl, rfl, hn, post_pure ok p (.int _)⟩
    · exact p.elim
  · exact p.elim
end

/-! ### < <= > >= -/
def strLt (x y : Str) : Bool := decide (x.cps.toList < y.cps.toList)
def ltD : D → D → Mu → R D
  | .int i, .int j, μ => .ok (.bl (decide (i < j))) μ
  | .str x, .str y, μ => .ok (.bl (strLt x y)) μ
  | _, _, _ => .bad
def leD : D → D → Mu → R D
  | .int i, .int j, μ => .ok (.bl (decide (i ≤ j))) μ
  | .str x, .str y, μ => .ok (.bl (!strLt y x)) μ
  | _, _, _ => .bad
def gtD : D → D → Mu → R D
  | .int i, .int j, μ => .ok (.bl (decide (j < i))) μ
  | _, _, _ => .bad
def geD : D → D → Mu → R D
  | .int i, .int j, μ => .ok (.bl (decide (j ≤ i))) μ
  | _, _, _ => .bad
section
variable {X : Cx} {E : WX}
theorem opx_lt : OpX X E (compareOp .Lt) ltD := opx fun W H μ dx dy vx vy Q ok r1 r2 p => by
  unfold ltD at p
  split at p
  · cases r1; cases r2
    exact ⟨_, op_lt, _, _, rfl, rfl, post_pure ok p (.bl _)⟩
  · cases r1; cases r2
    exact ⟨_, op_lt_str, _, _, rfl, rfl, post_pure ok p (.bl _)⟩
  · exact p.elim
theorem opx_le : OpX X E (compareOp .LtE) leD := opx fun W H μ dx dy vx vy Q ok r1 r2 p => by
  unfold leD at p
  split at p
  · cases r1; cases r2
    exact ⟨_, op_le, _, _, rfl, rfl, post_pure ok p (.bl _)⟩
  · cases r1; cases r2
    exact ⟨_, op_le_str, _, _, rfl, rfl, post_pure ok p (.bl _)⟩
  · exact p.elim
theorem opx_gt : OpX X E (compareOp .Gt) gtD := opx fun W H μ dx dy vx vy Q ok r1 r2 p => by
  unfold gtD at p
  split at p
  · cases r1; cases r2
    exact ⟨_, op_gt, _, _, rfl, rfl, post_pure ok p (.bl _)⟩
  · exact p.elim
theorem opx_ge : OpX X E (compareOp .GtE) geD := opx fun W H μ dx dy vx vy Q ok r1 r2 p => by
  unfold geD at p
  split at p
  · cases r1; cases r2
    exact ⟨_, op_ge, _, _, rfl, rfl, post_pure ok p (.bl _)⟩
  · exact p.elim
end

/-! ### is None -/
def isNoneD : D → Option Bool
  | .non => some true
  | .cst _ => none
  | _ => some false
def isD : D → D → Mu → R D
  | x, .non, μ => match isNoneD x with
    | some b => .ok (.bl b) μ
    | none => .bad
  | _, _, _ => .bad
def isntD : D → D → Mu → R D
  | x, .non, μ => match isNoneD x with
    | some b => .ok (.bl (!b)) μ
    | none => .bad
  | _, _, _ => .bad
theorem isNone_rep {K : PySem.W.Frag} {W : Wd} {v : V} {d : D} {b : Bool} (r : Rep K W v d) (h : isNoneD d = some b) : decide (v = .non) = b := by
  cases r <;> simp [isNoneD] at h <;> subst h <;> simp
section
variable {X : Cx} {E : WX}
theorem opx_is : OpX X E (compareOp .Is) isD := opx fun W H μ dx dy vx vy Q ok r1 r2 p => by
  unfold isD at p
  split at p
  · split at p
    · rename_i b hb
      cases r2
      refine ⟨_, op_isN, rfl, ?_⟩
      rw [isNone_rep r1 hb]
      exact post_pure ok p (.bl _)
    · exact p.elim
  · exact p.elim
theorem opx_isnt : OpX X E (compareOp .IsNot) isntD := opx fun W H μ dx dy vx vy Q ok r1 r2 p => by
  unfold isntD at p
  split at p
  · split at p
    · rename_i b hb
      cases r2
      refine ⟨_, op_notN, rfl, ?_⟩
      rw [isNone_rep r1 hb]
      exact post_pure ok p (.bl _)
    · exact p.elim
  · exact p.elim
end

end DL
/-! DL5: == and in over data. -/
namespace DL
open PySem L2

inductive Kd where
  | flat (v : V) | tup (xs : List D) | lst (xs : List D) | none
def D.kd : D → Kd
  | .non => .flat .non
  | .bl b => .flat (.bl b)
  | .int i => .flat (.int i)
  | .str x => .flat (.str x)
  | .tup xs => .tup xs
  | .lst xs => .lst xs
  | _ => .none
def eqL (e : D → D → Option Bool) : List D → List D → Option Bool
  | [], [] => some true
  | [], _ :: _ => some false
  | _ :: _, [] => some false
  | x :: xs, y :: ys => match e x y, eqL e xs ys with
    | some a, some b => some (a && b)
    | _, _ => none
/-- == of data of less than that depth -/
def eqD : Nat → D → D → Option Bool
  | 0, _, _ => none
  | n + 1, x, y => match x.kd, y.kd with
    | .flat u, .flat v => some (eqV u v)
    | .tup xs, .tup ys => eqL (eqD n) xs ys
    | .lst xs, .lst ys => eqL (eqD n) xs ys
    | .none, _ => none
    | _, .none => none
    | _, _ => some false
def atF (e : D → D → Option Bool) (xs ys : List D) (j : Nat) : Bool := match xs[j]?, ys[j]? with
  | some x, some y => (e x y).getD false
  | _, _ => false
theorem eqL_at {e : D → D → Option Bool} : ∀ {xs ys : List D} {b : Bool}, eqL e xs ys = some b → ∀ (j : Nat) x y, xs[j]? = some x → ys[j]? = some y → e x y = some (atF e xs ys j)
  | [], _, _, _, _, _, _, h, _ => by simp at h
  | _ :: _, [], _, _, _, _, _, _, h => by simp at h
  | x :: xs, y :: ys, b, h, j, x', y', h1, h2 => by
    unfold eqL at h
    cases e1 : e x y with
    | none => rw [e1] at h; cases h
    | some a =>
      cases e2 : eqL e xs ys with
      | none => rw [e1, e2] at h; cases h
      | some c =>
        cases j with
        | zero =>
          simp at h1 h2
          subst h1 h2
          simp [atF, e1]
        | succ j =>
          have := eqL_at e2 j x' y' (by simpa using h1) (by simpa using h2)
          rw [this]
          simp [atF]
theorem all_shift (p : Nat → Bool) (n : Nat) : (List.range (n + 1)).all p = (p 0 && (List.range n).all fun j => p (j + 1)) := by
  rw [List.range_succ_eq_map, List.all_cons, List.all_map]
  rfl
theorem eqL_val {e : D → D → Option Bool} : ∀ {xs ys : List D} {b : Bool}, eqL e xs ys = some b → b = ((List.range (min xs.length ys.length)).all (atF e xs ys) && xs.length == ys.length)
  | [], [], b, h => by
    simp [eqL] at h
    subst h
    simp
  | [], y :: ys, b, h => by
    simp [eqL] at h
    subst h
    simp
  | x :: xs, [], b, h => by
    simp [eqL] at h
    subst h
    simp
  | x :: xs, y :: ys, b, h => by
    unfold eqL at h
    cases e1 : e x y with
    | none => rw [e1] at h; cases h
    | some a =>
      cases e2 : eqL e xs ys with
      | none => rw [e1, e2] at h; cases h
      | some c =>
        rw [e1, e2] at h
        cases h
        have ih := eqL_val e2
        have hm : min (x :: xs).length (y :: ys).length = min xs.length ys.length + 1 := by simp [Nat.succ_min_succ]
        rw [hm, all_shift]
        have h0 : atF e (x :: xs) (y :: ys) 0 = a := by simp [atF, e1]
        have hs : (fun j => atF e (x :: xs) (y :: ys) (j + 1)) = atF e xs ys := by
          funext j
          simp [atF]
        rw [h0, hs, Bool.and_assoc, ih]
        simp
theorem rd_inj {H : Hp} {a : Addr} {xs ys : List V} (h : Rd H a (.lst xs)) (h' : Rd H a (.lst ys)) : xs = ys := by
  rcases h with h | ⟨o, h⟩ <;> rcases h' with h' | ⟨o', h'⟩ <;> rw [h] at h' <;> cases h' <;> rfl
section
variable {X : Cx} {pins : List (Addr × Obj)} {σ : St} {H : Hp} {s : Shared} {W : Wd} {μ : Mu}
theorem eqV_refl {v : V} (h : flatV v = true) : eqV v v = true := by
  cases v <;> simp [eqV, flatV] at h ⊢
theorem kd_flat {K : PySem.W.Frag} {v u : V} {d : D} (r : Rep K W v d) (h : d.kd = .flat u) : v = u ∧ flatV v = true := by
  cases r <;> simp [D.kd] at h <;> subst h <;> exact ⟨rfl, rfl⟩
theorem kd_tup {K : PySem.W.Frag} {v : V} {d : D} {xs : List D} (r : Rep K W v d) (h : d.kd = .tup xs) : ∃ a vs, v = .ref a ∧ SqT K W.S a vs ∧ Reps K W vs xs := by
  cases r <;> simp [D.kd] at h
  subst h
  exact ⟨_, _, rfl, by assumption, by assumption⟩
theorem kd_lst {K : PySem.W.Frag} {v : V} {d : D} {xs : List D} (r : Rep K W v d) (h : d.kd = .lst xs) : ∃ a vs, v = .ref a ∧ Lq K W.S a vs ∧ Reps K W vs xs := by
  cases r <;> simp [D.kd] at h
  subst h
  exact ⟨_, _, rfl, by assumption, by assumption⟩
theorem eqL_same {K : PySem.W.Frag} {e : D → D → Option Bool} (h : ∀ v x y c, Rep K W v x → Rep K W v y → e x y = some c → c = true) : ∀ {vs : List V} {xs ys : List D} {b : Bool}, Reps K W vs xs → Reps K W vs ys → eqL e xs ys = some b → b = true
  | _, _, _, _, .nil, .nil, q => by
    simp [eqL] at q
    exact q
  | _, _, _, _, .cons r1 t1, .cons r2 t2, q => by
    rename_i v vs d ds d' ds'
    unfold eqL at q
    cases e1 : e d d' with
    | none => rw [e1] at q; cases q
    | some a =>
      cases e2 : eqL e ds ds' with
      | none => rw [e1, e2] at q; cases q
      | some c =>
        rw [e1, e2] at q
        cases q
        rw [h v d d' a r1 r2 e1, eqL_same h t1 t2 e2]
        rfl
theorem eqD_same (I : Inv X pins σ H s) (ok : Ok X.K W H μ) : ∀ (n : Nat) (v : V) (d e : D) (b : Bool), Rep X.K W v d → Rep X.K W v e → eqD n d e = some b → b = true
  | 0, _, _, _, _, _, _, h => by simp [eqD] at h
  | n + 1, v, d, e, b, r1, r2, h => by
    unfold eqD at h
    cases k1 : d.kd with
    | none => rw [k1] at h; cases h
    | flat u1 =>
      obtain ⟨rfl, f1⟩ := kd_flat r1 k1
      cases k2 : e.kd with
      | none => rw [k1, k2] at h; cases h
      | flat u2 =>
        obtain ⟨rfl, _⟩ := kd_flat r2 k2
        rw [k1, k2] at h
        cases h
        exact eqV_refl f1
      | tup ys =>
        obtain ⟨a, vs, rfl, _⟩ := kd_tup r2 k2
        simp [flatV] at f1
      | lst ys =>
        obtain ⟨a, vs, rfl, _⟩ := kd_lst r2 k2
        simp [flatV] at f1
    | tup xs =>
      obtain ⟨a, vs, rfl, h1, q1⟩ := kd_tup r1 k1
      cases k2 : e.kd with
      | none => rw [k1, k2] at h; cases h
      | flat u2 =>
        obtain ⟨rfl, f⟩ := kd_flat r2 k2
        simp [flatV] at f
      | tup ys =>
        obtain ⟨a', us, e', h2, q2⟩ := kd_tup r2 k2
        cases e'
        have ev := I.tuple_inj (same_t ok.sub h1) (same_t ok.sub h2)
        subst ev
        rw [k1, k2] at h
        exact eqL_same (fun v x y c a b z => eqD_same I ok n v x y c a b z) q1 q2 h
      | lst ys =>
        obtain ⟨a', us, e', h2, q2⟩ := kd_lst r2 k2
        cases e'
        obtain ⟨its, _, ⟨o, e1, c1, _⟩, _⟩ := I.tuple (same_t ok.sub h1)
        obtain ⟨its', _, ⟨o', n', e2, c2, _⟩, _⟩ := I.list (same_lq ok.sub h2).sq
        rw [e1] at e2
        cases e2
        rw [c1] at c2
        exact absurd c2 (by decide)
    | lst xs =>
      obtain ⟨a, vs, rfl, h1, q1⟩ := kd_lst r1 k1
      cases k2 : e.kd with
      | none => rw [k1, k2] at h; cases h
      | flat u2 =>
        obtain ⟨rfl, f⟩ := kd_flat r2 k2
        simp [flatV] at f
      | lst ys =>
        obtain ⟨a', us, e', h2, q2⟩ := kd_lst r2 k2
        cases e'
        have ev := I.list_inj (same_lq ok.sub h1).sq (same_lq ok.sub h2).sq
        subst ev
        rw [k1, k2] at h
        exact eqL_same (fun v x y c a b z => eqD_same I ok n v x y c a b z) q1 q2 h
      | tup ys =>
        obtain ⟨a', us, e', h2, q2⟩ := kd_tup r2 k2
        cases e'
        obtain ⟨its, _, ⟨o, e1, c1, _⟩, _⟩ := I.tuple (same_t ok.sub h2)
        obtain ⟨its', _, ⟨o', n', e2, c2, _⟩, _⟩ := I.list (same_lq ok.sub h1).sq
        rw [e1] at e2
        cases e2
        rw [c1] at c2
        exact absurd c2 (by decide)
open PySem.SeqAt in
theorem rc_flat {A : Around} {u v : V} {p q : Value} (r1 : RelV u p) (r2 : RelV v q) (f1 : flatV u = true) (f2 : flatV v = true) : RcAt A s p q (eqV u v) := by
  cases u <;> simp [flatV] at f1 <;> cases v <;> simp [flatV] at f2
  case non.non => cases r1; cases r2; exact RcAt.none_none
  case non.bl => cases r1; cases r2; exact RcAt.none_bool _
  case non.int => cases r1; obtain ⟨t, rfl⟩ := r2; exact RcAt.none_int _ _
  case non.str => cases r1; obtain ⟨t, rfl⟩ := r2; exact RcAt.none_str _ _
  case bl.non => cases r1; cases r2; exact RcAt.bool_none _
  case bl.bl => cases r1; cases r2; exact RcAt.bool_bool _ _
  case bl.int => cases r1; obtain ⟨t, rfl⟩ := r2; exact RcAt.bool_int _ _ _
  case bl.str => cases r1; obtain ⟨t, rfl⟩ := r2; exact RcAt.bool_str _ _ _
  case int.non => obtain ⟨t, rfl⟩ := r1; cases r2; exact RcAt.int_none _ _
  case int.bl => obtain ⟨t, rfl⟩ := r1; cases r2; exact RcAt.int_bool _ _ _
  case int.int => obtain ⟨t, rfl⟩ := r1; obtain ⟨t', rfl⟩ := r2; exact RcAt.int_int _ _ _ _
  case int.str => obtain ⟨t, rfl⟩ := r1; obtain ⟨t', rfl⟩ := r2; exact RcAt.int_str _ _ _ _
  case str.non => obtain ⟨t, rfl⟩ := r1; cases r2; exact RcAt.str_none _ _
  case str.bl => obtain ⟨t, rfl⟩ := r1; cases r2; exact RcAt.str_bool _ _ _
  case str.int => obtain ⟨t, rfl⟩ := r1; obtain ⟨t', rfl⟩ := r2; exact RcAt.str_int _ _ _ _
  case str.str => obtain ⟨t, rfl⟩ := r1; obtain ⟨t', rfl⟩ := r2; exact RcAt.str_str _ _ _ _
open PySem.SeqAt in
theorem flat_list {A : Around} {u : V} {p : Value} {l : Addr} {its : Array Value} (r1 : RelV u p) (f1 : flatV u = true) (hl : s.heap.IsList l its) (hu : A.units < cLine) : RcAt A s p (.ref l) false ∧ EqAt A s p (.ref l) false ∧ RcAt A s (.ref l) p false ∧ EqAt A s (.ref l) p false := by
  cases u <;> simp [flatV] at f1
  case non => cases r1; exact ⟨.none_list hl hu, .none_list hl hu, .list_none hl hu, .list_none hl hu⟩
  case bl => cases r1; exact ⟨.bool_list _ hl hu, .bool_list _ hl hu, .list_bool _ hl hu, .list_bool _ hl hu⟩
  case int => obtain ⟨t, rfl⟩ := r1; exact ⟨.int_list _ _ hl hu, .int_list _ _ hl hu, .list_int _ _ hl hu, .list_int _ _ hl hu⟩
  case str => obtain ⟨t, rfl⟩ := r1; exact ⟨.str_list _ _ hl hu, .str_list _ _ hl hu, .list_str _ _ hl hu, .list_str _ _ hl hu⟩
open PySem.SeqAt in
theorem flat_tuple {A : Around} {u : V} {p : Value} {l : Addr} {its : Array Value} (r1 : RelV u p) (f1 : flatV u = true) (hl : s.heap.IsTuple l its) (hu : A.units < cLine) : RcAt A s p (.ref l) false ∧ EqAt A s p (.ref l) false ∧ RcAt A s (.ref l) p false ∧ EqAt A s (.ref l) p false := by
  cases u <;> simp [flatV] at f1
  case non => cases r1; exact ⟨.none_tuple hl hu, .none_tuple hl hu, .tuple_none hl hu, .tuple_none hl hu⟩
  case bl => cases r1; exact ⟨.bool_tuple _ hl hu, .bool_tuple _ hl hu, .tuple_bool _ hl hu, .tuple_bool _ hl hu⟩
  case int => obtain ⟨t, rfl⟩ := r1; exact ⟨.int_tuple _ _ hl hu, .int_tuple _ _ hl hu, .tuple_int _ _ hl hu, .tuple_int _ _ hl hu⟩
  case str => obtain ⟨t, rfl⟩ := r1; exact ⟨.str_tuple _ _ hl hu, .str_tuple _ _ hl hu, .tuple_str _ _ hl hu, .tuple_str _ _ hl hu⟩
open PySem.SeqAt in
theorem eqD_at (I : Inv X pins σ H s) (ok : Ok X.K W H μ) : ∀ (n : Nat) (A : Around) (d e : D) (b : Bool) (u v : V) (p q : Value), A.units + n < cLine → Rep X.K W u d → Rep X.K W v e → RelV u p → RelV v q → eqD n d e = some b → RcAt A s p q b ∧ EqAt A s p q b
  | 0, _, _, _, _, _, _, _, _, _, _, _, _, _, h => by simp [eqD] at h
  | n + 1, A, d, e, b, u, v, p, q, hu, r1, r2, w1, w2, h => by
    have hu0 : A.units < cLine := by omega
    unfold eqD at h
    cases k1 : d.kd with
    | none => rw [k1] at h; cases h
    | flat u1 =>
      obtain ⟨rfl, f1⟩ := kd_flat r1 k1
      cases k2 : e.kd with
      | none => rw [k1, k2] at h; cases h
      | flat u2 =>
        obtain ⟨rfl, f2⟩ := kd_flat r2 k2
        rw [k1, k2] at h
        cases h
        exact ⟨rc_flat w1 w2 f1 f2, eqAt_V w1 w2 f1 f2⟩
      | tup ys =>
        obtain ⟨a, vs, rfl, h2, _⟩ := kd_tup r2 k2
        cases w2
        obtain ⟨its, _, ht, _⟩ := I.tuple (same_t ok.sub h2)
        rw [k1, k2] at h
        cases h
        have z := flat_tuple (s := s) (A := A) w1 f1 (show s.heap.IsTuple a its.toArray from ht) hu0
        exact ⟨z.1, z.2.1⟩
      | lst ys =>
        obtain ⟨a, vs, rfl, h2, _⟩ := kd_lst r2 k2
        cases w2
        obtain ⟨its, _, ht, _⟩ := I.list (same_lq ok.sub h2).sq
        rw [k1, k2] at h
        cases h
        have z := flat_list (s := s) (A := A) w1 f1 ht.isList hu0
        exact ⟨z.1, z.2.1⟩
    | tup xs =>
      obtain ⟨a, vs, rfl, h1, q1⟩ := kd_tup r1 k1
      cases w1
      obtain ⟨its, v1, ht, _⟩ := I.tuple (same_t ok.sub h1)
      cases k2 : e.kd with
      | none => rw [k1, k2] at h; cases h
      | flat u2 =>
        obtain ⟨rfl, f2⟩ := kd_flat r2 k2
        rw [k1, k2] at h
        cases h
        have z := flat_tuple (s := s) (A := A) w2 f2 (show s.heap.IsTuple a its.toArray from ht) hu0
        exact ⟨z.2.2.1, z.2.2.2⟩
      | lst ys =>
        obtain ⟨a', us, rfl, h2, q2⟩ := kd_lst r2 k2
        cases w2
        obtain ⟨its', _, ht', _⟩ := I.list (same_lq ok.sub h2).sq
        rw [k1, k2] at h
        cases h
        exact ⟨.tuple_list (show s.heap.IsTuple a its.toArray from ht) ht'.isList hu0, .tuple_list (show s.heap.IsTuple a its.toArray from ht) ht'.isList hu0⟩
      | tup ys =>
        obtain ⟨a', us, rfl, h2, q2⟩ := kd_tup r2 k2
        cases w2
        obtain ⟨its', v2, ht', _⟩ := I.tuple (same_t ok.sub h2)
        have hs := h
        rw [k1, k2] at h
        have l1 : its.toArray.size = xs.length := by rw [List.size_toArray, ← v1.length, q1.length]
        have l2 : its'.toArray.size = ys.length := by rw [List.size_toArray, ← v2.length, q2.length]
        have rc : RcAt A s (.ref a) (.ref a') b := by
          have z := RcAt.tuples (e := atF (eqD n) xs ys) (show s.heap.IsTuple a its.toArray from ht) (show s.heap.IsTuple a' its'.toArray from ht') hu0 (fun j h3 h4 => by
            obtain ⟨xd, ex⟩ : ∃ xd, xs[j]? = some xd := ⟨_, List.getElem?_eq_getElem (by rw [← l1]; exact h3)⟩
            obtain ⟨yd, ey⟩ : ∃ yd, ys[j]? = some yd := ⟨_, List.getElem?_eq_getElem (by rw [← l2]; exact h4)⟩
            obtain ⟨xv, e3, r3⟩ := q1.get ex
            obtain ⟨yv, e4, r4⟩ := q2.get ey
            obtain ⟨xu, e5, w5⟩ := v1.get e3
            obtain ⟨yu, e6, w6⟩ := v2.get e4
            have g1 : its.toArray[j] = xu := by
              have := List.getElem?_eq_some_iff.mp e5
              simpa using this.2
            have g2 : its'.toArray[j] = yu := by
              have := List.getElem?_eq_some_iff.mp e6
              simpa using this.2
            rw [g1, g2]
            exact (eqD_at I ok n A.in1 xd yd _ xv yv xu yu (by show A.units + 1 + n < cLine; omega) r3 r4 w5 w6 (eqL_at h j xd yd ex ey)).2)
          rw [l1, l2, ← eqL_val h] at z
          exact z
        refine ⟨rc, ?_⟩
        by_cases hne : a = a'
        · subst hne
          have hb : b = true := eqD_same I ok (n + 1) (.ref a) d e b r1 r2 (by unfold eqD; exact hs)
          rw [hb]
          exact .same _
        · exact .of_refs hne rc
    | lst xs =>
      obtain ⟨a, vs, rfl, h1, q1⟩ := kd_lst r1 k1
      cases w1
      obtain ⟨its, v1, ht, _⟩ := I.list (same_lq ok.sub h1).sq
      cases k2 : e.kd with
      | none => rw [k1, k2] at h; cases h
      | flat u2 =>
        obtain ⟨rfl, f2⟩ := kd_flat r2 k2
        rw [k1, k2] at h
        cases h
        have z := flat_list (s := s) (A := A) w2 f2 ht.isList hu0
        exact ⟨z.2.2.1, z.2.2.2⟩
      | tup ys =>
        obtain ⟨a', us, rfl, h2, q2⟩ := kd_tup r2 k2
        cases w2
        obtain ⟨its', _, ht', _⟩ := I.tuple (same_t ok.sub h2)
        rw [k1, k2] at h
        cases h
        exact ⟨.list_tuple ht.isList (show s.heap.IsTuple a' its'.toArray from ht') hu0, .list_tuple ht.isList (show s.heap.IsTuple a' its'.toArray from ht') hu0⟩
      | lst ys =>
        obtain ⟨a', us, rfl, h2, q2⟩ := kd_lst r2 k2
        cases w2
        obtain ⟨its', v2, ht', _⟩ := I.list (same_lq ok.sub h2).sq
        have hs := h
        rw [k1, k2] at h
        have l1 : its.toArray.size = xs.length := by rw [List.size_toArray, ← v1.length, q1.length]
        have l2 : its'.toArray.size = ys.length := by rw [List.size_toArray, ← v2.length, q2.length]
        have rc : RcAt A s (.ref a) (.ref a') b := by
          by_cases hl : xs.length = ys.length
          · have z := RcAt.lists (e := atF (eqD n) xs ys) ht.isList ht'.isList (by rw [l1, l2]; exact hl) hu0 (fun j h3 h4 => by
              obtain ⟨xd, ex⟩ : ∃ xd, xs[j]? = some xd := ⟨_, List.getElem?_eq_getElem (by rw [← l1]; exact h3)⟩
              obtain ⟨yd, ey⟩ : ∃ yd, ys[j]? = some yd := ⟨_, List.getElem?_eq_getElem (by rw [← l2]; exact h4)⟩
              obtain ⟨xv, e3, r3⟩ := q1.get ex
              obtain ⟨yv, e4, r4⟩ := q2.get ey
              obtain ⟨xu, e5, w5⟩ := v1.get e3
              obtain ⟨yu, e6, w6⟩ := v2.get e4
              have g1 : its.toArray[j] = xu := by
                have := List.getElem?_eq_some_iff.mp e5
                simpa using this.2
              have g2 : its'.toArray[j] = yu := by
                have := List.getElem?_eq_some_iff.mp e6
                simpa using this.2
              rw [g1, g2]
              exact (eqD_at I ok n A.in1 xd yd _ xv yv xu yu (by show A.units + 1 + n < cLine; omega) r3 r4 w5 w6 (eqL_at h j xd yd ex ey)).2)
            have hv := eqL_val h
            rw [hl, Nat.min_self, beq_self_eq_true, Bool.and_true] at hv
            rw [l1, hl, ← hv] at z
            exact z
          · have hv := eqL_val h
            rw [show (xs.length == ys.length) = false from beq_eq_false_iff_ne.mpr hl, Bool.and_false] at hv
            rw [hv]
            exact .lists_lengths ht.isList ht'.isList (by rw [l1, l2]; simpa using hl) hu0
        refine ⟨rc, ?_⟩
        by_cases hne : a = a'
        · subst hne
          have hb : b = true := eqD_same I ok (n + 1) (.ref a) d e b r1 r2 (by unfold eqD; exact hs)
          rw [hb]
          exact .same _
        · exact .of_refs hne rc
end

def dEq : D → D → Mu → R D := fun x y μ => R.of ((eqD 20 x y).map .bl) μ
/-- != of flat things -/
def dNe : D → D → Mu → R D := fun x y μ => match x.kd, y.kd with
  | .flat u, .flat v => if scal u v = true then .ok (.bl (!decide (u = v))) μ else .bad
  | _, _ => .bad
section
variable {X : Cx} {E : WX}
theorem opx_eq (hu : X.A.units + 64 < cLine) : OpX X E (compareOp .Eq) dEq := by
  intro pins s σ H x y v u Q I rx ry q
  obtain ⟨E', W, μ, dx, dy, ok, r1, r2, p⟩ := q
  unfold dEq at p
  revert p
  cases h : eqD 20 dx dy with
  | none => exact fun p => p.elim
  | some b =>
    intro p
    have z := (eqD_at I ok 20 X.A dx dy b x y v u (by omega) r1 r2 rx ry h).1
    exact z X.prog X.w X.xe _ ⟨.bl b, H, I, rfl, post_pure ok p (.bl b)⟩
theorem opx_ne : OpX X E (compareOp .NotEq) dNe := opx fun W H μ dx dy vx vy Q ok r1 r2 p => by
  unfold dNe at p
  split at p
  · rename_i u v h1 h2
    obtain ⟨rfl, _⟩ := kd_flat r1 h1
    obtain ⟨rfl, _⟩ := kd_flat r2 h2
    split at p
    · rename_i hs
      exact ⟨_, op_ne, hs, post_pure ok p (.bl _)⟩
    · exact p.elim
  · exact p.elim
end
end DL
/-! DL6: in, len, items, slices, built-ins, methods. -/
namespace DL
open PySem L2

/-- the items of a sequence, a cell's too -/
def seqD (μ : Mu) : D → Option (List D)
  | .lst xs => some xs
  | .tup xs => some xs
  | .hdl l => match μ[l]? with
    | some (.lst xs) => some xs
    | _ => none
  | _ => none
theorem seq_rep {K : PySem.W.Frag} {W : Wd} {H : Hp} {μ : Mu} {v : V} {d : D} {xs : List D} (ok : Ok K W H μ) (r : Rep K W v d) (h : seqD μ d = some xs) : ∃ a vs, v = .ref a ∧ Reps K W vs xs ∧ (SqL K H a vs ∨ SqT K H a vs) := by
  cases r with
  | lst z h1 r1 =>
    simp [seqD] at h
    subst h
    exact ⟨_, _, rfl, r1, .inl (same_lq ok.sub h1).sq⟩
  | tup z h1 r1 =>
    simp [seqD] at h
    subst h
    exact ⟨_, _, rfl, r1, .inr (same_t ok.sub h1)⟩
  | @hdl a l ha =>
    unfold seqD at h
    dsimp only at h
    cases hm : μ[l]? with
    | none => rw [hm] at h; cases h
    | some m =>
      rw [hm] at h
      cases m with
      | lst ys =>
        cases h
        obtain ⟨o, ho, vs, rfl, rs⟩ := ok.cell l a _ ha hm
        exact ⟨a, vs, rfl, rs, .inl (.inl (.inl ho))⟩
      | _ => cases h
  | _ => simp [seqD] at h

/-! ### in -/
def inL (e : D → Option Bool) : List D → Option Bool
  | [] => some false
  | y :: ys => match e y, inL e ys with
    | some a, some b => some (a || b)
    | _, _ => none
def inD (μ : Mu) (x y : D) : Option Bool := match y with
  | .str z => match x with
    | .str w => match w.cps.toList with
      | [c] => some (decide (c ∈ z.cps.toList))
      | _ => some (!(Builtin.Str.occurrences z w 0 z.length 1).isEmpty)
    | _ => none
  | y => match seqD μ y with
    | some ys => inL (fun d => eqD 20 d x) ys
    | none => none
def dIn : D → D → Mu → R D := fun x y μ => R.of ((inD μ x y).map .bl) μ
def dNotIn : D → D → Mu → R D := fun x y μ => R.of ((inD μ x y).map fun b => .bl (!b)) μ
theorem inL_def {e : D → Option Bool} : ∀ {ys : List D} {b : Bool}, inL e ys = some b → ∀ y ∈ ys, ∃ c, e y = some c
  | [], _, _, _, h => by cases h
  | y :: ys, b, h, z, hz => by
    unfold inL at h
    cases e1 : e y with
    | none => rw [e1] at h; cases h
    | some a =>
      cases e2 : inL e ys with
      | none => rw [e1, e2] at h; cases h
      | some c =>
        rcases List.mem_cons.mp hz with rfl | hz
        · exact ⟨a, e1⟩
        · exact inL_def e2 z hz
theorem inL_iff {e : D → Option Bool} : ∀ {ys : List D} {b : Bool}, inL e ys = some b → (b = true ↔ ∃ y ∈ ys, e y = some true)
  | [], b, h => by
    simp [inL] at h
    subst h
    simp
  | y :: ys, b, h => by
    unfold inL at h
    cases e1 : e y with
    | none => rw [e1] at h; cases h
    | some a =>
      cases e2 : inL e ys with
      | none => rw [e1, e2] at h; cases h
      | some c =>
        rw [e1, e2] at h
        cases h
        have ih := inL_iff e2
        simp [e1, ih]
def backV : Value → Option V
  | .none => some .non
  | .bool b => some (.bl b)
  | .int i _ => some (.int i)
  | .str x _ => some (.str x)
  | .bytes b _ => some (.byt b)
  | .float b _ => some (.flt b)
  | .ref a => some (.ref a)
  | .type n => some (.ty n)
  | _ => none
theorem backV_of {v : V} {p : Value} (h : RelV v p) : backV p = some v := by
  cases v with
  | non => cases h; rfl
  | bl b => cases h; rfl
  | int i => obtain ⟨t, rfl⟩ := h; rfl
  | str i => obtain ⟨t, rfl⟩ := h; rfl
  | byt i => obtain ⟨t, rfl⟩ := h; rfl
  | flt i => obtain ⟨t, rfl⟩ := h; rfl
  | ref a => cases h; rfl
  | ty n => cases h; rfl
theorem relV_inj {u v : V} {p : Value} (h : RelV u p) (h' : RelV v p) : u = v := by
  have e := backV_of h
  rw [backV_of h'] at e
  exact (Option.some.inj e).symm
theorem eqL_det {K : PySem.W.Frag} {W : Wd} {e : D → D → Option Bool} (h : ∀ v x x' y c c', Rep K W v x → Rep K W v x' → e x y = some c → e x' y = some c' → c = c') : ∀ {vs : List V} {xs xs' ys : List D} {b b' : Bool}, Reps K W vs xs → Reps K W vs xs' → eqL e xs ys = some b → eqL e xs' ys = some b' → b = b'
  | _, _, _, [], b, b', .nil, .nil, q, q' => by
    simp [eqL] at q q'
    rw [q, q']
  | _, _, _, _ :: _, b, b', .nil, .nil, q, q' => by
    simp [eqL] at q q'
    rw [q, q']
  | _, _, _, [], b, b', .cons _ _, .cons _ _, q, q' => by
    simp [eqL] at q q'
    rw [q, q']
  | _, _, _, y :: ys, b, b', .cons (d := d) (ds := ds) r1 t1, .cons (d := d') (ds := ds') r2 t2, q, q' => by
    unfold eqL at q q'
    cases e1 : e d y with
    | none => rw [e1] at q; cases q
    | some a =>
      cases e2 : eqL e ds ys with
      | none => rw [e1, e2] at q; cases q
      | some c =>
        cases e3 : e d' y with
        | none => rw [e3] at q'; cases q'
        | some a' =>
          cases e4 : eqL e ds' ys with
          | none => rw [e3, e4] at q'; cases q'
          | some c' =>
            rw [e1, e2] at q
            rw [e3, e4] at q'
            cases q
            cases q'
            rw [h _ d d' y a a' r1 r2 e1 e3, eqL_det h t1 t2 e2 e4]
section
variable {X : Cx} {pins : List (Addr × Obj)} {σ : St} {H : Hp} {s : Shared} {W : Wd} {μ : Mu} {E : WX}
theorem eqD_det (I : Inv X pins σ H s) (ok : Ok X.K W H μ) : ∀ (n : Nat) (v : V) (d d' e : D) (b b' : Bool), Rep X.K W v d → Rep X.K W v d' → eqD n d e = some b → eqD n d' e = some b' → b = b'
  | 0, _, _, _, _, _, _, _, _, h, _ => by simp [eqD] at h
  | n + 1, v, d, d', e, b, b', r1, r2, h, h' => by
    have again : ∀ v x x' y c c', Rep X.K W v x → Rep X.K W v x' → eqD n x y = some c → eqD n x' y = some c' → c = c' := fun v x x' y c c' a1 a2 a3 a4 => eqD_det I ok n v x x' y c c' a1 a2 a3 a4
    unfold eqD at h h'
    cases k1 : d.kd with
    | none => rw [k1] at h; cases h
    | flat u1 =>
      obtain ⟨rfl, f1⟩ := kd_flat r1 k1
      have k2 : d'.kd = .flat v := by
        cases k2 : d'.kd with
        | none => rw [k2] at h'; cases h'
        | flat u2 => obtain ⟨rfl, _⟩ := kd_flat r2 k2; rfl
        | tup ys => obtain ⟨a, vs, rfl, _⟩ := kd_tup r2 k2; simp [flatV] at f1
        | lst ys => obtain ⟨a, vs, rfl, _⟩ := kd_lst r2 k2; simp [flatV] at f1
      rw [k1] at h
      rw [k2] at h'
      rw [h] at h'
      exact Option.some.inj h'
    | tup xs =>
      obtain ⟨a, vs, rfl, h1, q1⟩ := kd_tup r1 k1
      cases k2 : d'.kd with
      | none => rw [k2] at h'; cases h'
      | flat u2 => obtain ⟨rfl, f⟩ := kd_flat r2 k2; simp [flatV] at f
      | lst ys =>
        obtain ⟨a', us, e', h2, q2⟩ := kd_lst r2 k2
        cases e'
        obtain ⟨its, _, ⟨o, e1, c1, _⟩, _⟩ := I.tuple (same_t ok.sub h1)
        obtain ⟨its', _, ⟨o', n', e2, c2, _⟩, _⟩ := I.list (same_lq ok.sub h2).sq
        rw [e1] at e2
        cases e2
        rw [c1] at c2
        exact absurd c2 (by decide)
      | tup ys =>
        obtain ⟨a', us, e', h2, q2⟩ := kd_tup r2 k2
        cases e'
        have ev := I.tuple_inj (same_t ok.sub h1) (same_t ok.sub h2)
        subst ev
        rw [k1] at h
        rw [k2] at h'
        cases k3 : e.kd with
        | none => rw [k3] at h; cases h
        | flat u3 => rw [k3] at h h'; rw [← Option.some.inj h, ← Option.some.inj h']
        | lst zs => rw [k3] at h h'; rw [← Option.some.inj h, ← Option.some.inj h']
        | tup zs => rw [k3] at h h'; exact eqL_det again q1 q2 h h'
    | lst xs =>
      obtain ⟨a, vs, rfl, h1, q1⟩ := kd_lst r1 k1
      cases k2 : d'.kd with
      | none => rw [k2] at h'; cases h'
      | flat u2 => obtain ⟨rfl, f⟩ := kd_flat r2 k2; simp [flatV] at f
      | tup ys =>
        obtain ⟨a', us, e', h2, q2⟩ := kd_tup r2 k2
        cases e'
        obtain ⟨its, _, ⟨o, e1, c1, _⟩, _⟩ := I.tuple (same_t ok.sub h2)
        obtain ⟨its', _, ⟨o', n', e2, c2, _⟩, _⟩ := I.list (same_lq ok.sub h1).sq
        rw [e1] at e2
        cases e2
        rw [c1] at c2
        exact absurd c2 (by decide)
      | lst ys =>
        obtain ⟨a', us, e', h2, q2⟩ := kd_lst r2 k2
        cases e'
        have ev := I.list_inj (same_lq ok.sub h1).sq (same_lq ok.sub h2).sq
        subst ev
        rw [k1] at h
        rw [k2] at h'
        cases k3 : e.kd with
        | none => rw [k3] at h; cases h
        | flat u3 => rw [k3] at h h'; rw [← Option.some.inj h, ← Option.some.inj h']
        | tup zs => rw [k3] at h h'; rw [← Option.some.inj h, ← Option.some.inj h']
        | lst zs => rw [k3] at h h'; exact eqL_det again q1 q2 h h'
open Classical in
/-- each item's answer, by the item's own value -/
theorem in_items (I : Inv X pins σ H s) (ok : Ok X.K W H μ) {A : Around} (hu : A.units + 20 < cLine) {x : D} {vx : V} {ux : Value} (rx : Rep X.K W vx x) (wx : RelV vx ux) {ys : List D} {vs : List V} {us : List Value} {b : Bool} (rs : Reps X.K W vs ys) (ws : Vals vs us) (h : inL (fun d => eqD 20 d x) ys = some b) :
    ∃ e : Value → Bool, (∀ u, u ∈ us → SeqAt.EqAt A s u ux (e u)) ∧ us.any e = b := by
  have tri : ∀ (i : Nat) u, us[i]? = some u → ∃ v y c, vs[i]? = some v ∧ ys[i]? = some y ∧ RelV v u ∧ Rep X.K W v y ∧ eqD 20 y x = some c := fun i u hi => by
    have hl : i < vs.length := by rw [ws.length]; exact (List.getElem?_eq_some_iff.mp hi).1
    have hv : vs[i]? = some vs[i] := List.getElem?_eq_getElem hl
    obtain ⟨u', e1, w1⟩ := ws.get hv
    rw [hi] at e1
    cases e1
    obtain ⟨y, e2, r2⟩ := rs.getV hv
    obtain ⟨c, hc⟩ := inL_def h y (List.mem_of_getElem? e2)
    exact ⟨_, y, c, hv, e2, w1, r2, hc⟩
  let e : Value → Bool := fun u => decide (∃ (i : Nat) (y : D), us[i]? = some u ∧ ys[i]? = some y ∧ eqD 20 y x = some true)
  have val : ∀ (i : Nat) u y c, us[i]? = some u → ys[i]? = some y → eqD 20 y x = some c → e u = c := fun i u y c h1 h2 h3 => by
    cases c with
    | true => exact decide_eq_true ⟨i, y, h1, h2, h3⟩
    | false =>
      refine decide_eq_false fun ⟨j, y', h4, h5, h6⟩ => ?_
      obtain ⟨v, y1, c1, hv, hy, w, r, hc⟩ := tri i u h1
      rw [h2] at hy
      cases hy
      obtain ⟨v', y2, c2, hv', hy', w', r', hc'⟩ := tri j u h4
      rw [h5] at hy'
      cases hy'
      have ev := relV_inj w w'
      subst ev
      exact absurd (eqD_det I ok 20 v y y' x false true r r' h3 h6) (by decide)
  refine ⟨e, fun u hm => ?_, ?_⟩
  · obtain ⟨i, hi, eu⟩ := List.mem_iff_getElem.mp hm
    have hi' : us[i]? = some u := by rw [List.getElem?_eq_getElem hi, eu]
    obtain ⟨v, y, c, hv, hy, w, r, hc⟩ := tri i u hi'
    rw [val i u y c hi' hy hc]
    exact (eqD_at I ok 20 A y x c v vx u ux hu r rx w wx hc).2
  · have hb := inL_iff h
    cases b with
    | true =>
      obtain ⟨y, hy, hc⟩ := hb.mp rfl
      obtain ⟨i, hi, ey⟩ := List.mem_iff_getElem.mp hy
      have hl : i < us.length := by rw [← ws.length, rs.length]; exact hi
      rw [List.any_eq_true]
      exact ⟨us[i], List.getElem_mem hl, val i us[i] y true (List.getElem?_eq_getElem hl) (by rw [List.getElem?_eq_getElem hi, ey]) hc⟩
    | false =>
      rw [List.any_eq_false]
      intro u hm q
      have q : e u = true := q
      obtain ⟨i, y, h1, h2, h3⟩ := of_decide_eq_true q
      exact absurd (hb.mpr ⟨y, List.mem_of_getElem? h2, h3⟩) (by decide)
theorem opx_in (hu : X.A.units + 64 < cLine) : OpX X E (compareOp .In) dIn := by
  intro pins s σ H x y v u Q I rx ry q
  obtain ⟨E', W, μ, dx, dy, ok, r1, r2, p⟩ := q
  unfold dIn at p
  revert p
  cases h : inD μ dx dy with
  | none => exact fun p => p.elim
  | some b =>
    intro p
    have fin : EP X pins σ Q (.bool b) s := ⟨.bl b, H, I, rfl, post_pure ok p (.bl b)⟩
    have seqs : ∀ ys, seqD μ dy = some ys → inL (fun d => eqD 20 d dx) ys = some b → wpAny (model X.prog X.w) X.A (compareOp .In v u) (EP X pins σ Q) X.xe s := fun ys e1 e2 => by
      obtain ⟨a, vs, rfl, rs, sq⟩ := seq_rep ok r2 e1
      cases ry
      rcases sq with sq | sq
      · obtain ⟨its, rv, pl, _⟩ := I.list sq
        obtain ⟨e, he, hb⟩ := in_items I ok (A := X.A.in1) (by show X.A.units + 1 + 20 < cLine; omega) r1 rx rs rv e2
        refine SeqAt.in_listAt e pl.isList (fun w hw => he w (by simpa using hw)) ?_
        have : its.toArray.any e = its.any e := by simp
        rw [this, hb]
        exact fin
      · obtain ⟨its, rv, pl, _⟩ := I.tuple sq
        obtain ⟨e, he, hb⟩ := in_items I ok (A := X.A.in1) (by show X.A.units + 1 + 20 < cLine; omega) r1 rx rs rv e2
        refine SeqAt.in_tupleAt e (show s.heap.IsTuple a its.toArray from pl) (fun w hw => he w (by simpa using hw)) ?_
        have : its.toArray.any e = its.any e := by simp
        rw [this, hb]
        exact fin
    cases r2 with
    | str z hz =>
      unfold inD at h
      cases r1 with
      | str w hw =>
        dsimp only at h
        split at h
        · rename_i c hc
          cases h
          have ew : w = ⟨#[c]⟩ := by
            obtain ⟨l⟩ := w
            congr 1
            exact Array.toList_inj.mp (by simpa using hc)
          subst ew
          exact op_in_sign pins s σ H _ _ v u Q I rx ry ⟨c, z, rfl, rfl, post_pure ok p (.bl _)⟩
        · cases h
          exact op_in_str pins s σ H _ _ v u Q I rx ry ⟨w, z, rfl, rfl, post_pure ok p (.bl _)⟩
      | _ => cases h
    | lst z1 h1 q1 => exact seqs _ rfl (by simpa [inD, seqD] using h)
    | tup z1 h1 q1 => exact seqs _ rfl (by simpa [inD, seqD] using h)
    | @hdl a l ha =>
      unfold inD at h
      dsimp only at h
      cases hs : seqD μ (.hdl l) with
      | none => rw [hs] at h; cases h
      | some ys => rw [hs] at h; exact seqs ys hs h
    | _ => simp [inD, seqD] at h
theorem opx_notin (hu : X.A.units + 64 < cLine) : OpX X E (compareOp .NotIn) dNotIn := by
  intro pins s σ H x y v u Q I rx ry q
  obtain ⟨E', W, μ, dx, dy, ok, r1, r2, p⟩ := q
  unfold dNotIn at p
  revert p
  cases h : inD μ dx dy with
  | none => exact fun p => p.elim
  | some b =>
    intro p
    have fin : EP X pins σ Q (.bool (!b)) s := ⟨.bl (!b), H, I, rfl, post_pure ok p (.bl _)⟩
    have seqs : ∀ ys, seqD μ dy = some ys → inL (fun d => eqD 20 d dx) ys = some b → wpAny (model X.prog X.w) X.A (compareOp .NotIn v u) (EP X pins σ Q) X.xe s := fun ys e1 e2 => by
      obtain ⟨a, vs, rfl, rs, sq⟩ := seq_rep ok r2 e1
      cases ry
      rcases sq with sq | sq
      · obtain ⟨its, rv, pl, _⟩ := I.list sq
        obtain ⟨e, he, hb⟩ := in_items I ok (A := X.A.in1) (by show X.A.units + 1 + 20 < cLine; omega) r1 rx rs rv e2
        refine SeqAt.notIn_listAt e pl.isList (fun w hw => he w (by simpa using hw)) ?_
        have : its.toArray.any e = its.any e := by simp
        rw [this, hb]
        exact fin
      · obtain ⟨its, rv, pl, _⟩ := I.tuple sq
        obtain ⟨e, he, hb⟩ := in_items I ok (A := X.A.in1) (by show X.A.units + 1 + 20 < cLine; omega) r1 rx rs rv e2
        refine SeqAt.notIn_tupleAt e (show s.heap.IsTuple a its.toArray from pl) (fun w hw => he w (by simpa using hw)) ?_
        have : its.toArray.any e = its.any e := by simp
        rw [this, hb]
        exact fin
    cases r2 with
    | str z hz =>
      unfold inD at h
      cases r1 with
      | str w hw =>
        dsimp only at h
        split at h
        · rename_i c hc
          cases h
          have ew : w = ⟨#[c]⟩ := by
            obtain ⟨l⟩ := w
            congr 1
            exact Array.toList_inj.mp (by simpa using hc)
          subst ew
          exact op_notIn_sign pins s σ H _ _ v u Q I rx ry ⟨c, z, rfl, rfl, post_pure ok p (.bl _)⟩
        · cases h
          exact op_notIn_str pins s σ H _ _ v u Q I rx ry ⟨w, z, rfl, rfl, post_pure ok p (.bl _)⟩
      | _ => cases h
    | lst z1 h1 q1 => exact seqs _ rfl (by simpa [inD, seqD] using h)
    | tup z1 h1 q1 => exact seqs _ rfl (by simpa [inD, seqD] using h)
    | @hdl a l ha =>
      unfold inD at h
      dsimp only at h
      cases hs : seqD μ (.hdl l) with
      | none => rw [hs] at h; cases h
      | some ys => rw [hs] at h; exact seqs ys hs h
    | _ => simp [inD, seqD] at h
end
end DL
/-! DL7: built-in calls, items, slices, methods, calls with keywords. -/
namespace DL
open PySem L2

/-! ### calls of built-ins -/
def rC (K : PySem.W.Frag) (E : WX) (g : List D → Mu → R D) : List V → Hp → VK → Prop := fun xs H Q => ∃ (E' : XK) (W : Wd) (μ : Mu) (ds : List D), Ok K W H μ ∧ Reps K W xs ds ∧ postE K E' W H (g ds μ) Q
abbrev CallX (X : Cx) (E : WX) (f : Value) (g : List D → Mu → R D) : Prop := CallR X f (rC X.K E g)
theorem callx {X : Cx} {E : WX} {f : Value} {g : List D → Mu → R D} (h : ∀ {E' : XK} W H μ ds xs Q, Ok X.K W H μ → Reps X.K W xs ds → postE X.K E' W H (g ds μ) Q → ∃ r, CallR X f r ∧ r xs H Q) : CallX X E f g := by
  intro pins s σ H xs us Q I rx q
  obtain ⟨_, W, μ, ds, ok, r1, p⟩ := q
  obtain ⟨r, o, z⟩ := h W H μ ds xs Q ok r1 p
  exact o pins s σ H xs us Q I rx z
def dcallB (g : List D → Mu → R D) (fa : FA) : FE := fun ρ μ => (fa ρ μ).bind fun ds μ1 => g ds μ1
section
variable {X : Cx} {E : WX} {x : Str} {p pos : Pos} {e : Expr} {es : List Expr} {fa : FA} {g : List D → Mu → R D}
theorem tCB_of : ∀ σ H Q, rE X.K E (dcallB g fa) σ H Q → tCB (rC X.K E g) (rA X.K E fa) σ H Q := fun σ H Q ⟨W, ρ, μ, ok, en, p⟩ =>
  seqA p ok en fun ds μ1 W1 xs H1 g1 o1 en1 r p1 => ⟨_, W1, μ1, ds, o1, r, p1⟩
theorem de_callB {id : String} (hc : CallX X E (.builtin id) g) (hm : X.mg x = none) (ha : DA X E (e :: es) fa) (hg : Gl X x := by rfl) (hv : bootBuiltins x = some (.builtin id) := by decide +kernel) (hn : x ≠ "__name__" := by decide) (hdb : (x == ("__debug__" : Str)) = false := by decide)
    (he : starEach (e :: es) X.env = (false, eval e X.env) :: starEach es X.env := by rfl) (hpl : (backTo pos (starEach es X.env)).any (·.1) = false := by rfl) : DE X E (.Call (.Name x p) (e :: es) [] pos) (dcallB g fa) :=
  pe_imp (pe_callB hc hg hm hv ha hn hdb he hpl) tCB_of
theorem de_callTy {T : String} (hc : CallX X E (.type T) g) (hm : X.mg x = none) (ha : DA X E (e :: es) fa) (hg : Gl X x := by rfl) (hv : bootBuiltins x = some (.type T) := by decide +kernel) (hn : x ≠ "__name__" := by decide) (hdb : (x == ("__debug__" : Str)) = false := by decide)
    (he : starEach (e :: es) X.env = (false, eval e X.env) :: starEach es X.env := by rfl) (hpl : (backTo pos (starEach es X.env)).any (·.1) = false := by rfl) : DE X E (.Call (.Name x p) (e :: es) [] pos) (dcallB g fa) :=
  pe_imp (pe_callTy hc hg hm hv ha hn hdb he hpl) tCB_of
end
def lenD (μ : Mu) : D → Option Nat
  | .str x => some x.length
  | d => (seqD μ d).map (·.length)
def bLen : List D → Mu → R D
  | [d], μ => match lenD μ d with
    | some n => .ok (.int n) μ
    | none => .bad
  | _, _ => .bad
def bAbs : List D → Mu → R D
  | [.int i], μ => .ok (.int (if i < 0 then -i else i)) μ
  | _, _ => .bad
def bMax : List D → Mu → R D
  | [.int i, .int j], μ => .ok (.int (if j > i then j else i)) μ
  | _, _ => .bad
def bMin : List D → Mu → R D
  | [.int i, .int j], μ => .ok (.int (if j < i then j else i)) μ
  | _, _ => .bad
def bInt : List D → Mu → R D
  | [.int i], μ => .ok (.int i) μ
  | [.bl b], μ => .ok (.int (if b then 1 else 0)) μ
  | _, _ => .bad
def bools : List D → Option (List Bool)
  | [] => some []
  | .bl b :: ds => (bools ds).map (b :: ·)
  | _ => none
def bAll : List D → Mu → R D
  | [.lst ds], μ => match bools ds with
    | some bs => .ok (.bl (bs.all id)) μ
    | none => .bad
  | _, _ => .bad
def bAny : List D → Mu → R D
  | [.lst ds], μ => match bools ds with
    | some bs => .ok (.bl (bs.any id)) μ
    | none => .bad
  | _, _ => .bad
theorem bools_rep {K : PySem.W.Frag} {W : Wd} : ∀ {vs : List V} {ds : List D} {bs : List Bool}, Reps K W vs ds → bools ds = some bs → vs = bs.map V.bl
  | _, _, _, .nil, h => by
    simp [bools] at h
    subst h
    rfl
  | _, _, bs, .cons (d := d) (ds := ds) r rs, h => by
    cases d with
    | bl b =>
      cases r
      unfold bools at h
      cases e : bools ds with
      | none => rw [e] at h; cases h
      | some cs =>
        rw [e] at h
        cases h
        rw [bools_rep rs e]
        rfl
    | _ => simp [bools] at h
section
variable {X : Cx} {E : WX}
theorem cx_len : CallX X E (.builtin "len") bLen := callx fun W H μ ds xs Q ok r p => by
  unfold bLen at p
  split at p
  · rename_i d
    cases r with
    | cons r1 r2 =>
      cases r2
      split at p
      · rename_i n hn
        refine ⟨_, call_len, _, n, rfl, ?_, post_pure ok p (.int _)⟩
        cases r1 with
        | str x z =>
          simp [lenD] at hn
          exact ⟨z, hn.symm⟩
        | lst z h q =>
          simp [lenD, seqD] at hn
          exact .inl ⟨_, (same_lq ok.sub h).sq, by rw [← hn, q.length]⟩
        | tup z h q =>
          simp [lenD, seqD] at hn
          exact .inr ⟨_, same_t ok.sub h, by rw [← hn, q.length]⟩
        | @hdl a l ha =>
          unfold lenD at hn
          dsimp only at hn
          cases hs : seqD μ (.hdl l) with
          | none => rw [hs] at hn; cases hn
          | some ys =>
            rw [hs] at hn
            cases hn
            obtain ⟨a', vs, e, rs, sq⟩ := seq_rep ok (.hdl ha) hs
            cases e
            rcases sq with sq | sq
            · exact .inl ⟨vs, sq, by rw [rs.length]⟩
            · exact .inr ⟨vs, sq, by rw [rs.length]⟩
        | _ => simp [lenD, seqD] at hn
      · exact p.elim
  · exact p.elim
theorem cx_abs : CallX X E (.builtin "abs") bAbs := callx fun W H μ ds xs Q ok r p => by
  unfold bAbs at p
  split at p
  · cases r with
    | cons r1 r2 =>
      cases r2
      cases r1
      exact ⟨_, call_abs, _, rfl, post_pure ok p (.int _)⟩
  · exact p.elim
theorem cx_max (hc : X.calm = true) : CallX X E (.builtin "max") bMax := callx fun W H μ ds xs Q ok r p => by
  unfold bMax at p
  split at p
  · cases r with
    | cons r1 r2 =>
      cases r2 with
      | cons r2 r3 =>
        cases r3
        cases r1
        cases r2
        exact ⟨_, call_max2 hc, _, _, rfl, post_pure ok p (.int _)⟩
  · exact p.elim
theorem cx_min (hc : X.calm = true) : CallX X E (.builtin "min") bMin := callx fun W H μ ds xs Q ok r p => by
  unfold bMin at p
  split at p
  · cases r with
    | cons r1 r2 =>
      cases r2 with
      | cons r2 r3 =>
        cases r3
        cases r1
        cases r2
        exact ⟨_, call_min2 hc, _, _, rfl, post_pure ok p (.int _)⟩
  · exact p.elim
theorem cx_int : CallX X E (.type "int") bInt := callx fun W H μ ds xs Q ok r p => by
  unfold bInt at p
  split at p
  · cases r with
    | cons r1 r2 =>
      cases r2
      cases r1
      exact ⟨_, call_int1, .inl ⟨_, rfl, post_pure ok p (.int _)⟩⟩
  · cases r with
    | cons r1 r2 =>
      cases r2
      cases r1
      exact ⟨_, call_int1, .inr ⟨_, rfl, post_pure ok p (.int _)⟩⟩
  · exact p.elim
theorem cx_all (hc : X.calm = true) : CallX X E (.builtin "all") bAll := callx fun W H μ ds xs Q ok r p => by
  unfold bAll at p
  split at p
  · cases r with
    | cons r1 r2 =>
      cases r2
      split at p
      · rename_i bs hb
        cases r1 with
        | lst z h q =>
          have e := bools_rep q hb
          subst e
          exact ⟨_, cr_all hc, _, bs, rfl, (same_lq ok.sub h).sq, post_pure ok p (.bl _)⟩
      · exact p.elim
  · exact p.elim
theorem cx_any (hc : X.calm = true) : CallX X E (.builtin "any") bAny := callx fun W H μ ds xs Q ok r p => by
  unfold bAny at p
  split at p
  · cases r with
    | cons r1 r2 =>
      cases r2
      split at p
      · rename_i bs hb
        cases r1 with
        | lst z h q =>
          have e := bools_rep q hb
          subst e
          exact ⟨_, cr_any hc, _, bs, rfl, (same_lq ok.sub h).sq, post_pure ok p (.bl _)⟩
      · exact p.elim
  · exact p.elim
end

/-! ### repr -/
mutual
def D.py : D → Option PyData
  | .non => some .none
  | .bl b => some (.bool b)
  | .int i => some (.int i)
  | .str x => some (.str x)
  | .tup xs => (D.pys xs).map .tuple
  | .lst xs => (D.pys xs).map .list
  | _ => none
def D.pys : List D → Option (List PyData)
  | [] => some []
  | x :: xs => match x.py, D.pys xs with
    | some p, some ps => some (p :: ps)
    | _, _ => none
end
mutual
theorem py_dp {K : PySem.W.Frag} {W : Wd} {H : Hp} {μ : Mu} (ok : Ok K W H μ) : ∀ {v : V} {d : D} {q : PyData}, Rep K W v d → d.py = some q → Dp K H v q
  | _, _, q, .non, h => by
    simp [D.py] at h
    subst h
    exact .non
  | _, _, q, .bl b, h => by
    simp [D.py] at h
    subst h
    exact .bl b
  | _, _, q, .int i, h => by
    simp [D.py] at h
    subst h
    exact .int i
  | _, _, q, .str x z, h => by
    simp [D.py] at h
    subst h
    exact .str x
  | _, _, q, .tup (ds := ds) z h1 r, h => by
    unfold D.py at h
    cases e : D.pys ds with
    | none => rw [e] at h; cases h
    | some ps =>
      rw [e] at h
      cases h
      exact .tup (same_t ok.sub h1) (pys_dp ok r e)
  | _, _, q, .lst (ds := ds) z h1 r, h => by
    unfold D.py at h
    cases e : D.pys ds with
    | none => rw [e] at h; cases h
    | some ps =>
      rw [e] at h
      cases h
      exact .lst ((same_lq ok.sub h1).sq) (pys_dp ok r e)
  | _, _, q, .hdl _, h => by simp [D.py] at h
  | _, _, q, .cst _, h => by simp [D.py] at h
  | _, _, q, .glo _, h => by simp [D.py] at h
  | _, _, q, .obj _ _ _, h => by simp [D.py] at h
theorem pys_dp {K : PySem.W.Frag} {W : Wd} {H : Hp} {μ : Mu} (ok : Ok K W H μ) : ∀ {vs : List V} {ds : List D} {qs : List PyData}, Reps K W vs ds → D.pys ds = some qs → DpAll K H vs qs
  | _, _, qs, .nil, h => by
    simp [D.pys] at h
    subst h
    exact .nil
  | _, _, qs, .cons (d := d) (ds := ds) r rs, h => by
    unfold D.pys at h
    cases e1 : d.py with
    | none => rw [e1] at h; cases h
    | some p =>
      cases e2 : D.pys ds with
      | none => rw [e1, e2] at h; cases h
      | some ps =>
        rw [e1, e2] at h
        cases h
        exact .cons (py_dp ok r e1) (pys_dp ok rs e2)
end
/-- the text of a thing, where it is short enough -/
def reprD (d : D) : Option Str := match d.py with
  | some p => if p.showable = true ∧ p.hasDict = false ∧ p.depth ≤ 40 ∧ p.shown.length ≤ 1000000 then some p.shown else none
  | none => none
def bRepr : List D → Mu → R D
  | [d], μ => R.of ((reprD d).map .str) μ
  | _, _ => .bad
theorem cx_repr {X : Cx} {E : WX} (hg : X.A.guards = some []) (hu : X.A.units + 64 < cLine) : CallX X E (.builtin "repr") bRepr := by
  intro pins s σ H xs us Q I rx q
  obtain ⟨_, W, μ, ds, ok, r1, p⟩ := q
  unfold bRepr at p
  split at p
  · rename_i d
    revert p
    unfold reprD
    cases hp : d.py with
    | none => exact fun p => p.elim
    | some q =>
      dsimp only
      by_cases hc : q.showable = true ∧ q.hasDict = false ∧ q.depth ≤ 40 ∧ q.shown.length ≤ 1000000
      · rw [if_pos hc]
        intro p
        obtain ⟨c1, c2, c3, c4⟩ := hc
        cases r1 with
        | cons r1 r2 =>
          cases r2
          cases rx with
          | cons w1 w2 =>
            cases w2
            rename_i v u
            have fin : ∀ h' tk tk', (∀ b o, s.heap.get? b = some o → h'.get? b = some o) → EP X pins σ Q (.str q.shown tk) { s with heap := h', toks := tk' } := fun h' tk tk' hk => ⟨.str q.shown, H, I.kept hk, ⟨_, rfl⟩, post_pure ok p (.str _ (le_line c4))⟩
            have dp := py_dp ok r1 hp
            obtain ⟨as, rd⟩ := Dp.reads I q v u dp w1
            cases v with
            | ref a =>
              cases w1
              exact repr_of_reads' rd c1 (PyData.noDict_hsm c2) hg (by omega) (fun _ _ e => e) (fun h' tk tk' hk => fin h' tk tk' hk) (le_line c4)
            | non =>
              cases w1
              cases dp
              exact PySem.P.repr_of_none (fin _ _ _ fun _ _ e => e)
            | bl b =>
              cases w1
              cases dp
              exact PySem.P.repr_of_bool (fin _ _ _ fun _ _ e => e)
            | int i =>
              obtain ⟨t, rfl⟩ := w1
              cases dp
              exact PySem.P.repr_of_int (by simpa [PyData.showable] using c1) (fin _ _ _ fun _ _ e => e)
            | str x =>
              obtain ⟨t, rfl⟩ := w1
              cases dp
              exact PySem.P.repr_of_str (fin _ _ _ fun _ _ e => e) (le_line c4)
            | _ => cases dp
      · rw [if_neg hc]
        exact fun p => p.elim
  · exact p.elim

/-! ### items and slices -/
def ixD (μ : Mu) (x i : D) : Option D := match i with
  | .int k => match x with
    | .str z => (atI z.cps.toList k).map fun c => .str ⟨#[c]⟩
    | x => (seqD μ x).bind fun xs => atI xs k
  | _ => none
def dIx : D → D → Mu → R D := fun x i μ => R.of (ixD μ x i) μ
theorem Reps.atI {K : PySem.W.Frag} {W : Wd} {vs : List V} {ds : List D} {i : Int} {d : D} (r : Reps K W vs ds) (h : atI ds i = some d) : ∃ v, L2.atI vs i = some v ∧ Rep K W v d := by
  unfold L2.atI at h ⊢
  rw [r.length]
  cases e : ixN ds.length i with
  | none => rw [e] at h; cases h
  | some j =>
    rw [e] at h
    exact r.get h
section
variable {X : Cx} {E : WX}
theorem ixx {g : D → D → Mu → R D} (h : ∀ {E' : XK} W H μ dx dy vx vy Q, Ok X.K W H μ → Rep X.K W vx dx → Rep X.K W vy dy → postE X.K E' W H (g dx dy μ) Q → ∃ r, IxR X r ∧ r vx vy H Q) : IxR X (rD X.K E g) := by
  intro value slice pins s σ H x y v u Q I rx ry q hs
  obtain ⟨E', W, μ, dx, dy, ok, r1, r2, p⟩ := q
  obtain ⟨r, o, z⟩ := h W H μ dx dy x y Q ok r1 r2 p
  exact o value slice pins s σ H x y v u Q I rx ry z hs
theorem ixx_all : IxR X (rD X.K E dIx) := ixx fun W H μ dx dy vx vy Q ok r1 r2 p => by
  unfold dIx at p
  revert p
  cases h : ixD μ dx dy with
  | none => exact fun p => p.elim
  | some d =>
    intro p
    unfold ixD at h
    cases r2 with
    | int k =>
      dsimp only at h
      have go : ∀ ys, seqD μ dx = some ys → L2.atI ys k = some d → ∃ r, IxR X r ∧ r vx (.int k) H Q := fun ys e1 e2 => by
        obtain ⟨a, vs, rfl, rs, sq⟩ := seq_rep ok r1 e1
        obtain ⟨v, e3, r3⟩ := rs.atI e2
        rcases sq with sq | sq
        · exact ⟨_, ix_list, _, _, _, v, rfl, rfl, sq, e3, post_pure ok p r3⟩
        · exact ⟨_, ix_tup, _, _, _, v, rfl, rfl, sq, e3, post_pure ok p r3⟩
      cases r1 with
      | str z hz =>
        dsimp only at h
        cases e : L2.atI z.cps.toList k with
        | none => rw [e] at h; cases h
        | some c =>
          rw [e] at h
          cases h
          exact ⟨_, ix_str, z, k, c, rfl, rfl, hz, e, post_pure ok p (.str _ (by show 1 ≤ sizeLine; decide))⟩
      | lst z h1 q1 => exact go _ rfl (by simpa [seqD] using h)
      | tup z h1 q1 => exact go _ rfl (by simpa [seqD] using h)
      | @hdl a l ha =>
        dsimp only at h
        cases hs : seqD μ (.hdl l) with
        | none => rw [hs] at h; cases h
        | some ys => rw [hs] at h; exact go ys hs h
      | _ => simp [seqD] at h
    | _ => simp at h
theorem de_ix {a b : Expr} {fa fb : FE} {pos : Pos} (ha : DE X E a fa) (hb : DE X E b fb) (hs : PlainIx b := by exact fun _ _ => rfl) : DE X E (.Subscript a b pos) (dbin dIx fa fb) := pe_imp (pe_ix ixx_all ha hb hs) (tOp_of opd_D)
/-- a part of a slice -/
abbrev FO := En → Mu → R (Option Int)
def postO (K : PySem.W.Frag) (E : XK) (W : Wd) (H : Hp) (r : R (Option Int)) (Q : Option Int → Hp → Prop) : Prop := match r with
  | .ok o μ => ∀ W' H', Go W H W' H' → Ok K W' H' μ → Q o H'
  | .ex c fs μ => ∀ W' H' d, Go W H W' H' → Ok K W' H' μ → ExcIs K W' H' fs d → E (.ref (cl K c)) d H'
  | .bad => False
def rO (K : PySem.W.Frag) (E : WX) (f : FO) : TO := fun σ H Q => ∃ W ρ μ, Ok K W H μ ∧ Envs K W σ ρ ∧ postO K (WE E σ) W H (f ρ μ) Q
abbrev DO (X : Cx) (E : WX) (e : Option Expr) (f : FO) : Prop := PO X e (rO X.K E f)
theorem po_imp {e : Option Expr} {t t' : TO} (h : PO X e t) (i : ∀ σ H Q, t' σ H Q → t σ H Q) : PO X e t' := ⟨fun pins s σ H Q I q => h.run pins s σ H Q I (i σ H Q q)⟩
def onone : FO := fun _ μ => .ok none μ
def osome (f : FE) : FO := fun ρ μ => (f ρ μ).bind fun d μ1 => match d with
  | .int i => .ok (some i) μ1
  | _ => .bad
theorem do_none : DO X E none onone := po_imp po_none fun σ H Q ⟨W, ρ, μ, ok, en, p⟩ => p W H (Go.refl _ _) ok
theorem do_some {e : Expr} {f : FE} (h : DE X E e f) : DO X E (some e) (osome f) := po_imp (po_some h) fun σ H Q ⟨W, ρ, μ, ok, en, p⟩ => by
  refine ⟨W, ρ, μ, ok, en, ?_⟩
  unfold osome at p
  revert p
  cases f ρ μ with
  | ok d μ1 =>
    rw [R.bind_ok]
    cases d with
    | int i =>
      intro p W1 v H1 g1 o1 r1
      cases r1
      exact ⟨i, rfl, p W1 H1 g1 o1⟩
    | _ => exact fun p => p.elim
  | ex c fs μ1 => exact fun p => p
  | bad => exact fun p => p
def cutD (xs : List D) (lo hi : Option Int) : List D := (xs.drop (HT.sIx xs.length 0 lo)).take (HT.sIx xs.length xs.length hi - HT.sIx xs.length 0 lo)
theorem Reps.cutV {K : PySem.W.Frag} {W : Wd} {vs : List V} {ds : List D} (r : Reps K W vs ds) (lo hi : Option Int) : Reps K W (L2.cutV vs lo hi) (cutD ds lo hi) := by
  unfold L2.cutV cutD
  rw [r.length]
  exact (r.drop _).take _
theorem cutD_len (xs : List D) (lo hi : Option Int) : (cutD xs lo hi).length ≤ xs.length := by
  unfold cutD
  rw [List.length_take, List.length_drop]
  omega
def slD (x : D) (lo hi : Option Int) : Option D := match x with
  | .lst xs => some (.lst (cutD xs lo hi))
  | .tup xs => some (.tup (cutD xs lo hi))
  | .str z => some (.str (cutS z lo hi))
  | _ => none
def dsl (fe : FE) (fl fh : FO) : FE := fun ρ μ => (fe ρ μ).bind fun x μ1 => (fl ρ μ1).bind fun lo μ2 => (fh ρ μ2).bind fun hi μ3 => R.of (slD x lo hi) μ3
def rSl (K : PySem.W.Frag) (E : WX) : V → Option Int → Option Int → Hp → VK → Prop := fun x lo hi H Q => ∃ (E' : XK) (W : Wd) (μ : Mu) (dx : D), Ok K W H μ ∧ Rep K W x dx ∧ postE K E' W H (R.of (slD dx lo hi) μ) Q
theorem slr {r : V → Option Int → Option Int → Hp → VK → Prop} (h : ∀ x lo hi H Q, r x lo hi H Q → ∃ r', SlR X r' ∧ r' x lo hi H Q) : SlR X r := by
  intro pins s σ H x v vl vu lo hi sl Q I rx hs pl pu q
  obtain ⟨r', o, z⟩ := h x lo hi H Q q
  exact o pins s σ H x v vl vu lo hi sl Q I rx hs pl pu z
theorem cutS_len (z : Str) (lo hi : Option Int) : (cutS z lo hi).length ≤ z.length := by
  show (((z.cps.toList.drop _).take _).toArray).size ≤ z.cps.size
  rw [List.size_toArray, List.length_take, List.length_drop, Array.length_toList]
  omega
theorem sl_all : SlR X (rSl X.K E) := slr fun x lo hi H Q ⟨_, W, μ, dx, ok, r, p⟩ => by
  cases r with
  | lst z h q => exact ⟨_, sl_list, _, _, rfl, (same_lq ok.sub h).sq, fun a ha => p _ _ _ (Go.new ok ha) (ok.new ha) (rep_lst ok ha (Nat.le_trans (cutD_len _ _ _) z) (q.cutV lo hi))⟩
  | @tup a xs ds z h q =>
    refine ⟨_, sl_tupA, _, _, rfl, same_t ok.sub h, fun hw => ?_, fun _ b hb => p _ _ _ (Go.new ok hb) (ok.new hb) (rep_tup ok hb (Nat.le_trans (cutD_len _ _ _) z) (q.cutV lo hi))⟩
    have e : cutD ds lo hi = ds := by
      unfold cutD
      rw [← q.length, hw.1, hw.2]
      simp [q.length]
    exact post_pure ok p (by rw [e]; exact .tup z h q)
  | str y z => exact ⟨_, sl_str, y, rfl, z, post_pure ok p (.str _ (Nat.le_trans (cutS_len _ _ _) z))⟩
  | _ => exact p.elim
theorem de_slice {e : Expr} {lo hi : Option Expr} {fe : FE} {fl fh : FO} {p2 pos : Pos} (he : DE X E e fe) (hl : DO X E lo fl) (hh : DO X E hi fh) : DE X E (.Subscript e (.Slice lo hi none p2) pos) (dsl fe fl fh) := by
  refine pe_imp (pe_slice (sl_all (E := E)) he hl hh) fun σ H Q ⟨W, ρ, μ, ok, en, p⟩ => ?_
  refine seq p ok en fun x μ1 W1 v H1 g1 o1 en1 r p1 => ⟨W1, ρ, μ1, o1, en1, ?_⟩
  revert p1
  cases fl ρ μ1 with
  | ex c fs μ2 => exact fun p => p
  | bad => exact fun p => p
  | ok lo μ2 =>
    rw [R.bind_ok]
    intro p1 W2 H2 g2 o2
    refine ⟨W2, ρ, μ2, o2, en1.mono g2.le, ?_⟩
    have p2 := post.mono g2 p1
    revert p2
    cases fh ρ μ2 with
    | ex c fs μ3 => exact fun p => p
    | bad => exact fun p => p
    | ok hi μ3 =>
      rw [R.bind_ok]
      exact fun p2 W3 H3 g3 o3 => ⟨_, W3, μ3, x, o3, r.mono (g2.le.trans g3.le), post.mono g3 p2⟩
end

/-! ### methods of built-in types -/
def tyD (T : String) (d : D) (μ : Mu) : Bool := match d with
  | .str _ => T == "str"
  | .lst _ => T == "list"
  | .hdl l => match μ[l]? with
    | some (.lst _) => T == "list"
    | some (.dct _ _) => T == "dict"
    | some (.dtt _ _) => T == "dict"
    | _ => false
  | _ => false
theorem tyD_rep {K : PySem.W.Frag} {W : Wd} {H : Hp} {μ : Mu} {T : String} {v : V} {d : D} (ok : Ok K W H μ) (r : Rep K W v d) (h : tyD T d μ = true) : tyV K T v H := by
  cases r with
  | str x z => exact eq_of_beq h
  | lst z h1 q => exact .inl ⟨eq_of_beq h, _, (same_lq ok.sub h1).sq⟩
  | @hdl a l ha =>
    unfold tyD at h
    dsimp only at h
    cases hm : μ[l]? with
    | none => rw [hm] at h; cases h
    | some m =>
      rw [hm] at h
      obtain ⟨o, ho, c⟩ := ok.cell l a m ha hm
      cases m with
      | lst xs =>
        obtain ⟨vs, rfl, _⟩ := c
        exact .inl ⟨eq_of_beq h, _, .inl (.inl ho)⟩
      | dct ks xs =>
        obtain ⟨vs, rfl, _⟩ := c
        exact .inr (.inr (.inl ⟨eq_of_beq h, .inl ⟨_, ho⟩⟩))
      | dtt ks xs =>
        obtain ⟨vs, rfl, _⟩ := c
        exact .inr (.inr (.inl ⟨eq_of_beq h, .inr ⟨_, ho⟩⟩))
      | _ => cases h
  | _ => cases h
def rM (K : PySem.W.Frag) (E : WX) (g : D → List D → Mu → R D) : V → List V → Hp → VK → Prop := fun x xs H Q => ∃ (E' : XK) (W : Wd) (μ : Mu) (d : D) (ds : List D), Ok K W H μ ∧ Rep K W x d ∧ Reps K W xs ds ∧ postE K E' W H (g d ds μ) Q
abbrev MtX (X : Cx) (E : WX) (id : String) (g : D → List D → Mu → R D) : Prop := MtR X id (rM X.K E g)
theorem mtx {X : Cx} {E : WX} {id : String} {g : D → List D → Mu → R D} (h : ∀ {E' : XK} W H μ d ds x xs Q, Ok X.K W H μ → Rep X.K W x d → Reps X.K W xs ds → postE X.K E' W H (g d ds μ) Q → ∃ r, MtR X id r ∧ r x xs H Q) : MtX X E id g := by
  intro pins s σ H x xs v us Q I rx rs q
  obtain ⟨_, W, μ, d, ds, ok, r1, r2, p⟩ := q
  obtain ⟨r, o, z⟩ := h W H μ d ds x xs Q ok r1 r2 p
  exact o pins s σ H x xs v us Q I rx rs z
def dbm (T : String) (g : D → List D → Mu → R D) (fo : FE) (fa : FA) : FE := fun ρ μ => (fo ρ μ).bind fun x μ1 => if tyD T x μ1 = true then (fa ρ μ1).bind fun ds μ2 => g x ds μ2 else .bad
section
variable {X : Cx} {E : WX} {o e : Expr} {es : List Expr} {fo : FE} {fa : FA} {name : Str} {apos cpos : Pos} {T id : String} {g : D → List D → Mu → R D}
theorem de_bm (pa : PlainAttrs T) (slot : Slot T name id) (hty : typeOf (.builtin id) = pure (.type "method_descriptor")) (hm : MtX X E id g) (ho : DE X E o fo) (ha : DA X E (e :: es) fa)
    (hbase : attributeBase o name X.env (eval o X.env) = eval o X.env := by rfl)
    (hfew : ((backTo cpos (starEach (e :: es) X.env)).all (fun x => !x.1) && (backToKw cpos (keywordEach [] X.env)).all (fun x => x.1.isSome)
      && decide ((e :: es).length + ([] : List Keyword).length + (if ([] : List Keyword).isEmpty then 0 else 1) < 30)) = true := by rfl)
    (hline : (apos.endLine == cpos.line) = true := by rfl) (hs : starEach (e :: es) X.env = (false, eval e X.env) :: starEach es X.env := by rfl) (hplain : (backTo cpos (starEach es X.env)).any (·.1) = false := by rfl) :
    DE X E (.Call (.Attribute o name apos) (e :: es) [] cpos) (dbm T g fo fa) := by
  refine pe_imp (pe_bm pa slot hty hm ho ha hbase hfew hline hs hplain) fun σ H Q ⟨W, ρ, μ, ok, en, p⟩ => ?_
  refine seq p ok en fun x μ1 W1 v H1 g1 o1 en1 r p1 => ?_
  by_cases ht : tyD T x μ1 = true
  · rw [if_pos ht] at p1
    exact ⟨tyD_rep o1 r ht, seqA p1 o1 en1 fun ds μ2 W2 xs H2 g2 o2 en2 rs p2 => ⟨_, W2, μ2, x, ds, o2, r.mono g2.le, rs, p2⟩⟩
  · rw [if_neg ht] at p1
    exact p1.elim
end
def mAppend : D → List D → Mu → R D := fun x ds μ => match x, ds with
  | .hdl l, [d] => match μ[l]? with
    | some (.lst xs) => if xs.length < 1000000 then .ok .non (μ.set l (.lst (xs ++ [d]))) else .bad
    | _ => .bad
  | _, _ => .bad
theorem mx_append {X : Cx} {E : WX} : MtX X E "list.append" mAppend := mtx fun W H μ d ds x xs Q ok r rs p => by
  unfold mAppend at p
  split at p
  · rename_i l y
    split at p
    · rename_i ys hm
      split at p
      · rename_i hn
        cases r with
        | @hdl a _ ha =>
          cases rs with
          | cons r1 r2 =>
            cases r2
            obtain ⟨o, ho, vs, rfl, q⟩ := ok.cell l a _ ha hm
            obtain ⟨ok2, g2⟩ := ok.setcell (m' := .lst (ys ++ [y])) ha hm (fun z => nomatch z) ⟨vs ++ [_], rfl, q.app (.cons r1 .nil)⟩
            exact ⟨_, mt_append, a, vs, _, rfl, rfl, ho, by rw [q.length]; exact Nat.lt_of_lt_of_le hn (by decide), p _ _ _ g2 ok2 .non⟩
      · exact p.elim
    · exact p.elim
  · exact p.elim
def mSplit : D → List D → Mu → R D := fun x ds μ => match x, ds with
  | .str a, [.str b] => if 0 < b.length ∧ a.length ≤ 1000000 ∧ (∀ y ∈ Txt.split a b, y.length ≤ 1000000) then .ok (.lst ((Txt.split a b).map .str)) μ else .bad
  | _, _ => .bad
def strsD : List D → Option (List Str)
  | [] => some []
  | .str x :: ds => (strsD ds).map (x :: ·)
  | _ => none
def mJoin : D → List D → Mu → R D := fun x ds μ => match x, ds with
  | .str a, [.lst ds] => match strsD ds with
    | some ys => if (ys.map (·.length)).sum + ys.length * a.length ≤ 1000000 ∧ (Txt.join a ys).length ≤ 1000000 then .ok (.str (Txt.join a ys)) μ else .bad
    | none => .bad
  | _, _ => .bad

/-! ### stores into a cell's list -/
def gsetix (fo fi fe : FE) : FS := fun ρ μ => (fe ρ μ).to ρ fun d μ1 => (fo ρ μ1).to ρ fun x μ2 => (fi ρ μ2).to ρ fun i μ3 => match x, i with
  | .hdl l, .int k => match μ3[l]? with
    | some (.lst xs) => match ixN xs.length k with
      | some j => .nx ρ (μ3.set l (.lst (xs.set j d)))
      | none => .bad
    | _ => .bad
  | _, _ => .bad
theorem ds_setix {X : Cx} {E : WX} {o i e : Expr} {fo fi fe : FE} {pos pos' : Pos} (he : DE X E e fe) (ho : DE X E o fo) (hi : DE X E i fi)
    (ha : ∀ v, assign (.Subscript o i pos') X.env v = (do
      let ov ← holding [v] (eval o X.env)
      let iv ← holding [v, ov] (eval i X.env)
      standAt pos'
      holding [v, ov, iv] (setItem ov iv v)
      release [v, ov, iv] []) := by intro _; rfl) (hs : swapsWithSole [.Subscript o i pos'] e pos.line X.env = pure false := by rfl) (hw : swappedStores [.Subscript o i pos'] e X.env = pure none := by rfl)
    (h1 : (assignEach [.Subscript o i pos'] X.env).map (·.2) = [assign (.Subscript o i pos') X.env] := by rfl) : DS X E (.Assign [.Subscript o i pos'] e pos) (gsetix fo fi fe) := by
  refine ps_imp (ps_asg he (pg_sub ho hi set_list ha) hs hw h1) fun Z σ H ⟨W, ρ, μ, ok, en, p⟩ => ?_
  refine seqS p ok en fun d μ1 W1 v H1 g1 o1 en1 r p1 => ?_
  refine seqS p1 o1 en1 fun x μ2 W2 xv H2 g2 o2 en2 r2 p2 => ?_
  refine seqS p2 o2 en2 fun i μ3 W3 iv H3 g3 o3 en3 r3 p3 => ?_
  split at p3
  · rename_i l k
    split at p3
    · rename_i xs hm
      split at p3
      · rename_i j hj
        cases r2 with
        | @hdl a _ ha =>
          cases r3
          have ha3 := prefix_get g3.le.io ha
          obtain ⟨ob, ho, vs, rfl, q⟩ := o3.cell l a _ ha3 hm
          obtain ⟨ok4, g4⟩ := o3.setcell (m' := .lst (xs.set j d)) ha3 hm (fun z => nomatch z) ⟨vs.set j v, rfl, q.set ((r.mono g2.le).mono g3.le) j⟩
          exact ⟨a, vs, k, j, rfl, rfl, ho, by rw [q.length]; exact hj, p3 _ _ _ g4 ok4 en3⟩
      · exact p3.elim
    · exact p3.elim
  · exact p3.elim
end DL
/-! DL8: calls with keywords, texts, sets of numbers. -/
namespace DL
open PySem L2

/-! ### calls with keywords -/
/-- how n values and the keywords ks come to the parameters -/
structure KDfl (K : PySem.W.Frag) (fd : FuncData) (ps : List Str) (n : Nat) (ks : List Str) (gD : List D → List D → List D) : Prop where
  ex : ∃ (g : List Value → List Value → List Value) (gV : List V → List V → List V), (∀ us ws, us.length = n → ws.length = ks.length → (g us ws).length = ps.length) ∧ KBn K fd ps n ks g gV ∧
    ∀ W vs ds zs es, vs.length = n → zs.length = ks.length → Reps K W vs ds → Reps K W zs es → Reps K W (gV vs zs) (gD ds es)
abbrev DK (X : Cx) (E : WX) (kws : List Keyword) (f : FA) : Prop := PK X kws (rA X.K E f)
theorem pk_imp {X : Cx} {e : List Keyword} {t t' : TA} (h : PK X e t) (i : ∀ σ H Q, t' σ H Q → t σ H Q) : PK X e t' := ⟨fun pos pins s σ H Q I q => h.run pos pins s σ H Q I (i σ H Q q)⟩
def dcallK (F : List D → Mu → R D) (gD : List D → List D → List D) (fa fk : FA) : FE := fun ρ μ => (fa ρ μ).bind fun ds μ1 => (fk ρ μ1).bind fun es μ2 => F (gD ds es) μ2
section
variable {X : Cx} {E : WX} {k n : Nat} {f : Addr} {fd : FuncData} {ps ks : List Str} {F : List D → Mu → R D} {gD : List D → List D → List D} {x : Str} {p pos kpos : Pos} {e : Expr} {es : List Expr} {kws : List Keyword} {fa fk : FA} {nm : Option Str} {fe : FE}
theorem dk_nil : DK X E [] aNil := pk_imp pk_nil fun σ H Q ⟨W, ρ, μ, ok, en, p⟩ => p W [] H (Go.refl W H) ok .nil
theorem dk_cons (h : DE X E e fe) (hs : DK X E kws fk) : DK X E (⟨nm, e, kpos⟩ :: kws) (aCons fe fk) := by
  refine pk_imp (pk_cons h hs) fun σ H Q ⟨W, ρ, μ, ok, en, p⟩ => ?_
  refine ⟨W, ρ, μ, ok, en, ?_⟩
  unfold aCons at p
  revert p
  cases fe ρ μ with
  | ok d μ1 =>
    intro p W1 x H1 g1 o1 r1
    refine ⟨W1, ρ, μ1, o1, en.mono g1.le, ?_⟩
    have p := postA.mono g1 p
    revert p
    rw [R.bind_ok]
    cases fk ρ μ1 with
    | ok ds μ2 => exact fun p W2 xs H2 g2 o2 r2 => p W2 (x :: xs) H2 g2 o2 (.cons (r1.mono g2.le) r2)
    | ex c fs μ2 => exact fun p => p
    | bad => exact fun p => p
  | ex c fs μ1 => exact fun p => p
  | bad => exact fun p => p
theorem callF_kw {pins : List (Addr × Obj)} {σ : St} {H : Hp} {s : Shared} {Q : VK} {us ws : List Value} {vs zs : List V} {W : Wd} {ds es : List D} {μ : Mu} (G : FnG X.prog X.w X.K X.mg X.base k f fd ps F) (c : Cal X E k) (b : KDfl X.K fd ps n ks gD)
    (I : Inv X pins σ H s) (hn : vs.length = n) (hk : zs.length = ks.length) (rv : Vals vs us) (rz : Vals zs ws) (ok : Ok X.K W H μ) (r : Reps X.K W vs ds) (r' : Reps X.K W zs es) (q : postE X.K (WE E σ) W H (F (gD ds es) μ) Q) : wpAny (model X.prog X.w) X.A (call (.ref f) us (ks.zip ws)) (EP X pins σ Q) X.xe s := by
  obtain ⟨g, gV, hl, kb, rp⟩ := b.ex
  have h1 : us.length = n := by rw [← rv.length]; exact hn
  have h2 : ws.length = ks.length := by rw [← rz.length]; exact hk
  exact wpAny_call (run_g (args := ⟨us, ks.zip ws⟩) G c I (hl us ws h1 h2) (kb.to s us ws I.kIn h1 h2) (kb.rel rv rz) ok (rp W vs ds zs es hn hk r r') q)
theorem de_callK (G : FnG X.prog X.w X.K X.mg X.base k f fd ps F) (c : Cal X E k) (hm : X.mg x = some (.ref f)) (hk : PySem.W.keepIn X.K (.ref f) = true) (b : KDfl X.K fd ps (e :: es).length ks gD) (ha : DA X E (e :: es) fa) (hkw : DK X E kws fk)
    (hf : HasLen fa (e :: es).length := by repeat (first | exact aNil_len | refine aCons_len ?_)) (hf2 : HasLen fk ks.length := by repeat (first | exact aNil_len | refine aCons_len ?_))
    (hall : (backToKw pos (keywordEach kws X.env)).all (·.1.isSome) = true := by rfl) (hks : (backToKw pos (keywordEach kws X.env)).filterMap (·.1) = ks := by rfl)
    (hg : Gl X x := by rfl) (hdb : (x == ("__debug__" : Str)) = false := by decide) (he : starEach (e :: es) X.env = (false, eval e X.env) :: starEach es X.env := by rfl)
    (hpl : ((backTo pos (starEach (e :: es) X.env)).any (·.1) || (backToKw pos (keywordEach kws X.env)).any (·.1.isNone)) = false := by rfl) :
    DE X E (.Call (.Name x p) (e :: es) kws pos) (dcallK F gD fa fk) := by
  refine ⟨fun pins s σ H Q I q => ?_⟩
  obtain ⟨W, ρ, μ, ok, en, pq⟩ := q
  refine wpAny_Call_Name_kw (ld_glob I hg hm ?_ hdb)
  unfold dcallK at pq
  have rd : rA X.K E fa σ H (fun vs H1 => ∃ W1 ds μ1, vs.length = (e :: es).length ∧ Ok X.K W1 H1 μ1 ∧ Envs X.K W1 σ ρ ∧ Reps X.K W1 vs ds ∧ postE X.K (WE E σ) W1 H1 ((fk ρ μ1).bind fun es μ2 => F (gD ds es) μ2) Q) := by
    refine ⟨W, ρ, μ, ok, en, ?_⟩
    revert pq
    cases hq : fa ρ μ with
    | ok ds μ1 => exact fun p W1 xs H1 g o r => ⟨W1, ds, μ1, by rw [r.length]; exact hf ρ μ ds μ1 hq, o, en.mono g.le, r, post.mono g p⟩
    | ex c fs μ1 => exact fun p => p
    | bad => exact fun p => p
  refine PySem.W.callWith_KW (h₀ := X.base) I.ok.mod.kin hk hall (thn (ha.run pos pins s σ H _ I rd) fun us s1 ⟨vs, H1, I1, r, W1, ds, μ1, hn, o1, en1, r1, q1⟩ => ?_) hpl he
  have rd2 : rA X.K E fk σ H1 (fun zs H2 => ∃ W2 es μ2, zs.length = ks.length ∧ Ok X.K W2 H2 μ2 ∧ Le W1 W2 ∧ Reps X.K W2 zs es ∧ postE X.K (WE E σ) W2 H2 (F (gD ds es) μ2) Q) := by
    refine ⟨W1, ρ, μ1, o1, en1, ?_⟩
    revert q1
    cases hq : fk ρ μ1 with
    | ok es μ2 => exact fun p W2 xs H2 g o r => ⟨W2, es, μ2, by rw [r.length]; exact hf2 ρ μ1 es μ2 hq, o, g.le, r, post.mono g p⟩
    | ex c fs μ1 => exact fun p => p
    | bad => exact fun p => p
  refine thn (hkw.run pos pins s1 σ H1 _ I1 rd2) fun ws s2 ⟨zs, H2, I2, rz, W2, es, μ2, hz, o2, l2, r2, q2⟩ => ⟨I2.kIn, ?_⟩
  rw [hks]
  exact callF_kw G c b I2 hn hz r rz o2 (r1.mono l2) r2 q2
theorem de_callK0 (G : FnG X.prog X.w X.K X.mg X.base k f fd ps F) (c : Cal X E k) (hm : X.mg x = some (.ref f)) (hk : PySem.W.keepIn X.K (.ref f) = true) (b : KDfl X.K fd ps 0 ks gD) (hkw : DK X E kws fk)
    (hf2 : HasLen fk ks.length := by repeat (first | exact aNil_len | refine aCons_len ?_))
    (hall : (backToKw pos (keywordEach kws X.env)).all (·.1.isSome) = true := by rfl) (hks : (backToKw pos (keywordEach kws X.env)).filterMap (·.1) = ks := by rfl)
    (hg : Gl X x := by rfl) (hdb : (x == ("__debug__" : Str)) = false := by decide)
    (hpl : ((backTo pos (starEach [] X.env)).any (·.1) || (backToKw pos (keywordEach kws X.env)).any (·.1.isNone)) = false := by rfl) :
    DE X E (.Call (.Name x p) [] kws pos) (dcallK F gD aNil fk) := by
  refine ⟨fun pins s σ H Q I q => ?_⟩
  obtain ⟨W, ρ, μ, ok, en, pq⟩ := q
  refine wpAny_Call_Name_kw (ld_glob I hg hm ?_ hdb)
  unfold dcallK aNil at pq
  rw [R.bind_ok] at pq
  have rd2 : rA X.K E fk σ H (fun zs H2 => ∃ W2 es μ2, zs.length = ks.length ∧ Ok X.K W2 H2 μ2 ∧ Reps X.K W2 zs es ∧ postE X.K (WE E σ) W2 H2 (F (gD [] es) μ2) Q) := by
    refine ⟨W, ρ, μ, ok, en, ?_⟩
    revert pq
    cases hq : fk ρ μ with
    | ok es μ2 => exact fun p W2 xs H2 g o r => ⟨W2, es, μ2, by rw [r.length]; exact hf2 ρ μ es μ2 hq, o, r, post.mono g p⟩
    | ex c fs μ1 => exact fun p => p
    | bad => exact fun p => p
  refine PySem.W.callWith_KW0 (h₀ := X.base) I.ok.mod.kin hk hall (thn (hkw.run pos pins s σ H _ I rd2) fun ws s2 ⟨zs, H2, I2, rz, W2, es, μ2, hz, o2, r2, q2⟩ => ⟨I2.kIn, ?_⟩) hpl
  rw [hks]
  exact callF_kw (us := []) (vs := []) G c b I2 rfl hz .nil rz o2 .nil r2 q2
end
section
variable {K : PySem.W.Frag} {x qual : Str} {params : Arguments} {body : List Stmt} {scope : Scope} {kws : List (Str × V)} {f : Addr} {fd : FuncData} {ps : List Str}
/-- keyword-only defaults alone: n values written, the keywords ks, the lacking ones ms -/
theorem kdfl (F : FunD K x qual params body scope [] kws f fd) (n : Nat) (ks : List Str) (ms : List (Str × V)) (md : List D) (g : {α : Type} → List α → List α → List α → List α) (hk : kws ≠ []) (hms : ∀ q ∈ ms, q ∈ kws)
    (hrel : ∀ {vs mz zs : List V} {us mv ws : List Value}, Vals vs us → Vals mz mv → Vals zs ws → Vals (g vs mz zs) (g us mv ws))
    (hrep : ∀ W vs ds zs es, vs.length = n → zs.length = ks.length → Reps K W vs ds → Reps K W zs es → Reps K W (g vs (ms.map (·.2)) zs) (g ds md es))
    (hlen : ∀ us mv ws : List Value, us.length = n → mv.length = ms.length → ws.length = ks.length → (g us mv ws).length = ps.length)
    (h : ∀ (D : Addr) (doc pm : Value) (an : Option Addr) (cdv ct : Value) (us mv ws : List Value), us.length = n → mv.length = ms.length → ws.length = ks.length →
      KwChain D ((ms.map (·.1)).zip mv) (bindArgs (PySem.W.fnOf x qual params body scope .none (.ref D) doc pm an cdv ct) ⟨us, ks.zip ws⟩) (ps.zip (g us mv ws))) :
    KDfl K fd ps n ks (fun ds es => g ds md es) := by
  obtain ⟨oc, od, dV, kV, doc, pm, an, cdv, ct, osl, rfl, lk, hcd, hD, hK⟩ := F.ex
  rcases hD with ⟨_, rfl⟩ | ⟨e, _⟩
  · rcases hK with e | ⟨D0, rfl, hq⟩
    · exact absurd e hk
    · obtain ⟨mv, hl, rk, hks⟩ := kwd_vals (ms := ms) fun q hm => hq q (hms q hm)
      exact ⟨fun us ws => g us mv ws, fun vs zs => g vs (ms.map (·.2)) zs, fun us ws h1 h2 => hlen us mv ws h1 hl h2,
        ⟨fun s us ws X l1 l2 => BindsTo.of_looks fun M => KwChain.looks X hks (h D0 doc pm an cdv ct us mv ws l1 hl l2), fun r1 r2 => hrel r1 rk r2⟩, hrep⟩
  · exact absurd rfl e
/-- .. all lacking ones by their places alone -/
theorem dfl_kw (F : FunD K x qual params body scope [] kws f fd) (n : Nat) (kd : List D) (hk : kws ≠ []) (hn : n + kws.length = ps.length) (hr : ∀ W, Reps K W (kws.map (·.2)) kd)
    (h : ∀ (D : Addr) (doc pm : Value) (an : Option Addr) (cdv ct : Value) (us ks : List Value), us.length = n → ks.length = kws.length →
      KwChain D ((kws.map (·.1)).zip ks) (bindArgs (PySem.W.fnOf x qual params body scope .none (.ref D) doc pm an cdv ct) ⟨us, []⟩) (ps.zip (us ++ ks))) : Dfl K fd ps n kd := by
  obtain ⟨ds, rv, hb⟩ := F.binds0 n hk hn h
  exact ⟨_, ds, rv, hr, by rw [← rv.length, List.length_map]; exact hn, hb⟩
end

/-! ### texts -/
theorem strs_reps {K : PySem.W.Frag} {W : Wd} : ∀ {ys : List Str}, (∀ y ∈ ys, y.length ≤ sizeLine) → Reps K W (ys.map V.str) (ys.map D.str)
  | [], _ => .nil
  | y :: ys, h => .cons (.str y (h y (by simp))) (strs_reps fun z hz => h z (by simp [hz]))
theorem strsD_rep {K : PySem.W.Frag} {W : Wd} : ∀ {vs : List V} {ds : List D} {ys : List Str}, Reps K W vs ds → strsD ds = some ys → vs = ys.map V.str
  | _, _, _, .nil, h => by
    simp [strsD] at h
    subst h
    rfl
  | _, _, _, .cons (d := d) (ds := ds) r rs, h => by
    cases d with
    | str x =>
      cases r
      unfold strsD at h
      cases e : strsD ds with
      | none => rw [e] at h; cases h
      | some cs =>
        rw [e] at h
        cases h
        rw [strsD_rep rs e]
        rfl
    | _ => simp [strsD] at h

/-! ### len(set(xs)) of numbers -/
def intsD : List D → Option (List Int)
  | [] => some []
  | .int x :: ds => (intsD ds).map (x :: ·)
  | _ => none
theorem intsD_rep {K : PySem.W.Frag} {W : Wd} : ∀ {vs : List V} {ds : List D} {ys : List Int}, Reps K W vs ds → intsD ds = some ys → vs = ys.map V.int
  | _, _, _, .nil, h => by
    simp [intsD] at h
    subst h
    rfl
  | _, _, _, .cons (d := d) (ds := ds) r rs, h => by
    cases d with
    | int x =>
      cases r
      unfold intsD at h
      cases e : intsD ds with
      | none => rw [e] at h; cases h
      | some cs =>
        rw [e] at h
        cases h
        rw [intsD_rep rs e]
        rfl
    | _ => simp [intsD] at h
theorem vals_ints : ∀ {ns : List Int} {us : List Value}, Vals (ns.map V.int) us → PyProof.Rows.IntsAre us ns
  | [], _, .nil => .nil
  | n :: ns, _, .cons r t => by
    obtain ⟨k, rfl⟩ := r
    exact .cons n k (vals_ints t)
/-- how many unlike ones -/
def kinds (ns : List Int) : Nat := (PyProof.Rows.firstMet (fun i => ns.getD i 0) ns.length).length
def dlenset (f : FE) : FE := fun ρ μ => (f ρ μ).bind fun d μ1 => match d with
  | .lst ds => match intsD ds with
    | some ns => if ns.length ≤ 1000 then .ok (.int (kinds ns)) μ1 else .bad
    | none => .bad
  | _ => .bad
theorem de_lenset {X : Cx} {E : WX} {a : Expr} {fa : FE} {p p2 q pos : Pos} (hm : X.mg "len" = none) (hm2 : X.mg "set" = none) (ha : DE X E a fa) (hc : X.calm = true := by rfl) (hg : Gl X "len" := by rfl) (hg2 : Gl X "set" := by rfl)
    (na : starEach [a] X.env = (false, eval a X.env) :: starEach [] X.env := by rfl) : DE X E (.Call (.Name "len" p) [.Call (.Name "set" p2) [a] [] q] [] pos) (dlenset fa) := by
  constructor
  intro pins s σ H Q I rd
  obtain ⟨W, ρ, μ, ok, en, z⟩ := rd
  unfold dlenset at z
  have inner : rE X.K E fa σ H (fun x H1 => ∃ l ns, x = .ref l ∧ SqL X.K H1 l (ns.map V.int) ∧ ns.length ≤ 1000 ∧ Q (.int (kinds ns)) H1) := seq z ok en fun d μ1 W1 v H1 g1 o1 en1 r z1 => by
    cases r with
    | lst zz h rs =>
      dsimp only at z1
      split at z1
      · rename_i ns hns
        have e := intsD_rep rs hns
        subst e
        split at z1
        · rename_i hl
          exact ⟨_, ns, rfl, (same_lq o1.sub h).sq, hl, post_pure o1 z1 (.int _)⟩
        · exact z1.elim
      · exact z1.elim
    | _ => exact z1.elim
  refine PyProof.Rows.Call_ (ld_blt I hg hm PySem.boot_len (PyProof.Rows.callWith_builtin1 (PyProof.Rows.args_cons ?_ rfl) rfl rfl))
  refine PyProof.Rows.Call_ (ld_blt I hg2 hm2 PyProof.Rows.boot_set (PyProof.Rows.callWith_type1 (PyProof.Rows.args_cons (thn (ha.run pins s σ H _ I inner) fun v s1 hv => PyProof.Rows.args_nil ?_) na) na rfl))
  obtain ⟨y, H1, I1, w1, l, ns, ey, sq, hl, fin⟩ := hv
  subst ey
  cases w1
  obtain ⟨its, rv, pl, _⟩ := I1.list sq
  have hsz : its.toArray.size = ns.length := by
    rw [List.size_toArray, ← rv.length, List.length_map]
  refine PySem.call_set_list (I1.ok.hd hc) pl.isList (ns := ns) (by simpa using vals_ints rv) (by rw [hsz]; unfold scanBound; omega) fun h' tk made old => PyProof.Rows.args_nil ?_
  rw [hsz] at made
  obtain ⟨ob, en', ep, tt, ho, hex, hd, _, _, _, hf, hn⟩ := made
  have few : (PyProof.Rows.firstMet (fun i => ns.getD i 0) ns.length).length ≤ ns.length := PyProof.Rows.firstMet_length_le _ _
  exact call_len_set ho hex hd hf (by rw [hn]; omega) ⟨.int (kinds ns), H1, (I1.kept fun b o e => old b o (Heap.lt_size e) e).tok _, ⟨_, by rw [hn]; rfl⟩, fin⟩
end DL
/-! DL9: and, or, not as values, chains, conditional expressions, isinstance, texts. -/
namespace DL
open PySem L2

def dand (f g : FE) : FE := fun ρ μ => (f ρ μ).bind fun d μ1 => match d with
  | .bl true => g ρ μ1
  | .bl false => .ok (.bl false) μ1
  | _ => .bad
def dor (f g : FE) : FE := fun ρ μ => (f ρ μ).bind fun d μ1 => match d with
  | .bl true => .ok (.bl true) μ1
  | .bl false => g ρ μ1
  | _ => .bad
def dnot (f : FE) : FE := fun ρ μ => (f ρ μ).bind fun d μ1 => match d with
  | .bl b => .ok (.bl (!b)) μ1
  | _ => .bad
def dneg (f : FE) : FE := fun ρ μ => (f ρ μ).bind fun d μ1 => match d with
  | .int i => .ok (.int (-i)) μ1
  | _ => .bad
def dite (c : FT) (f g : FE) : FE := fun ρ μ => (c ρ μ).bind fun b μ1 => if b = true then f ρ μ1 else g ρ μ1
def dchain (g1 g2 : D → D → Mu → R D) (fa fb fc : FE) : FE := fun ρ μ => (fa ρ μ).bind fun x μ1 => (fb ρ μ1).bind fun y μ2 => (g1 x y μ2).bind fun z μ3 => match z with
  | .bl true => (fc ρ μ3).bind fun w μ4 => g2 y w μ4
  | .bl false => .ok (.bl false) μ3
  | _ => .bad
section
variable {X : Cx} {E : WX} {a b c : Expr} {rest : List Expr} {pos : Pos} {f g h : FE}
theorem de_one {op : BoolOp} (ha : DE X E a f) : DE X E (.BoolOp op [a] pos) f := pe_one ha
theorem de_and (ha : DE X E a f) (hb : DE X E (.BoolOp .And (b :: rest) pos) g) : DE X E (.BoolOp .And (a :: b :: rest) pos) (dand f g) := pe_imp (pe_and ha hb) fun σ H Q ⟨W, ρ, μ, ok, en, p⟩ =>
  seq p ok en fun d μ1 W1 x H1 g1 o1 en1 r p1 => by
    cases d with
    | bl k =>
      cases r
      cases k with
      | true => exact ⟨true, rfl, W1, ρ, μ1, o1, en1, p1⟩
      | false => exact ⟨false, rfl, post_pure o1 p1 (.bl _)⟩
    | _ => exact p1.elim
theorem de_or (ha : DE X E a f) (hb : DE X E (.BoolOp .Or (b :: rest) pos) g) : DE X E (.BoolOp .Or (a :: b :: rest) pos) (dor f g) := pe_imp (pe_or ha hb) fun σ H Q ⟨W, ρ, μ, ok, en, p⟩ =>
  seq p ok en fun d μ1 W1 x H1 g1 o1 en1 r p1 => by
    cases d with
    | bl k =>
      cases r
      cases k with
      | false => exact ⟨false, rfl, W1, ρ, μ1, o1, en1, p1⟩
      | true => exact ⟨true, rfl, post_pure o1 p1 (.bl _)⟩
    | _ => exact p1.elim
theorem de_not (ha : DE X E a f) : DE X E (.UnaryOp .Not a pos) (dnot f) := pe_imp (pe_not ha) fun σ H Q ⟨W, ρ, μ, ok, en, p⟩ =>
  seq p ok en fun d μ1 W1 x H1 g1 o1 en1 r p1 => by
    cases d with
    | bl k =>
      cases r
      exact ⟨k, rfl, post_pure o1 p1 (.bl _)⟩
    | _ => exact p1.elim
theorem de_neg (ha : DE X E a f) : DE X E (.UnaryOp .USub a pos) (dneg f) := pe_imp (pe_un un_neg ha) fun σ H Q ⟨W, ρ, μ, ok, en, p⟩ =>
  seq p ok en fun d μ1 W1 x H1 g1 o1 en1 r p1 => by
    cases d with
    | int k =>
      cases r
      exact ⟨k, rfl, post_pure o1 p1 (.int _)⟩
    | _ => exact p1.elim
theorem seqTE {K : PySem.W.Frag} {fa : FT} {k : Bool → Mu → R D} {σ : St} {H : Hp} {W : Wd} {ρ : En} {μ : Mu} {Q : VK} {Q1 : Bool → Hp → Prop} (p : postE K (WE E σ) W H ((fa ρ μ).bind k) Q) (ok : Ok K W H μ) (en : Envs K W σ ρ)
    (hk : ∀ b μ1 W1 H1, Go W H W1 H1 → Ok K W1 H1 μ1 → Envs K W1 σ ρ → postE K (WE E σ) W1 H1 (k b μ1) Q → Q1 b H1) : rT K E fa σ H Q1 := by
  refine ⟨W, ρ, μ, ok, en, ?_⟩
  revert p
  cases fa ρ μ with
  | ok d μ1 => exact fun p W1 H1 g o => hk d μ1 W1 H1 g o (en.mono g.le) (post.mono g p)
  | ex c fs μ1 => exact fun p => p
  | bad => exact fun p => p
theorem de_ifx {fc : FT} (hc : DT X E c fc) (ha : DE X E a f) (hb : DE X E b g) : DE X E (.IfExp c a b pos) (dite fc f g) := pe_imp (pe_ifExp hc ha hb) fun σ H Q ⟨W, ρ, μ, ok, en, p⟩ =>
  seqTE p ok en fun k μ1 W1 H1 g1 o1 en1 p1 => by
    cases k with
    | true => exact ⟨W1, ρ, μ1, o1, en1, p1⟩
    | false => exact ⟨W1, ρ, μ1, o1, en1, p1⟩
theorem tChain_of {g1 g2 : D → D → Mu → R D} : ∀ σ H Q, rE X.K E (dchain g1 g2 f g h) σ H Q → tChain (rD X.K E g1) (rD X.K E g2) (rE X.K E f) (rE X.K E g) (rE X.K E h) σ H Q := fun σ H Q ⟨W, ρ, μ, ok, en, p⟩ =>
  seq p ok en fun x μ1 W1 xv H1 k1 o1 en1 r1 p1 => seq p1 o1 en1 fun y μ2 W2 yv H2 k2 o2 en2 r2 p2 => by
    refine ⟨WE E σ, W2, μ2, x, y, o2, r1.mono k2.le, r2, ?_⟩
    revert p2
    cases g1 x y μ2 with
    | ex c fs μ3 => exact fun p => p
    | bad => exact fun p => p
    | ok z μ3 =>
      rw [R.bind_ok]
      cases z with
      | bl k =>
        intro p2 W3 v H3 k3 o3 r3
        cases r3
        refine ⟨k, rfl, ?_⟩
        have p3 := post.mono k3 p2
        cases k with
        | true =>
          rw [if_pos rfl]
          exact seq p3 o3 (en2.mono k3.le) fun w μ4 W4 wv H4 k4 o4 en4 r4 p4 => ⟨_, W4, μ4, y, w, o4, (r2.mono k3.le).mono k4.le, r4, p4⟩
        | false =>
          rw [if_neg Bool.false_ne_true]
          exact post_pure o3 p3 (.bl _)
      | _ => exact fun p => p.elim
theorem de_chain {op op' : CmpOp} {g1 g2 : D → D → Mu → R D} (ho : OpX X E (compareOp op) g1) (ho' : OpX X E (compareOp op') g2) (ha : DE X E a f) (hb : DE X E b g) (hc : DE X E c h) (hm : lastMarks [op, op'] [b, c] = false := by with_unfolding_all rfl) : DE X E (.Compare a [op, op'] [b, c] pos) (dchain g1 g2 f g h) :=
  pe_imp (pe_chain ho ho' ha hb hc hm) tChain_of
theorem dt_chain {op op' : CmpOp} {g1 g2 : D → D → Mu → R D} (ho : OpX X E (compareOp op) g1) (ho' : OpX X E (compareOp op') g2) (ha : DE X E a f) (hb : DE X E b g) (hc : DE X E c h) (hm : lastMarks [op, op'] [b, c] = false := by with_unfolding_all rfl) : DT X E (.Compare a [op, op'] [b, c] pos) (dtest (dchain g1 g2 f g h)) := by
  refine pt_imp (pt_chain ho ho' ha hb hc hm) fun σ H Q q => ?_
  have q := tB_of σ H Q q
  unfold tTest
  exact tChain_of σ H _ q
/-- a module's name -/
theorem de_glob {x : Str} {d : D} {v : V} {u : Value} (hm : X.mg x = some u) (r : RelV v u) (rp : ∀ W, Rep X.K W v d) (hg : Gl X x := by rfl) (hd : (x == ("__debug__" : Str)) = false := by decide) : DE X E (.Name x pos) (dc d) := dconst (pe_glob hg hm r hd) rp
/-- a built-in class -/
theorem de_ty {x : Str} {T : String} (hm : X.mg x = none) (hg : Gl X x := by rfl) (hv : bootBuiltins x = some (.type T) := by decide +kernel) (hn : x ≠ "__name__" := by decide) (hd : (x == ("__debug__" : Str)) = false := by decide) : DE X E (.Name x pos) (dc (.cst (.ty T))) := dconst (pe_bltn (v := .ty T) hg hm hv rfl hn hd) fun _ => .cst _
end

/-! ### isinstance -/
def tyName (μ : Mu) : D → Option String
  | .non => some "NoneType"
  | .bl _ => some "bool"
  | .int _ => some "int"
  | .str _ => some "str"
  | .tup _ => some "tuple"
  | .lst _ => some "list"
  | .hdl l => match μ[l]? with
    | some (.lst _) => some "list"
    | some (.dct _ _) => some "dict"
    | some (.dtt _ _) => some "dict"
    | _ => none
  | _ => none
def bIsi : List D → Mu → R D
  | [d, .cst (.ty T)], μ => match tyName μ d with
    | some t => match kitB t T with
      | some b => .ok (.bl b) μ
      | none => .bad
    | none => .bad
  | _, _ => .bad
theorem tyName_rep {K : PySem.W.Frag} {W : Wd} {H : Hp} {μ : Mu} {v : V} {d : D} {t : String} (ok : Ok K W H μ) (r : Rep K W v d) (h : tyName μ d = some t) : TyX K H v (.type t) := by
  cases r with
  | non => simp [tyName] at h; subst h; exact .base .non
  | bl b => simp [tyName] at h; subst h; exact .base (.bl b)
  | int i => simp [tyName] at h; subst h; exact .base (.int i)
  | str x z => simp [tyName] at h; subst h; exact .base (.str x)
  | tup z h1 q =>
    simp [tyName] at h
    subst h
    rcases h1 with (h1 | ⟨o, h1⟩) | ⟨o, its, n, h1, h2, _⟩
    · exact .base (.tup (ok.sub _ _ h1))
    · exact .fTuple (ok.sub _ _ h1)
    · exact .kTuple h1 h2
  | lst z h1 q =>
    simp [tyName] at h
    subst h
    rcases h1 with (h1 | ⟨o, h1⟩) | ⟨its, n, h1, _⟩
    · exact .base (.lst (ok.sub _ _ h1))
    · exact .base (.frz (ok.sub _ _ h1))
    · exact .kList h1 rfl
  | @hdl a l ha =>
    unfold tyName at h
    dsimp only at h
    cases hm : μ[l]? with
    | none => rw [hm] at h; cases h
    | some m =>
      rw [hm] at h
      obtain ⟨o, ho, c⟩ := ok.cell l a m ha hm
      cases m with
      | lst xs =>
        cases h
        obtain ⟨vs, rfl, _⟩ := c
        exact .base (.lst ho)
      | dct ks xs =>
        cases h
        obtain ⟨vs, rfl, _⟩ := c
        exact .base (.dK ho)
      | dtt ks xs =>
        cases h
        obtain ⟨vs, rfl, _⟩ := c
        exact .base (.dT ho)
      | _ => cases h
  | _ => simp [tyName] at h
theorem cx_isi {X : Cx} {E : WX} : CallX X E (.builtin "isinstance") bIsi := callx fun W H μ ds xs Q ok r p => by
  unfold bIsi at p
  split at p
  · rename_i d T
    cases r with
    | cons r1 r2 =>
      cases r2 with
      | cons r2 r3 =>
        cases r3
        cases r2
        split at p
        · rename_i t ht
          split at p
          · rename_i b hb
            exact ⟨_, call_isi, _, _, .type t, .type T, b, rfl, .ty T, tyName_rep ok r1 ht, kit_ty hb, post_pure ok p (.bl b)⟩
          · exact p.elim
        · exact p.elim
  · exact p.elim

/-! ### texts -/
theorem mx_join {X : Cx} {E : WX} : MtX X E "str.join" mJoin := mtx fun W H μ d ds x xs Q ok r rs p => by
  unfold mJoin at p
  split at p
  · split at p
    · rename_i ys hy
      split at p
      · rename_i hn
        cases r
        cases rs with
        | cons r1 r2 =>
          cases r2
          cases r1 with
          | lst z h q =>
            have e := strsD_rep q hy
            subst e
            exact ⟨_, mt_join, _, _, ys, rfl, rfl, .inl (same_lq ok.sub h).sq, Nat.le_trans hn.1 (by decide), post_pure ok p (.str _ (le_line hn.2))⟩
      · exact p.elim
    · exact p.elim
  · exact p.elim
theorem mx_split {X : Cx} {E : WX} : MtX X E "str.split" mSplit := mtx fun W H μ d ds x xs Q ok r rs p => by
  unfold mSplit at p
  split at p
  · rename_i a b
    split at p
    · rename_i hn
      cases r
      cases rs with
      | cons r1 r2 =>
        cases r2
        cases r1
        refine ⟨_, mt_split, a, b, rfl, rfl, ?_, ?_, fun q hq => p _ _ _ (Go.new ok hq) (ok.new hq) (rep_lst ok hq ?_ (strs_reps fun y hy => ?_))⟩
        · exact beq_eq_false_iff_ne.mpr (by omega)
        · show a.length + 2 ≤ 16777216
          omega
        · rw [List.length_map]
          exact Nat.le_trans (PyProof.Rows.split_le a b) (by show a.length + 2 ≤ 16777216; omega)
        · exact le_line (hn.2.2 y hy)
    · exact p.elim
  · exact p.elim
end DL
/-! DL10: the end of a law whose defs are told by DL's functions. -/
namespace DL
open PySem PySem.Spec PyProof.Rows L2

/-- the script's own world -/
def scriptW (a : Addr) (H : Hp) : Wd := ⟨fun b => if b = a then H a else none, []⟩
theorem ints_reps {K : PySem.W.Frag} {W : Wd} : ∀ ns : List Int, Reps K W (ns.map V.int) (ns.map D.int)
  | [] => .nil
  | n :: ns => .cons (.int n) (ints_reps ns)
section
variable {P : Program} {w : World} {K : PySem.W.Frag} {mg mb : Str → Option Value} {k : Nat} {fa a : Addr} {fd : FuncData} {x : Str} {F : List D → Mu → R D} {s1 : Shared} {vs : List Value} {ns : List Int}
theorem law_g (kin : K.In s1.heap) (hns : s1.heap.Ns mainGlobals mg) (hb : s1.heap.Ns builtinsNs mb) (hbb : ∀ x : Str, x ≠ "__name__" → mb x = bootBuiltins x) (hlim : s1.heap.NoLimit) (hg : s1.gens = #[])
    (ha : s1.heap.get? a = some { cls := .type "list", data := .seq vs.toArray }) (hi : IntsAre vs ns) (hl : ns.length ≤ sizeLine) (hr : Room k callerA)
    (G : ∀ base : Heap, K.In base → base.Ns mainGlobals mg → FnG P w K mg base k fa fd [x] F) (hbind : ∀ (s : Shared) (u : Value), BindsTo s fd ⟨[u], []⟩ [(x, u)])
    (hF : ∃ μ', F [.lst (ns.map D.int)] [] = .ok (.bl true) μ') :
    codeAny (model P w) callerA (.call (.ref fa) ⟨[.ref a], []⟩) (fun r s' => r = .ok (.ret (.bool true)) ∧ OldK s1.heap s'.heap ∧ s'.os = s1.os ∧ AllBare s'.gens) s1 := by
  have rv : Vals (ns.map V.int) vs := L2.vals_ints hi
  have lv : vs.length = ns.length := hi.length
  obtain ⟨μ', hF⟩ := hF
  have main : ∀ H : Hp, (∀ b, H b ≠ none → b = a) → (∀ u, H a = some u → ∃ o xs, u = .frz o (.lst xs)) → Lq K H a (ns.map V.int) → HOk P w H s1.heap → (H a ≠ none → K.lookup a = none) →
      codeAny (model P w) callerA (.call (.ref fa) ⟨[.ref a], []⟩) (fun r s' => r = .ok (.ret (.bool true)) ∧ OldK s1.heap s'.heap ∧ s'.os = s1.os ∧ AllBare s'.gens) s1 := by
    intro H only frz lq hok hK
    have out : ∀ b, b ≠ a → H b = none := fun b hb => by
      cases q : H b with
      | none => rfl
      | some u => exact absurd (only b (by rw [q]; simp)) hb
    have dicts : ∀ {b : Addr} {o : Obj} {es : Array DictEntry} {ep : Nat}, s1.heap.get? b = some o → o.data = .dict es ep → H b = none := fun {b o es ep} e d => by
      by_cases z : b = a
      · rw [z, ha] at e
        cases e
        cases d
      · exact out b z
    have ns' : ∀ {b : Addr} {m : Str → Option Value}, s1.heap.Ns b m → (hidT s1.heap H).Ns b m := by
      rintro b m ⟨o, es, ep, e, d, r⟩
      exact ⟨o, es, ep, hidT_get e (dicts e d), d, r⟩
    have kb : K.In (hidT s1.heap H) := fun b o e => hidT_get (kin b o e) (by
      by_cases z : b = a
      · cases q : H b with
        | none => rfl
        | some u =>
          rw [z] at e q
          rw [hK (by rw [q]; simp)] at e
          cases e
      · exact out b z)
    have md : Mod K mg (hidT s1.heap H) := by
      obtain ⟨mc, l1, l2⟩ := hlim
      exact ⟨kb, ns' hns, ⟨mb, ns' hb, hbb⟩, ⟨mc, ns' l1, l2⟩⟩
    have e0 : Env0 P w K mg (hidT s1.heap H) callerA [] s1 H := by
      refine ⟨rfl, md, fun b o e => of_hidT e, Nat.le_of_eq (hidT_size _ _), trivial, ?_, hok, .of_eq hg⟩
      intro b hb
      cases hb
    have wok : Ok K (scriptW a H) H [] := by
      refine ⟨fun b o e => ?_, rfl, List.nodup_nil, fun l b o e => ?_, fun l b o e => ?_⟩
      · have e : (if b = a then H a else none) = some o := e
        by_cases z : b = a
        · rw [if_pos z] at e
          rw [z]; exact e
        · rw [if_neg z] at e
          cases e
      · cases l <;> cases e
      · cases l <;> cases e
    have lq' : Lq K (scriptW a H).S a (ns.map V.int) := by
      have ea : (scriptW a H).S a = H a := if_pos rfl
      rcases lq with (h | ⟨o, h⟩) | h
      · exact .inl (.inl (ea.trans h))
      · exact .inl (.inr ⟨o, ea.trans h⟩)
      · exact .inr h
    have rp : Reps K (scriptW a H) [.ref a] [.lst (ns.map D.int)] := .cons (.lst (by rw [List.length_map]; exact hl) lq' (ints_reps ns)) .nil
    have run := (G _ kb (ns' hns)).run callerA [] s1 H ⟨[.ref a], []⟩ [.ref a] [.ref a] (fun v _ => v = .bl true) (fun _ _ _ => False) (scriptW a H) _ [] hr rfl e0 rfl (hbind s1 (.ref a)) (.cons rfl .nil) wok rp (by
      rw [hF]
      intro W' v H' _ _ r
      cases r
      rfl)
    refine codeAny_mono run fun r s' h => ?_
    match r, h with
    | .error e, h =>
      obtain ⟨_, _, _, _, _, _, _, _, _, _, _, _, z⟩ := h
      exact z.elim
    | .ok (.ret u), ⟨v, H', os, bare, un, hok', r', q⟩ =>
      have q : v = .bl true := q
      subst q
      cases r'
      refine ⟨rfl, OldK.of_keep fun b o e => ?_, os, bare⟩
      by_cases z : b = a
      · cases q : H b with
        | none => exact un.keep b o e q (by intro z; cases z) (by simp)
        | some u =>
          have q' := q
          rw [z] at q'
          obtain ⟨ob, xs, rfl⟩ := frz u q'
          have z2 := un.frzs b ob _ q
          obtain ⟨e1, _⟩ := hok b _ q
          obtain ⟨e2, _⟩ := hok' b _ z2
          rw [e] at e1
          cases e1
          exact e2
      · exact un.keep b o e (out b z) (by intro z; cases z) (by simp)
  cases hk : K.lookup a with
  | some o =>
    have e := kin a o hk
    rw [ha] at e
    cases e
    exact main (fun _ => none) (fun b z => absurd rfl z) (fun u z => nomatch z) (.inr ⟨vs, _, hk, by rw [lv]; exact hl, rv⟩) (fun b u z => nomatch z) (fun z => absurd rfl z)
  | none =>
    have ea : (fun b => if b = a then some (HO.frz { cls := .type "list", data := .seq vs.toArray } (.lst (ns.map V.int))) else none) a = some (HO.frz { cls := .type "list", data := .seq vs.toArray } (.lst (ns.map V.int))) := if_pos rfl
    refine main (fun b => if b = a then some (.frz { cls := .type "list", data := .seq vs.toArray } (.lst (ns.map V.int))) else none) (fun b z => ?_) (fun u z => ?_) (.inl (.inr ⟨_, ea⟩)) (fun b u z => ?_) fun _ => hk
    · by_cases hb : b = a
      · exact hb
      · exact absurd (if_neg hb) z
    · have z' := ea.symm.trans z
      cases z'
      exact ⟨_, _, rfl⟩
    · by_cases hb : b = a
      · have z' := (if_pos hb).symm.trans z
        cases z'
        rw [hb]
        exact ⟨ha, by rw [List.length_map]; exact hl, vs, _, rv, ha⟩
      · have z' := (if_neg hb).symm.trans z
        cases z'
end
/-- a law: what its def is worth at every script -/
theorem walk_g {l : PySem.W.OpenLaw} {n k : Nat} {q : Program} {loose : List Str} {XP : (Str → Option Value) → Heap → Prop} {YP : World → Heap → Prop} {d : DefRec} {x : Str}
    (hn : l.most = some n) (hn2 : n ≤ sizeLine) (hdf : d.params.defaults = []) (hr : Room k callerA)
    (G : ∀ (w : World) (mg : Str → Option Value) (fa : Addr) (h : Heap), YP w h → h.Ns mainGlobals mg → mg d.name = some (.ref fa) →
      ∃ (K : PySem.W.Frag) (fd : FuncData) (F : List D → Mu → R D), K.In h ∧ (∀ (s : Shared) (u : Value), BindsTo s fd ⟨[u], []⟩ [(x, u)]) ∧
        (∀ base : Heap, K.In base → base.Ns mainGlobals mg → FnG l.prog w K mg base k fa fd [x] F) ∧ ∀ ns : List Int, ns.length ≤ n → (∀ z ∈ ns, Builtin.Int.intBits z ≤ 1048576) → ∃ μ', F [.lst (ns.map D.int)] [] = .ok (.bl true) μ') :
    PySem.W.WalkO q loose XP YP l.row.toRowW d [] (fun f vs => PySem.call f vs) := by
  refine Att.attach_callB hn hdf fun w s0 s1 mg mb fa o pm cd doc a vs ns Gr Y ho hd hcd hmg hobj hints hlen hbits hgn => ?_
  obtain ⟨K, fd, F, kin, hb, hG, hF⟩ := G w mg fa _ Y Gr.T.g hmg
  exact law_g kin Gr.T.g Gr.T.b Gr.T.builtins Gr.T.nolimit hgn hobj hints (Nat.le_trans hlen hn2) hr hG hb (hF ns hlen hbits)
end DL
/-! DL11: picking by places. -/
namespace DL
open PySem L2
def pk {α : Type} : List α → Nat → List α → List α
  | [], _, r => r
  | a :: _, 0, r => a :: r
  | _ :: l, i + 1, r => pk l i r
theorem vals_pk {r : List V} {r' : List Value} (h : Vals r r') : ∀ {vs : List V} {us : List Value} (i : Nat), Vals vs us → Vals (pk vs i r) (pk us i r')
  | _, _, _, .nil => h
  | _, _, 0, .cons a _ => .cons a h
  | _, _, i + 1, .cons _ l => vals_pk h i l
theorem reps_pk {K : PySem.W.Frag} {W : Wd} {r : List V} {r' : List D} (h : Reps K W r r') : ∀ {vs : List V} {us : List D} (i : Nat), Reps K W vs us → Reps K W (pk vs i r) (pk us i r')
  | _, _, _, .nil => h
  | _, _, 0, .cons a _ => .cons a h
  | _, _, i + 1, .cons _ l => reps_pk h i l
end DL
/-! DL12: reckoning with the mirrors. -/
namespace DL
open PySem L2
def O.thn : O → FS → O
  | .nx ρ μ, h => h ρ μ
  | .rt d μ, _ => .rt d μ
  | .bk ρ μ, _ => .bk ρ μ
  | .ct ρ μ, _ => .ct ρ μ
  | .ex ρ c fs μ, _ => .ex ρ c fs μ
  | .bad, _ => .bad
@[simp] theorem O.thn_nx (ρ : En) (μ : Mu) (h : FS) : (O.nx ρ μ).thn h = h ρ μ := of_eq_true (eq_self _)
@[simp] theorem O.thn_rt (d : D) (μ : Mu) (h : FS) : (O.rt d μ).thn h = .rt d μ := of_eq_true (eq_self _)
@[simp] theorem O.thn_bk (ρ : En) (μ : Mu) (h : FS) : (O.bk ρ μ).thn h = .bk ρ μ := of_eq_true (eq_self _)
@[simp] theorem O.thn_ct (ρ : En) (μ : Mu) (h : FS) : (O.ct ρ μ).thn h = .ct ρ μ := of_eq_true (eq_self _)
@[simp] theorem O.thn_ex (ρ : En) (c : Nat) (fs : List (Str × D)) (μ : Mu) (h : FS) : (O.ex ρ c fs μ).thn h = .ex ρ c fs μ := of_eq_true (eq_self _)
theorem thn_if {p : Prop} [Decidable p] (a b : O) (h : FS) : (if p then a else b).thn h = if p then a.thn h else b.thn h := by split <;> rfl
theorem to_if {α : Type} {p : Prop} [Decidable p] (a b : R α) (ρ : En) (h : α → Mu → O) : (if p then a else b).to ρ h = if p then a.to ρ h else b.to ρ h := by split <;> rfl
theorem bind_if {α β : Type} {p : Prop} [Decidable p] (a b : R α) (h : α → Mu → R β) : (if p then a else b).bind h = if p then a.bind h else b.bind h := by split <;> rfl
@[simp] theorem ap_seq (g h : FS) (ρ : En) (μ : Mu) : gseq g h ρ μ = (g ρ μ).thn h := by
  unfold gseq O.thn
  cases g ρ μ <;> rfl
@[simp] theorem ap_nil (ρ : En) (μ : Mu) : gnil ρ μ = .nx ρ μ := of_eq_true (eq_self _)
@[simp] theorem ap_ret (f : FE) (ρ : En) (μ : Mu) : gret f ρ μ = (f ρ μ).to ρ fun d μ1 => .rt d μ1 := of_eq_true (eq_self _)
@[simp] theorem ap_expr (f : FE) (ρ : En) (μ : Mu) : gexpr f ρ μ = (f ρ μ).to ρ fun _ μ1 => .nx ρ μ1 := of_eq_true (eq_self _)
@[simp] theorem ap_set (i : Nat) (f : FE) (ρ : En) (μ : Mu) : gasg (.nm i) f ρ μ = (f ρ μ).to ρ fun d μ1 => .nx (ρ.set i (some d)) μ1 := by
  unfold gasg
  simp
theorem ap_asg (t : Tg) (f : FE) (ρ : En) (μ : Mu) : gasg t f ρ μ = (f ρ μ).to ρ fun d μ1 => match asg t d ρ with | some ρ' => .nx ρ' μ1 | none => .bad := rfl
@[simp] theorem ap_asgT (ts : List Tg) (f : FE) (ρ : En) (μ : Mu) : gasg (.tp ts) f ρ μ = (f ρ μ).to ρ fun d μ1 => match asg (.tp ts) d ρ with | some ρ' => .nx ρ' μ1 | none => .bad := of_eq_true (eq_self _)
@[simp] theorem ap_gif (c : FT) (g h : FS) (ρ : En) (μ : Mu) : gif c g h ρ μ = (c ρ μ).to ρ fun b μ1 => if b = true then g ρ μ1 else h ρ μ1 := of_eq_true (eq_self _)
@[simp] theorem ap_for (fi : FA) (t : Tg) (b : FS) (ρ : En) (μ : Mu) : gfor fi t b ρ μ = (fi ρ μ).to ρ fun xs μ1 => forD t b xs ρ μ1 := of_eq_true (eq_self _)
@[simp] theorem ap_var (i : Nat) (ρ : En) (μ : Mu) : dvar i ρ μ = match ρ[i]? with | some (some d) => .ok d μ | _ => .bad := of_eq_true (eq_self _)
@[simp] theorem ap_dc (d : D) (ρ : En) (μ : Mu) : dc d ρ μ = .ok d μ := of_eq_true (eq_self _)
@[simp] theorem ap_bin (g : D → D → Mu → R D) (fa fb : FE) (ρ : En) (μ : Mu) : dbin g fa fb ρ μ = (fa ρ μ).bind fun x μ1 => (fb ρ μ1).bind fun y μ2 => g x y μ2 := of_eq_true (eq_self _)
@[simp] theorem ap_test (f : FE) (ρ : En) (μ : Mu) : dtest f ρ μ = (f ρ μ).bind fun d μ1 => match d with | .bl b => .ok b μ1 | _ => .bad := of_eq_true (eq_self _)
@[simp] theorem ap_tand (f g : FT) (ρ : En) (μ : Mu) : tand f g ρ μ = (f ρ μ).bind fun b μ1 => if b = true then g ρ μ1 else .ok false μ1 := of_eq_true (eq_self _)
@[simp] theorem ap_tor (f g : FT) (ρ : En) (μ : Mu) : tor f g ρ μ = (f ρ μ).bind fun b μ1 => if b = true then .ok true μ1 else g ρ μ1 := of_eq_true (eq_self _)
@[simp] theorem ap_tnot (f : FT) (ρ : En) (μ : Mu) : tnot f ρ μ = (f ρ μ).bind fun b μ1 => .ok (!b) μ1 := of_eq_true (eq_self _)
@[simp] theorem ap_tyes (ρ : En) (μ : Mu) : tyes ρ μ = .ok true μ := of_eq_true (eq_self _)
@[simp] theorem ap_aNil (ρ : En) (μ : Mu) : aNil ρ μ = .ok [] μ := of_eq_true (eq_self _)
@[simp] theorem ap_aCons (f : FE) (g : FA) (ρ : En) (μ : Mu) : aCons f g ρ μ = (f ρ μ).bind fun d μ1 => (g ρ μ1).bind fun ds μ2 => .ok (d :: ds) μ2 := of_eq_true (eq_self _)
@[simp] theorem ap_tup (f : FA) (ρ : En) (μ : Mu) : dtup f ρ μ = (f ρ μ).bind fun ds μ1 => if ds.length ≤ 1000000 then .ok (.tup ds) μ1 else .bad := of_eq_true (eq_self _)
@[simp] theorem ap_lst (f : FA) (ρ : En) (μ : Mu) : dlst f ρ μ = (f ρ μ).bind fun ds μ1 => if ds.length ≤ 1000000 then .ok (.lst ds) μ1 else .bad := of_eq_true (eq_self _)
@[simp] theorem ap_cel (f : FA) (ρ : En) (μ : Mu) : dcel f ρ μ = (f ρ μ).bind fun ds μ1 => if ds.length ≤ 1000000 then .ok (.hdl μ1.length) (μ1 ++ [.lst ds]) else .bad := of_eq_true (eq_self _)
@[simp] theorem ap_frz (f : FE) (ρ : En) (μ : Mu) : dfrz f ρ μ = (f ρ μ).bind fun d μ1 => match d with
  | .hdl l => match μ1[l]? with
    | some (.lst xs) => if xs.length ≤ 1000000 then .ok (.lst xs) (μ1.set l .gone) else .bad
    | _ => .bad
  | _ => .bad := of_eq_true (eq_self _)
@[simp] theorem ap_callB (g : List D → Mu → R D) (fa : FA) (ρ : En) (μ : Mu) : dcallB g fa ρ μ = (fa ρ μ).bind fun ds μ1 => g ds μ1 := of_eq_true (eq_self _)
@[simp] theorem ap_call (F : List D → Mu → R D) (dd : List D) (fa : FA) (ρ : En) (μ : Mu) : dcall F dd fa ρ μ = (fa ρ μ).bind fun ds μ1 => F (ds ++ dd) μ1 := of_eq_true (eq_self _)
@[simp] theorem ap_callK (F : List D → Mu → R D) (gD : List D → List D → List D) (fa fk : FA) (ρ : En) (μ : Mu) : dcallK F gD fa fk ρ μ = (fa ρ μ).bind fun ds μ1 => (fk ρ μ1).bind fun es μ2 => F (gD ds es) μ2 := of_eq_true (eq_self _)
@[simp] theorem ap_bm (T : String) (g : D → List D → Mu → R D) (fo : FE) (fa : FA) (ρ : En) (μ : Mu) : dbm T g fo fa ρ μ = (fo ρ μ).bind fun x μ1 => if tyD T x μ1 = true then (fa ρ μ1).bind fun ds μ2 => g x ds μ2 else .bad := of_eq_true (eq_self _)
@[simp] theorem ap_sl (fe : FE) (fl fh : FO) (ρ : En) (μ : Mu) : dsl fe fl fh ρ μ = (fe ρ μ).bind fun x μ1 => (fl ρ μ1).bind fun lo μ2 => (fh ρ μ2).bind fun hi μ3 => R.of (slD x lo hi) μ3 := of_eq_true (eq_self _)
@[simp] theorem ap_onone (ρ : En) (μ : Mu) : onone ρ μ = .ok none μ := of_eq_true (eq_self _)
@[simp] theorem ap_itA (f : FE) (ρ : En) (μ : Mu) : itA f ρ μ = (f ρ μ).bind fun d μ1 => R.of (itemsD d) μ1 := of_eq_true (eq_self _)
@[simp] theorem ap_ite (c : FT) (f g : FE) (ρ : En) (μ : Mu) : dite c f g ρ μ = (c ρ μ).bind fun b μ1 => if b = true then f ρ μ1 else g ρ μ1 := of_eq_true (eq_self _)
@[simp] theorem ap_lc (fi : FA) (vs : List Nat) (t : Tg) (ft : FT) (fe : FE) (ρ : En) (μ : Mu) : dlc fi vs t ft fe ρ μ = (fi ρ μ).bind fun xs μ1 => (lcD t ft fe (wipeD ρ vs) xs μ1).bind fun ys μ2 => .ok (.lst ys) μ2 := of_eq_true (eq_self _)
@[simp] theorem ap_osome (f : FE) (ρ : En) (μ : Mu) : osome f ρ μ = (f ρ μ).bind fun d μ1 => match d with | .int i => .ok (some i) μ1 | _ => .bad := of_eq_true (eq_self _)
@[simp] theorem ap_itR1 (f : FA) (ρ : En) (μ : Mu) : itR1 f ρ μ = (f ρ μ).bind fun ds μ1 => match ds with
  | [.int n] => if n ≤ 1000000 ∧ -1000000 ≤ n then .ok (upto 0 n.toNat) μ1 else .bad
  | _ => .bad := of_eq_true (eq_self _)
@[simp] theorem ap_itR2 (f : FA) (ρ : En) (μ : Mu) : itR2 f ρ μ = (f ρ μ).bind fun ds μ1 => match ds with
  | [.int m, .int n] => if n ≤ 1000000 ∧ -1000000 ≤ m ∧ m ≤ 1000000 ∧ -1000000 ≤ n then .ok (upto m (n - m).toNat) μ1 else .bad
  | _ => .bad := of_eq_true (eq_self _)
@[simp] theorem ap_itE (f : FA) (ρ : En) (μ : Mu) : itE f ρ μ = (f ρ μ).bind fun ds μ1 => match ds with
  | [.lst xs] => .ok (enumD 0 xs) μ1
  | _ => .bad := of_eq_true (eq_self _)
@[simp] theorem ap_lenset (f : FE) (ρ : En) (μ : Mu) : dlenset f ρ μ = (f ρ μ).bind fun d μ1 => match d with
  | .lst ds => match intsD ds with
    | some ns => if ns.length ≤ 1000 then .ok (.int (kinds ns)) μ1 else .bad
    | none => .bad
  | _ => .bad := of_eq_true (eq_self _)
@[simp] theorem items_lst (xs : List D) : itemsD (.lst xs) = some xs := of_eq_true (eq_self _)
@[simp] theorem items_tup (xs : List D) : itemsD (.tup xs) = some xs := of_eq_true (eq_self _)
@[simp] theorem items_str (x : Str) : itemsD (.str x) = some (signs x) := of_eq_true (eq_self _)
@[simp] theorem add_int (i j : Int) (μ : Mu) : addD (.int i) (.int j) μ = .ok (.int (i + j)) μ := of_eq_true (eq_self _)
@[simp] theorem add_str (x y : Str) (μ : Mu) : addD (.str x) (.str y) μ = if x.length + y.length ≤ 1000000 then .ok (.str (x ++ y)) μ else .bad := of_eq_true (eq_self _)
@[simp] theorem add_lst (x y : List D) (μ : Mu) : addD (.lst x) (.lst y) μ = if x.length + y.length ≤ 1000000 then .ok (.lst (x ++ y)) μ else .bad := of_eq_true (eq_self _)
@[simp] theorem sub_int (i j : Int) (μ : Mu) : subD (.int i) (.int j) μ = .ok (.int (i - j)) μ := of_eq_true (eq_self _)
@[simp] theorem mul_int (i j : Int) (μ : Mu) : mulD (.int i) (.int j) μ = if (-(2 ^ 64) < i ∧ i < 2 ^ 64) ∨ (-(2 ^ 64) < j ∧ j < 2 ^ 64) then .ok (.int (i * j)) μ else .bad := of_eq_true (eq_self _)
@[simp] theorem mod_int (i j : Int) (μ : Mu) : modD (.int i) (.int j) μ = if 0 < j then .ok (.int (i % j)) μ else .bad := of_eq_true (eq_self _)
@[simp] theorem fdiv_int (i j : Int) (μ : Mu) : fdivD (.int i) (.int j) μ = if 0 < j ∧ j < 1073741824 then .ok (.int (i / j)) μ else .bad := of_eq_true (eq_self _)
@[simp] theorem pow_int (i j : Int) (μ : Mu) : powD (.int i) (.int j) μ = if 0 ≤ j ∧ j ≤ 1000000 ∧ i.natAbs < 2 ^ 64 then .ok (.int (i ^ j.toNat)) μ else .bad := of_eq_true (eq_self _)
@[simp] theorem lt_int (i j : Int) (μ : Mu) : ltD (.int i) (.int j) μ = .ok (.bl (decide (i < j))) μ := of_eq_true (eq_self _)
@[simp] theorem le_int (i j : Int) (μ : Mu) : leD (.int i) (.int j) μ = .ok (.bl (decide (i ≤ j))) μ := of_eq_true (eq_self _)
@[simp] theorem gt_int (i j : Int) (μ : Mu) : gtD (.int i) (.int j) μ = .ok (.bl (decide (j < i))) μ := of_eq_true (eq_self _)
@[simp] theorem ge_int (i j : Int) (μ : Mu) : geD (.int i) (.int j) μ = .ok (.bl (decide (j ≤ i))) μ := of_eq_true (eq_self _)
@[simp] theorem lt_str (x y : Str) (μ : Mu) : ltD (.str x) (.str y) μ = .ok (.bl (strLt x y)) μ := of_eq_true (eq_self _)
@[simp] theorem le_str (x y : Str) (μ : Mu) : leD (.str x) (.str y) μ = .ok (.bl (!strLt y x)) μ := of_eq_true (eq_self _)
@[simp] theorem is_non (x : D) (μ : Mu) : isD x .non μ = match isNoneD x with | some b => .ok (.bl b) μ | none => .bad := of_eq_true (eq_self _)
@[simp] theorem isnt_non (x : D) (μ : Mu) : isntD x .non μ = match isNoneD x with | some b => .ok (.bl (!b)) μ | none => .bad := of_eq_true (eq_self _)
@[simp] theorem isNone_non : isNoneD .non = some true := of_eq_true (eq_self _)
@[simp] theorem isNone_int (i : Int) : isNoneD (.int i) = some false := of_eq_true (eq_self _)
@[simp] theorem isNone_bl (i : Bool) : isNoneD (.bl i) = some false := of_eq_true (eq_self _)
@[simp] theorem isNone_str (i : Str) : isNoneD (.str i) = some false := of_eq_true (eq_self _)
@[simp] theorem isNone_tup (i : List D) : isNoneD (.tup i) = some false := of_eq_true (eq_self _)
@[simp] theorem isNone_lst (i : List D) : isNoneD (.lst i) = some false := of_eq_true (eq_self _)
@[simp] theorem abs_int (i : Int) (μ : Mu) : bAbs [.int i] μ = .ok (.int (if i < 0 then -i else i)) μ := of_eq_true (eq_self _)
@[simp] theorem append_hdl (l : Nat) (d : D) (μ : Mu) : mAppend (.hdl l) [d] μ = match μ[l]? with
    | some (.lst xs) => if xs.length < 1000000 then .ok .non (μ.set l (.lst (xs ++ [d]))) else .bad
    | _ => .bad := of_eq_true (eq_self _)
theorem for_nil (t : Tg) (b : FS) (ρ : En) (μ : Mu) : forD t b [] ρ μ = .nx ρ μ := by simp [forD]
def O.pass : O → (En → Mu → O) → O
  | .nx ρ μ, k => k ρ μ
  | .ct ρ μ, k => k ρ μ
  | .bk ρ μ, _ => .nx ρ μ
  | .rt d μ, _ => .rt d μ
  | .ex ρ c fs μ, _ => .ex ρ c fs μ
  | .bad, _ => .bad
@[simp] theorem O.pass_nx (ρ : En) (μ : Mu) (k : En → Mu → O) : (O.nx ρ μ).pass k = k ρ μ := of_eq_true (eq_self _)
@[simp] theorem O.pass_ct (ρ : En) (μ : Mu) (k : En → Mu → O) : (O.ct ρ μ).pass k = k ρ μ := of_eq_true (eq_self _)
@[simp] theorem O.pass_bk (ρ : En) (μ : Mu) (k : En → Mu → O) : (O.bk ρ μ).pass k = .nx ρ μ := of_eq_true (eq_self _)
@[simp] theorem O.pass_rt (d : D) (μ : Mu) (k : En → Mu → O) : (O.rt d μ).pass k = .rt d μ := of_eq_true (eq_self _)
@[simp] theorem O.pass_ex (ρ : En) (c : Nat) (fs : List (Str × D)) (μ : Mu) (k : En → Mu → O) : (O.ex ρ c fs μ).pass k = .ex ρ c fs μ := of_eq_true (eq_self _)
theorem pass_if {p : Prop} [Decidable p] (a b : O) (h : En → Mu → O) : (if p then a else b).pass h = if p then a.pass h else b.pass h := by split <;> rfl
theorem for_cons (t : Tg) (b : FS) (x : D) (xs : List D) (ρ : En) (μ : Mu) : forD t b (x :: xs) ρ μ = match asg t x ρ with | none => .bad | some ρ1 => (b ρ1 μ).pass fun ρ2 μ2 => forD t b xs ρ2 μ2 := by
  rw [forD]
  cases asg t x ρ with
  | none => rfl
  | some ρ1 =>
    dsimp only
    cases b ρ1 μ <;> rfl
/-- a loop that never leaves what I says -/
theorem for_inv {t : Tg} {b : FS} (I : En → Mu → Prop) : ∀ {xs : List D} {ρ : En} {μ : Mu}, (∀ x ∈ xs, ∀ ρ μ, I ρ μ → ∃ ρ1 ρ2 μ2, asg t x ρ = some ρ1 ∧ b ρ1 μ = .nx ρ2 μ2 ∧ I ρ2 μ2) → I ρ μ → ∃ ρ' μ', forD t b xs ρ μ = .nx ρ' μ' ∧ I ρ' μ'
  | [], ρ, μ, _, h => ⟨ρ, μ, for_nil _ _ _ _, h⟩
  | x :: xs, ρ, μ, hb, h => by
    obtain ⟨ρ1, ρ2, μ2, e1, e2, i2⟩ := hb x (by simp) ρ μ h
    obtain ⟨ρ', μ', e, i'⟩ := for_inv (xs := xs) I (fun y hy => hb y (List.mem_cons_of_mem _ hy)) i2
    exact ⟨ρ', μ', by rw [for_cons, e1]; dsimp only; rw [e2]; exact e, i'⟩
/-- .. by enumerate -/
theorem for_enum {t : Tg} {b : FS} (I : Nat → En → Mu → Prop) : ∀ {xs : List D} {k : Nat} {ρ : En} {μ : Mu}, (∀ (i : Nat) (x : D), xs[i]? = some x → ∀ ρ μ, I (k + i) ρ μ → ∃ ρ1 ρ2 μ2, asg t (.tup [.int (k + i : Nat), x]) ρ = some ρ1 ∧ b ρ1 μ = .nx ρ2 μ2 ∧ I (k + i + 1) ρ2 μ2) → I k ρ μ →
    ∃ ρ' μ', forD t b (enumD k xs) ρ μ = .nx ρ' μ' ∧ I (k + xs.length) ρ' μ'
  | [], k, ρ, μ, _, h => ⟨ρ, μ, by simp [enumD, for_nil], h⟩
  | x :: xs, k, ρ, μ, hb, h => by
    obtain ⟨ρ1, ρ2, μ2, e1, e2, i2⟩ := hb 0 x rfl ρ μ h
    obtain ⟨ρ', μ', e, i'⟩ := for_enum (xs := xs) (k := k + 1) I (fun i y hy ρ μ hi => by
      have := hb (i + 1) y (by simpa using hy) ρ μ (by rw [show k + (i + 1) = k + 1 + i by omega]; exact hi)
      rw [show k + (i + 1) = k + 1 + i by omega] at this
      exact this) i2
    refine ⟨ρ', μ', ?_, by rw [List.length_cons, show k + (xs.length + 1) = k + 1 + xs.length by omega]; exact i'⟩
    have e1' : asg t (.tup [.int k, x]) ρ = some ρ1 := e1
    rw [enumD, for_cons, e1']
    dsimp only
    rw [e2]
    exact e
theorem take_app {α : Type} (xs ys : List α) : (xs ++ ys).take xs.length = xs := by simp
theorem trunc_app {μ ex : Mu} {d : D} (hd : d.closed μ.length = true) (h : closedMu μ.length μ = true) : trunc μ.length d (μ ++ ex) = .ok d μ := by
  unfold trunc closedMu
  rw [take_app, hd]
  unfold closedMu at h
  rw [List.take_length] at h
  rw [h]
  rfl
theorem trunc_self {μ : Mu} {d : D} (hd : d.closed μ.length = true) (h : closedMu μ.length μ = true) : trunc μ.length d μ = .ok d μ := by
  have := trunc_app (ex := []) hd h
  rwa [List.append_nil] at this
@[simp] theorem callF_eq (n : Nat) (g : FS) (ds : List D) (μ : Mu) (d : D) (μ1 : Mu) (h : g (startD n ds) μ = .rt d μ1) : callF n g ds μ = trunc μ.length d μ1 := by
  unfold callF
  rw [h]
end DL
/-! DL13: the laws' own digits. -/
namespace DL
open PySem L2
def bDig : FS := gif (tand (dtest (dvar 4)) (dtest (dbin gtD (dvar 3) (dc (.int 0))))) (gseq (gexpr (dbm "list" mAppend (dvar 6) (aCons (dbin modD (dvar 3) (dvar 8)) aNil)))
    (gasg (.nm 3) (dbin fdivD (dvar 3) (dvar 8)))) (gseq (gasg (.nm 5) (dbin modD (dbin powD (dbin addD (dvar 5) (dbin mulD (dc (.int 104729)) (dbin addD (dvar 7) (dc (.int 1))))) (dc (.int 2))) (dc (.int 2147483587))))
    (gexpr (dbm "list" mAppend (dvar 6) (aCons (dbin modD (dbin fdivD (dvar 5) (dc (.int 16))) (dvar 8)) aNil))))
def gDig : FS := (gseq (gasg (.nm 3) (dcallB bAbs (aCons (dvar 0) aNil)))
    (gseq (gasg (.nm 4) (dbin geD (dvar 3) (dbin powD (dc (.int 10)) (dc (.int 18)))))
    (gseq (gasg (.nm 5) (dbin addD (dbin modD (dvar 3) (dc (.int 2147483647))) (dbin mulD (dc (.int 7919)) (dvar 1))))
    (gseq (gasg (.nm 6) (dcel aNil))
    (gseq (gfor (itE (aCons (dvar 2) aNil)) (.tp [(.nm 7), (.nm 8)]) bDig)
    (gret (dfrz (dvar 6))))))))
theorem closed_ints (n : Nat) : ∀ ns : List Int, D.closedL n (ns.map .int) = true
  | [] => by simp [D.closedL]
  | a :: ns => by simp [D.closedL, D.closed, closed_ints n ns]
structure DigI (c t : Int) (ss : List Int) (μ : Mu) (k : Nat) (ρ : En) (μ' : Mu) : Prop where
  ex : ∃ (num seed : Int) (w : Bool) (a7 a8 : Option D) (ns : List Int), ρ = [some (.int c), some (.int t), some (.lst (ss.map .int)), some (.int num), some (.bl w), some (.int seed), some (.hdl μ.length), a7, a8] ∧ μ' = μ ++ [.lst (ns.map .int)] ∧ ns.length = k ∧
    (∀ (i : Nat) n s, ns[i]? = some n → ss[i]? = some s → 0 ≤ n ∧ n < s) ∧ 0 ≤ seed ∧ seed ≤ 2 ^ 40
theorem app_at {α : Type} {xs : List α} {y n : α} {i : Nat} (h : (xs ++ [y])[i]? = some n) : xs[i]? = some n ∨ (i = xs.length ∧ n = y) := by
  rcases Nat.lt_or_ge i xs.length with l | l
  · rw [List.getElem?_append_left l] at h
    exact .inl h
  · rw [List.getElem?_append_right l] at h
    rcases Nat.eq_zero_or_pos (i - xs.length) with z | z
    · rw [z] at h
      simp at h
      exact .inr ⟨by omega, h.symm⟩
    · rw [List.getElem?_eq_none (by show [y].length ≤ _; simp; omega)] at h
      cases h
theorem app_set {α : Type} (xs : List α) (x y : α) : (xs ++ [x]).set xs.length y = xs ++ [y] := by simp
theorem dig_step {c t : Int} {ss : List Int} {μ : Mu} (hs : ∀ s ∈ ss, 0 < s ∧ s < 1073741824) (hl : ss.length ≤ 1000) (i : Nat) (s : Int) (hi : ss[i]? = some s) (ρ : En) (μ' : Mu) (h : DigI c t ss μ i ρ μ') :
    ∃ ρ1 ρ2 μ2, asg (.tp [(.nm 7), (.nm 8)]) (.tup [.int i, .int s]) ρ = some ρ1 ∧ bDig ρ1 μ' = .nx ρ2 μ2 ∧ DigI c t ss μ (i + 1) ρ2 μ2 := by
  obtain ⟨num, seed, w, a7, a8, ns, rfl, rfl, hn, hb, h0, h1⟩ := h.ex
  obtain ⟨s0, s1⟩ := hs s (List.mem_of_getElem? hi)
  have hil : i < 1000 := Nat.lt_of_lt_of_le (List.getElem?_eq_some_iff.mp hi).1 hl
  have nl : (ns.map D.int).length < 1000000 := by rw [List.length_map]; omega
  by_cases hw : w = true ∧ 0 < num
  · obtain ⟨rfl, hw⟩ := hw
    refine ⟨[some (.int c), some (.int t), some (.lst (ss.map .int)), some (.int num), some (.bl true), some (.int seed), some (.hdl μ.length), some (.int i), some (.int s)], [some (.int c), some (.int t), some (.lst (ss.map .int)), some (.int (num / s)), some (.bl true), some (.int seed), some (.hdl μ.length), some (.int i), some (.int s)], μ ++ [.lst ((ns ++ [num % s]).map .int)], by simp, by simp [bDig, hw, tyD, s0, s1, hn, show i < 1000000 by omega], ⟨num / s, seed, true, _, _, ns ++ [num % s], rfl, by simp, by simp [hn], fun j n s' e1 e2 => ?_, h0, h1⟩⟩
    rcases app_at e1 with e | ⟨rfl, rfl⟩
    · exact hb j n s' e e2
    · rw [hn] at e2
      rw [hi] at e2
      cases e2
      exact ⟨Int.emod_nonneg _ (by omega), Int.emod_lt_of_pos _ s0⟩
  · have hw' : w = false ∨ ¬ 0 < num := by
      cases w
      · exact .inl rfl
      · exact .inr fun z => hw ⟨rfl, z⟩
    have m0 := Int.emod_nonneg ((seed + 104729 * (((i : Nat) : Int) + 1)) ^ 2) (b := 2147483587) (by omega)
    have m1 := Int.emod_lt_of_pos ((seed + 104729 * (((i : Nat) : Int) + 1)) ^ 2) (b := 2147483587) (by omega)
    have hp : (seed + 104729 * (((i : Nat) : Int) + 1)).natAbs < 18446744073709551616 := by omega
    refine ⟨[some (.int c), some (.int t), some (.lst (ss.map .int)), some (.int num), some (.bl w), some (.int seed), some (.hdl μ.length), some (.int i), some (.int s)], _, _, by simp, ?_, ⟨num, (seed + 104729 * (((i : Nat) : Int) + 1)) ^ 2 % 2147483587, w, some (.int i), some (.int s), ns ++ [(seed + 104729 * (((i : Nat) : Int) + 1)) ^ 2 % 2147483587 / 16 % s], rfl, rfl, by simp [hn], fun j n s' e1 e2 => ?_, m0, by omega⟩⟩
    · rcases hw' with rfl | hw'
      · simp [bDig, tyD, s0, s1, hn, show i < 1000000 by omega, hp]
      · cases w <;> simp [bDig, hw', tyD, s0, s1, hn, show i < 1000000 by omega, hp]
    · rcases app_at e1 with e | ⟨rfl, rfl⟩
      · exact hb j n s' e e2
      · rw [hn] at e2
        rw [hi] at e2
        cases e2
        exact ⟨Int.emod_nonneg _ (by omega), Int.emod_lt_of_pos _ s0⟩
theorem dig_ok (c t : Int) (ht : 0 ≤ t ∧ t ≤ 1000000) (ss : List Int) (hs : ∀ s ∈ ss, 0 < s ∧ s < 1073741824) (hl : ss.length ≤ 1000) (μ : Mu) (hμ : closedMu μ.length μ = true) :
    ∃ ns : List Int, ns.length = ss.length ∧ (∀ (i : Nat) n s, ns[i]? = some n → ss[i]? = some s → 0 ≤ n ∧ n < s) ∧ callF 9 gDig [.int c, .int t, .lst (ss.map .int)] μ = .ok (.lst (ns.map .int)) μ := by
  have m0 := Int.emod_nonneg (if c < 0 then -c else c) (b := 2147483647) (by omega)
  have m1 := Int.emod_lt_of_pos (if c < 0 then -c else c) (b := 2147483647) (by omega)
  have run := for_enum (t := .tp [(.nm 7), (.nm 8)]) (b := bDig) (xs := ss.map D.int) (k := 0) (DigI c t ss μ) (ρ := [some (.int c), some (.int t), some (.lst (ss.map .int)), some (.int (if c < 0 then -c else c)), some (.bl (decide (10 ^ 18 ≤ (if c < 0 then -c else c)))), some (.int ((if c < 0 then -c else c) % 2147483647 + 7919 * t)), some (.hdl μ.length), none, none]) (μ := μ ++ [.lst []])
    (fun i x hx ρ μ' h => by
      rw [List.getElem?_map] at hx
      cases hq : ss[i]? with
      | none => rw [hq] at hx; cases hx
      | some s =>
        rw [hq] at hx
        cases hx
        rw [Nat.zero_add] at h ⊢
        exact dig_step hs hl i s hq ρ μ' h)
    ⟨_, _, _, _, _, [], rfl, rfl, rfl, fun i n s e _ => (by simp at e), by omega, by omega⟩
  obtain ⟨ρ', μ', e, h⟩ := run
  obtain ⟨num, seed, w, a7, a8, ns, rfl, rfl, hn, hb, _, _⟩ := h.ex
  rw [List.length_map, Nat.zero_add] at hn
  refine ⟨ns, hn, hb, ?_⟩
  have body : gDig (startD 9 [.int c, .int t, .lst (ss.map .int)]) μ = .rt (.lst (ns.map .int)) (μ ++ [.gone]) := by
    simp [gDig, startD]
    simp at e
    rw [e]
    simp [show ns.length ≤ 1000000 by omega]
  rw [callF_eq _ _ _ _ _ _ body]
  exact trunc_app (by simp [D.closed, closed_ints]) hμ
end DL
/-! DL14: == and repr of flat things. -/
namespace DL
open PySem L2
@[simp] theorem eq_ints (a b : Int) (μ : Mu) : dEq (.int a) (.int b) μ = .ok (.bl (decide (a = b))) μ := by
  simp [dEq, eqD, D.kd, eqV]
  by_cases h : a = b <;> simp [h]
@[simp] theorem eq_strs (a b : Str) (μ : Mu) : dEq (.str a) (.str b) μ = .ok (.bl (decide (a = b))) μ := by
  simp [dEq, eqD, D.kd, eqV]
  by_cases h : a = b <;> simp [h]
@[simp] theorem eq_non (μ : Mu) : dEq .non .non μ = .ok (.bl true) μ := by simp [dEq, eqD, D.kd, eqV]
@[simp] theorem eq_non_int (a : Int) (μ : Mu) : dEq .non (.int a) μ = .ok (.bl false) μ := by simp [dEq, eqD, D.kd, eqV]
@[simp] theorem eq_int_non (a : Int) (μ : Mu) : dEq (.int a) .non μ = .ok (.bl false) μ := by simp [dEq, eqD, D.kd, eqV]
@[simp] theorem eq_non_str (a : Str) (μ : Mu) : dEq .non (.str a) μ = .ok (.bl false) μ := by simp [dEq, eqD, D.kd, eqV]
@[simp] theorem eq_str_non (a : Str) (μ : Mu) : dEq (.str a) .non μ = .ok (.bl false) μ := by simp [dEq, eqD, D.kd, eqV]
@[simp] theorem ne_strs (a b : Str) (μ : Mu) : dNe (.str a) (.str b) μ = .ok (.bl (!decide (a = b))) μ := by
  simp [dNe, D.kd, scal]
theorem lt_log {i : Int} (h : i.natAbs < 10 ^ 12) : i.natAbs.log2 < 1920 := by
  rcases Nat.eq_zero_or_pos i.natAbs with z | z
  · rw [z]; decide
  · exact (Nat.log2_lt (by omega)).mpr (Nat.lt_trans h (by decide))
/-- a short thing's text -/
theorem repr_short {d : D} {p : PyData} (h : d.py = some p) (h1 : p.leavesShort 13 = true) (h2 : p.showable = true) (h3 : p.hasDict = false) (h4 : p.depth ≤ 40) (h5 : p.bulk ≤ 60000) : reprD d = some p.shown := by
  have := PyData.shown_le_bulk 13 (by decide) p h1
  unfold reprD
  rw [h]
  dsimp only
  rw [if_pos ⟨h2, h3, h4, by omega⟩]
end DL
/-! DL15: an empty dict. -/
namespace DL
open PySem L2
def dnew : FE := fun _ μ => .ok (.hdl μ.length) (μ ++ [.dct [] []])
@[simp] theorem ap_new (ρ : En) (μ : Mu) : dnew ρ μ = .ok (.hdl μ.length) (μ ++ [.dct [] []]) := of_eq_true (eq_self _)
theorem de_dnew {X : Cx} {E : WX} {pos : Pos} : DE X E (.Dict [] [] pos) dnew := pe_imp pe_dnewK fun σ H Q ⟨W, ρ, μ, ok, en, p⟩ => fun q hq =>
  p (W.cell q) _ _ (Go.cell ok hq) (ok.newcell hq (m := .dct [] []) ⟨[], rfl, rfl, .nil⟩) (.hdl (by
    show (W.io ++ [q])[μ.length]? = some q
    rw [← ok.len]
    simp))
end DL
/-! DL16: comprehensions reckoned, closed cells, the laws' own draws. -/
namespace DL
open PySem L2
/-- cells without handles -/
def AllC (μ : Mu) : Prop := ∀ m ∈ μ, ∀ n, m.closed n = true
theorem AllC.mu {μ : Mu} (h : AllC μ) (n : Nat) : closedMu n μ = true := by
  unfold closedMu
  rw [List.all_eq_true]
  exact fun m hm => h m (List.mem_of_mem_take hm) n
theorem AllC.app {μ ex : Mu} (h : AllC μ) (h2 : AllC ex) : AllC (μ ++ ex) := fun m hm n => by
  rcases List.mem_append.mp hm with z | z
  · exact h m z n
  · exact h2 m z n
theorem AllC.set {μ : Mu} (h : AllC μ) (l : Nat) {m : MO} (hm : ∀ n, m.closed n = true) : AllC (μ.set l m) := fun k hk n => by
  rcases List.mem_or_eq_of_mem_set hk with z | z
  · exact h k z n
  · rw [z]; exact hm n
theorem trunc_len {μ μ1 : Mu} {d : D} (hl : μ1.length = μ.length) (hd : d.closed μ.length = true) (h : AllC μ1) : trunc μ.length d μ1 = .ok d μ1 := by
  unfold trunc
  rw [h.mu, hd, ← hl, List.take_length]
  rfl
theorem trunc_more {μ ex : Mu} {d : D} (hd : d.closed μ.length = true) (h : AllC μ) : trunc μ.length d (μ ++ ex) = .ok d μ := trunc_app hd (h.mu _)
@[simp] theorem lc_nil (t : Tg) (ft : FT) (fe : FE) (ρ : En) (μ : Mu) : lcD t ft fe ρ [] μ = .ok [] μ := by simp [lcD]
/-- a comprehension without effects -/
theorem lc_pure {t : Tg} {ft : FT} {fe : FE} {ρ : En} {μ : Mu} (g : D → En) (p : D → Bool) (f : D → D) : ∀ {xs : List D}, (∀ x ∈ xs, asg t x ρ = some (g x) ∧ ft (g x) μ = .ok (p x) μ ∧ (p x = true → fe (g x) μ = .ok (f x) μ)) → lcD t ft fe ρ xs μ = .ok ((xs.filter p).map f) μ
  | [], _ => by simp
  | x :: xs, h => by
    obtain ⟨h1, h2, h3⟩ := h x (by simp)
    have ih := lc_pure g p f (xs := xs) fun y hy => h y (List.mem_cons_of_mem _ hy)
    rw [lcD, h1]
    dsimp only
    rw [h2]
    cases hp : p x with
    | true => simp [hp, h3 hp, ih]
    | false => simp [hp, ih]
/-- .. with effects on the cells, all taken -/
theorem lc_inv {t : Tg} {fe : FE} {ρ : En} (I : Mu → Prop) (P : D → Prop) : ∀ {xs : List D} {μ : Mu}, (∀ x ∈ xs, ∀ μ, I μ → ∃ ρ1 y μ2, asg t x ρ = some ρ1 ∧ fe ρ1 μ = .ok y μ2 ∧ I μ2 ∧ P y) → I μ → ∃ ys μ', lcD t tyes fe ρ xs μ = .ok ys μ' ∧ I μ' ∧ ys.length = xs.length ∧ ∀ y ∈ ys, P y
  | [], μ, _, i => ⟨[], μ, by simp, i, rfl, fun _ z => nomatch z⟩
  | x :: xs, μ, h, i => by
    obtain ⟨ρ1, y, μ2, e1, e2, i2, py⟩ := h x (by simp) μ i
    obtain ⟨ys, μ', e, i', hl, hp⟩ := lc_inv (xs := xs) I P (fun z hz => h z (List.mem_cons_of_mem _ hz)) i2
    refine ⟨y :: ys, μ', ?_, i', by simp [hl], fun z hz => ?_⟩
    · rw [lcD, e1]
      simp [e2, e]
    · rcases List.mem_cons.mp hz with rfl | hz'
      · exact py
      · exact hp z hz'
@[simp] theorem ap_dand (f g : FE) (ρ : En) (μ : Mu) : dand f g ρ μ = (f ρ μ).bind fun d μ1 => match d with | .bl true => g ρ μ1 | .bl false => .ok (.bl false) μ1 | _ => .bad := of_eq_true (eq_self _)
@[simp] theorem ap_dor (f g : FE) (ρ : En) (μ : Mu) : dor f g ρ μ = (f ρ μ).bind fun d μ1 => match d with | .bl true => .ok (.bl true) μ1 | .bl false => g ρ μ1 | _ => .bad := of_eq_true (eq_self _)
@[simp] theorem ap_dnot (f : FE) (ρ : En) (μ : Mu) : dnot f ρ μ = (f ρ μ).bind fun d μ1 => match d with | .bl b => .ok (.bl (!b)) μ1 | _ => .bad := of_eq_true (eq_self _)
@[simp] theorem ap_dneg (f : FE) (ρ : En) (μ : Mu) : dneg f ρ μ = (f ρ μ).bind fun d μ1 => match d with | .int i => .ok (.int (-i)) μ1 | _ => .bad := of_eq_true (eq_self _)
@[simp] theorem ap_chain (g1 g2 : D → D → Mu → R D) (fa fb fc : FE) (ρ : En) (μ : Mu) : dchain g1 g2 fa fb fc ρ μ = (fa ρ μ).bind fun x μ1 => (fb ρ μ1).bind fun y μ2 => (g1 x y μ2).bind fun z μ3 => match z with
  | .bl true => (fc ρ μ3).bind fun w μ4 => g2 y w μ4
  | .bl false => .ok (.bl false) μ3
  | _ => .bad := of_eq_true (eq_self _)
@[simp] theorem isi_ap (d : D) (T : String) (μ : Mu) : bIsi [d, .cst (.ty T)] μ = match tyName μ d with
    | some t => match kitB t T with
      | some b => .ok (.bl b) μ
      | none => .bad
    | none => .bad := of_eq_true (eq_self _)
@[simp] theorem tn_non (μ : Mu) : tyName μ .non = some "NoneType" := of_eq_true (eq_self _)
@[simp] theorem tn_bl (μ : Mu) (b : Bool) : tyName μ (.bl b) = some "bool" := of_eq_true (eq_self _)
@[simp] theorem tn_int (μ : Mu) (b : Int) : tyName μ (.int b) = some "int" := of_eq_true (eq_self _)
@[simp] theorem tn_str (μ : Mu) (b : Str) : tyName μ (.str b) = some "str" := of_eq_true (eq_self _)
@[simp] theorem tn_tup (μ : Mu) (b : List D) : tyName μ (.tup b) = some "tuple" := of_eq_true (eq_self _)
@[simp] theorem tn_lst (μ : Mu) (b : List D) : tyName μ (.lst b) = some "list" := of_eq_true (eq_self _)
@[simp] theorem k_non_str : kitB "NoneType" "str" = some false := by decide +kernel
@[simp] theorem k_bool_str : kitB "bool" "str" = some false := by decide +kernel
@[simp] theorem k_int_str : kitB "int" "str" = some false := by decide +kernel
@[simp] theorem k_str_str : kitB "str" "str" = some true := by decide +kernel
@[simp] theorem k_tup_str : kitB "tuple" "str" = some false := by decide +kernel
@[simp] theorem k_lst_str : kitB "list" "str" = some false := by decide +kernel
@[simp] theorem k_dict_str : kitB "dict" "str" = some false := by decide +kernel
@[simp] theorem ix_lst (xs : List D) (k : Int) (μ : Mu) : dIx (.lst xs) (.int k) μ = R.of (atI xs k) μ := of_eq_true (eq_self _)
@[simp] theorem ix_tup (xs : List D) (k : Int) (μ : Mu) : dIx (.tup xs) (.int k) μ = R.of (atI xs k) μ := of_eq_true (eq_self _)
theorem ix_hdl {l : Nat} {μ : Mu} {xs : List D} (h : μ[l]? = some (.lst xs)) (k : Int) : dIx (.hdl l) (.int k) μ = R.of (atI xs k) μ := by
  simp [dIx, ixD, seqD, h]
@[simp] theorem at0 (x : D) (xs : List D) : atI (x :: xs) 0 = some x := by
  simp [atI, ixN]
@[simp] theorem at1 (x y : D) (xs : List D) : atI (x :: y :: xs) 1 = some y := by
  unfold atI ixN
  rw [if_pos (by decide), if_pos (by simp; omega)]
  rfl
theorem at_lt {xs : List D} {k : Int} (h0 : 0 ≤ k) (h : k < xs.length) : ∃ x, atI xs k = some x ∧ x ∈ xs := by
  have hk : k.toNat < xs.length := by omega
  refine ⟨xs[k.toNat], ?_, List.getElem_mem _⟩
  simp [atI, ixN, h0, h, hk]
theorem seq_assoc (a b c : FS) (ρ : En) (μ : Mu) : gseq a (gseq b c) ρ μ = (gseq a b ρ μ).thn c := by
  rw [ap_seq, ap_seq]
  cases a ρ μ with
  | nx ρ1 μ1 => rw [O.thn_nx, O.thn_nx, ap_seq]
  | _ => rfl
/-! ### the laws' draws -/
def gPool1 : FS := gif (dtest (dbin ltD (dvar 1) (dcallB bLen (aCons (dvar 0) aNil)))) (gasg (.nm 2) (dcallB bAbs (aCons (dbin dIx (dvar 0) (dvar 1)) aNil))) gnil
def gPool2 : FS := (gseq (gasg (.nm 3) (dbin modD (dbin mulD (dbin addD (dbin addD (dbin addD (dbin modD (dvar 2) (dc (.int 2147483629))) (dbin mulD (dbin mulD (dc (.int 7919)) (dvar 1)) (dvar 1))) (dbin mulD (dc (.int 31)) (dvar 1))) (dc (.int 17))) (dc (.int 48271))) (dc (.int 2147483647))))
    (gret (dcel (aCons (dbin mulD (dvar 2) (dcallB bInt (aCons (dbin geD (dvar 2) (dbin powD (dc (.int 10)) (dc (.int 18)))) aNil))) (aCons (dbin modD (dbin mulD (dvar 3) (dvar 3)) (dc (.int 2147483629))) aNil)))))
def gPool : FS := gseq (gasg (.nm 2) (dc (.int 0))) (gseq gPool1 gPool2)
def gTake : FS := (gseq (gif (dtest (dbin gtD (dbin dIx (dvar 0) (dc (.int 0))) (dc (.int 0)))) (gseq (gasg (.nm 2) (dbin modD (dbin dIx (dvar 0) (dc (.int 0))) (dvar 1)))
    (gseq (gsetix (dvar 0) (dc (.int 0)) (dbin fdivD (dbin dIx (dvar 0) (dc (.int 0))) (dvar 1)))
    (gret (dvar 2)))) gnil)
    (gseq (gsetix (dvar 0) (dc (.int 1)) (dbin modD (dbin addD (dbin mulD (dbin dIx (dvar 0) (dc (.int 1))) (dc (.int 48271))) (dc (.int 12345))) (dc (.int 2147483647))))
    (gret (dbin modD (dbin fdivD (dbin modD (dbin mulD (dbin dIx (dvar 0) (dc (.int 1))) (dbin dIx (dvar 0) (dc (.int 1)))) (dc (.int 2147483629))) (dc (.int 64))) (dvar 1)))))
/-- a pool lies at l -/
structure Pool (μ : Mu) (l : Nat) : Prop where
  ex : ∃ a b : Int, μ[l]? = some (.lst [.int a, .int b]) ∧ 0 ≤ b ∧ b < 2147483648
  cl : AllC μ
theorem pool_cl (a b : Int) (n : Nat) : MO.closed n (.lst [.int a, .int b]) = true := by simp [MO.closed, D.closedL, D.closed]
theorem pool2 (s : D) (k : Nat) (hk : k ≤ 1000) (c : Int) (μ : Mu) : ∃ a b : Int, gPool2 [some s, some (.int k), some (.int c), none] μ = .rt (.hdl μ.length) (μ ++ [.lst [.int a, .int b]]) ∧ 0 ≤ b ∧ b < 2147483648 := by
  have m0 := Int.emod_nonneg ((c % 2147483629 + 7919 * (k : Int) * k + 31 * k + 17) * 48271) (b := 2147483647) (by omega)
  have m1 := Int.emod_lt_of_pos ((c % 2147483629 + 7919 * (k : Int) * k + 31 * k + 17) * 48271) (b := 2147483647) (by omega)
  generalize hx : (c % 2147483629 + 7919 * (k : Int) * k + 31 * k + 17) * 48271 % 2147483647 = x at m0 m1
  have n0 := Int.emod_nonneg (x * x) (b := 2147483629) (by omega)
  have n1 := Int.emod_lt_of_pos (x * x) (b := 2147483629) (by omega)
  generalize hy : x * x % 2147483629 = y at n0 n1
  have hk2 : -18446744073709551616 < (k : Int) ∧ (k : Int) < 18446744073709551616 := by omega
  have hx2 : -18446744073709551616 < x ∧ x < 18446744073709551616 := by omega
  by_cases hc18 : (1000000000000000000 : Int) ≤ c
  · exact ⟨c, y, by simp [gPool2, hk2.1, hk2.2, bInt, hc18, hx, hx2.1, hx2.2, hy], n0, by omega⟩
  · exact ⟨0, y, by simp [gPool2, hk2.1, hk2.2, bInt, hc18, hx, hx2.1, hx2.2, hy], n0, by omega⟩
theorem pool_ok (ns : List Int) (hl : ns.length ≤ 1000) (k : Nat) (hk : k ≤ 1000) (μ : Mu) (hμ : AllC μ) : ∃ μ', callF 4 gPool [.lst (ns.map .int), .int k] μ = .ok (.hdl μ.length) μ' ∧ Pool μ' μ.length ∧ ∃ m, μ' = μ ++ [m] := by
  have main : ∀ c : Int, gPool1 [some (.lst (ns.map .int)), some (.int k), some (.int 0), none] μ = .nx [some (.lst (ns.map .int)), some (.int k), some (.int c), none] μ →
      ∃ μ', callF 4 gPool [.lst (ns.map .int), .int k] μ = .ok (.hdl μ.length) μ' ∧ Pool μ' μ.length ∧ ∃ m, μ' = μ ++ [m] := by
    intro c hc
    obtain ⟨a, b, e, b0, b1⟩ := pool2 (.lst (ns.map .int)) k hk c μ
    have body : gPool (startD 4 [.lst (ns.map .int), .int k]) μ = .rt (.hdl μ.length) (μ ++ [.lst [.int a, .int b]]) := by
      simp [gPool, startD, hc, e]
    refine ⟨μ ++ [.lst [.int a, .int b]], ?_, ⟨⟨a, b, by simp, b0, b1⟩, hμ.app fun m hm n => by rw [List.mem_singleton.mp hm]; exact pool_cl _ _ n⟩, _, rfl⟩
    rw [callF_eq _ _ _ _ _ _ body]
    simp [trunc, D.closed]
  by_cases h : k < ns.length
  · refine main (if ns[k] < 0 then -ns[k] else ns[k]) ?_
    have hk' : (k : Int) < ns.length := by omega
    have e : atI (ns.map D.int) k = some (.int ns[k]) := by simp [atI, ixN, h]
    simp [gPool1, bLen, lenD, seqD, hk', e]
  · refine main 0 ?_
    have hk' : ¬ (k : Int) < ns.length := by omega
    simp [gPool1, bLen, lenD, seqD, hk']
theorem take_ok {μ : Mu} {l : Nat} (h : Pool μ l) (n : Int) (hn : 0 < n ∧ n < 1073741824) : ∃ v μ', callF 3 gTake [.hdl l, .int n] μ = .ok (.int v) μ' ∧ 0 ≤ v ∧ v < n ∧ Pool μ' l ∧ μ'.length = μ.length := by
  obtain ⟨a, b, e, b0, b1⟩ := h.ex
  have hll : l < μ.length := (List.getElem?_eq_some_iff.mp e).1
  by_cases ha : 0 < a
  · have body : gTake (startD 3 [.hdl l, .int n]) μ = .rt (.int (a % n)) (μ.set l (.lst [.int (a / n), .int b])) := by
      simp [gTake, startD, ix_hdl e, ha, hn.1, hn.2, gsetix, e, ixN]
    refine ⟨_, _, (callF_eq _ _ _ _ _ _ body).trans (trunc_len (by simp) (by simp [D.closed]) (h.cl.set l (pool_cl _ _))), Int.emod_nonneg _ (by omega), Int.emod_lt_of_pos _ hn.1, ⟨⟨a / n, b, by simp [hll], b0, b1⟩, h.cl.set l (pool_cl _ _)⟩, by simp⟩
  · have m0 := Int.emod_nonneg (b * 48271 + 12345) (b := 2147483647) (by omega)
    have m1 := Int.emod_lt_of_pos (b * 48271 + 12345) (b := 2147483647) (by omega)
    generalize hy : (b * 48271 + 12345) % 2147483647 = y at m0 m1
    have hb2 : -18446744073709551616 < b ∧ b < 18446744073709551616 := by omega
    have hy2 : -18446744073709551616 < y ∧ y < 18446744073709551616 := by omega
    have e2 : (μ.set l (.lst [.int a, .int y]))[l]? = some (.lst [.int a, .int y]) := by simp [hll]
    have body : gTake (startD 3 [.hdl l, .int n]) μ = .rt (.int (y * y % 2147483629 / 64 % n)) (μ.set l (.lst [.int a, .int y])) := by
      simp [gTake, startD, ix_hdl e, ha, hn.1, hn.2, gsetix, e, ixN, hy, ix_hdl e2, hb2.1, hb2.2, hy2.1, hy2.2]
    refine ⟨_, _, (callF_eq _ _ _ _ _ _ body).trans (trunc_len (by simp) (by simp [D.closed]) (h.cl.set l (pool_cl _ _))), Int.emod_nonneg _ (by omega), Int.emod_lt_of_pos _ hn.1, ⟨⟨_, y, e2, m0, by omega⟩, h.cl.set l (pool_cl _ _)⟩, by simp⟩
end DL
/-! DL17: instances of own classes: attributes, methods, making. What is never reached. -/
namespace DL
open PySem L2
/-! ### what is never reached -/
def gbad : FS := fun _ _ => .bad
def dbad : FE := fun _ _ => .bad
theorem ds_bad {X : Cx} {E : WX} {st : Stmt} : DS X E st gbad := ⟨fun pins s σ H D I h => by
  obtain ⟨W, ρ, μ, ok, en, p⟩ := h
  exact p.elim⟩
theorem de_bad {X : Cx} {E : WX} {e : Expr} : DE X E e dbad := ⟨fun pins s σ H D I h => by
  obtain ⟨W, ρ, μ, ok, en, p⟩ := h
  exact p.elim⟩
@[simp] theorem ap_gbad (ρ : En) (μ : Mu) : gbad ρ μ = .bad := of_eq_true (eq_self _)
@[simp] theorem ap_dbad (ρ : En) (μ : Mu) : dbad ρ μ = .bad := of_eq_true (eq_self _)
@[simp] theorem O.thn_bad (h : FS) : O.bad.thn h = .bad := of_eq_true (eq_self _)
/-! ### attributes -/
def putP {α : Type} (f : Str) (x : α) : List Str → List α → List Str × List α
  | g :: ns, y :: ys => if g = f then (g :: ns, x :: ys) else (g :: (putP f x ns ys).1, y :: (putP f x ns ys).2)
  | _, _ => ([f], [x])
theorem putP_zip (f : Str) (v : V) : ∀ {ns : List Str} {vs : List V}, ns.length = vs.length → putF f v (ns.zip vs) = (putP f v ns vs).1.zip (putP f v ns vs).2
  | [], [], _ => rfl
  | [], _ :: _, h => by cases h
  | _ :: _, [], h => by cases h
  | g :: ns, y :: ys, h => by
    simp only [List.zip_cons_cons, putF, putP]
    by_cases e : g = f
    · simp [e]
    · simp [e, putP_zip f v (ns := ns) (vs := ys) (by simpa using h)]
theorem putP_len {α : Type} (f : Str) (v : α) : ∀ {ns : List Str} {vs : List α}, ns.length = vs.length → (putP f v ns vs).1.length = (putP f v ns vs).2.length
  | [], [], _ => rfl
  | [], _ :: _, h => by cases h
  | _ :: _, [], h => by cases h
  | g :: ns, y :: ys, h => by
    simp only [putP]
    by_cases e : g = f
    · simpa [e] using h
    · simp [e, putP_len f v (ns := ns) (vs := ys) (by simpa using h)]
theorem putP_names {α β : Type} (f : Str) (v : α) (d : β) : ∀ {ns : List Str} {vs : List α} {ds : List β}, ns.length = vs.length → ns.length = ds.length → (putP f v ns vs).1 = (putP f d ns ds).1
  | [], [], [], _, _ => rfl
  | [], _ :: _, _, h, _ => by cases h
  | [], [], _ :: _, _, h => by cases h
  | _ :: _, [], _, h, _ => by cases h
  | _ :: _, _ :: _, [], _, h => by cases h
  | g :: ns, y :: ys, z :: zs, h, h2 => by
    simp only [putP]
    by_cases e : g = f
    · simp [e]
    · simp [e, putP_names f v d (ns := ns) (vs := ys) (ds := zs) (by simpa using h) (by simpa using h2)]
theorem putP_reps {K : PySem.W.Frag} {W : Wd} (f : Str) {v : V} {d : D} (r : Rep K W v d) : ∀ {ns : List Str} {vs : List V} {ds : List D}, ns.length = vs.length → Reps K W vs ds → Reps K W (putP f v ns vs).2 (putP f d ns ds).2
  | [], [], [], _, _ => .cons r .nil
  | [], _ :: _, _, h, _ => by cases h
  | _ :: _, [], _, h, _ => by cases h
  | g :: ns, y :: ys, z :: zs, h, .cons r1 r2 => by
    simp only [putP]
    by_cases e : g = f
    · simp only [if_pos e]
      exact .cons r r2
    · simp only [if_neg e]
      exact .cons r1 (putP_reps f r (by simpa using h) r2)
theorem lookup_rep {K : PySem.W.Frag} {W : Wd} {f : Str} {d : D} : ∀ {ns : List Str} {vs : List V} {ds : List D}, Reps K W vs ds → (ns.zip ds).lookup f = some d → ∃ v, (ns.zip vs).lookup f = some v ∧ Rep K W v d
  | [], _, _, _, h => by cases h
  | _ :: _, _, _, .nil, h => by cases h
  | g :: ns, _, _, .cons (v := v) (vs := vs) (d := e) (ds := ds) r rs, h => by
    simp only [List.zip_cons_cons, List.lookup] at h ⊢
    cases hb : (f == g) with
    | true =>
      rw [hb] at h
      cases h
      exact ⟨v, rfl, r⟩
    | false =>
      rw [hb] at h
      exact lookup_rep rs h
theorem lookup_none {K : PySem.W.Frag} {W : Wd} {f : Str} : ∀ {ns : List Str} {vs : List V} {ds : List D}, Reps K W vs ds → (ns.zip ds).lookup f = none → (ns.zip vs).lookup f = none
  | [], _, _, _, _ => rfl
  | _ :: _, _, _, .nil, _ => rfl
  | g :: ns, _, _, .cons (v := v) (vs := vs) (d := e) (ds := ds) r rs, h => by
    simp only [List.zip_cons_cons, List.lookup] at h ⊢
    cases hb : (f == g) with
    | true => rw [hb] at h; cases h
    | false =>
      rw [hb] at h
      exact lookup_none rs h
/-- an instance: its class and its attributes -/
def insD (μ : Mu) : D → Option (Nat × List (Str × D))
  | .obj C fs => some (C, fs)
  | .hdl l => match μ[l]? with
    | some (.ins C ns xs) => some (C, ns.zip xs)
    | _ => none
  | _ => none
theorem ins_rep {K : PySem.W.Frag} {W : Wd} {H : Hp} {μ : Mu} {v : V} {d : D} {C : Nat} {fs : List (Str × D)} (ok : Ok K W H μ) (r : Rep K W v d) (h : insD μ d = some (C, fs)) :
    ∃ (a dx : Addr) (ns : List Str) (vs : List V) (ds : List D), v = .ref a ∧ H a = some (.ins (cl K C) dx (ns.zip vs)) ∧ fs = ns.zip ds ∧ Reps K W vs ds := by
  cases r with
  | obj h1 e rs =>
    simp [insD] at h
    obtain ⟨rfl, rfl⟩ := h
    exact ⟨_, _, _, _, _, rfl, ok.sub _ _ h1, rfl, rs⟩
  | @hdl a l ha =>
    unfold insD at h
    dsimp only at h
    cases hm : μ[l]? with
    | none => rw [hm] at h; cases h
    | some m =>
      rw [hm] at h
      cases m with
      | ins C' ns xs =>
        cases h
        obtain ⟨o, ho, dx, vs, rfl, hl, rs⟩ := ok.cell l a _ ha hm
        exact ⟨_, _, _, _, _, rfl, ho, rfl, rs⟩
      | _ => cases h
  | _ => simp [insD] at h
def atD (cs : List Nat) (f : Str) (μ : Mu) (d : D) : Option D := match insD μ d with
  | some (C, fs) => if C ∈ cs then fs.lookup f else none
  | none => none
def dat (cs : List Nat) (f : Str) (fo : FE) : FE := fun ρ μ => (fo ρ μ).bind fun d μ1 => R.of (atD cs f μ1 d) μ1
@[simp] theorem ap_at (cs : List Nat) (f : Str) (fo : FE) (ρ : En) (μ : Mu) : dat cs f fo ρ μ = (fo ρ μ).bind fun d μ1 => R.of (atD cs f μ1 d) μ1 := of_eq_true (eq_self _)
section
variable {X : Cx} {E : WX} {e o : Expr} {fe fo : FE} {f : Str} {pos pos' : Pos} {cs : List Nat}
theorem de_at (hc : ∀ C ∈ cs, Cls X.K (cl X.K C) ∧ NoAttr X.K (cl X.K C) f) (he : DE X E e fe) (hb : attributeBase e f X.env (eval e X.env) = eval e X.env := by rfl) : DE X E (.Attribute e f pos) (dat cs f fe) := by
  refine pe_imp (pe_fld he hb) fun σ H Q ⟨W, ρ, μ, ok, en, p⟩ => ?_
  refine seq p ok en fun d μ1 W1 v H1 g1 o1 en1 r p1 => ?_
  unfold atD at p1
  cases hi : insD μ1 d with
  | none => rw [hi] at p1; exact p1.elim
  | some q =>
    obtain ⟨C, fs⟩ := q
    rw [hi] at p1
    dsimp only at p1
    by_cases hC : C ∈ cs
    · rw [if_pos hC] at p1
      cases hl : fs.lookup f with
      | none => rw [hl] at p1; exact p1.elim
      | some x =>
        rw [hl] at p1
        obtain ⟨a, dx, ns, vs, ds, rfl, ha, rfl, rs⟩ := ins_rep o1 r hi
        obtain ⟨w, hw, rw1⟩ := lookup_rep rs hl
        exact ⟨a, _, dx, _, w, rfl, ha, (hc C hC).1, (hc C hC).2, hw, post_pure o1 p1 rw1⟩
    · rw [if_neg hC] at p1
      exact p1.elim
/-- o.f = e on an instance that is a cell -/
def gsetat (cs : List Nat) (f : Str) (fo fe : FE) : FS := fun ρ μ => (fe ρ μ).to ρ fun d μ1 => (fo ρ μ1).to ρ fun x μ2 => match x with
  | .hdl l => match μ2[l]? with
    | some (.ins C ns xs) => if C ∈ cs ∧ ns.length < 900 ∧ ns.length = xs.length then .nx ρ (μ2.set l (.ins C (putP f d ns xs).1 (putP f d ns xs).2)) else .bad
    | _ => .bad
  | _ => .bad
theorem ds_setat (hc : ∀ C ∈ cs, Cls X.K (cl X.K C) ∧ NoAttr X.K (cl X.K C) f) (he : DE X E e fe) (ho : DE X E o fo) (hs : swapsWith e (some (.Attribute o f pos')) pos.line X.env = pure false := by rfl) : DS X E (.Assign [.Attribute o f pos'] e pos) (gsetat cs f fo fe) := by
  refine ps_imp (ps_fld ho he hs) fun Z σ H ⟨W, ρ, μ, ok, en, p⟩ => ?_
  refine seqS p ok en fun d μ1 W1 v H1 g1 o1 en1 r p1 => ?_
  refine seqS p1 o1 en1 fun x μ2 W2 xv H2 g2 o2 en2 r2 p2 => ?_
  split at p2
  · rename_i l
    split at p2
    · rename_i C ns xs hm
      split at p2
      · rename_i hq
        obtain ⟨hC, hn, hl⟩ := hq
        cases r2 with
        | @hdl a _ ha =>
          obtain ⟨ob, hob, dx, vs, rfl, hlv, rs⟩ := o2.cell l a _ ha hm
          obtain ⟨ok4, g4⟩ := o2.setcell (m' := .ins C (putP f d ns xs).1 (putP f d ns xs).2) (o' := .ins (cl X.K C) dx (putF f v (ns.zip vs))) ha hm (fun z => nomatch z) ⟨dx, (putP f v ns vs).2, by rw [putP_zip f v hlv, putP_names f v d hlv hl], by rw [← putP_names f v d hlv hl]; exact putP_len f v hlv, putP_reps f (r.mono g2.le) hlv rs⟩
          refine ⟨a, _, dx, _, rfl, hob, (hc C hC).1, (hc C hC).2, ?_, p2 _ _ _ g4 ok4 en2⟩
          rw [List.length_zip]
          omega
      · exact p2.elim
    · exact p2.elim
  · exact p2.elim
end
/-! ### methods -/
/-- o.m(..) of the class C, m no attribute of its own -/
def dmeth (C : Nat) (m : Str) (F : List D → Mu → R D) (dd : List D) (fo : FE) (fa : FA) : FE := fun ρ μ => (fo ρ μ).bind fun o μ1 => match insD μ1 o with
  | some (C', fs) => if C' = C ∧ (fs.lookup m).isNone = true then (fa ρ μ1).bind fun ds μ2 => F ((o :: ds) ++ dd) μ2 else .bad
  | none => .bad
@[simp] theorem ap_meth (C : Nat) (m : Str) (F : List D → Mu → R D) (dd : List D) (fo : FE) (fa : FA) (ρ : En) (μ : Mu) : dmeth C m F dd fo fa ρ μ = (fo ρ μ).bind fun o μ1 => match insD μ1 o with
  | some (C', fs) => if C' = C ∧ (fs.lookup m).isNone = true then (fa ρ μ1).bind fun ds μ2 => F ((o :: ds) ++ dd) μ2 else .bad
  | none => .bad := of_eq_true (eq_self _)
section
variable {X : Cx} {E : WX} {k C : Nat} {f : Addr} {fd : FuncData} {ps : List Str} {F : List D → Mu → R D} {dd : List D} {m : Str} {p pos apos : Pos} {o e : Expr} {es : List Expr} {fo : FE} {fa : FA}
theorem de_meth {pl : Sem Bool} (G : FnG X.prog X.w X.K X.mg X.base k f fd ps F) (c : Cal X E k) (hC : Cls X.K (cl X.K C)) (hm : Meth X.K (cl X.K C) m f) (b : Dfl X.K fd ps ((e :: es).length + 1) dd) (ho : DE X E o fo) (ha : DA X E (e :: es) fa)
    (hf : HasLen fa (e :: es).length := by repeat (first | exact aNil_len | refine aCons_len ?_)) (hst : starEach (e :: es) X.env = (false, eval e X.env) :: starEach es X.env := by rfl) (hpl : (backTo pos (starEach es X.env)).any (·.1) = false := by rfl)
    (ht : eval (.Call (.Attribute o m apos) (e :: es) [] pos) X.env = (do
      let ov ← eval o X.env
      standAt apos.atName
      let (f, first) ← holding [ov] (getMethod ov m pl)
      callWith pos f first (backTo pos (starEach (e :: es) X.env)) (backToKw pos (keywordEach [] X.env))) := by rfl) :
    DE X E (.Call (.Attribute o m apos) (e :: es) [] pos) (dmeth C m F dd fo fa) := by
  refine ⟨fun pins s σ H Q I q => ?_⟩
  obtain ⟨W, ρ, μ, ok, en, pq⟩ := q
  unfold dmeth at pq
  have rd : rE X.K E fo σ H (fun x H1 => ∃ W1 d μ1 a dx fs, x = .ref a ∧ H1 a = some (.ins (cl X.K C) dx fs) ∧ fs.lookup m = none ∧ Ok X.K W1 H1 μ1 ∧ Envs X.K W1 σ ρ ∧ Rep X.K W1 x d ∧ postE X.K (WE E σ) W1 H1 ((fa ρ μ1).bind fun ds μ2 => F ((d :: ds) ++ dd) μ2) Q) := by
    refine seq pq ok en fun d μ1 W1 v H1 g1 o1 en1 r p1 => ?_
    cases hi : insD μ1 d with
    | none => rw [hi] at p1; exact p1.elim
    | some z =>
      obtain ⟨C', fs⟩ := z
      rw [hi] at p1
      dsimp only at p1
      by_cases hq : C' = C ∧ (fs.lookup m).isNone = true
      · rw [if_pos hq] at p1
        obtain ⟨rfl, hn⟩ := hq
        obtain ⟨a, dx, ns, vs, ds, rfl, ha, rfl, rs⟩ := ins_rep o1 r hi
        exact ⟨W1, d, μ1, a, dx, _, rfl, ha, lookup_none rs (Option.isNone_iff_eq_none.mp hn), o1, en1, r, p1⟩
      · rw [if_neg hq] at p1
        exact p1.elim
  refine PySem.W.methodCall_KW (pl := pl) (thn (ho.run pins s σ H _ I rd) fun u s1 ⟨x, H1, I1, rx, W1, d, μ1, a, dx, fs, ex, ea, l, o1, en1, r1, q1⟩ => ?_) ht
  subst ex
  obtain rfl : u = Value.ref a := rx
  refine getmeth_ok I1 ea hC hm l ?_
  have rd2 : rA X.K E fa σ H1 (fun vs H2 => ∃ W2 ds μ2, vs.length = (e :: es).length ∧ Ok X.K W2 H2 μ2 ∧ Le W1 W2 ∧ Reps X.K W2 vs ds ∧ postE X.K (WE E σ) W2 H2 (F ((d :: ds) ++ dd) μ2) Q) := by
    refine ⟨W1, ρ, μ1, o1, en1, ?_⟩
    revert q1
    cases hq : fa ρ μ1 with
    | ok ds μ2 => exact fun p W2 xs H2 g o r => ⟨W2, ds, μ2, by rw [r.length]; exact hf ρ μ1 ds μ2 hq, o, g.le, r, post.mono g p⟩
    | ex c fs μ1 => exact fun p => p
    | bad => exact fun p => p
  refine PySem.W.callWith_K (first := [.ref a]) (h₀ := X.base) I.ok.mod.kin hm.kp (thn (ha.run pos pins s1 σ H1 _ I1 rd2) fun us s2 ⟨vs, H2, I2, r, W2, ds, μ2, hn, o2, l2, r2, q2⟩ => ⟨I2.kIn, ?_⟩) hst hpl
  exact callF_args (us := .ref a :: us) (vs := .ref a :: vs) (n := (e :: es).length + 1) G c b I2 (by rw [List.length_cons, ← r.length, hn]) (.cons rfl r) o2 (.cons (r1.mono l2) r2) q2
theorem de_meth0 {pl : Sem Bool} (G : FnG X.prog X.w X.K X.mg X.base k f fd ps F) (c : Cal X E k) (hC : Cls X.K (cl X.K C)) (hm : Meth X.K (cl X.K C) m f) (b : Dfl X.K fd ps 1 dd) (ho : DE X E o fo)
    (ht : eval (.Call (.Attribute o m apos) [] [] pos) X.env = (do
      let ov ← eval o X.env
      standAt apos.atName
      let (f, first) ← holding [ov] (getMethod ov m pl)
      callWith pos f first (backTo pos (starEach [] X.env)) (backToKw pos (keywordEach [] X.env))) := by rfl) :
    DE X E (.Call (.Attribute o m apos) [] [] pos) (dmeth C m F dd fo aNil) := by
  refine ⟨fun pins s σ H Q I q => ?_⟩
  obtain ⟨W, ρ, μ, ok, en, pq⟩ := q
  unfold dmeth at pq
  have rd : rE X.K E fo σ H (fun x H1 => ∃ W1 d μ1 a dx fs, x = .ref a ∧ H1 a = some (.ins (cl X.K C) dx fs) ∧ fs.lookup m = none ∧ Ok X.K W1 H1 μ1 ∧ Rep X.K W1 x d ∧ postE X.K (WE E σ) W1 H1 (F ([d] ++ dd) μ1) Q) := by
    refine seq pq ok en fun d μ1 W1 v H1 g1 o1 en1 r p1 => ?_
    cases hi : insD μ1 d with
    | none => rw [hi] at p1; exact p1.elim
    | some z =>
      obtain ⟨C', fs⟩ := z
      rw [hi] at p1
      dsimp only at p1
      by_cases hq : C' = C ∧ (fs.lookup m).isNone = true
      · rw [if_pos hq] at p1
        obtain ⟨rfl, hn⟩ := hq
        obtain ⟨a, dx, ns, vs, ds, rfl, ha, rfl, rs⟩ := ins_rep o1 r hi
        unfold aNil at p1
        rw [R.bind_ok] at p1
        exact ⟨W1, d, μ1, a, dx, _, rfl, ha, lookup_none rs (Option.isNone_iff_eq_none.mp hn), o1, r, p1⟩
      · rw [if_neg hq] at p1
        exact p1.elim
  refine PySem.W.methodCall_KW (pl := pl) (thn (ho.run pins s σ H _ I rd) fun u s1 ⟨x, H1, I1, rx, W1, d, μ1, a, dx, fs, ex, ea, l, o1, r1, q1⟩ => ?_) ht
  subst ex
  obtain rfl : u = Value.ref a := rx
  refine getmeth_ok I1 ea hC hm l ?_
  exact PySem.W.callWith_K0 (first := [.ref a]) I1.kIn hm.kp (callF_args (us := [.ref a]) (vs := [.ref a]) (n := 1) G c b I1 rfl (.cons rfl .nil) o1 (.cons r1 .nil) q1)
end
/-! ### making -/
/-- a new instance that is changed later -/
def makeM (C : Nat) (F : List D → Mu → R D) (g : D → List D) (μ : Mu) : R D := match F (g (.hdl μ.length)) (μ ++ [.ins C [] []]) with
  | .ok .non μ1 => .ok (.hdl μ.length) μ1
  | .ex c fs μ1 => .ex c fs μ1
  | _ => .bad
/-- .. that never changes any more -/
def makeO (C : Nat) (F : List D → Mu → R D) (g : D → List D) (μ : Mu) : R D := match F (g (.hdl μ.length)) (μ ++ [.ins C [] []]) with
  | .ok .non μ1 => match μ1[μ.length]? with
    | some (.ins C' ns xs) => trunc μ.length (.obj C' (ns.zip xs)) (μ1.set μ.length .gone)
    | _ => .bad
  | .ex c fs μ1 => truncX μ.length c fs μ1
  | _ => .bad
end DL
/-! DL18: an instance made by a call of its class. -/
namespace DL
open PySem L2
section
variable {K : PySem.W.Frag} {W : Wd} {H : Hp} {μ : Mu} {x dx : Addr} {C : Nat}
theorem born_ok (ok : Ok K W H μ) (h1 : H x = none) (h2 : H dx = none) (hne : dx ≠ x) : Ok K (W.cell x) (upd (upd H dx (.own x)) x (.ins (cl K C) dx [])) (μ ++ [.ins C [] []]) ∧ Go W H (W.cell x) (upd (upd H dx (.own x)) x (.ins (cl K C) dx [])) := by
  have ok1 : Ok K W (upd H dx (.own x)) μ := ok.other (ok.snone h2) (ok.notio h2)
  have hx : upd H dx (.own x) x = none := by rw [upd_ne (fun z => hne z.symm)]; exact h1
  exact ⟨ok1.newcell hx ⟨dx, [], rfl, rfl, .nil⟩, ((Go.refl W H).other h2).trans (Go.cell ok1 hx)⟩
theorem cell_last (ok : Ok K W H μ) {W' : Wd} (l : Le (W.cell x) W') : W'.io[μ.length]? = some x := prefix_get l.io (by
  show (W.io ++ [x])[μ.length]? = some x
  rw [← ok.len]
  simp)
end
section
variable {X : Cx} {E : WX} {k C : Nat} {f : Addr} {fd : FuncData} {ps : List Str} {F : List D → Mu → R D}
/-- what the call of the class must give for what its __init__ gives -/
def MkQ (K : PySem.W.Frag) (E : WX) (C : Nat) (F : List D → Mu → R D) (g : D → List D) (r : Mu → R D) : Prop := ∀ (E' : XK) (W : Wd) (H : Hp) (μ : Mu) (x dx : Addr) (Q : VK), Ok K W H μ → H x = none → H dx = none → dx ≠ x → postE K E' W H (r μ) Q →
  postE K E' (W.cell x) (upd (upd H dx (.own x)) x (.ins (cl K C) dx [])) (F (g (.hdl μ.length)) (μ ++ [.ins C [] []])) (fun v H3 => v = .non ∧ Q (.ref x) H3)
theorem mkq_M {K : PySem.W.Frag} {g : D → List D} : MkQ K E C F g (makeM C F g) := by
  intro E' W H μ x dx Q ok h1 h2 hne p
  obtain ⟨ok1, g1⟩ := born_ok (C := C) ok h1 h2 hne
  unfold makeM at p
  revert p
  cases F (g (.hdl μ.length)) (μ ++ [.ins C [] []]) with
  | ok d μ2 =>
    intro p W' v H' g2 o2 r2
    cases r2 with
    | non => exact ⟨rfl, p W' (.ref x) H' (g1.trans g2) o2 (.hdl (cell_last ok g2.le))⟩
    | _ => exact p.elim
  | ex c fs μ2 => exact fun p W' H' d g2 o2 r2 => p W' H' d (g1.trans g2) o2 r2
  | bad => exact fun p => p
theorem mkq_O {K : PySem.W.Frag} {g : D → List D} : MkQ K E C F g (makeO C F g) := by
  intro E' W H μ x dx Q ok h1 h2 hne p
  obtain ⟨ok1, g1⟩ := born_ok (C := C) ok h1 h2 hne
  unfold makeO at p
  revert p
  cases F (g (.hdl μ.length)) (μ ++ [.ins C [] []]) with
  | ok d μ2 =>
    intro p W' v H' g2 o2 r2
    cases r2 with
    | non =>
      dsimp only at p
      cases hm : μ2[μ.length]? with
      | none => rw [hm] at p; exact p.elim
      | some m =>
        rw [hm] at p
        cases m with
        | ins C' ns xs =>
          have hio := cell_last ok g2.le
          obtain ⟨o, ho, dx', vs, rfl, hl, rs⟩ := o2.cell _ _ _ hio hm
          obtain ⟨ok3, g3⟩ := o2.freeze hio hm (fun z => nomatch z) ho
          refine ⟨rfl, trunc_post ok.len p ((g1.trans g2).trans g3) ok3 (.obj (dx := dx') (vs := vs) ?_ hl (rs.mono g3.le))⟩
          show upd W'.S x _ x = _
          exact upd_same
        | _ => exact p.elim
    | _ => exact p.elim
  | ex c fs μ2 => exact fun p W' H' d g2 o2 r2 => truncX_post ok.len p (g1.trans g2) o2 r2
  | bad => exact fun p => p
/-- the call itself; uz, vz: what comes to the parameters for self -/
theorem run_born {pins : List (Addr × Obj)} {σ : St} {H : Hp} {s : Shared} {Q : VK} {us : List Value} {kw : List (Str × Value)} {W : Wd} {μ : Mu} {g : D → List D} {r : Mu → R D} (M : Mk X.K (cl X.K C) f) (G : FnG X.prog X.w X.K X.mg X.base k f fd ps F) (c : Cal X E (k + 1))
    (I : Inv X pins σ H s) (uz : Value → List Value) (vz : V → List V) (hl : ∀ u, (uz u).length = ps.length) (hb : ∀ (s' : Shared) (a : Addr), X.K.In s'.heap → BindsTo s' fd ⟨.ref a :: us, kw⟩ (ps.zip (uz (.ref a)))) (rv : ∀ a : Addr, Vals (vz (.ref a)) (uz (.ref a)))
    (ok : Ok X.K W H μ) (rp : ∀ (W' : Wd) (a : Addr), Le W W' → Rep X.K W' (.ref a) (.hdl μ.length) → Reps X.K W' (vz (.ref a)) (g (.hdl μ.length))) (mk : MkQ X.K E C F g r) (q : postE X.K (WE E σ) W H (r μ) Q) :
    wpAny (model X.prog X.w) X.A (call (.ref (cl X.K C)) us kw) (EP X pins σ Q) X.xe s := by
  have n1 := I.hok.fresh (Nat.le_succ s.heap.objs.size)
  have n2 := I.hok.fresh (Nat.le_refl s.heap.objs.size)
  have ne : s.heap.objs.size ≠ s.heap.objs.size + 1 := Nat.ne_of_lt (Nat.lt_succ_self _)
  have hq := mk (WE E σ) W H μ (s.heap.objs.size + 1) s.heap.objs.size Q ok n1 n2 ne q
  obtain ⟨ok1, g1⟩ := born_ok (C := C) ok n1 n2 ne
  have I2 := Inv.made (C := cl X.K C) I
  have gd : (X.A.under (.builtin "type.__call__" ⟨.ref (cl X.K C) :: us, kw⟩)).guards = some [] := by
    have e : Code.guards (.builtin "type.__call__" ⟨.ref (cl X.K C) :: us, kw⟩) = [] := by simp [Code.guards, Code.isGuard, guardIds]
    unfold Around.under
    dsimp only
    rw [e, c.guards]
    rfl
  refine wpAny_call (make_map (f := f) I.kIn M.makes M.init (beq_iff_eq.mp M.fn) (codeAny_mono (G.run _ X.stack _ _ ⟨Value.ref (s.heap.objs.size + 1) :: us, kw⟩ (uz (.ref (s.heap.objs.size + 1))) (vz (.ref (s.heap.objs.size + 1))) _ (WE E σ) _ _ _ (c.room.make (cl X.K C) us kw) gd
    (I2.env0.make (cl X.K C) us kw) (hl _) (hb _ _ I2.kIn) (rv _) ok1 (rp _ _ g1.le (.hdl (cell_last ok (Le.refl _)))) hq) fun z s' hq' => ?_))
  cases z with
  | error e => exact c.pass σ pins _ _ e s' I2 hq'
  | ok fl =>
    cases fl with
    | ret u =>
      obtain ⟨v, H', I3, rr, ev, q3⟩ := I2.after hq'
      subst ev
      exact ⟨rr, ⟨V.ref (s.heap.objs.size + 1), H', I3, rfl, q3⟩⟩
    | next => exact hq'.elim
    | brk => exact hq'.elim
    | cont => exact hq'.elim
end
/-- C(e, ..), C(e, .., k = v, ..): mk is makeM or makeO -/
def dmake (mk : (D → List D) → Mu → R D) (dd : List D) (fa : FA) : FE := fun ρ μ => (fa ρ μ).bind fun ds μ1 => mk (fun x => (x :: ds) ++ dd) μ1
def dmakeK (mk : (D → List D) → Mu → R D) (gD : List D → List D → List D) (fa fk : FA) : FE := fun ρ μ => (fa ρ μ).bind fun ds μ1 => (fk ρ μ1).bind fun es μ2 => mk (fun x => gD (x :: ds) es) μ2
@[simp] theorem ap_make (mk : (D → List D) → Mu → R D) (dd : List D) (fa : FA) (ρ : En) (μ : Mu) : dmake mk dd fa ρ μ = (fa ρ μ).bind fun ds μ1 => mk (fun x => (x :: ds) ++ dd) μ1 := of_eq_true (eq_self _)
@[simp] theorem ap_makeK (mk : (D → List D) → Mu → R D) (gD : List D → List D → List D) (fa fk : FA) (ρ : En) (μ : Mu) : dmakeK mk gD fa fk ρ μ = (fa ρ μ).bind fun ds μ1 => (fk ρ μ1).bind fun es μ2 => mk (fun x => gD (x :: ds) es) μ2 := of_eq_true (eq_self _)
section
variable {X : Cx} {E : WX} {k n C : Nat} {f : Addr} {fd : FuncData} {ps ks : List Str} {F : List D → Mu → R D} {dd : List D} {gD : List D → List D → List D} {x : Str} {p pos kpos : Pos} {e : Expr} {es : List Expr} {kws : List Keyword} {fa fk : FA} {mk : (D → List D) → Mu → R D}
theorem de_make (M : Mk X.K (cl X.K C) f) (G : FnG X.prog X.w X.K X.mg X.base k f fd ps F) (c : Cal X E (k + 1)) (hm : X.mg x = some (.ref (cl X.K C))) (b : Dfl X.K fd ps ((e :: es).length + 1) dd) (hk : ∀ g, MkQ X.K E C F g (mk g)) (ha : DA X E (e :: es) fa)
    (hf : HasLen fa (e :: es).length := by repeat (first | exact aNil_len | refine aCons_len ?_)) (hg : Gl X x := by rfl) (hdb : (x == ("__debug__" : Str)) = false := by decide) (he : starEach (e :: es) X.env = (false, eval e X.env) :: starEach es X.env := by rfl) (hpl : (backTo pos (starEach es X.env)).any (·.1) = false := by rfl) :
    DE X E (.Call (.Name x p) (e :: es) [] pos) (dmake mk dd fa) := by
  refine ⟨fun pins s σ H Q I q => ?_⟩
  obtain ⟨W, ρ, μ, ok, en, pq⟩ := q
  refine wpAny_Call_Name_kw (ld_glob I hg hm ?_ hdb)
  unfold dmake at pq
  have rd : rA X.K E fa σ H (fun vs H1 => ∃ W1 ds μ1, vs.length = (e :: es).length ∧ Ok X.K W1 H1 μ1 ∧ Reps X.K W1 vs ds ∧ postE X.K (WE E σ) W1 H1 (mk (fun x => (x :: ds) ++ dd) μ1) Q) := by
    refine ⟨W, ρ, μ, ok, en, ?_⟩
    revert pq
    cases hq : fa ρ μ with
    | ok ds μ1 => exact fun p W1 xs H1 g o r => ⟨W1, ds, μ1, by rw [r.length]; exact hf ρ μ ds μ1 hq, o, r, post.mono g p⟩
    | ex c fs μ1 => exact fun p => p
    | bad => exact fun p => p
  refine PySem.W.callWith_K (h₀ := X.base) I.ok.mod.kin M.kp (thn (ha.run pos pins s σ H _ I rd) fun us s1 ⟨vs, H1, I1, r, W1, ds, μ1, hn, o1, r1, q1⟩ => ⟨I1.kIn, ?_⟩) he hpl
  obtain ⟨dvs, d0, r0, rd0, hl, hb⟩ := b.ex
  have hu : us.length = (e :: es).length := by rw [← r.length]; exact hn
  have hlen : ∀ u : Value, ((u :: us) ++ d0).length = ps.length := fun u => by rw [List.length_append, List.length_cons, hu]; exact hl
  exact run_born M G c I1 (fun u => (u :: us) ++ d0) (fun v => (v :: vs) ++ dvs) hlen (fun s' a kin => hb s' (.ref a :: us) kin (hlen _)) (fun a => (Vals.append (.cons rfl r) r0)) o1 (fun W' a l ra => (Reps.cons ra (r1.mono l)).app (rd0 W')) (hk _) q1
theorem de_make0 (M : Mk X.K (cl X.K C) f) (G : FnG X.prog X.w X.K X.mg X.base k f fd ps F) (c : Cal X E (k + 1)) (hm : X.mg x = some (.ref (cl X.K C))) (b : Dfl X.K fd ps 1 dd) (hk : ∀ g, MkQ X.K E C F g (mk g))
    (hg : Gl X x := by rfl) (hdb : (x == ("__debug__" : Str)) = false := by decide) : DE X E (.Call (.Name x p) [] [] pos) (dmake mk dd aNil) := by
  refine ⟨fun pins s σ H Q I q => ?_⟩
  obtain ⟨W, ρ, μ, ok, en, pq⟩ := q
  refine wpAny_Call_Name_kw (ld_glob I hg hm ?_ hdb)
  unfold dmake aNil at pq
  rw [R.bind_ok] at pq
  obtain ⟨dvs, d0, r0, rd0, hl, hb⟩ := b.ex
  have hlen : ∀ u : Value, ([u] ++ d0).length = ps.length := fun u => by rw [List.length_append]; exact hl
  exact PySem.W.callWith_K0 I.kIn M.kp (run_born M G c I (fun u => [u] ++ d0) (fun v => [v] ++ dvs) hlen (fun s' a kin => hb s' [.ref a] kin (hlen _)) (fun a => (Vals.append (.cons rfl .nil) r0)) ok (fun W' a l ra => (Reps.cons ra .nil).app (rd0 W')) (hk _) pq)
theorem de_makeK (M : Mk X.K (cl X.K C) f) (G : FnG X.prog X.w X.K X.mg X.base k f fd ps F) (c : Cal X E (k + 1)) (hm : X.mg x = some (.ref (cl X.K C))) (b : KDfl X.K fd ps ((e :: es).length + 1) ks gD) (hk : ∀ g, MkQ X.K E C F g (mk g)) (ha : DA X E (e :: es) fa) (hkw : DK X E kws fk)
    (hf : HasLen fa (e :: es).length := by repeat (first | exact aNil_len | refine aCons_len ?_)) (hf2 : HasLen fk ks.length := by repeat (first | exact aNil_len | refine aCons_len ?_))
    (hall : (backToKw pos (keywordEach kws X.env)).all (·.1.isSome) = true := by rfl) (hks : (backToKw pos (keywordEach kws X.env)).filterMap (·.1) = ks := by rfl)
    (hg : Gl X x := by rfl) (hdb : (x == ("__debug__" : Str)) = false := by decide) (he : starEach (e :: es) X.env = (false, eval e X.env) :: starEach es X.env := by rfl)
    (hpl : (((backTo pos (starEach (e :: es) X.env)).any (·.1)) || (backToKw pos (keywordEach kws X.env)).any (·.1.isNone)) = false := by rfl) :
    DE X E (.Call (.Name x p) (e :: es) kws pos) (dmakeK mk gD fa fk) := by
  refine ⟨fun pins s σ H Q I q => ?_⟩
  obtain ⟨W, ρ, μ, ok, en, pq⟩ := q
  refine wpAny_Call_Name_kw (ld_glob I hg hm ?_ hdb)
  unfold dmakeK at pq
  have rd : rA X.K E fa σ H (fun vs H1 => ∃ W1 ds μ1, vs.length = (e :: es).length ∧ Ok X.K W1 H1 μ1 ∧ Envs X.K W1 σ ρ ∧ Reps X.K W1 vs ds ∧ postE X.K (WE E σ) W1 H1 ((fk ρ μ1).bind fun es μ2 => mk (fun x => gD (x :: ds) es) μ2) Q) := by
    refine ⟨W, ρ, μ, ok, en, ?_⟩
    revert pq
    cases hq : fa ρ μ with
    | ok ds μ1 => exact fun p W1 xs H1 g o r => ⟨W1, ds, μ1, by rw [r.length]; exact hf ρ μ ds μ1 hq, o, en.mono g.le, r, post.mono g p⟩
    | ex c fs μ1 => exact fun p => p
    | bad => exact fun p => p
  refine PySem.W.callWith_KW (h₀ := X.base) I.ok.mod.kin M.kp hall (thn (ha.run pos pins s σ H _ I rd) fun us s1 ⟨vs, H1, I1, r, W1, ds, μ1, hn, o1, en1, r1, q1⟩ => ?_) hpl he
  have rd2 : rA X.K E fk σ H1 (fun zs H2 => ∃ W2 es μ2, zs.length = ks.length ∧ Ok X.K W2 H2 μ2 ∧ Le W1 W2 ∧ Reps X.K W2 zs es ∧ postE X.K (WE E σ) W2 H2 (mk (fun x => gD (x :: ds) es) μ2) Q) := by
    refine ⟨W1, ρ, μ1, o1, en1, ?_⟩
    revert q1
    cases hq : fk ρ μ1 with
    | ok es μ2 => exact fun p W2 xs H2 g o r => ⟨W2, es, μ2, by rw [r.length]; exact hf2 ρ μ1 es μ2 hq, o, g.le, r, post.mono g p⟩
    | ex c fs μ1 => exact fun p => p
    | bad => exact fun p => p
  refine thn (hkw.run pos pins s1 σ H1 _ I1 rd2) fun ws s2 ⟨zs, H2, I2, rz, W2, es', μ2, hz, o2, l2, r2, q2⟩ => ⟨I2.kIn, ?_⟩
  rw [hks]
  obtain ⟨g, gV, hl, kb, rp⟩ := b.ex
  have hu : ∀ u : Value, (u :: us).length = (e :: es).length + 1 := fun u => by rw [List.length_cons, ← r.length, hn]
  have hv : ∀ v : V, (v :: vs).length = (e :: es).length + 1 := fun v => by rw [List.length_cons, hn]
  have hw : ws.length = ks.length := by rw [← rz.length]; exact hz
  exact run_born M G c I2 (fun u => g (u :: us) ws) (fun v => gV (v :: vs) zs) (fun u => hl _ _ (hu u) hw) (fun s' a kin => kb.to s' (.ref a :: us) ws kin (hu _) hw) (fun a => kb.rel (.cons rfl r) rz) o2 (fun W' a l ra => rp W' _ _ _ _ (hv _) hz (.cons ra ((r1.mono l2).mono l)) (r2.mono l)) (hk _) q2
theorem de_makeK0 (M : Mk X.K (cl X.K C) f) (G : FnG X.prog X.w X.K X.mg X.base k f fd ps F) (c : Cal X E (k + 1)) (hm : X.mg x = some (.ref (cl X.K C))) (b : KDfl X.K fd ps 1 ks gD) (hk : ∀ g, MkQ X.K E C F g (mk g)) (hkw : DK X E kws fk)
    (hf2 : HasLen fk ks.length := by repeat (first | exact aNil_len | refine aCons_len ?_))
    (hall : (backToKw pos (keywordEach kws X.env)).all (·.1.isSome) = true := by rfl) (hks : (backToKw pos (keywordEach kws X.env)).filterMap (·.1) = ks := by rfl)
    (hg : Gl X x := by rfl) (hdb : (x == ("__debug__" : Str)) = false := by decide)
    (hpl : (((backTo pos (starEach [] X.env)).any (·.1)) || (backToKw pos (keywordEach kws X.env)).any (·.1.isNone)) = false := by rfl) :
    DE X E (.Call (.Name x p) [] kws pos) (dmakeK mk gD aNil fk) := by
  refine ⟨fun pins s σ H Q I q => ?_⟩
  obtain ⟨W, ρ, μ, ok, en, pq⟩ := q
  refine wpAny_Call_Name_kw (ld_glob I hg hm ?_ hdb)
  unfold dmakeK aNil at pq
  rw [R.bind_ok] at pq
  have rd2 : rA X.K E fk σ H (fun zs H2 => ∃ W2 es μ2, zs.length = ks.length ∧ Ok X.K W2 H2 μ2 ∧ Reps X.K W2 zs es ∧ postE X.K (WE E σ) W2 H2 (mk (fun x => gD (x :: []) es) μ2) Q) := by
    refine ⟨W, ρ, μ, ok, en, ?_⟩
    revert pq
    cases hq : fk ρ μ with
    | ok es μ2 => exact fun p W2 xs H2 g o r => ⟨W2, es, μ2, by rw [r.length]; exact hf2 ρ μ es μ2 hq, o, r, post.mono g p⟩
    | ex c fs μ1 => exact fun p => p
    | bad => exact fun p => p
  refine PySem.W.callWith_KW0 (h₀ := X.base) I.ok.mod.kin M.kp hall (thn (hkw.run pos pins s σ H _ I rd2) fun ws s2 ⟨zs, H2, I2, rz, W2, es', μ2, hz, o2, r2, q2⟩ => ⟨I2.kIn, ?_⟩) hpl
  rw [hks]
  obtain ⟨g, gV, hl, kb, rp⟩ := b.ex
  have hw : ws.length = ks.length := by rw [← rz.length]; exact hz
  exact run_born M G c I2 (fun u => g [u] ws) (fun v => gV [v] zs) (fun u => hl _ _ rfl hw) (fun s' a kin => kb.to s' [.ref a] ws kin rfl hw) (fun a => kb.rel (.cons rfl .nil) rz) o2 (fun W' a l ra => rp W' _ _ _ _ rfl hz (.cons ra .nil) (r2.mono l)) (hk _) q2
end
end DL
/-! DL19: tuples and lists: + and *, tuple(..), list(..), sorted of texts. -/
namespace DL
open PySem L2 PySem.Spec PyProof.Rows
/-! ### + -/
def addX : D → D → Mu → R D := fun x y μ => match x, y with
  | .tup xs, .tup ys => if xs.length + ys.length ≤ 1000000 then .ok (.tup (xs ++ ys)) μ else .bad
  | x, y => addD x y μ
@[simp] theorem addX_int (i j : Int) (μ : Mu) : addX (.int i) (.int j) μ = .ok (.int (i + j)) μ := of_eq_true (eq_self _)
@[simp] theorem addX_str (x y : Str) (μ : Mu) : addX (.str x) (.str y) μ = if x.length + y.length ≤ 1000000 then .ok (.str (x ++ y)) μ else .bad := of_eq_true (eq_self _)
@[simp] theorem addX_lst (x y : List D) (μ : Mu) : addX (.lst x) (.lst y) μ = if x.length + y.length ≤ 1000000 then .ok (.lst (x ++ y)) μ else .bad := of_eq_true (eq_self _)
@[simp] theorem addX_tup (x y : List D) (μ : Mu) : addX (.tup x) (.tup y) μ = if x.length + y.length ≤ 1000000 then .ok (.tup (x ++ y)) μ else .bad := of_eq_true (eq_self _)
section
variable {X : Cx} {E : WX}
theorem nil_of {K : PySem.W.Frag} {W : Wd} {vs : List V} {ds : List D} (r : Reps K W vs ds) : vs = [] ↔ ds = [] := by
  cases r <;> simp
theorem opx_addX : OpX X E (binaryOp .Add) addX := by
  intro pins s σ H x y v u Q I rx ry q
  obtain ⟨E', W, μ, dx, dy, ok, r1, r2, p⟩ := q
  unfold addX at p
  split at p
  · rename_i xs ys
    split at p
    · rename_i hn
      cases r1 with
      | tup z1 h1 q1 =>
        cases r2 with
        | tup z2 h2 q2 =>
          rename_i a vs b ws
          have l1 := q1.length
          have l2 := q2.length
          refine op_catA pins s σ H _ _ v u Q I rx ry ⟨a, b, vs, ws, rfl, rfl, same_t ok.sub h1, same_t ok.sub h2, by rw [l1, l2]; exact le_line hn, fun e => ?_, fun _ e => ?_, fun _ _ q hq => ?_⟩
          · have e' := (nil_of q1).mp e
            subst e'
            exact p W _ H (Go.refl _ _) ok (.tup z2 h2 q2)
          · have e' := (nil_of q2).mp e
            subst e'
            rw [List.append_nil] at p
            exact p W _ H (Go.refl _ _) ok (.tup z1 h1 q1)
          · exact p (W.new q (.tup (vs ++ ws))) _ _ (Go.new ok hq) (ok.new hq) (rep_tup ok hq (by rw [List.length_append]; exact le_line hn) (q1.app q2))
    · exact p.elim
  · exact opx_add (E := E)  pins s σ H x y v u Q I rx ry ⟨E', W, μ, dx, dy, ok, r1, r2, p⟩
end
/-! ### * -/
/-- one factor is a number; a list or a tuple so often -/
def mulX : D → D → Mu → R D := fun x y μ => match x, y with
  | .tup xs, .int k => if k ≤ 1000 ∧ -1000 ≤ k ∧ xs.length ≤ 1000 then .ok (.tup (List.replicate k.toNat xs).flatten) μ else .bad
  | .lst xs, .int k => if k ≤ 1000 ∧ -1000 ≤ k ∧ xs.length ≤ 1000 then .ok (.lst (List.replicate k.toNat xs).flatten) μ else .bad
  | x, y => mulD x y μ
@[simp] theorem mulX_int (i j : Int) (μ : Mu) : mulX (.int i) (.int j) μ = if (-(2 ^ 64) < i ∧ i < 2 ^ 64) ∨ (-(2 ^ 64) < j ∧ j < 2 ^ 64) then .ok (.int (i * j)) μ else .bad := of_eq_true (eq_self _)
@[simp] theorem mulX_tup (xs : List D) (k : Int) (μ : Mu) : mulX (.tup xs) (.int k) μ = if k ≤ 1000 ∧ -1000 ≤ k ∧ xs.length ≤ 1000 then .ok (.tup (List.replicate k.toNat xs).flatten) μ else .bad := of_eq_true (eq_self _)
@[simp] theorem mulX_lst (xs : List D) (k : Int) (μ : Mu) : mulX (.lst xs) (.int k) μ = if k ≤ 1000 ∧ -1000 ≤ k ∧ xs.length ≤ 1000 then .ok (.lst (List.replicate k.toNat xs).flatten) μ else .bad := of_eq_true (eq_self _)
theorem tuple_mul_same (l : Addr) (items : Array Value) (n : Nat) (dd : Option Addr) (sl : Array (Option Value)) (x : Int) (u : Tok) (c0 : (decide (x < -(2 ^ 63)) || decide (x ≥ 2 ^ 63)) = false) (c1 : (items.isEmpty || x == 1) = true) :
    Meets (Builtin.«tuple.__mul__» ⟨[.ref l, .int x u], []⟩) (fun _ R s => s.heap.get? l = some { cls := .type "tuple", dict := dd, data := .seq items n, slots := sl } ∧ R (.ok (.ret (Value.ref l))) s) :=
  .of_wp fun prog w A R s h => by
    obtain ⟨hp, g, d, tk, os⟩ := s
    obtain ⟨hl, h⟩ := h
    have f1 := AutoSeq1.idx_int
    wp_walk using wpAny_loadPart' hl
    repeat (first
      | (refine wpAny_ite_false (decide_eq_false (by rw [c0]; exact Bool.false_ne_true)) ?_; wp_walk using wpAny_loadPart' hl)
      | (refine wpAny_ite_true (decide_eq_true c1) ?_; wp_walk using wpAny_loadPart' hl))
    exact ⟨_, rfl, h⟩
theorem tuple_mul_none (l : Addr) (items : Array Value) (n : Nat) (dd : Option Addr) (sl : Array (Option Value)) (x : Int) (u : Tok) (c0 : (decide (x < -(2 ^ 63)) || decide (x ≥ 2 ^ 63)) = false) (c1 : (items.isEmpty || x == 1) = false) (c2 : (decide (x ≤ 0) || items.isEmpty) = true) :
    Meets (Builtin.«tuple.__mul__» ⟨[.ref l, .int x u], []⟩) (fun _ R s => s.heap.get? l = some { cls := .type "tuple", dict := dd, data := .seq items n, slots := sl } ∧
      R (.ok (.ret (Value.ref s.heap.objs.size))) { s with heap := s.heap.push { cls := Value.type "tuple", data := Data.seq #[] }, toks := s.toks }) :=
  .of_wp fun prog w A R s h => by
    obtain ⟨hp, g, d, tk, os⟩ := s
    obtain ⟨hl, h⟩ := h
    have f1 := AutoSeq1.idx_int
    wp_walk using wpAny_loadPart' hl
    repeat (first
      | (refine wpAny_ite_false (decide_eq_false (by rw [c0]; exact Bool.false_ne_true)) ?_; wp_walk using wpAny_loadPart' hl)
      | (refine wpAny_ite_false (decide_eq_false (by rw [c1]; exact Bool.false_ne_true)) ?_; wp_walk using wpAny_loadPart' hl)
      | (refine wpAny_ite_true (decide_eq_true c2) ?_; wp_walk using wpAny_loadPart' hl))
    exact ⟨_, rfl, h⟩
theorem Reps.rep {K : PySem.W.Frag} {W : Wd} {vs : List V} {ds : List D} (r : Reps K W vs ds) : ∀ n : Nat, Reps K W (List.replicate n vs).flatten (List.replicate n ds).flatten
  | 0 => .nil
  | n + 1 => by
    rw [List.replicate_succ, List.replicate_succ, List.flatten_cons, List.flatten_cons]
    exact r.app (Reps.rep r n)
theorem rep_len {α : Type} (xs : List α) (n : Nat) : (List.replicate n xs).flatten.length = n * xs.length := by
  induction n with
  | zero => simp
  | succ n ih => rw [List.replicate_succ, List.flatten_cons, List.length_append, ih, Nat.succ_mul, Nat.add_comm]
section
variable {X : Cx} {E : WX}
theorem rep_small {k : Int} {n : Nat} (h1 : k ≤ 1000) (h3 : n ≤ 1000) : k.toNat * n ≤ 1000000 := by
  have a1 : k.toNat * n ≤ 1000 * 1000 := Nat.mul_le_mul (by omega) h3
  omega
theorem opx_mulT : OpX X E (binaryOp .Mult) (fun x y μ => match x, y with
  | .tup xs, .int k => if k ≤ 1000 ∧ -1000 ≤ k ∧ xs.length ≤ 1000 then .ok (.tup (List.replicate k.toNat xs).flatten) μ else .bad
  | _, _ => .bad) := by
  intro pins s σ H x y v u Q I rx ry q
  obtain ⟨E', W, μ, dx, dy, ok, r1, r2, p⟩ := q
  dsimp only at p
  split at p
  · rename_i xs k
    split at p
    · rename_i hn
      obtain ⟨h1, h2, h3⟩ := hn
      cases r1 with
      | tup z1 ht q1 =>
        rename_i l vs
        cases r2
        have lv := q1.length
        have hT := same_t ok.sub ht
        by_cases hne : vs = []
        · have e := (nil_of q1).mp hne
          subst e
          cases rx
          obtain ⟨t, rfl⟩ := ry
          obtain ⟨its, r, ⟨⟨cls, dd, data, sl⟩, ho, hc, n, hd⟩, hs⟩ := I.tuple hT
          simp only at hc hd
          subst hc hd
          have hi : its = [] := by
            rw [hne] at r
            cases r
            rfl
          refine wpAny_binaryOp_repeat_ref (T := "tuple") (U := "int") (by decide) ⟨_, ho, rfl⟩ (fun s' => typeIs_int s' k t) noFill_tuple_mul F.fills_int_mul F.slot_int_rmul repeat_tuple F.slot_int_index.lookup
            (call_meets F.slot_int_rmul (typeIs_int s k t) F.entry_int_rmul (F.args_int_rmul_2 _ _) (int_rmul_tuple k t l its.toArray n dd sl)
              ⟨ho, rfl, ⟨_, ho, rfl⟩, call_meets F.slot_tuple_mul ⟨_, ho, rfl⟩ F.entry_tuple_mul (F.args_tuple_mul_2 _ _) (tuple_mul_same l its.toArray n dd sl k t (by rw [decide_eq_false (by omega), decide_eq_false (by omega)] <;> rfl) (by rw [hi]; rfl)) ⟨ho, ?_⟩⟩)
          have ef : (List.replicate k.toNat ([] : List D)).flatten = [] := by simp
          rw [ef] at p
          exact ⟨.ref l, H, I, rfl, p W _ H (Go.refl _ _) ok (.tup z1 ht q1)⟩
        · by_cases hk1 : k = 1
          · subst hk1
            cases rx
            obtain ⟨t, rfl⟩ := ry
            obtain ⟨its, r, ⟨⟨cls, dd, data, sl⟩, ho, hc, n, hd⟩, hs⟩ := I.tuple hT
            simp only at hc hd
            subst hc hd
            refine wpAny_binaryOp_repeat_ref (T := "tuple") (U := "int") (by decide) ⟨_, ho, rfl⟩ (fun s' => typeIs_int s' 1 t) noFill_tuple_mul F.fills_int_mul F.slot_int_rmul repeat_tuple F.slot_int_index.lookup
              (call_meets F.slot_int_rmul (typeIs_int s 1 t) F.entry_int_rmul (F.args_int_rmul_2 _ _) (int_rmul_tuple 1 t l its.toArray n dd sl)
                ⟨ho, rfl, ⟨_, ho, rfl⟩, call_meets F.slot_tuple_mul ⟨_, ho, rfl⟩ F.entry_tuple_mul (F.args_tuple_mul_2 _ _) (tuple_mul_same l its.toArray n dd sl 1 t (by rw [decide_eq_false (by omega), decide_eq_false (by omega)] <;> rfl) (by rw [beq_self_eq_true, Bool.or_true])) ⟨ho, ?_⟩⟩)
            have ef : (List.replicate (Int.toNat 1) xs).flatten = xs := by simp
            rw [ef] at p
            exact ⟨.ref l, H, I, rfl, p W _ H (Go.refl _ _) ok (.tup z1 ht q1)⟩
          · by_cases hk0 : k ≤ 0
            · cases rx
              obtain ⟨t, rfl⟩ := ry
              obtain ⟨its, r, ⟨⟨cls, dd, data, sl⟩, ho, hc, n, hd⟩, hs⟩ := I.tuple hT
              simp only at hc hd
              subst hc hd
              have hi : its.toArray.isEmpty = false := by
                cases its with
                | nil => cases r; exact absurd rfl hne
                | cons a b => rfl
              refine wpAny_binaryOp_repeat_ref (T := "tuple") (U := "int") (by decide) ⟨_, ho, rfl⟩ (fun s' => typeIs_int s' k t) noFill_tuple_mul F.fills_int_mul F.slot_int_rmul repeat_tuple F.slot_int_index.lookup
                (call_meets F.slot_int_rmul (typeIs_int s k t) F.entry_int_rmul (F.args_int_rmul_2 _ _) (int_rmul_tuple k t l its.toArray n dd sl)
                  ⟨ho, rfl, ⟨_, ho, rfl⟩, call_meets F.slot_tuple_mul ⟨_, ho, rfl⟩ F.entry_tuple_mul (F.args_tuple_mul_2 _ _) (tuple_mul_none l its.toArray n dd sl k t (by rw [decide_eq_false (by omega), decide_eq_false (by omega)] <;> rfl) (by rw [hi, Bool.false_or]; exact beq_eq_false_iff_ne.mpr hk1) (by rw [decide_eq_true hk0]; rfl)) ⟨ho, ?_⟩⟩)
              have ef : (List.replicate k.toNat xs).flatten = [] := by
                have : k.toNat = 0 := by omega
                rw [this]
                rfl
              rw [ef] at p
              have hf := I.hok.fresh (Nat.le_refl s.heap.objs.size)
              refine ⟨.ref s.heap.objs.size, upd H s.heap.objs.size (.tup []), I.laid (t' := s.toks) (o := .tup []) (fun b ob q => Heap.get?_push_of_some _ q) (Nat.le_refl _) ?_, rfl, p (W.new _ (.tup [])) _ _ (Go.new ok hf) (ok.new hf) (rep_tup ok hf (Nat.zero_le _) .nil)⟩
              exact ⟨Nat.zero_le _, [], .nil, IsTup.new _ _⟩
            · refine op_repT pins s σ H _ _ v u Q I rx ry ⟨l, k, vs, rfl, rfl, hT, hne, by omega, h1, by rw [lv]; exact h3, fun q hq => ?_⟩
              exact p (W.new q (.tup _)) _ _ (Go.new ok hq) (ok.new hq) (rep_tup ok hq (by rw [rep_len]; exact le_line (rep_small h1 h3)) (q1.rep _))
    · exact p.elim
  · exact p.elim
end
section
variable {X : Cx} {E : WX}
theorem opx_mulL : OpX X E (binaryOp .Mult) (fun x y μ => match x, y with
  | .lst xs, .int k => if k ≤ 1000 ∧ -1000 ≤ k ∧ xs.length ≤ 1000 then .ok (.lst (List.replicate k.toNat xs).flatten) μ else .bad
  | _, _ => .bad) := by
  intro pins s σ H x y v u Q I rx ry q
  obtain ⟨E', W, μ, dx, dy, ok, r1, r2, p⟩ := q
  dsimp only at p
  split at p
  · rename_i xs k
    split at p
    · rename_i hn
      obtain ⟨h1, h2, h3⟩ := hn
      cases r1 with
      | lst z1 ht q1 =>
        rename_i l vs
        cases r2
        have lv := q1.length
        cases rx
        obtain ⟨t, rfl⟩ := ry
        obtain ⟨its, n, r, e⟩ := (same_lq ok.sub ht).isL I
        have hl := r.length
        have hz : vs.length * k.toNat ≤ sizeLine := by
          rw [lv, Nat.mul_comm]
          exact le_line (rep_small h1 h3)
        have hlen : its.toArray.size * k.toNat ≤ sizeLine := by rw [List.size_toArray, ← hl]; exact hz
        have hcap : ¬ its.toArray.size * k.toNat > (2 ^ 63 - 1) / 8 := by
          have : (sizeLine : Nat) ≤ (2 ^ 63 - 1) / 8 := by decide
          omega
        have hfit : ¬ (!Builtin.List.listFitsIndex k) = true := by
          rw [fitsIndex_both (by omega) (by omega)]
          exact Bool.false_ne_true
        have hlong : ¬ Builtin.List.listTooLong (its.toArray.size * k.toNat) = true := by
          rw [notLongL hlen]
          exact Bool.false_ne_true
        have hnew : List.foldl (fun x1 x2 => x1 ++ x2) #[] (List.replicate (if its.toArray.isEmpty = true then 0 else k.toNat) its.toArray) = (List.replicate k.toNat its).flatten.toArray := by
          rw [size_rep]
          cases its with
          | nil => simp
          | cons a r' => rw [if_neg (by simp)]
        refine wpAny_binaryOp_repeat_ref (T := "list") (U := "int") (by decide) ⟨_, e, rfl⟩ (fun s' => typeIs_int s' k t) noFill_list_mul F.fills_int_mul F.slot_int_rmul repeat_list F.slot_int_index.lookup
          (call_meets F.slot_int_rmul (typeIs_int s k t) F.entry_int_rmul (F.args_int_rmul_2 _ _) (int___rmul___int_list k t l its.toArray n)
            ⟨e, rfl, ⟨_, e, rfl⟩, call_meets F.slot_list_mul ⟨_, e, rfl⟩ F.entry_list_mul (F.args_list_mul_2 _ _) (AutoListH.list___mul___list_int_3 l its.toArray n k t hfit hcap hlong) ⟨e, ?_⟩⟩)
        rw [hnew]
        refine ⟨.ref _, _, I.lnew (t' := s.toks) (r.rep k.toNat) (by rw [PyProof.Rows.lm_len_rep_flat, Nat.mul_comm]; exact hz), rfl, ?_⟩
        have hq := I.fresh
        exact p (W.new _ (.lst _)) _ _ (Go.new ok hq) (ok.new hq) (rep_lst ok hq (by rw [rep_len]; exact le_line (rep_small h1 h3)) (q1.rep _))
    · exact p.elim
  · exact p.elim
theorem opx_mulX : OpX X E (binaryOp .Mult) mulX := by
  intro pins s σ H x y v u Q I rx ry q
  obtain ⟨E', W, μ, dx, dy, ok, r1, r2, p⟩ := q
  unfold mulX at p
  split at p
  · exact opx_mulT (E := E) pins s σ H x y v u Q I rx ry ⟨E', W, μ, _, _, ok, r1, r2, p⟩
  · exact opx_mulL (E := E) pins s σ H x y v u Q I rx ry ⟨E', W, μ, _, _, ok, r1, r2, p⟩
  · exact opx_mul (E := E)  pins s σ H x y v u Q I rx ry ⟨E', W, μ, dx, dy, ok, r1, r2, p⟩
end
/-! ### tuple(..), list(..), sorted(..), str(..) -/
def bTuple : List D → Mu → R D
  | [.lst xs], μ => .ok (.tup xs) μ
  | [.tup xs], μ => .ok (.tup xs) μ
  | _, _ => .bad
def bList : List D → Mu → R D
  | [.lst xs], μ => .ok (.lst xs) μ
  | [.tup xs], μ => .ok (.lst xs) μ
  | _, _ => .bad
@[simp] theorem tuple_lst (xs : List D) (μ : Mu) : bTuple [.lst xs] μ = .ok (.tup xs) μ := of_eq_true (eq_self _)
@[simp] theorem tuple_tup (xs : List D) (μ : Mu) : bTuple [.tup xs] μ = .ok (.tup xs) μ := of_eq_true (eq_self _)
@[simp] theorem list_lst (xs : List D) (μ : Mu) : bList [.lst xs] μ = .ok (.lst xs) μ := of_eq_true (eq_self _)
@[simp] theorem list_tup (xs : List D) (μ : Mu) : bList [.tup xs] μ = .ok (.lst xs) μ := of_eq_true (eq_self _)
/-- texts in order -/
def insS (x : Str) : List Str → List Str
  | [] => [x]
  | y :: ys => if strLt y x = true then y :: insS x ys else x :: y :: ys
def srtS : List Str → List Str
  | [] => []
  | x :: xs => insS x (srtS xs)
def bSorted : List D → Mu → R D
  | [.lst ds], μ => match strsD ds with
    | some xs => if xs.length < 64 then .ok (.lst ((srtS xs).map .str)) μ else .bad
    | none => .bad
  | _, _ => .bad
def bStr : List D → Mu → R D
  | [.int i], μ => if i.natAbs.log2 < 1920 ∧ (toString i : Str).length ≤ 1000000 then .ok (.str (toString i)) μ else .bad
  | [.str x], μ => .ok (.str x) μ
  | _, _ => .bad
section
variable {X : Cx} {E : WX}
theorem cx_tuple : CallX X E (.type "tuple") bTuple := callx fun W H μ ds xs Q ok r p => by
  unfold bTuple at p
  split at p
  · cases r with
    | cons r1 r2 =>
      cases r2
      cases r1 with
      | lst z h q =>
        exact ⟨_, call_tuple_of, _, _, rfl, .inl ⟨(same_lq ok.sub h).sq, fun l hl => p _ _ _ (Go.new ok hl) (ok.new hl) (rep_tup ok hl z q)⟩⟩
  · cases r with
    | cons r1 r2 =>
      cases r2
      cases r1 with
      | tup z h q => exact ⟨_, call_tuple_of, _, _, rfl, .inr ⟨same_t ok.sub h, p W _ H (Go.refl _ _) ok (.tup z h q)⟩⟩
  · exact p.elim
theorem cx_list : CallX X E (.type "list") bList := callx fun W H μ ds xs Q ok r p => by
  unfold bList at p
  split at p
  · cases r with
    | cons r1 r2 =>
      cases r2
      cases r1 with
      | lst z h q => exact ⟨_, call_list_of, _, _, rfl, .inl (same_lq ok.sub h).sq, fun l hl => p _ _ _ (Go.new ok hl) (ok.new hl) (rep_lst ok hl z q)⟩
  · cases r with
    | cons r1 r2 =>
      cases r2
      cases r1 with
      | tup z h q => exact ⟨_, call_list_of, _, _, rfl, .inr (same_t ok.sub h), fun l hl => p _ _ _ (Go.new ok hl) (ok.new hl) (rep_lst ok hl z q)⟩
  · exact p.elim
theorem cx_str : CallX X E (.type "str") bStr := callx fun W H μ ds xs Q ok r p => by
  unfold bStr at p
  split at p
  · rename_i i
    split at p
    · rename_i h
      cases r with
      | cons r1 r2 =>
        cases r2
        cases r1
        exact ⟨_, call_str_int, _, rfl, h.1, post_pure ok p (.str _ (le_line h.2))⟩
    · exact p.elim
  · cases r with
    | cons r1 r2 =>
      cases r2
      cases r1 with
      | str x z => exact ⟨_, SkE.call_str_str, _, rfl, post_pure ok p (.str _ z)⟩
  · exact p.elim
/-! sorted -/
abbrev leS (x y : Str) : Prop := x.cps.toList ≤ y.cps.toList
theorem leS_of {x y : Str} (h : strLt y x = false) : leS x y := List.not_lt.mp (of_decide_eq_false h)
theorem leS_lt {x y : Str} (h : strLt x y = true) : leS x y := by
  rcases List.le_total x.cps.toList y.cps.toList with z | z
  · exact z
  · exact absurd (of_decide_eq_true h) (List.not_lt.mpr z)
theorem leS_trans {x y z : Str} (a : leS x y) (b : leS y z) : leS x z := List.le_trans a b
theorem leS_anti {x y : Str} (a : leS x y) (b : leS y x) : x = y := by
  have e := List.le_antisymm a b
  cases x
  cases y
  simpa using e
theorem rising_pw : ∀ (ys : List Str) (p : Str), risingS p ys = true → (p :: ys).Pairwise leS
  | [], p, _ => by simp
  | y :: ys, p, h => by
    unfold risingS at h
    rw [Bool.and_eq_true, Bool.not_eq_true', ltCps_eq] at h
    have ih := rising_pw ys y h.2
    have hy : leS p y := leS_of h.1
    refine List.pairwise_cons.mpr ⟨fun z hz => ?_, ih⟩
    rcases List.mem_cons.mp hz with e | hz'
    · rw [e]; exact hy
    · exact leS_trans hy ((List.pairwise_cons.mp ih).1 z hz')
theorem sortedS_pw {ys : List Str} (h : sortedS ys = true) : ys.Pairwise leS := by
  cases ys with
  | nil => exact .nil
  | cons y ys => exact rising_pw ys y h
theorem insS_perm (x : Str) : ∀ ys : List Str, (insS x ys).Perm (x :: ys)
  | [] => List.Perm.refl _
  | y :: ys => by
    unfold insS
    split
    · exact ((insS_perm x ys).cons y).trans (List.Perm.swap x y ys)
    · exact List.Perm.refl _
theorem srtS_perm : ∀ xs : List Str, (srtS xs).Perm xs
  | [] => List.Perm.refl _
  | x :: xs => (insS_perm x _).trans ((srtS_perm xs).cons x)
theorem insS_pw (x : Str) : ∀ {ys : List Str}, ys.Pairwise leS → (insS x ys).Pairwise leS
  | [], _ => by simp [insS]
  | y :: ys, h => by
    have hh := List.pairwise_cons.mp h
    unfold insS
    split
    · rename_i hl
      refine List.pairwise_cons.mpr ⟨fun z hz => ?_, insS_pw x hh.2⟩
      rcases List.mem_cons.mp ((insS_perm x ys).mem_iff.mp hz) with e | hz'
      · rw [e]; exact leS_lt hl
      · exact hh.1 z hz'
    · rename_i hl
      have hxy : leS x y := leS_of (by simpa using hl)
      refine List.pairwise_cons.mpr ⟨fun z hz => ?_, h⟩
      rcases List.mem_cons.mp hz with e | hz'
      · rw [e]; exact hxy
      · exact leS_trans hxy (hh.1 z hz')
theorem srtS_pw : ∀ xs : List Str, (srtS xs).Pairwise leS
  | [] => .nil
  | x :: xs => insS_pw x (srtS_pw xs)
theorem srtS_uniq {xs ys : List Str} (p : ys.Perm xs) (h : sortedS ys = true) : ys = srtS xs :=
  List.Perm.eq_of_pairwise (fun a b _ _ h1 h2 => leS_anti h1 h2) (sortedS_pw h) (srtS_pw xs) (p.trans (srtS_perm xs).symm)
theorem strs_bound {K : PySem.W.Frag} {W : Wd} : ∀ {vs : List V} {ds : List D} {ys : List Str}, Reps K W vs ds → strsD ds = some ys → ∀ y ∈ ys, y.length ≤ sizeLine
  | _, _, _, .nil, h => by
    simp [strsD] at h
    subst h
    exact fun y hy => nomatch hy
  | _, _, _, .cons (d := d) (ds := ds) r rs, h => by
    cases d with
    | str x =>
      cases r with
      | str _ z =>
        unfold strsD at h
        cases e : strsD ds with
        | none => rw [e] at h; exact nomatch h
        | some cs =>
          rw [e] at h
          cases h
          intro y hy
          rcases List.mem_cons.mp hy with q | q
          · rw [q]; exact z
          · exact strs_bound rs e y q
    | _ => simp [strsD] at h
theorem cx_sorted : CallX X E (.builtin "sorted") bSorted := callx fun W H μ ds xs Q ok r p => by
  unfold bSorted at p
  split at p
  · rename_i es
    split at p
    · rename_i ys hy
      split at p
      · rename_i hn
        cases r with
        | cons r1 r2 =>
          cases r2
          cases r1 with
          | lst z h q =>
            have b := strs_bound q hy
            have e := strsD_rep q hy
            subst e
            refine ⟨_, cr_sortedS, _, ys, rfl, (same_lq ok.sub h).sq, hn, fun zs l pm so hl => ?_⟩
            have ez := srtS_uniq pm so
            subst ez
            have hlz : (srtS ys).length = ys.length := (srtS_perm ys).length_eq
            exact p _ _ _ (Go.new ok hl) (ok.new hl) (rep_lst ok hl (by rw [List.length_map, hlz]; exact le_line (by omega)) (strs_reps fun y m => b y ((srtS_perm ys).mem_iff.mp m)))
      · exact p.elim
    · exact p.elim
  · exact p.elim
end
end DL
/-! DL20: defs as values, isinstance of own classes, zip, != of data. -/
namespace DL
open PySem L2 PySem.Spec PyProof.Rows
/-! ### a def held by a name -/
def dfn (c : Nat) : D := .glo c
/-- the slot i holds the def at f -/
def isFn (i c : Nat) (ρ : En) : Bool := match ρ[i]? with
  | some (some (.glo g)) => decide (g = c)
  | _ => false
def dcallL (i n : Nat) (F : List D → Mu → R D) (dd : List D) (fa : FA) : FE := fun ρ μ => if isFn i n ρ = true then (fa ρ μ).bind fun ds μ1 => F (ds ++ dd) μ1 else .bad
@[simp] theorem ap_callL (i n : Nat) (F : List D → Mu → R D) (dd : List D) (fa : FA) (ρ : En) (μ : Mu) : dcallL i n F dd fa ρ μ = if isFn i n ρ = true then (fa ρ μ).bind fun ds μ1 => F (ds ++ dd) μ1 else .bad := of_eq_true (eq_self _)
/-- one of two readings, chosen by the names -/
def dchoose (c : En → Bool) (f g : FE) : FE := fun ρ μ => if c ρ = true then f ρ μ else g ρ μ
@[simp] theorem ap_choose (c : En → Bool) (f g : FE) (ρ : En) (μ : Mu) : dchoose c f g ρ μ = if c ρ = true then f ρ μ else g ρ μ := of_eq_true (eq_self _)
section
variable {X : Cx} {E : WX} {k i n : Nat} {f : Addr} {fd : FuncData} {ps : List Str} {F : List D → Mu → R D} {dd : List D} {x : Str} {p pos : Pos} {e : Expr} {es : List Expr} {fa : FA} {fe ge : FE} {c : En → Bool}
theorem de_choose (h1 : DE X E e fe) (h2 : DE X E e ge) : DE X E e (dchoose c fe ge) := ⟨fun pins s σ H Q I q => by
  obtain ⟨W, ρ, μ, ok, en, pq⟩ := q
  unfold dchoose at pq
  by_cases hc : c ρ = true
  · rw [if_pos hc] at pq
    exact h1.run pins s σ H Q I ⟨W, ρ, μ, ok, en, pq⟩
  · rw [if_neg hc] at pq
    exact h2.run pins s σ H Q I ⟨W, ρ, μ, ok, en, pq⟩⟩
theorem de_fn (n : Nat) (hm : X.mg x = some (.ref (cl X.K n))) (hg : Gl X x := by rfl) (hd : (x == ("__debug__" : Str)) = false := by decide) : DE X E (.Name x pos) (dc (dfn n)) := de_glob (v := .ref (cl X.K n)) hm rfl (fun _ => .glo _) hg hd
theorem de_callL (n : Nat) (hfn : f = cl X.K n) (G : FnG X.prog X.w X.K X.mg X.base k f fd ps F) (c : Cal X E k) (i : Nat) (hk : PySem.W.keepIn X.K (.ref f) = true) (b : Dfl X.K fd ps (e :: es).length dd) (ha : DA X E (e :: es) fa)
    (hN : X.N[i]? = some x := by rfl) (hv : Vis X.env.scope x := by first | exact Or.inl rfl | exact Or.inr (Or.inl rfl) | exact Or.inr (Or.inr rfl))
    (hf : HasLen fa (e :: es).length := by repeat (first | exact aNil_len | refine aCons_len ?_)) (hdb : (x == ("__debug__" : Str)) = false := by decide) (hcd : (x == ("__classdict__" : Str)) = false := by decide)
    (he : starEach (e :: es) X.env = (false, eval e X.env) :: starEach es X.env := by rfl) (hpl : (backTo pos (starEach es X.env)).any (·.1) = false := by rfl) :
    DE X E (.Call (.Name x p) (e :: es) [] pos) (dcallL i n F dd fa) := by
  subst hfn
  refine ⟨fun pins s σ H Q I q => ?_⟩
  obtain ⟨W, ρ, μ, ok, en, pq⟩ := q
  unfold dcallL at pq
  by_cases hq : isFn i n ρ = true
  · rw [if_pos hq] at pq
    have hs : σ[i]? = some (some (.ref (cl X.K n))) := by
      unfold isFn at hq
      split at hq
      · rename_i g hr
        have eg := of_decide_eq_true hq
        subst eg
        obtain ⟨v, hv, rv⟩ := en.at_ i _ hr
        cases rv
        exact hv
      · cases hq
    refine wpAny_Call_Name_kw (thn ((pe_var (pos := p) hN hv hdb hcd).run pins s σ H (fun v H1 => v = .ref (cl X.K n) ∧ H1 = H) I ⟨.ref (cl X.K n), hs, rfl, rfl⟩) fun u s1 ⟨v, H1, I1, r1, q1⟩ => ?_)
    obtain ⟨rfl, rfl⟩ := q1
    cases r1
    have rd : rA X.K E fa σ H1 (fun vs H1 => ∃ W1 ds μ1, vs.length = (e :: es).length ∧ Ok X.K W1 H1 μ1 ∧ Reps X.K W1 vs ds ∧ postE X.K (WE E σ) W1 H1 (F (ds ++ dd) μ1) Q) := by
      refine ⟨W, ρ, μ, ok, en, ?_⟩
      revert pq
      cases hq : fa ρ μ with
      | ok ds μ1 => exact fun p W1 xs H1 g o r => ⟨W1, ds, μ1, by rw [r.length]; exact hf ρ μ ds μ1 hq, o, r, post.mono g p⟩
      | ex c fs μ1 => exact fun p => p
      | bad => exact fun p => p
    refine PySem.W.callWith_K (h₀ := X.base) I.ok.mod.kin hk (thn (ha.run pos pins s1 σ _ _ I1 rd) fun us s2 ⟨vs, H2, I2, r, W1, ds, μ1, hn, o1, r1, q1⟩ => ⟨I2.kIn, ?_⟩) he hpl
    exact callF_args G c b I2 (show us.length = _ by rw [← r.length]; exact hn) r o1 r1 q1
  · rw [if_neg hq] at pq
    exact pq.elim
end
/-! ### isinstance of own classes -/
/-- a class whose instances isinstance may be asked about -/
structure IsC (K : PySem.W.Frag) (C : Addr) : Prop where
  cl : Cls K C
  ha : PySem.W.findIn K (.ref C) "__class__" = some (some (.builtin "object.__class__"))
  hn : PySem.W.specialIn K (.builtin "object.__class__") "__get__" = some (some (.builtin "getset_descriptor.__get__"))
  ht : PySem.W.takesIn K (.builtin "object.__class__") = some true
  hm : PySem.W.mroIn K C (.type "object") = some true
/-- a type: an own class, a built-in one -/
inductive Ty where
  | own (C : Nat) | blt (t : String)
  deriving DecidableEq
def Ty.val (K : PySem.W.Frag) : Ty → Value
  | .own C => .ref (cl K C)
  | .blt t => .type t
def tyV (μ : Mu) (d : D) : Option Ty := match insD μ d with
  | some (C, _) => some (.own C)
  | none => (tyName μ d).map .blt
/-- the same class: both an own one, both a built-in one -/
def sameC : D → D → Bool
  | .glo a, .glo b => decide (a = b)
  | .cst (.ty a), .cst (.ty b) => decide (a = b)
  | _, _ => false
/-- isinstance(x, c): cs, the own classes that x may be of; kt, what is known of c -/
def isiO (cs : List Nat) (kt : Ty → Option Bool) (d : D) (μ : Mu) : Option Bool := match tyV μ d with
  | some t => match kt t with
    | some b => (match t with
      | .own C => if C ∈ cs then some b else none
      | _ => some b)
    | none => none
  | none => none
def bIsiO (c : D) (cs : List Nat) (kt : Ty → Option Bool) : List D → Mu → R D
  | [d, c'], μ => if sameC c' c = true then R.of ((isiO cs kt d μ).map .bl) μ else .bad
  | _, _ => .bad
@[simp] theorem isiO_ap (c : Nat) (cs : List Nat) (kt : Ty → Option Bool) (d : D) (μ : Mu) : bIsiO (.glo c) cs kt [d, .glo c] μ = R.of ((isiO cs kt d μ).map .bl) μ := by
  unfold bIsiO
  simp [sameC]
/-- what is known of a class: which types are of it, which are not -/
def ktL (yes no : List Ty) : Ty → Option Bool := fun t => if t ∈ yes then some true else if t ∈ no then some false else none
def Ty.d : Ty → D
  | .own C => .glo C
  | .blt t => .cst (.ty t)
theorem cx_isiO {X : Cx} {E : WX} {cs : List Nat} {kt : Ty → Option Bool} (c : Ty) (hcs : ∀ C ∈ cs, IsC X.K (cl X.K C)) (hk : ∀ t b, kt t = some b → PySem.W.kitOne X.K (t.val X.K) (c.val X.K) = some b) : CallX X E (.builtin "isinstance") (bIsiO c.d cs kt) := callx fun W H μ ds xs Q ok r p => by
  unfold bIsiO at p
  split at p
  · rename_i d c'
    split at p
    · rename_i ec
      cases r with
      | cons r1 r2 =>
        cases r2 with
        | cons r2 r3 =>
          cases r3
          rename_i v1 v2
          have hcv : ClsV v2 (c.val X.K) := by
            cases c with
            | own C =>
              unfold sameC Ty.d at ec
              cases c' <;> simp at ec
              subst ec
              cases r2
              exact .own _
            | blt t =>
              unfold sameC Ty.d at ec
              cases c' <;> simp at ec
              rename_i w
              cases w <;> simp at ec
              subst ec
              cases r2
              exact .ty _
          cases hi0 : isiO cs kt d μ with
          | none => rw [hi0] at p; exact p.elim
          | some b =>
            rw [hi0] at p
            have q : Q (.bl b) H := post_pure ok p (.bl b)
            unfold isiO at hi0
            split at hi0
            · rename_i t ht
              split at hi0
              · rename_i b' hb
                have ty : TyX X.K H v1 (t.val X.K) ∧ b' = b := by
                  unfold tyV at ht
                  cases hi : insD μ d with
                  | none =>
                    rw [hi] at ht
                    cases hn : tyName μ d with
                    | none => rw [hn] at ht; cases ht
                    | some n =>
                      rw [hn] at ht
                      cases ht
                      exact ⟨tyName_rep ok r1 hn, Option.some.inj hi0⟩
                  | some z =>
                    obtain ⟨C, fs⟩ := z
                    rw [hi] at ht
                    cases ht
                    dsimp only at hi0
                    split at hi0
                    · rename_i hC
                      obtain ⟨a, dx, ns, vs, ds, rfl, ha, _, _⟩ := ins_rep ok r1 hi
                      have K := hcs C hC
                      exact ⟨.base (.ins ha K.cl K.ha K.hn K.ht K.hm), Option.some.inj hi0⟩
                    · cases hi0
                obtain ⟨ty, rfl⟩ := ty
                exact ⟨_, call_isi, v1, v2, t.val X.K, c.val X.K, b', rfl, hcv, ty, hk t b' hb, q⟩
              · cases hi0
            · cases hi0
    · exact p.elim
  · exact p.elim
/-! ### zip -/
def zipD (xs ys : List D) : List D := (xs.zip ys).map fun q => .tup [q.1, q.2]
def itZ (f : FA) : FA := fun ρ μ => (f ρ μ).bind fun ds μ1 => match ds with
  | [.lst xs, .lst ys] => .ok (zipD xs ys) μ1
  | [.tup xs, .tup ys] => .ok (zipD xs ys) μ1
  | _ => .bad
@[simp] theorem ap_itZ (f : FA) (ρ : En) (μ : Mu) : itZ f ρ μ = (f ρ μ).bind fun ds μ1 => match ds with
  | [.lst xs, .lst ys] => .ok (zipD xs ys) μ1
  | [.tup xs, .tup ys] => .ok (zipD xs ys) μ1
  | _ => .bad := of_eq_true (eq_self _)
theorem zipD_len (xs ys : List D) : (zipD xs ys).length = min xs.length ys.length := by simp [zipD]
theorem zipD_get {xs ys : List D} {i : Nat} {x y : D} (hx : xs[i]? = some x) (hy : ys[i]? = some y) : (zipD xs ys)[i]? = some (.tup [x, y]) := by
  unfold zipD
  have e : (xs.zip ys)[i]? = some (x, y) := List.getElem?_zip_eq_some.mpr ⟨hx, hy⟩
  rw [List.getElem?_map, e]
  rfl
section
variable {K : PySem.W.Frag} {W : Wd} {a b : Addr} {vs ws : List V} {xs ys : List D}
theorem walk_zipL (z : xs.length ≤ sizeLine) (h1 : SqL K W.S a vs) (r1 : Reps K W vs xs) (h2 : SqL K W.S b ws) (r2 : Reps K W ws ys) : Walk K W (Itz K a b) (zipD xs ys) := by
  have l1 := r1.length
  have l2 := r2.length
  refine ⟨by rw [zipD_len]; omega, fun H i s hi => ?_, fun H i s hi => ⟨vs, ws, same_l s h1, same_l s h2, by rw [zipD_len] at hi; omega⟩, fun H i x H' s y d e W1 μ le ok => ?_⟩
  · rw [zipD_len] at hi
    obtain ⟨v, e, _⟩ := r1.get (List.getElem?_eq_getElem (show i < xs.length by omega))
    obtain ⟨w, e2, _⟩ := r2.get (List.getElem?_eq_getElem (show i < ys.length by omega))
    exact ⟨vs, ws, v, w, same_l s h1, same_l s h2, e, e2⟩
  · obtain ⟨T, xv, yv, rfl, hT, rfl, q1, q2⟩ := y
    obtain ⟨xd, e3, r3⟩ := r1.getV (q1 vs (same_l s h1))
    obtain ⟨yd, e4, r4⟩ := r2.getV (q2 ws (same_l s h2))
    rw [zipD_get e3 e4] at e
    cases e
    exact ⟨W1.new T (.tup [xv, yv]), Go.new ok hT, ok.new hT, rep_tup ok hT (by show 2 ≤ sizeLine; decide) (.cons (r3.mono le) (.cons (r4.mono le) .nil))⟩
theorem walk_zipT (z : xs.length ≤ sizeLine) (h1 : SqT K W.S a vs) (r1 : Reps K W vs xs) (h2 : SqT K W.S b ws) (r2 : Reps K W ws ys) : Walk K W (RZ.ItzT K a b) (zipD xs ys) := by
  have l1 := r1.length
  have l2 := r2.length
  refine ⟨by rw [zipD_len]; omega, fun H i s hi => ?_, fun H i s hi => ⟨vs, ws, same_t s h1, same_t s h2, by rw [zipD_len] at hi; omega⟩, fun H i x H' s y d e W1 μ le ok => ?_⟩
  · rw [zipD_len] at hi
    obtain ⟨v, e, _⟩ := r1.get (List.getElem?_eq_getElem (show i < xs.length by omega))
    obtain ⟨w, e2, _⟩ := r2.get (List.getElem?_eq_getElem (show i < ys.length by omega))
    exact ⟨vs, ws, v, w, same_t s h1, same_t s h2, e, e2⟩
  · obtain ⟨T, xv, yv, rfl, hT, rfl, q1, q2⟩ := y
    obtain ⟨xd, e3, r3⟩ := r1.getV (q1 vs (same_t s h1))
    obtain ⟨yd, e4, r4⟩ := r2.getV (q2 ws (same_t s h2))
    rw [zipD_get e3 e4] at e
    cases e
    exact ⟨W1.new T (.tup [xv, yv]), Go.new ok hT, ok.new hT, rep_tup ok hT (by show 2 ≤ sizeLine; decide) (.cons (r3.mono le) (.cons (r4.mono le) .nil))⟩
end
theorem di_zip {X : Cx} {E : WX} {e e2 : Expr} {fa : FA} {p pos tpos : Pos} {elts : List Expr} {kk : Nat} (hm : X.mg "zip" = none) (ha : DA X E [e, e2] fa) (hg : Gl X "zip" := by rfl) (hs : starEach [e, e2] X.env = (false, eval e X.env) :: starEach [e2] X.env := by rfl) (hpl : (backTo pos (starEach [e2] X.env)).any (·.1) = false := by rfl) :
    DI X E (.Tuple elts kk tpos) (.Call (.Name "zip" p) [e, e2] [] pos) (itZ fa) := by
  refine pi_imp (RZ.pi_zipA hg hm ha hs hpl) fun σ H Q ⟨W, ρ, μ, ok, en, p⟩ => ?_
  refine ⟨W, ρ, μ, ok, en, ?_⟩
  unfold itZ at p
  revert p
  cases fa ρ μ with
  | ex c fs μ1 => exact fun p => p
  | bad => exact fun p => p.elim
  | ok ds μ1 =>
    rw [R.bind_ok]
    intro p W1 vs H1 g1 o1 r
    match ds, r, p with
    | [.lst xs, .lst ys], .cons ra (.cons rb .nil), p =>
      cases ra with
      | lst z h r =>
        cases rb with
        | lst z2 h2 r2 => exact ⟨_, _, _, _, rfl, .inl ⟨(same_lq o1.sub h).sq, (same_lq o1.sub h2).sq, p W1 _ H1 g1 o1 (walk_zipL z h.sq r h2.sq r2)⟩⟩
    | [.tup xs, .tup ys], .cons ra (.cons rb .nil), p =>
      cases ra with
      | tup z h r =>
        cases rb with
        | tup z2 h2 r2 => exact ⟨_, _, _, _, rfl, .inr ⟨same_t o1.sub h, same_t o1.sub h2, p W1 _ H1 g1 o1 (walk_zipT z h r h2 r2)⟩⟩
/-! ### != of data -/
def dNeX : D → D → Mu → R D := fun x y μ => match x.kd, y.kd with
  | .flat _, .flat _ => dNe x y μ
  | _, _ => match x.py, y.py with
    | some p, some q => if SeqAt.shaped p = true ∧ SeqAt.shaped q = true then .ok (.bl (!PyData.eqv p q)) μ else .bad
    | _, _ => .bad
theorem opx_neX {X : Cx} {E : WX} (hu : X.A.units + 64 < cLine) : OpX X E (compareOp .NotEq) dNeX := by
  intro pins s σ H x y v u Q I rx ry q
  obtain ⟨E', W, μ, dx, dy, ok, r1, r2, p⟩ := q
  unfold dNeX at p
  split at p
  · exact opx_ne (E := E)  pins s σ H x y v u Q I rx ry ⟨E', W, μ, dx, dy, ok, r1, r2, p⟩
  · split at p
    · rename_i p1 p2 e1 e2
      split at p
      · rename_i hs
        exact op_neD hu pins s σ H x y v u Q I rx ry ⟨p1, p2, py_dp ok r1 e1, py_dp ok r2 e2, hs.1, hs.2, post_pure ok p (.bl _)⟩
      · exact p.elim
    · exact p.elim
end DL
/-! DL21: len(set(xs)) of texts. -/
namespace DL
open PySem L2 PySem.Spec PyProof.Rows
/-- the unlike ones, as they were met -/
def dd1 (σ : List Str) (x : Str) : List Str := if σ.any (· == x) = true then σ else σ ++ [x]
def met (xs : List Str) (i : Nat) : List Str := (xs.take i).foldl dd1 []
theorem met_succ {xs : List Str} {i : Nat} (h : i < xs.length) : met xs (i + 1) = dd1 (met xs i) (xs.getD i Str.empty) := by
  unfold met
  rw [List.take_succ, List.foldl_append]
  simp [h, List.getD]
theorem dd1_any (σ : List Str) (v k : Str) : (dd1 σ v).any (· == k) = (σ.any (· == k) || decide (k = v)) := by
  unfold dd1
  by_cases h : σ.any (· == v) = true
  · rw [if_pos h]
    by_cases e : k = v
    · rw [e, h]; rfl
    · rw [decide_eq_false e, Bool.or_false]
  · rw [if_neg h, List.any_append]
    by_cases e : k = v
    · subst e; simp
    · have hb : (v == k) = false := beq_eq_false_iff_ne.mpr fun z => e z.symm
      simp [hb, e]
theorem dd1_len (σ : List Str) (v : Str) : (dd1 σ v).length = if σ.any (· == v) then σ.length else σ.length + 1 := by
  unfold dd1
  split <;> simp
theorem met_len (xs : List Str) : ∀ i, i ≤ xs.length → (met xs i).length ≤ i
  | 0, _ => by simp [met]
  | i + 1, h => by
    rw [met_succ h, dd1_len]
    have := met_len xs i (by omega)
    split <;> omega
section
variable {prog : Program} {w : World} {A : Around} {R : Result → Shared → Prop} {J : Addr} {fp wr : List Addr} {G : Array GenState → Array GenState → Prop} {P : Nat → Value → Prop} {St : Nat → Shared → Prop}
abbrev SetAt (prog : Program) (w : World) (h : Heap) (S : Addr) (l : List Str) : Prop := h.SetOf (PySem.strKind prog w) S (fun k' => l.any (· == k')) l.length
theorem loop_met (xs : List Str) (W : WalksS prog w A.in1 J fp wr G xs.length P St) (S : Addr) (hSf : S ∉ fp) (hb : xs.length + 1 < scanBound) (hval : ∀ i v, P i v → ∃ t, v = .str (xs.getD i Str.empty) t) :
    ∀ (k i : Nat) (s : Shared), xs.length - i = k → i ≤ xs.length → St i s → SetAt prog w s.heap S (met xs i) → (∀ s', Moved (S :: wr) G s s' → SetAt prog w s'.heap S (met xs xs.length) → R (.ok (.ret .none)) s') →
      codeAny (model prog w) A (.builtin "set.update.loop" ⟨[.ref S, .ref J], []⟩) R s := by
  have out : S ∉ wr := fun z => hSf (W.sub _ z)
  have more : ∀ b ∈ wr, b ∈ S :: wr := fun b z => List.mem_cons_of_mem _ z
  have keep : ∀ {s s' : Shared} {l : List Str}, Moved wr G s s' → SetAt prog w s.heap S l → SetAt prog w s'.heap S l := fun hm ⟨o, es, ep, tb, ho, rest⟩ => ⟨o, es, ep, tb, hm.heap S _ out ho, rest⟩
  intro k
  induction k with
  | zero =>
    intro i s hk hi st hS hR
    obtain rfl : i = xs.length := by omega
    refine codeAny_builtin PyProof.Rows.F.entry_set_update_loop ?_
    rw [Around.under_plainId PyProof.Rows.F.plain_set_update_loop _]
    exact wpAny_bind (W.done s _ _ st fun s' hm => wpAny_pure (hR s' (hm.mono more) (keep hm hS)))
  | succ k ih =>
    intro i s hk hi st hS hR
    have lt : i < xs.length := by omega
    refine codeAny_builtin PyProof.Rows.F.entry_set_update_loop ?_
    rw [Around.under_plainId PyProof.Rows.F.plain_set_update_loop _]
    refine wpAny_bind (W.item i s _ _ lt st fun v s' hP st' hm => ?_)
    obtain ⟨t, rfl⟩ := hval i v hP
    have here : SetAt prog w s'.heap S (met xs i) := keep hm hS
    have room : (met xs i).length + 1 < scanBound := by
      have := met_len xs i hi
      omega
    show wpAny _ A.in1 (holding [Value.str (xs.getD i Str.empty) t] (setAdd S (.str (xs.getD i Str.empty) t)) >>= _) _ _ s'
    refine wpAny_bind (wpAny_holding ?_)
    unfold setAdd
    refine wpAny_holding (wpAny_bind ((PySem.strKind prog w).pyHash (k := xs.getD i Str.empty) (strKind_is _ _ _ _) ?_))
    refine wpAny_setAddHashed_of (knd := PySem.strKind prog w) (s := { s' with toks := s'.toks + 1 }) (strKind_is _ _ _ _) rfl here room fun h' hsb hS2 => ?_
    have next : SetAt prog w h' S (met xs (i + 1)) := SetOf_congr hS2 (fun k' => by rw [met_succ lt, dd1_any]) (by rw [met_succ lt, dd1_len])
    refine wpAny_pure ⟨plainId_quiet PyProof.Rows.F.plain_set_update_loop _, ih (i + 1) _ (by omega) lt (W.frame _ s' _ _ st' (Nat.le_succ _) fun b hb o e => ?_) next fun s2 hm2 hS3 => ?_⟩
    · rw [hsb.2 b fun z => hSf (by rw [← z]; exact hb)]
      exact e
    · refine hR s2 (Moved.trans W.gtrans ((hm.mono more).then_heap (Nat.le_succ _) fun b o hb e => ?_) hm2) hS3
      rw [hsb.2 b fun z => hb (by rw [z]; exact List.mem_cons_self)]
      exact e
end
section
variable {prog : Program} {w : World} {A : Around} {E : Value → Shared → Prop} {s : Shared}
abbrev newSet (led : Bool) : Obj := { cls := .type "set", dict := none, data := .set #[] 0 (.fresh 0 0 led) }
/-- set(xs) of a list of texts -/
theorem call_set_met {l : Addr} {items : Array Value} {xs : List Str} {Q : Value → Shared → Prop} (hh : A.handled = none) (hl : s.heap.IsList l items) (hi : StrsAre items.toList xs) (hb : xs.length + 1 < scanBound)
    (h : ∀ (h' : Heap) (tk : Nat), SetAt prog w h' s.heap.objs.size (met xs xs.length) → (∀ b o, b < s.heap.objs.size → s.heap.get? b = some o → h'.get? b = some o) → Q (.ref s.heap.objs.size) { s with heap := h', toks := tk }) :
    wpAny (model prog w) A (call (.type "set") [.ref l]) Q E s := by
  have hsz : items.size = xs.length := by rw [← StrsAre.len_eq hi, Array.length_toList]
  obtain ⟨c, tl, m0⟩ := PySem.F.called_set.mro
  have m1 := PySem.F.called_set.made
  have m2 := PySem.F.called_set.sub
  refine wpAny_call (codeAny_of_tree ?_)
  show wpAny _ _ (callAny (.type "set") _) _ _ _
  refine wpAny_pure ⟨Code.quiet_builtin _ (by decide +kernel), codeAny_builtin PySem.F.entry_type_call ?_⟩
  rw [Around.under_plain (weight_type_call_type "set" [.ref l] []) rfl]
  have m3 := PySem.F.called_set.notType
  have m4 := PySem.F.called_set.canCreate
  have m5 := PySem.F.typeCall_set_1 (.ref l)
  repeat (any_goals (first | assumption | wp_step))
  refine codeAny_mono (code_set_new_1 (.ref l) (E := E) (Q₁ := fun u s1 => ∃ led : Bool, u = .ref s.heap.objs.size ∧ s1 = { s with heap := s.heap.push (newSet led) }) fun led => ⟨led, rfl, rfl⟩) fun r s1 hr => ?_
  cases r with
  | error e => exact hr
  | ok fl =>
    cases fl with
    | ret u =>
      obtain ⟨led, rfl, rfl⟩ := hr
      have gS : (s.heap.push (newSet led)).get? s.heap.objs.size = some (newSet led) := Heap.get?_push_size _ rfl
      have tS : Shared.TypeIs { s with heap := s.heap.push (newSet led) } (.ref s.heap.objs.size) "set" := ⟨_, gS, rfl⟩
      have n1 := PySem.F.called_set.init.lookup
      have n2 := PySem.F.called_set.init.bind (.ref s.heap.objs.size)
      repeat (any_goals (first | assumption | wp_step))
      refine codeAny_mono (codeAny_call_builtin (R := wants (fun r s2 => r = .none ∧ ∃ h' tk, s2 = { s with heap := h', toks := tk } ∧ SetAt prog w h' s.heap.objs.size (met xs xs.length) ∧ ∀ b o, b < s.heap.objs.size → s.heap.get? b = some o → h'.get? b = some o) E) PySem.F.called_set.init.plain PySem.F.entry_set_init (check_set_init_1 tS ?_)) fun r2 s2 hr2 => ?_
      · obtain ⟨⟨oc, od, dt, sl⟩, ho, hc, nl, hd⟩ := hl
        simp only at hc hd
        subst hc hd
        have ho' : (s.heap.push (newSet led)).get? l = some { cls := .type "list", dict := od, data := .seq items nl, slots := sl } := Heap.get?_push_of_some _ ho
        have k1 := PySem.F.sub_list_set
        have k2 := PySem.F.sub_list_frozenset
        have k3 : (Value.type "list" == Value.type "dict") = false := by decide
        have hl1 : (s.heap.push (newSet led)).IsList l items := ⟨_, ho', rfl, nl, rfl⟩
        unfold Builtin.«set.__init__» noKeywords Builtin.Frozenset.updateFrom
        generalize hPI : pyIter = PI
        wp_walk
        subst hPI
        refine wpAny_pyIter_list hl1 (wpAny_bind (wpAny_runValue ?_))
        have lS : l < s.heap.objs.size := Heap.lt_size ho
        have h3 : A.in1.in1.in1.handled = none := by simp [hh]
        have nI : l ≠ (s.heap.push (newSet led)).objs.size := by
          rw [Heap.size_push]
          exact Nat.ne_of_lt (Nat.lt_succ_of_lt lS)
        have nS : s.heap.objs.size ∉ [(s.heap.push (newSet led)).objs.size, l] := by
          rw [Heap.size_push]
          intro z
          rcases List.mem_cons.mp z with z | z
          · exact absurd z (Nat.ne_of_lt (Nat.lt_succ_self _))
          · exact absurd (List.mem_singleton.mp z) (Nat.ne_of_gt lS)
        have hval : ∀ (i : Nat) (v : Value), items[i]? = some v → ∃ t, v = .str (xs.getD i Str.empty) t := fun i v hv => SS.strs_at hi i v (by rw [Array.getElem?_toList]; exact hv)
        have wk := (Walks.list (prog := prog) (w := w) h3 (s.heap.push (newSet led)).objs.size l nI items).toS
        rw [hsz] at wk
        refine loop_met xs wk s.heap.objs.size nS hb hval (xs.length - 0) 0 _ (by omega) (Nat.zero_le _) ⟨⟨_, Heap.get?_push_size _ rfl, rfl, rfl⟩, hl1.push _⟩ ?_ ?_
        · exact SetOf_congr ((setObjOf_fresh (knd := PySem.strKind prog w) led).setOf (Heap.get?_push_of_some _ gS) (by unfold scanBound; omega)) (fun _ => rfl) rfl
        · intro s' hm hS'
          obtain ⟨h', g', d', tk', os'⟩ := s'
          obtain rfl : g' = s.gens := hm.gens
          obtain rfl : d' = s.drawn := hm.drawn
          obtain rfl : os' = s.os := hm.os
          refine wpAny_pure (wpAny_pure ⟨rfl, h', tk', rfl, hS', fun b o hb e => hm.heap b o (fun z => ?_) (Heap.get?_push_of_some _ (Heap.get?_push_of_some _ e))⟩)
          rcases List.mem_cons.mp z with z | z
          · exact absurd z (Nat.ne_of_lt hb)
          · have z := List.mem_singleton.mp z
            rw [Heap.size_push] at z
            exact absurd z (Nat.ne_of_lt (Nat.lt_succ_of_lt hb))
      · cases r2 with
        | error e => exact hr2
        | ok fl2 =>
          cases fl2 with
          | ret r =>
            obtain ⟨rfl, h', tk, rfl, hS', hk'⟩ := hr2
            repeat (any_goals (first | assumption | wp_step))
            exact h _ _ hS' hk'
          | _ => exact hr2.elim
    | _ => exact hr.elim
end
end DL
/-! DL22: len(set(xs)) of numbers or texts; texts with fields. -/
namespace DL
open PySem L2 PySem.Spec PyProof.Rows
def setLen (ds : List D) : Option Nat := match intsD ds with
  | some ns => if ns.length ≤ 1000 then some (kinds ns) else none
  | none => match strsD ds with
    | some xs => if xs.length ≤ 1000 then some (met xs xs.length).length else none
    | none => none
def dlensetX (f : FE) : FE := fun ρ μ => (f ρ μ).bind fun d μ1 => match d with
  | .lst ds => R.of ((setLen ds).map fun n : Nat => D.int (n : Int)) μ1
  | _ => .bad
@[simp] theorem ap_lensetX (f : FE) (ρ : En) (μ : Mu) : dlensetX f ρ μ = (f ρ μ).bind fun d μ1 => match d with
  | .lst ds => R.of ((setLen ds).map fun n : Nat => D.int (n : Int)) μ1
  | _ => .bad := of_eq_true (eq_self _)
theorem de_lensetX {X : Cx} {E : WX} {a : Expr} {fa : FE} {p p2 q pos : Pos} (hm : X.mg "len" = none) (hm2 : X.mg "set" = none) (ha : DE X E a fa) (hc : X.calm = true := by rfl) (hg : Gl X "len" := by rfl) (hg2 : Gl X "set" := by rfl)
    (na : starEach [a] X.env = (false, eval a X.env) :: starEach [] X.env := by rfl) : DE X E (.Call (.Name "len" p) [.Call (.Name "set" p2) [a] [] q] [] pos) (dlensetX fa) := by
  constructor
  intro pins s σ H Q I rd
  obtain ⟨W, ρ, μ, ok, en, z⟩ := rd
  unfold dlensetX at z
  have inner : rE X.K E fa σ H (fun x H1 => ∃ l, x = .ref l ∧ ((∃ ns : List Int, SqL X.K H1 l (ns.map V.int) ∧ ns.length ≤ 1000 ∧ Q (.int (kinds ns)) H1) ∨ ∃ xs : List Str, SqL X.K H1 l (xs.map V.str) ∧ xs.length ≤ 1000 ∧ Q (.int (met xs xs.length).length) H1)) := seq z ok en fun d μ1 W1 v H1 g1 o1 en1 r z1 => by
    cases r with
    | lst zz h rs =>
      dsimp only at z1
      unfold setLen at z1
      split at z1
      · rename_i ns hns
        have e := intsD_rep rs hns
        subst e
        split at z1
        · rename_i hl
          exact ⟨_, rfl, .inl ⟨ns, (same_lq o1.sub h).sq, hl, post_pure o1 z1 (.int _)⟩⟩
        · exact z1.elim
      · split at z1
        · rename_i xs hxs
          have e := strsD_rep rs hxs
          subst e
          split at z1
          · rename_i hl
            exact ⟨_, rfl, .inr ⟨xs, (same_lq o1.sub h).sq, hl, post_pure o1 z1 (.int _)⟩⟩
          · exact z1.elim
        · exact z1.elim
    | _ => exact z1.elim
  refine PyProof.Rows.Call_ (ld_blt I hg hm PySem.boot_len (PyProof.Rows.callWith_builtin1 (PyProof.Rows.args_cons ?_ rfl) rfl rfl))
  refine PyProof.Rows.Call_ (ld_blt I hg2 hm2 PyProof.Rows.boot_set (PyProof.Rows.callWith_type1 (PyProof.Rows.args_cons (thn (ha.run pins s σ H _ I inner) fun v s1 hv => PyProof.Rows.args_nil ?_) na) na rfl))
  obtain ⟨y, H1, I1, w1, l, ey, alt⟩ := hv
  subst ey
  cases w1
  rcases alt with ⟨ns, sq, hl, fin⟩ | ⟨xs, sq, hl, fin⟩
  · obtain ⟨its, rv, pl, _⟩ := I1.list sq
    have hsz : its.toArray.size = ns.length := by
      rw [List.size_toArray, ← rv.length, List.length_map]
    refine PySem.call_set_list (I1.ok.hd hc) pl.isList (ns := ns) (by simpa using vals_ints rv) (by rw [hsz]; unfold scanBound; omega) fun h' tk made old => PyProof.Rows.args_nil ?_
    rw [hsz] at made
    obtain ⟨ob, en', ep, tt, ho, hex, hd, _, _, _, hf, hn⟩ := made
    have few : (PyProof.Rows.firstMet (fun i => ns.getD i 0) ns.length).length ≤ ns.length := PyProof.Rows.firstMet_length_le _ _
    exact call_len_set ho hex hd hf (by rw [hn]; omega) ⟨.int (kinds ns), H1, (I1.kept fun b o e => old b o (Heap.lt_size e) e).tok _, ⟨_, by rw [hn]; rfl⟩, fin⟩
  · obtain ⟨its, rv, pl, _⟩ := I1.list sq
    refine call_set_met (I1.ok.hd hc) pl.isList (xs := xs) (by simpa using rv.strs) (by unfold scanBound; omega) fun h' tk made old => PyProof.Rows.args_nil ?_
    obtain ⟨ob, en', ep, tt, ho, hex, hd, _, _, _, hf, hn⟩ := made
    have few := met_len xs xs.length (Nat.le_refl _)
    exact call_len_set ho hex hd hf (by rw [hn]; omega) ⟨.int (met xs xs.length).length, H1, (I1.kept fun b o e => old b o (Heap.lt_size e) e).tok _, ⟨_, by rw [hn]⟩, fin⟩
/-! ### f-strings -/
def fmtD : D → Option Str
  | .str y => some y
  | .int i => if i.natAbs.log2 < 1920 then some (toString i) else none
  | _ => none
def fmtR : D → Option Str
  | .str y => some (reprText y)
  | .int i => if i.natAbs.log2 < 1920 then some (toString i) else none
  | _ => none
/-- a text, where it is short enough -/
def shortS (o : Option Str) : Option D := match o with
  | some x => if x.length ≤ 1000000 then some (.str x) else none
  | none => none
def dfmt (f : FE) : FE := fun ρ μ => (f ρ μ).bind fun d μ1 => R.of (shortS (fmtD d)) μ1
def dfmtR (f : FE) : FE := fun ρ μ => (f ρ μ).bind fun d μ1 => R.of (shortS (fmtR d)) μ1
@[simp] theorem ap_fmt (f : FE) (ρ : En) (μ : Mu) : dfmt f ρ μ = (f ρ μ).bind fun d μ1 => R.of (shortS (fmtD d)) μ1 := of_eq_true (eq_self _)
@[simp] theorem ap_fmtR (f : FE) (ρ : En) (μ : Mu) : dfmtR f ρ μ = (f ρ μ).bind fun d μ1 => R.of (shortS (fmtR d)) μ1 := of_eq_true (eq_self _)
/-- the parts one behind the other -/
def joinF : List FE → Str → En → Mu → R D
  | [], acc, _, μ => .ok (.str acc) μ
  | f :: fs, acc, ρ, μ => (f ρ μ).bind fun d μ1 => match d with
    | .str y => if acc.length + y.length ≤ 1000000 then joinF fs (acc ++ y) ρ μ1 else .bad
    | _ => .bad
def djoin (fs : List FE) : FE := fun ρ μ => joinF fs Str.empty ρ μ
@[simp] theorem ap_join (fs : List FE) (ρ : En) (μ : Mu) : djoin fs ρ μ = joinF fs Str.empty ρ μ := of_eq_true (eq_self _)
section
variable {X : Cx} {E : WX} {e : Expr} {fe : FE} {pos : Pos}
theorem de_fmt (he : DE X E e fe) : DE X E (.FormattedValue e (-1) none pos) (dfmt fe) := pe_imp (pe_fmt he) fun σ H Q ⟨W, ρ, μ, ok, en, p⟩ => by
  refine seq p ok en fun d μ1 W1 v H1 g1 o1 en1 r p1 => ?_
  unfold shortS fmtD at p1
  cases d with
  | str y =>
    cases r with
    | str _ z =>
      dsimp only at p1
      split at p1
      · exact .inl ⟨y, rfl, z, post_pure o1 p1 (.str _ z)⟩
      · exact p1.elim
  | int i =>
    cases r
    dsimp only at p1
    by_cases h : i.natAbs.log2 < 1920
    · rw [if_pos h] at p1
      dsimp only at p1
      split at p1
      · rename_i hl
        exact .inr ⟨i, rfl, h, post_pure o1 p1 (.str _ (le_line hl))⟩
      · exact p1.elim
    · rw [if_neg h] at p1
      exact p1.elim
  | _ => exact p1.elim
theorem de_fmtR (he : DE X E e fe) : DE X E (.FormattedValue e 114 none pos) (dfmtR fe) := pe_imp (pe_fmtR he) fun σ H Q ⟨W, ρ, μ, ok, en, p⟩ => by
  refine seq p ok en fun d μ1 W1 v H1 g1 o1 en1 r p1 => ?_
  unfold shortS fmtR at p1
  cases d with
  | str y =>
    cases r with
    | str _ z =>
      dsimp only at p1
      split at p1
      · rename_i hl
        exact .inl ⟨y, rfl, le_line hl, post_pure o1 p1 (.str _ (le_line hl))⟩
      · exact p1.elim
  | int i =>
    cases r
    dsimp only at p1
    by_cases h : i.natAbs.log2 < 1920
    · rw [if_pos h] at p1
      dsimp only at p1
      split at p1
      · rename_i hl
        exact .inr ⟨i, rfl, h, post_pure o1 p1 (.str _ (le_line hl))⟩
      · exact p1.elim
    · rw [if_neg h] at p1
      exact p1.elim
  | _ => exact p1.elim
inductive DJ (X : Cx) (E : WX) : List Expr → List FE → Prop
  | nil : DJ X E [] []
  | cons {e : Expr} {f : FE} {es : List Expr} {fs : List FE} (h : DE X E e f) (r : DJ X E es fs) : DJ X E (e :: es) (f :: fs)
theorem DJ.pj {es : List Expr} {fs : List FE} (h : DJ X E es fs) : PJ X es (fs.map (rE X.K E)) := by
  induction h with
  | nil => exact .nil
  | cons h r ih => exact .cons h ih
theorem join_js : ∀ (fs : List FE) (acc : Str) (σ : L2.St) (H : Hp) (Q : VK) (W : Wd) (ρ : En) (μ : Mu), acc.length ≤ sizeLine → Ok X.K W H μ → Envs X.K W σ ρ → postE X.K (WE E σ) W H (joinF fs acc ρ μ) Q → tJs (fs.map (rE X.K E)) acc σ H fun out H1 => Q (.str out) H1
  | [], acc, σ, H, Q, W, ρ, μ, ha, ok, en, p => by
    unfold joinF at p
    exact post_pure ok p (.str _ ha)
  | f :: fs, acc, σ, H, Q, W, ρ, μ, ha, ok, en, p => by
    unfold joinF at p
    refine seq p ok en fun d μ1 W1 v H1 g1 o1 en1 r p1 => ?_
    cases d with
    | str y =>
      cases r
      dsimp only at p1
      split at p1
      · rename_i hl
        have h2 : (acc ++ y).length ≤ sizeLine := by rw [strlen_app]; exact le_line hl
        exact ⟨y, rfl, h2, join_js fs (acc ++ y) σ H1 Q W1 ρ μ1 h2 o1 en1 p1⟩
      · exact p1.elim
    | _ => exact p1.elim
theorem de_joined {v1 v2 : Expr} {rest : List Expr} {fs : List FE} (h : DJ X E (v1 :: v2 :: rest) fs) : DE X E (.JoinedStr (v1 :: v2 :: rest) pos) (djoin fs) :=
  pe_imp (pe_joined h.pj) fun σ H Q ⟨W, ρ, μ, ok, en, p⟩ => join_js fs Str.empty σ H Q W ρ μ (Nat.zero_le _) ok en p
end
end DL
/-! DL23: == by an own __eq__. -/
namespace DL
open PySem L2 PySem.Spec PyProof.Rows
/-- the type of what stands at the right -/
def tyW (μ : Mu) : D → Option Ty
  | .non => some (.blt "NoneType")
  | .bl _ => some (.blt "bool")
  | .int _ => some (.blt "int")
  | .str _ => some (.blt "str")
  | .tup _ => some (.blt "tuple")
  | .lst _ => some (.blt "list")
  | d => match insD μ d with
    | some (C, _) => some (.own C)
    | none => none
theorem looks_obj {M : Model} {h : Heap} {a : Addr} {o : Obj} (e : h.get? a = some o) : PySem.W.Looks M h (typeOf (.ref a)) o.cls := (PySem.W.Looks.ld e).andThen .now
section
variable {X : Cx} {E : WX} {pins : List (Addr × Obj)} {σ : L2.St} {H : Hp} {s : Shared}
theorem ins_inst {a C dx : Addr} {fs : List (Str × V)} (I : Inv X pins σ H s) (e : H a = some (.ins C dx fs)) : ∃ od : Obj, PySem.W.InstAt s.heap a (PySem.W.instObj C dx) C (some od) := by
  obtain ⟨mA, O, r, wi, _, ho⟩ := ins_get I.hok e
  obtain ⟨od, hod, hl⟩ := lookIn_ns O.ns
  exact ⟨od, O.obj, rfl, rfl, hod⟩
theorem looks_ty {W : Wd} {μ : Mu} {v : V} {d : D} {u : Value} {t : Ty} (I : Inv X pins σ H s) (ok : Ok X.K W H μ) (r : Rep X.K W v d) (rv : RelV v u) (h : tyW μ d = some t) : PySem.W.Looks (model X.prog X.w) s.heap (typeOf u) (t.val X.K) := by
  have own : ∀ {C : Nat} {fs : List (Str × D)}, insD μ d = some (C, fs) → PySem.W.Looks (model X.prog X.w) s.heap (typeOf u) (.ref (cl X.K C)) := fun hi => by
    obtain ⟨a, dx, ns, vs, ds, rfl, ha, _, _⟩ := ins_rep ok r hi
    cases rv
    obtain ⟨od, J⟩ := ins_inst I ha
    exact J.type
  have via : (match insD μ d with | some (C, _) => some (Ty.own C) | none => none) = some t → PySem.W.Looks (model X.prog X.w) s.heap (typeOf u) (t.val X.K) := fun z => by
    cases hi : insD μ d with
    | none => rw [hi] at z; cases z
    | some q =>
      obtain ⟨C, fs⟩ := q
      rw [hi] at z
      cases z
      exact own hi
  cases r with
  | non => cases h; cases rv; exact PySem.W.Looks.of_pure rfl
  | bl b => cases h; cases rv; exact PySem.W.Looks.of_pure rfl
  | int i => cases h; obtain ⟨tk, rfl⟩ := rv; exact PySem.W.Looks.of_pure rfl
  | str x z => cases h; obtain ⟨tk, rfl⟩ := rv; exact PySem.W.Looks.of_pure rfl
  | tup z h1 q =>
    cases h
    cases rv
    obtain ⟨its, _, ⟨o, ho, hc, _⟩, _⟩ := I.tuple (same_t ok.sub h1)
    show PySem.W.Looks _ _ _ (Value.type "tuple")
    rw [← hc]
    exact looks_obj ho
  | lst z h1 q =>
    cases h
    cases rv
    obtain ⟨its, n, _, e⟩ := (same_lq ok.sub h1).isL I
    exact looks_obj e
  | hdl ha => exact via h
  | cst v => cases h
  | glo c => exact via h
  | obj h1 e rs => exact via h
/-- x == y, x of the class C with an own __eq__ that keeps F; ts: types that y may have -/
def eqOwn (C : Nat) (F : List D → Mu → R D) (ts : List Ty) : D → D → Mu → R D := fun x y μ => match insD μ x, tyW μ y with
  | some (C', _), some t => if C' = C ∧ t ∈ ts then (F [x, y] μ).nox else .bad
  | _, _ => .bad
theorem nox_post {K : PySem.W.Frag} {E' : XK} {σ : L2.St} {W : Wd} {H : Hp} {r : R D} {Q : VK} (p : postE K E' W H r.nox Q) : postE K (WE E0 σ) W H r Q := by
  cases r with
  | ok d μ => exact p
  | ex c fs μ => exact p.elim
  | bad => exact p
theorem Cal.quiet {X : Cx} {E : WX} {k : Nat} (c : Cal X E k) : Cal X E0 k := ⟨c.room, c.guards, take0⟩
theorem opx_own {k C : Nat} {f : Addr} {fd : FuncData} {ps : List Str} {F : List D → Mu → R D} {ts : List Ty} {op : CmpOp} (hop : ∀ a b, compareOp op a b = richCompare op a b) (G : FnG X.prog X.w X.K X.mg X.base k f fd ps F) (c : Cal X E k) (b : Dfl X.K fd ps 2 [])
    (hs : PySem.W.findIn X.K (.ref (cl X.K C)) (cmpInfo op).2.1 = some (some (.ref f))) (hf : PySem.W.isFn X.K (.ref f) = true) (hts : ∀ t ∈ ts, PySem.W.notFirst X.K (cl X.K C) (t.val X.K) = true) : OpX X E (compareOp op) (eqOwn C F ts) := by
  intro pins s σ H x y v u Q I rx ry q
  obtain ⟨E', W, μ, dx, dy, ok, r1, r2, p⟩ := q
  unfold eqOwn at p
  split at p
  · rename_i C' fs t hi ht
    split at p
    · rename_i hq
      obtain ⟨rfl, hm⟩ := hq
      have lk := looks_ty I ok r2 ry ht
      obtain ⟨a, dd, ns, vs, ds, rfl, ha, _, _⟩ := ins_rep ok r1 hi
      cases rx
      obtain ⟨od, J⟩ := ins_inst I ha
      obtain ⟨m, hF⟩ := I.fr
      rw [hop]
      refine PySem.W.cmp_K (op := op) (tb := t.val X.K) c.room.units0 hF I.ok.mod.kin J lk (hts t hm) hs hf ?_
      refine wpAny_mono (callF_args (us := [.ref a, u]) (vs := [.ref a, y]) (n := 2) (ds := [dx, dy]) G c.quiet b I rfl (.cons rfl (.cons ry .nil)) ok (.cons r1 (.cons r2 .nil)) (nox_post p)) (fun w s' z => ?_) fun _ _ e => e
      obtain ⟨z', H', I', rz, qz⟩ := z
      exact SlX.cmpback rz ⟨z', H', I', rz, qz⟩
    · exact p.elim
  · exact p.elim
end
end DL
/-! DL24: != by an own __eq__, str(o), repr(o) by own __str__, __repr__. -/
namespace DL
open PySem L2 PySem.Spec PyProof.Rows
section
variable {X : Cx} {E : WX} {k C : Nat} {f : Addr} {fd : FuncData} {ps : List Str} {F : List D → Mu → R D} {pins : List (Addr × Obj)} {σ : L2.St} {H : Hp} {s : Shared} {Q : VK} {us : List Value} {vs : List V} {W : Wd} {ds : List D} {μ : Mu} {n : Nat} {dd : List D}
/-- a call below a built-in -/
theorem callF_at {A : Around} (hA : Room k A) (hg : A.guards = some []) (he : Env0 X.prog X.w X.K X.mg X.base A X.stack s H) (G : FnG X.prog X.w X.K X.mg X.base k f fd ps F) (hx : ∀ σ, PassesAt (L2.CX X.prog X.w) X σ (WE E σ)) (b : Dfl X.K fd ps n dd)
    (I : Inv X pins σ H s) (hn : us.length = n) (rv : Vals vs us) (ok : Ok X.K W H μ) (r : Reps X.K W vs ds) (q : postE X.K (WE E σ) W H (F (ds ++ dd) μ) Q) : wpAny (model X.prog X.w) A (call (.ref f) us) (EP X pins σ Q) X.xe s := by
  obtain ⟨dvs, d0, r0, rd, hl, hb⟩ := b.ex
  have hlen : (us ++ d0).length = ps.length := by rw [List.length_append, hn]; exact hl
  refine wpAny_call (codeAny_mono (G.run A X.stack s H ⟨us, []⟩ (us ++ d0) (vs ++ dvs) Q (WE E σ) W (ds ++ dd) μ hA hg he hlen (hb s us I.kIn hlen) (rv.append r0) ok (r.app (rd W)) q) fun z s2 hz => ?_)
  match z, hz with
  | .error e, hz => exact hx σ pins H s e s2 I hz
  | .ok (.ret u), hz => exact I.after hz
end
theorem ifBound_B {M : Model} {A : Around} {E : Value → Shared → Prop} {s : Shared} {K : PySem.W.Frag} {x C : Addr} {ox : Obj} {od : Option Obj} {name : Str} {id : String} {args : List Value} {Q : Option Value → Shared → Prop} (X : K.In s.heap) (I : PySem.W.InstAt s.heap x ox C od)
    (hs : PySem.W.findIn K (.ref C) name = some (some (.builtin id))) (hb : ∀ self, bindSpecial (.builtin id) self = pure (.builtin id, [self])) (h : wpAny M A (call (.builtin id) (.ref x :: args)) (fun v => Q (some v)) E s) : wpAny M A (callSpecialIfBound? (.ref x) name args) Q E s := by
  simp only [callSpecialIfBound?, bindSpecialIfBound?]
  refine wpAny_holding (wpAny_bind (wpAny_bind (wpAny_bind (I.type.here ((PySem.W.looks_findIn X hs).here ?_)))))
  simp only [hb]
  refine wpAny_bind (wpAny_askSetting (wpAny_ite ?_))
  have fin : wpAny M A (call (.builtin id) ([.ref x] ++ args) >>= fun v => pure (some v)) Q E s := wpAny_bind (wpAny_mono h (fun v s' z => wpAny_pure z) fun _ _ z => z)
  split
  · exact wpAny_bind (wpAny_pure (wpAny_pure fin))
  · exact wpAny_tryCatch (wpAny_bind (wpAny_pure (wpAny_pure fin)))
section
variable {prog : Program} {w : World} {A : Around} {E : Value → Shared → Prop} {s : Shared} {K : PySem.W.Frag} {x C f L : Addr} {h₀ : Heap} {m : Str → Option Value} {ox : Obj} {od : Option Obj} {b tb : Value}
open Builtin in
theorem ne_slot {Q : Value → Shared → Prop} (hu : A.in1.units < cLine) (X : K.In s.heap) (I : PySem.W.InstAt s.heap x ox C od) (hm : PySem.W.mroIn K C (.type "object") = some true) (hs : PySem.W.findIn K (.ref C) "__eq__" = some (some (.ref f))) (hf : PySem.W.isFn K (.ref f) = true)
    (h : wpAny (model prog w) A.in1 (call (.ref f) [.ref x, b]) (PySem.W.BoolBack fun r s' => Q (.bool (!r)) s') E s) : wpAny (model prog w) A (call (.builtin "object.__ne__") [.ref x, b]) Q E s := by
  refine wpAny_call (codeAny_call_builtin (by decide +kernel) PySem.F.cmpEntry_ne (PySem.W.check_slot (i := "object.__ne__") (owner := "object") (n := "__ne__") PySem.F.cmpKind_ne PySem.F.cmpSplit_ne (I.type.andThen (PySem.W.looks_mroIn X hm)) (PySem.F.cmpArgs_ne _ _) ?_))
  unfold Builtin.«object.__ne__»
  refine wpAny_bind (m := slotArgs "__ne__" 1 _) (wpAny_pure ?_)
  refine wpAny_bind (m := cRoomFor _ _) (wpAny_cRoomFor hu ?_)
  refine wpAny_bind (m := callSpecialIfBound? (.ref x) (Str.ofString "__eq__") _) (PySem.W.ifBound_K X I hs hf (wpAny_mono h (fun r s' hq => ?_) fun _ _ y => y))
  cases r <;> first | exact hq.elim | exact wpAny_bind (wpAny_pure (wpAny_pure hq))
end
section
variable {prog : Program} {w : World} {A : Around} {E : Value → Shared → Prop} {s : Shared} {K : PySem.W.Frag} {x C f L : Addr} {h₀ : Heap} {m : Str → Option Value} {ox : Obj} {od : Option Obj} {b tb : Value}
theorem ne_K {Q : Value → Shared → Prop} (hu : A.units + 1 < cLine) (X : K.In s.heap) (I : PySem.W.InstAt s.heap x ox C od) (hb : PySem.W.Looks (model prog w) s.heap (typeOf b) tb) (hn : PySem.W.notFirst K C tb = true)
    (hne : PySem.W.findIn K (.ref C) "__ne__" = some (some (.builtin "object.__ne__"))) (hm : PySem.W.mroIn K C (.type "object") = some true) (hs : PySem.W.findIn K (.ref C) "__eq__" = some (some (.ref f))) (hf : PySem.W.isFn K (.ref f) = true)
    (h : wpAny (model prog w) A.in1 (call (.ref f) [.ref x, b]) (PySem.W.BoolBack fun r s' => Q (.bool (!r)) s') E s) : wpAny (model prog w) A (richCompare .NotEq (.ref x) b) Q E s := by
  have bd : ∀ self, bindSpecial (.builtin "object.__ne__") self = pure (.builtin "object.__ne__", [self]) := PySem.F.slot_object_ne.bind
  have one : wpAny (model prog w) A (tryCompare (.ref x) (cmpInfo .NotEq).2.1 b) (fun r s' => ∃ v, r = some v ∧ Q v s') E s := by
    unfold tryCompare
    refine wpAny_bind (ifBound_B X I hne bd (ne_slot hu X I hm hs hf (wpAny_mono h (fun v s' z => ?_) fun _ _ e => e)))
    cases v <;> first | exact z.elim | exact wpAny_pure ⟨_, rfl, z⟩
  unfold richCompare
  simp only [oneThing_ref]
  refine wpAny_holding (wpAny_bind (wpAny_cRoomFor (Nat.lt_of_succ_lt hu) ?_))
  refine wpAny_bind (I.type.here (wpAny_bind (hb.here ?_)))
  split
  · rename_i q
    have e : PySem.W.subIn K tb (.ref C) = some false := by
      rcases Bool.or_eq_true_iff.mp hn with z | z
      · rw [beq_iff_eq.mp z] at q
        simp at q
      · exact beq_iff_eq.mp z
    refine wpAny_bind ((PySem.W.looks_subIn X e).here ?_)
    simp only [Bool.false_eq_true, if_false]
    refine wpAny_bind (wpAny_mono one (fun r s' z => ?_) fun _ _ z => z)
    obtain ⟨v, rfl, z⟩ := z
    exact wpAny_pure z
  · refine wpAny_bind (wpAny_pure ?_)
    simp only [Bool.false_eq_true, if_false]
    refine wpAny_bind (wpAny_mono one (fun r s' z => ?_) fun _ _ z => z)
    obtain ⟨v, rfl, z⟩ := z
    exact wpAny_pure z
/-- repr(o) by an own __repr__ -/
theorem repr_K {Q : Value → Shared → Prop} (hu : A.in1.units < cLine) (X : K.In s.heap) (I : PySem.W.InstAt s.heap x ox C od) (hs : PySem.W.findIn K (.ref C) "__repr__" = some (some (.ref f))) (hf : PySem.W.isFn K (.ref f) = true)
    (h : wpAny (model prog w) A.in1 (call (.ref f) [.ref x]) (PySem.W.StrBack Q) E s) : wpAny (model prog w) A (call (.builtin "repr") [.ref x]) Q E s := by
  refine Calls.call_function_entry PySem.F.kind_repr PySem.F.plain_repr PySem.F.entry_repr (PySem.F.args_repr1 _) ?_
  unfold Builtin.«repr»
  refine wpAny_bind (wpAny_pure ?_)
  refine wpAny_bind (m := cRoomFor _ _) (wpAny_cRoomFor hu ?_)
  refine wpAny_bind (m := specialOf (.ref x) _) (wpAny_bind (I.type.here ((PySem.W.looks_findIn X hs).here ?_)))
  refine wpAny_bind (m := callSpecialIfBound? (.ref x) (Str.ofString "__repr__") _) (PySem.W.ifBound_K X I hs hf (wpAny_mono h (fun r s' hq => ?_) fun _ _ y => y))
  cases r <;> first | exact hq.elim | skip
  rename_i y t
  refine wpAny_bind (wpAny_isInstance (T := "str") (b := true) (typeIs_str _ _ _) isSubtype_str_str ?_)
  exact wpAny_pure ⟨_, rfl, hq⟩
end
/-! ### as rules -/
def notB : R D → R D
  | .ok (.bl b) μ => .ok (.bl (!b)) μ
  | _ => .bad
/-- x != y, x of the class C with an own __eq__ alone -/
def neOwn (C : Nat) (F : List D → Mu → R D) (ts : List Ty) : D → D → Mu → R D := fun x y μ => match insD μ x, tyW μ y with
  | some (C', _), some t => if C' = C ∧ t ∈ ts then notB (F [x, y] μ) else .bad
  | _, _ => .bad
def strOnly : R D → R D
  | .ok (.str x) μ => .ok (.str x) μ
  | _ => .bad
/-- str(o), repr(o) of an instance of C, or as ahead -/
def bOwn (C : Nat) (F : List D → Mu → R D) (g : List D → Mu → R D) : List D → Mu → R D := fun ds μ => match ds with
  | [d] => match insD μ d with
    | some (C', _) => if C' = C then strOnly (F [d] μ) else .bad
    | none => g [d] μ
  | _ => .bad
section
variable {X : Cx} {E : WX} {k C : Nat} {f : Addr} {fd : FuncData} {ps : List Str} {F : List D → Mu → R D} {ts : List Ty}
theorem Room.units1 {k : Nat} {A : Around} (r : Room (k + 1) A) : A.units + 1 < cLine := by have := r.un; omega
theorem opx_neOwn (G : FnG X.prog X.w X.K X.mg X.base k f fd ps F) (c : Cal X E (k + 1)) (b : Dfl X.K fd ps 2 []) (hne : PySem.W.findIn X.K (.ref (cl X.K C)) "__ne__" = some (some (.builtin "object.__ne__"))) (hm : PySem.W.mroIn X.K (cl X.K C) (.type "object") = some true)
    (hs : PySem.W.findIn X.K (.ref (cl X.K C)) "__eq__" = some (some (.ref f))) (hf : PySem.W.isFn X.K (.ref f) = true) (hts : ∀ t ∈ ts, PySem.W.notFirst X.K (cl X.K C) (t.val X.K) = true) : OpX X E (compareOp .NotEq) (neOwn C F ts) := by
  intro pins s σ H x y v u Q I rx ry q
  obtain ⟨E', W, μ, dx, dy, ok, r1, r2, p⟩ := q
  unfold neOwn at p
  split at p
  · rename_i C' fs t hi ht
    split at p
    · rename_i hq
      obtain ⟨rfl, hmem⟩ := hq
      have lk := looks_ty I ok r2 ry ht
      obtain ⟨a, dd, ns, vs, ds, rfl, ha, _, _⟩ := ins_rep ok r1 hi
      cases rx
      obtain ⟨od, J⟩ := ins_inst I ha
      show wpAny _ _ (richCompare .NotEq (.ref a) u) _ _ _
      refine ne_K (Room.units1 c.room) I.kIn J lk (hts t hmem) hne hm hs hf ?_
      have p' : postE X.K (WE E0 σ) W H (F ([dx, dy] ++ []) μ) (fun z H' => ∃ bb, z = .bl bb ∧ Q (.bl (!bb)) H') := by
        rw [List.append_nil]
        revert p
        cases F [dx, dy] μ with
        | ok d μ1 =>
          intro p W' v' H' g' o' r'
          cases r' with
          | bl bb => exact ⟨bb, rfl, p W' _ H' g' o' (.bl _)⟩
          | _ => exact p.elim
        | ex c fs μ1 => exact fun p => p.elim
        | bad => exact fun p => p
      refine wpAny_mono (callF_at (us := [.ref a, u]) (vs := [.ref a, y]) (n := 2) (ds := [dx, dy]) (Room.in1 c.room) c.guards I.env0.in1 G pass0 b I rfl (.cons rfl (.cons ry .nil)) ok (.cons r1 (.cons r2 .nil)) p') (fun w s' z => ?_) fun _ _ e => e
      obtain ⟨z', H', I', rz, bb, rfl, qz⟩ := z
      cases rz
      exact ⟨.bl (!bb), H', I', rfl, qz⟩
    · exact p.elim
  · exact p.elim
theorem str_back {pins : List (Addr × Obj)} {σ : L2.St} {Q : VK} {w : Value} {s' : Shared} (z : EP X pins σ (fun z H' => ∃ y, z = .str y ∧ Q (.str y) H') w s') : PySem.W.StrBack (EP X pins σ Q) w s' := by
  obtain ⟨z', H', I', rz, y, rfl, qz⟩ := z
  obtain ⟨t, rfl⟩ := rz
  exact ⟨.str y, H', I', ⟨t, rfl⟩, qz⟩
theorem str_post {E' : XK} {σ : L2.St} {W : Wd} {H : Hp} {μ : Mu} {ds : List D} {Q : VK} (p : postE X.K E' W H (strOnly (F ds μ)) Q) : postE X.K (WE E0 σ) W H (F (ds ++ []) μ) (fun z H' => ∃ y, z = .str y ∧ Q (.str y) H') := by
  rw [List.append_nil]
  revert p
  cases F ds μ with
  | ok d μ1 =>
    intro p W' v' H' g' o' r'
    cases r' with
    | str y z => exact ⟨y, rfl, p W' _ H' g' o' (.str y z)⟩
    | _ => exact p.elim
  | ex c fs μ1 => exact fun p => p.elim
  | bad => exact fun p => p
theorem cx_strOwn {g : List D → Mu → R D} (hg : CallX X E (.type "str") g) (G : FnG X.prog X.w X.K X.mg X.base k f fd ps F) (c : Cal X E (k + 2)) (b : Dfl X.K fd ps 1 []) (hs : PySem.W.findIn X.K (.ref (cl X.K C)) "__str__" = some (some (.ref f))) (hf : PySem.W.isFn X.K (.ref f) = true) : CallX X E (.type "str") (bOwn C F g) := by
  intro pins s σ H xs us Q I rx q
  obtain ⟨E', W, μ, ds, ok, r1, p⟩ := q
  unfold bOwn at p
  split at p
  · rename_i d
    split at p
    · rename_i C' fs hi
      split at p
      · rename_i e
        subst e
        cases r1 with
        | cons r1 r2 =>
          cases r2
          obtain ⟨a, dd, ns, vs, ds, rfl, ha, _, _⟩ := ins_rep ok r1 hi
          obtain ⟨u, rfl, ru⟩ := rx.one
          cases ru
          obtain ⟨od, J⟩ := ins_inst I ha
          have rm : Room k X.A.in1.in1 := (show Room (k + 1) X.A.in1 from Room.in1 c.room).in1
          exact PySem.W.kso_call rm.units0 I.kIn J hs hf (wpAny_mono (callF_at (us := [.ref a]) (vs := [.ref a]) (n := 1) (ds := [d]) rm c.guards I.env0.in1.in1 G pass0 b I rfl (.cons rfl .nil) ok (.cons r1 .nil) (str_post p)) (fun w s' z => str_back z) fun _ _ e => e)
      · exact p.elim
    · exact hg pins s σ H xs us Q I rx ⟨E', W, μ, _, ok, r1, p⟩
  · exact p.elim
theorem cx_reprOwn {g : List D → Mu → R D} (hg : CallX X E (.builtin "repr") g) (G : FnG X.prog X.w X.K X.mg X.base k f fd ps F) (c : Cal X E (k + 1)) (b : Dfl X.K fd ps 1 []) (hs : PySem.W.findIn X.K (.ref (cl X.K C)) "__repr__" = some (some (.ref f))) (hf : PySem.W.isFn X.K (.ref f) = true) : CallX X E (.builtin "repr") (bOwn C F g) := by
  intro pins s σ H xs us Q I rx q
  obtain ⟨E', W, μ, ds, ok, r1, p⟩ := q
  unfold bOwn at p
  split at p
  · rename_i d
    split at p
    · rename_i C' fs hi
      split at p
      · rename_i e
        subst e
        cases r1 with
        | cons r1 r2 =>
          cases r2
          obtain ⟨a, dd, ns, vs, ds, rfl, ha, _, _⟩ := ins_rep ok r1 hi
          obtain ⟨u, rfl, ru⟩ := rx.one
          cases ru
          obtain ⟨od, J⟩ := ins_inst I ha
          have rm : Room k X.A.in1 := Room.in1 c.room
          exact repr_K rm.units0 I.kIn J hs hf (wpAny_mono (callF_at (us := [.ref a]) (vs := [.ref a]) (n := 1) (ds := [d]) rm c.guards I.env0.in1 G pass0 b I rfl (.cons rfl .nil) ok (.cons r1 .nil) (str_post p)) (fun w s' z => str_back z) fun _ _ e => e)
      · exact p.elim
    · exact hg pins s σ H xs us Q I rx ⟨E', W, μ, _, ok, r1, p⟩
  · exact p.elim
end
end DL
/-! DL25: data of the module's own, one of two readings, defs apart. -/
namespace DL
open PySem L2 PySem.Spec PyProof.Rows
/-! ### what the module holds -/
mutual
/-- the value u of the written part is the datum d -/
def holdV (K : PySem.W.Frag) : Nat → Value → D → Bool
  | _, .none, .non => true
  | _, .bool b, .bl c => b == c
  | _, .int i _, .int j => i == j
  | _, .str x _, .str y => x == y && decide (x.length ≤ 1000000)
  | n + 1, .ref a, .tup ds => match K.lookup a with
    | some o => (match o.data with
      | .seq its _ => o.cls == .type "tuple" && (decide (its.size ≤ 1000000) && holdVs K n its.toList ds)
      | _ => false)
    | none => false
  | _, _, _ => false
def holdVs (K : PySem.W.Frag) : Nat → List Value → List D → Bool
  | _, [], [] => true
  | n, u :: us, d :: ds => holdV K n u d && holdVs K n us ds
  | _, _, _ => false
end
mutual
theorem holdV_rep {K : PySem.W.Frag} : ∀ (n : Nat) (u : Value) (d : D), holdV K n u d = true → ∃ v, RelV v u ∧ ∀ W, Rep K W v d
  | n, u, .non, h => by
    cases u <;> first | exact ⟨.non, rfl, fun _ => .non⟩ | (cases n <;> simp [holdV] at h)
  | n, u, .bl c, h => by
    cases u with
    | bool b =>
      have e : b = c := by cases n <;> simpa [holdV] using h
      subst e
      exact ⟨.bl b, rfl, fun _ => .bl b⟩
    | _ => cases n <;> simp [holdV] at h
  | n, u, .int j, h => by
    cases u with
    | int i t =>
      have e : i = j := by cases n <;> simpa [holdV] using h
      subst e
      exact ⟨.int i, ⟨t, rfl⟩, fun _ => .int i⟩
    | _ => cases n <;> simp [holdV] at h
  | n, u, .str y, h => by
    cases u with
    | str x t =>
      have e : x = y ∧ x.length ≤ 1000000 := by cases n <;> simpa [holdV] using h
      obtain ⟨rfl, hl⟩ := e
      exact ⟨.str x, ⟨t, rfl⟩, fun _ => .str x (le_line hl)⟩
    | _ => cases n <;> simp [holdV] at h
  | 0, u, .tup ds, h => by cases u <;> simp [holdV] at h
  | n + 1, u, .tup ds, h => by
    cases u with
    | ref a =>
      unfold holdV at h
      split at h
      · rename_i o ho
        split at h
        · rename_i its m hd
          simp only [Bool.and_eq_true, beq_iff_eq, decide_eq_true_eq] at h
          obtain ⟨hc, hz, hv⟩ := h
          obtain ⟨vs, rv, rp⟩ := holdVs_reps n its.toList ds hv
          have hl : its.size ≤ sizeLine := le_line hz
          refine ⟨.ref a, rfl, fun W => .tup ?_ (.inr ⟨o, its, m, ho, hc, hd, hl, rv⟩) (rp W)⟩
          rw [← (rp W).length, rv.length, Array.length_toList]
          exact hl
        · cases h
      · cases h
    | _ => simp [holdV] at h
  | n, u, .lst _, h => by cases n <;> cases u <;> simp [holdV] at h
  | n, u, .hdl _, h => by cases n <;> cases u <;> simp [holdV] at h
  | n, u, .cst _, h => by cases n <;> cases u <;> simp [holdV] at h
  | n, u, .obj _ _, h => by cases n <;> cases u <;> simp [holdV] at h
  | n, u, .glo _, h => by cases n <;> cases u <;> simp [holdV] at h
theorem holdVs_reps {K : PySem.W.Frag} : ∀ (n : Nat) (us : List Value) (ds : List D), holdVs K n us ds = true → ∃ vs, Vals vs us ∧ ∀ W, Reps K W vs ds
  | n, [], [], _ => ⟨[], .nil, fun _ => .nil⟩
  | n, [], _ :: _, h => by cases n <;> simp [holdVs] at h
  | n, _ :: _, [], h => by cases n <;> simp [holdVs] at h
  | n, u :: us, d :: ds, h => by
    have h : (holdV K n u d && holdVs K n us ds) = true := by cases n <;> simpa [holdVs] using h
    rw [Bool.and_eq_true] at h
    obtain ⟨v, r, p⟩ := holdV_rep n u d h.1
    obtain ⟨vs, rs, ps⟩ := holdVs_reps n us ds h.2
    exact ⟨v :: vs, .cons r rs, fun W => .cons (p W) (ps W)⟩
end
/-- a global of the module is the datum d -/
def gloB (K : PySem.W.Frag) (x : Str) (d : D) : Bool := match PySem.W.nsIn K mainGlobals x with
  | some (some u) => holdV K 8 u d
  | _ => false
theorem gloB_ok {K : PySem.W.Frag} {h : Heap} {mg : Str → Option Value} (X : K.In h) (G : h.Ns mainGlobals mg) {x : Str} {d : D} (c : gloB K x d = true) : ∃ u v, mg x = some u ∧ RelV v u ∧ ∀ W, Rep K W v d := by
  unfold gloB at c
  split at c
  · rename_i u e
    obtain ⟨v, r, p⟩ := holdV_rep 8 u d c
    exact ⟨u, v, PySem.W.mg_of X G e, r, p⟩
  · cases c
/-! ### one of two readings -/
theorem opx_if {X : Cx} {E : WX} {f : Value → Value → Sem Value} {g1 g2 : D → D → Mu → R D} (c : D → D → Mu → Bool) (h1 : OpX X E f g1) (h2 : OpX X E f g2) : OpX X E f (fun x y μ => if c x y μ = true then g1 x y μ else g2 x y μ) := by
  intro pins s σ H x y v u Q I rx ry q
  obtain ⟨E', W, μ, dx, dy, ok, r1, r2, p⟩ := q
  dsimp only at p
  by_cases hc : c dx dy μ = true
  · rw [if_pos hc] at p
    exact h1 pins s σ H x y v u Q I rx ry ⟨E', W, μ, dx, dy, ok, r1, r2, p⟩
  · rw [if_neg hc] at p
    exact h2 pins s σ H x y v u Q I rx ry ⟨E', W, μ, dx, dy, ok, r1, r2, p⟩
/-- == where the left one may be an instance -/
def eqP (C : Nat) (F : List D → Mu → R D) (ts : List Ty) : D → D → Mu → R D := fun x y μ => if (insD μ x).isSome = true then eqOwn C F ts x y μ else dEq x y μ
def neP (C : Nat) (F : List D → Mu → R D) (ts : List Ty) : D → D → Mu → R D := fun x y μ => if (insD μ x).isSome = true then neOwn C F ts x y μ else dNeX x y μ
/-! ### defs apart -/
theorem FunD.ne {K : PySem.W.Frag} {x x' q q' : Str} {p p' : Arguments} {b b' : List Stmt} {sc sc' : Scope} {dv dv' : List V} {kw kw' : List (Str × V)} {f f' : Addr} {fd fd' : FuncData} (F : FunD K x q p b sc dv kw f fd) (F' : FunD K x' q' p' b' sc' dv' kw' f' fd') (h : x ≠ x') : f ≠ f' := by
  rintro rfl
  obtain ⟨oc, od, dV, kV, doc, pm, an, cdv, ct, osl, rfl, lk, _⟩ := F.ex
  obtain ⟨oc', od', dV', kV', doc', pm', an', cdv', ct', osl', rfl, lk', _⟩ := F'.ex
  have e := lk.symm.trans lk'
  have e2 : PySem.W.fnOf x q p b sc dV kV doc pm an cdv ct = PySem.W.fnOf x' q' p' b' sc' dV' kV' doc' pm' an' cdv' ct' := by
    injection e with e
    injection e with e1 e2 e3 e4
    injection e3
  have e3 := congrArg FuncData.name e2
  exact h e3
end DL
/-! DL26: facts of classes by Bools of the written part. -/
namespace DL
open PySem L2 PySem.Spec PyProof.Rows
/-- the keyword default x of the def at f, if it is an object -/
def kwAt (f : Str × Option Str) (x : Str) (K : PySem.W.Frag) : Addr := match K.lookup (He.fAd K f) with
  | some ⟨_, _, .func fd, _⟩ => (match fd.kwdefaults with
    | .ref d => (match PySem.W.nsIn K d x with
      | some (some (.ref b)) => b
      | _ => 0)
    | _ => 0)
  | _ => 0
/-- f() -/
theorem de_call0 {X : Cx} {E : WX} {k : Nat} {f : Addr} {fd : FuncData} {ps : List Str} {F : List D → Mu → R D} {dd : List D} {x : Str} {p pos : Pos} (G : FnG X.prog X.w X.K X.mg X.base k f fd ps F) (c : Cal X E k) (hm : X.mg x = some (.ref f)) (hk : PySem.W.keepIn X.K (.ref f) = true) (b : Dfl X.K fd ps 0 dd)
    (hg : Gl X x := by rfl) (hdb : (x == ("__debug__" : Str)) = false := by decide) : DE X E (.Call (.Name x p) [] [] pos) (dcall F dd aNil) := by
  refine ⟨fun pins s σ H Q I q => ?_⟩
  obtain ⟨W, ρ, μ, ok, en, pq⟩ := q
  refine wpAny_Call_Name_kw (ld_glob I hg hm ?_ hdb)
  unfold dcall aNil at pq
  rw [R.bind_ok] at pq
  exact PySem.W.callWith_K0 I.kIn hk (callF_args (us := []) (vs := []) (n := 0) G c b I rfl .nil ok .nil pq)
/-- what isinstance may be asked about the class at C -/
def isCB (K : PySem.W.Frag) (C : Nat) : Bool :=
  decide (PySem.W.findIn K (.ref (cl K C)) "__class__" = some (some (.builtin "object.__class__"))) && (decide (PySem.W.specialIn K (.builtin "object.__class__") "__get__" = some (some (.builtin "getset_descriptor.__get__"))) &&
    (decide (PySem.W.takesIn K (.builtin "object.__class__") = some true) && decide (PySem.W.mroIn K (cl K C) (.type "object") = some true)))
theorem isCB_ok {K : PySem.W.Frag} {C : Nat} (c : Cls K (cl K C)) (h : isCB K C = true) : IsC K (cl K C) := by
  unfold isCB at h
  simp only [Bool.and_eq_true, decide_eq_true_eq] at h
  exact ⟨c, h.1, h.2.1, h.2.2.1, h.2.2.2⟩
def ktB (K : PySem.W.Frag) (c : Ty) (yes no : List Ty) : Bool :=
  yes.all (fun t => decide (PySem.W.kitOne K (t.val K) (c.val K) = some true)) && no.all fun t => decide (PySem.W.kitOne K (t.val K) (c.val K) = some false)
theorem ktB_ok {K : PySem.W.Frag} {c : Ty} {yes no : List Ty} (h : ktB K c yes no = true) : ∀ t b, ktL yes no t = some b → PySem.W.kitOne K (t.val K) (c.val K) = some b := by
  unfold ktB at h
  simp only [Bool.and_eq_true, decide_eq_true_eq, List.all_eq_true] at h
  obtain ⟨h1, h2⟩ := h
  intro t b e
  unfold ktL at e
  split at e
  · rename_i m
    cases e
    exact h1 t m
  · split at e
    · rename_i m
      cases e
      exact h2 t m
    · cases e
def basicT : List Ty := [.blt "NoneType", .blt "bool", .blt "int", .blt "str", .blt "tuple", .blt "list", .blt "dict"]
/-- the types of a right operand -/
def rightT (cs : List Nat) : List Ty := cs.map Ty.own ++ [.blt "NoneType", .blt "bool", .blt "int", .blt "str", .blt "tuple", .blt "list"]
def nfB (K : PySem.W.Frag) (C : Nat) (ts : List Ty) : Bool := ts.all fun t => PySem.W.notFirst K (cl K C) (t.val K)
theorem nfB_ok {K : PySem.W.Frag} {C : Nat} {ts : List Ty} (h : nfB K C ts = true) : ∀ t ∈ ts, PySem.W.notFirst K (cl K C) (t.val K) = true := List.all_eq_true.mp h
end DL
/-! DL27: what the head tells, in the form that the tops want. -/
namespace DL
open PySem L2 PySem.Spec PyProof.Rows
theorem holdV_ref {K : PySem.W.Frag} {n : Nat} {a : Addr} {d : D} (h : holdV K n (.ref a) d = true) : ∀ W, Rep K W (.ref a) d := by
  obtain ⟨v, r, p⟩ := holdV_rep n _ d h
  have e : v = .ref a := by
    cases v <;> first | (cases r; rfl) | (obtain ⟨_, r⟩ := r; cases r) | (cases r) | skip
  rw [← e]
  exact p
noncomputable def gloB_sub {K : PySem.W.Frag} {h : Heap} {mg : Str → Option Value} (X : K.In h) (G : h.Ns mainGlobals mg) {x : Str} {d : D} (c : gloB K x d = true) : { q : Value × V // mg x = some q.1 ∧ RelV q.2 q.1 ∧ ∀ W, Rep K W q.2 d } :=
  ⟨(Classical.choose (gloB_ok X G c), Classical.choose (Classical.choose_spec (gloB_ok X G c))), Classical.choose_spec (Classical.choose_spec (gloB_ok X G c))⟩
end DL
/-! DL28: tuple, list, sorted of a list that changes. -/
namespace DL
open PySem L2 PySem.Spec PyProof.Rows
/-- the list that stands at a handle -/
def thaw (μ : Mu) : D → D
  | .hdl l => match μ[l]? with
    | some (.lst xs) => if xs.length ≤ 1000000 then .lst xs else .hdl l
    | _ => .hdl l
  | d => d
theorem thaw_lq {K : PySem.W.Frag} {W : Wd} {H : Hp} {μ : Mu} {v : V} {d : D} {xs : List D} (ok : Ok K W H μ) (r : Rep K W v d) (h : thaw μ d = .lst xs) : ∃ a vs, v = .ref a ∧ Lq K H a vs ∧ Reps K W vs xs ∧ xs.length ≤ sizeLine := by
  cases r with
  | lst z h1 q =>
    simp [thaw] at h
    subst h
    exact ⟨_, _, rfl, same_lq ok.sub h1, q, z⟩
  | @hdl a l ha =>
    unfold thaw at h
    dsimp only at h
    cases hm : μ[l]? with
    | none => rw [hm] at h; cases h
    | some m =>
      rw [hm] at h
      cases m with
      | lst ys =>
        dsimp only at h
        split at h
        · rename_i hz
          cases h
          obtain ⟨o, ho, vs, rfl, rs⟩ := ok.cell l a _ ha hm
          exact ⟨a, vs, rfl, .inl (.inl ho), rs, le_line hz⟩
        · cases h
      | _ => cases h
  | _ => simp [thaw] at h
def bTupleX : List D → Mu → R D
  | [d], μ => match thaw μ d with
    | .lst xs => .ok (.tup xs) μ
    | .tup xs => .ok (.tup xs) μ
    | _ => .bad
  | _, _ => .bad
def bListX : List D → Mu → R D
  | [d], μ => match thaw μ d with
    | .lst xs => .ok (.lst xs) μ
    | .tup xs => .ok (.lst xs) μ
    | _ => .bad
  | _, _ => .bad
@[simp] theorem tupleX_lst (xs : List D) (μ : Mu) : bTupleX [.lst xs] μ = .ok (.tup xs) μ := of_eq_true (eq_self _)
@[simp] theorem tupleX_tup (xs : List D) (μ : Mu) : bTupleX [.tup xs] μ = .ok (.tup xs) μ := of_eq_true (eq_self _)
@[simp] theorem listX_lst (xs : List D) (μ : Mu) : bListX [.lst xs] μ = .ok (.lst xs) μ := of_eq_true (eq_self _)
@[simp] theorem listX_tup (xs : List D) (μ : Mu) : bListX [.tup xs] μ = .ok (.lst xs) μ := of_eq_true (eq_self _)
theorem tupleX_hdl {μ : Mu} {l : Nat} {xs : List D} (h : μ[l]? = some (.lst xs)) (z : xs.length ≤ 1000000) : bTupleX [.hdl l] μ = .ok (.tup xs) μ := by simp [bTupleX, thaw, h, z]
theorem listX_hdl {μ : Mu} {l : Nat} {xs : List D} (h : μ[l]? = some (.lst xs)) (z : xs.length ≤ 1000000) : bListX [.hdl l] μ = .ok (.lst xs) μ := by simp [bListX, thaw, h, z]
theorem thaw_tup {μ : Mu} {d : D} {xs : List D} (h : thaw μ d = .tup xs) : d = .tup xs := by
  cases d with
  | hdl l =>
    unfold thaw at h
    dsimp only at h
    split at h
    · split at h <;> cases h
    · cases h
  | _ => simpa [thaw] using h
section
variable {X : Cx} {E : WX}
theorem cx_tupleX : CallX X E (.type "tuple") bTupleX := callx fun W H μ ds xs Q ok r p => by
  unfold bTupleX at p
  split at p
  · cases r with
    | cons r1 r2 =>
      cases r2
      split at p
      · rename_i ys ht
        obtain ⟨a, vs, rfl, h, rs, z⟩ := thaw_lq ok r1 ht
        exact ⟨_, call_tuple_of, _, _, rfl, .inl ⟨h.sq, fun l hl => p _ _ _ (Go.new ok hl) (ok.new hl) (rep_tup ok hl z rs)⟩⟩
      · rename_i ys ht
        have e := thaw_tup ht
        subst e
        cases r1 with
        | tup z h q => exact ⟨_, call_tuple_of, _, _, rfl, .inr ⟨same_t ok.sub h, p W _ H (Go.refl _ _) ok (.tup z h q)⟩⟩
      · exact p.elim
  · exact p.elim
theorem cx_listX : CallX X E (.type "list") bListX := callx fun W H μ ds xs Q ok r p => by
  unfold bListX at p
  split at p
  · cases r with
    | cons r1 r2 =>
      cases r2
      split at p
      · rename_i ys ht
        obtain ⟨a, vs, rfl, h, rs, z⟩ := thaw_lq ok r1 ht
        exact ⟨_, call_list_of, _, _, rfl, .inl h.sq, fun l hl => p _ _ _ (Go.new ok hl) (ok.new hl) (rep_lst ok hl z rs)⟩
      · rename_i ys ht
        have e := thaw_tup ht
        subst e
        cases r1 with
        | tup z h q => exact ⟨_, call_list_of, _, _, rfl, .inr (same_t ok.sub h), fun l hl => p _ _ _ (Go.new ok hl) (ok.new hl) (rep_lst ok hl z q)⟩
      · exact p.elim
  · exact p.elim
end
end DL
/-! DL29: small plain data: its text, == and != of it. -/
namespace DL
open PySem L2 PySem.Spec PyProof.Rows
/-- numbers, texts and tuples of them, so many at each depth -/
def tm : List Nat → D → Bool
  | _, .int i => decide (i.natAbs < 10 ^ 11)
  | _, .str x => decide (x.cps.size ≤ 40) && x.cps.toList.all fun c => decide (c < 128)
  | a :: as, .tup xs => decide (xs.length ≤ a) && xs.all (tm as)
  | _, _ => false
def bulkB : List Nat → Nat
  | [] => 40
  | a :: as => 40 + a * (bulkB as + 1)
structure PyOk (n b : Nat) (p : PyData) : Prop where
  h1 : p.leavesShort 13 = true
  h2 : p.showable = true
  h3 : p.hasDict = false
  h4 : p.depth ≤ n
  h5 : p.bulk ≤ b
  h6 : p.canLay0 = true
theorem bulkB_40 : ∀ as : List Nat, 40 ≤ bulkB as
  | [] => Nat.le_refl _
  | a :: as => by unfold bulkB; omega
theorem str_leaf {x : Str} (h : (x.cps.toList.all fun c => decide (c < 128)) = true) : (PyData.str x).leavesShort 13 = true := by
  simp only [List.all_eq_true, decide_eq_true_eq] at h
  simp only [PyData.leavesShort, List.all_eq_true, decide_eq_true_eq]
  exact fun c hc => Nat.lt_trans (h c hc) (by decide)
theorem str_lay {x : Str} (h : (x.cps.toList.all fun c => decide (c < 128)) = true) : (PyData.str x).canLay0 = true := by
  simp only [List.all_eq_true, decide_eq_true_eq] at h
  simp only [PyData.canLay0, PyData.strOk]
  rw [← Array.all_toList]
  simp only [List.all_eq_true, decide_eq_true_eq]
  exact fun c hc => Nat.lt_trans (h c hc) (by decide)
theorem tm_py : ∀ (as : List Nat) (d : D), tm as d = true → ∃ p, d.py = some p ∧ PyOk as.length (bulkB as) p := by
  intro as
  induction as with
  | nil =>
    intro d h
    cases d with
    | int i =>
      have hi : i.natAbs < 10 ^ 11 := by simpa [tm] using h
      exact ⟨.int i, by simp [D.py], ⟨by simp [PyData.leavesShort]; exact PyData.shown_int_le2 (by omega) (by omega), by simp [PyData.showable]; exact lt_log (by omega), by simp [PyData.hasDict], by simp [PyData.depth], by simp [PyData.bulk], by simp [PyData.canLay0]⟩⟩
    | str x =>
      simp only [tm, Bool.and_eq_true, decide_eq_true_eq] at h
      exact ⟨.str x, by simp [D.py], ⟨str_leaf h.2, by simp [PyData.showable], by simp [PyData.hasDict], by simp [PyData.depth], by simp only [PyData.bulk]; exact h.1, str_lay h.2⟩⟩
    | _ => simp [tm] at h
  | cons a as ih =>
    intro d h
    cases d with
    | int i =>
      have hi : i.natAbs < 10 ^ 11 := by simpa [tm] using h
      exact ⟨.int i, by simp [D.py], ⟨by simp [PyData.leavesShort]; exact PyData.shown_int_le2 (by omega) (by omega), by simp [PyData.showable]; exact lt_log (by omega), by simp [PyData.hasDict], by simp [PyData.depth], by simp [PyData.bulk], by simp [PyData.canLay0]⟩⟩
    | str x =>
      simp only [tm, Bool.and_eq_true, decide_eq_true_eq] at h
      exact ⟨.str x, by simp [D.py], ⟨str_leaf h.2, by simp [PyData.showable], by simp [PyData.hasDict], by simp [PyData.depth], by simp only [PyData.bulk]; exact Nat.le_trans h.1 (bulkB_40 _), str_lay h.2⟩⟩
    | tup xs =>
      simp only [tm, Bool.and_eq_true, decide_eq_true_eq, List.all_eq_true] at h
      obtain ⟨hl, hx⟩ := h
      have key : ∀ ys : List D, (∀ y ∈ ys, tm as y = true) → ∃ ps, D.pys ys = some ps ∧ PyData.leavesShortAll 13 ps = true ∧ PyData.showableAll ps = true ∧ PyData.hasDictAll ps = false ∧ PyData.depthAll ps ≤ as.length ∧ PyData.bulkAll ps ≤ ys.length * (bulkB as + 1) ∧ PyData.canLayAll0 ps = true := by
        intro ys
        induction ys with
        | nil => exact fun _ => ⟨[], by simp [D.pys], by simp [PyData.leavesShortAll], by simp [PyData.showableAll], by simp [PyData.hasDictAll], by simp [PyData.depthAll], by simp [PyData.bulkAll], by simp [PyData.canLayAll0]⟩
        | cons y ys ihy =>
          intro hy
          obtain ⟨p, e1, q⟩ := ih y (hy y (by simp))
          obtain ⟨ps, e2, q1, q2, q3, q4, q5, q6⟩ := ihy fun z hz => hy z (List.mem_cons_of_mem _ hz)
          refine ⟨p :: ps, by simp [D.pys, e1, e2], by simp [PyData.leavesShortAll, q.h1, q1], by simp [PyData.showableAll, q.h2, q2], by simp [PyData.hasDictAll, q.h3, q3], ?_, ?_, by simp [PyData.canLayAll0, q.h6, q6]⟩
          · have := q.h4
            simp only [PyData.depthAll]
            omega
          · have := q.h5
            simp only [PyData.bulkAll, List.length_cons, Nat.add_mul]
            omega
      obtain ⟨ps, e, q1, q2, q3, q4, q5, q6⟩ := key xs hx
      refine ⟨.tuple ps, by simp [D.py, e], ⟨by simpa [PyData.leavesShort] using q1, by simpa [PyData.showable] using q2, by simpa [PyData.hasDict] using q3, by simp [PyData.depth]; exact q4, ?_, by simpa [PyData.canLay0] using q6⟩⟩
      have := Nat.mul_le_mul_right (bulkB as + 1) hl
      simp only [PyData.bulk, bulkB]
      omega
    | _ => simp [tm] at h
/-- repr of it -/
theorem tm_repr {as : List Nat} {d : D} (h : tm as d = true) (h1 : as.length ≤ 40) (h2 : bulkB as ≤ 60000) (μ : Mu) : ∃ x, bRepr [d] μ = .ok (.str x) μ := by
  obtain ⟨p, e, q⟩ := tm_py as d h
  have r := repr_short e q.h1 q.h2 q.h3 (Nat.le_trans q.h4 h1) (Nat.le_trans q.h5 h2)
  exact ⟨p.shown, by simp [bRepr, r]⟩
/-- no handle in it -/
theorem tm_closed : ∀ (as : List Nat) (d : D) (n : Nat), tm as d = true → d.closed n = true := by
  have cl : ∀ (n : Nat) (xs : List D), (∀ x ∈ xs, x.closed n = true) → D.closedL n xs = true := by
    intro n xs
    induction xs with
    | nil => exact fun _ => by simp [D.closedL]
    | cons x xs ih => exact fun h => by simp [D.closedL, h x (by simp), ih fun y hy => h y (List.mem_cons_of_mem _ hy)]
  intro as
  induction as with
  | nil => intro d n h; cases d <;> simp [tm] at h <;> simp [D.closed]
  | cons a as ih =>
    intro d n h
    cases d with
    | tup xs =>
      simp only [tm, Bool.and_eq_true, decide_eq_true_eq, List.all_eq_true] at h
      simp only [D.closed]
      exact cl n xs fun x hx => ih x n (h.2 x hx)
    | int i => simp [D.closed]
    | str x => simp [D.closed]
    | _ => simp [tm] at h
/-- == of it is = -/
theorem tm_eq : ∀ (as : List Nat) (n : Nat) (x y : D), as.length < n → tm as x = true → tm as y = true → ∃ b, eqD n x y = some b ∧ (b = true ↔ x = y) := by
  intro as
  induction as with
  | nil =>
    intro n x y hn hx hy
    obtain ⟨m, rfl⟩ : ∃ m, n = m + 1 := ⟨n - 1, by simp at hn; omega⟩
    cases x <;> simp [tm] at hx <;> cases y <;> simp [tm] at hy <;> simp [eqD, D.kd, eqV]
  | cons a as ih =>
    intro n x y hn hx hy
    obtain ⟨m, rfl⟩ : ∃ m, n = m + 1 := ⟨n - 1, by simp at hn; omega⟩
    have hm : as.length < m := by simp at hn; omega
    cases x with
    | int i => cases y <;> simp [tm] at hy <;> simp [eqD, D.kd, eqV]
    | str i => cases y <;> simp [tm] at hy <;> simp [eqD, D.kd, eqV]
    | tup xs =>
      cases y with
      | int i => exact ⟨false, by simp [eqD, D.kd], by simp⟩
      | str i => exact ⟨false, by simp [eqD, D.kd], by simp⟩
      | tup ys =>
        simp only [tm, Bool.and_eq_true, decide_eq_true_eq, List.all_eq_true] at hx hy
        have key : ∀ xs ys : List D, (∀ x ∈ xs, tm as x = true) → (∀ y ∈ ys, tm as y = true) → ∃ b, eqL (eqD m) xs ys = some b ∧ (b = true ↔ xs = ys) := by
          intro xs
          induction xs with
          | nil =>
            intro ys _ _
            cases ys with
            | nil => exact ⟨true, by simp [eqL], by simp⟩
            | cons y ys => exact ⟨false, by simp [eqL], by simp⟩
          | cons x xs ihx =>
            intro ys h1 h2
            cases ys with
            | nil => exact ⟨false, by simp [eqL], by simp⟩
            | cons y ys =>
              obtain ⟨b1, e1, i1⟩ := ih m x y hm (h1 x (by simp)) (h2 y (by simp))
              obtain ⟨b2, e2, i2⟩ := ihx ys (fun z hz => h1 z (List.mem_cons_of_mem _ hz)) fun z hz => h2 z (List.mem_cons_of_mem _ hz)
              refine ⟨b1 && b2, by simp [eqL, e1, e2], ?_⟩
              rw [Bool.and_eq_true, i1, i2, List.cons.injEq]
        obtain ⟨b, e, i⟩ := key xs ys hx.2 hy.2
        exact ⟨b, by simp [eqD, D.kd, e], by rw [i]; simp⟩
      | _ => simp [tm] at hy
    | _ => simp [tm] at hx
theorem tm_dEq {as : List Nat} {x y : D} (hx : tm as x = true) (hy : tm as y = true) (hn : as.length < 20) (μ : Mu) : ∃ b, dEq x y μ = .ok (.bl b) μ ∧ (b = true ↔ x = y) := by
  obtain ⟨b, e, i⟩ := tm_eq as 20 x y hn hx hy
  exact ⟨b, by simp [dEq, e], i⟩
theorem tm_self {as : List Nat} {x : D} (hx : tm as x = true) (hn : as.length < 20) (μ : Mu) : dEq x x μ = .ok (.bl true) μ := by
  obtain ⟨b, e, i⟩ := tm_dEq hx hx hn μ
  rw [e, i.mpr rfl]
end DL
/-! DL30: framed defs reckoned; counted loops; the laws' draws (with addX, mulX). -/
namespace DL
open PySem L2 PySem.Spec PyProof.Rows
theorem framed_ok {F : List D → Mu → R D} {ds : List D} {d : D} {μ μ1 : Mu} (hc : D.closedL 0 ds = true) (h : F ds [] = .ok d μ1) (hd : d.closed 0 = true) : framed F ds μ = .ok d μ := by
  unfold framed
  rw [if_pos hc, h]
  dsimp only
  rw [if_pos hd]
theorem framed_open {F : List D → Mu → R D} {ds : List D} {μ : Mu} (hc : D.closedL 0 ds = false) : framed F ds μ = F ds μ := by
  unfold framed
  rw [hc]
  simp
theorem trunc0 {d : D} {μ1 : Mu} (hd : d.closed 0 = true) : trunc 0 d μ1 = .ok d [] := by
  unfold trunc closedMu
  simp [hd]
/-- a framed def, by its body over no cells -/
theorem fr_ok {n : Nat} {g : FS} {ds : List D} {d : D} {μ μ1 : Mu} (hc : D.closedL 0 ds = true) (h : g (startD n ds) [] = .rt d μ1) (hd : d.closed 0 = true) : framed (callF n g) ds μ = .ok d μ := by
  refine framed_ok (μ1 := []) hc ?_ hd
  unfold callF
  rw [h]
  exact trunc0 hd
theorem open_hdl (l : Nat) (ds : List D) : D.closedL 0 (.hdl l :: ds) = false := by simp [D.closedL, D.closed]
theorem closed_of {n : Nat} : ∀ {xs : List D}, (∀ x ∈ xs, x.closed n = true) → D.closedL n xs = true
  | [], _ => by simp [D.closedL]
  | x :: xs, h => by simp [D.closedL, h x (by simp), closed_of (xs := xs) fun y hy => h y (List.mem_cons_of_mem _ hy)]
/-- a loop over numbers, counted -/
theorem for_upto {t : Tg} {b : FS} (I : Nat → En → Mu → Prop) : ∀ {n k : Nat} {ρ : En} {μ : Mu}, (∀ i, k ≤ i → i < k + n → ∀ ρ μ, I i ρ μ → ∃ ρ1 ρ2 μ2, asg t (.int (i : Int)) ρ = some ρ1 ∧ b ρ1 μ = .nx ρ2 μ2 ∧ I (i + 1) ρ2 μ2) → I k ρ μ → ∃ ρ' μ', forD t b (upto k n) ρ μ = .nx ρ' μ' ∧ I (k + n) ρ' μ'
  | 0, k, ρ, μ, _, h => ⟨ρ, μ, by simp [upto, for_nil], h⟩
  | n + 1, k, ρ, μ, hb, h => by
    obtain ⟨ρ1, ρ2, μ2, e1, e2, i2⟩ := hb k (Nat.le_refl _) (by omega) ρ μ h
    obtain ⟨ρ', μ', e, i'⟩ := for_upto (n := n) (k := k + 1) I (fun i h1 h2 ρ μ hi => hb i (by omega) (by omega) ρ μ hi) i2
    refine ⟨ρ', μ', ?_, by rw [show k + (n + 1) = k + 1 + n by omega]; exact i'⟩
    rw [upto, for_cons, e1]
    dsimp only
    rw [e2]
    exact e
/-- .. over any list, counted -/
theorem for_list {t : Tg} {b : FS} (I : Nat → En → Mu → Prop) : ∀ {xs : List D} {k : Nat} {ρ : En} {μ : Mu}, (∀ i x, xs[i]? = some x → ∀ ρ μ, I (k + i) ρ μ → ∃ ρ1 ρ2 μ2, asg t x ρ = some ρ1 ∧ b ρ1 μ = .nx ρ2 μ2 ∧ I (k + i + 1) ρ2 μ2) → I k ρ μ → ∃ ρ' μ', forD t b xs ρ μ = .nx ρ' μ' ∧ I (k + xs.length) ρ' μ'
  | [], k, ρ, μ, _, h => ⟨ρ, μ, for_nil _ _ _ _, h⟩
  | x :: xs, k, ρ, μ, hb, h => by
    obtain ⟨ρ1, ρ2, μ2, e1, e2, i2⟩ := hb 0 x rfl ρ μ h
    obtain ⟨ρ', μ', e, i'⟩ := for_list (xs := xs) (k := k + 1) I (fun i y hy ρ μ hi => by
      have := hb (i + 1) y (by simpa using hy) ρ μ (by rw [show k + (i + 1) = k + 1 + i by omega]; exact hi)
      rw [show k + (i + 1) = k + 1 + i by omega] at this
      exact this) i2
    refine ⟨ρ', μ', ?_, by rw [List.length_cons, show k + (xs.length + 1) = k + 1 + xs.length by omega]; exact i'⟩
    rw [for_cons, e1]
    dsimp only
    rw [e2]
    exact e
/-- side by side -/
inductive F2 {α β : Type} (P : α → β → Prop) : List α → List β → Prop
  | nil : F2 P [] []
  | cons {x : α} {y : β} {xs : List α} {ys : List β} : P x y → F2 P xs ys → F2 P (x :: xs) (y :: ys)
theorem F2.length {α β : Type} {P : α → β → Prop} : ∀ {xs : List α} {ys : List β}, F2 P xs ys → ys.length = xs.length
  | _, _, .nil => rfl
  | _, _, .cons _ h => by simp [h.length]
theorem F2.imp {α β : Type} {P Q : α → β → Prop} (i : ∀ x y, P x y → Q x y) : ∀ {xs : List α} {ys : List β}, F2 P xs ys → F2 Q xs ys
  | _, _, .nil => .nil
  | _, _, .cons p h => .cons (i _ _ p) (h.imp i)
theorem F2.right {α β : Type} {P : α → β → Prop} : ∀ {xs : List α} {ys : List β}, F2 P xs ys → ∀ y ∈ ys, ∃ x ∈ xs, P x y
  | _, _, .nil, _, h => by cases h
  | _, _, .cons (x := x) p t, y, h => by
    rcases List.mem_cons.mp h with rfl | h
    · exact ⟨x, by simp, p⟩
    · obtain ⟨z, hz, q⟩ := t.right y h
      exact ⟨z, List.mem_cons_of_mem _ hz, q⟩
theorem F2.eq {α : Type} : ∀ {xs ys : List α}, F2 (fun x y => y = x) xs ys → ys = xs
  | _, _, .nil => rfl
  | _, _, .cons p h => by rw [p, h.eq]
/-- a comprehension with effects on the cells: what is taken -/
theorem lc_eff {t : Tg} {ft : FT} {fe : FE} {ρ : En} (I : Mu → Prop) (P : D → D → Prop) : ∀ {xs : List D} {μ : Mu}, (∀ x ∈ xs, ∀ μ, I μ → ∃ ρ1 b μ1, asg t x ρ = some ρ1 ∧ ft ρ1 μ = .ok b μ1 ∧ I μ1 ∧ (b = true → ∃ y μ2, fe ρ1 μ1 = .ok y μ2 ∧ I μ2 ∧ P x y)) → I μ →
    ∃ ys zs μ', lcD t ft fe ρ xs μ = .ok ys μ' ∧ I μ' ∧ List.Sublist zs xs ∧ F2 P zs ys
  | [], μ, _, i => ⟨[], [], μ, by simp, i, List.Sublist.refl _, .nil⟩
  | x :: xs, μ, h, i => by
    obtain ⟨ρ1, b, μ1, e1, e2, i1, hb⟩ := h x (by simp) μ i
    cases b with
    | false =>
      obtain ⟨ys, zs, μ', e, i', s, f⟩ := lc_eff (xs := xs) I P (fun z hz => h z (List.mem_cons_of_mem _ hz)) i1
      exact ⟨ys, zs, μ', by rw [lcD, e1]; simp [e2, e], i', s.cons _, f⟩
    | true =>
      obtain ⟨y, μ2, e3, i2, p⟩ := hb rfl
      obtain ⟨ys, zs, μ', e, i', s, f⟩ := lc_eff (xs := xs) I P (fun z hz => h z (List.mem_cons_of_mem _ hz)) i2
      exact ⟨y :: ys, x :: zs, μ', by rw [lcD, e1]; simp [e2, e3, e], i', s.cons₂ _, .cons p f⟩
/-! ### the laws' draws -/
def gPoolX1 : FS := gif (dtest (dbin ltD (dvar 1) (dcallB bLen (aCons (dvar 0) aNil)))) (gasg (.nm 2) (dcallB bAbs (aCons (dbin dIx (dvar 0) (dvar 1)) aNil))) gnil
def gPoolX2 : FS := (gseq (gasg (.nm 3) (dbin modD (dbin mulX (dbin addX (dbin addX (dbin addX (dbin modD (dvar 2) (dc (.int 2147483629))) (dbin mulX (dbin mulX (dc (.int 7919)) (dvar 1)) (dvar 1))) (dbin mulX (dc (.int 31)) (dvar 1))) (dc (.int 17))) (dc (.int 48271))) (dc (.int 2147483647))))
    (gret (dcel (aCons (dbin mulX (dvar 2) (dcallB bInt (aCons (dbin geD (dvar 2) (dbin powD (dc (.int 10)) (dc (.int 18)))) aNil))) (aCons (dbin modD (dbin mulX (dvar 3) (dvar 3)) (dc (.int 2147483629))) aNil)))))
def gPoolX : FS := gseq (gasg (.nm 2) (dc (.int 0))) (gseq gPoolX1 gPoolX2)
def gTakeX : FS := (gseq (gif (dtest (dbin gtD (dbin dIx (dvar 0) (dc (.int 0))) (dc (.int 0)))) (gseq (gasg (.nm 2) (dbin modD (dbin dIx (dvar 0) (dc (.int 0))) (dvar 1)))
    (gseq (gsetix (dvar 0) (dc (.int 0)) (dbin fdivD (dbin dIx (dvar 0) (dc (.int 0))) (dvar 1)))
    (gret (dvar 2)))) gnil)
    (gseq (gsetix (dvar 0) (dc (.int 1)) (dbin modD (dbin addX (dbin mulX (dbin dIx (dvar 0) (dc (.int 1))) (dc (.int 48271))) (dc (.int 12345))) (dc (.int 2147483647))))
    (gret (dbin modD (dbin fdivD (dbin modD (dbin mulX (dbin dIx (dvar 0) (dc (.int 1))) (dbin dIx (dvar 0) (dc (.int 1)))) (dc (.int 2147483629))) (dc (.int 64))) (dvar 1)))))
theorem poolX2 (s : D) (k : Nat) (hk : k ≤ 1000) (c : Int) (μ : Mu) : ∃ a b : Int, gPoolX2 [some s, some (.int k), some (.int c), none] μ = .rt (.hdl μ.length) (μ ++ [.lst [.int a, .int b]]) ∧ 0 ≤ b ∧ b < 2147483648 := by
  have m0 := Int.emod_nonneg ((c % 2147483629 + 7919 * (k : Int) * k + 31 * k + 17) * 48271) (b := 2147483647) (by omega)
  have m1 := Int.emod_lt_of_pos ((c % 2147483629 + 7919 * (k : Int) * k + 31 * k + 17) * 48271) (b := 2147483647) (by omega)
  generalize hx : (c % 2147483629 + 7919 * (k : Int) * k + 31 * k + 17) * 48271 % 2147483647 = x at m0 m1
  have n0 := Int.emod_nonneg (x * x) (b := 2147483629) (by omega)
  have n1 := Int.emod_lt_of_pos (x * x) (b := 2147483629) (by omega)
  generalize hy : x * x % 2147483629 = y at n0 n1
  have hk2 : -18446744073709551616 < (k : Int) ∧ (k : Int) < 18446744073709551616 := by omega
  have hx2 : -18446744073709551616 < x ∧ x < 18446744073709551616 := by omega
  by_cases hc18 : (1000000000000000000 : Int) ≤ c
  · exact ⟨c, y, by simp [gPoolX2, hk2.1, hk2.2, bInt, hc18, hx, hx2.1, hx2.2, hy], n0, by omega⟩
  · exact ⟨0, y, by simp [gPoolX2, hk2.1, hk2.2, bInt, hc18, hx, hx2.1, hx2.2, hy], n0, by omega⟩
theorem poolX_ok (ns : List Int) (hl : ns.length ≤ 1000) (k : Nat) (hk : k ≤ 1000) (μ : Mu) (hμ : AllC μ) : ∃ μ', callF 4 gPoolX [.lst (ns.map .int), .int k] μ = .ok (.hdl μ.length) μ' ∧ Pool μ' μ.length ∧ ∃ m, μ' = μ ++ [m] := by
  have main : ∀ c : Int, gPoolX1 [some (.lst (ns.map .int)), some (.int k), some (.int 0), none] μ = .nx [some (.lst (ns.map .int)), some (.int k), some (.int c), none] μ →
      ∃ μ', callF 4 gPoolX [.lst (ns.map .int), .int k] μ = .ok (.hdl μ.length) μ' ∧ Pool μ' μ.length ∧ ∃ m, μ' = μ ++ [m] := by
    intro c hc
    obtain ⟨a, b, e, b0, b1⟩ := poolX2 (.lst (ns.map .int)) k hk c μ
    have body : gPoolX (startD 4 [.lst (ns.map .int), .int k]) μ = .rt (.hdl μ.length) (μ ++ [.lst [.int a, .int b]]) := by
      simp [gPoolX, startD, hc, e]
    refine ⟨μ ++ [.lst [.int a, .int b]], ?_, ⟨⟨a, b, by simp, b0, b1⟩, hμ.app fun m hm n => by rw [List.mem_singleton.mp hm]; exact pool_cl _ _ n⟩, _, rfl⟩
    rw [callF_eq _ _ _ _ _ _ body]
    simp [trunc, D.closed]
  by_cases h : k < ns.length
  · refine main (if ns[k] < 0 then -ns[k] else ns[k]) ?_
    have hk' : (k : Int) < ns.length := by omega
    have e : atI (ns.map D.int) k = some (.int ns[k]) := by simp [atI, ixN, h]
    simp [gPoolX1, bLen, lenD, seqD, hk', e]
  · refine main 0 ?_
    have hk' : ¬ (k : Int) < ns.length := by omega
    simp [gPoolX1, bLen, lenD, seqD, hk']
theorem takeX_ok {μ : Mu} {l : Nat} (h : Pool μ l) (n : Int) (hn : 0 < n ∧ n < 1073741824) : ∃ v μ', framed (callF 3 gTakeX) [.hdl l, .int n] μ = .ok (.int v) μ' ∧ 0 ≤ v ∧ v < n ∧ Pool μ' l ∧ ∃ m, μ' = μ.set l m := by
  rw [framed_open (open_hdl _ _)]
  obtain ⟨a, b, e, b0, b1⟩ := h.ex
  have hll : l < μ.length := (List.getElem?_eq_some_iff.mp e).1
  by_cases ha : 0 < a
  · have body : gTakeX (startD 3 [.hdl l, .int n]) μ = .rt (.int (a % n)) (μ.set l (.lst [.int (a / n), .int b])) := by
      simp [gTakeX, startD, ix_hdl e, ha, hn.1, hn.2, gsetix, e, ixN]
    refine ⟨_, _, (callF_eq _ _ _ _ _ _ body).trans (trunc_len (by simp) (by simp [D.closed]) (h.cl.set l (pool_cl _ _))), Int.emod_nonneg _ (by omega), Int.emod_lt_of_pos _ hn.1, ⟨⟨a / n, b, by simp [hll], b0, b1⟩, h.cl.set l (pool_cl _ _)⟩, _, rfl⟩
  · have m0 := Int.emod_nonneg (b * 48271 + 12345) (b := 2147483647) (by omega)
    have m1 := Int.emod_lt_of_pos (b * 48271 + 12345) (b := 2147483647) (by omega)
    generalize hy : (b * 48271 + 12345) % 2147483647 = y at m0 m1
    have hb2 : -18446744073709551616 < b ∧ b < 18446744073709551616 := by omega
    have hy2 : -18446744073709551616 < y ∧ y < 18446744073709551616 := by omega
    have e2 : (μ.set l (.lst [.int a, .int y]))[l]? = some (.lst [.int a, .int y]) := by simp [hll]
    have body : gTakeX (startD 3 [.hdl l, .int n]) μ = .rt (.int (y * y % 2147483629 / 64 % n)) (μ.set l (.lst [.int a, .int y])) := by
      simp [gTakeX, startD, ix_hdl e, ha, hn.1, hn.2, gsetix, e, ixN, hy, ix_hdl e2, hb2.1, hb2.2, hy2.1, hy2.2]
    refine ⟨_, _, (callF_eq _ _ _ _ _ _ body).trans (trunc_len (by simp) (by simp [D.closed]) (h.cl.set l (pool_cl _ _))), Int.emod_nonneg _ (by omega), Int.emod_lt_of_pos _ hn.1, ⟨⟨_, y, e2, m0, by omega⟩, h.cl.set l (pool_cl _ _)⟩, _, rfl⟩
/-- two memories that differ at the pool alone -/
structure Step (l : Nat) (μ μ' : Mu) : Prop where
  pool : Pool μ' l
  len : μ'.length = μ.length
  at_ : ∀ i, i ≠ l → μ'[i]? = μ[i]?
theorem Step.refl {l : Nat} {μ : Mu} (h : Pool μ l) : Step l μ μ := ⟨h, rfl, fun _ _ => rfl⟩
theorem Step.trans {l : Nat} {μ μ1 μ2 : Mu} (a : Step l μ μ1) (b : Step l μ1 μ2) : Step l μ μ2 := ⟨b.pool, b.len.trans a.len, fun i h => (b.at_ i h).trans (a.at_ i h)⟩
theorem take_step {μ : Mu} {l : Nat} (h : Pool μ l) (n : Int) (hn : 0 < n ∧ n < 1073741824) : ∃ v μ', framed (callF 3 gTakeX) [.hdl l, .int n] μ = .ok (.int v) μ' ∧ 0 ≤ v ∧ v < n ∧ Step l μ μ' := by
  obtain ⟨v, μ', e, h1, h2, p, m, rfl⟩ := takeX_ok h n hn
  exact ⟨v, _, e, h1, h2, p, by simp, fun i hi => by rw [List.getElem?_set_ne (Ne.symm hi)]⟩
/-- a def that was handed the pool gives back a datum and forgets its own cells -/
theorem call_step {n : Nat} {g : FS} {l : Nat} {ds : List D} {d : D} {μ μ1 : Mu} (h : g (startD n (.hdl l :: ds)) μ = .rt d μ1) (hd : d.closed 0 = true) (p : Pool μ1 l) (hl : l < μ.length) (hm : μ.length ≤ μ1.length) (hs : ∀ i, i < μ.length → i ≠ l → μ1[i]? = μ[i]?) (hdm : ∀ n, d.closed n = true) :
    ∃ μ', framed (callF n g) (.hdl l :: ds) μ = .ok d μ' ∧ Step l μ μ' := by
  rw [framed_open (open_hdl _ _)]
  unfold callF
  rw [h]
  dsimp only
  unfold trunc
  rw [if_pos (by rw [hdm, p.cl.mu]; rfl)]
  refine ⟨_, rfl, ⟨?_, fun m hm => p.cl m (List.mem_of_mem_take hm)⟩, by simp; omega, fun i hi => ?_⟩
  · obtain ⟨a, b, e, h1, h2⟩ := p.ex
    exact ⟨a, b, by rw [List.getElem?_take_of_lt hl]; exact e, h1, h2⟩
  · by_cases z : i < μ.length
    · rw [List.getElem?_take_of_lt z]
      exact hs i z hi
    · rw [List.getElem?_eq_none (by simp; omega), List.getElem?_eq_none (by omega)]
end DL
/-! DL31: which kind is of which. -/
namespace DL
open PySem L2
@[simp] theorem k_NoneType__bool : kitB "NoneType" "bool" = some false := by decide +kernel
@[simp] theorem k_bool__bool : kitB "bool" "bool" = some true := by decide +kernel
@[simp] theorem k_int__bool : kitB "int" "bool" = some false := by decide +kernel
@[simp] theorem k_str__bool : kitB "str" "bool" = some false := by decide +kernel
@[simp] theorem k_tuple__bool : kitB "tuple" "bool" = some false := by decide +kernel
@[simp] theorem k_list__bool : kitB "list" "bool" = some false := by decide +kernel
@[simp] theorem k_dict__bool : kitB "dict" "bool" = some false := by decide +kernel
@[simp] theorem k_NoneType__int : kitB "NoneType" "int" = some false := by decide +kernel
@[simp] theorem k_bool__int : kitB "bool" "int" = some true := by decide +kernel
@[simp] theorem k_int__int : kitB "int" "int" = some true := by decide +kernel
@[simp] theorem k_str__int : kitB "str" "int" = some false := by decide +kernel
@[simp] theorem k_tuple__int : kitB "tuple" "int" = some false := by decide +kernel
@[simp] theorem k_list__int : kitB "list" "int" = some false := by decide +kernel
@[simp] theorem k_dict__int : kitB "dict" "int" = some false := by decide +kernel
@[simp] theorem k_NoneType__tuple : kitB "NoneType" "tuple" = some false := by decide +kernel
@[simp] theorem k_bool__tuple : kitB "bool" "tuple" = some false := by decide +kernel
@[simp] theorem k_int__tuple : kitB "int" "tuple" = some false := by decide +kernel
@[simp] theorem k_str__tuple : kitB "str" "tuple" = some false := by decide +kernel
@[simp] theorem k_tuple__tuple : kitB "tuple" "tuple" = some true := by decide +kernel
@[simp] theorem k_list__tuple : kitB "list" "tuple" = some false := by decide +kernel
@[simp] theorem k_dict__tuple : kitB "dict" "tuple" = some false := by decide +kernel
@[simp] theorem k_NoneType__list : kitB "NoneType" "list" = some false := by decide +kernel
@[simp] theorem k_bool__list : kitB "bool" "list" = some false := by decide +kernel
@[simp] theorem k_int__list : kitB "int" "list" = some false := by decide +kernel
@[simp] theorem k_str__list : kitB "str" "list" = some false := by decide +kernel
@[simp] theorem k_tuple__list : kitB "tuple" "list" = some false := by decide +kernel
@[simp] theorem k_list__list : kitB "list" "list" = some true := by decide +kernel
@[simp] theorem k_dict__list : kitB "dict" "list" = some false := by decide +kernel
@[simp] theorem k_NoneType__dict : kitB "NoneType" "dict" = some false := by decide +kernel
@[simp] theorem k_bool__dict : kitB "bool" "dict" = some false := by decide +kernel
@[simp] theorem k_int__dict : kitB "int" "dict" = some false := by decide +kernel
@[simp] theorem k_str__dict : kitB "str" "dict" = some false := by decide +kernel
@[simp] theorem k_tuple__dict : kitB "tuple" "dict" = some false := by decide +kernel
@[simp] theorem k_list__dict : kitB "list" "dict" = some false := by decide +kernel
@[simp] theorem k_dict__dict : kitB "dict" "dict" = some true := by decide +kernel
/-- it is true, whatever cells there are -/
def isTrue : R D → Bool
  | .ok (.bl b) _ => b
  | _ => false
theorem fr_true {F : List D → Mu → R D} {ds : List D} (hc : D.closedL 0 ds = true) (h : isTrue (framed F ds []) = true) (μ : Mu) : framed F ds μ = .ok (.bl true) μ := by
  cases hF : F ds [] with
  | ok d μ1 =>
    by_cases cd : d.closed 0 = true
    · rw [framed_ok (μ := []) hc hF cd] at h
      cases d <;> simp [isTrue] at h
      subst h
      exact framed_ok hc hF (by simp [D.closed])
    · unfold framed at h
      rw [if_pos hc, hF] at h
      dsimp only at h
      rw [if_neg cd] at h
      cases d <;> simp [isTrue] at h
      exact absurd (by simp [D.closed]) cd
  | ex c fs μ1 =>
    unfold framed at h
    rw [if_pos hc, hF] at h
    dsimp only at h
    split at h <;> simp [isTrue, hF] at h
  | bad =>
    unfold framed at h
    rw [if_pos hc, hF] at h
    simp [isTrue] at h
def okT (F : List D → Mu → R D) (ds : List D) : Bool := D.closedL 0 ds && isTrue (F ds [])
theorem okT_fr {F : List D → Mu → R D} {ds : List D} (h : okT (framed F) ds = true) (μ : Mu) : framed F ds μ = .ok (.bl true) μ := by
  unfold okT at h
  rw [Bool.and_eq_true] at h
  exact fr_true h.1 h.2 μ
end DL
/-! DL32: dicts by numbers and texts: d[k], k in d, d[k] = v, get, pop. -/
namespace DL
open PySem L2 PySem.Spec PyProof.Rows
def keyD : D → Option Key
  | .int i => some (.inl i)
  | .str x => some (.inr x)
  | _ => none
theorem key_rep {K : PySem.W.Frag} {W : Wd} {v : V} {d : D} {k : Key} (r : Rep K W v d) (h : keyD d = some k) : v = kV k := by
  cases r <;> simp [keyD] at h
  · subst h; rfl
  · subst h; rfl
/-- a dict's keys and worths -/
def dctD (μ : Mu) : D → Option (List Key × List D)
  | .hdl l => match μ[l]? with
    | some (.dct ks xs) => some (ks, xs)
    | _ => none
  | _ => none
theorem dct_rep {K : PySem.W.Frag} {W : Wd} {H : Hp} {μ : Mu} {v : V} {d : D} {ks : List Key} {xs : List D} (ok : Ok K W H μ) (r : Rep K W v d) (h : dctD μ d = some (ks, xs)) : ∃ l a vs, d = .hdl l ∧ W.io[l]? = some a ∧ μ[l]? = some (.dct ks xs) ∧ v = .ref a ∧ H a = some (.dK (ks.zip vs)) ∧ ks.length = vs.length ∧ Reps K W vs xs := by
  cases r with
  | @hdl a l ha =>
    unfold dctD at h
    dsimp only at h
    cases hm : μ[l]? with
    | none => rw [hm] at h; cases h
    | some m =>
      rw [hm] at h
      cases m with
      | dct ks' xs' =>
        cases h
        obtain ⟨o, ho, vs, rfl, hl, rs⟩ := ok.cell l a _ ha hm
        exact ⟨l, a, vs, rfl, ha, hm, rfl, ho, hl, rs⟩
      | _ => cases h
  | _ => simp [dctD] at h
def lookK : List Key → List D → Key → Option D
  | k :: ks, x :: xs, j => if k = j then some x else lookK ks xs j
  | _, _, _ => none
theorem look_rep {K : PySem.W.Frag} {W : Wd} {j : Key} : ∀ {ks : List Key} {vs : List V} {ds : List D}, Reps K W vs ds → match lookK ks ds j with
    | some d => ∃ v, valV (ks.zip vs) j = some v ∧ Rep K W v d
    | none => valV (ks.zip vs) j = none
  | [], _, _, _ => by simp [lookK, valV]
  | _ :: _, _, _, .nil => by simp [lookK, valV]
  | k :: ks, _, _, .cons (v := v) (vs := vs) (d := d) (ds := ds) r rs => by
    have ih := look_rep (j := j) (ks := ks) rs
    rw [lookK, List.zip_cons_cons]
    by_cases e : k = j
    · rw [if_pos e, valV_pos e]
      exact ⟨v, rfl, r⟩
    · rw [if_neg e, valV_neg e]
      exact ih
def putD : List Key → List D → Key → D → List Key × List D
  | k :: ks, x :: xs, j, d => if k = j then (k :: ks, d :: xs) else (k :: (putD ks xs j d).1, x :: (putD ks xs j d).2)
  | _, _, j, d => ([j], [d])
def putVs : List Key → List V → Key → V → List V
  | k :: ks, x :: xs, j, d => if k = j then d :: xs else x :: putVs ks xs j d
  | _, _, _, d => [d]
theorem put_noK {j : Key} {v : V} : ∀ {kvs : List (Key × V)}, j ∉ kvs.map (·.1) → kvs.map (fun kv => if kv.1 = j then (kv.1, v) else kv) = kvs
  | [], _ => rfl
  | p :: kvs, h => by
    simp only [List.map_cons, List.mem_cons, not_or] at h
    rw [List.map_cons, if_neg (fun e => h.1 e.symm), put_noK h.2]
theorem put_zip {j : Key} {d : D} {v : V} : ∀ {ks : List Key} {vs : List V} {xs : List D}, ks.Nodup → ks.length = vs.length → ks.length = xs.length → putK (ks.zip vs) j v = (putD ks xs j d).1.zip (putVs ks vs j v) ∧ (putD ks xs j d).1.length = (putVs ks vs j v).length
  | [], [], [], _, _, _ => by simp [putK, putD, putVs]
  | k :: ks, x :: vs, y :: xs, hn, h1, h2 => by
    have hk := List.nodup_cons.mp hn
    obtain ⟨ih, il⟩ := put_zip (j := j) (d := d) (v := v) (ks := ks) (vs := vs) (xs := xs) hk.2 (by simpa using h1) (by simpa using h2)
    by_cases e : k = j
    · subst e
      have hno : k ∉ (ks.zip vs).map (·.1) := fun z => hk.1 (by
        obtain ⟨q, hq, rfl⟩ := List.mem_map.mp z
        exact (List.of_mem_zip hq).1)
      simp [putK, putD, putVs]
      refine ⟨?_, by simpa using h1⟩
      have := put_noK (v := v) hno
      simpa using this
    · have hz : (List.zip (k :: ks) (x :: vs)) = (k, x) :: ks.zip vs := rfl
      simp only [putD, putVs, if_neg e, List.zip_cons_cons, List.length_cons, il]
      refine ⟨?_, trivial⟩
      rw [← ih]
      unfold putK
      rw [List.any_cons]
      simp only [decide_eq_false e, Bool.false_or]
      split
      · rw [List.map_cons, if_neg e]
      · rfl
theorem putVs_reps {K : PySem.W.Frag} {W : Wd} {j : Key} {d : D} {v : V} (r : Rep K W v d) : ∀ {ks : List Key} {vs : List V} {xs : List D}, ks.length = vs.length → Reps K W vs xs → Reps K W (putVs ks vs j v) (putD ks xs j d).2
  | [], [], xs, _, r0 => by
    cases r0
    simp [putVs, putD]
    exact .cons r .nil
  | k :: ks, x :: vs, xs, h, r0 => by
    cases r0 with
    | cons r1 rs =>
      by_cases e : k = j
      · simp [putVs, putD, e]
        exact .cons r rs
      · simp [putVs, putD, e]
        exact .cons r1 (putVs_reps r (by simpa using h) rs)
  | [], _ :: _, _, h, _ => by simp at h
  | _ :: _, [], _, h, _ => by simp at h
section
variable {X : Cx} {E : WX}
/-- d[y] as a rule of values -/
def rIxD : R2 := fun x y H Q => ∃ a v, x = .ref a ∧ DGet H a y (some v) ∧ Q v H
theorem ix_dict (hu : X.A.units + 1 < cLine) : IxR X rIxD := by
  intro value slice pins s σ H x y v u Q I rx ry h hs
  obtain ⟨a, w, rfl, g, q⟩ := h
  cases rx
  have hT := dict_typeIs I g
  unfold subscriptTail
  refine wpAny_bind ?_
  rw [getitemInPython_of_ne hT.not_modules]
  refine wpAny_bind (wpAny_specialOf hT PySem.F.slot_dict_getitem.lookup ?_)
  have fin : wpAny (model X.prog X.w) X.A (subscripted slice false (.ref a) u) (fun r s₃ => wpAny (model X.prog X.w) X.A (letTemporaryGo value (.ref a) r >>= fun _ => pure r) (EP X pins σ Q) X.xe s₃) X.xe s := by
    rw [hs]
    exact wpAny_operating (d_getItem hu I g ry fun w' s3 I3 rw' => wpAny_bind (wpAny_letTemporaryGo (wpAny_pure ⟨w, H, I3, rw', q⟩)))
  first
    | exact wpAny_pure (wpAny_bind fin)
    | exact wpAny_bind (wpAny_pure (wpAny_bind fin))
    | exact wpAny_bind fin
def dIxX : D → D → Mu → R D := fun x i μ => match dctD μ x with
  | some (ks, xs) => match keyD i with
    | some k => R.of (lookK ks xs k) μ
    | none => .bad
  | none => dIx x i μ
theorem dget_of {W : Wd} {H : Hp} {μ : Mu} {v w : V} {d i : D} {ks : List Key} {xs : List D} {k : Key} (ok : Ok X.K W H μ) (r : Rep X.K W v d) (h : dctD μ d = some (ks, xs)) (ri : Rep X.K W w i) (hk : keyD i = some k) : ∃ a o, v = .ref a ∧ DGet H a w o ∧ match lookK ks xs k with
    | some d => ∃ x, o = some x ∧ Rep X.K W x d
    | none => o = none := by
  obtain ⟨l, a, vs, rfl, ha, hm, rfl, ho, hl, rs⟩ := dct_rep ok r h
  have e := key_rep ri hk
  subst e
  have lr := look_rep (j := k) (ks := ks) rs
  refine ⟨a, _, rfl, DGet.k ho, ?_⟩
  cases hq : lookK ks xs k with
  | none => rw [hq] at lr; exact lr
  | some d =>
    rw [hq] at lr
    obtain ⟨x, e1, e2⟩ := lr
    exact ⟨x, e1, e2⟩
theorem ixx_X (hu : X.A.units + 1 < cLine) : IxR X (rD X.K E dIxX) := by
  intro value slice pins s σ H x y v u Q I rx ry q hs
  obtain ⟨E', W, μ, dx, dy, ok, r1, r2, p⟩ := q
  unfold dIxX at p
  cases hd : dctD μ dx with
  | none =>
    rw [hd] at p
    exact ixx_all (E := E) value slice pins s σ H x y v u Q I rx ry ⟨E', W, μ, dx, dy, ok, r1, r2, p⟩ hs
  | some z =>
    obtain ⟨ks, xs⟩ := z
    rw [hd] at p
    dsimp only at p
    cases hk : keyD dy with
    | none => rw [hk] at p; exact p.elim
    | some k =>
      rw [hk] at p
      dsimp only at p
      obtain ⟨a, o, rfl, g, hg⟩ := dget_of ok r1 hd r2 hk
      cases hl : lookK ks xs k with
      | none => rw [hl] at p; exact p.elim
      | some d =>
        rw [hl] at hg p
        obtain ⟨x, rfl, rx'⟩ := hg
        exact ix_dict hu value slice pins s σ H _ y v u Q I rx ry ⟨a, x, rfl, g, post_pure ok p rx'⟩ hs
theorem de_ixX {a b : Expr} {fa fb : FE} {pos : Pos} (hu : X.A.units + 64 < cLine) (ha : DE X E a fa) (hb : DE X E b fb) (hs : PlainIx b := by exact fun _ _ => rfl) : DE X E (.Subscript a b pos) (dbin dIxX fa fb) := pe_imp (pe_ix (ixx_X (by omega)) ha hb hs) (tOp_of opd_D)
/-- y in d, y not in d -/
def inX (b : Bool) (g : D → D → Mu → R D) : D → D → Mu → R D := fun x y μ => match dctD μ y with
  | some (ks, xs) => match keyD x with
    | some k => .ok (.bl ((lookK ks xs k).isSome == b)) μ
    | none => .bad
  | none => g x y μ
theorem opx_inX (hu : X.A.units + 64 < cLine) : OpX X E (compareOp .In) (inX true dIn) := by
  intro pins s σ H x y v u Q I rx ry q
  obtain ⟨E', W, μ, dx, dy, ok, r1, r2, p⟩ := q
  unfold inX at p
  cases hd : dctD μ dy with
  | none => rw [hd] at p; exact opx_in (E := E) hu pins s σ H x y v u Q I rx ry ⟨E', W, μ, dx, dy, ok, r1, r2, p⟩
  | some z =>
    obtain ⟨ks, xs⟩ := z
    rw [hd] at p
    dsimp only at p
    cases hk : keyD dx with
    | none => rw [hk] at p; exact p.elim
    | some k =>
      rw [hk] at p
      dsimp only at p
      obtain ⟨a, o, rfl, g, hg⟩ := dget_of ok r2 hd r1 hk
      cases ry
      have e : o.isSome = (lookK ks xs k).isSome := by
        cases hl : lookK ks xs k with
        | none => rw [hl] at hg; rw [hg]; rfl
        | some d => rw [hl] at hg; obtain ⟨x, rfl, _⟩ := hg; rfl
      refine d_in (by omega) I g rx fun s' I' => ⟨.bl o.isSome, H, I', rfl, ?_⟩
      have q := post_pure ok p (.bl _)
      rw [← e] at q
      cases ho : o.isSome <;> rw [ho] at q <;> exact q
theorem opx_notinX (hu : X.A.units + 64 < cLine) : OpX X E (compareOp .NotIn) (inX false dNotIn) := by
  intro pins s σ H x y v u Q I rx ry q
  obtain ⟨E', W, μ, dx, dy, ok, r1, r2, p⟩ := q
  unfold inX at p
  cases hd : dctD μ dy with
  | none => rw [hd] at p; exact opx_notin (E := E) hu pins s σ H x y v u Q I rx ry ⟨E', W, μ, dx, dy, ok, r1, r2, p⟩
  | some z =>
    obtain ⟨ks, xs⟩ := z
    rw [hd] at p
    dsimp only at p
    cases hk : keyD dx with
    | none => rw [hk] at p; exact p.elim
    | some k =>
      rw [hk] at p
      dsimp only at p
      obtain ⟨a, o, rfl, g, hg⟩ := dget_of ok r2 hd r1 hk
      cases ry
      have e : o.isSome = (lookK ks xs k).isSome := by
        cases hl : lookK ks xs k with
        | none => rw [hl] at hg; rw [hg]; rfl
        | some d => rw [hl] at hg; obtain ⟨x, rfl, _⟩ := hg; rfl
      refine d_notIn (by omega) I g rx fun s' I' => ⟨.bl (!o.isSome), H, I', rfl, ?_⟩
      have q := post_pure ok p (.bl _)
      rw [← e] at q
      cases ho : o.isSome <;> rw [ho] at q <;> exact q
end
end DL
/-! DL33: d[k] = v, d.get, d.pop, len(d). -/
namespace DL
open PySem L2 PySem.Spec PyProof.Rows
/-- o[i] = v, o a list or a dict -/
def putIx (ρ : En) (d x i : D) (μ : Mu) : O := match x with
  | .hdl l => match μ[l]? with
    | some (.lst xs) => match i with
      | .int k => match ixN xs.length k with
        | some j => .nx ρ (μ.set l (.lst (xs.set j d)))
        | none => .bad
      | _ => .bad
    | some (.dct ks xs) => match keyD i with
      | some k => if ks.Nodup ∧ ks.length = xs.length ∧ ks.length < 1000000 then .nx ρ (μ.set l (.dct (putD ks xs k d).1 (putD ks xs k d).2)) else .bad
      | none => .bad
    | _ => .bad
  | _ => .bad
def gsetixX (fo fi fe : FE) : FS := fun ρ μ => (fe ρ μ).to ρ fun d μ1 => (fo ρ μ1).to ρ fun x μ2 => (fi ρ μ2).to ρ fun i μ3 => putIx ρ d x i μ3
@[simp] theorem ap_setixX (fo fi fe : FE) (ρ : En) (μ : Mu) : gsetixX fo fi fe ρ μ = (fe ρ μ).to ρ fun d μ1 => (fo ρ μ1).to ρ fun x μ2 => (fi ρ μ2).to ρ fun i μ3 => putIx ρ d x i μ3 := of_eq_true (eq_self _)
section
variable {X : Cx} {E : WX}
def rSetX : V → V → V → Hp → (Hp → Prop) → Prop := fun o i v H Q => rSetL o i v H Q ∨ ∃ a H', o = .ref a ∧ DPut H a i v H' ∧ Q H'
theorem set_X (hu : X.A.units + 1 < cLine) : PSet X rSetX := by
  intro pins s σ H o i v ov iv u Q I ro ri rv h
  rcases h with h | ⟨a, H', rfl, g, q⟩
  · exact set_list pins s σ H o i v ov iv u Q I ro ri rv h
  · cases ro
    exact d_setItem hu I g ri rv fun s' I' => ⟨H', I', q⟩
theorem ds_setixX {o i e : Expr} {fo fi fe : FE} {pos pos' : Pos} (hu : X.A.units + 64 < cLine) (he : DE X E e fe) (ho : DE X E o fo) (hi : DE X E i fi)
    (ha : ∀ v, assign (.Subscript o i pos') X.env v = (do
      let ov ← holding [v] (eval o X.env)
      let iv ← holding [v, ov] (eval i X.env)
      standAt pos'
      holding [v, ov, iv] (setItem ov iv v)
      release [v, ov, iv] []) := by intro _; rfl) (hs : swapsWithSole [.Subscript o i pos'] e pos.line X.env = pure false := by rfl) (hw : swappedStores [.Subscript o i pos'] e X.env = pure none := by rfl)
    (h1 : (assignEach [.Subscript o i pos'] X.env).map (·.2) = [assign (.Subscript o i pos') X.env] := by rfl) : DS X E (.Assign [.Subscript o i pos'] e pos) (gsetixX fo fi fe) := by
  refine ps_imp (ps_asg he (pg_sub ho hi (set_X (by omega)) ha) hs hw h1) fun Z σ H ⟨W, ρ, μ, ok, en, p⟩ => ?_
  refine seqS p ok en fun d μ1 W1 v H1 g1 o1 en1 r p1 => ?_
  refine seqS p1 o1 en1 fun x μ2 W2 xv H2 g2 o2 en2 r2 p2 => ?_
  refine seqS p2 o2 en2 fun i μ3 W3 iv H3 g3 o3 en3 r3 p3 => ?_
  unfold putIx at p3
  split at p3
  · rename_i l
    cases r2 with
    | @hdl a _ ha =>
      have ha3 := prefix_get g3.le.io ha
      split at p3
      · rename_i xs hm
        split at p3
        · rename_i k
          split at p3
          · rename_i j hj
            cases r3
            obtain ⟨ob, ho, vs, rfl, q⟩ := o3.cell l a _ ha3 hm
            obtain ⟨ok4, g4⟩ := o3.setcell (m' := .lst (xs.set j d)) ha3 hm (fun z => nomatch z) ⟨vs.set j v, rfl, q.set ((r.mono g2.le).mono g3.le) j⟩
            exact .inl ⟨a, vs, k, j, rfl, rfl, ho, by rw [q.length]; exact hj, p3 _ _ _ g4 ok4 en3⟩
          · exact p3.elim
        · exact p3.elim
      · rename_i ks xs hm
        split at p3
        · rename_i k hk
          split at p3
          · rename_i hq
            obtain ⟨hn, hl, hz⟩ := hq
            obtain ⟨ob, ho, vs, rfl, hv, q⟩ := o3.cell l a _ ha3 hm
            have e := key_rep r3 hk
            subst e
            obtain ⟨pz, pl⟩ := put_zip (j := k) (d := d) (v := v) (xs := xs) hn hv hl
            have rr := putVs_reps (j := k) ((r.mono g2.le).mono g3.le) hv q
            obtain ⟨ok4, g4⟩ := o3.setcell (m' := .dct (putD ks xs k d).1 (putD ks xs k d).2) (o' := .dK (putK (ks.zip vs) k v)) ha3 hm (fun z => nomatch z) ⟨putVs ks vs k v, by rw [pz], pl, rr⟩
            refine .inr ⟨a, _, rfl, DPut.k ho ?_, p3 _ _ _ g4 ok4 en3⟩
            rw [List.length_zip, ← hv, Nat.min_self]
            exact Nat.lt_of_lt_of_le hz (by rw [sizeLine_eq]; omega)
          · exact p3.elim
        · exact p3.elim
      · exact p3.elim
  · exact p3.elim
/-- d.get(k), d.get(k, x) -/
def mGet : D → List D → Mu → R D := fun x ds μ => match dctD μ x with
  | some (ks, xs) => match ds with
    | [i] => match keyD i with
      | some k => .ok ((lookK ks xs k).getD .non) μ
      | none => .bad
    | [i, d] => match keyD i with
      | some k => .ok ((lookK ks xs k).getD d) μ
      | none => .bad
    | _ => .bad
  | none => .bad
theorem mx_get (hu : X.A.units + 64 < cLine) : MtX X E "dict.get" mGet := by
  intro pins s σ H x xs v us Q I rx rs q
  obtain ⟨E', W, μ, d, ds, ok, r1, r2, p⟩ := q
  unfold mGet at p
  split at p
  · rename_i ks ys hd
    split at p
    · rename_i i
      cases r2 with
      | cons ri r3 =>
        cases r3
        split at p
        · rename_i k hk
          obtain ⟨a, o, rfl, g, hg⟩ := dget_of ok r1 hd ri hk
          cases rx
          obtain ⟨u, rfl, ru⟩ := rs.one
          refine d_get1 (by omega) I g ru fun w' s' I' rw' => ⟨_, H, I', rw', ?_⟩
          cases hl : lookK ks ys k with
          | none => rw [hl] at hg p; rw [hg]; exact post_pure ok p .non
          | some z => rw [hl] at hg p; obtain ⟨y, rfl, ry⟩ := hg; exact post_pure ok p ry
        · exact p.elim
    · rename_i i d2
      cases r2 with
      | cons ri r3 =>
        cases r3 with
        | cons rd r4 =>
          cases r4
          split at p
          · rename_i k hk
            obtain ⟨a, o, rfl, g, hg⟩ := dget_of ok r1 hd ri hk
            cases rx
            cases rs with
            | cons ru rs2 =>
              cases rs2 with
              | cons ru2 rs3 =>
                cases rs3
                refine d_get2 (by omega) I g ru ru2 fun w' s' I' rw' => ⟨_, H, I', rw', ?_⟩
                cases hl : lookK ks ys k with
                | none => rw [hl] at hg p; rw [hg]; exact post_pure ok p rd
                | some z => rw [hl] at hg p; obtain ⟨y, rfl, ry⟩ := hg; exact post_pure ok p ry
          · exact p.elim
    · exact p.elim
  · exact p.elim
/-- len of a dict too -/
def bLenX : List D → Mu → R D := fun ds μ => match ds with
  | [d] => match dctD μ d with
    | some (ks, xs) => .ok (.int ks.length) μ
    | none => bLen [d] μ
  | _ => .bad
theorem cx_lenX : CallX X E (.builtin "len") bLenX := by
  intro pins s σ H xs us Q I rx q
  obtain ⟨E', W, μ, ds, ok, r1, p⟩ := q
  unfold bLenX at p
  split at p
  · rename_i d
    split at p
    · rename_i ks ys hd
      cases r1 with
      | cons r1 r2 =>
        cases r2
        obtain ⟨l, a, vs, rfl, ha, hm, rfl, ho, hl, rs⟩ := dct_rep ok r1 hd
        obtain ⟨u, rfl, ru⟩ := rx.one
        cases ru
        refine d_len I (.inl ho) fun t s' I' => ⟨.int _, H, I', ⟨t, rfl⟩, ?_⟩
        have e : (ks.zip vs).length = ks.length := by rw [List.length_zip, ← hl, Nat.min_self]
        rw [e]
        exact post_pure ok p (.int _)
    · exact cx_len (E := E) pins s σ H xs us Q I rx ⟨E', W, μ, _, ok, r1, p⟩
  · exact p.elim
end
end DL
/-! DL34: while, d.pop, dict displays. -/
namespace DL
open PySem L2 PySem.Spec PyProof.Rows
/-! ### while, of so many turns at most -/
def whileN (c : FT) (b : FS) : Nat → En → Mu → O
  | 0, _, _ => .bad
  | n + 1, ρ, μ => (c ρ μ).to ρ fun t μ1 => if t = true then (match b ρ μ1 with
    | .nx ρ' μ' => whileN c b n ρ' μ'
    | .ct ρ' μ' => whileN c b n ρ' μ'
    | .bk ρ' μ' => .nx ρ' μ'
    | o => o) else .nx ρ μ1
def gwhile (n : Nat) (c : FT) (b : FS) : FS := fun ρ μ => whileN c b n ρ μ
@[simp] theorem ap_while (n : Nat) (c : FT) (b : FS) (ρ : En) (μ : Mu) : gwhile n c b ρ μ = whileN c b n ρ μ := of_eq_true (eq_self _)
theorem while_step (c : FT) (b : FS) (n : Nat) (ρ : En) (μ : Mu) : whileN c b (n + 1) ρ μ = (c ρ μ).to ρ fun t μ1 => if t = true then (b ρ μ1).pass (fun ρ' μ' => whileN c b n ρ' μ') else .nx ρ μ1 := by
  rw [whileN]
  cases c ρ μ with
  | ok t μ1 =>
    simp only [R.to_ok]
    cases t with
    | false => rfl
    | true =>
      simp only [if_true]
      cases b ρ μ1 <;> rfl
  | ex _ _ _ => rfl
  | bad => rfl
section
variable {X : Cx} {E : WX} {pos : Pos}
theorem ds_while (n : Nat) {c : Expr} {body : List Stmt} {fc : FT} {b : FS} (hp : PassesOwn (model X.prog X.w) X.A X.env X.xe) (hc : DT X E c fc) (hb : DSs X E body b) : DS X E (.While c body [] pos) (gwhile n fc b) := by
  refine ps_imp (ps_while hp hc hb) fun Z σ H ⟨W, ρ, μ, ok, en, p⟩ => ?_
  refine ⟨fun m σ H => ∃ W ρ μ, Ok X.K W H μ ∧ Envs X.K W σ ρ ∧ postS X.K E W H (whileN fc b m ρ μ) Z, ⟨n, W, ρ, μ, ok, en, p⟩, ?_⟩
  rintro m σ2 H2 ⟨W2, ρ2, μ2, ok2, en2, p2⟩
  cases m with
  | zero => exact p2.elim
  | succ m =>
    rw [whileN] at p2
    refine seqST p2 ok2 en2 fun t μ3 W3 H3 g3 o3 en3 p3 => ?_
    cases t with
    | false =>
      rw [if_neg Bool.false_ne_true] at p3 ⊢
      exact p3 W3 σ2 H3 (Go.refl _ _) o3 en3
    | true =>
      rw [if_pos rfl] at p3 ⊢
      refine ⟨fun σ' H' => ∃ W ρ μ, Ok X.K W H' μ ∧ Envs X.K W σ' ρ ∧ postS X.K E W H' (whileN fc b m ρ μ) Z, fun σ' H' h => ⟨m, Nat.lt_succ_self m, h⟩, W3, ρ2, μ3, o3, en3, ?_⟩
      revert p3
      cases b ρ2 μ3 with
      | nx ρ4 μ4 => exact fun p W5 σ5 H5 g5 o5 e5 => ⟨W5, ρ4, μ4, o5, e5, postS.mono g5 p⟩
      | ct ρ4 μ4 => exact fun p W5 σ5 H5 g5 o5 e5 => ⟨W5, ρ4, μ4, o5, e5, postS.mono g5 p⟩
      | bk ρ4 μ4 => exact fun p => p
      | rt d μ4 => exact fun p => p
      | ex c fs μ4 => exact fun p => p
      | bad => exact fun p => p
end
/-! ### d.pop(k), d.pop(k, x) -/
def dropD : List Key → List D → Key → List Key × List D
  | k :: ks, x :: xs, j => if k = j then dropD ks xs j else (k :: (dropD ks xs j).1, x :: (dropD ks xs j).2)
  | _, _, _ => ([], [])
def dropVs : List Key → List V → Key → List V
  | k :: ks, x :: xs, j => if k = j then dropVs ks xs j else x :: dropVs ks xs j
  | _, _, _ => []
theorem drop_zip {j : Key} : ∀ {ks : List Key} {vs : List V} {xs : List D}, ks.length = vs.length → ks.length = xs.length → dropK (ks.zip vs) j = (dropD ks xs j).1.zip (dropVs ks vs j) ∧ (dropD ks xs j).1.length = (dropVs ks vs j).length
  | [], [], [], _, _ => by simp [dropK, dropD, dropVs]
  | k :: ks, x :: vs, y :: xs, h1, h2 => by
    obtain ⟨ih, il⟩ := drop_zip (j := j) (ks := ks) (vs := vs) (xs := xs) (by simpa using h1) (by simpa using h2)
    by_cases e : k = j
    · rw [List.zip_cons_cons, dropK_pos (p := (k, x)) e]
      simp only [dropD, dropVs, if_pos e]
      exact ⟨ih, il⟩
    · rw [List.zip_cons_cons, dropK_neg (p := (k, x)) e]
      simp only [dropD, dropVs, if_neg e, List.zip_cons_cons, List.length_cons, il, ih]
      exact ⟨trivial, trivial⟩
theorem dropVs_reps {K : PySem.W.Frag} {W : Wd} {j : Key} : ∀ {ks : List Key} {vs : List V} {xs : List D}, ks.length = vs.length → Reps K W vs xs → Reps K W (dropVs ks vs j) (dropD ks xs j).2
  | [], [], xs, _, r0 => by
    cases r0
    simp [dropVs, dropD]
    exact .nil
  | k :: ks, x :: vs, xs, h, r0 => by
    cases r0 with
    | cons r1 rs =>
      have ih := dropVs_reps (j := j) (ks := ks) (by simpa using h) rs
      by_cases e : k = j
      · simp only [dropVs, dropD, if_pos e]
        exact ih
      · simp only [dropVs, dropD, if_neg e]
        exact .cons r1 ih
  | [], _ :: _, _, h, _ => by simp at h
  | _ :: _, [], _, h, _ => by simp at h
def popD (l : Nat) (ks : List Key) (xs : List D) (k : Key) (e : R D) (μ : Mu) : R D := if ks.length = xs.length then (match lookK ks xs k with
    | some d => .ok d (μ.set l (.dct (dropD ks xs k).1 (dropD ks xs k).2))
    | none => e) else .bad
def mPop : D → List D → Mu → R D := fun x ds μ => match x with
  | .hdl l => match μ[l]? with
    | some (.dct ks xs) => match ds with
      | [i] => match keyD i with
        | some k => popD l ks xs k .bad μ
        | none => .bad
      | [i, d] => match keyD i with
        | some k => popD l ks xs k (.ok d μ) μ
        | none => .bad
      | _ => .bad
    | _ => .bad
  | _ => .bad
section
variable {X : Cx} {E : WX}
theorem pop_there {E' : XK} {W : Wd} {H : Hp} {μ : Mu} {l : Nat} {a : Addr} {ks : List Key} {xs : List D} {k : Key} {d : D} (ok : Ok X.K W H μ) (ha : W.io[l]? = some a) (hm : μ[l]? = some (.dct ks xs)) (hl : ks.length = xs.length) (hd : lookK ks xs k = some d) :
    ∃ vs v, H a = some (.dK (ks.zip vs)) ∧ valV (ks.zip vs) k = some v ∧ ∀ (Q : VK), postE X.K E' W H (.ok d (μ.set l (.dct (dropD ks xs k).1 (dropD ks xs k).2))) Q → Q v (upd H a (.dK (dropK (ks.zip vs) k))) := by
  obtain ⟨ob, ho, vs, rfl, hv, q⟩ := ok.cell l a _ ha hm
  have lr := look_rep (j := k) (ks := ks) q
  rw [hd] at lr
  obtain ⟨v, e1, r1⟩ := lr
  obtain ⟨pz, pl⟩ := drop_zip (j := k) (xs := xs) hv hl
  obtain ⟨ok4, g4⟩ := ok.setcell (m' := .dct (dropD ks xs k).1 (dropD ks xs k).2) (o' := .dK (dropK (ks.zip vs) k)) ha hm (fun z => nomatch z) ⟨dropVs ks vs k, by rw [pz], pl, dropVs_reps hv q⟩
  exact ⟨vs, v, ho, e1, fun Q p => p W v _ g4 ok4 r1⟩
theorem mx_dpop : MtX X E "dict.pop" mPop := by
  intro pins s σ H x xs v us Q I rx rs q
  obtain ⟨E', W, μ, d, ds, ok, r1, r2, p⟩ := q
  unfold mPop at p
  split at p
  · rename_i l
    split at p
    · rename_i ks ys hm
      cases r1 with
      | @hdl a _ ha =>
        cases rx
        split at p
        · rename_i i
          cases r2 with
          | cons ri r3 =>
            cases r3
            obtain ⟨u, rfl, ru⟩ := rs.one
            split at p
            · rename_i k hk
              have e := key_rep ri hk
              subst e
              unfold popD at p
              split at p
              · rename_i hl
                split at p
                · rename_i d hd
                  obtain ⟨vs, w, ho, e1, fin⟩ := pop_there (E' := E') ok ha hm hl hd
                  exact d_pop I ho ru e1 (.inl rfl) fun w' s' I' rw' => ⟨w, _, I', rw', fin Q p⟩
                · exact p.elim
              · exact p.elim
            · exact p.elim
        · rename_i i d2
          cases r2 with
          | cons ri r3 =>
            cases r3 with
            | cons rd r4 =>
              cases r4
              cases rs with
              | cons ru rs2 =>
                cases rs2 with
                | cons ru2 rs3 =>
                  cases rs3
                  split at p
                  · rename_i k hk
                    have e := key_rep ri hk
                    subst e
                    unfold popD at p
                    split at p
                    · rename_i hl
                      split at p
                      · rename_i d hd
                        obtain ⟨vs, w, ho, e1, fin⟩ := pop_there (E' := E') ok ha hm hl hd
                        exact d_pop I ho ru e1 (.inr ⟨_, rfl⟩) fun w' s' I' rw' => ⟨w, _, I', rw', fin Q p⟩
                      · rename_i hd
                        obtain ⟨ob, ho, vs, rfl, hv, q⟩ := ok.cell l a _ ha hm
                        have lr := look_rep (j := k) (ks := ks) q
                        rw [hd] at lr
                        exact d_popD I ho ru lr fun s' I' => ⟨_, H, I', ru2, post_pure ok p rd⟩
                    · exact p.elim
                  · exact p.elim
        · exact p.elim
    · exact p.elim
  · exact p.elim
end
end DL
/-! DL35: dict displays, dict(pairs). -/
namespace DL
open PySem L2 PySem.Spec PyProof.Rows
/-- pairs put one behind the other -/
def mergeD : List (Key × D) → List Key × List D → List Key × List D
  | [], q => q
  | p :: ps, q => mergeD ps (putD q.1 q.2 p.1 p.2)
theorem putD_mem {j x : Key} {d : D} : ∀ {ks : List Key} {xs : List D}, x ∈ (putD ks xs j d).1 → x ∈ ks ∨ x = j
  | [], xs, h => by
    simp [putD] at h
    exact .inr h
  | k :: ks, [], h => by
    simp [putD] at h
    exact .inr h
  | k :: ks, y :: xs, h => by
    by_cases e : k = j
    · simp [putD, e] at h
      rcases h with h | h
      · exact .inr h
      · exact .inl (List.mem_cons_of_mem _ h)
    · simp only [putD, if_neg e, List.mem_cons] at h
      rcases h with h | h
      · exact .inl (by simp [h])
      · rcases putD_mem h with h | h
        · exact .inl (List.mem_cons_of_mem _ h)
        · exact .inr h
theorem putD_nodup {j : Key} {d : D} : ∀ {ks : List Key} {xs : List D}, ks.Nodup → (putD ks xs j d).1.Nodup
  | [], xs, _ => by simp [putD]
  | k :: ks, [], _ => by simp [putD]
  | k :: ks, y :: xs, h => by
    have hk := List.nodup_cons.mp h
    by_cases e : k = j
    · simp only [putD, if_pos e]
      exact h
    · simp only [putD, if_neg e]
      refine List.nodup_cons.mpr ⟨fun z => ?_, putD_nodup hk.2⟩
      rcases putD_mem z with z | z
      · exact hk.1 z
      · exact e z
theorem putD_len {j : Key} {d : D} : ∀ {ks : List Key} {xs : List D}, ks.length = xs.length → (putD ks xs j d).1.length = (putD ks xs j d).2.length
  | [], [], _ => by simp [putD]
  | [], _ :: _, h => by simp at h
  | _ :: _, [], h => by simp at h
  | k :: ks, y :: xs, h => by
    by_cases e : k = j
    · simpa [putD, e] using h
    · simp only [putD, if_neg e, List.length_cons]
      rw [putD_len (by simpa using h)]
theorem merge_rep {K : PySem.W.Frag} {W : Wd} : ∀ {ps : List (Key × D)} {us : List V} {ks : List Key} {xs : List D} {vs : List V}, Reps K W us (ps.map (·.2)) → ks.Nodup → ks.length = xs.length → ks.length = vs.length → Reps K W vs xs →
    ∃ ws, mergeK (ks.zip vs) ((ps.map (·.1)).zip us) = (mergeD ps (ks, xs)).1.zip ws ∧ (mergeD ps (ks, xs)).1.length = ws.length ∧ Reps K W ws (mergeD ps (ks, xs)).2
  | [], us, ks, xs, vs, r, hn, h1, h2, rs => by
    cases r
    exact ⟨vs, rfl, h2, rs⟩
  | p :: ps, us, ks, xs, vs, r, hn, h1, h2, rs => by
    cases r with
    | @cons u us _ _ r1 r2 =>
      obtain ⟨pz, pl⟩ := put_zip (j := p.1) (d := p.2) (v := u) (xs := xs) hn h2 h1
      have rr := putVs_reps (j := p.1) r1 h2 rs
      obtain ⟨ws, e1, e2, e3⟩ := merge_rep (ps := ps) (us := us) (ks := (putD ks xs p.1 p.2).1) (xs := (putD ks xs p.1 p.2).2) (vs := putVs ks vs p.1 u) r2 (putD_nodup hn) (putD_len h1) pl rr
      refine ⟨ws, ?_, e2, e3⟩
      rw [← pz] at e1
      exact e1
/-- what a display's pairs are worth -/
def pairsF : List (FE × FE) → En → Mu → R (List (D × D))
  | [], _, μ => .ok [] μ
  | q :: qs, ρ, μ => (q.1 ρ μ).bind fun k μ1 => (q.2 ρ μ1).bind fun d μ2 => (pairsF qs ρ μ2).bind fun ps μ3 => .ok ((k, d) :: ps) μ3
def keyPairs : List (D × D) → Option (List (Key × D))
  | [] => some []
  | q :: qs => match keyD q.1, keyPairs qs with
    | some k, some ps => some ((k, q.2) :: ps)
    | _, _ => none
inductive RepP (K : PySem.W.Frag) (W : Wd) : List (V × V) → List (D × D) → Prop
  | nil : RepP K W [] []
  | cons {x y : V} {k d : D} {vs : List (V × V)} {ds : List (D × D)} : Rep K W x k → Rep K W y d → RepP K W vs ds → RepP K W ((x, y) :: vs) ((k, d) :: ds)
theorem RepP.keys {K : PySem.W.Frag} {W : Wd} : ∀ {vs : List (V × V)} {ds : List (D × D)} {ps : List (Key × D)}, RepP K W vs ds → keyPairs ds = some ps → ∃ us, vs = ((ps.map (·.1)).zip us).map (fun kv => (kV kv.1, kv.2)) ∧ Reps K W us (ps.map (·.2))
  | _, _, ps, .nil, h => by
    simp [keyPairs] at h
    subst h
    exact ⟨[], rfl, .nil⟩
  | _, _, ps, .cons (x := x) (y := y) (k := k) (d := d) r1 r2 r3, h => by
    unfold keyPairs at h
    split at h
    · rename_i j qs hj hq
      cases h
      obtain ⟨us, e, r⟩ := r3.keys hq
      have ex := key_rep r1 hj
      exact ⟨y :: us, by simp [ex, e], .cons r2 r⟩
    · cases h
def postP (K : PySem.W.Frag) (E : XK) (W : Wd) (H : Hp) (r : R (List (D × D))) (Q : List (V × V) → Hp → Prop) : Prop := match r with
  | .ok ds μ => ∀ W' vs H', Go W H W' H' → Ok K W' H' μ → RepP K W' vs ds → Q vs H'
  | .ex c fs μ => ∀ W' H' d, Go W H W' H' → Ok K W' H' μ → ExcIs K W' H' fs d → E (.ref (cl K c)) d H'
  | .bad => False
theorem RepP.mono {K : PySem.W.Frag} {W W' : Wd} (l : Le W W') : ∀ {vs : List (V × V)} {ds : List (D × D)}, RepP K W vs ds → RepP K W' vs ds
  | _, _, .nil => .nil
  | _, _, .cons a b c => .cons (a.mono l) (b.mono l) (c.mono l)
theorem postP.mono {K : PySem.W.Frag} {E : XK} {W W1 : Wd} {H H1 : Hp} {r : R (List (D × D))} {Q : List (V × V) → Hp → Prop} (g : Go W H W1 H1) (h : postP K E W H r Q) : postP K E W1 H1 r Q := by
  cases r with
  | ok d μ => exact fun W' v H' g' o r => h W' v H' (g.trans g') o r
  | ex c fs μ => exact fun W' H' d g' o r => h W' H' d (g.trans g') o r
  | bad => exact h
theorem tPairs_of {K : PySem.W.Frag} {E : WX} : ∀ {qs : List (FE × FE)} {σ : L2.St} {H : Hp} {Q : List (V × V) → Hp → Prop} {W : Wd} {ρ : En} {μ : Mu}, Ok K W H μ → Envs K W σ ρ → postP K (WE E σ) W H (pairsF qs ρ μ) Q → tPairs (qs.map fun q => (rE K E q.1, rE K E q.2)) σ H Q
  | [], σ, H, Q, W, ρ, μ, ok, en, p => p W [] H (Go.refl _ _) ok .nil
  | q :: qs, σ, H, Q, W, ρ, μ, ok, en, p => by
    simp only [pairsF] at p
    refine ⟨W, ρ, μ, ok, en, ?_⟩
    revert p
    cases q.1 ρ μ with
    | ex c fs μ1 => exact fun p => p
    | bad => exact fun p => p
    | ok k μ1 =>
      intro p W1 x H1 g1 o1 r1
      refine ⟨W1, ρ, μ1, o1, en.mono g1.le, ?_⟩
      have p := postP.mono g1 p
      revert p
      rw [R.bind_ok]
      cases q.2 ρ μ1 with
      | ex c fs μ2 => exact fun p => p
      | bad => exact fun p => p
      | ok d μ2 =>
        intro p W2 y H2 g2 o2 r2
        refine tPairs_of (qs := qs) (W := W2) (ρ := ρ) (μ := μ2) o2 ((en.mono g1.le).mono g2.le) ?_
        have p := postP.mono g2 p
        revert p
        rw [R.bind_ok]
        cases pairsF qs ρ μ2 with
        | ex c fs μ3 => exact fun p => p
        | bad => exact fun p => p
        | ok ps μ3 => exact fun p W3 vs H3 g3 o3 r3 => p W3 ((x, y) :: vs) H3 g3 o3 (.cons (r1.mono (g2.le.trans g3.le)) (r2.mono g3.le) r3)
def dDisp (qs : List (FE × FE)) : FE := fun ρ μ => (pairsF qs ρ (μ ++ [.dct [] []])).bind fun ps μ1 => match μ1[μ.length]? with
  | some (.dct [] []) => match keyPairs ps with
    | some kvs => if kvs.length ≤ 15 then .ok (.hdl μ.length) (μ1.set μ.length (.dct (mergeD kvs ([], [])).1 (mergeD kvs ([], [])).2)) else .bad
    | none => .bad
  | _ => .bad
@[simp] theorem ap_disp (qs : List (FE × FE)) (ρ : En) (μ : Mu) : dDisp qs ρ μ = (pairsF qs ρ (μ ++ [.dct [] []])).bind fun ps μ1 => match μ1[μ.length]? with
  | some (.dct [] []) => match keyPairs ps with
    | some kvs => if kvs.length ≤ 15 then .ok (.hdl μ.length) (μ1.set μ.length (.dct (mergeD kvs ([], [])).1 (mergeD kvs ([], [])).2)) else .bad
    | none => .bad
  | _ => .bad := of_eq_true (eq_self _)
section
variable {X : Cx} {E : WX} {pos : Pos} {keys : List (Option Expr)} {values : List Expr}
abbrev DPs (X : Cx) (E : WX) (pos : Pos) (keys : List (Option Expr)) (values : List Expr) (qs : List (FE × FE)) : Prop := PPs X pos keys values (qs.map fun q => (rE X.K E q.1, rE X.K E q.2))
theorem dp_nil : DPs X E pos [] [] [] := pps_nil
theorem dp_cons {k v : Expr} {fk fv : FE} {qs : List (FE × FE)} (hk : DE X E k fk) (hv : DE X E v fv) (hr : DPs X E pos keys values qs) : DPs X E pos (some k :: keys) (v :: values) ((fk, fv) :: qs) := pps_cons hk hv hr
theorem de_disp {qs : List (FE × FE)} (h : DPs X E pos keys values qs) (hall : keys.all (·.isSome) = true := by rfl) (hl : keys.length = values.length := by rfl) (h0 : keys ≠ [] := by simp) (h15 : keys.length ≤ 15 := by decide) : DE X E (.Dict keys values pos) (dDisp qs) := by
  refine pe_imp (pe_disp h hall hl h0 h15) fun σ H Q ⟨W, ρ, μ, ok, en, p⟩ => fun a ha => ?_
  have ok1 : Ok X.K (W.cell a) (upd H a (.dK [])) (μ ++ [.dct [] []]) := ok.newcell ha (m := .dct [] []) ⟨[], rfl, rfl, .nil⟩
  have g1 : Go W H (W.cell a) (upd H a (.dK [])) := Go.cell ok ha
  have hio : (W.cell a).io[μ.length]? = some a := by
    show (W.io ++ [a])[μ.length]? = some a
    rw [← ok.len]
    simp
  refine tPairs_of (W := W.cell a) ok1 (en.mono g1.le) ?_
  unfold dDisp at p
  revert p
  cases pairsF qs ρ (μ ++ [.dct [] []]) with
  | ex c fs μ1 => exact fun p W' H' d g o x => p W' H' d (g1.trans g) o x
  | bad => exact fun p => p
  | ok ps μ1 =>
    rw [R.bind_ok]
    intro p W2 vs H2 g2 o2 r2
    split at p
    · rename_i hm
      have hio2 := prefix_get g2.le.io hio
      obtain ⟨ob, hob, vs0, rfl, h00, r00⟩ := o2.cell _ _ _ hio2 hm
      cases r00
      split at p
      · rename_i kvs hk
        split at p
        · rename_i h15'
          obtain ⟨us, e, rr⟩ := r2.keys hk
          obtain ⟨ws, e1, e2, e3⟩ := merge_rep (ks := []) (xs := []) (vs := []) rr List.nodup_nil rfl rfl .nil
          obtain ⟨ok4, g4⟩ := o2.setcell (m' := .dct (mergeD kvs ([], [])).1 (mergeD kvs ([], [])).2) (o' := .dK (mergeK [] ((kvs.map (·.1)).zip us))) hio2 hm (fun z => nomatch z) ⟨ws, by rw [← e1]; rfl, e2, e3⟩
          refine ⟨hob, (kvs.map (·.1)).zip us, e, ?_, p W2 _ _ ((g1.trans g2).trans g4) ok4 (.hdl hio2)⟩
          rw [List.length_zip, List.length_map]
          omega
        · exact p.elim
      · exact p.elim
    · exact p.elim
end
end DL
/-! DL36: own exceptions over ValueError, KeyError, RuntimeError: how they are made. -/
namespace DL
open PySem L2 PySem.Spec PyProof.Rows PySem.HandSPX
abbrev keTail : List Value := [.type "KeyError", .type "LookupError", .type "Exception", .type "BaseException", .type "object"]
theorem store_KeyError : StoreFacts "KeyError" keTail "object.__setattr__" "object" where
  mro := by kernel_rfl
  slot := .of (owner := "object") (n := "__setattr__") (by rw [typeLookup_type, builtinLookup_eq_fast]; kernel_rfl) (by decide +kernel) (by decide +kernel) (by decide +kernel)
    (by first | exact .inl (by decide +kernel) | exact .inr (by decide +kernel)) (by rw [isSubtype_type]; kernel_rfl)
  entry := PySem.F.store_object.entry
  kind := by decide +kernel
  split := by decide +kernel
  hasOwner := by decide +kernel
  args := fun a b c => by unfold argsOk; kernel_rfl
  passes := fun self => by kernel_rfl
/-! ### a class over KeyError: its __new__ is LookupError's -/
section
variable {prog : Program} {w : World} {A : Around} {E : Value → Shared → Prop} {R : Result → Shared → Prop} {h : Heap} {g : Array GenState} {d : Drawn} {t : Nat} {os : OsState}
variable {nm q : Str} {C N : Addr} {bs bm bmB : List Value} {hdct : Bool} {sn : List Str} {sub : List Value} {ab : Bool} {col : Option Bool} {dd : Option Addr} {k0 k1 k2 k3 k5 : Option Value} {B newId initId : String}
theorem new2 (F : ExcBaseFacts B newId initId bmB) (cB : (Value.ref C :: bm).contains (.type B) = true) (cA : (Value.ref C :: bm).contains (.type "AttributeError") = false) (cN : (Value.ref C :: bm).contains (.type "NameError") = false) {rest : List Value}
    (hC : h.get? C = some (excClassObj nm q C N bs bm hdct sn sub ab col dd k0 k1 k2 k3 k5 newId)) (hrest : rest.length ≤ sizeLine)
    (hq : R (.ok (.ret (.ref (h.objs.size + 1)))) ⟨(h.push (W.kdv_tup rest)).push (excO C h.objs.size), g, d, t, os⟩) :
    codeAny (model prog w) A (.builtin newId ⟨.ref C :: rest, []⟩) R ⟨h, g, d, t, os⟩ := by
  have hends := F.ends
  refine codeAny_builtinAt F.entry ?_
  unfold Builtin.«BaseException.__new__»
  refine PySem.wpAt_bind ?_
  show PySem.wpAt _ _ _ (stack >>= _) _ _ _
  refine PySem.wpAt_bind (PySem.wpAt_stack fun p below => PySem.wpAt_of_wpAny ?_)
  wp_walk
  refine PySem.wpAt_of_wpAny ?_
  rw [F.owner]
  repeat (first | with_reducible refine wpAny_madeHere_exc F.canon hC ?_ | with_reducible refine wpAny_loadPart_at hC ?_ | (with_reducible refine wpAny_isSubtype_exc hC ?_; first | rw [cB] | rw [cA] | rw [cN]) | wp_step)
  show R _ _
  rw [Heap.size_push]
  exact hq
theorem check2 {M : Model} (F : ExcBaseFacts B newId initId bmB) (cB : (Value.ref C :: bm).contains (.type B) = true) {rest : List Value} {Q : Unit → Shared → Prop}
    (hC : h.get? C = some (excClassObj nm q C N bs bm hdct sn sub ab col dd k0 k1 k2 k3 k5 newId)) (hq : Q () ⟨h, g, d, t, os⟩) : wpAny M A (checkBuiltinCall newId ⟨.ref C :: rest, []⟩) Q E ⟨h, g, d, t, os⟩ := by
  have hstar := F.noStar
  simp only [checkBuiltinCall, F.newKind, F.newSplit, F.newRow]
  repeat (first | refine wpAny_loadPart_at hC ?_ | (refine wpAny_isSubtype_exc hC ?_; rw [cB]) | refine wpAny_staticBase_exc hC ?_ | refine wpAny_madeBy_exc hC ?_ | simp only [bne_self_eq_false, Bool.false_eq_true, if_false] | wp_step)
  exact hq
theorem tcall2 (F : ExcBaseFacts B newId initId bmB) (cB : (Value.ref C :: bm).contains (.type B) = true) (cA : (Value.ref C :: bm).contains (.type "AttributeError") = false) (cN : (Value.ref C :: bm).contains (.type "NameError") = false) {rest : List Value} {fI : Addr} {Q : Fin → Shared → Prop}
    (hC : h.get? C = some (excClassObj nm q C N bs bm hdct sn sub ab col dd k0 k1 k2 k3 k5 newId))
    (hi : W.Looks (model prog w) h (typeLookup (.ref C) "__init__") (some (.ref fI))) (hb : ∀ self, W.Looks (model prog w) h (bindSpecial (.ref fI) self) (.ref fI, [self])) (hrest : rest.length ≤ sizeLine)
    (hq : codeAny (model prog w) A (.call (.ref fI) ⟨.ref (h.objs.size + 1) :: rest, []⟩)
      (fun r s' => match r with | .ok (.ret v) => v = .none ∧ Q (.done (.ret (.ref (h.objs.size + 1)))) s' | .ok _ => False | .error e => E e s')
      ⟨(h.push (W.kdv_tup rest)).push (excO C h.objs.size), g, d, t, os⟩) :
    wpAny (model prog w) A (Builtin.«type.__call__» ⟨.ref C :: rest, []⟩) Q E ⟨h, g, d, t, os⟩ := by
  repeat (first | with_reducible refine wpAny_loadPart_at hC ?_ | with_reducible refine wpAny_madeBy_exc hC ?_ | wp_step)
  refine codeAny_call_builtin_code (Code.quiet_builtin _ F.quiet) (check2 F cB hC ?_)
  refine new2 F cB cA cN hC hrest ?_
  show wpAny _ _ _ _ _ _
  have k : ∀ b o, h.get? b = some o → ((h.push (W.kdv_tup rest)).push (excO C h.objs.size)).get? b = some o := fun b o e => Heap.get?_push_of_some _ (Heap.get?_push_of_some _ e)
  have hC₁ := k _ _ hC
  have hget : ((h.push (W.kdv_tup rest)).push (excO C h.objs.size)).get? (h.objs.size + 1) = some (excO C h.objs.size) := by heap_get
  have hcC : (Value.ref C :: bm).contains (.ref C) = true := by simp
  have i1 := hi.keeps k
  have b1 := (hb (.ref (h.objs.size + 1))).keeps k
  unfold isInstance
  repeat (first | with_reducible refine wpAny_loadPart_at hget ?_ | (with_reducible refine wpAny_isSubtype_exc hC₁ ?_; rw [hcC]) | wp_step)
  show wpAny _ _ (typeLookup (.ref C) _) _ _ _
  refine i1.at ?_
  refine wpAny_holding (wpAny_bind (b1.at ?_))
  refine wpAny_bind (wpAny_call (codeAny_mono hq fun r s' z => ?_))
  rcases r with e | (v | _ | _ | _) <;> first | exact z | exact z.elim | skip
  obtain ⟨rfl, z⟩ := z
  first
    | exact wpAny_pure (wpAny_pure z)
    | (wp_walk; exact z)
theorem call2 (F : ExcBaseFacts B newId initId bmB) (cB : (Value.ref C :: bm).contains (.type B) = true) (cA : (Value.ref C :: bm).contains (.type "AttributeError") = false) (cN : (Value.ref C :: bm).contains (.type "NameError") = false) {rest : List Value} {fI : Addr}
    (hC : h.get? C = some (excClassObj nm q C N bs bm hdct sn sub ab col dd k0 k1 k2 k3 k5 newId))
    (hi : W.Looks (model prog w) h (typeLookup (.ref C) "__init__") (some (.ref fI))) (hb : ∀ self, W.Looks (model prog w) h (bindSpecial (.ref fI) self) (.ref fI, [self])) (hrest : rest.length ≤ sizeLine)
    (hq : codeAny (model prog w) (A.under (.builtin "type.__call__" ⟨.ref C :: rest, []⟩)) (.call (.ref fI) ⟨.ref (h.objs.size + 1) :: rest, []⟩) (W.InitBack (h.objs.size + 1) R)
      ⟨(h.push (W.kdv_tup rest)).push (excO C h.objs.size), g, d, t, os⟩) :
    codeAny (model prog w) A (.call (.ref C) ⟨rest, []⟩) R ⟨h, g, d, t, os⟩ := by
  have f1 := tc_lookup
  have f2 := tc_bind (.ref C)
  have hTy : (⟨h, g, d, t, os⟩ : Shared).TypeIs (.ref C) "type" := ⟨_, hC, rfl⟩
  refine codeAny_of_tree ?_
  show wpAny _ _ (callAny (.ref C) _) _ _ _
  repeat (any_goals (first | assumption | with_reducible refine wpAny_loadPart_at hC ?_ | wp_step))
  refine ⟨rfl, ?_⟩
  refine codeAny_call_builtin_at (Code.quiet_builtin _ (by decide +kernel)) entry_typeCall (wpAny_check_type_call_sub hC (tcall2 F cB cA cN hC hi hb hrest ?_))
  refine codeAny_mono hq fun r s' z => ?_
  rcases r with e | (v | _ | _ | _) <;> exact z
end
theorem slot_ke : Slot "KeyError" "__init__" "KeyError.__init__" := .of (owner := "KeyError") (n := "__init__") (by rw [typeLookup_type, builtinLookup_eq_fast]; kernel_rfl) (by decide +kernel) (by decide +kernel) (by decide +kernel)
    (by first | exact .inl (by decide +kernel) | exact .inr (by decide +kernel)) (by rw [isSubtype_type]; kernel_rfl)
theorem entry_ke : entryFor table "KeyError.__init__" = some Builtin.«BaseException.__init__» := entryFor_alias (id' := "BaseException.__init__") (by rw [fastTable_eq_tree]; kernel_rfl) (by first | rfl | decide +kernel) (by decide +kernel) (by rw [fastTable_eq_tree]; kernel_rfl)
theorem split_ke : splitId "KeyError.__init__" = some ("KeyError", "__init__") := by kernel_rfl
theorem kind_ke : builtinKind "KeyError.__init__" = some .slot := by kernel_rfl
theorem row_ke : Manifest.signature? "KeyError.__init__" = some ⟨.positional, "*", "KeyError", .self, [⟨"args", .varPos, false⟩]⟩ := by kernel_rfl
section
variable {prog : Program} {w : World} {A : Around} {E : Value → Shared → Prop} {R : Result → Shared → Prop} {h : Heap} {g : Array GenState} {d : Drawn} {t : Nat} {os : OsState}
variable {nm q : Str} {C N : Addr} {bs bm bmB : List Value} {hdct : Bool} {sn : List Str} {sub : List Value} {ab : Bool} {col : Option Bool} {dd : Option Addr} {k0 k1 k2 k3 k5 : Option Value} {B newId initId : String}
theorem init_ke (cB : (Value.ref C :: bm).contains (.type "KeyError") = true) {e t0 : Addr} {rest : List Value}
    (hC : h.get? C = some (excClassObj nm q C N bs bm hdct sn sub ab col dd k0 k1 k2 k3 k5 newId)) (he : h.get? e = some (excO C t0)) (hrest : rest.length ≤ sizeLine)
    (hq : ∀ h' t1, (∀ b o, b ≠ e → h.get? b = some o → h'.get? b = some o) → h'.get? e = some (excO C t1) → R (.ok (.ret .none)) ⟨h', g, d, t, os⟩) :
    codeAny (model prog w) A (.call (.builtin "KeyError.__init__") ⟨.ref e :: rest, []⟩) R ⟨h, g, d, t, os⟩ := by
  have chk : ∀ {Q : Unit → Shared → Prop} {E : Value → Shared → Prop} {A : Around}, Q () ⟨h, g, d, t, os⟩ → wpAny (model prog w) A (checkBuiltinCall "KeyError.__init__" ⟨.ref e :: rest, []⟩) Q E ⟨h, g, d, t, os⟩ := by
    intro Q E A hq
    have hshort : ("KeyError" != "*") = true := by decide +kernel
    simp only [checkBuiltinCall, kind_ke, split_ke, row_ke]
    repeat (first | with_reducible refine wpAny_loadPart_at he ?_ | with_reducible refine wpAny_loadPart_at hC ?_ | (with_reducible refine wpAny_isSubtype_exc hC ?_; rw [cB]) | wp_step)
    refine wpAny_onRaise ?_
    rw [show ∀ (a b : String) (n : Nat), Bind.check ⟨.positional, "*", "KeyError", .self, [⟨"args", .varPos, false⟩]⟩ a b n (List.map (fun x => x.fst) ({ pos := Value.ref e :: rest } : Args).kw) = pure () from
      fun a b n => check_star_args _ _ _ _ _ _]
    exact wpAny_pure hq
  refine codeAny_call_builtin slot_ke.plain entry_ke (chk ?_)
  wp_walk
  refine hq _ h.objs.size (fun b o hb ho => ?_) ?_
  · rw [Heap.get?_update_other _ _ (Ne.symm hb)]
    exact Heap.get?_push_of_some _ ho
  · rw [Heap.get?_update_self _ (Heap.get?_push_of_some _ he) rfl]
    rfl
end
end DL
/-! DL37: own exceptions: __init__ of the base, fields, the call of the class. -/
namespace DL
open PySem L2 PySem.Spec PyProof.Rows PySem.HandSPX
/-- what is known of a built-in exception class under own ones -/
structure Bas (newId initId : String) (bmB : List Value) : Prop where
  call : ∀ {prog : Program} {w : World} {A : Around} {R : Result → Shared → Prop} {h : Heap} {g : Array GenState} {d : Drawn} {t : Nat} {os : OsState} {nm q : Str} {C N : Addr} {bs bm : List Value} {hdct : Bool} {sn : List Str} {sub : List Value} {ab : Bool} {col : Option Bool} {dd : Option Addr} {k0 k1 k2 k3 k5 : Option Value} {rest : List Value} {fI : Addr},
    (∀ X : String, bm.contains (.type X) = bmB.contains (.type X)) → h.get? C = some (excClassObj nm q C N bs bm hdct sn sub ab col dd k0 k1 k2 k3 k5 newId) →
    PySem.W.Looks (model prog w) h (typeLookup (.ref C) "__init__") (some (.ref fI)) → (∀ self, PySem.W.Looks (model prog w) h (bindSpecial (.ref fI) self) (.ref fI, [self])) → rest.length ≤ sizeLine →
    codeAny (model prog w) (A.under (.builtin "type.__call__" ⟨.ref C :: rest, []⟩)) (.call (.ref fI) ⟨.ref (h.objs.size + 1) :: rest, []⟩) (PySem.W.InitBack (h.objs.size + 1) R) ⟨(h.push (PySem.W.kdv_tup rest)).push (excO C h.objs.size), g, d, t, os⟩ →
    codeAny (model prog w) A (.call (.ref C) ⟨rest, []⟩) R ⟨h, g, d, t, os⟩
  init : ∀ {prog : Program} {w : World} {A : Around} {R : Result → Shared → Prop} {h : Heap} {g : Array GenState} {d : Drawn} {t : Nat} {os : OsState} {nm q : Str} {C N : Addr} {bs bm : List Value} {hdct : Bool} {sn : List Str} {sub : List Value} {ab : Bool} {col : Option Bool} {dd : Option Addr} {k0 k1 k2 k3 k5 : Option Value} {rest : List Value} {e t0 : Addr},
    (∀ X : String, bm.contains (.type X) = bmB.contains (.type X)) → h.get? C = some (excClassObj nm q C N bs bm hdct sn sub ab col dd k0 k1 k2 k3 k5 newId) → h.get? e = some (excO C t0) → rest.length ≤ sizeLine →
    (∀ h' t1, (∀ b o, b ≠ e → h.get? b = some o → h'.get? b = some o) → h'.get? e = some (excO C t1) → R (.ok (.ret .none)) ⟨h', g, d, t, os⟩) →
    codeAny (model prog w) A (.call (.builtin initId) ⟨.ref e :: rest, []⟩) R ⟨h, g, d, t, os⟩
  st : ∃ B, StoreFacts B bmB "object.__setattr__" "object"
abbrev rtTail : List Value := [.type "RuntimeError", .type "Exception", .type "BaseException", .type "object"]
theorem bas_VE : Bas "ValueError.__new__" "ValueError.__init__" veTail := ⟨fun hT hC hi hb hr hq => call_own F.excBase_ValueError hT hC hi hb hr hq, fun hT hC he hr hq => init_base F.excBase_ValueError hT hC he hr hq, _, F.store_ValueError⟩
theorem bas_RT : Bas "RuntimeError.__new__" "RuntimeError.__init__" rtTail := ⟨fun hT hC hi hb hr hq => call_own F.excBase_RuntimeError hT hC hi hb hr hq, fun hT hC he hr hq => init_base F.excBase_RuntimeError hT hC he hr hq, _, F.store_RuntimeError⟩
theorem ke_has {C : Addr} {bm : List Value} {x : String} {b : Bool} (e : keTail.contains (.type x) = b) (hT : ∀ X : String, bm.contains (.type X) = keTail.contains (.type X)) : (Value.ref C :: bm).contains (.type x) = b := by
  rw [List.contains_cons, hT, e]
  cases b <;> rfl
theorem bas_KE : Bas "LookupError.__new__" "KeyError.__init__" keTail :=
  ⟨fun hT hC hi hb hr hq => call2 F.excBase_LookupError (ke_has (by decide +kernel) hT) (ke_has (by decide +kernel) hT) (ke_has (by decide +kernel) hT) hC hi hb hr hq,
   fun hT hC he hr hq => init_ke (ke_has (by decide +kernel) hT) hC he hr hq, _, store_KeyError⟩
/-- an own exception class over a built-in one whose __init__ is initId -/
structure OexG (K : PySem.W.Frag) (C : Addr) (initId : String) : Prop where
  ex : ∃ newId bmB, Bas newId initId bmB ∧ PySem.W.excInitIn K C bmB newId = true ∧ PySem.W.excOver K C bmB = true
  hd : PySem.W.hasDictIn K C = true
  sa : PySem.W.findIn K (.ref C) "__setattr__" = some (some (.builtin "object.__setattr__"))
  exC : PySem.W.subIn K (.ref C) (.type "BaseException") = some true
  tyC : PySem.W.typeIn K (.ref C) = some (.type "type")
  kC : PySem.W.keepIn K (.ref C) = true
section
open Builtin Builtin.ObjectAttr
variable {prog : Program} {w : World} {A : Around} {E : Value → Shared → Prop} {R : Result → Shared → Prop} {hp : Heap} {g : Array GenState} {d : Drawn} {t : Nat} {os : OsState} {K : PySem.W.Frag} {name : Str} {tk : Tok} {v : Value} {x C dx : Addr} {fv : Array Value} {i : String}
theorem osaG_new (T : OexG K C i) (X : K.In hp) (hx : hp.get? x = some { cls := .ref C, data := .fields fv }) (ha : PySem.W.findIn K (.ref C) name = some none)
    (hq : ∀ h' tk' dx, (∀ b o, b ≠ x → hp.get? b = some o → h'.get? b = some o) → hp.objs.size ≤ dx → dx ≠ x → h'.get? x = some { cls := .ref C, dict := some dx, data := .fields fv } →
      h'.Ns1 dx (fun y => if y = name then some v else none) → R (.ok (.ret .none)) ⟨h', g, d, tk', os⟩) :
    codeAny (model prog w) A (.call (.builtin "object.__setattr__") ⟨[.ref x, .str name tk, v], []⟩) R ⟨hp, g, d, t, os⟩ := by
  obtain ⟨newId, bmB, B, qi, qo⟩ := T.ex
  obtain ⟨Bn, SF⟩ := B.st
  obtain ⟨cd, hcd, hh⟩ := PySem.W.any_some T.hd
  have hxs : x ≠ hp.objs.size := Nat.ne_of_lt (Heap.lt_size hx)
  have I : PySem.W.InstAt hp x { cls := .ref C, data := .fields fv } C none := ⟨hx, rfl, rfl, trivial⟩
  have hcls : PySem.W.Looks (model prog w) hp (classData C) cd := PySem.W.looks_clsIn X hcd
  refine PySem.W.osa_openX (s := ⟨hp, g, d, t, os⟩) SF X I qo (r := none) (by unfold PySem.W.takerIn; rw [ha]; rfl) fun b => ?_
  show wpAny _ _ (storeInOwnDict (.ref x) (.ref C) (.str name tk) name v b) _ _ _
  obtain ⟨nm, bs, mro, ns, qn, hd, sn, sb, ab, col, del⟩ := cd
  dsimp only at hh
  subst hh
  unfold storeInOwnDict ownDictForStores
  repeat (first | with_reducible refine store_in_new ?_ ?_ | with_reducible refine wpAny_loadPart_at hx ?_ | with_reducible refine hcls.at ?_ | wp_step)
  · exact ⟨_, #[], _, (Heap.get?_update_ne _ _ _ _ hxs.symm).trans (Heap.get?_push_at rfl rfl), rfl, fun e he => absurd he (by simp), fun _ => rfl⟩
  · intro h' tk' hn' hs
    have hx₁ : (hp.push { cls := .type "dict", data := .dict #[] }).get? x = some { cls := .ref C, data := .fields fv } := Heap.get?_push_of_some _ hx
    refine hq h' tk' hp.objs.size (fun b o hb ho => ?_) (Nat.le_refl _) hxs.symm ?_ hn'
    · exact (hs.2 b (Nat.ne_of_lt (Heap.lt_size ho))).trans ((Heap.get?_update_ne _ _ _ _ hb).trans (Heap.get?_push_of_some _ ho))
    · exact (hs.2 x hxs).trans (Heap.get?_update_self _ hx₁ rfl)
theorem osaG_old {m0 : Str → Option Value} {nl : List Str} (T : OexG K C i) (X : K.In hp) (hx : hp.get? x = some { cls := .ref C, dict := some dx, data := .fields fv }) (hns : hp.Ns1 dx m0) (hw : Within m0 nl) (hz : nl.length ≤ 1000) (ha : PySem.W.findIn K (.ref C) name = some none)
    (hq : ∀ h' tk', (∀ b o, b ≠ dx → hp.get? b = some o → h'.get? b = some o) → h'.Ns1 dx (fun y => if y = name then some v else m0 y) → R (.ok (.ret .none)) ⟨h', g, d, tk', os⟩) :
    codeAny (model prog w) A (.call (.builtin "object.__setattr__") ⟨[.ref x, .str name tk, v], []⟩) R ⟨hp, g, d, t, os⟩ := by
  obtain ⟨newId, bmB, B, qi, qo⟩ := T.ex
  obtain ⟨Bn, SF⟩ := B.st
  obtain ⟨cd, hcd, hh⟩ := PySem.W.any_some T.hd
  obtain ⟨oD, esD, epD, hoD, hdD, _⟩ := hns.count hw
  have I : PySem.W.InstAt hp x { cls := .ref C, dict := some dx, data := .fields fv } C (some oD) := ⟨hx, rfl, rfl, hoD⟩
  have hcls : PySem.W.Looks (model prog w) hp (classData C) cd := PySem.W.looks_clsIn X hcd
  refine PySem.W.osa_openX (s := ⟨hp, g, d, t, os⟩) SF X I qo (r := none) (by unfold PySem.W.takerIn; rw [ha]; rfl) fun b => ?_
  show wpAny _ _ (storeInOwnDict (.ref x) (.ref C) (.str name tk) name v b) _ _ _
  obtain ⟨nm, bs, mro, ns, qn, hd, sn, sb, ab, col, del⟩ := cd
  dsimp only at hh
  subst hh
  unfold storeInOwnDict ownDictForStores
  repeat (first | with_reducible refine PySem.OEX.store_in_old hns hw hz ?_ | with_reducible refine wpAny_loadPart_at hx ?_ | with_reducible refine hcls.at ?_ | wp_step)
  intro h' tk' hn' hs
  exact hq h' tk' (fun b o hb ho => (hs.2 b hb).trans ho) hn'
end
section
variable {X : Cx} {pins : List (Addr × Obj)} {σ : L2.St} {H : Hp} {s : Shared} {a C dx : Addr} {f : Str} {y : V} {u : Value} {fs : List (Str × V)} {Q : Unit → Shared → Prop} {E : Value → Shared → Prop} {A : Around} {i : String}
theorem ostG_new (T : OexG X.K C i) (I : Inv X pins σ H s) (e : H a = some (exo a C none)) (hno : PySem.W.findIn X.K (.ref C) f = some none) (ry : RelV y u)
    (h : ∀ dx s', H dx = none → dx ≠ a → Inv X pins σ (upd (upd H dx (exd dx [(f, y)])) a (exo a C (some dx))) s' → Q () s') : wpAny (model X.prog X.w) A (setAttr (.ref a) f u) Q E s := by
  obtain ⟨t1, ho⟩ := exo_at I.hok e
  obtain ⟨hp, g, d, t, os⟩ := s
  refine PySem.W.set_plain I.kIn (ox := { cls := .ref C, dict := none, data := .fields #[.ref t1, .none, .none, .none, .bool false, .none] }) (od := none) ⟨ho, rfl, rfl, trivial⟩ T.sa ?_
  refine osaG_new T I.kIn ho hno (fun h' tk' dx k dn dne hx hn => ?_)
  have hnd : H dx = none := I.hok.fresh dn
  have nd : ∀ {b : Addr} {o : Obj}, hp.get? b = some o → b ≠ dx := fun {b o} q => Nat.ne_of_lt (Nat.lt_of_lt_of_le (Heap.lt_size q) dn)
  have na : ∀ {b : Addr}, H b = none → b ≠ a := fun {b} n z => by
    rw [z, e] at n
    cases n
  have Un1 : Un X.fs [] H (upd (upd H dx (exd dx [(f, y)])) a (exo a C (some dx))) hp h' := {
    keep := fun b o q n _ _ => k b o (na n) q
    slot := fun b o q n _ _ => ⟨o.slots, k b o (na n) q⟩
    free := fun b o q n _ => by rw [upd_ne (na n), upd_ne (nd q)]; exact n
    there := fun b o q _ => by
      by_cases hb : b = a
      · exact ⟨_, by rw [hb]; exact hx⟩
      · exact ⟨o, k b o hb q⟩
    tups := fun b xs q => by rw [upd_ne (at_ne e q exo_tup), upd_ne (ne_of_none q hnd)]; exact q
    frzs := fun b o v q => by rw [upd_ne (at_ne e q exo_frz), upd_ne (ne_of_none q hnd)]; exact q
    tbls := fun b ps q => ⟨#[], by rw [upd_ne (at_ne e q exo_tbl), upd_ne (ne_of_none q hnd), q]; simp⟩ }
  refine h dx _ hnd dne (I.un (t' := tk') Un1 fun b o q => ?_)
  by_cases hb : b = a
  · subst hb
    rw [upd_same] at q
    cases q
    exact exo_ok hx
  · rw [upd_ne hb] at q
    by_cases hd : b = dx
    · subst hd
      rw [upd_same] at q
      cases q
      exact exd_ok hn (relO_put (fs := []) ry fun g => True.intro)
    · rw [upd_ne hd] at q
      exact (I.hok b o q).stay (fun c v hc z => k c v (by
          rcases hc with hc | hc
          · rw [hc]
            exact hb
          · exact at_ne e hc exo_own) z)
        (fun c hc => by rw [upd_ne (at_ne e hc exo_own), upd_ne (ne_of_none hc hnd)]; exact hc) (fun c xs hc => by rw [upd_ne (at_ne e hc exo_tup), upd_ne (ne_of_none hc hnd)]; exact hc)
theorem ostG_old (T : OexG X.K C i) (I : Inv X pins σ H s) (e : H a = some (exo a C (some dx))) (ed : H dx = some (exd dx fs)) (hl : fs.length ≤ 900) (hno : PySem.W.findIn X.K (.ref C) f = some none) (ry : RelV y u)
    (h : ∀ s', Inv X pins σ (upd H dx (exd dx ((f, y) :: fs))) s' → Q () s') : wpAny (model X.prog X.w) A (setAttr (.ref a) f u) Q E s := by
  obtain ⟨t1, ho⟩ := exo_at I.hok e
  obtain ⟨mA, hns, rel⟩ := exd_at I.hok ed
  have hw := within_of rel
  obtain ⟨hp, g, d, t, os⟩ := s
  obtain ⟨oD, _, _, hoD, _, _⟩ := hns.count hw
  refine PySem.W.set_plain I.kIn (ox := { cls := .ref C, dict := some dx, data := .fields #[.ref t1, .none, .none, .none, .bool false, .none] }) (od := some oD) ⟨ho, rfl, rfl, hoD⟩ T.sa ?_
  refine osaG_old T I.kIn ho hns hw (by rw [List.length_map]; omega) hno (fun h' tk' k hn => ?_)
  have hd : ∃ o, h'.get? dx = some o := by
    obtain ⟨o, _, _, e', _⟩ := hn
    exact ⟨o, e'⟩
  exact h _ (I.write (t' := tk') (x := dx) (e := dx) (o := exd dx ((f, y) :: fs)) (by rw [ed]; exact True.intro) (.inl rfl) k hd (exd_ok hn (relO_put ry rel)))
theorem oinitG {us : List Value} {Q : Value → Shared → Prop} (T : OexG X.K C i) (I : Inv X pins σ H s) (e : H a = some (exo a C none)) (hl : us.length ≤ sizeLine) (h : ∀ s', Inv X pins σ H s' → Q .none s') :
    wpAny (model X.prog X.w) A (call (.builtin i) (.ref a :: us)) Q E s := by
  obtain ⟨newId, bmB, B, qi, qo⟩ := T.ex
  obtain ⟨nm, N, q, bs, bm, hdct, sn, sub, ab, col, dd, k0, k1, k2, k3, k5, hC, hT⟩ := PySem.W.excInit_of I.kIn qi
  obtain ⟨t1, ho⟩ := exo_at I.hok e
  obtain ⟨hp, g, d, t, os⟩ := s
  refine wpAny_call (B.init hT hC ho hl fun h' t2 k hx => ?_)
  have J := I.write (t' := t) (x := a) (e := a) (o := exo a C none) (by rw [e]; exact True.intro) (.inl rfl) k ⟨_, hx⟩ (exo_ok hx)
  have eu : upd H a (exo a C none) = H := by
    funext b
    by_cases hb : b = a
    · rw [hb, upd_same, e]
    · rw [upd_ne hb]
  rw [eu] at J
  exact h _ J
end
end DL
/-! DL38: the __init__ of an own exception class, and the class called. -/
namespace DL
open PySem L2 PySem.Spec PyProof.Rows PySem.HandSPX
/-- bv.__init__ is the built-in i -/
def GMi (X : Cx) (bv : Value) (i : String) : Prop := ∀ (pins : List (Addr × Obj)) (σ : L2.St) (H : Hp) (s : Shared) (pl : Sem Bool) (A : Around) (Q : Value × List Value → Shared → Prop) (E : Value → Shared → Prop), Inv X pins σ H s → Q (.builtin i, []) { s with toks := s.toks + 1 } → wpAny (model X.prog X.w) A (getMethod bv "__init__" pl) Q E s
theorem gm_type {X : Cx} {T i : String} (e : PySem.W.findCls X.K (.type T) (.type "type") "__init__" = some (.val (.builtin i))) (ht : typeOf (.type T) = pure (.type "type") := by kernel_rfl) (hs : Manifest.isStub T = false := by decide +kernel) (hh : PySem.W.handedIn (.builtin i) = true := by decide +kernel) : GMi X (.type T) i := by
  intro pins σ H s pl A Q E I h
  obtain ⟨m, fr⟩ := I.fr
  exact PySem.W.method_type fr I.ok.mod.kin ht hs e hh h
theorem gm_own {X : Cx} {B : Addr} {i : String} (hg : PySem.W.specialIn X.K (.ref B) "__getattribute__" = some (some (.builtin "type.__getattribute__"))) (hr : PySem.W.readsIn X.K B (.type "type") = true) (e : PySem.W.findCls X.K (.ref B) (.type "type") "__init__" = some (.val (.builtin i))) (hh : PySem.W.handedIn (.builtin i) = true := by decide +kernel) : GMi X (.ref B) i := by
  intro pins σ H s pl A Q E I h
  exact PySem.W.method_cls I.kIn hg (PySem.W.cls_value I.kIn hr e hh h)
def tInit (K : PySem.W.Frag) (i : String) (ta : TA) : TE := fun σ H Q => ta σ H fun vs H1 => ∃ (a C : Addr) (ws : List V), vs = .ref a :: ws ∧ ws.length ≤ 1000 ∧ OexG K C i ∧ H1 a = some (exo a C none) ∧ Q .non H1
def tOstG (K : PySem.W.Frag) (i : String) (f : Str) (to te : TE) : TS := fun D σ H => te σ H fun y H1 => to σ H1 fun x H2 => ∃ a C : Addr, x = .ref a ∧ OexG K C i ∧ PySem.W.findIn K (.ref C) f = some none ∧
  ((H2 a = some (exo a C none) ∧ ∀ dx, H2 dx = none → dx ≠ a → D.nx σ (upd (upd H2 dx (exd dx [(f, y)])) a (exo a C (some dx)))) ∨
    ∃ (dx : Addr) (fs : List (Str × V)), H2 a = some (exo a C (some dx)) ∧ H2 dx = some (exd dx fs) ∧ fs.length ≤ 900 ∧ D.nx σ (upd H2 dx (exd dx ((f, y) :: fs))))
section
variable {X : Cx} {o e : Expr} {es : List Expr} {to te : TE} {ta : TA} {f x : Str} {p p' p1 p2 pos : Pos} {i : String} {bv : Value}
theorem pe_initG {pl : Sem Bool} (hn : Names X x bv) (gm : GMi X bv i) (ha : PA X (e :: es) ta)
    (hc : eval (.Call (.Attribute (.Name x p1) "__init__" p2) (e :: es) [] pos) X.env = (do
      let ov ← eval (.Name x p1) X.env
      standAt p2.atName
      let (f, first) ← holding [ov] (getMethod ov "__init__" pl)
      callWith pos f first (backTo pos (starEach (e :: es) X.env)) (backToKw pos (keywordEach [] X.env))) := by rfl)
    (he : starEach (e :: es) X.env = (false, eval e X.env) :: starEach es X.env := by rfl) (hpl : (backTo pos (starEach es X.env)).any (·.1) = false := by rfl) :
    PE X (.Call (.Attribute (.Name x p1) "__init__" p2) (e :: es) [] pos) (tInit X.K i ta) := by
  refine ⟨fun pins s σ H Q I h => ?_⟩
  have go : wpAny (model X.prog X.w) X.A (getMethod bv "__init__" pl) (fun fx s₂ => wpAny (model X.prog X.w) X.A (callWith pos fx.1 fx.2 (backTo pos (starEach (e :: es) X.env)) (backToKw pos (keywordEach [] X.env))) (EP X pins σ Q) X.xe s₂) X.xe s := by
    refine gm pins σ H s pl X.A _ X.xe I ?_
    show wpAny _ _ (callWith pos (Value.builtin i) [] (backTo pos (starEach (e :: es) X.env)) []) _ _ _
    refine PyProof.Rows.callWith_method1 (thn (ha.run pos pins _ σ H _ (I.tok _) h) fun us s1 ⟨vs, H1, I1, r1, a, C, ws, ev, hl, T, ea, q⟩ => ?_) he hpl
    subst ev
    cases r1 with
    | @cons _ u0 _ ur ra rw' =>
      obtain rfl : u0 = Value.ref a := ra
      have hlen : ur.length ≤ sizeLine := by
        rw [← Paired.length rw', sizeLine_eq]
        omega
      exact oinitG T I1 ea hlen fun s' J => ⟨.non, H1, J, rfl, q⟩
  obtain ⟨hg, hdb, hm | ⟨hm, hv, hnn⟩⟩ := hn
  · exact PySem.W.methodCall_KW (ld_glob I hg hm go hdb) hc
  · exact PySem.W.methodCall_KW (ld_blt I hg hm hv go hnn hdb) hc
theorem ps_ostG (ho : PE X o to) (he : PE X e te) (hs : swapsWith e (some (.Attribute o f p')) pos.line X.env = pure false := by rfl) : PS X (.Assign [.Attribute o f p'] e pos) (tOstG X.K i f to te) := by
  refine ⟨fun pins s σ H D I h => ?_⟩
  refine plainObj_wpAny_Assign_Attribute (thn (he.run pins s σ H _ I h) fun v s1 ⟨y, H1, I1, r1, q1⟩ => thn (ho.run pins s1 σ H1 _ I1 q1) fun u s2 ⟨x, H2, I2, r2, a, C, ex, T, hno, q⟩ => ?_) hs
  subst ex
  obtain rfl : u = Value.ref a := r2
  rcases q with ⟨ea, q⟩ | ⟨dx, fs, ea, ed, hl, q⟩
  · exact ostG_new T I2 ea hno r1 fun dx s' n ne J => ⟨σ, _, J, q dx n ne⟩
  · exact ostG_old T I2 ea ed hl hno r1 fun s' J => ⟨σ, _, J, q⟩
end
/-! ### what such an __init__ keeps -/
/-- no field; one; two -/
def sp0 (C : Addr) : Sp := fun vs H Q _ => ∃ a, vs = [.ref a] ∧ H a = some (exo a C none) ∧ Q .non H
def sp1 (C : Addr) (f : Str) : Sp := fun vs H Q _ => ∃ a y, vs = [.ref a, y] ∧ H a = some (exo a C none) ∧ ∀ dx, H dx = none → dx ≠ a → Q .non (upd (upd H dx (exd dx [(f, y)])) a (exo a C (some dx)))
def sp2 (C : Addr) (f g : Str) : Sp := fun vs H Q _ => ∃ a y z, vs = [.ref a, y, z] ∧ H a = some (exo a C none) ∧ ∀ dx, H dx = none → dx ≠ a → Q .non (upd (upd (upd H dx (exd dx [(f, y)])) a (exo a C (some dx))) dx (exd dx [(g, z), (f, y)]))
theorem sp0_len {C : Addr} : ∀ vs H Q E, sp0 C vs H Q E → vs.length = 1 := fun _ _ _ _ ⟨_, e, _⟩ => by rw [e]; rfl
theorem sp1_len {C : Addr} {f : Str} : ∀ vs H Q E, sp1 C f vs H Q E → vs.length = 2 := fun _ _ _ _ ⟨_, _, e, _⟩ => by rw [e]; rfl
theorem sp2_len {C : Addr} {f g : Str} : ∀ vs H Q E, sp2 C f g vs H Q E → vs.length = 3 := fun _ _ _ _ ⟨_, _, _, e, _⟩ => by rw [e]; rfl
section
variable {P : Program} {w : World} {K : PySem.W.Frag} {mg : Str → Option Value} {base : Heap} {CX : CXT}
variable {B m f g p1 p2 : Str} {bv : Value} {i : String} {C : Addr} {j : Nat} {a1 a2 a3 a4 a5 a6 a7 a8 a9 b5 b6 b7 b8 : Pos}
/-- the call of the base's __init__ -/
abbrev bodyI (B m : Str) (j : Nat) (a1 a2 a3 a4 a5 a6 : Pos) : Stmt := .Expr (.Call (.Attribute (.Name B a1) "__init__" a2) [.Name "self" a3, .Constant (.str m) j a4] [] a5) a6
abbrev bodyF (f p : Str) (a1 a2 a3 a4 : Pos) : Stmt := .Assign [.Attribute (.Name "self" a1) f a2] (.Name p a3) a4
end
end DL
/-! DL39: an own exception class called. -/
namespace DL
open PySem L2 PySem.Spec PyProof.Rows PySem.HandSPX
/-- where the making ends -/
def EndG (C a : Addr) (H1 H2 : Hp) (Q : XK) : Prop := (H2 = upd H1 a (exo a C none) ∧ Q (.ref C) none H1) ∨
  ∃ (d : Addr) (fs : List (Str × V)), H2 a = some (exo a C (some d)) ∧ H2 d = some (exd d fs) ∧ H1 d = none ∧ Q (.ref C) (some d) (upd (del H2 a) d (.xd fs))
section
variable {X : Cx} {pins : List (Addr × Obj)} {σ : L2.St} {H1 H2 : Hp}
/-- one without fields is let go -/
theorem mk_none {hp hp2 h2 : Heap} {g1 g2 : Array GenState} {d1 d2 : Drawn} {t1 t2 : Nat} {os1 os2 : OsState} {a C : Addr} (I1 : Inv X pins σ H1 ⟨hp, g1, d1, t1, os1⟩)
    (ha : hp.objs.size ≤ a) (k : ∀ b o, hp.get? b = some o → hp2.get? b = some o) (un : Un (frs X.stack) [] (upd H1 a (exo a C none)) (upd H1 a (exo a C none)) hp2 h2) (hok : HOk X.prog X.w (upd H1 a (exo a C none)) h2) (ho : os2 = os1) (hb : AllBare g2) :
    ∃ (t0 : Addr) (G : Heap), Inv X pins σ H1 ⟨G, g2, d2, t2, os2⟩ ∧ (∀ b o, G.get? b = some o → h2.get? b = some o) ∧ G.get? a = none ∧
      h2.get? a = some ({ cls := .ref C, dict := none, data := .fields #[.ref t0, .none, .none, .none, .bool false, .none] } : Obj) ∧ H1 a = none := by
  have ea : upd H1 a (exo a C none) a = some (exo a C none) := upd_same
  obtain ⟨t0, hoe⟩ := exo_at hok ea
  have hn : H1 a = none := I1.hok.fresh ha
  obtain ⟨G, g1', g2'⟩ := restrict h2 fun b => decide (b ≠ a)
  have gk : ∀ b, b ≠ a → G.get? b = h2.get? b := fun b hb => g1' b (decide_eq_true hb)
  have ge : G.get? a = none := g2' a (by simp)
  have nha : ∀ {b : Addr} {o : Obj}, hp.get? b = some o → b ≠ a := fun {b o} z => Nat.ne_of_lt (Nat.lt_of_lt_of_le (Heap.lt_size z) ha)
  have up : ∀ {b : Addr}, b ≠ a → H1 b = none → upd H1 a (exo a C none) b = none := fun {b} hb n => by rw [upd_ne hb]; exact n
  have U : Un (frs X.stack) [] H1 H1 hp G := {
    keep := fun b o z n hf hx => by
      rw [gk b (nha z)]
      exact un.keep b o (k b o z) (up (nha z) n) hf hx
    slot := fun b o z n hf hx => by
      rw [gk b (nha z)]
      exact un.slot b o (k b o z) (up (nha z) n) hf hx
    free := fun b o z n hx => n
    there := fun b o z hx => by
      rw [gk b (nha z)]
      exact un.there b o (k b o z) hx
    tups := fun b xs z => z
    frzs := fun b o v z => z
    tbls := fun b ps z => ⟨#[], by rw [z]; simp⟩ }
  have hok3 : HOk X.prog X.w H1 G := fun b o z => by
    have hba : b ≠ a := ne_of_none z hn
    have noa : ∀ {c : Addr} {o : HO}, H1 c = some o → c ≠ a := fun {c o} hc => ne_of_none hc hn
    refine (hok b o (by rw [upd_ne hba]; exact z)).stay (fun c v hc y => ?_) (fun c hc => ?_) (fun c xs hc => ?_)
    · have hca : c ≠ a := by
        rcases hc with hc | hc
        · rw [hc]
          exact hba
        · exact at_ne ea hc exo_own
      rw [gk c hca]
      exact y
    · rw [upd_ne (at_ne ea hc exo_own)] at hc
      exact hc
    · rw [upd_ne (at_ne ea hc exo_tup)] at hc
      exact hc
  have J : Inv X pins σ H1 ⟨G, g2, d2, t2, os2⟩ := I1.call' (ch := []) ho U hok3 hb (fun b z => absurd z (by simp))
  refine ⟨t0, G, J, fun b o z => ?_, ge, hoe, hn⟩
  by_cases hba : b = a
  · rw [hba, ge] at z
    cases z
  · exact (gk b hba).symm.trans z
theorem run_oex {k : Nat} {C fI : Addr} {fd : FuncData} {ps : List Str} {sp : Sp} {i : String} {s1 : Shared} {us : List Value} {vs : List V} {Q : XK} (T : OexG X.K C i) (iC : PySem.W.findIn X.K (.ref C) "__init__" = some (some (.ref fI))) (tI : PySem.W.typeIn X.K (.ref fI) = some (.type "function"))
    (F1 : FnOk X.prog X.w X.K X.mg X.base (L2.CX X.prog X.w) k fI fd ps sp) (hr : Room (k + 1) X.A) (hb : Binds X.K fd ps []) (I1 : Inv X pins σ H1 s1) (r1 : Vals vs us) (hz : vs.length ≤ 1000)
    (q1 : ∀ a, H1 a = none → sp (.ref a :: vs) (upd H1 a (exo a C none)) (fun v H2 => v = .non ∧ EndG C a H1 H2 Q) (fun _ _ _ => False)) : wpAny (model X.prog X.w) X.A (call (.ref C) us) (MkP X pins σ Q) X.xe s1 := by
  obtain ⟨newId, bmB, B, qi, qo⟩ := T.ex
  obtain ⟨nm, N, q, bs, bm, hdct, sn, sub, ab, col, dd, k0, k1, k2, k3, k5, hC, hT⟩ := PySem.W.excInit_of I1.kIn qi
  obtain ⟨hp, g, dr, tk, os⟩ := s1
  have hsz : hp.objs.size ≤ hp.objs.size + 1 := Nat.le_succ _
  have hn : H1 (hp.objs.size + 1) = none := I1.hok.fresh hsz
  have hq := q1 (hp.objs.size + 1) hn
  have kk : ∀ b o, hp.get? b = some o → ((hp.push (PySem.W.kdv_tup us)).push (excO C hp.objs.size)).get? b = some o := fun b o e => Heap.get?_push_of_some _ (Heap.get?_push_of_some _ e)
  have hget : ((hp.push (PySem.W.kdv_tup us)).push (excO C hp.objs.size)).get? (hp.objs.size + 1) = some (excO C hp.objs.size) := by heap_get
  have I2 : Inv X pins σ (upd H1 (hp.objs.size + 1) (exo (hp.objs.size + 1) C none)) ⟨(hp.push (PySem.W.kdv_tup us)).push (excO C hp.objs.size), g, dr, tk, os⟩ :=
    I1.laid (t' := tk) (a := hp.objs.size + 1) (o := exo (hp.objs.size + 1) C none) (h' := (hp.push (PySem.W.kdv_tup us)).push (excO C hp.objs.size)) kk hsz (exo_ok hget)
  have r2 : Vals (V.ref (hp.objs.size + 1) :: vs) (Value.ref (hp.objs.size + 1) :: us) := .cons rfl r1
  have hl : (Value.ref (hp.objs.size + 1) :: us ++ []).length = ps.length := by
    have e := r2.length
    rw [F1.len _ _ _ _ hq] at e
    rw [List.append_nil]
    exact e.symm
  have hus : us.length ≤ sizeLine := by
    rw [← Paired.length r1, sizeLine_eq]
    omega
  have b := hb ⟨(hp.push (PySem.W.kdv_tup us)).push (excO C hp.objs.size), g, dr, tk, os⟩ (Value.ref (hp.objs.size + 1) :: us) I2.kIn hl
  rw [List.append_nil] at b
  refine wpAny_call (B.call hT hC (PySem.W.looks_findIn I1.kIn iC) (fun self => PySem.W.bind_fn I1.kIn self tI) hus
    (codeAny_mono (F1.run _ X.stack _ _ ⟨Value.ref (hp.objs.size + 1) :: us, []⟩ (Value.ref (hp.objs.size + 1) :: us) _ _ (fun _ _ _ => False) (hr.make C us []) (I2.env0.make C us []) b r2 hq) fun r s' hq' => ?_))
  cases r with
  | error er =>
    obtain ⟨_, _, _, _, _, _, _, _, _, _, _, _, z⟩ := hq'
    exact z.elim
  | ok fl =>
    cases fl with
    | ret u =>
      obtain ⟨v, H2, os2, bare2, un2, hok2, rv, ev, en⟩ := hq'
      subst ev
      obtain ⟨h2, g2, d2, t2, os'⟩ := s'
      rcases en with ⟨rfl, q2⟩ | ⟨d, fs, ea, ed, hd1, q2⟩
      · obtain ⟨t0, G, J, kG, ge, hoe, na⟩ := mk_none (d2 := d2) (t2 := t2) I1 hsz kk un2 hok2 os2 bare2
        exact ⟨rv, _, _, _, ⟨G, g2, d2, t2, os'⟩, H1, .ref C, none, rfl, J, kG, ge, hoe, ⟨rfl, rfl⟩, rfl, rfl, na, rfl, bare2, raises_own T.exC T.tyC, q2⟩
      · exact ⟨rv, mk_end (raises_own T.exC T.tyC) I1 hsz kk un2 hok2 os2 bare2 ea ed hd1 q2⟩
    | next => exact False.elim hq'
    | brk => exact False.elim hq'
    | cont => exact False.elim hq'
end
end DL
/-! DL40: raise C(e, ..). -/
namespace DL
open PySem L2 PySem.Spec PyProof.Rows PySem.HandSPX
def tI0 (K : PySem.W.Frag) (i : String) : TS := fun D σ H => ∃ a C, σ[0]? = some (some (.ref a)) ∧ OexG K C i ∧ H a = some (exo a C none) ∧ D.nx σ H
def tI1 (K : PySem.W.Frag) (i : String) (f : Str) : TS := fun D σ H => ∃ a C y, σ[0]? = some (some (.ref a)) ∧ σ[1]? = some (some y) ∧ OexG K C i ∧ PySem.W.findIn K (.ref C) f = some none ∧ H a = some (exo a C none) ∧ ∀ dx, H dx = none → dx ≠ a → D.nx σ (upd (upd H dx (exd dx [(f, y)])) a (exo a C (some dx)))
def tI2 (K : PySem.W.Frag) (i : String) (f g : Str) : TS := fun D σ H => ∃ a C y z, σ[0]? = some (some (.ref a)) ∧ σ[1]? = some (some y) ∧ σ[2]? = some (some z) ∧ OexG K C i ∧ PySem.W.findIn K (.ref C) f = some none ∧ PySem.W.findIn K (.ref C) g = some none ∧ H a = some (exo a C none) ∧ ∀ dx, H dx = none → dx ≠ a → D.nx σ (upd (upd (upd H dx (exd dx [(f, y)])) a (exo a C (some dx))) dx (exd dx [(g, z), (f, y)]))
section
variable {X : Cx} {B m f g p q : Str} {bv : Value} {i : String} {j : Nat} {a1 a2 a3 a4 a5 a6 b1 b2 b3 b4 c1 c2 c3 c4 : Pos}
theorem pss_init0 {pl : Sem Bool} (hc : eval (.Call (.Attribute (.Name B a1) "__init__" a2) [.Name "self" a3, .Constant (.str m) j a4] [] a5) X.env = (do
      let ov ← eval (.Name B a1) X.env
      standAt a2.atName
      let (f, first) ← holding [ov] (getMethod ov "__init__" pl)
      callWith a5 f first (backTo a5 (starEach [.Name "self" a3, .Constant (.str m) j a4] X.env)) (backToKw a5 (keywordEach [] X.env))) := by rfl) (hn : Names X B bv) (gm : GMi X bv i) (h0 : X.N[0]? = some ("self" : Str)) (v0 : Vis X.env.scope "self") : PSs X [bodyI B m j a1 a2 a3 a4 a5 a6] (tI0 X.K i) :=
  pss_imp (pss_one (ps_expr (pe_initG (i := i) hn gm (pa_cons (pe_var h0 v0) (pa_cons pe_str pa_nil)) hc))) fun D σ H ⟨a, C, e0, T, ea, q⟩ => ⟨.ref a, e0, a, C, [.str m], rfl, by show 1 ≤ 1000; decide, T, ea, q⟩
theorem pss_init1 {pl : Sem Bool} (hc : eval (.Call (.Attribute (.Name B a1) "__init__" a2) [.Name "self" a3, .Constant (.str m) j a4] [] a5) X.env = (do
      let ov ← eval (.Name B a1) X.env
      standAt a2.atName
      let (f, first) ← holding [ov] (getMethod ov "__init__" pl)
      callWith a5 f first (backTo a5 (starEach [.Name "self" a3, .Constant (.str m) j a4] X.env)) (backToKw a5 (keywordEach [] X.env))) := by rfl) (hn : Names X B bv) (gm : GMi X bv i) (h0 : X.N[0]? = some ("self" : Str)) (v0 : Vis X.env.scope "self") (h1 : X.N[1]? = some p) (v1 : Vis X.env.scope p) (d1 : (p == ("__debug__" : Str)) = false) (e1 : (p == ("__classdict__" : Str)) = false) :
    PSs X [bodyI B m j a1 a2 a3 a4 a5 a6, bodyF f p b1 b2 b3 b4] (tI1 X.K i f) :=
  pss_imp (pss_cons (ps_expr (pe_initG (i := i) hn gm (pa_cons (pe_var h0 v0) (pa_cons pe_str pa_nil)) hc)) (pss_one (ps_ostG (i := i) (pe_var h0 v0) (pe_var h1 v1 d1 e1)))) fun D σ H ⟨a, C, y, e0, e1, T, hf, ea, q⟩ =>
    ⟨.ref a, e0, a, C, [.str m], rfl, by show 1 ≤ 1000; decide, T, ea, y, e1, .ref a, e0, a, C, rfl, T, hf, .inl ⟨ea, q⟩⟩
theorem pss_init2 {pl : Sem Bool} (hc : eval (.Call (.Attribute (.Name B a1) "__init__" a2) [.Name "self" a3, .Constant (.str m) j a4] [] a5) X.env = (do
      let ov ← eval (.Name B a1) X.env
      standAt a2.atName
      let (f, first) ← holding [ov] (getMethod ov "__init__" pl)
      callWith a5 f first (backTo a5 (starEach [.Name "self" a3, .Constant (.str m) j a4] X.env)) (backToKw a5 (keywordEach [] X.env))) := by rfl) (hn : Names X B bv) (gm : GMi X bv i) (h0 : X.N[0]? = some ("self" : Str)) (v0 : Vis X.env.scope "self") (h1 : X.N[1]? = some p) (v1 : Vis X.env.scope p) (d1 : (p == ("__debug__" : Str)) = false) (e1 : (p == ("__classdict__" : Str)) = false)
    (h2 : X.N[2]? = some q) (v2 : Vis X.env.scope q) (d2 : (q == ("__debug__" : Str)) = false) (e2 : (q == ("__classdict__" : Str)) = false) :
    PSs X [bodyI B m j a1 a2 a3 a4 a5 a6, bodyF f p b1 b2 b3 b4, bodyF g q c1 c2 c3 c4] (tI2 X.K i f g) :=
  pss_imp (pss_cons (ps_expr (pe_initG (i := i) hn gm (pa_cons (pe_var h0 v0) (pa_cons pe_str pa_nil)) hc)) (pss_cons (ps_ostG (i := i) (pe_var h0 v0) (pe_var h1 v1 d1 e1)) (pss_one (ps_ostG (i := i) (pe_var h0 v0) (pe_var h2 v2 d2 e2)))))
    fun D σ H ⟨a, C, y, z, e0, e1, e2, T, hf, hg, ea, q⟩ =>
    ⟨.ref a, e0, a, C, [.str m], rfl, by show 1 ≤ 1000; decide, T, ea, y, e1, .ref a, e0, a, C, rfl, T, hf, .inl ⟨ea, fun dx hd ne =>
      ⟨z, e2, .ref a, e0, a, C, rfl, T, hg, .inr ⟨dx, [(f, y)], upd_same, by rw [upd_ne ne, upd_same], by show 1 ≤ 900; decide, q dx hd ne⟩⟩⟩⟩
end
/-! ### raise C(e, ..) over data -/
section
variable {K : PySem.W.Frag} {W : Wd} {H : Hp} {μ : Mu} {p : Addr} {o : HO}
theorem beside (ok : Ok K W H μ) (h : H p = none) : Ok K W (upd H p o) μ ∧ Go W H W (upd H p o) := by
  have hp := ok.notio h
  refine ⟨⟨fun a u e => ?_, ok.len, ok.nd, ok.apart, fun l a m e1 e2 => ?_⟩, ⟨Le.refl _, fun a u e _ => ?_, fun a e => ?_, fun a e => .inl e, fun a u e => .inl e⟩⟩
  · rw [upd_ne (ne_of_none (ok.sub _ _ e) h)]
    exact ok.sub _ _ e
  · exact (ok.cell l a m e1 e2).mono (Le.refl _) fun u e => by
      rw [upd_ne (ne_of_none e h)]
      exact e
  · rw [upd_ne (ne_of_none e h)]
    exact e
  · by_cases z : a = p
    · rw [z]; exact h
    · rw [upd_ne z] at e; exact e
end
def graise (c : Nat) (ns : List Str) (fa : FA) : FS := fun ρ μ => (fa ρ μ).to ρ fun ds μ1 => if ds.length = ns.length then .ex ρ c (ns.zip ds) μ1 else .bad
@[simp] theorem ap_raise (c : Nat) (ns : List Str) (fa : FA) (ρ : En) (μ : Mu) : graise c ns fa ρ μ = (fa ρ μ).to ρ fun ds μ1 => if ds.length = ns.length then .ex ρ c (ns.zip ds) μ1 else .bad := of_eq_true (eq_self _)
theorem seqSA {K : PySem.W.Frag} {E : WX} {fa : FA} {k : List D → Mu → O} {σ : L2.St} {H : Hp} {W : Wd} {ρ : En} {μ : Mu} {Z : Ends} {Q1 : List V → Hp → Prop} (p : postS K E W H ((fa ρ μ).to ρ k) Z) (ok : Ok K W H μ) (en : Envs K W σ ρ)
    (hk : ∀ ds μ1 W1 xs H1, Go W H W1 H1 → Ok K W1 H1 μ1 → Envs K W1 σ ρ → Reps K W1 xs ds → postS K E W1 H1 (k ds μ1) Z → Q1 xs H1) : rA K E fa σ H Q1 := by
  refine ⟨W, ρ, μ, ok, en, ?_⟩
  revert p
  cases h : fa ρ μ with
  | ok ds μ1 => exact fun p W1 x H1 g o r => hk ds μ1 W1 x H1 g o (en.mono g.le) r (postS.mono g p)
  | ex c fs μ1 => exact fun p W' H' d g o r => p W' σ H' d g o (en.mono g.le) r
  | bad => exact fun p => p
section
variable {X : Cx} {E : WX} {k c : Nat} {fI : Addr} {fd : FuncData} {ps : List Str} {i : String} {x f g : Str} {p pos pos' : Pos} {e : Expr} {es : List Expr} {fa : FA}
theorem ds_raise0 (T : OexG X.K (cl X.K c) i) (iC : PySem.W.findIn X.K (.ref (cl X.K c)) "__init__" = some (some (.ref fI))) (tI : PySem.W.typeIn X.K (.ref fI) = some (.type "function"))
    (F1 : FnOk X.prog X.w X.K X.mg X.base (L2.CX X.prog X.w) k fI fd ps (sp0 (cl X.K c))) (hb : Binds X.K fd ps []) (C : Cal X E (k + 1)) (hm : X.mg x = some (.ref (cl X.K c))) (hc : X.calm = true := by rfl) (hg : Gl X x := by rfl) (hdb : (x == ("__debug__" : Str)) = false := by decide) :
    DS X E (.Raise (some (.Call (.Name x p) [] [] pos)) none pos') (graise c [] aNil) := by
  have pm : PMk X (.Call (.Name x p) [] [] pos) (fun σ H Q => Q (.ref (cl X.K c)) none H) := fun pins s σ H Q I q => by
    refine wpAny_Call_Name_kw (ld_glob I hg hm ?_ hdb)
    exact PySem.W.callWith_K0 I.kIn T.kC (run_oex (us := []) (vs := []) T iC tI F1 C.room hb I .nil (by show 0 ≤ 1000; decide) fun a ha => ⟨a, rfl, upd_same, rfl, .inl ⟨rfl, q⟩⟩)
  refine ps_imp (ps_raise hc C.take pm) fun Z σ H ⟨W, ρ, μ, ok, en, p⟩ => ?_
  exact p W σ H none (Go.refl _ _) ok en (.inl ⟨rfl, rfl⟩)
theorem ds_raise1 (T : OexG X.K (cl X.K c) i) (iC : PySem.W.findIn X.K (.ref (cl X.K c)) "__init__" = some (some (.ref fI))) (tI : PySem.W.typeIn X.K (.ref fI) = some (.type "function"))
    (F1 : FnOk X.prog X.w X.K X.mg X.base (L2.CX X.prog X.w) k fI fd ps (sp1 (cl X.K c) f)) (hb : Binds X.K fd ps []) (C : Cal X E (k + 1)) (hm : X.mg x = some (.ref (cl X.K c))) (ha : DA X E [e] fa) (hc : X.calm = true := by rfl) (hg : Gl X x := by rfl) (hdb : (x == ("__debug__" : Str)) = false := by decide)
    (he : starEach [e] X.env = (false, eval e X.env) :: starEach [] X.env := by rfl) :
    DS X E (.Raise (some (.Call (.Name x p) [e] [] pos)) none pos') (graise c [f] fa) := by
  have pm : PMk X (.Call (.Name x p) [e] [] pos) (fun σ H Q => rA X.K E fa σ H fun vs H1 => ∃ y, vs = [y] ∧ ∀ d, H1 d = none → Q (.ref (cl X.K c)) (some d) (upd H1 d (.xd [(f, y)]))) := fun pins s σ H Q I q => by
    refine wpAny_Call_Name_kw (ld_glob I hg hm ?_ hdb)
    refine PySem.W.callWith_K (h₀ := X.base) I.ok.mod.kin T.kC (thn (ha.run pos pins s σ H _ I q) fun us s1 ⟨vs, H1, I1, r1, y, ev, q1⟩ => ⟨I1.kIn, ?_⟩) he (by rfl)
    subst ev
    refine run_oex T iC tI F1 C.room hb I1 r1 (by show 1 ≤ 1000; decide) fun a ha => ⟨a, y, rfl, upd_same, fun dx hd ne => ⟨rfl, .inr ⟨dx, [(f, y)], upd_same, by rw [upd_ne ne, upd_same], by rw [upd_ne ne] at hd; exact hd, ?_⟩⟩⟩
    have hd1 : H1 dx = none := by rw [upd_ne ne] at hd; exact hd
    have eq : upd (del (upd (upd (upd H1 a (exo a (cl X.K c) none)) dx (exd dx [(f, y)])) a (exo a (cl X.K c) (some dx))) a) dx (.xd [(f, y)]) = upd H1 dx (.xd [(f, y)]) := by
      funext b
      by_cases h1 : b = dx
      · rw [h1, upd_same, upd_same]
      · rw [upd_ne h1, upd_ne h1]
        by_cases h2 : b = a
        · rw [h2, del_same, ha]
        · rw [del_ne h2, upd_ne h2, upd_ne h1, upd_ne h2]
    rw [eq]
    exact q1 dx hd1
  refine ps_imp (ps_raise hc C.take pm) fun Z σ H ⟨W, ρ, μ, ok, en, p⟩ => ?_
  refine seqSA p ok en fun ds μ1 W1 xs H1 g1 o1 en1 r p1 => ?_
  match ds, r, p1 with
  | [d], .cons (v := v) r .nil, p1 =>
    refine ⟨v, rfl, fun a ha => ?_⟩
    obtain ⟨o2, g2⟩ := beside (o := .xd [(f, v)]) o1 ha
    exact p1 W1 σ _ (some a) g2 o2 en1 (.inr ⟨a, [f], [v], [d], rfl, upd_same, rfl, rfl, .cons r .nil, o1.snone ha, o1.notio ha⟩)
  | [], .nil, p1 => exact p1.elim
  | _ :: _ :: _, .cons _ (.cons _ _), p1 =>
    have p1 : postS X.K E W1 H1 (if _ then _ else .bad) Z := p1
    rw [if_neg (by simp)] at p1
    exact p1.elim
end
end DL
/-! DL41: try, with clauses `except X as e:` and `except X:` in any row. -/
namespace DL
open PySem L2 PySem.Spec PyProof.Rows PySem.HandSPX
abbrev Hd := Value × Option Nat × (Addr → Value → Option Addr → TS)
/-- behind the suite of a clause that binds slot i -/
def offE (D : Ends) (i : Nat) : Ends := { nx := fun σ' H' => D.nx (σ'.set i none) H', rt := D.rt, bk := fun σ' H' => D.bk (σ'.set i none) H', ct := fun σ' H' => D.ct (σ'.set i none) H' }
def inH (ts : Addr → Value → Option Addr → TS) (oi : Option Nat) (a : Addr) (cls : Value) (d : Option Addr) : TS := fun D σ H => match oi with
  | none => ts a cls d D σ H
  | some i => ts a cls d (offE D i) (σ.set i (some (.ref a))) H
def wG (K : PySem.W.Frag) (Wout : WX) (D : Ends) : List Hd → WX
  | [] => Wout
  | (c, oi, ts) :: r => fun cls d σ H => ∃ b, PySem.W.exmOne K cls c = some b ∧ (b = true → ∀ a, H a = none → inH ts oi a cls d D σ H) ∧ (b = false → wG K Wout D r cls d σ H)
inductive HdG (X : Cx) : List ExceptHandler → List Hd → Prop
  | nil : HdG X [] []
  | one {x : Str} {c : Value} {ts : Addr → Value → Option Addr → TS} {b₀ : Stmt} {suite : List Stmt} {np pos' : Pos} {hds : List ExceptHandler} {l : List Hd} (hc : Names X x c)
      (hsu : ∀ (a : Addr) (oe : Obj) (cls : Value) (d : Option Addr) (pn : List (Addr × Obj)), Zc cls d oe → (∃ vs, oe.data = .fields vs) → PSs (X.suite a ((a, oe) :: pn)) (b₀ :: suite) (ts a cls d)) (r : HdG X hds l) :
      HdG X (.ExceptHandler (some (.Name x np)) none (b₀ :: suite) pos' :: hds) ((c, none, ts) :: l)
  | as {x n : Str} {i : Nat} {c : Value} {ts : Addr → Value → Option Addr → TS} {b₀ : Stmt} {suite : List Stmt} {np pos' : Pos} {hds : List ExceptHandler} {l : List Hd} (hi : X.N[i]? = some n) (hln : X.env.kindOf n = some .local) (hc : Names X x c)
      (hsu : ∀ (a : Addr) (oe : Obj) (cls : Value) (d : Option Addr) (pn : List (Addr × Obj)), Zc cls d oe → (∃ vs, oe.data = .fields vs) → PSs (X.suite a ((a, oe) :: pn)) (b₀ :: suite) (ts a cls d)) (r : HdG X hds l) :
      HdG X (.ExceptHandler (some (.Name x np)) (some n) (b₀ :: suite) pos' :: hds) ((c, some i, ts) :: l)
section
variable {X : Cx} {body : List Stmt} {h₀ : ExceptHandler} {hds : List ExceptHandler} {l : List Hd} {pos : Pos} {tb : WX → TS} {Wout : WX}
theorem ps_tryG (hs : X.stack = X.env :: X.outer) (hf : X.env.frame = some X.env.locals) (hN : X.N.Nodup) (tk : Takes X Wout)
    (hb : ∀ (W : WX) (pn : List (Addr × Obj)) (xe : Value → Shared → Prop), Takes (X.tr pn xe) W → PassesOwn (model X.prog X.w) X.A X.env xe → PSs (X.tr pn xe) body (tb W))
    (hh : HdG X (h₀ :: hds) l) : PS X (.Try body (h₀ :: hds) [] [] pos) (fun D σ H => tb (wG X.K Wout D l) D σ H) := by
  refine ⟨fun pins s σ H D I h => ?_⟩
  have ok := I.ok
  have hfr : X.A.frames = some (X.env :: X.outer) := by rw [ok.frames, hs]
  refine wpAny_Try_except ?_
  refine wpAny_mono ((hb (wG X.K Wout D l) (X.pn ++ pins) (fun e s₁ => wpAny (model X.prog X.w) X.A (noteFrame e X.env) (fun _ s₂ => wpAny (model X.prog X.w) X.A (setFlight e none) (fun _ s₃ =>
    wpAny (model X.prog X.w) X.A (handleBy e X.env (h₀ :: hds)) (SP X pins D) X.xe s₃) X.xe s₂) X.xe s₁) (fun u s' xx => ?_) PassesOwn.looking).run [] s σ H D (I.toTry _) h) (fun f s1 hsp => ?_) (fun e s1 he => he)
  · obtain ⟨a, B, sI, pins', σ', H', cls, d, rfl, J', nb, up, sky, na, os, ag, w⟩ := xx
    have J : Inv X pins σ' H' sI := J'.ofTry ok
    have sky' : Sky B (X.env :: X.outer) a (Zc cls d) X.env.locals s'.heap := by rw [← hs]; exact sky
    show wpAny (model X.prog X.w) X.A (noteFrame (.ref a) X.env) _ _ _
    refine Sky.land Zc.steady hfr hf sky' fun h3 fl3 up3 => ?_
    have J3 : Inv X pins σ' H' { s' with heap := h3 } := J.landed nb fl3.1 (up.trans up3) os ag
    obtain ⟨oe3, vs3, he3, hz3, hd3⟩ := fl3.there
    have nfr : a ∉ frs (X.env :: X.outer) := fun hm => by
      obtain ⟨_, o', e', hnf⟩ := fl3.2.2.1.mem hm
      rw [he3] at e'; cases e'
      exact hnf _ hd3
    have nL : a ≠ X.env.locals := fun z => nfr (List.mem_filterMap.mpr ⟨X.env, List.mem_cons_self, by rw [hf, z]⟩)
    have nF : a ∉ X.fs := fun hm => by
      obtain ⟨e, he, q⟩ := List.mem_filterMap.mp hm
      exact nfr (List.mem_filterMap.mpr ⟨e, List.mem_cons_of_mem _ he, q⟩)
    have S3 := J3.suite he3 hd3 na nL nF
    have test : ∀ {x : Str} {c : Value} {np : Pos} {Q : Value → Shared → Prop} {E : Value → Shared → Prop}, Names X x c → Q c { s' with heap := h3 } → wpAny (model X.prog X.w) (X.A.mark (some (.ref a))) (eval (.Name x np) X.env) Q E { s' with heap := h3 } := fun {x c np Q E} hc q => by
      obtain ⟨hg, hdbg, hm | ⟨hm, hv, hnn⟩⟩ := hc
      · exact ld_glob (X := X.suite a ((a, oe3) :: (X.pn ++ pins))) S3 hg hm q hdbg
      · exact ld_blt (X := X.suite a ((a, oe3) :: (X.pn ++ pins))) S3 hg hm hv q hnn hdbg
    have LT : PySem.W.Looks (model X.prog X.w) h3 (typeOf (.ref a)) cls := fun A Q E s k q => wpAny_typeOf_ref (k _ _ he3) (by rw [hz3.1]; exact q)
    have go : ∀ {hds' : List ExceptHandler} {l' : List Hd}, HdG X hds' l' → wG X.K Wout D l' cls d σ' H' →
        wpAny (model X.prog X.w) X.A (handleBy (.ref a) X.env hds') (SP X pins D) X.xe { s' with heap := h3 } := by
      intro hds' l' hk
      induction hk with
      | nil =>
        intro w
        refine wpAny_handleBy_nil ?_
        obtain ⟨k1, k2, k3, oe, vs, T, oT, ts', he, hz, hd, h1, hr⟩ := id fl3
        unfold PySem.passOn
        refine wpAny_bind (wpAny_field he hd h1 ?_)
        rw [if_neg (show ¬ ((Value.ref T == Value.none) = true) from by simp)]
        have fin : wpAny (model X.prog X.w) X.A (setFlight (.ref a) X.env.frame) (fun _ s4 => wpAny (model X.prog X.w) X.A (throw (.ref a) : Sem Flow) (SP X pins D) X.xe s4) X.xe { s' with heap := h3 } := by
          rw [hf]
          refine HandSPX.setFlight_upZ fl3 fun h4 hh4 up4 => wpAny_throw (tk _ _ ?_)
          exact ⟨a, B, sI, pins, σ', H', cls, d, rfl, J, nb, (up.trans up3).trans up4, .inr (.inr (by rw [hs]; exact hh4)), na, os, ag, w⟩
        first
          | exact wpAny_bind (wpAny_pure (wpAny_bind fin))
          | exact wpAny_bind fin
      | @one x c ts b₀ suite np pos' hds2 l2 hc hsu r ih =>
        intro w
        obtain ⟨b, hb1, hyes, hno⟩ := w
        refine wpAny_handleBy_cons (codeAny_handlers_test ?_) (by intro q; cases q)
        refine test hc ((PySem.W.exm_one (M := model X.prog X.w) (J3.kIn) LT hb1).here ?_)
        cases b with
        | true =>
          refine codeAny_handlers_suite ?_
          refine HandSPX.lands_againZ fl3 fun h4 fl4 up4 => ?_
          have J4 : Inv X pins σ' H' { s' with heap := h4 } := J.landed nb fl4.1 ((up.trans up3).trans up4) os ag
          obtain ⟨oe4, vs4, he4, hz4, hd4⟩ := fl4.there
          have S4 := J4.suite he4 hd4 na nL nF
          refine wpAny_mono ((hsu a oe4 cls d (X.pn ++ pins) hz4 ⟨_, hd4⟩).run [] _ _ H' _ S4 (hyes rfl a na)) (fun f s6 hsp => ?_) (fun _ _ z => False.elim z)
          cases f with
          | next =>
            obtain ⟨σ6, H6, S6, q6⟩ := hsp
            exact ⟨_, _, S6.unsuite ok, q6⟩
          | brk =>
            obtain ⟨σ6, H6, S6, q6⟩ := hsp
            exact ⟨_, _, S6.unsuite ok, q6⟩
          | cont =>
            obtain ⟨σ6, H6, S6, q6⟩ := hsp
            exact ⟨_, _, S6.unsuite ok, q6⟩
          | ret u =>
            obtain ⟨v6, σ6, H6, S6, r6, q6⟩ := hsp
            exact ⟨_, _, _, S6.unsuite ok, r6, q6⟩
        | false =>
          show wpAny _ X.A (handleBy (.ref a) X.env hds2) _ _ _
          exact ih (hno rfl)
      | @as x n i c ts b₀ suite np pos' hds2 l2 hi hln hc hsu r ih =>
        intro w
        obtain ⟨b, hb1, hyes, hno⟩ := w
        refine wpAny_handleBy_cons (codeAny_handlers_test ?_) (by intro q; cases q)
        refine test hc ((PySem.W.exm_one (M := model X.prog X.w) (J3.kIn) LT hb1).here ?_)
        cases b with
        | true =>
          refine codeAny_handlers_suite_as ?_
          refine HandSPX.lands_againZ fl3 fun h4 fl4 up4 => ?_
          have J4 : Inv X pins σ' H' { s' with heap := h4 } := J.landed nb fl4.1 ((up.trans up3).trans up4) os ag
          obtain ⟨oe4, vs4, he4, hz4, hd4⟩ := fl4.there
          have S4 := J4.suite he4 hd4 na nL nF
          refine store_ok (X := X.suite a ((a, oe4) :: (X.pn ++ pins))) (v := .ref a) S4 hN hi (.inl hln) rfl (fun s5 S5 => ?_) (.inr hln)
          refine wpAny_mono ((hsu a oe4 cls d (X.pn ++ pins) hz4 ⟨_, hd4⟩).run [] s5 _ H' _ S5 (hyes rfl a na)) (fun f s6 hsp => ?_) (fun _ _ z => False.elim z)
          have end_ : ∀ {σ6 : L2.St} {H6 : Hp} {Q : Shared → Prop}, Inv (X.suite a ((a, oe4) :: (X.pn ++ pins))) [] σ6 H6 s6 → (∀ s7, Inv X pins (σ6.set i none) H6 s7 → Q s7) →
              wpAny (model X.prog X.w) X.A (do bindName X.env n .none; unbindBehindTheSuite X.env n pos') (fun _ s7 => Q s7) X.xe s6 := fun {σ6 H6 Q} S6 hq => gone_ok (S6.unsuite ok) hN hi hln hq
          cases f with
          | next =>
            obtain ⟨σ6, H6, S6, q6⟩ := hsp
            exact end_ S6 fun s7 J7 => ⟨_, _, J7, q6⟩
          | brk =>
            obtain ⟨σ6, H6, S6, q6⟩ := hsp
            exact end_ S6 fun s7 J7 => ⟨_, _, J7, q6⟩
          | cont =>
            obtain ⟨σ6, H6, S6, q6⟩ := hsp
            exact end_ S6 fun s7 J7 => ⟨_, _, J7, q6⟩
          | ret u =>
            obtain ⟨v6, σ6, H6, S6, r6, q6⟩ := hsp
            exact end_ S6 fun s7 J7 => ⟨_, _, _, J7, r6, q6⟩
        | false =>
          show wpAny _ X.A (handleBy (.ref a) X.env hds2) _ _ _
          exact ih (hno rfl)
    exact go hh w
  · cases f with
    | next =>
      obtain ⟨σ', H', J', q⟩ := hsp
      exact wpAny_execs_nil ⟨σ', H', J'.ofTry ok, q⟩
    | brk =>
      obtain ⟨σ', H', J', q⟩ := hsp
      exact ⟨σ', H', J'.ofTry ok, q⟩
    | cont =>
      obtain ⟨σ', H', J', q⟩ := hsp
      exact ⟨σ', H', J'.ofTry ok, q⟩
    | ret u =>
      obtain ⟨v, σ', H', J', r, q⟩ := hsp
      exact ⟨v, σ', H', J'.ofTry ok, r, q⟩
end
end DL
/-! DL42: the suite of an except clause: what looks at the exception in hand. -/
namespace DL
open PySem L2 PySem.Spec PyProof.Rows PySem.HandSPX
theorem excIs_go {K : PySem.W.Frag} {W W' : Wd} {H H' : Hp} {fs : List (Str × D)} {d : Option Addr} (g : Go W H W' H') (x : ExcIs K W H fs d) : ExcIs K W' H' fs d := by
  rcases x with x | ⟨a, ns, vs, ds, e1, e2, e3, e4, e5, e6, e7⟩
  · exact .inl x
  · refine .inr ⟨a, ns, vs, ds, e1, g.kept a _ e2 e7, e3, e4, e5.mono g.le, ?_, fun z => ?_⟩
    · cases hs : W'.S a with
      | none => rfl
      | some o =>
        rcases g.newS a o hs with z | z | z
        · rw [e6] at z; cases z
        · rw [e2] at z; cases z
        · exact absurd z e7
    · rcases g.newio a z with z | z
      · exact e7 z
      · rw [e2] at z; cases z
/-- the exception in hand: slot i holds it, its fields are fs -/
def XIn (K : PySem.W.Frag) (i : Nat) (a : Addr) (d : Option Addr) (fs : List (Str × D)) (W : Wd) (σ : L2.St) (H : Hp) : Prop := σ[i]? = some (some (.ref a)) ∧ ExcIs K W H fs d
theorem XIn.go {K : PySem.W.Frag} {i : Nat} {a : Addr} {d : Option Addr} {fs : List (Str × D)} {W W' : Wd} {σ : L2.St} {H H' : Hp} (g : Go W H W' H') (x : XIn K i a d fs W σ H) : XIn K i a d fs W' σ H' := ⟨x.1, excIs_go g x.2⟩
abbrev PX := Wd → L2.St → Hp → Prop
def Stays (P : PX) : Prop := ∀ W σ H W' H', Go W H W' H' → P W σ H → P W' σ H'
def rEp (K : PySem.W.Frag) (P : PX) (f : FE) : TE := fun σ H Q => ∃ W ρ μ, Ok K W H μ ∧ Envs K W σ ρ ∧ P W σ H ∧ postE K (WE E0 σ) W H (f ρ μ) Q
def rAp (K : PySem.W.Frag) (P : PX) (f : FA) : TA := fun σ H Q => ∃ W ρ μ, Ok K W H μ ∧ Envs K W σ ρ ∧ P W σ H ∧ postA K (WE E0 σ) W H (f ρ μ) Q
def rSp (K : PySem.W.Frag) (P : PX) (g : FS) : TS := fun Z σ H => ∃ W ρ μ, Ok K W H μ ∧ Envs K W σ ρ ∧ P W σ H ∧ postS K E0 W H (g ρ μ) Z
abbrev DEp (X : Cx) (P : PX) (e : Expr) (f : FE) : Prop := PE X e (rEp X.K P f)
abbrev DAp (X : Cx) (P : PX) (e : List Expr) (f : FA) : Prop := PA X e (rAp X.K P f)
abbrev DSp (X : Cx) (P : PX) (st : List Stmt) (g : FS) : Prop := PSs X st (rSp X.K P g)
section
variable {K : PySem.W.Frag} {P : PX} {σ : L2.St} {H : Hp} {W : Wd} {ρ : En} {μ : Mu}
theorem seqp {β : Type} {fa : FE} {k : D → Mu → R β} {Rp : Wd → V → β → Prop} {Q Q1 : VK} (hP : P W σ H) (p : post K (WE E0 σ) W H Rp ((fa ρ μ).bind k) Q) (ok : Ok K W H μ) (en : Envs K W σ ρ)
    (hk : ∀ d μ1 W1 x H1, Go W H W1 H1 → Ok K W1 H1 μ1 → Envs K W1 σ ρ → Rep K W1 x d → post K (WE E0 σ) W1 H1 Rp (k d μ1) Q → Q1 x H1) : rEp K P fa σ H Q1 := by
  obtain ⟨W', ρ', μ', _⟩ := seq p ok en hk
  refine ⟨W, ρ, μ, ok, en, hP, ?_⟩
  revert p
  cases h : fa ρ μ with
  | ok d μ1 => exact fun p W1 x H1 g o r => hk d μ1 W1 x H1 g o (en.mono g.le) r (post.mono g p)
  | ex c fs μ1 => exact fun p => p
  | bad => exact fun p => p
theorem seqAp {β : Type} {fa : FA} {k : List D → Mu → R β} {Rp : Wd → V → β → Prop} {Q : VK} {Q1 : List V → Hp → Prop} (hP : P W σ H) (p : post K (WE E0 σ) W H Rp ((fa ρ μ).bind k) Q) (ok : Ok K W H μ) (en : Envs K W σ ρ)
    (hk : ∀ ds μ1 W1 xs H1, Go W H W1 H1 → Ok K W1 H1 μ1 → Envs K W1 σ ρ → Reps K W1 xs ds → post K (WE E0 σ) W1 H1 Rp (k ds μ1) Q → Q1 xs H1) : rAp K P fa σ H Q1 := by
  refine ⟨W, ρ, μ, ok, en, hP, ?_⟩
  revert p
  cases h : fa ρ μ with
  | ok d μ1 => exact fun p W1 x H1 g o r => hk d μ1 W1 x H1 g o (en.mono g.le) r (post.mono g p)
  | ex c fs μ1 => exact fun p => p
  | bad => exact fun p => p
end
section
variable {X : Cx} {P : PX} {e b : Expr} {es : List Expr} {f fb : FE} {fa : FA} {pos : Pos}
theorem dp_lift (h : DE X E0 e f) : DEp X P e f := pe_imp h fun σ H Q ⟨W, ρ, μ, ok, en, hP, p⟩ => ⟨W, ρ, μ, ok, en, p⟩
theorem dap_nil : DAp X P [] aNil := pa_imp pa_nil fun σ H Q ⟨W, ρ, μ, ok, en, hP, p⟩ => p W [] H (Go.refl W H) ok .nil
theorem dap_cons (st : Stays P) (h : DEp X P e f) (hs : DAp X P es fa) (hst : starEach (e :: es) X.env = (false, eval e X.env) :: starEach es X.env := by rfl) : DAp X P (e :: es) (aCons f fa) := by
  refine pa_imp (pa_cons h hs hst) fun σ H Q ⟨W, ρ, μ, ok, en, hP, p⟩ => ?_
  refine ⟨W, ρ, μ, ok, en, hP, ?_⟩
  unfold aCons at p
  revert p
  cases f ρ μ with
  | ok d μ1 =>
    intro p W1 x H1 g1 o1 r1
    refine ⟨W1, ρ, μ1, o1, en.mono g1.le, st _ _ _ _ _ g1 hP, ?_⟩
    have p := postA.mono g1 p
    revert p
    rw [R.bind_ok]
    cases fa ρ μ1 with
    | ok ds μ2 => exact fun p W2 xs H2 g2 o2 r2 => p W2 (x :: xs) H2 g2 o2 (.cons (r1.mono g2.le) r2)
    | ex c fs μ2 => exact fun p => p
    | bad => exact fun p => p
  | ex c fs μ1 => exact fun p => p
  | bad => exact fun p => p
theorem dp_lst (h : DAp X P es fa) : DEp X P (.List es pos) (dlst fa) := pe_imp (pe_lst h) fun σ H Q ⟨W, ρ, μ, ok, en, hP, p⟩ => by
  refine seqAp hP p ok en fun ds μ1 W1 xs H1 g1 o1 en1 r p1 => ?_
  by_cases hn : ds.length ≤ 1000000
  · rw [if_pos hn] at p1
    exact ⟨by rw [r.length]; exact le_line hn, fun q hq => p1 _ _ _ (Go.new o1 hq) (o1.new hq) (rep_lst o1 hq (le_line hn) r)⟩
  · rw [if_neg hn] at p1
    exact p1.elim
theorem dp_callB {x : Str} {p : Pos} {id : String} {g : List D → Mu → R D} (hc : CallX X E0 (.builtin id) g) (hm : X.mg x = none) (ha : DAp X P (e :: es) fa) (hg : Gl X x := by rfl) (hv : bootBuiltins x = some (.builtin id) := by decide +kernel) (hn : x ≠ "__name__" := by decide) (hdb : (x == ("__debug__" : Str)) = false := by decide)
    (he : starEach (e :: es) X.env = (false, eval e X.env) :: starEach es X.env := by rfl) (hpl : (backTo pos (starEach es X.env)).any (·.1) = false := by rfl) : DEp X P (.Call (.Name x p) (e :: es) [] pos) (dcallB g fa) :=
  pe_imp (pe_callB hc hg hm hv ha hn hdb he hpl) fun σ H Q ⟨W, ρ, μ, ok, en, hP, p⟩ => seqAp hP p ok en fun ds μ1 W1 xs H1 g1 o1 en1 r p1 => ⟨_, W1, μ1, ds, o1, r, p1⟩
theorem dp_cmp {op : CmpOp} {g : D → D → Mu → R D} (st : Stays P) (ho : OpX X E0 (compareOp op) g) (ha : DEp X P e f) (hb : DEp X P b fb) (hm : behindInMarks op b = false := by first | exact nomark _ | rfl) : DEp X P (.Compare e [op] [b] pos) (dbin g f fb) :=
  pe_imp (pe_cmpR ho ha hb hm) fun σ H Q ⟨W, ρ, μ, ok, en, hP, p⟩ =>
    seqp hP p ok en fun x μ1 W1 vx H1 g1 ok1 en1 rx p1 => seqp (st _ _ _ _ _ g1 hP) p1 ok1 en1 fun y μ2 W2 vy H2 g2 ok2 en2 ry p2 => opd_D (E := E0) _ W2 H2 μ2 x y vx vy Q ok2 (rx.mono g2.le) ry p2
theorem dsp_ret (h : DEp X P e f) : DSp X P [.Return (some e) pos] (gret f) := pss_one (ps_imp (ps_ret h) fun Z σ H ⟨W, ρ, μ, ok, en, hP, p⟩ => by
  refine ⟨W, ρ, μ, ok, en, hP, ?_⟩
  unfold gret at p
  revert p
  cases f ρ μ with
  | ok d μ1 => exact fun p => p
  | ex c fs μ1 => exact fun p W' H' d g o r => p W' σ H' d g o (en.mono g.le) r
  | bad => exact fun p => p)
end
/-! ### e.f, isinstance(e, c) -/
section
variable {Y : Cx} {a : Addr} {oe : Obj} {cls : Value} {d : Option Addr} {pn : List (Addr × Obj)} {i c : Nat} {fs : List (Str × D)} {n en : Str} {p pos : Pos}
theorem look_ex {ns : List Str} {vs : List V} {ds : List D} {K : PySem.W.Frag} {W : Wd} {y : D} : ∀ {ns : List Str} {vs : List V} {ds : List D}, Reps K W vs ds → (ns.zip ds).lookup n = some y → ∃ v, (ns.zip vs).lookup n = some v ∧ Rep K W v y
  | [], _, _, _, h => by simp at h
  | m :: ns, _, _, .nil, h => by simp at h
  | m :: ns, _, _, .cons (v := v) (d := d) r rs, h => by
    simp only [List.zip_cons_cons, List.lookup_cons] at h ⊢
    cases e : n == m with
    | true =>
      rw [e] at h
      cases h
      exact ⟨v, rfl, r⟩
    | false =>
      rw [e] at h
      exact look_ex (ns := []) (vs := []) (ds := []) rs h
/-- e.n -/
def dxf (fs : List (Str × D)) (n : Str) : FE := fun _ μ => R.of (fs.lookup n) μ
theorem dp_xf (T : XfC Y.K (cl Y.K c)) (hno : PySem.W.findIn Y.K (.ref (cl Y.K c)) n = some none) (hcl : cls = .ref (cl Y.K c)) (hz : Zc cls d oe) (hf : ∃ vs, oe.data = .fields vs) (hN : Y.N[i]? = some en) (hv : Vis Y.env.scope en := by first | exact Or.inl rfl | exact Or.inr (Or.inl rfl) | exact Or.inr (Or.inr rfl))
    (h1 : (en == ("__debug__" : Str)) = false := by decide) (h2 : (en == ("__classdict__" : Str)) = false := by decide) (hb : attributeBase (.Name en p) n Y.env (eval (.Name en p) Y.env) = eval (.Name en p) Y.env := by rfl) :
    DEp (Y.suite a ((a, oe) :: pn)) (XIn Y.K i a d fs) (.Attribute (.Name en p) n pos) (dxf fs n) := by
  refine pe_imp (pe_xf (X := Y) (C := cl Y.K c) T hno hz hf (pe_var (X := Y.suite a ((a, oe) :: pn)) hN hv h1 h2) hb) fun σ H Q ⟨W, ρ, μ, ok, en, hP, p⟩ => ?_
  unfold dxf at p
  revert p
  cases hl : fs.lookup n with
  | none => exact fun p => p.elim
  | some y =>
    intro p
    rcases hP.2 with ⟨e1, e2⟩ | ⟨dd, ns, vs, ds, e1, e2, e3, e4, e5, e6, e7⟩
    · rw [e1] at hl
      cases hl
    · rw [e3] at hl
      obtain ⟨v, hv1, hv2⟩ := look_ex (ns := []) (vs := []) (ds := []) e5 hl
      exact ⟨.ref a, hP.1, rfl, hcl, dd, ns.zip vs, v, e1, e2, hv1, p W v H (Go.refl _ _) ok hv2⟩
end
end DL
/-! DL43: isinstance(e, c) of the exception in hand; try over data. -/
namespace DL
open PySem L2 PySem.Spec PyProof.Rows PySem.HandSPX
section
variable {Y : Cx} {a C : Addr} {oe : Obj} {cls : Value} {d : Option Addr} {pn : List (Addr × Obj)} {i c : Nat} {fs : List (Str × D)} {n en : Str} {p p1 pos : Pos} {b : Bool} {cval : Value} {cv : V} {ec : Expr}
theorem call_isG (T : ExcC Y.K C) (hcl : cls = .ref C) (hz : Zc cls d oe) (hf : ∃ vs, oe.data = .fields vs) (hk : PySem.W.kitOne Y.K (.ref C) cval = some b) (hcv : ∀ u, RelV cv u → u = cval) :
    CallR (Y.suite a ((a, oe) :: pn)) (.builtin "isinstance") (fun xs H Q => xs = [.ref a, cv] ∧ (d = none ∨ ∃ dd fs, d = some dd ∧ H dd = some (.xd fs)) ∧ Q (.bl b) H) := by
  intro pins s σ H xs us Q I r h
  obtain ⟨rfl, hd, q⟩ := h
  cases r with
  | cons rx rr =>
    cases rr with
    | cons rt rr =>
      cases rr
      cases rx
      have ec := hcv _ rt
      subst ec
      obtain ⟨hget, _⟩ := I.pin (a, oe) (List.mem_append.mpr (.inl List.mem_cons_self))
      obtain ⟨vs, hv⟩ := hf
      have J : ∃ od, PySem.W.InstAt s.heap a oe C od := by
        obtain ⟨oc, od, oda, osl⟩ := oe
        obtain ⟨h1, h2⟩ := hz
        dsimp only at h1 h2 hv
        subst h1 h2 hv
        rcases hd with e | ⟨dd, fs, e, hx⟩
        · subst e
          exact ⟨none, hget, hcl, rfl, trivial⟩
        · subst e
          have hx : ObjOk Y.prog Y.w H s.heap dd (.xd fs) := I.hok dd _ hx
          obtain ⟨mA, hns, hr⟩ := hx
          obtain ⟨od, ho, hl⟩ := lookIn_ns hns
          exact ⟨some od, hget, hcl, rfl, ho⟩
      obtain ⟨od, J⟩ := J
      have hcl : (PySem.W.clsIn Y.K C).isSome = true := by
        obtain ⟨cd, hc, _⟩ := PySem.W.any_some T.hd
        rw [hc]
        rfl
      exact PySem.W.kia_one (PySem.W.kitx_exc hcl T.hg T.hk T.hs T.ha T.hn T.ht T.hm) I.kIn J hk (fun z => nomatch z) fun tk => ⟨.bl b, H, I.kept (t' := tk) fun _ _ z => z, rfl, q⟩
theorem dp_isE (T : ExcC Y.K (cl Y.K c)) (hcl : cls = .ref (cl Y.K c)) (hz : Zc cls d oe) (hf : ∃ vs, oe.data = .fields vs) (hk : PySem.W.kitOne Y.K (.ref (cl Y.K c)) cval = some b) (hcv : ∀ u, RelV cv u → u = cval) (he : PE (Y.suite a ((a, oe) :: pn)) ec (tC cv)) (hm : Y.mg "isinstance" = none)
    (hN : Y.N[i]? = some en) (hv : Vis Y.env.scope en := by first | exact Or.inl rfl | exact Or.inr (Or.inl rfl) | exact Or.inr (Or.inr rfl))
    (h1 : (en == ("__debug__" : Str)) = false := by decide) (h2 : (en == ("__classdict__" : Str)) = false := by decide) (hg : Gl Y "isinstance" := by rfl)
    (hs1 : starEach [.Name en p1, ec] Y.env = (false, eval (.Name en p1) Y.env) :: starEach [ec] Y.env := by rfl) (hs2 : starEach [ec] Y.env = (false, eval ec Y.env) :: starEach [] Y.env := by rfl) (hpl : (backTo pos (starEach [ec] Y.env)).any (·.1) = false := by rfl) :
    DEp (Y.suite a ((a, oe) :: pn)) (XIn Y.K i a d fs) (.Call (.Name "isinstance" p) [.Name en p1, ec] [] pos) (dc (.bl b)) := by
  refine pe_imp (pe_callB (X := Y.suite a ((a, oe) :: pn)) (call_isG T hcl hz hf hk hcv) hg hm (by decide +kernel) (pa_cons (pe_var (X := Y.suite a ((a, oe) :: pn)) hN hv h1 h2) (pa_cons he pa_nil hs2) hs1) (by decide) (by decide) hs1 hpl) fun σ H Q ⟨W, ρ, μ, ok, en, hP, p⟩ => ?_
  refine ⟨.ref a, hP.1, rfl, ?_, p W _ H (Go.refl _ _) ok (.bl b)⟩
  rcases hP.2 with ⟨_, e⟩ | ⟨dd, ns, vs, ds, e1, e2, _⟩
  · exact .inl e
  · exact .inr ⟨dd, _, e1, e2⟩
end
end DL
/-! DL44: try over data. -/
namespace DL
open PySem L2 PySem.Spec PyProof.Rows PySem.HandSPX
/-- a clause: does it catch the class c; the slot that it binds; its suite -/
structure Cl where
  m : Nat → Option Bool
  slot : Option Nat
  h : Nat → List (Str × D) → FS
/-- no exception leaves; slot i is unbound -/
def offO (i : Nat) : O → O
  | .nx ρ μ => .nx (ρ.set i none) μ
  | .bk ρ μ => .bk (ρ.set i none) μ
  | .ct ρ μ => .ct (ρ.set i none) μ
  | .rt d μ => .rt d μ
  | _ => .bad
def noxO : O → O
  | .ex _ _ _ _ => .bad
  | o => o
def hgo : List Cl → En → Nat → List (Str × D) → Mu → O
  | [], ρ, c, fs, μ => .ex ρ c fs μ
  | l :: r, ρ, c, fs, μ => match l.m c with
    | none => .bad
    | some false => hgo r ρ c fs μ
    | some true => match l.slot with
      | none => noxO (l.h c fs ρ μ)
      | some i => if i < ρ.length then offO i (l.h c fs (ρ.set i none) μ) else .bad
def gtry (g : FS) (l : List Cl) : FS := fun ρ μ => match g ρ μ with
  | .ex ρ1 c fs μ1 => hgo l ρ1 c fs μ1
  | o => o
def PE0 (K : PySem.W.Frag) (d : Option Addr) (fs : List (Str × D)) : PX := fun W _ H => ExcIs K W H fs d
def tsOf (K : PySem.W.Frag) (l : Cl) (P : Addr → Option Addr → List (Str × D) → PX) : Addr → Value → Option Addr → TS := fun a cls d D σ H => ∃ c fs, cls = .ref (cl K c) ∧ l.m c = some true ∧ rSp K (P a d fs) (l.h c fs) D σ H
/-- the clauses, with their suites -/
inductive HdD (X : Cx) : List ExceptHandler → List Cl → List Hd → Prop
  | nil : HdD X [] [] []
  | one {x : Str} {cv : Value} {m : Nat → Option Bool} {h : Nat → List (Str × D) → FS} {b₀ : Stmt} {suite : List Stmt} {np pos' : Pos} {hds : List ExceptHandler} {l : List Cl} {q : List Hd} (hc : Names X x cv) (hm : ∀ c b, m c = some b → PySem.W.exmOne X.K (.ref (cl X.K c)) cv = some b)
      (hsu : ∀ c fs, m c = some true → ∀ (a : Addr) (oe : Obj) (cls : Value) (d : Option Addr) (pn : List (Addr × Obj)), cls = .ref (cl X.K c) → Zc cls d oe → (∃ vs, oe.data = .fields vs) → DSp (X.suite a ((a, oe) :: pn)) (PE0 X.K d fs) (b₀ :: suite) (h c fs)) (r : HdD X hds l q) :
      HdD X (.ExceptHandler (some (.Name x np)) none (b₀ :: suite) pos' :: hds) (⟨m, none, h⟩ :: l) ((cv, none, tsOf X.K ⟨m, none, h⟩ (fun _ d fs => PE0 X.K d fs)) :: q)
  | as {x n : Str} (i : Nat) {cv : Value} {m : Nat → Option Bool} {h : Nat → List (Str × D) → FS} {b₀ : Stmt} {suite : List Stmt} {np pos' : Pos} {hds : List ExceptHandler} {l : List Cl} {q : List Hd} (hi : X.N[i]? = some n) (hln : X.env.kindOf n = some .local) (hc : Names X x cv) (hm : ∀ c b, m c = some b → PySem.W.exmOne X.K (.ref (cl X.K c)) cv = some b)
      (hsu : ∀ c fs, m c = some true → ∀ (a : Addr) (oe : Obj) (cls : Value) (d : Option Addr) (pn : List (Addr × Obj)), cls = .ref (cl X.K c) → Zc cls d oe → (∃ vs, oe.data = .fields vs) → DSp (X.suite a ((a, oe) :: pn)) (XIn X.K i a d fs) (b₀ :: suite) (h c fs)) (r : HdD X hds l q) :
      HdD X (.ExceptHandler (some (.Name x np)) (some n) (b₀ :: suite) pos' :: hds) (⟨m, some i, h⟩ :: l) ((cv, some i, tsOf X.K ⟨m, some i, h⟩ (fun a d fs => XIn X.K i a d fs)) :: q)
section
variable {X : Cx} {E : WX}
theorem pss_ex {st : List Stmt} {p : Nat → List (Str × D) → Prop} {t : Nat → List (Str × D) → TS} (h : ∀ c fs, p c fs → PSs X st (t c fs)) : PSs X st (fun D σ H => ∃ c fs, p c fs ∧ t c fs D σ H) := ⟨fun pins s σ H D I ⟨c, fs, hp, q⟩ => (h c fs hp).run pins s σ H D I q⟩
theorem HdD.hdG {hds : List ExceptHandler} {l : List Cl} {q : List Hd} (h : HdD X hds l q) : HdG X hds q := by
  induction h with
  | nil => exact .nil
  | one hc hm hsu r ih =>
    exact .one hc (fun a oe cls d pn hz hf => pss_imp (pss_ex (p := fun c fs => cls = .ref (cl X.K c) ∧ _ = some true) fun c fs hp => hsu c fs hp.2 a oe cls d pn hp.1 hz hf) fun D σ H ⟨c, fs, e1, e2, q⟩ => ⟨c, fs, ⟨e1, e2⟩, q⟩) ih
  | as i hi hln hc hm hsu r ih =>
    exact .as hi hln hc (fun a oe cls d pn hz hf => pss_imp (pss_ex (p := fun c fs => cls = .ref (cl X.K c) ∧ _ = some true) fun c fs hp => hsu c fs hp.2 a oe cls d pn hp.1 hz hf) fun D σ H ⟨c, fs, e1, e2, q⟩ => ⟨c, fs, ⟨e1, e2⟩, q⟩) ih
theorem noxO_post {K : PySem.W.Frag} {W : Wd} {H : Hp} {o : O} {Z : Ends} (p : postS K E W H (noxO o) Z) : postS K E0 W H o Z := by
  cases o with
  | ex ρ c fs μ => exact p.elim
  | _ => exact p
theorem offO_post {K : PySem.W.Frag} {W : Wd} {H : Hp} {o : O} {Z : Ends} {i : Nat} (p : postS K E W H (offO i o) Z) : postS K E0 W H o (offE Z i) := by
  cases o with
  | nx ρ μ => exact fun W' σ' H' g o n => p W' _ H' g o (n.unset _ i)
  | bk ρ μ => exact fun W' σ' H' g o n => p W' _ H' g o (n.unset _ i)
  | ct ρ μ => exact fun W' σ' H' g o n => p W' _ H' g o (n.unset _ i)
  | rt d μ => exact p
  | ex ρ c fs μ => exact p.elim
  | bad => exact p
theorem wG_of {hds : List ExceptHandler} {l : List Cl} {q : List Hd} (h : HdD X hds l q) {W : Wd} {H : Hp} {σ : L2.St} {ρ : En} {μ : Mu} {c : Nat} {fs : List (Str × D)} {d : Option Addr} {Z : Ends} (ok : Ok X.K W H μ) (en : Envs X.K W σ ρ) (ex : ExcIs X.K W H fs d) :
    postS X.K E W H (hgo l ρ c fs μ) Z → wG X.K E Z q (.ref (cl X.K c)) d σ H := by
  induction h with
  | nil => exact fun p => p W σ H d (Go.refl _ _) ok en ex
  | @one x cv m h b₀ suite np pos' hds l q hc hm hsu r ih =>
    intro p
    unfold hgo at p
    dsimp only at p
    cases e : m c with
    | none => rw [e] at p; exact p.elim
    | some b =>
      rw [e] at p
      refine ⟨b, hm c b e, fun hb a ha => ?_, fun hb => ?_⟩
      · subst hb
        exact ⟨c, fs, rfl, e, W, ρ, μ, ok, en, ex, noxO_post p⟩
      · subst hb
        exact ih p
  | @as x n i cv m h b₀ suite np pos' hds l q hi hln hc hm hsu r ih =>
    intro p
    unfold hgo at p
    dsimp only at p
    cases e : m c with
    | none => rw [e] at p; exact p.elim
    | some b =>
      rw [e] at p
      refine ⟨b, hm c b e, fun hb a ha => ?_, fun hb => ?_⟩
      · subst hb
        (try dsimp only at p)
        by_cases hl : i < ρ.length
        · rw [if_pos hl] at p
          refine ⟨c, fs, rfl, e, W, ρ.set i none, μ, ok, en.unset _ i, ⟨?_, ex⟩, offO_post p⟩
          exact List.getElem?_set_self (by rw [← en.len]; exact hl)
        · rw [if_neg hl] at p
          exact p.elim
      · subst hb
        exact ih p
theorem ds_try {k : Nat} {body : List Stmt} {h₀ : ExceptHandler} {hds : List ExceptHandler} {l : List Cl} {q : List Hd} {g : FS} {pos : Pos} (hs : X.stack = X.env :: X.outer) (hf : X.env.frame = some X.env.locals) (hN : X.N.Nodup) (C : Cal X E k)
    (hb : ∀ (W : WX) (pn : List (Addr × Obj)) (xe : Value → Shared → Prop), Cal (X.tr pn xe) W k → PassesOwn (model X.prog X.w) X.A X.env xe → DSs (X.tr pn xe) W body g)
    (hh : HdD X (h₀ :: hds) l q) : DS X E (.Try body (h₀ :: hds) [] [] pos) (gtry g l) := by
  refine ps_imp (ps_tryG (tb := fun W => rS X.K W g) hs hf hN C.take (fun W pn xe tk po => hb W pn xe ⟨C.room, C.guards, tk⟩ po) hh.hdG) fun Z σ H ⟨W, ρ, μ, ok, en, p⟩ => ?_
  refine ⟨W, ρ, μ, ok, en, ?_⟩
  unfold gtry at p
  revert p
  cases g ρ μ with
  | ex ρ1 c fs μ1 => exact fun p W' σ' H' d g o n x => wG_of hh o n x (postS.mono g p)
  | nx _ _ => exact fun p => p
  | bk _ _ => exact fun p => p
  | ct _ _ => exact fun p => p
  | rt _ _ => exact fun p => p
  | bad => exact fun p => p
end
section
variable {X : Cx} {P : PX} {a b : Expr} {rest : List Expr} {f g : FE} {pos : Pos}
theorem dp_one {op : BoolOp} (ha : DEp X P a f) : DEp X P (.BoolOp op [a] pos) f := pe_one ha
theorem dp_and (st : Stays P) (ha : DEp X P a f) (hb : DEp X P (.BoolOp .And (b :: rest) pos) g) : DEp X P (.BoolOp .And (a :: b :: rest) pos) (dand f g) := pe_imp (pe_and ha hb) fun σ H Q ⟨W, ρ, μ, ok, en, hP, p⟩ =>
  seqp hP p ok en fun d μ1 W1 x H1 g1 o1 en1 r p1 => by
    cases d with
    | bl k =>
      cases r
      cases k with
      | true => exact ⟨true, rfl, W1, ρ, μ1, o1, en1, st _ _ _ _ _ g1 hP, p1⟩
      | false => exact ⟨false, rfl, post_pure o1 p1 (.bl _)⟩
    | _ => exact p1.elim
theorem stays_X {K : PySem.W.Frag} {i : Nat} {a : Addr} {d : Option Addr} {fs : List (Str × D)} : Stays (XIn K i a d fs) := fun _ _ _ _ _ g x => x.go g
theorem stays_0 {K : PySem.W.Frag} {d : Option Addr} {fs : List (Str × D)} : Stays (PE0 K d fs) := fun _ _ _ _ _ g x => excIs_go g x
/-- a suite that does not look at the exception -/
theorem dsp_lift {st : List Stmt} {g : FS} (h : DSs X E0 st g) : DSp X P st g := pss_imp h fun Z σ H ⟨W, ρ, μ, ok, en, hP, p⟩ => ⟨W, ρ, μ, ok, en, p⟩
end
end DL
/-! DL45: the facts about own exception classes as Bools, for the head. -/
namespace DL
open PySem L2 PySem.Spec PyProof.Rows PySem.HandSPX
/-- which built-in class stands under it -/
inductive Bk where
  | ve | ke | rt
def Bk.new : Bk → String
  | .ve => "ValueError.__new__"
  | .ke => "LookupError.__new__"
  | .rt => "RuntimeError.__new__"
def Bk.init : Bk → String
  | .ve => "ValueError.__init__"
  | .ke => "KeyError.__init__"
  | .rt => "RuntimeError.__init__"
def Bk.name : Bk → String
  | .ve => "ValueError"
  | .ke => "KeyError"
  | .rt => "RuntimeError"
def Bk.tail : Bk → List Value
  | .ve => veTail
  | .ke => keTail
  | .rt => rtTail
theorem Bk.bas : (k : Bk) → Bas k.new k.init k.tail
  | .ve => bas_VE
  | .ke => bas_KE
  | .rt => bas_RT
def oexB (K : PySem.W.Frag) (c : Nat) (k : Bk) : Bool := PySem.W.excInitIn K (cl K c) k.tail k.new && (PySem.W.excOver K (cl K c) k.tail && (PySem.W.hasDictIn K (cl K c) &&
  (decide (PySem.W.findIn K (.ref (cl K c)) "__setattr__" = some (some (.builtin "object.__setattr__"))) && (decide (PySem.W.subIn K (.ref (cl K c)) (.type "BaseException") = some true) &&
    (decide (PySem.W.typeIn K (.ref (cl K c)) = some (.type "type")) && PySem.W.keepIn K (.ref (cl K c)))))))
theorem oexB_ok {K : PySem.W.Frag} {c : Nat} {k : Bk} (h : oexB K c k = true) : OexG K (cl K c) k.init := by
  unfold oexB at h
  simp only [Bool.and_eq_true, decide_eq_true_eq] at h
  obtain ⟨h1, h2, h3, h4, h5, h6, h7⟩ := h
  exact ⟨⟨_, _, k.bas, h1, h2⟩, h3, h4, h5, h6, h7⟩
/-- the class's own __init__ is the def at f -/
def oiniB (K : PySem.W.Frag) (c : Nat) : Bool := decide (PySem.W.findIn K (.ref (cl K c)) "__init__" = some (some (.ref (He.fAd K (nmC c, some "__init__"))))) && decide (PySem.W.typeIn K (.ref (He.fAd K (nmC c, some "__init__"))) = some (.type "function"))
theorem oiniB_ok {K : PySem.W.Frag} {c : Nat} (h : oiniB K c = true) : PySem.W.findIn K (.ref (cl K c)) "__init__" = some (some (.ref (He.fAd K (nmC c, some "__init__")))) ∧ PySem.W.typeIn K (.ref (He.fAd K (nmC c, some "__init__"))) = some (.type "function") := by
  unfold oiniB at h
  simp only [Bool.and_eq_true, decide_eq_true_eq] at h
  exact h
/-- base.__init__, the base an own class; a built-in one -/
def isVal (r : Option PySem.W.CFound) (i : String) : Bool := match r with
  | some (.val (.builtin j)) => j == i
  | _ => false
theorem isVal_ok {r : Option PySem.W.CFound} {i : String} (h : isVal r i = true) : r = some (.val (.builtin i)) := by
  unfold isVal at h
  split at h
  · rw [eq_of_beq h]
  · cases h
def gmB (K : PySem.W.Frag) (b : Nat) (i : String) : Bool := decide (PySem.W.specialIn K (.ref (cl K b)) "__getattribute__" = some (some (.builtin "type.__getattribute__"))) && (PySem.W.readsIn K (cl K b) (.type "type") && isVal (PySem.W.findCls K (.ref (cl K b)) (.type "type") "__init__") i)
theorem gmB_ok {X : Cx} {b : Nat} {k : Bk} (h : gmB X.K b k.init = true) : GMi X (.ref (cl X.K b)) k.init := by
  unfold gmB at h
  simp only [Bool.and_eq_true, decide_eq_true_eq] at h
  exact gm_own h.1 h.2.1 (isVal_ok h.2.2) (by cases k <;> decide +kernel)
def gmTB (K : PySem.W.Frag) (k : Bk) : Bool := isVal (PySem.W.findCls K (.type k.name) (.type "type") "__init__") k.init
theorem gmTB_ok {X : Cx} {k : Bk} (h : gmTB X.K k = true) : GMi X (.type k.name) k.init := gm_type (isVal_ok h) (by cases k <;> kernel_rfl) (by cases k <;> decide +kernel) (by cases k <;> decide +kernel)
/-- what is asked of a class whose exceptions are looked at -/
def excB (K : PySem.W.Frag) (c : Nat) : Bool := decide (PySem.W.findIn K (.ref (cl K c)) "__getattribute__" = some (some (.builtin "BaseException.__getattribute__"))) && (decide (PySem.W.findIn K (.ref (cl K c)) "__getattr__" = some none) && (decide (PySem.W.subIn K (.ref (cl K c)) (.type "BaseException") = some true) && (PySem.W.hasDictIn K (cl K c) &&
  (decide (PySem.W.findIn K (.ref (cl K c)) "__class__" = some (some (.builtin "object.__class__"))) && (decide (PySem.W.specialIn K (.builtin "object.__class__") "__get__" = some (some (.builtin "getset_descriptor.__get__"))) && (decide (PySem.W.takesIn K (.builtin "object.__class__") = some true) && decide (PySem.W.mroIn K (cl K c) (.type "object") = some true)))))))
theorem excB_ok {K : PySem.W.Frag} {c : Nat} (h : excB K c = true) : ExcC K (cl K c) ∧ XfC K (cl K c) := by
  unfold excB at h
  simp only [Bool.and_eq_true, decide_eq_true_eq] at h
  obtain ⟨h1, h2, h3, h4, h5, h6, h7, h8⟩ := h
  exact ⟨⟨h1, h2, h3, h4, h5, h6, h7, h8⟩, ⟨h1, h2, h3, h4⟩⟩
/-- which classes a clause catches -/
def mL (yes no : List Nat) : Nat → Option Bool := fun c => if c ∈ yes then some true else if c ∈ no then some false else none
def exmB (K : PySem.W.Frag) (cv : Value) (yes no : List Nat) : Bool := yes.all (fun c => decide (PySem.W.exmOne K (.ref (cl K c)) cv = some true)) && no.all fun c => decide (PySem.W.exmOne K (.ref (cl K c)) cv = some false)
theorem exmB_ok {K : PySem.W.Frag} {cv : Value} {yes no : List Nat} (h : exmB K cv yes no = true) : ∀ c b, mL yes no c = some b → PySem.W.exmOne K (.ref (cl K c)) cv = some b := by
  unfold exmB at h
  simp only [Bool.and_eq_true, decide_eq_true_eq, List.all_eq_true] at h
  obtain ⟨h1, h2⟩ := h
  intro c b e
  unfold mL at e
  split at e
  · rename_i m
    cases e
    exact h1 c m
  · split at e
    · rename_i m
      cases e
      exact h2 c m
    · cases e
end DL
/-! DL46: as He.hookX, the fragment reaching the statics too. -/
namespace DL
open PySem L2 He
def asY (g : Addr → Option Obj) (n : Nat) : List Addr := cStatics :: asD g n
def obsY (n : Nat) (fa : List Fa) (fn : List DefD) (ex : PySem.W.Frag → Bool) (g : Addr → Option Obj) : AlX := (obsT fa fn [] (frT g (asY g n)), ex (frT g (asY g n)))
theorem saysY_of {n : Nat} {fa : List Fa} {fn : List DefD} {ex : PySem.W.Frag → Bool} {w : World} {h : Heap} (e : obsY n fa fn ex h.get? = valX fn [] w) : SaysX fa fn [] [] ex w h (frT h.get? (asY h.get? n)) := by
  have e1 : obsT fa fn [] (frT h.get? (asY h.get? n)) = valT fn [] w := congrArg (fun z : AlX => z.1) e
  have e2 : ex (frT h.get? (asY h.get? n)) = true := congrArg (fun z : AlX => z.2) e
  exact ⟨e1, e2, fun p hp => absurd hp List.not_mem_nil, fun p hp => absurd hp List.not_mem_nil, fun p hp => absurd hp List.not_mem_nil⟩
def hookY (n : Nat) (fa : List Fa) (fn : List DefD) (ex : PySem.W.Frag → Bool) : PySem.W.Hook where
  α := AlX
  obs := fun s => obsY n fa fn ex s.heap.get?
  val := fun w => valX fn [] w
  says := fun w h => ∃ K : PySem.W.Frag, K.In h ∧ SaysX fa fn [] [] ex w h K
  of := fun _ _ e => ⟨_, frT_in, saysY_of e⟩
  keeps := fun _ _ _ ⟨K, hK, c⟩ k => ⟨K, PySem.W.Frag.In.keeps hK k, ⟨c.t, c.more, c.hd, c.out, fun p hp => k _ _ (c.empty p hp)⟩⟩
theorem obsY_eq {n : Nat} {fa : List Fa} {fn : List DefD} {ex : PySem.W.Frag → Bool} {g : Addr → Option Obj} {s : Shared} (h : ∀ a, g a = s.heap.get? a) : obsY n fa fn ex g = (hookY n fa fn ex).obs s := by
  have e : g = s.heap.get? := funext h
  rw [e]
  rfl
end DL
/-! DL47: == and != of data with cells in it. -/
namespace DL
open PySem L2 PySem.Spec PyProof.Rows
def dctEq (e : D → D → Option Bool) (ls : List Key) (ys : List D) : List Key → List D → Option Bool
  | k :: ks, x :: xs => match dctEq e ls ys ks xs with
    | some b => (match lookK ls ys k with
      | none => some false
      | some y => match e x y with
        | some a => some (a && b)
        | none => none)
    | none => none
  | _, _ => some true
/-- == of data, cells looked into; of less than that depth -/
def eqM : Nat → Mu → D → D → Option Bool
  | 0, _, _, _ => none
  | n + 1, μ, x, y => match x, y with
    | .hdl l, .hdl m => if l = m then some true else (match μ[l]?, μ[m]? with
      | some (.dct ks xs), some (.dct ls ys) => if ks.length = xs.length ∧ ls.length = ys.length then (match dctEq (eqM n μ) ls ys ks xs with
          | some b => some (decide (ks.length = ls.length) && b)
          | none => none) else none
      | some (.lst xs), some (.lst ys) => eqL (eqM n μ) xs ys
      | _, _ => none)
    | x, y => match x.kd, y.kd with
      | .flat u, .flat v => some (eqV u v)
      | .tup xs, .tup ys => eqL (eqM n μ) xs ys
      | .lst xs, .lst ys => eqL (eqM n μ) xs ys
      | .none, _ => none
      | _, .none => none
      | _, _ => some false
def kdM (n : Nat) (μ : Mu) (x y : D) : Option Bool := match x.kd, y.kd with
  | .flat u, .flat v => some (eqV u v)
  | .tup xs, .tup ys => eqL (eqM n μ) xs ys
  | .lst xs, .lst ys => eqL (eqM n μ) xs ys
  | .none, _ => none
  | _, .none => none
  | _, _ => some false
def hdM (n : Nat) (μ : Mu) (l m : Nat) : Option Bool := match μ[l]?, μ[m]? with
  | some (.dct ks xs), some (.dct ls ys) => if ks.length = xs.length ∧ ls.length = ys.length then (match dctEq (eqM n μ) ls ys ks xs with
      | some b => some (decide (ks.length = ls.length) && b)
      | none => none) else none
  | some (.lst xs), some (.lst ys) => eqL (eqM n μ) xs ys
  | _, _ => none
theorem eqM_cases {n : Nat} {μ : Mu} {x y : D} {b : Bool} (h : eqM (n + 1) μ x y = some b) : (∃ l, x = .hdl l ∧ y = .hdl l ∧ b = true) ∨ (∃ l m, x = .hdl l ∧ y = .hdl m ∧ l ≠ m ∧ hdM n μ l m = some b) ∨ kdM n μ x y = some b := by
  unfold eqM at h
  split at h
  · rename_i l m
    split at h
    · rename_i e
      subst e
      cases h
      exact .inl ⟨l, rfl, rfl, rfl⟩
    · rename_i e
      exact .inr (.inl ⟨l, m, rfl, rfl, e, h⟩)
  · exact .inr (.inr h)
section
variable {X : Cx} {pins : List (Addr × Obj)} {σ : L2.St} {H : Hp} {s : Shared} {W : Wd} {μ : Mu}
theorem eqM_same (I : Inv X pins σ H s) (ok : Ok X.K W H μ) : ∀ (n : Nat) (v : V) (d e : D) (b : Bool), Rep X.K W v d → Rep X.K W v e → eqM n μ d e = some b → b = true
  | 0, _, _, _, _, _, _, h => by simp [eqM] at h
  | n + 1, v, d, e, b, r1, r2, h => by
    rcases eqM_cases h with ⟨l, _, _, hb⟩ | ⟨l, m, rfl, rfl, hne, h⟩ | h
    · exact hb
    · cases r1 with
      | hdl h1 => cases r2 with
        | hdl h2 => exact absurd rfl (ok.io_ne h2 h1 hne)
    · unfold kdM at h
      cases k1 : d.kd with
      | none => rw [k1] at h; cases h
      | flat u1 =>
        obtain ⟨rfl, f1⟩ := kd_flat r1 k1
        cases k2 : e.kd with
        | none => rw [k1, k2] at h; cases h
        | flat u2 =>
          obtain ⟨rfl, _⟩ := kd_flat r2 k2
          rw [k1, k2] at h
          cases h
          exact eqV_refl f1
        | tup ys =>
          obtain ⟨a, vs, rfl, _⟩ := kd_tup r2 k2
          simp [flatV] at f1
        | lst ys =>
          obtain ⟨a, vs, rfl, _⟩ := kd_lst r2 k2
          simp [flatV] at f1
      | tup xs =>
        obtain ⟨a, vs, rfl, h1, q1⟩ := kd_tup r1 k1
        cases k2 : e.kd with
        | none => rw [k1, k2] at h; cases h
        | flat u2 =>
          obtain ⟨rfl, f⟩ := kd_flat r2 k2
          simp [flatV] at f
        | tup ys =>
          obtain ⟨a', us, e', h2, q2⟩ := kd_tup r2 k2
          cases e'
          have ev := I.tuple_inj (same_t ok.sub h1) (same_t ok.sub h2)
          subst ev
          rw [k1, k2] at h
          exact eqL_same (fun v x y c a b z => eqM_same I ok n v x y c a b z) q1 q2 h
        | lst ys =>
          obtain ⟨a', us, e', h2, q2⟩ := kd_lst r2 k2
          cases e'
          obtain ⟨its, _, ⟨o, e1, c1, _⟩, _⟩ := I.tuple (same_t ok.sub h1)
          obtain ⟨its', _, ⟨o', n', e2, c2, _⟩, _⟩ := I.list (same_lq ok.sub h2).sq
          rw [e1] at e2
          cases e2
          rw [c1] at c2
          exact absurd c2 (by decide)
      | lst xs =>
        obtain ⟨a, vs, rfl, h1, q1⟩ := kd_lst r1 k1
        cases k2 : e.kd with
        | none => rw [k1, k2] at h; cases h
        | flat u2 =>
          obtain ⟨rfl, f⟩ := kd_flat r2 k2
          simp [flatV] at f
        | lst ys =>
          obtain ⟨a', us, e', h2, q2⟩ := kd_lst r2 k2
          cases e'
          have ev := I.list_inj (same_lq ok.sub h1).sq (same_lq ok.sub h2).sq
          subst ev
          rw [k1, k2] at h
          exact eqL_same (fun v x y c a b z => eqM_same I ok n v x y c a b z) q1 q2 h
        | tup ys =>
          obtain ⟨a', us, e', h2, q2⟩ := kd_tup r2 k2
          cases e'
          obtain ⟨its, _, ⟨o, e1, c1, _⟩, _⟩ := I.tuple (same_t ok.sub h2)
          obtain ⟨its', _, ⟨o', n', e2, c2, _⟩, _⟩ := I.list (same_lq ok.sub h1).sq
          rw [e1] at e2
          cases e2
          rw [c1] at c2
          exact absurd c2 (by decide)
def RcIn (prog : Program) (w : World) (op : CmpOp) (A : Around) (s : Shared) (y x : Value) (b : Bool) : Prop :=
  ∀ (E : Value → Shared → Prop) (Q : Value → Shared → Prop), Q (.bool b) s → wpAny (model prog w) A (richCompare op y x) Q E s
open PySem.SeqAt in
/-- the items of two lists, two tuples, as they lie there -/
theorem items_eq {A : Around} {P : Program} {w : World} {e : D → D → Option Bool} {xs ys : List D} {b : Bool} {vs us : List V} {its its' : List Value} {K : PySem.W.Frag} (q1 : Reps K W vs xs) (q2 : Reps K W us ys) (v1 : Vals vs its) (v2 : Vals us its') (h : eqL e xs ys = some b)
    (ih : ∀ x y c u v p q, Rep K W u x → Rep K W v y → RelV u p → RelV v q → e x y = some c → EqIn P w A s p q c) : ∀ j (h1 : j < its.toArray.size) (h2 : j < its'.toArray.size), EqIn P w A s its.toArray[j] its'.toArray[j] (atF e xs ys j) := fun j h3 h4 => by
  have l1 : its.toArray.size = xs.length := by rw [List.size_toArray, ← v1.length, q1.length]
  have l2 : its'.toArray.size = ys.length := by rw [List.size_toArray, ← v2.length, q2.length]
  obtain ⟨xd, ex⟩ : ∃ xd, xs[j]? = some xd := ⟨_, List.getElem?_eq_getElem (by rw [← l1]; exact h3)⟩
  obtain ⟨yd, ey⟩ : ∃ yd, ys[j]? = some yd := ⟨_, List.getElem?_eq_getElem (by rw [← l2]; exact h4)⟩
  obtain ⟨xv, e3, r3⟩ := q1.get ex
  obtain ⟨yv, e4, r4⟩ := q2.get ey
  obtain ⟨xu, e5, w5⟩ := v1.get e3
  obtain ⟨yu, e6, w6⟩ := v2.get e4
  have g1 : its.toArray[j] = xu := by
    have := List.getElem?_eq_some_iff.mp e5
    simpa using this.2
  have g2 : its'.toArray[j] = yu := by
    have := List.getElem?_eq_some_iff.mp e6
    simpa using this.2
  rw [g1, g2]
  exact ih xd yd _ xv yv xu yu r3 r4 w5 w6 (eqL_at h j xd yd ex ey)
open PySem.SeqAt in
theorem hits_in {A : Around} {P : Program} {w : World} {K : PySem.W.Frag} {e : D → D → Option Bool} {ls : List Key} {ys : List D} {us : List V} {vb : List (Key × Value)} (ry : Reps K W us ys) (rb : KV (ls.zip us) vb)
    (ih : ∀ x y c u v p q, Rep K W u x → Rep K W v y → RelV u p → RelV v q → e x y = some c → EqIn P w A s p q c) :
    ∀ {ks : List Key} {xs : List D} {vs : List V} {va : List (Key × Value)} {b : Bool}, Reps K W vs xs → KV (ks.zip vs) va → ks.length = xs.length → dctEq e ls ys ks xs = some b → PySem.W.KeqHitsIn P w A s vb va b
  | [], [], _, va, b, .nil, ra, _, h => by
    simp [dctEq] at h
    subst h
    unfold KV at ra
    cases ra
    exact .nil
  | k :: ks, x :: xs, _, va, b, .cons (v := v) (vs := vs) r rs, ra, hl, h => by
    unfold dctEq at h
    cases hr : dctEq e ls ys ks xs with
    | none => rw [hr] at h; cases h
    | some c =>
      rw [hr] at h
      unfold KV at ra
      rw [List.zip_cons_cons] at ra
      cases ra with
      | @cons p q ps qs hh tt =>
        obtain ⟨k', u⟩ := q
        obtain ⟨h1, h2⟩ := hh
        have h1 : k = k' := h1
        subst h1
        have h2 : RelV v u := h2
        have lr := look_rep (j := k) (ks := ls) ry
        have tl := hits_in ry rb ih rs tt (by simpa using hl) hr
        cases hk : lookK ls ys k with
        | none =>
          rw [hk] at lr h
          cases h
          exact .miss (RelO.none_of (by rw [← lr]; exact rb.val k))
        | some y =>
          rw [hk] at lr h
          obtain ⟨yv, e1, r1⟩ := lr
          obtain ⟨yu, e2, w2⟩ := RelO.some_of (v := yv) (o := valueAt vb k) (by rw [← e1]; exact rb.val k)
          cases he : e x y with
          | none => simp [he] at h
          | some a =>
            simp [he] at h
            rw [← h]
            exact .hit e2 (ih x y a v yv u yu r r1 h2 w2 he) tl
  | [], _ :: _, _, _, _, _, _, h, _ => by cases h
  | _ :: _, [], _, _, _, _, _, h, _ => by cases h
open PySem.SeqAt in
theorem eqM_in (I : Inv X pins σ H s) (ok : Ok X.K W H μ) : ∀ (n : Nat) (A : Around) (d e : D) (b : Bool) (u v : V) (p q : Value), A.units + n < cLine → Rep X.K W u d → Rep X.K W v e → RelV u p → RelV v q → eqM n μ d e = some b → EqIn X.prog X.w A s p q b ∧ ((∀ l, d ≠ .hdl l ∨ e ≠ .hdl l) → RcIn X.prog X.w .Eq A s p q b)
  | 0, _, _, _, _, _, _, _, _, _, _, _, _, _, h => by simp [eqM] at h
  | n + 1, A, d, e, b, u, v, p, q, hu, r1, r2, w1, w2, h => by
    have hu0 : A.units < cLine := by omega
    have ih : ∀ x y c u v p q, Rep X.K W u x → Rep X.K W v y → RelV u p → RelV v q → eqM n μ x y = some c → EqIn X.prog X.w A.in1 s p q c := fun x y c u v p q a1 a2 a3 a4 a5 => (eqM_in I ok n A.in1 x y c u v p q (by show A.units + 1 + n < cLine; omega) a1 a2 a3 a4 a5).1
    have both : ∀ {k : Bool}, (RcIn X.prog X.w .Eq A s p q b) → (∀ a, p = .ref a → q = .ref a → b = true) → (∃ a a', p = .ref a ∧ q = .ref a') → EqIn X.prog X.w A s p q b ∧ ((∀ l, d ≠ .hdl l ∨ e ≠ .hdl l) → RcIn X.prog X.w .Eq A s p q b) := fun {k} rc hs ⟨a, a', e1, e2⟩ => by
      refine ⟨?_, fun _ => rc⟩
      by_cases hne : a = a'
      · subst hne
        rw [hs a e1 e2, e1, e2]
        exact (EqAt.same _).inModel _ _
      · rw [e1, e2] at rc ⊢
        exact EqIn.of_refs hne rc
    rcases eqM_cases h with ⟨l, rfl, rfl, hb⟩ | ⟨l, m, rfl, rfl, hne, h⟩ | hk
    · subst hb
      refine ⟨?_, fun z => ?_⟩
      · cases r1 with
        | hdl h1 => cases r2 with
          | hdl h2 =>
            rw [h1] at h2
            cases h2
            cases w1
            cases w2
            exact (EqAt.same _).inModel _ _
      · rcases z l with z | z <;> exact absurd rfl z
    · cases r1 with
      | @hdl a _ h1 => cases r2 with
        | @hdl a' _ h2 =>
          have na : a ≠ a' := fun z => absurd z.symm (ok.io_ne h1 h2 (fun z => hne z.symm))
          cases w1
          cases w2
          have rc : RcIn X.prog X.w .Eq A s (.ref a) (.ref a') b := by
            unfold hdM at h
            split at h
            · rename_i ks xs ls ys m1 m2
              split at h
              · rename_i hl
                obtain ⟨o1, g1, vs, rfl, l1, q1⟩ := ok.cell l a _ h1 m1
                obtain ⟨o2, g2, us, rfl, l2, q2⟩ := ok.cell m a' _ h2 m2
                obtain ⟨_, ya, va, ra, da⟩ := (show ObjOk X.prog X.w H s.heap a (.dK (ks.zip vs)) from I.hok a _ g1)
                obtain ⟨_, yb, vb, rb, db⟩ := (show ObjOk X.prog X.w H s.heap a' (.dK (ls.zip us)) from I.hok a' _ g2)
                cases hd : dctEq (eqM n μ) ls ys ks xs with
                | none => rw [hd] at h; cases h
                | some c =>
                  rw [hd] at h
                  cases h
                  have hz := hits_in q2 rb ih q1 ra hl.1 hd
                  have e1 : va.length = ks.length := by rw [← ra.length, List.length_zip, ← l1, Nat.min_self]
                  have e2 : vb.length = ls.length := by rw [← rb.length, List.length_zip, ← l2, Nat.min_self]
                  intro E Q hq
                  refine PySem.W.keq_eqIn (knd := mixKind X.prog X.w) ya yb da db hu0 (fun _ => hz) ?_
                  rw [e1, e2]
                  exact hq
              · cases h
            · rename_i xs ys m1 m2
              obtain ⟨o1, g1, vs, rfl, q1⟩ := ok.cell l a _ h1 m1
              obtain ⟨o2, g2, us, rfl, q2⟩ := ok.cell m a' _ h2 m2
              obtain ⟨its, v1, ht, _⟩ := I.list (xs := vs) (.inl (.inl g1))
              obtain ⟨its', v2, ht', _⟩ := I.list (xs := us) (.inl (.inl g2))
              have z1 : its.toArray.size = xs.length := by rw [List.size_toArray, ← v1.length, q1.length]
              have z2 : its'.toArray.size = ys.length := by rw [List.size_toArray, ← v2.length, q2.length]
              have hv := eqL_val h
              intro E Q hq
              by_cases hl : xs.length = ys.length
              · refine rcIn_lists ht.isList ht'.isList (by rw [z1, z2]; exact hl) hu0 (items_eq q1 q2 v1 v2 h ih) ?_
                rw [hl, Nat.min_self, beq_self_eq_true, Bool.and_true] at hv
                rw [z1, hl, ← hv]
                exact hq
              · rw [show (xs.length == ys.length) = false from beq_eq_false_iff_ne.mpr hl, Bool.and_false] at hv
                rw [hv] at hq
                exact RcAt.lists_lengths ht.isList ht'.isList (by rw [z1, z2]; simpa using hl) hu0 X.prog X.w E Q hq
            · cases h
          exact ⟨EqIn.of_refs na rc, fun _ => rc⟩
    · have same : ∀ a, p = .ref a → q = .ref a → u = .ref a → v = .ref a → b = true := fun a _ _ e1 e2 => by
        subst e1
        subst e2
        exact eqM_same I ok (n + 1) _ d e b r1 r2 h
      have hk0 := hk
      unfold kdM at hk
      cases k1 : d.kd with
      | none => rw [k1] at hk; cases hk
      | flat u1 =>
        obtain ⟨rfl, f1⟩ := kd_flat r1 k1
        cases k2 : e.kd with
        | none => rw [k1, k2] at hk; cases hk
        | flat u2 =>
          obtain ⟨rfl, f2⟩ := kd_flat r2 k2
          rw [k1, k2] at hk
          cases hk
          exact ⟨(eqAt_V w1 w2 f1 f2).inModel _ _, fun _ => rc_flat w1 w2 f1 f2 _ _⟩
        | tup ys =>
          obtain ⟨a, vs, rfl, h2, _⟩ := kd_tup r2 k2
          cases w2
          obtain ⟨its, _, ht, _⟩ := I.tuple (same_t ok.sub h2)
          rw [k1, k2] at hk
          cases hk
          have z := flat_tuple (s := s) (A := A) w1 f1 (show s.heap.IsTuple a its.toArray from ht) hu0
          exact ⟨z.2.1.inModel _ _, fun _ => z.1 _ _⟩
        | lst ys =>
          obtain ⟨a, vs, rfl, h2, _⟩ := kd_lst r2 k2
          cases w2
          obtain ⟨its, _, ht, _⟩ := I.list (same_lq ok.sub h2).sq
          rw [k1, k2] at hk
          cases hk
          have z := flat_list (s := s) (A := A) w1 f1 ht.isList hu0
          exact ⟨z.2.1.inModel _ _, fun _ => z.1 _ _⟩
      | tup xs =>
        obtain ⟨a, vs, rfl, h1, q1⟩ := kd_tup r1 k1
        cases w1
        obtain ⟨its, v1, ht, _⟩ := I.tuple (same_t ok.sub h1)
        cases k2 : e.kd with
        | none => rw [k1, k2] at hk; cases hk
        | flat u2 =>
          obtain ⟨rfl, f2⟩ := kd_flat r2 k2
          rw [k1, k2] at hk
          cases hk
          have z := flat_tuple (s := s) (A := A) w2 f2 (show s.heap.IsTuple a its.toArray from ht) hu0
          exact ⟨z.2.2.2.inModel _ _, fun _ => z.2.2.1 _ _⟩
        | lst ys =>
          obtain ⟨a', us, rfl, h2, q2⟩ := kd_lst r2 k2
          cases w2
          obtain ⟨its', _, ht', _⟩ := I.list (same_lq ok.sub h2).sq
          rw [k1, k2] at hk
          cases hk
          exact ⟨(EqAt.tuple_list (show s.heap.IsTuple a its.toArray from ht) ht'.isList hu0).inModel _ _, fun _ => RcAt.tuple_list (show s.heap.IsTuple a its.toArray from ht) ht'.isList hu0 _ _⟩
        | tup ys =>
          obtain ⟨a', us, rfl, h2, q2⟩ := kd_tup r2 k2
          cases w2
          obtain ⟨its', v2, ht', _⟩ := I.tuple (same_t ok.sub h2)
          rw [k1, k2] at hk
          have l1 : its.toArray.size = xs.length := by rw [List.size_toArray, ← v1.length, q1.length]
          have l2 : its'.toArray.size = ys.length := by rw [List.size_toArray, ← v2.length, q2.length]
          refine both (k := b) (fun E Q hq => ?_) (fun z e1 e2 => same z e1 e2 (by cases e1; rfl) (by cases e2; rfl)) ⟨_, _, rfl, rfl⟩
          refine rcIn_tuples (show s.heap.IsTuple a its.toArray from ht) (show s.heap.IsTuple a' its'.toArray from ht') hu0 (items_eq q1 q2 v1 v2 hk ih) ?_
          rw [l1, l2, ← eqL_val hk]
          exact hq
      | lst xs =>
        obtain ⟨a, vs, rfl, h1, q1⟩ := kd_lst r1 k1
        cases w1
        obtain ⟨its, v1, ht, _⟩ := I.list (same_lq ok.sub h1).sq
        cases k2 : e.kd with
        | none => rw [k1, k2] at hk; cases hk
        | flat u2 =>
          obtain ⟨rfl, f2⟩ := kd_flat r2 k2
          rw [k1, k2] at hk
          cases hk
          have z := flat_list (s := s) (A := A) w2 f2 ht.isList hu0
          exact ⟨z.2.2.2.inModel _ _, fun _ => z.2.2.1 _ _⟩
        | tup ys =>
          obtain ⟨a', us, rfl, h2, q2⟩ := kd_tup r2 k2
          cases w2
          obtain ⟨its', _, ht', _⟩ := I.tuple (same_t ok.sub h2)
          rw [k1, k2] at hk
          cases hk
          exact ⟨(EqAt.list_tuple ht.isList (show s.heap.IsTuple a' its'.toArray from ht') hu0).inModel _ _, fun _ => RcAt.list_tuple ht.isList (show s.heap.IsTuple a' its'.toArray from ht') hu0 _ _⟩
        | lst ys =>
          obtain ⟨a', us, rfl, h2, q2⟩ := kd_lst r2 k2
          cases w2
          obtain ⟨its', v2, ht', _⟩ := I.list (same_lq ok.sub h2).sq
          rw [k1, k2] at hk
          have l1 : its.toArray.size = xs.length := by rw [List.size_toArray, ← v1.length, q1.length]
          have l2 : its'.toArray.size = ys.length := by rw [List.size_toArray, ← v2.length, q2.length]
          have hv := eqL_val hk
          refine both (k := b) (fun E Q hq => ?_) (fun z e1 e2 => same z e1 e2 (by cases e1; rfl) (by cases e2; rfl)) ⟨_, _, rfl, rfl⟩
          by_cases hl : xs.length = ys.length
          · refine rcIn_lists ht.isList ht'.isList (by rw [l1, l2]; exact hl) hu0 (items_eq q1 q2 v1 v2 hk ih) ?_
            rw [hl, Nat.min_self, beq_self_eq_true, Bool.and_true] at hv
            rw [l1, hl, ← hv]
            exact hq
          · rw [show (xs.length == ys.length) = false from beq_eq_false_iff_ne.mpr hl, Bool.and_false] at hv
            rw [hv] at hq
            exact RcAt.lists_lengths ht.isList ht'.isList (by rw [l1, l2]; simpa using hl) hu0 X.prog X.w E Q hq
end
end DL
/-! DL48: != of lists, tuples and dicts with cells in them. -/
namespace DL
open PySem L2 PySem.Spec PyProof.Rows
open PySem.SeqAt
open AutoSeq1 (wpAny_loadPart')
open MeetsSeq MeetsSeq2 MeetsSeq3 SeqRoads2
section
variable {P : Program} {w : World}
theorem neLoop (a b : Addr) (xs ys : Array Value) (n m : Nat) (da db : Option Addr) (sa sb : Array (Option Value)) (hz : xs.size = ys.size) (f : Nat → Bool) (k : Nat) :
    ∀ i : Nat, xs.size - i = k → MeetsIn P w (Builtin.«list.__eq__.loop» ⟨[.ref a, .ref b, rawInt i, rawInt 3], []⟩)
      (fun A R s => s.heap.get? a = some { cls := .type "list", dict := da, data := .seq xs n, slots := sa } ∧ s.heap.get? b = some { cls := .type "list", dict := db, data := .seq ys m, slots := sb } ∧
        (∀ j (h1 : j < xs.size) (h2 : j < ys.size), EqIn P w A.in1 s xs[j] ys[j] (f j)) ∧ R (.ok (.ret (.bool (!((List.range xs.size).drop i).all f)))) s) := by
  induction k with
  | zero =>
    intro i hk A R s z
    obtain ⟨hp, g, d, tk, os⟩ := s
    obtain ⟨ha, hb, he, z⟩ := z
    wp_walk using wpAny_loadPart' ha, wpAny_loadPart' hb
    have i1 : xs[((i : Nat) : Int).toNat]? = none := by simp; omega
    have i2 : ys[((i : Nat) : Int).toNat]? = none := by simp; omega
    have hd : (List.range xs.size).drop i = [] := by simp; omega
    rw [hd] at z
    rw [i1, i2]
    wp_walk using wpAny_loadPart' ha, wpAny_loadPart' hb
    show R (.ok (.ret (.bool (xs.size != ys.size)))) _
    rw [hz]
    simpa using z
  | succ k ih =>
    intro i hk A R s z
    obtain ⟨hp, g, d, tk, os⟩ := s
    obtain ⟨ha, hb, he, z⟩ := z
    wp_walk using wpAny_loadPart' ha, wpAny_loadPart' hb
    have q1 : i < xs.size := by omega
    have q2 : i < ys.size := by omega
    have i1 : xs[((i : Nat) : Int).toNat]? = some xs[i] := by simp [q1]
    have i2 : ys[((i : Nat) : Int).toNat]? = some ys[i] := by simp [q2]
    have hd : (List.range xs.size).drop i = i :: (List.range xs.size).drop (i + 1) := by simp [List.drop_eq_getElem_cons, q1]
    have hc : ((i : Int) + 1) = ((i + 1 : Nat) : Int) := by push_cast; rfl
    rw [hd, List.all_cons] at z
    rw [i1, i2]
    refine wpAny_bind (he i q1 q2 _ _ ?_)
    cases hf : f i with
    | true =>
      rw [hf] at z
      wp_walk
      rw [hc]
      refine ⟨plainId_quiet plain_eq_loop _, codeAny_builtin entry_eq_loop ?_⟩
      rw [Around.under_plainId plain_eq_loop _]
      exact ih (i + 1) (by omega) A R _ ⟨ha, hb, he, by simpa using z⟩
    | false =>
      rw [hf] at z
      wp_walk using wpAny_loadPart' ha, wpAny_loadPart' hb
      rw [i1, i2]
      wp_walk
      simpa using z
theorem listNe (a b : Addr) (xs ys : Array Value) (n m : Nat) (da db : Option Addr) (sa sb : Array (Option Value)) (hz : xs.size = ys.size) (f : Nat → Bool) :
    MeetsIn P w (Builtin.«list.__ne__» ⟨[.ref a, .ref b], []⟩)
      (fun A R s => s.heap.get? a = some { cls := .type "list", dict := da, data := .seq xs n, slots := sa } ∧ s.heap.get? b = some { cls := .type "list", dict := db, data := .seq ys m, slots := sb } ∧
        (∀ j (h1 : j < xs.size) (h2 : j < ys.size), EqIn P w A.in1 s xs[j] ys[j] (f j)) ∧ R (.ok (.ret (.bool (!(List.range xs.size).all f)))) s) := by
  intro A R s z
  obtain ⟨hp, g, d, tk, os⟩ := s
  obtain ⟨ha, hb, he, z⟩ := z
  have f3 := AutoSeq1.sub_list_list
  have hn : ¬ (xs.size != ys.size) = true := by simp [hz]
  wp_walk using wpAny_loadPart' ha, wpAny_loadPart' hb
  refine ⟨plainId_quiet plain_eq_loop _, codeAny_builtin entry_eq_loop ?_⟩
  rw [Around.under_plainId plain_eq_loop _]
  exact neLoop a b xs ys n m da db sa sb hz f _ 0 rfl A R _ ⟨ha, hb, he, by simpa using z⟩
theorem rcNe_lists {A : Around} {s : Shared} {E : Value → Shared → Prop} {a b : Addr} {xs ys : Array Value} {f : Nat → Bool} {Q : Value → Shared → Prop} (ha : s.heap.IsList a xs) (hb : s.heap.IsList b ys) (hz : xs.size = ys.size) (hu : A.units < cLine)
    (he : ∀ j (h1 : j < xs.size) (h2 : j < ys.size), EqIn P w A.in1 s xs[j] ys[j] (f j)) (q : Q (.bool (!(List.range xs.size).all f)) s) : wpAny (model P w) A (richCompare .NotEq (.ref a) (.ref b)) Q E s := by
  obtain ⟨⟨c1, dd, dt, sl⟩, ho, hc, n, hd⟩ := id ha
  obtain ⟨⟨c2, dd2, dt2, sl2⟩, ho2, hc2, n2, hd2⟩ := id hb
  simp only at hc hd hc2 hd2
  subst hc hd hc2 hd2
  have fin : Value.bool (!(List.range xs.size).all f) ≠ Value.notImplemented ∧ Q (.bool (!(List.range xs.size).all f)) s := ⟨(fun x => nomatch x), q⟩
  exact wpAny_richCompare_same_room (T := "list") (op := .NotEq) ⟨_, ho, rfl⟩ ⟨_, ho2, rfl⟩ F.slot_list_ne (call_meetsIn F.slot_list_ne ⟨_, ho, rfl⟩ F.entry_list_ne (F.args_list_ne_2 _ _) (listNe a b xs ys n n2 dd dd2 sl sl2 hz f) ⟨ho, ho2, he, fin⟩) hu
theorem rcNe_len {A : Around} {s : Shared} {E : Value → Shared → Prop} {a b : Addr} {xs ys : Array Value} {Q : Value → Shared → Prop} (ha : s.heap.IsList a xs) (hb : s.heap.IsList b ys) (hz : (xs.size != ys.size) = true) (hu : A.units < cLine)
    (q : Q (.bool true) s) : wpAny (model P w) A (richCompare .NotEq (.ref a) (.ref b)) Q E s := by
  obtain ⟨⟨c1, dd, dt, sl⟩, ho, hc, n, hd⟩ := id ha
  obtain ⟨⟨c2, dd2, dt2, sl2⟩, ho2, hc2, n2, hd2⟩ := id hb
  simp only at hc hd hc2 hd2
  subst hc hd hc2 hd2
  have fin : Value.bool true ≠ Value.notImplemented ∧ Q (.bool true) s := ⟨(fun x => nomatch x), q⟩
  exact wpAny_richCompare_same_room (T := "list") (op := .NotEq) ⟨_, ho, rfl⟩ ⟨_, ho2, rfl⟩ F.slot_list_ne (call_meets F.slot_list_ne ⟨_, ho, rfl⟩ F.entry_list_ne (F.args_list_ne_2 _ _) (list_ne_lengthsAt a b xs ys n n2 dd dd2 sl sl2 hz) ⟨ho, ho2, fin⟩) hu
end
section
variable {P : Program} {w : World} {κ : Type} [DecidableEq κ] {knd : KeyKind P w κ} {A : Around} {E : Value → Shared → Prop} {s : Shared}
theorem rcNe_dicts {a b : Addr} {ka kb : List (κ × Value)} {r : Bool} {Q : Value → Shared → Prop} (ha : (a == sysModules) = false) (hb : (b == sysModules) = false)
    (da : s.heap.DictOf knd a ka) (db : s.heap.DictOf knd b kb) (hu : A.units < cLine) (hits : ka.length = kb.length → PySem.W.KeqHitsIn P w A.in1 s kb ka r) (q : Q (.bool (!(ka.length == kb.length && r))) s) :
    wpAny (model P w) A (compareOp .NotEq (.ref a) (.ref b)) Q E s := by
  refine wpAny_richCompare_same_room (op := .NotEq) da.typeIs db.typeIs PySem.F.slot_dict_ne (wpAny_call_entry PySem.F.slot_dict_ne da.typeIs PySem.F.entry_dict_ne ?_ (PySem.F.args_dict_ne_2 _ _)) hu
  show wpAny _ _ (Builtin.Dict.dictSlotArgs "__ne__" ⟨[.ref a, .ref b], []⟩ >>= fun _ => _) _ _ s
  refine wpAny_bind ?_
  unfold Builtin.Dict.dictSlotArgs
  refine wpAny_bind (wpAny_notOrdered_dict da.typeIs ?_)
  show wpAny _ _ (pure (Value.ref a, Value.ref b)) (fun _ _ => _) _ s
  refine wpAny_pure ?_
  refine wpAny_bind (wpAny_isInstance (T := "dict") db.typeIs PySem.F.sub_dict_dict ?_)
  simp only [Bool.not_true, Bool.false_eq_true, if_false]
  refine wpAny_bind (wpAny_pure (wpAny_bind (wpAny_pure ?_)))
  refine wpAny_bind (PySem.W.keq_samePairsIn ha hb da db hits ?_)
  refine wpAny_pure ⟨_, rfl, (fun x => nomatch x), ?_⟩
  simpa using q
end
section
variable {X : Cx} {pins : List (Addr × Obj)} {σ : L2.St} {H : Hp} {s : Shared} {W : Wd} {μ : Mu}
def neOk : D → D → Bool
  | .hdl l, .hdl m => decide (l ≠ m)
  | .lst _, .lst _ => true
  | _, _ => false
theorem neM_in (I : Inv X pins σ H s) (ok : Ok X.K W H μ) (n : Nat) (A : Around) (d e : D) (b : Bool) (u v : V) (p q : Value) (hu : A.units + (n + 1) < cLine) (r1 : Rep X.K W u d) (r2 : Rep X.K W v e) (w1 : RelV u p) (w2 : RelV v q) (hn : neOk d e = true) (h : eqM (n + 1) μ d e = some b) : RcIn X.prog X.w .NotEq A s p q (!b) := by
  have hu0 : A.units < cLine := by omega
  have ih : ∀ x y c u v p q, Rep X.K W u x → Rep X.K W v y → RelV u p → RelV v q → eqM n μ x y = some c → EqIn X.prog X.w A.in1 s p q c := fun x y c u v p q a1 a2 a3 a4 a5 => (eqM_in I ok n A.in1 x y c u v p q (by show A.units + 1 + n < cLine; omega) a1 a2 a3 a4 a5).1
  have lists : ∀ {a a' : Addr} {xs ys : List D} {vs us : List V}, SqL X.K H a vs → SqL X.K H a' us → Reps X.K W vs xs → Reps X.K W us ys → eqL (eqM n μ) xs ys = some b → RcIn X.prog X.w .NotEq A s (.ref a) (.ref a') (!b) := fun {a a' xs ys vs us} h1 h2 q1 q2 h => by
    obtain ⟨its, v1, ht, _⟩ := I.list h1
    obtain ⟨its', v2, ht', _⟩ := I.list h2
    have z1 : its.toArray.size = xs.length := by rw [List.size_toArray, ← v1.length, q1.length]
    have z2 : its'.toArray.size = ys.length := by rw [List.size_toArray, ← v2.length, q2.length]
    have hv := eqL_val h
    intro E Q hq
    by_cases hl : xs.length = ys.length
    · refine rcNe_lists ht.isList ht'.isList (by rw [z1, z2]; exact hl) hu0 (items_eq q1 q2 v1 v2 h ih) ?_
      rw [hl, Nat.min_self, beq_self_eq_true, Bool.and_true] at hv
      rw [z1, hl, ← hv]
      exact hq
    · rw [show (xs.length == ys.length) = false from beq_eq_false_iff_ne.mpr hl, Bool.and_false] at hv
      rw [hv] at hq
      exact rcNe_len ht.isList ht'.isList (by rw [z1, z2]; simpa using hl) hu0 hq
  unfold neOk at hn
  split at hn
  · rename_i l m
    have hne : l ≠ m := of_decide_eq_true hn
    rcases eqM_cases h with ⟨k, e1, e2, _⟩ | ⟨l', m', e1, e2, _, h⟩ | hk
    · cases e1; cases e2; exact absurd rfl hne
    · cases e1
      cases e2
      cases r1 with
      | @hdl a _ h1 => cases r2 with
        | @hdl a' _ h2 =>
          cases w1
          cases w2
          unfold hdM at h
          split at h
          · rename_i ks xs ls ys m1 m2
            split at h
            · rename_i hl
              obtain ⟨o1, g1, vs, rfl, l1, q1⟩ := ok.cell l a _ h1 m1
              obtain ⟨o2, g2, us, rfl, l2, q2⟩ := ok.cell m a' _ h2 m2
              obtain ⟨_, ya, va, ra, da⟩ := (show ObjOk X.prog X.w H s.heap a (.dK (ks.zip vs)) from I.hok a _ g1)
              obtain ⟨_, yb, vb, rb, db⟩ := (show ObjOk X.prog X.w H s.heap a' (.dK (ls.zip us)) from I.hok a' _ g2)
              cases hd : dctEq (eqM n μ) ls ys ks xs with
              | none => rw [hd] at h; cases h
              | some c =>
                rw [hd] at h
                cases h
                have hz := hits_in q2 rb ih q1 ra hl.1 hd
                have e1 : va.length = ks.length := by rw [← ra.length, List.length_zip, ← l1, Nat.min_self]
                have e2 : vb.length = ls.length := by rw [← rb.length, List.length_zip, ← l2, Nat.min_self]
                intro E Q hq
                refine rcNe_dicts (knd := mixKind X.prog X.w) ya yb da db hu0 (fun _ => hz) ?_
                rw [e1, e2]
                exact hq
            · cases h
          · rename_i xs ys m1 m2
            obtain ⟨o1, g1, vs, rfl, q1⟩ := ok.cell l a _ h1 m1
            obtain ⟨o2, g2, us, rfl, q2⟩ := ok.cell m a' _ h2 m2
            exact lists (.inl (.inl g1)) (.inl (.inl g2)) q1 q2 h
          · cases h
    · simp [kdM, D.kd] at hk
  · rename_i xs ys
    rcases eqM_cases h with ⟨k, e1, _⟩ | ⟨l', m', e1, _⟩ | hk
    · cases e1
    · cases e1
    · cases r1 with
      | lst z1 h1 q1 => cases r2 with
        | lst z2 h2 q2 =>
          cases w1
          cases w2
          exact lists (same_lq ok.sub h1).sq (same_lq ok.sub h2).sq q1 q2 hk
  · cases hn
end
/-- one and the same cell on both sides -/
def oneCell : D → D → Bool
  | .hdl l, .hdl m => decide (l = m)
  | _, _ => false
def dEqM : D → D → Mu → R D := fun x y μ => if oneCell x y = true then .bad else R.of ((eqM 20 μ x y).map .bl) μ
def dNeM : D → D → Mu → R D := fun x y μ => if neOk x y = true then R.of ((eqM 20 μ x y).map fun b => .bl (!b)) μ else dNeX x y μ
section
variable {X : Cx} {E : WX}
theorem opx_eqM (hu : X.A.units + 64 < cLine) : OpX X E (compareOp .Eq) dEqM := by
  intro pins s σ H x y v u Q I rx ry q
  obtain ⟨E', W, μ, dx, dy, ok, r1, r2, p⟩ := q
  unfold dEqM at p
  split at p
  · exact p.elim
  · rename_i ho
    revert p
    cases h : eqM 20 μ dx dy with
    | none => exact fun p => p.elim
    | some b =>
      intro p
      have z := (eqM_in I ok 20 X.A dx dy b x y v u (by omega) r1 r2 rx ry h).2 (fun l => by
        by_cases e1 : dx = .hdl l
        · by_cases e2 : dy = .hdl l
          · subst e1
            subst e2
            simp [oneCell] at ho
          · exact .inr e2
        · exact .inl e1)
      exact z X.xe _ ⟨.bl b, H, I, rfl, post_pure ok p (.bl b)⟩
theorem opx_neM (hu : X.A.units + 64 < cLine) : OpX X E (compareOp .NotEq) dNeM := by
  intro pins s σ H x y v u Q I rx ry q
  obtain ⟨E', W, μ, dx, dy, ok, r1, r2, p⟩ := q
  unfold dNeM at p
  split at p
  · rename_i hn
    revert p
    cases h : eqM 20 μ dx dy with
    | none => exact fun p => p.elim
    | some b =>
      intro p
      exact neM_in I ok 19 X.A dx dy b x y v u (by omega) r1 r2 rx ry hn h X.xe _ ⟨.bl (!b), H, I, rfl, post_pure ok p (.bl _)⟩
  · exact opx_neX (E := E) hu pins s σ H x y v u Q I rx ry ⟨E', W, μ, dx, dy, ok, r1, r2, p⟩
end
end DL
/-! DL49: dict comprehensions. -/
namespace DL
open PySem L2 PySem.Spec PyProof.Rows
def dcD (t : Tg) (ft : FT) (fk fe : FE) (ρ : En) : List D → Mu → List Key × List D → R (List Key × List D)
  | [], μ, q => .ok q μ
  | x :: xs, μ, q => match asg t x ρ with
    | none => .bad
    | some ρ1 => (ft ρ1 μ).nox.bind fun b μ1 => if b = true then (fk ρ1 μ1).nox.bind fun k μ2 => (fe ρ1 μ2).nox.bind fun y μ3 => (match keyD k with
        | some j => dcD t ft fk fe ρ xs μ3 (putD q.1 q.2 j y)
        | none => .bad) else dcD t ft fk fe ρ xs μ1 q
def ddc (fi : FA) (vs : List Nat) (t : Tg) (ft : FT) (fk fe : FE) : FE := fun ρ μ => (fi ρ μ).bind fun xs μ1 => (dcD t ft fk fe (wipeD ρ vs) xs μ1 ([], [])).bind fun q μ2 => .ok (.hdl μ2.length) (μ2 ++ [.dct q.1 q.2])
/-- an object that stands outside becomes a cell -/
theorem okAdopt {K : PySem.W.Frag} {W : Wd} {H : Hp} {μ : Mu} {p : Addr} {m : MO} {o : HO} (ok : Ok K W H μ) (h : H p = some o) (h1 : W.S p = none) (h2 : p ∉ W.io) (c : CellO K W m o) : Ok K (W.cell p) H (μ ++ [m]) := by
  have le : Le W (W.cell p) := ⟨Same.refl _, List.prefix_append _ _⟩
  have get : ∀ (l : Nat) a k, (W.io ++ [p])[l]? = some a → (μ ++ [m])[l]? = some k → (W.io[l]? = some a ∧ μ[l]? = some k) ∨ (a = p ∧ k = m) := fun l a k e1 e2 => by
    by_cases hl : l < W.io.length
    · rw [List.getElem?_append_left hl] at e1
      rw [List.getElem?_append_left (by rw [← ok.len]; exact hl)] at e2
      exact .inl ⟨e1, e2⟩
    · rw [List.getElem?_append_right (by omega)] at e1
      rw [List.getElem?_append_right (by rw [← ok.len]; omega), ← ok.len] at e2
      cases hz : l - W.io.length with
      | zero =>
        rw [hz] at e1 e2
        simp at e1 e2
        exact .inr ⟨e1.symm, e2.symm⟩
      | succ n =>
        rw [hz] at e1
        simp at e1
  refine ⟨ok.sub, by simp [Wd.cell, ok.len], ?_, fun l a k e1 e2 n => ?_, fun l a k e1 e2 => ?_⟩
  · show (W.io ++ [p]).Nodup
    rw [List.nodup_append]
    exact ⟨ok.nd, by simp, fun x hx y hy z => h2 (by
      have e : y = p := by simpa using hy
      rw [← e, ← z]; exact hx)⟩
  · show W.S a = none
    rcases get l a k e1 e2 with ⟨e1, e2⟩ | ⟨rfl, rfl⟩
    · exact ok.apart l a k e1 e2 n
    · exact h1
  · rcases get l a k e1 e2 with ⟨e1, e2⟩ | ⟨rfl, rfl⟩
    · exact (ok.cell l a k e1 e2).mono le fun u e => e
    · exact ⟨o, h, c.mono le⟩
section
variable {X : Cx} {E : WX} {pos : Pos}
theorem tDc_of {fi : FA} {vs : List Nat} {t : Tg} {ft : FT} {fk fe : FE} (hsub : ∀ i ∈ t.slots, i ∈ vs) : ∀ σ H Q, rE X.K E (ddc fi vs t ft fk fe) σ H Q → tDc (rI X.K E fi) (rG X.K t) (rT X.K E0 ft) (rE X.K E0 fk) (rE X.K E0 fe) vs σ H Q := fun σ H Q ⟨W, ρ, μ, ok, en, p⟩ => by
  refine ⟨W, ρ, μ, ok, en, ?_⟩
  unfold ddc at p
  revert p
  cases fi ρ μ with
  | ex c fs μ1 => exact fun p => p
  | bad => exact fun p => p
  | ok xs μ1 =>
    rw [R.bind_ok]
    intro p W1 J H1 g1 o1 wk Dn hD
    have hz := wk.len
    have en1 := (en.mono g1.le).wipe vs
    refine ⟨fun i m H2 => m = xs.length - i ∧ i ≤ xs.length ∧ ∃ W2 μ2 ks acc ds, Go W1 H1 W2 H2 ∧ Ok X.K W2 H2 μ2 ∧ H2 Dn = some (.dK (ks.zip acc)) ∧ Dn ∉ W2.io ∧ W2.S Dn = none ∧ Reps X.K W2 acc ds ∧ ks.Nodup ∧ ks.length = acc.length ∧ acc.length ≤ i ∧ postE X.K (WE E σ) W1 H1 ((dcD t ft fk fe (wipeD ρ vs) (xs.drop i) μ2 (ks, ds)).bind fun q μ3 => .ok (.hdl μ3.length) (μ3 ++ [.dct q.1 q.2])) Q,
      ⟨xs.length, by simp, Nat.zero_le _, W1, μ1, [], [], [], (Go.refl _ _).other hD, o1.other (o1.snone hD) (o1.notio hD), upd_same, o1.notio hD, o1.snone hD, .nil, List.nodup_nil, rfl, Nat.le_refl _, ?_⟩, ?_⟩
    · exact post.mono g1 p
    rintro i m H2 ⟨rfl, hi, W2, μ2, ks, acc, ds, g2, o2, hacc, n2, s2, r2, nd2, kl2, l2, p2⟩
    have sm : Same W1.S H2 := g2.le.s.trans o2.sub
    by_cases hlt : i < xs.length
    · rw [List.drop_eq_getElem_cons hlt] at p2
      unfold dcD at p2
      refine .inr ⟨wk.go H2 i sm hlt, fun H3 => ∃ W3 μ3 ks acc ds, Go W1 H1 W3 H3 ∧ Ok X.K W3 H3 μ3 ∧ H3 Dn = some (.dK (ks.zip acc)) ∧ Dn ∉ W3.io ∧ W3.S Dn = none ∧ Reps X.K W3 acc ds ∧ ks.Nodup ∧ ks.length = acc.length ∧ acc.length ≤ i + 1 ∧ postE X.K (WE E σ) W1 H1 ((dcD t ft fk fe (wipeD ρ vs) (xs.drop (i + 1)) μ3 (ks, ds)).bind fun q μ3 => .ok (.hdl μ3.length) (μ3 ++ [.dct q.1 q.2])) Q,
        fun H3 ⟨W3, μ3, ks, acc, ds, q⟩ => ⟨xs.length - (i + 1), by omega, rfl, hlt, W3, μ3, ks, acc, ds, q⟩, fun x H3 y => ?_⟩
      obtain ⟨W3, g3, o3, r3⟩ := wk.yld H2 i x H3 sm y xs[i] (List.getElem?_eq_getElem hlt) W2 μ2 g2.le o2
      obtain ⟨a3, s3, n3⟩ := g3.out hacc s2 n2
      revert p2
      cases e : asg t xs[i] (wipeD ρ vs) with
      | none => exact fun p => p.elim
      | some ρ3 =>
        dsimp only
        intro p2
        refine ⟨W3, wipeD ρ vs, ρ3, xs[i], μ2, o3, en1.mono (g2.le.trans g3.le), r3, e, fun σ4 en4 b4 => ⟨wipe_but hsub b4, ?_⟩⟩
        refine ⟨W3, ρ3, μ2, o3, en4, ?_⟩
        revert p2
        cases ft ρ3 μ2 with
        | ex c fs μ4 => exact fun p => p.elim
        | bad => exact fun p => p.elim
        | ok b μ4 =>
          rw [R.nox_ok, R.bind_ok]
          intro p2 W4 H4 g4 o4
          obtain ⟨a4, s4, n4⟩ := g4.out a3 s3 n3
          cases b with
          | false =>
            rw [if_neg Bool.false_ne_true] at p2 ⊢
            exact ⟨W4, μ4, ks, acc, ds, (g2.trans g3).trans g4, o4, a4, n4, s4, r2.mono (g3.le.trans g4.le), nd2, kl2, by omega, p2⟩
          | true =>
            rw [if_pos rfl] at p2 ⊢
            refine ⟨W4, ρ3, μ4, o4, en4.mono g4.le, ?_⟩
            revert p2
            cases fk ρ3 μ4 with
            | ex c fs μ5 => exact fun p => p.elim
            | bad => exact fun p => p.elim
            | ok kd μ5 =>
              rw [R.nox_ok, R.bind_ok]
              intro p2 W5 kv H5 g5 o5 r5
              obtain ⟨a5, s5, n5⟩ := g5.out a4 s4 n4
              refine ⟨W5, ρ3, μ5, o5, (en4.mono g4.le).mono g5.le, ?_⟩
              revert p2
              cases fe ρ3 μ5 with
              | ex c fs μ6 => exact fun p => p.elim
              | bad => exact fun p => p.elim
              | ok yd μ6 =>
                rw [R.nox_ok, R.bind_ok]
                cases hk : keyD kd with
                | none => exact fun p => p.elim
                | some j =>
                  dsimp only
                  intro p2 W6 yv H6 g6 o6 r6
                  obtain ⟨a6, s6, n6⟩ := g6.out a5 s5 n5
                  have ek := key_rep r5 hk
                  have dl : ks.length = ds.length := by rw [kl2, r2.length]
                  obtain ⟨pz, pl⟩ := put_zip (j := j) (d := yd) (v := yv) (xs := ds) nd2 kl2 dl
                  have rr := putVs_reps (j := j) r6 kl2 (r2.mono (((g3.le.trans g4.le).trans g5.le).trans g6.le))
                  have lp := length_putK (ks.zip acc) j yv
                  have lz : (ks.zip acc).length = acc.length := by rw [List.length_zip, kl2, Nat.min_self]
                  refine ⟨_, j, ek, a6, ?_, W6, μ6, (putD ks ds j yd).1, putVs ks acc j yv, (putD ks ds j yd).2, ((((g2.trans g3).trans g4).trans g5).trans g6).other hD, o6.other s6 n6, by rw [← pz]; exact upd_same, n6, s6, rr, putD_nodup nd2, pl, ?_, p2⟩
                  · rw [lz]; omega
                  · rw [pz, List.length_zip, pl, Nat.min_self] at lp
                    omega
    · have ei : i = xs.length := by omega
      subst ei
      rw [List.drop_length] at p2
      unfold dcD at p2
      rw [R.bind_ok] at p2
      refine .inl ⟨wk.stop H2 _ sm (Nat.le_refl _), ?_⟩
      have ok3 := okAdopt (m := .dct ks ds) o2 hacc s2 n2 ⟨acc, rfl, kl2, r2⟩
      refine p2 (W2.cell Dn) (.ref Dn) H2 ⟨g2.le.trans ⟨Same.refl _, List.prefix_append _ _⟩, g2.kept, g2.grow, fun a e => ?_, g2.newS⟩ ok3 (.hdl ?_)
      · have e : a ∈ W2.io ++ [Dn] := e
        rcases List.mem_append.mp e with e | e
        · exact g2.newio a e
        · have e : a = Dn := by simpa using e
          rw [e]; exact .inr hD
      · show (W2.io ++ [Dn])[μ2.length]? = some Dn
        rw [← o2.len]
        simp
theorem de_dc {kx vx tg iter : Expr} {ifs : List Expr} {scope : Scope} {fi : FA} {t : Tg} {ft : FT} {fk fe : FE} (own : List (Str × Nat)) (hc : X.calm = true) (hN : X.N.Nodup) (hi : DI X E tg iter fi) (ok : BlkOk X.N X.env.scope scope own)
    (hg : ∀ (s : Shared) (H : Hp) (C : Addr) (cl : List (Str × Addr)) (fp : List Addr), DG (X.blk s H scope (compEnvC scope cl C X.env) fp) tg t) (ht : ∀ (s : Shared) (H : Hp) (C : Addr) (cl : List (Str × Addr)) (fp : List Addr), DTs (X.blk s H scope (compEnvC scope cl C X.env) fp) ifs ft)
    (hk : ∀ (s : Shared) (H : Hp) (C : Addr) (cl : List (Str × Addr)) (fp : List Addr), DE (X.blk s H scope (compEnvC scope cl C X.env) fp) E0 kx fk)
    (he : ∀ (s : Shared) (H : Hp) (C : Addr) (cl : List (Str × Addr)) (fp : List Addr), DE (X.blk s H scope (compEnvC scope cl C X.env) fp) E0 vx fe) (hsub : ∀ i ∈ t.slots, i ∈ own.map (·.2) := by decide) (hs : ∀ x, foldedSetIterable iter X.env x = pure x := by intro _; rfl) :
    DE X E (.DictComp kx vx [⟨tg, iter, ifs, 0⟩] scope pos) (ddc fi (own.map (·.2)) t ft fk fe) := pe_imp (pe_dc (tk := rE X.K E0 fk) (tv := rE X.K E0 fe) (g := rG X.K t) (tt := rT X.K E0 ft) hc hN hi ok hg ht hk he hs) (tDc_of hsub)
end
end DL
/-! DL50: walks over d.items(), the dict locked meanwhile. -/
namespace DL
open PySem L2 PySem.Spec PyProof.Rows
section
variable {K : PySem.W.Frag} {W W2 : Wd} {H H2 : Hp} {μ μ2 : Mu} {a : Addr} {l : Nat} {m : MO} {od : Obj} {u : HO}
theorem lock_ok (ok : Ok K W H μ) (h1 : W.io[l]? = some a) (h2 : μ[l]? = some m) (hg : m ≠ .gone) : Ok K (W.new a (.frz od u)) (upd H a (.frz od u)) (μ.set l .gone) ∧ Le W (W.new a (.frz od u)) := by
  have ha : W.S a = none := ok.apart l a m h1 h2 hg
  have le : Le W (W.new a (.frz od u)) := ⟨same_new ha, List.prefix_refl _⟩
  refine ⟨⟨fun b x e => ?_, by rw [List.length_set]; exact ok.len, ok.nd, fun l2 b k e1 e2 n => ?_, fun l2 b k e1 e2 => ?_⟩, le⟩
  · have e : upd W.S a (.frz od u) b = some x := e
    by_cases z : b = a
    · rw [z] at e ⊢
      rw [upd_same] at e ⊢
      exact e
    · rw [upd_ne z] at e ⊢
      exact ok.sub _ _ e
  · show upd W.S a (.frz od u) b = none
    by_cases z : l2 = l
    · subst z
      rw [List.getElem?_set_self (List.getElem?_eq_some_iff.mp h2).1] at e2
      cases e2
      exact absurd rfl n
    · rw [List.getElem?_set_ne (Ne.symm z)] at e2
      rw [upd_ne (ok.io_ne h1 e1 z)]
      exact ok.apart l2 b k e1 e2 n
  · by_cases z : l2 = l
    · subst z
      rw [List.getElem?_set_self (List.getElem?_eq_some_iff.mp h2).1] at e2
      cases e2
      have e1 : W.io[l2]? = some b := e1
      rw [h1] at e1
      cases e1
      exact ⟨_, upd_same, fun fs z => nomatch z⟩
    · rw [List.getElem?_set_ne (Ne.symm z)] at e2
      exact (ok.cell l2 b k e1 e2).mono le fun x e => by
        rw [upd_ne (ok.io_ne h1 e1 z)]
        exact e
/-- what is locked is no list, no tuple, no object -/
def Aside (u : HO) : Prop := (∀ xs, u ≠ .lst xs) ∧ ∀ xs, u ≠ .tup xs
def Wd.less (W : Wd) (a : Addr) : Wd := ⟨del W.S a, W.io⟩
theorem less_rd {b : Addr} {x : HO} (h : W.S a = some (.frz od u)) (hx : x ≠ u) (hx2 : x ≠ .frz od u) (r : Rd W.S b x) : Rd (W.less a).S b x := by
  have ne : b ≠ a := fun z => by
    subst z
    rcases r with r | ⟨o, r⟩
    · rw [h] at r; cases r; exact hx2 rfl
    · rw [h] at r; cases r; exact hx rfl
  rcases r with r | ⟨o, r⟩
  · exact .inl (by show del W.S a b = _; rw [del_ne ne]; exact r)
  · exact .inr ⟨o, by show del W.S a b = _; rw [del_ne ne]; exact r⟩
theorem less_sqt {b : Addr} {xs : List V} (h : W.S a = some (.frz od u)) (hn : Aside u) (r : SqT K W.S b xs) : SqT K (W.less a).S b xs := by
  rcases r with r | r
  · exact .inl (less_rd h (fun z => hn.2 xs z.symm) (fun z => nomatch z) r)
  · exact .inr r
theorem less_lq {b : Addr} {xs : List V} (h : W.S a = some (.frz od u)) (hn : Aside u) (r : Lq K W.S b xs) : Lq K (W.less a).S b xs := by
  rcases r with r | r
  · exact .inl (less_rd h (fun z => hn.1 xs z.symm) (fun z => nomatch z) r)
  · exact .inr r
mutual
theorem Rep.less (h : W.S a = some (.frz od u)) (hn : Aside u) : ∀ {v : V} {d : D}, Rep K W v d → Rep K (W.less a) v d
  | _, _, .non => .non
  | _, _, .bl b => .bl b
  | _, _, .int i => .int i
  | _, _, .str x z => .str x z
  | _, _, .tup z q r => .tup z (less_sqt h hn q) (Reps.less h hn r)
  | _, _, .lst z q r => .lst z (less_lq h hn q) (Reps.less h hn r)
  | _, _, .hdl q => .hdl q
  | _, _, .cst v => .cst v
  | _, _, .glo c => .glo c
  | _, _, .obj q n r => .obj (by
      show del W.S a _ = _
      rw [del_ne (fun z => by rw [z, h] at q; cases q)]
      exact q) n (Reps.less h hn r)
theorem Reps.less (h : W.S a = some (.frz od u)) (hn : Aside u) : ∀ {vs : List V} {ds : List D}, Reps K W vs ds → Reps K (W.less a) vs ds
  | _, _, .nil => .nil
  | _, _, .cons r t => .cons (Rep.less h hn r) (Reps.less h hn t)
end
theorem CellO.less (h : W.S a = some (.frz od u)) (hn : Aside u) : ∀ {m : MO} {o : HO}, CellO K W m o → CellO K (W.less a) m o
  | .lst ds, _, ⟨vs, e, r⟩ => ⟨vs, e, r.less h hn⟩
  | .dct ks ds, _, ⟨vs, e, n, r⟩ => ⟨vs, e, n, r.less h hn⟩
  | .dtt ks ds, _, ⟨vs, e, n, r⟩ => ⟨vs, e, n, r.less h hn⟩
  | .ins C ns ds, _, ⟨dx, vs, e, n, r⟩ => ⟨dx, vs, e, n, r.less h hn⟩
  | .gone, _, h => h
theorem unlock_ok (ok : Ok K W H μ) (h1 : W.io[l]? = some a) (h2 : μ[l]? = some m) (hg : m ≠ .gone) (hu : H a = some u) (hn : Aside u) (c : CellO K W m u) (g : Go (W.new a (.frz od u)) (upd H a (.frz od u)) W2 H2) (ok2 : Ok K W2 H2 μ2) :
    H2 a = some (.frz od u) ∧ W2.S a = some (.frz od u) ∧ Ok K (W2.less a) (upd H2 a u) (μ2.set l m) ∧ Go W H (W2.less a) (upd H2 a u) := by
  have ha : W.S a = none := ok.apart l a m h1 h2 hg
  have hm : a ∈ W.io := List.mem_of_getElem? h1
  have hS : W2.S a = some (.frz od u) := g.le.s a _ (show upd W.S a (.frz od u) a = _ from upd_same)
  have hH : H2 a = some (.frz od u) := ok2.sub a _ hS
  have i2 : W2.io[l]? = some a := prefix_get g.le.io h1
  have l2 : l < μ2.length := by rw [← ok2.len]; exact (List.getElem?_eq_some_iff.mp i2).1
  have leW : Le W (W.new a (.frz od u)) := ⟨same_new ha, List.prefix_refl _⟩
  have c2 : CellO K (W2.less a) m u := (c.mono (leW.trans g.le)).less hS hn
  have le3 : Le W (W2.less a) := ⟨fun b x e => by
    show del W2.S a b = _
    rw [del_ne (ne_of_none e ha)]
    exact (leW.trans g.le).s b x e, g.le.io⟩
  refine ⟨hH, hS, ⟨fun b x e => ?_, by rw [List.length_set]; exact ok2.len, ok2.nd, fun k b y e1 e2 n => ?_, fun k b y e1 e2 => ?_⟩, ⟨le3, fun b x e n => ?_, fun b e => ?_, fun b e => ?_, fun b x e => ?_⟩⟩
  · have e : del W2.S a b = some x := e
    have z : b ≠ a := fun z => by rw [z, del_same] at e; cases e
    rw [del_ne z] at e
    rw [upd_ne z]
    exact ok2.sub b x e
  · show del W2.S a b = none
    by_cases z : b = a
    · rw [z, del_same]
    · have zl : k ≠ l := fun q => z (by
        subst q
        have e1 : W2.io[k]? = some b := e1
        rw [i2] at e1
        cases e1
        rfl)
      rw [List.getElem?_set_ne (Ne.symm zl)] at e2
      rw [del_ne z]
      exact ok2.apart k b y e1 e2 n
  · by_cases zl : k = l
    · subst zl
      have e1 : W2.io[k]? = some b := e1
      rw [i2] at e1
      cases e1
      rw [List.getElem?_set_self l2] at e2
      cases e2
      exact ⟨u, upd_same, c2⟩
    · rw [List.getElem?_set_ne (Ne.symm zl)] at e2
      obtain ⟨o, ho, co⟩ := ok2.cell k b y e1 e2
      have z : b ≠ a := ok2.io_ne i2 e1 zl
      exact ⟨o, by rw [upd_ne z]; exact ho, co.less hS hn⟩
  · have z : b ≠ a := fun z => n (by rw [z]; exact hm)
    rw [upd_ne z]
    exact g.kept b x (by rw [upd_ne z]; exact e) n
  · by_cases z : b = a
    · rw [z, upd_same] at e
      cases e
    · rw [upd_ne z] at e
      have q := g.grow b e
      rw [upd_ne z] at q
      exact q
  · rcases g.newio b e with q | q
    · exact .inl q
    · by_cases z : b = a
      · rw [z]; exact .inl hm
      · rw [upd_ne z] at q
        exact .inr q
  · have e : del W2.S a b = some x := e
    have z : b ≠ a := fun z => by rw [z, del_same] at e; cases e
    rw [del_ne z] at e
    rcases g.newS b x e with q | q | q
    · have q : upd W.S a (.frz od u) b = some x := q
      rw [upd_ne z] at q
      exact .inl q
    · rw [upd_ne z] at q
      exact .inr (.inl q)
    · exact .inr (.inr q)
end
/-- a key as a datum -/
def kD : Key → D
  | .inl i => .int i
  | .inr x => .str x
def keyOk : Key → Bool
  | .inl _ => true
  | .inr x => decide (x.length ≤ 1000000)
theorem kD_rep {K : PySem.W.Frag} {W : Wd} {k : Key} (h : keyOk k = true) : Rep K W (kV k) (kD k) := by
  cases k with
  | inl i => exact .int i
  | inr x => exact .str x (le_line (of_decide_eq_true h))
def pairsD : List Key → List D → List D
  | k :: ks, x :: xs => .tup [kD k, x] :: pairsD ks xs
  | _, _ => []
theorem pairsD_len : ∀ {ks : List Key} {xs : List D}, ks.length = xs.length → (pairsD ks xs).length = ks.length
  | [], [], _ => rfl
  | _ :: _, _ :: _, h => by rw [pairsD, List.length_cons, List.length_cons, pairsD_len (by simpa using h)]
theorem pairsD_get : ∀ {ks : List Key} {xs : List D} {i : Nat} {d : D}, (pairsD ks xs)[i]? = some d → ∃ k x, ks[i]? = some k ∧ xs[i]? = some x ∧ d = .tup [kD k, x]
  | [], _, _, _, h => by simp [pairsD] at h
  | _ :: _, [], _, _, h => by simp [pairsD] at h
  | k :: ks, x :: xs, 0, d, h => by
    simp [pairsD] at h
    exact ⟨k, x, rfl, rfl, h.symm⟩
  | k :: ks, x :: xs, i + 1, d, h => by
    obtain ⟨k', x', e1, e2, e3⟩ := pairsD_get (ks := ks) (xs := xs) (i := i) (d := d) (by simpa [pairsD] using h)
    exact ⟨k', x', by simpa using e1, by simpa using e2, e3⟩
theorem zip_get {ks : List Key} {vs : List V} {i : Nat} {k : Key} {v : V} (h1 : ks[i]? = some k) (h2 : vs[i]? = some v) : (ks.zip vs)[i]? = some (k, v) := by
  rw [List.getElem?_zip_eq_some]
  exact ⟨h1, h2⟩
/-- may be walked -/
def walkable (ks : List Key) (xs : List D) : Bool := decide (ks.length = xs.length) && (decide (ks.length ≤ 1000000) && ks.all keyOk)
theorem walk_items {K : PySem.W.Frag} {W : Wd} {a : Addr} {od : Obj} {ks : List Key} {vs : List V} {xs : List D} (h : W.S a = some (.frz od (.dK (ks.zip vs)))) (hl : ks.length = vs.length) (r : Reps K W vs xs) (hw : walkable ks xs = true) : Walk K W (Iti a od (ks.zip vs)) (pairsD ks xs) := by
  unfold walkable at hw
  simp only [Bool.and_eq_true, decide_eq_true_eq] at hw
  obtain ⟨w1, w2, w3⟩ := hw
  have zl : (ks.zip vs).length = ks.length := by rw [List.length_zip, hl, Nat.min_self]
  have pl := pairsD_len w1
  refine ⟨by rw [pl]; exact le_line w2, fun H i s hi => ⟨s _ _ h, by rw [zl]; rw [pl] at hi; exact hi⟩, fun H i s hi => ⟨s _ _ h, by rw [zl]; rw [pl] at hi; exact hi⟩, fun H i x H' s y d e W1 μ l1 ok => ?_⟩
  obtain ⟨T, k, v, e1, rfl, hT, rfl⟩ := y
  obtain ⟨k', x', e2, e3, rfl⟩ := pairsD_get e
  obtain ⟨v', e4, r4⟩ := r.get e3
  have e5 := zip_get e2 e4
  rw [e1] at e5
  cases e5
  have hk : keyOk k = true := List.all_eq_true.mp w3 k (List.mem_of_getElem? e2)
  exact ⟨W1.new T (.tup [kV k, v]), Go.new ok hT, ok.new hT, rep_tup ok hT (by show 2 ≤ sizeLine; decide) (.cons (kD_rep hk) (.cons (r4.mono l1) .nil))⟩
end DL
/-! DL51: comprehensions and for over a dict that is locked meanwhile. -/
namespace DL
open PySem L2 PySem.Spec PyProof.Rows
section
variable {X : Cx} {E : WX} {pos : Pos}
abbrev here (J : It) : TI := fun _ H R => R J H
abbrev bDc (g : TG) (tt : TT) (tk tv : TE) (vs : List Nat) : L2.St → It → Hp → VK → Prop := fun σ J H1 Q => tDc (here J) g tt tk tv vs σ H1 Q
abbrev bLc (g : TG) (tt : TT) (te : TE) (vs : List Nat) : L2.St → It → Hp → VK → Prop := fun σ J H1 Q => tLc (here J) g tt te vs σ H1 Q
abbrev bFor (g : TG) (tb : TS) : Ends → L2.St → It → Hp → Prop := fun D σ J H1 => tFor (here J) g tb D σ H1
theorem dc_run {vs : List Nat} {t : Tg} {ft : FT} {fk fe : FE} (hsub : ∀ i ∈ t.slots, i ∈ vs) {σ : L2.St} {W1 : Wd} {H1 : Hp} {μ1 : Mu} {ρ : En} {J : It} {xs : List D} {Q : VK} {E' : XK} (o1 : Ok X.K W1 H1 μ1) (en : Envs X.K W1 σ ρ) (wk : Walk X.K W1 J xs)
    (p : postE X.K E' W1 H1 ((dcD t ft fk fe (wipeD ρ vs) xs μ1 ([], [])).bind fun q μ2 => .ok (.hdl μ2.length) (μ2 ++ [.dct q.1 q.2])) Q) : bDc (rG X.K t) (rT X.K E0 ft) (rE X.K E0 fk) (rE X.K E0 fe) vs σ J H1 Q := by
  intro Dn hD
  have hz := wk.len
  have en1 := en.wipe vs
  refine ⟨fun i m H2 => m = xs.length - i ∧ i ≤ xs.length ∧ ∃ W2 μ2 ks acc ds, Go W1 H1 W2 H2 ∧ Ok X.K W2 H2 μ2 ∧ H2 Dn = some (.dK (ks.zip acc)) ∧ Dn ∉ W2.io ∧ W2.S Dn = none ∧ Reps X.K W2 acc ds ∧ ks.Nodup ∧ ks.length = acc.length ∧ acc.length ≤ i ∧ postE X.K E' W1 H1 ((dcD t ft fk fe (wipeD ρ vs) (xs.drop i) μ2 (ks, ds)).bind fun q μ3 => .ok (.hdl μ3.length) (μ3 ++ [.dct q.1 q.2])) Q,
    ⟨xs.length, by simp, Nat.zero_le _, W1, μ1, [], [], [], (Go.refl _ _).other hD, o1.other (o1.snone hD) (o1.notio hD), upd_same, o1.notio hD, o1.snone hD, .nil, List.nodup_nil, rfl, Nat.le_refl _, ?_⟩, ?_⟩
  · exact p
  rintro i m H2 ⟨rfl, hi, W2, μ2, ks, acc, ds, g2, o2, hacc, n2, s2, r2, nd2, kl2, l2, p2⟩
  have sm : Same W1.S H2 := g2.le.s.trans o2.sub
  by_cases hlt : i < xs.length
  · rw [List.drop_eq_getElem_cons hlt] at p2
    unfold dcD at p2
    refine .inr ⟨wk.go H2 i sm hlt, fun H3 => ∃ W3 μ3 ks acc ds, Go W1 H1 W3 H3 ∧ Ok X.K W3 H3 μ3 ∧ H3 Dn = some (.dK (ks.zip acc)) ∧ Dn ∉ W3.io ∧ W3.S Dn = none ∧ Reps X.K W3 acc ds ∧ ks.Nodup ∧ ks.length = acc.length ∧ acc.length ≤ i + 1 ∧ postE X.K E' W1 H1 ((dcD t ft fk fe (wipeD ρ vs) (xs.drop (i + 1)) μ3 (ks, ds)).bind fun q μ3 => .ok (.hdl μ3.length) (μ3 ++ [.dct q.1 q.2])) Q,
      fun H3 ⟨W3, μ3, ks, acc, ds, q⟩ => ⟨xs.length - (i + 1), by omega, rfl, hlt, W3, μ3, ks, acc, ds, q⟩, fun x H3 y => ?_⟩
    obtain ⟨W3, g3, o3, r3⟩ := wk.yld H2 i x H3 sm y xs[i] (List.getElem?_eq_getElem hlt) W2 μ2 g2.le o2
    obtain ⟨a3, s3, n3⟩ := g3.out hacc s2 n2
    revert p2
    cases e : asg t xs[i] (wipeD ρ vs) with
    | none => exact fun p => p.elim
    | some ρ3 =>
      dsimp only
      intro p2
      refine ⟨W3, wipeD ρ vs, ρ3, xs[i], μ2, o3, en1.mono (g2.le.trans g3.le), r3, e, fun σ4 en4 b4 => ⟨wipe_but hsub b4, ?_⟩⟩
      refine ⟨W3, ρ3, μ2, o3, en4, ?_⟩
      revert p2
      cases ft ρ3 μ2 with
      | ex c fs μ4 => exact fun p => p.elim
      | bad => exact fun p => p.elim
      | ok b μ4 =>
        rw [R.nox_ok, R.bind_ok]
        intro p2 W4 H4 g4 o4
        obtain ⟨a4, s4, n4⟩ := g4.out a3 s3 n3
        cases b with
        | false =>
          rw [if_neg Bool.false_ne_true] at p2 ⊢
          exact ⟨W4, μ4, ks, acc, ds, (g2.trans g3).trans g4, o4, a4, n4, s4, r2.mono (g3.le.trans g4.le), nd2, kl2, by omega, p2⟩
        | true =>
          rw [if_pos rfl] at p2 ⊢
          refine ⟨W4, ρ3, μ4, o4, en4.mono g4.le, ?_⟩
          revert p2
          cases fk ρ3 μ4 with
          | ex c fs μ5 => exact fun p => p.elim
          | bad => exact fun p => p.elim
          | ok kd μ5 =>
            rw [R.nox_ok, R.bind_ok]
            intro p2 W5 kv H5 g5 o5 r5
            obtain ⟨a5, s5, n5⟩ := g5.out a4 s4 n4
            refine ⟨W5, ρ3, μ5, o5, (en4.mono g4.le).mono g5.le, ?_⟩
            revert p2
            cases fe ρ3 μ5 with
            | ex c fs μ6 => exact fun p => p.elim
            | bad => exact fun p => p.elim
            | ok yd μ6 =>
              rw [R.nox_ok, R.bind_ok]
              cases hk : keyD kd with
              | none => exact fun p => p.elim
              | some j =>
                dsimp only
                intro p2 W6 yv H6 g6 o6 r6
                obtain ⟨a6, s6, n6⟩ := g6.out a5 s5 n5
                have ek := key_rep r5 hk
                have dl : ks.length = ds.length := by rw [kl2, r2.length]
                obtain ⟨pz, pl⟩ := put_zip (j := j) (d := yd) (v := yv) (xs := ds) nd2 kl2 dl
                have rr := putVs_reps (j := j) r6 kl2 (r2.mono (((g3.le.trans g4.le).trans g5.le).trans g6.le))
                have lp := length_putK (ks.zip acc) j yv
                have lz : (ks.zip acc).length = acc.length := by rw [List.length_zip, kl2, Nat.min_self]
                refine ⟨_, j, ek, a6, ?_, W6, μ6, (putD ks ds j yd).1, putVs ks acc j yv, (putD ks ds j yd).2, ((((g2.trans g3).trans g4).trans g5).trans g6).other hD, o6.other s6 n6, by rw [← pz]; exact upd_same, n6, s6, rr, putD_nodup nd2, pl, ?_, p2⟩
                · rw [lz]; omega
                · rw [pz, List.length_zip, pl, Nat.min_self] at lp
                  omega
  · have ei : i = xs.length := by omega
    subst ei
    rw [List.drop_length] at p2
    unfold dcD at p2
    rw [R.bind_ok] at p2
    refine .inl ⟨wk.stop H2 _ sm (Nat.le_refl _), ?_⟩
    have ok3 := okAdopt (m := .dct ks ds) o2 hacc s2 n2 ⟨acc, rfl, kl2, r2⟩
    refine p2 (W2.cell Dn) (.ref Dn) H2 ⟨g2.le.trans ⟨Same.refl _, List.prefix_append _ _⟩, g2.kept, g2.grow, fun a e => ?_, g2.newS⟩ ok3 (.hdl ?_)
    · have e : a ∈ W2.io ++ [Dn] := e
      rcases List.mem_append.mp e with e | e
      · exact g2.newio a e
      · have e : a = Dn := by simpa using e
        rw [e]; exact .inr hD
    · show (W2.io ++ [Dn])[μ2.length]? = some Dn
      rw [← o2.len]
      simp
theorem lc_run {vs : List Nat} {t : Tg} {ft : FT} {fe : FE} (hsub : ∀ i ∈ t.slots, i ∈ vs) {σ : L2.St} {W1 : Wd} {H1 : Hp} {μ1 : Mu} {ρ : En} {J : It} {xs : List D} {Q : VK} {E' : XK} (o1 : Ok X.K W1 H1 μ1) (en : Envs X.K W1 σ ρ) (wk : Walk X.K W1 J xs)
    (p : postE X.K E' W1 H1 ((lcD t ft fe (wipeD ρ vs) xs μ1).bind fun ys μ2 => .ok (.lst ys) μ2) Q) : bLc (rG X.K t) (rT X.K E0 ft) (rE X.K E0 fe) vs σ J H1 Q := by
  intro Dn hD
  have hz := wk.len
  have en1 := en.wipe vs
  refine ⟨fun i m H2 => m = xs.length - i ∧ i ≤ xs.length ∧ ∃ W2 μ2 acc ds, Go W1 H1 W2 H2 ∧ Ok X.K W2 H2 μ2 ∧ H2 Dn = some (.lst acc) ∧ Dn ∉ W2.io ∧ W2.S Dn = none ∧ Reps X.K W2 acc ds ∧ acc.length ≤ i ∧ postE X.K E' W1 H1 ((lcD t ft fe (wipeD ρ vs) (xs.drop i) μ2).bind fun ys μ3 => .ok (.lst (ds ++ ys)) μ3) Q,
    ⟨xs.length, by simp, Nat.zero_le _, W1, μ1, [], [], (Go.refl _ _).other hD, o1.other (o1.snone hD) (o1.notio hD), upd_same, o1.notio hD, o1.snone hD, .nil, Nat.le_refl _, ?_⟩, ?_⟩
  · exact p
  rintro i m H2 ⟨rfl, hi, W2, μ2, acc, ds, g2, o2, hacc, n2, s2, r2, l2, p2⟩
  have sm : Same W1.S H2 := g2.le.s.trans o2.sub
  by_cases hlt : i < xs.length
  · rw [List.drop_eq_getElem_cons hlt] at p2
    unfold lcD at p2
    refine .inr ⟨wk.go H2 i sm hlt, fun H3 => ∃ W3 μ3 acc ds, Go W1 H1 W3 H3 ∧ Ok X.K W3 H3 μ3 ∧ H3 Dn = some (.lst acc) ∧ Dn ∉ W3.io ∧ W3.S Dn = none ∧ Reps X.K W3 acc ds ∧ acc.length ≤ i + 1 ∧ postE X.K E' W1 H1 ((lcD t ft fe (wipeD ρ vs) (xs.drop (i + 1)) μ3).bind fun ys μ3 => .ok (.lst (ds ++ ys)) μ3) Q,
      fun H3 ⟨W3, μ3, acc, ds, q⟩ => ⟨xs.length - (i + 1), by omega, rfl, hlt, W3, μ3, acc, ds, q⟩, fun x H3 y => ?_⟩
    obtain ⟨W3, g3, o3, r3⟩ := wk.yld H2 i x H3 sm y xs[i] (List.getElem?_eq_getElem hlt) W2 μ2 g2.le o2
    obtain ⟨a3, s3, n3⟩ := g3.out hacc s2 n2
    revert p2
    cases e : asg t xs[i] (wipeD ρ vs) with
    | none => exact fun p => p.elim
    | some ρ3 =>
      dsimp only
      intro p2
      refine ⟨W3, wipeD ρ vs, ρ3, xs[i], μ2, o3, en1.mono (g2.le.trans g3.le), r3, e, fun σ4 en4 b4 => ⟨wipe_but hsub b4, ?_⟩⟩
      refine ⟨W3, ρ3, μ2, o3, en4, ?_⟩
      revert p2
      cases ft ρ3 μ2 with
      | ex c fs μ4 => exact fun p => p.elim
      | bad => exact fun p => p.elim
      | ok b μ4 =>
        rw [R.nox_ok, R.bind_ok]
        intro p2 W4 H4 g4 o4
        obtain ⟨a4, s4, n4⟩ := g4.out a3 s3 n3
        cases b with
        | false =>
          rw [if_neg Bool.false_ne_true] at p2 ⊢
          exact ⟨W4, μ4, acc, ds, (g2.trans g3).trans g4, o4, a4, n4, s4, r2.mono (g3.le.trans g4.le), by omega, p2⟩
        | true =>
          rw [if_pos rfl] at p2 ⊢
          refine ⟨W4, ρ3, μ4, o4, en4.mono g4.le, ?_⟩
          revert p2
          cases fe ρ3 μ4 with
          | ex c fs μ5 => exact fun p => p.elim
          | bad => exact fun p => p.elim
          | ok yd μ5 =>
            rw [R.nox_ok, R.bind_ok]
            intro p2 W5 yv H5 g5 o5 r5
            obtain ⟨a5, s5, n5⟩ := g5.out a4 s4 n4
            refine ⟨acc, a5, by omega, W5, μ5, acc ++ [yv], ds ++ [yd], (((g2.trans g3).trans g4).trans g5).other hD, o5.other s5 n5, upd_same, n5, s5, (r2.mono ((g3.le.trans g4.le).trans g5.le)).app (.cons r5 .nil), by simp; omega, ?_⟩
            revert p2
            cases lcD t ft fe (wipeD ρ vs) (xs.drop (i + 1)) μ5 with
            | ex c fs μ6 => exact fun p => p
            | bad => exact fun p => p
            | ok ys μ6 =>
              rw [R.bind_ok, R.bind_ok, R.bind_ok, List.append_assoc]
              exact fun p => p
  · have ei : i = xs.length := by omega
    subst ei
    rw [List.drop_length] at p2
    unfold lcD at p2
    rw [R.bind_ok, List.append_nil] at p2
    refine .inl ⟨wk.stop H2 _ sm (Nat.le_refl _), ?_⟩
    have lD : Le W2 (W2.new Dn (.lst acc)) := ⟨same_new s2, List.prefix_refl _⟩
    refine p2 (W2.new Dn (.lst acc)) (.ref Dn) H2 ⟨g2.le.trans lD, g2.kept, g2.grow, g2.newio, fun a u e => ?_⟩ ?_ ?_
    · by_cases z : a = Dn
      · rw [z]; exact .inr (.inl hD)
      · exact g2.newS a u (by rw [← e]; exact (upd_ne z).symm)
    · refine ⟨fun a u e => ?_, o2.len, o2.nd, fun l a m e1 e2 n => ?_, fun l a m e1 e2 => (o2.cell l a m e1 e2).mono lD fun u e => e⟩
      · by_cases z : a = Dn
        · have e : upd W2.S Dn (.lst acc) a = some u := e
          rw [z, upd_same] at e
          rw [z, hacc, e]
        · have e : upd W2.S Dn (.lst acc) a = some u := e
          rw [upd_ne z] at e
          exact o2.sub a u e
      · show upd W2.S Dn (.lst acc) a = none
        have z : a ≠ Dn := fun z => n2 (by rw [← z]; exact List.mem_of_getElem? e1)
        rw [upd_ne z]
        exact o2.apart l a m e1 e2 n
    · refine .lst ?_ (.inl (.inl (show upd W2.S Dn (.lst acc) Dn = _ from upd_same))) (r2.mono lD)
      rw [← r2.length]
      omega
theorem for_run {t : Tg} {b : FS} {σ : L2.St} {W1 : Wd} {H1 : Hp} {μ1 : Mu} {ρ : En} {J : It} {xs : List D} {Z : Ends} (o1 : Ok X.K W1 H1 μ1) (en : Envs X.K W1 σ ρ) (wk : Walk X.K W1 J xs)
    (p : postS X.K E W1 H1 (forD t b xs ρ μ1) Z) : bFor (rG X.K t) (rS X.K E b) Z σ J H1 := by
  refine ⟨fun i m σ H => m = xs.length - i ∧ i ≤ xs.length ∧ ∃ W2 ρ μ, Le W1 W2 ∧ Ok X.K W2 H μ ∧ Envs X.K W2 σ ρ ∧ postS X.K E W2 H (forD t b (xs.drop i) ρ μ) Z, ⟨xs.length, by simp, Nat.zero_le _, W1, ρ, μ1, Le.refl _, o1, en, p⟩, ?_⟩
  rintro i m σ2 H2 ⟨rfl, hi, W2, ρ2, μ2, l2, o2, en2, p2⟩
  have s2 : Same W1.S H2 := l2.s.trans o2.sub
  by_cases hlt : i < xs.length
  · rw [List.drop_eq_getElem_cons hlt] at p2
    unfold forD at p2
    refine .inr ⟨wk.go H2 i s2 hlt, fun σ3 H3 => ∃ W3 ρ3 μ3, Le W1 W3 ∧ Ok X.K W3 H3 μ3 ∧ Envs X.K W3 σ3 ρ3 ∧ postS X.K E W3 H3 (forD t b (xs.drop (i + 1)) ρ3 μ3) Z, fun σ3 H3 ⟨W3, ρ3, μ3, l3, o3, en3, p3⟩ => ⟨xs.length - (i + 1), by omega, rfl, hlt, W3, ρ3, μ3, l3, o3, en3, p3⟩, fun x H3 y => ?_⟩
    obtain ⟨W3, g3, o3, r3⟩ := wk.yld H2 i x H3 s2 y xs[i] (List.getElem?_eq_getElem hlt) W2 μ2 l2 o2
    revert p2
    cases e : asg t xs[i] ρ2 with
    | none => exact fun p => p.elim
    | some ρ3 =>
      intro p2
      refine ⟨W3, ρ2, ρ3, xs[i], μ2, o3, en2.mono g3.le, r3, e, fun σ4 en4 _ => ⟨W3, ρ3, μ2, o3, en4, ?_⟩⟩
      have p3 := postS.mono g3 p2
      revert p3
      dsimp only
      cases b ρ3 μ2 with
      | nx ρ5 μ5 => exact fun p W5 σ5 H5 g5 o5 e5 => ⟨W5, ρ5, μ5, (l2.trans g3.le).trans g5.le, o5, e5, postS.mono g5 p⟩
      | ct ρ5 μ5 => exact fun p W5 σ5 H5 g5 o5 e5 => ⟨W5, ρ5, μ5, (l2.trans g3.le).trans g5.le, o5, e5, postS.mono g5 p⟩
      | bk ρ5 μ5 => exact fun p => p
      | rt d μ5 => exact fun p => p
      | ex c fs μ5 => exact fun p => p
      | bad => exact fun p => p
  · have ei : i = xs.length := by omega
    subst ei
    rw [List.drop_length] at p2
    exact .inl ⟨wk.stop H2 _ s2 (Nat.le_refl _), p2 W2 σ2 H2 (Go.refl _ _) o2 en2⟩
/-! ### locked -/
abbrev JK := Addr → Obj → List (Key × V) → It
/-- a walk of the locked dict -/
def iAny (J : JK) (td : TE) : TI := fun σ H R => td σ H fun x H1 => ∃ d o kvs, x = .ref d ∧ H1 d = some (.frz o (.dK kvs)) ∧ R (J d o kvs) H1
def LkW (K : PySem.W.Frag) (J : JK) (its : List Key → List D → List D) : Prop := ∀ (W : Wd) (a : Addr) (od : Obj) (ks : List Key) (vs : List V) (xs : List D), W.S a = some (.frz od (.dK (ks.zip vs))) → ks.length = vs.length → Reps K W vs xs → walkable ks xs = true → Walk K W (J a od (ks.zip vs)) (its ks xs)
theorem lkw_items {K : PySem.W.Frag} : LkW K Iti pairsD := fun W a od ks vs xs h hl r hw => walk_items h hl r hw
def isHdl (l : Nat) : R D → Bool
  | .ok (.hdl m) _ => decide (m = l)
  | _ => false
def R.mu {α : Type} : R α → Mu
  | .ok _ μ => μ
  | _ => []
theorem isHdl_eq {l : Nat} {r : R D} (h : isHdl l r = true) : r = .ok (.hdl l) r.mu := by
  unfold isHdl at h
  split at h
  · rename_i m μ
    rw [of_decide_eq_true h]
    rfl
  · cases h
def dlockE (its : List Key → List D → List D) (fd : FE) (k : List D → FE) : FE := fun ρ μ => match fd ρ μ with
  | .ok (.hdl l) _ => (match μ[l]? with
    | some (.dct ks xs) => if (walkable ks xs && isHdl l (fd ρ (μ.set l .gone))) = true then (match k (its ks xs) ρ (fd ρ (μ.set l .gone)).mu with
        | .ok d μ2 => .ok d (μ2.set l (.dct ks xs))
        | _ => .bad) else .bad
    | _ => .bad)
  | _ => .bad
def lockO (l : Nat) (m : MO) : O → O
  | .nx ρ μ => .nx ρ (μ.set l m)
  | .bk ρ μ => .bk ρ (μ.set l m)
  | .ct ρ μ => .ct ρ (μ.set l m)
  | .rt d μ => .rt d (μ.set l m)
  | _ => .bad
def glock (its : List Key → List D → List D) (fd : FE) (k : List D → FS) : FS := fun ρ μ => match fd ρ μ with
  | .ok (.hdl l) _ => (match μ[l]? with
    | some (.dct ks xs) => if (walkable ks xs && isHdl l (fd ρ (μ.set l .gone))) = true then lockO l (.dct ks xs) (k (its ks xs) ρ (fd ρ (μ.set l .gone)).mu) else .bad
    | _ => .bad)
  | _ => .bad
theorem aside_dK {kvs : List (Key × V)} : Aside (.dK kvs) := ⟨(fun _ z => nomatch z), (fun _ z => nomatch z)⟩
theorem lockE_of {J : JK} {its : List Key → List D → List D} (hw : LkW X.K J its) {fd : FE} {k : List D → FE} {B : L2.St → It → Hp → VK → Prop}
    (hk : ∀ {σ : L2.St} {W1 : Wd} {H1 : Hp} {μ1 : Mu} {ρ : En} {Jx : It} {xs : List D} {Q : VK} {E' : XK}, Ok X.K W1 H1 μ1 → Envs X.K W1 σ ρ → Walk X.K W1 Jx xs → postE X.K E' W1 H1 (k xs ρ μ1) Q → B σ Jx H1 Q) :
    ∀ σ H Q, rE X.K E (dlockE its fd k) σ H Q → tLockE (fun σ H Q => iAny J (rE X.K E0 fd) σ H fun Jx H1 => B σ Jx H1 Q) σ H Q := fun σ H Q ⟨W, ρ, μ, ok, en, p⟩ => by
  unfold dlockE at p
  split at p
  · rename_i l μx hf
    split at p
    · rename_i ks xs hm
      split at p
      · rename_i hc
        simp only [Bool.and_eq_true] at hc
        obtain ⟨a, ha⟩ : ∃ a, W.io[l]? = some a := ⟨_, List.getElem?_eq_getElem (by rw [ok.len]; exact (List.getElem?_eq_some_iff.mp hm).1)⟩
        obtain ⟨o, ho, vs, rfl, hl, rs⟩ := ok.cell l a _ ha hm
        refine ⟨a, _, ho, trivial, fun od => ?_⟩
        obtain ⟨ok1, le1⟩ := lock_ok (od := od) (u := .dK (ks.zip vs)) ok ha hm (fun z => nomatch z)
        refine ⟨_, ρ, _, ok1, en.mono le1, ?_⟩
        rw [isHdl_eq hc.2]
        intro W' v H' g o' r
        cases r with
        | @hdl a' _ hb =>
          have e := prefix_get g.le.io ha
          rw [e] at hb
          cases hb
          have hS : W'.S a = some (.frz od (.dK (ks.zip vs))) := g.le.s a _ (show upd W.S a (.frz od (.dK (ks.zip vs))) a = _ from upd_same)
          refine ⟨a, od, ks.zip vs, rfl, o'.sub _ _ hS, ?_⟩
          refine hk (E' := WE E σ) o' (en.mono (le1.trans g.le)) (hw W' a od ks vs xs hS hl (rs.mono (le1.trans g.le)) hc.1) ?_
          revert p
          cases k (its ks xs) ρ (fd ρ (μ.set l .gone)).mu with
          | ex c fs μ2 => exact fun p => p.elim
          | bad => exact fun p => p.elim
          | ok d μ2 =>
            intro p W2 v2 H2 g2 o2 r2
            obtain ⟨e1, e2, e3, e4⟩ := unlock_ok ok ha hm (fun z => nomatch z) ho aside_dK ⟨vs, rfl, hl, rs⟩ (g.trans g2) o2
            exact ⟨e1, p _ v2 _ e4 e3 (r2.less e2 aside_dK)⟩
      · exact p.elim
    · exact p.elim
  · exact p.elim
theorem Envs.less {K : PySem.W.Frag} {W : Wd} {a : Addr} {od : Obj} {u : HO} {σ : L2.St} {ρ : En} (h : W.S a = some (.frz od u)) (hn : Aside u) (e : Envs K W σ ρ) : Envs K (W.less a) σ ρ := ⟨e.len, fun i d q => by
  obtain ⟨v, h1, h2⟩ := e.at_ i d q
  exact ⟨v, h1, h2.less h hn⟩⟩
theorem lock_of {J : JK} {its : List Key → List D → List D} (hw : LkW X.K J its) {fd : FE} {k : List D → FS} {B : Ends → L2.St → It → Hp → Prop}
    (hk : ∀ {σ : L2.St} {W1 : Wd} {H1 : Hp} {μ1 : Mu} {ρ : En} {Jx : It} {xs : List D} {Z : Ends}, Ok X.K W1 H1 μ1 → Envs X.K W1 σ ρ → Walk X.K W1 Jx xs → postS X.K E0 W1 H1 (k xs ρ μ1) Z → B Z σ Jx H1) :
    ∀ Z σ H, rS X.K E (glock its fd k) Z σ H → tLock (fun Z σ H => iAny J (rE X.K E0 fd) σ H fun Jx H1 => B Z σ Jx H1) Z σ H := fun Z σ H ⟨W, ρ, μ, ok, en, p⟩ => by
  unfold glock at p
  split at p
  · rename_i l μx hf
    split at p
    · rename_i ks xs hm
      split at p
      · rename_i hc
        simp only [Bool.and_eq_true] at hc
        obtain ⟨a, ha⟩ : ∃ a, W.io[l]? = some a := ⟨_, List.getElem?_eq_getElem (by rw [ok.len]; exact (List.getElem?_eq_some_iff.mp hm).1)⟩
        obtain ⟨o, ho, vs, rfl, hl, rs⟩ := ok.cell l a _ ha hm
        refine ⟨a, _, ho, trivial, fun od => ?_⟩
        obtain ⟨ok1, le1⟩ := lock_ok (od := od) (u := .dK (ks.zip vs)) ok ha hm (fun z => nomatch z)
        refine ⟨_, ρ, _, ok1, en.mono le1, ?_⟩
        rw [isHdl_eq hc.2]
        intro W' v H' g o' r
        cases r with
        | @hdl a' _ hb =>
          have e := prefix_get g.le.io ha
          rw [e] at hb
          cases hb
          have hS : W'.S a = some (.frz od (.dK (ks.zip vs))) := g.le.s a _ (show upd W.S a (.frz od (.dK (ks.zip vs))) a = _ from upd_same)
          refine ⟨a, od, ks.zip vs, rfl, o'.sub _ _ hS, ?_⟩
          refine hk o' (en.mono (le1.trans g.le)) (hw W' a od ks vs xs hS hl (rs.mono (le1.trans g.le)) hc.1) ?_
          have un : ∀ {W2 : Wd} {H2 : Hp} {μ2 : Mu}, Go W' H' W2 H2 → Ok X.K W2 H2 μ2 → _ := fun {W2 H2 μ2} g2 o2 => unlock_ok ok ha hm (fun z => nomatch z) ho aside_dK ⟨vs, rfl, hl, rs⟩ (g.trans g2) o2
          revert p
          cases k (its ks xs) ρ (fd ρ (μ.set l .gone)).mu with
          | ex ρ2 c fs μ2 => exact fun p => p.elim
          | bad => exact fun p => p.elim
          | nx ρ2 μ2 =>
            intro p W2 v2 H2 g2 o2 r2
            obtain ⟨e1, e2, e3, e4⟩ := un g2 o2
            exact ⟨e1, p _ v2 _ e4 e3 (r2.less e2 aside_dK)⟩
          | bk ρ2 μ2 =>
            intro p W2 v2 H2 g2 o2 r2
            obtain ⟨e1, e2, e3, e4⟩ := un g2 o2
            exact ⟨e1, p _ v2 _ e4 e3 (r2.less e2 aside_dK)⟩
          | ct ρ2 μ2 =>
            intro p W2 v2 H2 g2 o2 r2
            obtain ⟨e1, e2, e3, e4⟩ := un g2 o2
            exact ⟨e1, p _ v2 _ e4 e3 (r2.less e2 aside_dK)⟩
          | rt d μ2 =>
            intro p W2 v2 H2 g2 o2 r2
            obtain ⟨e1, e2, e3, e4⟩ := un g2 o2
            exact ⟨e1, p _ v2 _ e4 e3 (r2.less e2 aside_dK)⟩
      · exact p.elim
    · exact p.elim
  · exact p.elim
end
end DL
/-! DL52: comprehensions and for over d.items(), d.values(), d.keys(), d. -/
namespace DL
open PySem L2 PySem.Spec PyProof.Rows
def keysD (ks : List Key) (_ : List D) : List D := ks.map kD
def valsD (_ : List Key) (xs : List D) : List D := xs
theorem lkw_keys {K : PySem.W.Frag} : LkW K Itk keysD := fun W a od ks vs xs h hl r hw => by
  unfold walkable at hw
  simp only [Bool.and_eq_true, decide_eq_true_eq] at hw
  obtain ⟨w1, w2, w3⟩ := hw
  have zl : (ks.zip vs).length = ks.length := by rw [List.length_zip, hl, Nat.min_self]
  have pl : (keysD ks xs).length = ks.length := by simp [keysD]
  refine ⟨by rw [pl]; exact le_line w2, fun H i s hi => ⟨s _ _ h, by rw [zl]; rw [pl] at hi; exact hi⟩, fun H i s hi => ⟨s _ _ h, by rw [zl]; rw [pl] at hi; exact hi⟩, fun H i x H' s y d e W1 μ l1 ok => ?_⟩
  obtain ⟨rfl, k, v, e1, rfl⟩ := y
  rw [List.getElem?_zip_eq_some] at e1
  unfold keysD at e
  rw [List.getElem?_map, e1.1] at e
  cases e
  have hk : keyOk k = true := List.all_eq_true.mp w3 k (List.mem_of_getElem? e1.1)
  exact ⟨W1, Go.refl _ _, ok, kD_rep hk⟩
theorem lkw_vals {K : PySem.W.Frag} : LkW K Itd valsD := fun W a od ks vs xs h hl r hw => by
  unfold walkable at hw
  simp only [Bool.and_eq_true, decide_eq_true_eq] at hw
  obtain ⟨w1, w2, w3⟩ := hw
  have zl : (ks.zip vs).length = ks.length := by rw [List.length_zip, hl, Nat.min_self]
  have pl : (valsD ks xs).length = ks.length := w1.symm
  refine ⟨by rw [pl]; exact le_line w2, fun H i s hi => ⟨s _ _ h, by rw [zl]; rw [pl] at hi; exact hi⟩, fun H i s hi => ⟨s _ _ h, by rw [zl]; rw [pl] at hi; exact hi⟩, fun H i x H' s y d e W1 μ l1 ok => ?_⟩
  obtain ⟨rfl, k, e1⟩ := y
  rw [List.getElem?_zip_eq_some] at e1
  obtain ⟨v', e4, r4⟩ := r.get e
  rw [e1.2] at e4
  cases e4
  exact ⟨W1, Go.refl _ _, ok, r4.mono l1⟩
/-- what is walked, locked -/
structure DIL (X : Cx) (tg iter : Expr) (J : JK) (its : List Key → List D → List D) (fd : FE) : Prop where
  pi : PI X tg iter (iAny J (rE X.K E0 fd))
  wk : LkW X.K J its
def kdc (vs : List Nat) (t : Tg) (ft : FT) (fk fe : FE) (xs : List D) : FE := fun ρ μ => (dcD t ft fk fe (wipeD ρ vs) xs μ ([], [])).bind fun q μ2 => .ok (.hdl μ2.length) (μ2 ++ [.dct q.1 q.2])
def klc (vs : List Nat) (t : Tg) (ft : FT) (fe : FE) (xs : List D) : FE := fun ρ μ => (lcD t ft fe (wipeD ρ vs) xs μ).bind fun ys μ2 => .ok (.lst ys) μ2
def kfor (t : Tg) (b : FS) (xs : List D) : FS := fun ρ μ => forD t b xs ρ μ
section
variable {X : Cx} {E : WX} {tg e : Expr} {fd : FE} {apos cpos pos : Pos}
theorem dil_items {elts : List Expr} {kk : Nat} {tpos : Pos} (he : DE X E0 e fd) (hbase : attributeBase e "items" X.env (eval e X.env) = eval e X.env := by rfl) (hline : (apos.endLine == cpos.line) = true := by rfl) : DIL X (.Tuple elts kk tpos) (.Call (.Attribute e "items" apos) [] [] cpos) Iti pairsD fd := ⟨pi_items he hbase hline, lkw_items⟩
theorem dil_values (he : DE X E0 e fd) (hbase : attributeBase e "values" X.env (eval e X.env) = eval e X.env := by rfl) (hline : (apos.endLine == cpos.line) = true := by rfl) : DIL X tg (.Call (.Attribute e "values" apos) [] [] cpos) Itd valsD fd := ⟨pi_values he hbase hline, lkw_vals⟩
theorem dil_keysM (he : DE X E0 e fd) (hbase : attributeBase e "keys" X.env (eval e X.env) = eval e X.env := by rfl) (hline : (apos.endLine == cpos.line) = true := by rfl) : DIL X tg (.Call (.Attribute e "keys" apos) [] [] cpos) Itk keysD fd := ⟨pi_keysM he hbase hline, lkw_keys⟩
theorem dil_keys (he : DE X E0 e fd) : DIL X tg e Itk keysD fd := ⟨pi_imp (pi_keys he) fun σ H Q ⟨W, ρ, μ, ok, en, p⟩ => ⟨W, ρ, μ, ok, en, by
  revert p
  cases fd ρ μ with
  | ex c fs μ1 => exact fun p => p
  | bad => exact fun p => p
  | ok d μ1 =>
    intro p W1 v H1 g o r
    obtain ⟨d, o, kvs, h1, h2, h3⟩ := p W1 v H1 g o r
    exact ⟨d, o, h1, .inl ⟨kvs, h2, h3⟩⟩⟩, lkw_keys⟩
theorem de_dcL {J : JK} {its : List Key → List D → List D} {kx vx iter : Expr} {ifs : List Expr} {scope : Scope} {t : Tg} {ft : FT} {fk fe : FE} (own : List (Str × Nat)) (hc : X.calm = true) (hN : X.N.Nodup) (hi : DIL X tg iter J its fd) (ok : BlkOk X.N X.env.scope scope own)
    (hg : ∀ (s : Shared) (H : Hp) (C : Addr) (cl : List (Str × Addr)) (fp : List Addr), DG (X.blk s H scope (compEnvC scope cl C X.env) fp) tg t) (ht : ∀ (s : Shared) (H : Hp) (C : Addr) (cl : List (Str × Addr)) (fp : List Addr), DTs (X.blk s H scope (compEnvC scope cl C X.env) fp) ifs ft)
    (hk : ∀ (s : Shared) (H : Hp) (C : Addr) (cl : List (Str × Addr)) (fp : List Addr), DE (X.blk s H scope (compEnvC scope cl C X.env) fp) E0 kx fk)
    (he : ∀ (s : Shared) (H : Hp) (C : Addr) (cl : List (Str × Addr)) (fp : List Addr), DE (X.blk s H scope (compEnvC scope cl C X.env) fp) E0 vx fe) (hsub : ∀ i ∈ t.slots, i ∈ own.map (·.2) := by decide) (hs : ∀ x, foldedSetIterable iter X.env x = pure x := by intro _; rfl) :
    DE X E (.DictComp kx vx [⟨tg, iter, ifs, 0⟩] scope pos) (dlockE its fd (kdc (own.map (·.2)) t ft fk fe)) :=
  pe_imp (pe_lock (pe_dc (tk := rE X.K E0 fk) (tv := rE X.K E0 fe) (g := rG X.K t) (tt := rT X.K E0 ft) hc hN hi.pi ok hg ht hk he hs)) (lockE_of hi.wk (k := kdc (own.map (·.2)) t ft fk fe) (B := bDc (rG X.K t) (rT X.K E0 ft) (rE X.K E0 fk) (rE X.K E0 fe) (own.map (·.2))) fun o1 en wk p => dc_run hsub o1 en wk p)
theorem de_lcL {J : JK} {its : List Key → List D → List D} {elt iter : Expr} {ifs : List Expr} {scope : Scope} {t : Tg} {ft : FT} {fe : FE} (own : List (Str × Nat)) (hc : X.calm = true) (hN : X.N.Nodup) (hi : DIL X tg iter J its fd) (ok : BlkOk X.N X.env.scope scope own)
    (hg : ∀ (s : Shared) (H : Hp) (C : Addr) (cl : List (Str × Addr)) (fp : List Addr), DG (X.blk s H scope (compEnvC scope cl C X.env) fp) tg t) (ht : ∀ (s : Shared) (H : Hp) (C : Addr) (cl : List (Str × Addr)) (fp : List Addr), DTs (X.blk s H scope (compEnvC scope cl C X.env) fp) ifs ft)
    (he : ∀ (s : Shared) (H : Hp) (C : Addr) (cl : List (Str × Addr)) (fp : List Addr), DE (X.blk s H scope (compEnvC scope cl C X.env) fp) E0 elt fe) (hsub : ∀ i ∈ t.slots, i ∈ own.map (·.2) := by decide) (hs : ∀ x, foldedSetIterable iter X.env x = pure x := by intro _; rfl) :
    DE X E (.ListComp elt [⟨tg, iter, ifs, 0⟩] scope pos) (dlockE its fd (klc (own.map (·.2)) t ft fe)) :=
  pe_imp (pe_lock (pe_lc (te := rE X.K E0 fe) (g := rG X.K t) (tt := rT X.K E0 ft) hc hN hi.pi ok hg ht he hs)) (lockE_of hi.wk (k := klc (own.map (·.2)) t ft fe) (B := bLc (rG X.K t) (rT X.K E0 ft) (rE X.K E0 fe) (own.map (·.2))) fun o1 en wk p => lc_run hsub o1 en wk p)
theorem ds_forL {J : JK} {its : List Key → List D → List D} {iter : Expr} {body : List Stmt} {t : Tg} {b : FS} (hp : PassesOwn (model X.prog X.w) X.A X.env X.xe) (hc : X.calm = true) (hi : DIL X tg iter J its fd) (hg : DG X tg t) (hb : DSs X E0 body b)
    (hs : ∀ x, foldedSetIterable iter X.env x = pure x := by intro _; rfl) : DS X E (.For tg iter body [] pos) (glock its fd (kfor t b)) :=
  ps_imp (ps_lock (ps_for hp hc hi.pi hg hb hs)) (lock_of hi.wk (k := kfor t b) (B := bFor (rG X.K t) (rS X.K E0 b)) fun o1 en wk p => for_run o1 en wk p)
end
theorem Cal.z {X : Cx} {E : WX} {k : Nat} (c : Cal X E k) : Cal X E0 k := ⟨c.room, c.guards, take0⟩
end DL
/-! DL53: methods by keywords, o.f op= e, repr of an empty dict, recursion's start. -/
namespace DL
open PySem L2 PySem.Spec PyProof.Rows
theorem fng_bad {P : Program} {w : World} {K : PySem.W.Frag} {mg : Str → Option Value} {base : Heap} {k : Nat} {f : Addr} {fd : FuncData} {ps : List Str} : FnG P w K mg base k f fd ps (fun _ _ => .bad) :=
  ⟨fun A outer s H args us vs Q E W ds μ hr hg e0 hl hb rv ok r p => False.elim p⟩
def dmethK (C : Nat) (m : Str) (F : List D → Mu → R D) (gD : List D → List D → List D) (fo : FE) (fa fk : FA) : FE := fun ρ μ => (fo ρ μ).bind fun o μ1 => match insD μ1 o with
  | some (C', fs) => if C' = C ∧ (fs.lookup m).isNone = true then (fa ρ μ1).bind fun ds μ2 => (fk ρ μ2).bind fun es μ3 => F (gD (o :: ds) es) μ3 else .bad
  | none => .bad
section
variable {X : Cx} {E : WX} {k C : Nat} {f : Addr} {fd : FuncData} {ps ks : List Str} {F : List D → Mu → R D} {gD : List D → List D → List D} {m : Str} {p pos apos : Pos} {o e : Expr} {es : List Expr} {kws : List Keyword} {fo : FE} {fa fk : FA}
theorem de_methK0 {pl : Sem Bool} (G : FnG X.prog X.w X.K X.mg X.base k f fd ps F) (c : Cal X E k) (hC : Cls X.K (cl X.K C)) (hm : Meth X.K (cl X.K C) m f) (b : KDfl X.K fd ps 1 ks gD) (ho : DE X E o fo) (hkw : DK X E kws fk)
    (hf2 : HasLen fk ks.length := by repeat (first | exact aNil_len | refine aCons_len ?_))
    (hall : (backToKw pos (keywordEach kws X.env)).all (·.1.isSome) = true := by rfl) (hks : (backToKw pos (keywordEach kws X.env)).filterMap (·.1) = ks := by rfl)
    (hpl : ((backTo pos (starEach [] X.env)).any (·.1) || (backToKw pos (keywordEach kws X.env)).any (·.1.isNone)) = false := by rfl)
    (ht : eval (.Call (.Attribute o m apos) [] kws pos) X.env = (do
      let ov ← eval o X.env
      standAt apos.atName
      let (f, first) ← holding [ov] (getMethod ov m pl)
      callWith pos f first (backTo pos (starEach [] X.env)) (backToKw pos (keywordEach kws X.env))) := by rfl) :
    DE X E (.Call (.Attribute o m apos) [] kws pos) (dmethK C m F gD fo aNil fk) := by
  refine ⟨fun pins s σ H Q I q => ?_⟩
  obtain ⟨W, ρ, μ, ok, en, pq⟩ := q
  unfold dmethK at pq
  have rd : rE X.K E fo σ H (fun x H1 => ∃ W1 d μ1 a dx fs, x = .ref a ∧ H1 a = some (.ins (cl X.K C) dx fs) ∧ fs.lookup m = none ∧ Ok X.K W1 H1 μ1 ∧ Envs X.K W1 σ ρ ∧ Rep X.K W1 x d ∧ postE X.K (WE E σ) W1 H1 ((fk ρ μ1).bind fun es μ3 => F (gD [d] es) μ3) Q) := by
    refine seq pq ok en fun d μ1 W1 v H1 g1 o1 en1 r p1 => ?_
    cases hi : insD μ1 d with
    | none => rw [hi] at p1; exact p1.elim
    | some z =>
      obtain ⟨C', fs⟩ := z
      rw [hi] at p1
      dsimp only at p1
      by_cases hq : C' = C ∧ (fs.lookup m).isNone = true
      · rw [if_pos hq] at p1
        obtain ⟨rfl, hn⟩ := hq
        obtain ⟨a, dx, ns, vs, ds, rfl, ha, rfl, rs⟩ := ins_rep o1 r hi
        unfold aNil at p1
        rw [R.bind_ok] at p1
        exact ⟨W1, d, μ1, a, dx, _, rfl, ha, lookup_none rs (Option.isNone_iff_eq_none.mp hn), o1, en1, r, p1⟩
      · rw [if_neg hq] at p1
        exact p1.elim
  refine PySem.W.methodCall_KW (pl := pl) (thn (ho.run pins s σ H _ I rd) fun u s1 ⟨x, H1, I1, rx, W1, d, μ1, a, dx, fs, ex, ea, l, o1, en1, r1, q1⟩ => ?_) ht
  subst ex
  obtain rfl : u = Value.ref a := rx
  refine getmeth_ok I1 ea hC hm l ?_
  have rd2 : rA X.K E fk σ H1 (fun zs H2 => ∃ W2 es μ2, zs.length = ks.length ∧ Ok X.K W2 H2 μ2 ∧ Le W1 W2 ∧ Reps X.K W2 zs es ∧ postE X.K (WE E σ) W2 H2 (F (gD [d] es) μ2) Q) := by
    refine ⟨W1, ρ, μ1, o1, en1, ?_⟩
    revert q1
    cases hq : fk ρ μ1 with
    | ok es μ2 => exact fun p W2 xs H2 g o r => ⟨W2, es, μ2, by rw [r.length]; exact hf2 ρ μ1 es μ2 hq, o, g.le, r, post.mono g p⟩
    | ex c fs μ1 => exact fun p => p
    | bad => exact fun p => p
  refine PySem.W.callWith_KW0 (first := [.ref a]) (h₀ := X.base) I.ok.mod.kin hm.kp hall (thn (hkw.run pos pins s1 σ H1 _ I1 rd2) fun ws s2 ⟨zs, H2, I2, rz, W2, es, μ2, hz, o2, l2, r2, q2⟩ => ⟨I2.kIn, ?_⟩) hpl
  rw [hks]
  exact callF_kw (us := [.ref a]) (vs := [.ref a]) G c b I2 rfl hz (.cons rfl .nil) rz o2 (.cons (r1.mono l2) .nil) r2 q2
theorem de_methK {pl : Sem Bool} (G : FnG X.prog X.w X.K X.mg X.base k f fd ps F) (c : Cal X E k) (hC : Cls X.K (cl X.K C)) (hm : Meth X.K (cl X.K C) m f) (b : KDfl X.K fd ps ((e :: es).length + 1) ks gD) (ho : DE X E o fo) (ha : DA X E (e :: es) fa) (hkw : DK X E kws fk)
    (hf : HasLen fa (e :: es).length := by repeat (first | exact aNil_len | refine aCons_len ?_)) (hf2 : HasLen fk ks.length := by repeat (first | exact aNil_len | refine aCons_len ?_))
    (hall : (backToKw pos (keywordEach kws X.env)).all (·.1.isSome) = true := by rfl) (hks : (backToKw pos (keywordEach kws X.env)).filterMap (·.1) = ks := by rfl)
    (hst : starEach (e :: es) X.env = (false, eval e X.env) :: starEach es X.env := by rfl)
    (hpl : ((backTo pos (starEach (e :: es) X.env)).any (·.1) || (backToKw pos (keywordEach kws X.env)).any (·.1.isNone)) = false := by rfl)
    (ht : eval (.Call (.Attribute o m apos) (e :: es) kws pos) X.env = (do
      let ov ← eval o X.env
      standAt apos.atName
      let (f, first) ← holding [ov] (getMethod ov m pl)
      callWith pos f first (backTo pos (starEach (e :: es) X.env)) (backToKw pos (keywordEach kws X.env))) := by rfl) :
    DE X E (.Call (.Attribute o m apos) (e :: es) kws pos) (dmethK C m F gD fo fa fk) := by
  refine ⟨fun pins s σ H Q I q => ?_⟩
  obtain ⟨W, ρ, μ, ok, en, pq⟩ := q
  unfold dmethK at pq
  have rd : rE X.K E fo σ H (fun x H1 => ∃ W1 d μ1 a dx fs, x = .ref a ∧ H1 a = some (.ins (cl X.K C) dx fs) ∧ fs.lookup m = none ∧ Ok X.K W1 H1 μ1 ∧ Envs X.K W1 σ ρ ∧ Rep X.K W1 x d ∧ postE X.K (WE E σ) W1 H1 ((fa ρ μ1).bind fun ds μ2 => (fk ρ μ2).bind fun es μ3 => F (gD (d :: ds) es) μ3) Q) := by
    refine seq pq ok en fun d μ1 W1 v H1 g1 o1 en1 r p1 => ?_
    cases hi : insD μ1 d with
    | none => rw [hi] at p1; exact p1.elim
    | some z =>
      obtain ⟨C', fs⟩ := z
      rw [hi] at p1
      dsimp only at p1
      by_cases hq : C' = C ∧ (fs.lookup m).isNone = true
      · rw [if_pos hq] at p1
        obtain ⟨rfl, hn⟩ := hq
        obtain ⟨a, dx, ns, vs, ds, rfl, ha, rfl, rs⟩ := ins_rep o1 r hi
        exact ⟨W1, d, μ1, a, dx, _, rfl, ha, lookup_none rs (Option.isNone_iff_eq_none.mp hn), o1, en1, r, p1⟩
      · rw [if_neg hq] at p1
        exact p1.elim
  refine PySem.W.methodCall_KW (pl := pl) (thn (ho.run pins s σ H _ I rd) fun u s1 ⟨x, H1, I1, rx, W1, d, μ1, a, dx, fs, ex, ea, l, o1, en1, r1, q1⟩ => ?_) ht
  subst ex
  obtain rfl : u = Value.ref a := rx
  refine getmeth_ok I1 ea hC hm l ?_
  have rd1 : rA X.K E fa σ H1 (fun vs H2 => ∃ W2 ds μ2, vs.length = (e :: es).length ∧ Ok X.K W2 H2 μ2 ∧ Le W1 W2 ∧ Envs X.K W2 σ ρ ∧ Reps X.K W2 vs ds ∧ postE X.K (WE E σ) W2 H2 ((fk ρ μ2).bind fun es μ3 => F (gD (d :: ds) es) μ3) Q) := by
    refine ⟨W1, ρ, μ1, o1, en1, ?_⟩
    revert q1
    cases hq : fa ρ μ1 with
    | ok ds μ2 => exact fun p W2 xs H2 g o r => ⟨W2, ds, μ2, by rw [r.length]; exact hf ρ μ1 ds μ2 hq, o, g.le, en1.mono g.le, r, post.mono g p⟩
    | ex c fs μ1 => exact fun p => p
    | bad => exact fun p => p
  refine PySem.W.callWith_KW (first := [.ref a]) (h₀ := X.base) I.ok.mod.kin hm.kp hall (thn (ha.run pos pins s1 σ H1 _ I1 rd1) fun us s2 ⟨vs, H2, I2, r, W2, ds, μ2, hn, o2, l2, en2, r2, q2⟩ => ?_) hpl hst
  have rd2 : rA X.K E fk σ H2 (fun zs H3 => ∃ W3 es μ3, zs.length = ks.length ∧ Ok X.K W3 H3 μ3 ∧ Le W2 W3 ∧ Reps X.K W3 zs es ∧ postE X.K (WE E σ) W3 H3 (F (gD (d :: ds) es) μ3) Q) := by
    refine ⟨W2, ρ, μ2, o2, en2, ?_⟩
    revert q2
    cases hq : fk ρ μ2 with
    | ok es μ3 => exact fun p W3 xs H3 g o r => ⟨W3, es, μ3, by rw [r.length]; exact hf2 ρ μ2 es μ3 hq, o, g.le, r, post.mono g p⟩
    | ex c fs μ1 => exact fun p => p
    | bad => exact fun p => p
  refine thn (hkw.run pos pins s2 σ H2 _ I2 rd2) fun ws s3 ⟨zs, H3, I3, rz, W3, es', μ3, hz, o3, l3, r3, q3⟩ => ⟨I3.kIn, ?_⟩
  rw [hks]
  exact callF_kw (us := .ref a :: us) (vs := .ref a :: vs) G c b I3 (by simp only [List.length_cons] at hn ⊢; omega) hz (.cons rfl r) rz o3 (.cons ((r1.mono l2).mono l3) (r2.mono l3)) r3 q3
end
/-! ### o.f op= e, of numbers -/
def addI : D → D → Option D
  | .int a, .int b => some (.int (a + b))
  | _, _ => none
def subI : D → D → Option D
  | .int a, .int b => some (.int (a - b))
  | _, _ => none
def InD (X : Cx) (op : Operator) (g : D → D → Option D) : Prop := ∃ rd : V → V → Hp → VK → Prop, InOp X op rd ∧ ∀ W x y z vx vy H Q, Rep X.K W vx x → Rep X.K W vy y → g x y = some z → (∀ v, Rep X.K W v z → Q v H) → rd vx vy H Q
theorem ind_add {X : Cx} : InD X .Add addI := ⟨rAdd, in_add, fun W x y z vx vy H Q r1 r2 h q => by
  unfold addI at h
  split at h
  · cases r1; cases r2; cases h
    exact ⟨_, _, rfl, rfl, q _ (.int _)⟩
  · cases h⟩
theorem ind_sub {X : Cx} : InD X .Sub subI := ⟨rSub, in_sub, fun W x y z vx vy H Q r1 r2 h q => by
  unfold subI at h
  split at h
  · cases r1; cases r2; cases h
    exact ⟨_, _, rfl, rfl, q _ (.int _)⟩
  · cases h⟩
def insAt (μ : Mu) : D → Option (Nat × Nat × List Str × List D)
  | .hdl l => match μ[l]? with
    | some (.ins C ns xs) => some (l, C, ns, xs)
    | _ => none
  | _ => none
def gaugat (cs : List Nat) (f : Str) (g : D → D → Option D) (fo fe : FE) : FS := fun ρ μ => (fo ρ μ).to ρ fun x μ1 => match insAt μ1 x with
  | some (_, C, ns, xs) => (match (ns.zip xs).lookup f with
    | some d => if C ∈ cs then (fe ρ μ1).to ρ fun y μ2 => (match g d y, insAt μ2 x with
      | some z, some (l, C', ns', xs') => if C' = C ∧ ns'.length < 900 ∧ ns'.length = xs'.length then .nx ρ (μ2.set l (.ins C (putP f z ns' xs').1 (putP f z ns' xs').2)) else .bad
      | _, _ => .bad) else .bad
    | none => .bad)
  | none => .bad
theorem insAt_rep {K : PySem.W.Frag} {W : Wd} {H : Hp} {μ : Mu} {v : V} {d : D} {l C : Nat} {ns : List Str} {xs : List D} (ok : Ok K W H μ) (r : Rep K W v d) (h : insAt μ d = some (l, C, ns, xs)) : ∃ a dx vs, d = .hdl l ∧ W.io[l]? = some a ∧ μ[l]? = some (.ins C ns xs) ∧ v = .ref a ∧ H a = some (.ins (cl K C) dx (ns.zip vs)) ∧ ns.length = vs.length ∧ Reps K W vs xs := by
  unfold insAt at h
  split at h
  · rename_i l'
    split at h
    · rename_i C' ns' xs' hm
      cases h
      cases r with
      | @hdl a _ ha =>
        obtain ⟨o, ho, dx, vs, rfl, hl, rs⟩ := ok.cell _ a _ ha hm
        exact ⟨a, dx, vs, rfl, ha, hm, rfl, ho, hl, rs⟩
    · cases h
  · cases h
section
variable {X : Cx} {E : WX} {cs : List Nat} {f : Str} {o e : Expr} {fo fe : FE} {pos tpos : Pos} {g : D → D → Option D} {op : Operator}
theorem ds_augat (hc : ∀ C ∈ cs, Cls X.K (cl X.K C) ∧ NoAttr X.K (cl X.K C) f) (hi : InD X op g) (ho : DE X E o fo) (he : DE X E e fe) : DS X E (.AugAssign (.Attribute o f tpos) op e pos) (gaugat cs f g fo fe) := by
  obtain ⟨rd, hop, hrd⟩ := hi
  refine ps_imp (ps_fldaug ho he hop) fun Z σ H ⟨W, ρ, μ, ok, en, p⟩ => ?_
  refine seqS p ok en fun x μ1 W1 xv H1 g1 o1 en1 r p1 => ?_
  split at p1
  · rename_i l C ns xs h1
    split at p1
    · rename_i d hd
      split at p1
      · rename_i hC
        obtain ⟨a, dx, vs, ex, ha, hm, rfl, hH, hl, rs⟩ := insAt_rep o1 r h1
        obtain ⟨v, hv, rv⟩ := lookup_rep rs hd
        refine ⟨a, _, dx, _, v, rfl, hH, (hc C hC).1, (hc C hC).2, hv, ?_⟩
        refine seqS p1 o1 en1 fun y μ2 W2 yv H2 g2 o2 en2 r2 p2 => ?_
        split at p2
        · rename_i z l' C' ns' xs' hz h2
          split at p2
          · rename_i hq
            obtain ⟨rfl, hn, hl'⟩ := hq
            refine hrd W2 d y z v yv H2 _ (rv.mono g2.le) r2 hz fun zv rz => ?_
            obtain ⟨a2, dx2, vs2, ex2, ha2, hm2, e2, hH2, hlv, rs2⟩ := insAt_rep o2 (r.mono g2.le) h2
            cases e2
            obtain ⟨ok4, g4⟩ := o2.setcell (m' := .ins C' (putP f z ns' xs').1 (putP f z ns' xs').2) (o' := .ins (cl X.K C') dx2 (putF f zv (ns'.zip vs2))) ha2 hm2 (fun z => nomatch z) ⟨dx2, (putP f zv ns' vs2).2, by rw [putP_zip f zv hlv, putP_names f zv z hlv hl'], by rw [← putP_names f zv z hlv hl']; exact putP_len f zv hlv, putP_reps f rz hlv rs2⟩
            refine ⟨dx2, _, hH2, ?_, p2 _ _ _ g4 ok4 en2⟩
            rw [List.length_zip]
            omega
          · exact p2.elim
        · exact p2.elim
      · exact p1.elim
    · exact p1.elim
  · exact p1.elim
end
/-! ### repr({}) -/
def bReprM : List D → Mu → R D
  | [.hdl l], μ => match μ[l]? with
    | some (.dct [] []) => .ok (.str "{}") μ
    | _ => .bad
  | ds, μ => bRepr ds μ
theorem cx_reprM {X : Cx} {E : WX} (hg : X.A.guards = some []) (hu : X.A.units + 64 < cLine) : CallX X E (.builtin "repr") bReprM := by
  intro pins s σ H xs us Q I rx q
  obtain ⟨E', W, μ, ds, ok, r1, p⟩ := q
  unfold bReprM at p
  split at p
  · rename_i l
    split at p
    · rename_i hm
      cases r1 with
      | cons r1 r2 =>
        cases r2
        cases rx with
        | cons w1 w2 =>
          cases w2
          cases r1 with
          | @hdl a _ ha =>
            cases w1
            obtain ⟨o, ho, vs, rfl, hl, rs⟩ := ok.cell l a _ ha hm
            cases rs
            obtain ⟨_, ya, va, ra, oo, es, ep, go, ex, od, _, pr, _⟩ := dk_of I.hok ho
            have ra : KV ([] : List (Key × V)) va := ra
            unfold KV at ra
            cases ra
            have he : es.toList = [] := by
              have := pr.length
              exact List.eq_nil_of_length_eq_zero (by simpa using this)
            have rd : Reads s.heap (.ref a) (.dict []) (a :: [] ++ []) := Reads.dict go ex.1 od (by rw [he]; exact .nil) (by rw [he]; exact .nil)
            have hs : (PyData.dict []).shown = ("{}" : Str) := by decide +kernel
            refine repr_of_reads' rd (by decide) (fun _ z => ?_) hg (by show _ + (PyData.depth _ + 1) < cLine; simp [PyData.depth, PyData.depthKv]; omega) (fun _ _ e => e) (fun h' tk tk' hk => ?_) (by rw [hs]; decide)
            · have z : sysModules = a := by simpa using z
              rw [← z] at ya
              simp at ya
            · rw [hs]
              exact ⟨.str "{}", H, I.kept hk, ⟨_, rfl⟩, post_pure ok p (.str _ (by decide))⟩
    · exact p.elim
  · exact cx_repr (E := E) hg hu pins s σ H xs us Q I rx ⟨E', W, μ, _, ok, r1, p⟩
end DL
/-! DL54: names forgotten; a for whose turns leave nothing behind. -/
namespace DL
open PySem L2 PySem.Spec PyProof.Rows
/-- slots that are known no more -/
def blank (vs : List Nat) (ρ : En) : En := go 0 ρ where
  go (i : Nat) : En → En
  | [] => []
  | x :: xs => (if i ∈ vs then none else x) :: go (i + 1) xs
theorem blank_go {vs : List Nat} : ∀ {ρ : En} {i : Nat}, (blank.go vs i ρ).length = ρ.length ∧ ∀ (j : Nat) d, (blank.go vs i ρ)[j]? = some (some d) → ρ[j]? = some (some d)
  | [], i => ⟨rfl, fun j d h => by simp [blank.go] at h⟩
  | x :: xs, i => by
    obtain ⟨h1, h2⟩ := blank_go (vs := vs) (ρ := xs) (i := i + 1)
    refine ⟨by simp [blank.go, h1], fun j d h => ?_⟩
    cases j with
    | zero =>
      simp only [blank.go, List.getElem?_cons_zero] at h ⊢
      split at h
      · cases h
      · exact h
    | succ j =>
      simp only [blank.go, List.getElem?_cons_succ] at h ⊢
      exact h2 j d h
theorem Envs.blank {K : PySem.W.Frag} {W : Wd} {σ : L2.St} {ρ : En} (h : Envs K W σ ρ) (vs : List Nat) : Envs K W σ (DL.blank vs ρ) := by
  obtain ⟨h1, h2⟩ := blank_go (vs := vs) (ρ := ρ) (i := 0)
  exact ⟨h1.trans h.len, fun i d e => h.at_ i d (h2 i d e)⟩
def gforget (vs : List Nat) (g : FS) : FS := fun ρ μ => g (blank vs ρ) μ
/-- nothing points to a cell from n on -/
def closedEn (n : Nat) : En → Bool
  | [] => true
  | none :: r => closedEn n r
  | some d :: r => d.closed n && closedEn n r
theorem closedEn_at {n : Nat} : ∀ {ρ : En} {i : Nat} {d : D}, closedEn n ρ = true → ρ[i]? = some (some d) → d.closed n = true
  | [], _, _, _, h => by simp at h
  | none :: r, 0, _, _, h => by simp at h
  | none :: r, i + 1, d, c, h => closedEn_at (ρ := r) (i := i) (by simpa [closedEn] using c) (by simpa using h)
  | some x :: r, 0, d, c, h => by
    simp at h
    subst h
    simp [closedEn] at c
    exact c.1
  | some x :: r, i + 1, d, c, h => by
    simp [closedEn] at c
    exact closedEn_at (ρ := r) (i := i) c.2 (by simpa using h)
def okCut (n : Nat) (ρ : En) (μ : Mu) : Bool := closedEn n ρ && closedMu n μ
def forT (t : Tg) (b : FS) (vs : List Nat) : List D → En → Mu → O
  | [], ρ, μ => .nx ρ μ
  | x :: xs, ρ, μ => match asg t x ρ with
    | none => .bad
    | some ρ1 => match b ρ1 μ with
      | .nx ρ2 μ2 => if okCut μ.length (blank vs ρ2) μ2 = true then forT t b vs xs (blank vs ρ2) (μ2.take μ.length) else .bad
      | .ct ρ2 μ2 => if okCut μ.length (blank vs ρ2) μ2 = true then forT t b vs xs (blank vs ρ2) (μ2.take μ.length) else .bad
      | .bk ρ2 μ2 => .nx ρ2 μ2
      | o => o
def gforT (fi : FA) (t : Tg) (b : FS) (vs : List Nat) : FS := fun ρ μ => (fi ρ μ).to ρ fun xs μ1 => forT t b vs xs (blank vs ρ) μ1
theorem Envs.cut {K : PySem.W.Frag} {W : Wd} {σ : L2.St} {ρ : En} {n : Nat} (h : Envs K W σ ρ) (c : closedEn n ρ = true) : Envs K ⟨W.S, W.io.take n⟩ σ ρ := ⟨h.len, fun i d e => by
  obtain ⟨v, h1, h2⟩ := h.at_ i d e
  exact ⟨v, h1, h2.cut (closedEn_at c e)⟩⟩
section
variable {X : Cx} {E : WX} {pos : Pos}
theorem ds_forget (vs : List Nat) {g : FS} {sts : List Stmt} (h : DSs X E sts g) : DSs X E sts (gforget vs g) := pss_imp h fun Z σ H ⟨W, ρ, μ, ok, en, p⟩ => ⟨W, blank vs ρ, μ, ok, en.blank vs, p⟩
theorem ds_forT {tg iter : Expr} {body : List Stmt} {fi : FA} {t : Tg} {b : FS} (vs : List Nat) (hp : PassesOwn (model X.prog X.w) X.A X.env X.xe) (hc : X.calm = true) (hi : DI X E tg iter fi) (hg : DG X tg t) (hb : DSs X E body b)
    (hs : ∀ x, foldedSetIterable iter X.env x = pure x := by intro _; rfl) : DS X E (.For tg iter body [] pos) (gforT fi t b vs) := by
  refine ps_imp (ps_for hp hc hi hg hb hs) fun Z σ H ⟨W, ρ, μ, ok, en, p⟩ => ?_
  refine ⟨W, ρ, μ, ok, en, ?_⟩
  unfold gforT at p
  revert p
  cases fi ρ μ with
  | ex c fs μ1 => exact fun p W' H' d g o r => p W' σ H' d g o (en.mono g.le) r
  | bad => exact fun p => p
  | ok xs μ1 =>
    rw [R.to_ok]
    intro p W1 J H1 g1 o1 wk
    refine ⟨fun i m σ H => m = xs.length - i ∧ i ≤ xs.length ∧ ∃ W2 ρ μ, Le W1 W2 ∧ Ok X.K W2 H μ ∧ Envs X.K W2 σ ρ ∧ postS X.K E W2 H (forT t b vs (xs.drop i) ρ μ) Z, ⟨xs.length, by simp, Nat.zero_le _, W1, _, μ1, Le.refl _, o1, (en.mono g1.le).blank vs, postS.mono g1 p⟩, ?_⟩
    rintro i m σ2 H2 ⟨rfl, hi, W2, ρ2, μ2, l2, o2, en2, p2⟩
    have s2 : Same W1.S H2 := l2.s.trans o2.sub
    by_cases hlt : i < xs.length
    · rw [List.drop_eq_getElem_cons hlt] at p2
      unfold forT at p2
      refine .inr ⟨wk.go H2 i s2 hlt, fun σ3 H3 => ∃ W3 ρ3 μ3, Le W1 W3 ∧ Ok X.K W3 H3 μ3 ∧ Envs X.K W3 σ3 ρ3 ∧ postS X.K E W3 H3 (forT t b vs (xs.drop (i + 1)) ρ3 μ3) Z, fun σ3 H3 ⟨W3, ρ3, μ3, l3, o3, en3, p3⟩ => ⟨xs.length - (i + 1), by omega, rfl, hlt, W3, ρ3, μ3, l3, o3, en3, p3⟩, fun x H3 y => ?_⟩
      obtain ⟨W3, g3, o3, r3⟩ := wk.yld H2 i x H3 s2 y xs[i] (List.getElem?_eq_getElem hlt) W2 μ2 l2 o2
      revert p2
      cases e : asg t xs[i] ρ2 with
      | none => exact fun p => p.elim
      | some ρ3 =>
        intro p2
        refine ⟨W3, ρ2, ρ3, xs[i], μ2, o3, en2.mono g3.le, r3, e, fun σ4 en4 _ => ⟨W3, ρ3, μ2, o3, en4, ?_⟩⟩
        have turn : ∀ {ρ5 : En} {μ5 : Mu}, postS X.K E W2 H2 (if okCut μ2.length (blank vs ρ5) μ5 = true then forT t b vs (xs.drop (i + 1)) (blank vs ρ5) (μ5.take μ2.length) else .bad) Z →
            ∀ W5 σ5 H5, Go W3 H3 W5 H5 → Ok X.K W5 H5 μ5 → Envs X.K W5 σ5 ρ5 → ∃ W3 ρ3 μ3, Le W1 W3 ∧ Ok X.K W3 H5 μ3 ∧ Envs X.K W3 σ5 ρ3 ∧ postS X.K E W3 H5 (forT t b vs (xs.drop (i + 1)) ρ3 μ3) Z := fun {ρ5 μ5} p W5 σ5 H5 g5 o5 e5 => by
          by_cases hk : okCut μ2.length (blank vs ρ5) μ5 = true
          · rw [if_pos hk] at p
            unfold okCut at hk
            simp only [Bool.and_eq_true] at hk
            have gc := (g3.trans g5).cut
            rw [o2.len] at gc
            exact ⟨_, _, _, l2.trans gc.le, o5.cut hk.2, (e5.blank vs).cut hk.1, postS.mono gc p⟩
          · rw [if_neg hk] at p
            exact p.elim
        revert p2
        dsimp only
        cases b ρ3 μ2 with
        | nx ρ5 μ5 => exact fun p W5 σ5 H5 g5 o5 e5 => turn p W5 σ5 H5 g5 o5 e5
        | ct ρ5 μ5 => exact fun p W5 σ5 H5 g5 o5 e5 => turn p W5 σ5 H5 g5 o5 e5
        | bk ρ5 μ5 => exact fun p => postS.mono g3 p
        | rt d μ5 => exact fun p => postS.mono g3 p
        | ex c fs μ5 => exact fun p => postS.mono g3 p
        | bad => exact fun p => p
    · have ei : i = xs.length := by omega
      subst ei
      rw [List.drop_length] at p2
      exact .inl ⟨wk.stop H2 _ s2 (Nat.le_refl _), p2 W2 σ2 H2 (Go.refl _ _) o2 en2⟩
end
/-- the names all unknown -/
def blankB : En → Bool
  | [] => true
  | none :: r => blankB r
  | some _ :: _ => false
/-- a turn leaves nothing behind: by its outcome -/
def turnB (vs : List Nat) (n : Nat) : O → Bool
  | .nx ρ μ => closedMu 0 μ && (blankB (blank vs ρ) && decide (ρ.length = n))
  | _ => false
theorem blankB_eq : ∀ {ρ : En}, blankB ρ = true → ρ = List.replicate ρ.length none
  | [], _ => rfl
  | none :: r, h => by
    rw [List.length_cons, List.replicate_succ, ← blankB_eq (by simpa [blankB] using h)]
  | some _ :: _, h => by simp [blankB] at h
theorem closedEn_blank {n : Nat} : ∀ {ρ : En}, blankB ρ = true → closedEn n ρ = true
  | [], _ => rfl
  | none :: r, h => by simpa [closedEn] using closedEn_blank (n := n) (by simpa [blankB] using h)
  | some _ :: _, h => by simp [blankB] at h
/-- all turns leave nothing behind -/
theorem forT_all {t : Tg} {b : FS} {vs : List Nat} {n : Nat} : ∀ {xs : List D}, (∀ x ∈ xs, ∃ ρ1, asg t x (List.replicate n none) = some ρ1 ∧ turnB vs n (b ρ1 []) = true) → forT t b vs xs (List.replicate n none) [] = .nx (List.replicate n none) []
  | [], _ => rfl
  | x :: xs, h => by
    obtain ⟨ρ1, e1, e2⟩ := h x List.mem_cons_self
    unfold forT
    rw [e1]
    dsimp only
    revert e2
    cases hb : b ρ1 [] with
    | nx ρ2 μ2 =>
      intro e2
      simp only [turnB, Bool.and_eq_true, decide_eq_true_eq] at e2
      obtain ⟨c1, c2, c3⟩ := e2
      have e3 : blank vs ρ2 = List.replicate n none := by
        have := blankB_eq c2
        rw [(blank_go (vs := vs) (ρ := ρ2) (i := 0)).1 |> fun z => (show (blank vs ρ2).length = ρ2.length from z), c3] at this
        exact this
      have hk : okCut ([] : Mu).length (blank vs ρ2) μ2 = true := by
        unfold okCut
        rw [closedEn_blank c2]
        exact c1
      dsimp only
      rw [if_pos hk, e3]
      exact forT_all fun y hy => h y (List.mem_cons_of_mem _ hy)
    | _ => intro e2; simp [turnB] at e2
end DL
/-! DL55: the laws' own digits (with addX, mulX); small things. -/
namespace DL
open PySem L2
section
variable {K : PySem.W.Frag} {x qual : Str} {params : Arguments} {body : List Stmt} {scope : Scope} {f : Addr} {fd : FuncData} {ps : List Str}
/-- a call by keywords where nothing is lacking -/
theorem kdfl_none {kws : List (Str × V)} (F : FunD K x qual params body scope [] kws f fd) (n : Nat) (ks : List Str) (ms : List (Str × V)) (md : List D) (g : {α : Type} → List α → List α → List α → List α) (h0 : ms = []) (h00 : md = [])
    (hrel : ∀ {vs mz zs : List V} {us mv ws : List Value}, Vals vs us → Vals mz mv → Vals zs ws → Vals (g vs mz zs) (g us mv ws))
    (hrep : ∀ W vs ds zs es, vs.length = n → zs.length = ks.length → Reps K W vs ds → Reps K W zs es → Reps K W (g vs (ms.map (·.2)) zs) (g ds md es))
    (hlen : ∀ us mv ws : List Value, us.length = n → mv.length = ms.length → ws.length = ks.length → (g us mv ws).length = ps.length)
    (h : ∀ (kV doc pm : Value) (an : Option Addr) (cdv ct : Value) (us mv ws : List Value), us.length = n → mv.length = ms.length → ws.length = ks.length →
      bindArgs (PySem.W.fnOf x qual params body scope .none kV doc pm an cdv ct) ⟨us, ks.zip ws⟩ = pure (ps.zip (g us mv ws))) : KDfl K fd ps n ks (fun ds es => g ds md es) := by
  subst h0
  obtain ⟨oc, od, dV, kV, doc, pm, an, cdv, ct, osl, rfl, lk, hcd, hD, hK⟩ := F.ex
  rcases hD with ⟨_, rfl⟩ | ⟨e, _⟩
  · exact ⟨fun us ws => g us [] ws, fun vs zs => g vs [] zs, fun us ws h1 h2 => hlen us [] ws h1 rfl h2,
      ⟨fun s us ws X l1 l2 => BindsTo.of_eq (h kV doc pm an cdv ct us [] ws l1 rfl l2), fun r1 r2 => hrel r1 .nil r2⟩, hrep⟩
  · exact absurd rfl e
end
theorem names_blt {X : Cx} {x : Str} {c : Value} (hg : Gl X x) (hm : X.mg x = none) (hv : bootBuiltins x = some c) (hn : x ≠ "__name__" := by decide) (hdb : (x == ("__debug__" : Str)) = false := by decide) : L2.Names X x c := ⟨hg, hdb, .inr ⟨hm, hv, hn⟩⟩
theorem mL_one {a c : Nat} {no : List Nat} (h : mL [a] no c = some true) : c = a := by
  unfold mL at h
  split at h
  · rename_i m
    simpa using m
  · split at h
    · cases h
    · cases h
def bDigX : FS := gif (tand (dtest (dvar 4)) (dtest (dbin gtD (dvar 3) (dc (.int 0))))) (gseq (gexpr (dbm "list" mAppend (dvar 6) (aCons (dbin modD (dvar 3) (dvar 8)) aNil)))
    (gasg (.nm 3) (dbin fdivD (dvar 3) (dvar 8)))) (gseq (gasg (.nm 5) (dbin modD (dbin powD (dbin addX (dvar 5) (dbin mulX (dc (.int 104729)) (dbin addX (dvar 7) (dc (.int 1))))) (dc (.int 2))) (dc (.int 2147483587))))
    (gexpr (dbm "list" mAppend (dvar 6) (aCons (dbin modD (dbin fdivD (dvar 5) (dc (.int 16))) (dvar 8)) aNil))))
def gDigX : FS := (gseq (gasg (.nm 3) (dcallB bAbs (aCons (dvar 0) aNil)))
    (gseq (gasg (.nm 4) (dbin geD (dvar 3) (dbin powD (dc (.int 10)) (dc (.int 18)))))
    (gseq (gasg (.nm 5) (dbin addX (dbin modD (dvar 3) (dc (.int 2147483647))) (dbin mulX (dc (.int 7919)) (dvar 1))))
    (gseq (gasg (.nm 6) (dcel aNil))
    (gseq (gfor (itE (aCons (dvar 2) aNil)) (.tp [(.nm 7), (.nm 8)]) bDigX)
    (gret (dfrz (dvar 6))))))))
structure DigIX (c t : Int) (ss : List Int) (μ : Mu) (k : Nat) (ρ : En) (μ' : Mu) : Prop where
  ex : ∃ (num seed : Int) (w : Bool) (a7 a8 : Option D) (ns : List Int), ρ = [some (.int c), some (.int t), some (.lst (ss.map .int)), some (.int num), some (.bl w), some (.int seed), some (.hdl μ.length), a7, a8] ∧ μ' = μ ++ [.lst (ns.map .int)] ∧ ns.length = k ∧
    (∀ (i : Nat) n s, ns[i]? = some n → ss[i]? = some s → 0 ≤ n ∧ n < s) ∧ 0 ≤ seed ∧ seed ≤ 2 ^ 40
theorem digX_step {c t : Int} {ss : List Int} {μ : Mu} (hs : ∀ s ∈ ss, 0 < s ∧ s < 1073741824) (hl : ss.length ≤ 1000) (i : Nat) (s : Int) (hi : ss[i]? = some s) (ρ : En) (μ' : Mu) (h : DigIX c t ss μ i ρ μ') :
    ∃ ρ1 ρ2 μ2, asg (.tp [(.nm 7), (.nm 8)]) (.tup [.int i, .int s]) ρ = some ρ1 ∧ bDigX ρ1 μ' = .nx ρ2 μ2 ∧ DigIX c t ss μ (i + 1) ρ2 μ2 := by
  obtain ⟨num, seed, w, a7, a8, ns, rfl, rfl, hn, hb, h0, h1⟩ := h.ex
  obtain ⟨s0, s1⟩ := hs s (List.mem_of_getElem? hi)
  have hil : i < 1000 := Nat.lt_of_lt_of_le (List.getElem?_eq_some_iff.mp hi).1 hl
  have nl : (ns.map D.int).length < 1000000 := by rw [List.length_map]; omega
  by_cases hw : w = true ∧ 0 < num
  · obtain ⟨rfl, hw⟩ := hw
    refine ⟨[some (.int c), some (.int t), some (.lst (ss.map .int)), some (.int num), some (.bl true), some (.int seed), some (.hdl μ.length), some (.int i), some (.int s)], [some (.int c), some (.int t), some (.lst (ss.map .int)), some (.int (num / s)), some (.bl true), some (.int seed), some (.hdl μ.length), some (.int i), some (.int s)], μ ++ [.lst ((ns ++ [num % s]).map .int)], by simp, by simp [bDigX, hw, tyD, s0, s1, hn, show i < 1000000 by omega], ⟨num / s, seed, true, _, _, ns ++ [num % s], rfl, by simp, by simp [hn], fun j n s' e1 e2 => ?_, h0, h1⟩⟩
    rcases app_at e1 with e | ⟨rfl, rfl⟩
    · exact hb j n s' e e2
    · rw [hn] at e2
      rw [hi] at e2
      cases e2
      exact ⟨Int.emod_nonneg _ (by omega), Int.emod_lt_of_pos _ s0⟩
  · have hw' : w = false ∨ ¬ 0 < num := by
      cases w
      · exact .inl rfl
      · exact .inr fun z => hw ⟨rfl, z⟩
    have m0 := Int.emod_nonneg ((seed + 104729 * (((i : Nat) : Int) + 1)) ^ 2) (b := 2147483587) (by omega)
    have m1 := Int.emod_lt_of_pos ((seed + 104729 * (((i : Nat) : Int) + 1)) ^ 2) (b := 2147483587) (by omega)
    have hp : (seed + 104729 * (((i : Nat) : Int) + 1)).natAbs < 18446744073709551616 := by omega
    refine ⟨[some (.int c), some (.int t), some (.lst (ss.map .int)), some (.int num), some (.bl w), some (.int seed), some (.hdl μ.length), some (.int i), some (.int s)], _, _, by simp, ?_, ⟨num, (seed + 104729 * (((i : Nat) : Int) + 1)) ^ 2 % 2147483587, w, some (.int i), some (.int s), ns ++ [(seed + 104729 * (((i : Nat) : Int) + 1)) ^ 2 % 2147483587 / 16 % s], rfl, rfl, by simp [hn], fun j n s' e1 e2 => ?_, m0, by omega⟩⟩
    · rcases hw' with rfl | hw'
      · simp [bDigX, tyD, s0, s1, hn, show i < 1000000 by omega, hp]
      · cases w <;> simp [bDigX, hw', tyD, s0, s1, hn, show i < 1000000 by omega, hp]
    · rcases app_at e1 with e | ⟨rfl, rfl⟩
      · exact hb j n s' e e2
      · rw [hn] at e2
        rw [hi] at e2
        cases e2
        exact ⟨Int.emod_nonneg _ (by omega), Int.emod_lt_of_pos _ s0⟩
theorem digX_ok (c t : Int) (ht : 0 ≤ t ∧ t ≤ 1000000) (ss : List Int) (hs : ∀ s ∈ ss, 0 < s ∧ s < 1073741824) (hl : ss.length ≤ 1000) (μ : Mu) (hμ : closedMu μ.length μ = true) :
    ∃ ns : List Int, ns.length = ss.length ∧ (∀ (i : Nat) n s, ns[i]? = some n → ss[i]? = some s → 0 ≤ n ∧ n < s) ∧ callF 9 gDigX [.int c, .int t, .lst (ss.map .int)] μ = .ok (.lst (ns.map .int)) μ := by
  have m0 := Int.emod_nonneg (if c < 0 then -c else c) (b := 2147483647) (by omega)
  have m1 := Int.emod_lt_of_pos (if c < 0 then -c else c) (b := 2147483647) (by omega)
  have run := for_enum (t := .tp [(.nm 7), (.nm 8)]) (b := bDigX) (xs := ss.map D.int) (k := 0) (DigIX c t ss μ) (ρ := [some (.int c), some (.int t), some (.lst (ss.map .int)), some (.int (if c < 0 then -c else c)), some (.bl (decide (10 ^ 18 ≤ (if c < 0 then -c else c)))), some (.int ((if c < 0 then -c else c) % 2147483647 + 7919 * t)), some (.hdl μ.length), none, none]) (μ := μ ++ [.lst []])
    (fun i x hx ρ μ' h => by
      rw [List.getElem?_map] at hx
      cases hq : ss[i]? with
      | none => rw [hq] at hx; cases hx
      | some s =>
        rw [hq] at hx
        cases hx
        rw [Nat.zero_add] at h ⊢
        exact digX_step hs hl i s hq ρ μ' h)
    ⟨_, _, _, _, _, [], rfl, rfl, rfl, fun i n s e _ => (by simp at e), by omega, by omega⟩
  obtain ⟨ρ', μ', e, h⟩ := run
  obtain ⟨num, seed, w, a7, a8, ns, rfl, rfl, hn, hb, _, _⟩ := h.ex
  rw [List.length_map, Nat.zero_add] at hn
  refine ⟨ns, hn, hb, ?_⟩
  have body : gDigX (startD 9 [.int c, .int t, .lst (ss.map .int)]) μ = .rt (.lst (ns.map .int)) (μ ++ [.gone]) := by
    simp [gDigX, startD]
    simp at e
    rw [e]
    simp [show ns.length ≤ 1000000 by omega]
  rw [callF_eq _ _ _ _ _ _ body]
  exact trunc_app (by simp [D.closed, closed_ints]) hμ
end DL
/-! DL56: a law that goes through its script's cells by digits, each turn by itself. -/
namespace DL
open PySem L2
theorem enum_mem {xs : List D} {x : D} {k : Int} (h : x ∈ enumD k xs) : ∃ (i : Nat) (y : D), i < xs.length ∧ xs[i]? = some y ∧ x = .tup [.int (k + i), y] := by
  obtain ⟨i, hi⟩ := List.getElem?_of_mem h
  have hl := (List.getElem?_eq_some_iff.mp hi).1
  rw [enumD_len] at hl
  have e := enumD_get k xs i xs[i] (List.getElem?_eq_getElem hl)
  rw [hi] at e
  exact ⟨i, xs[i], hl, List.getElem?_eq_getElem hl, Option.some.inj e⟩
theorem turn_law {body : FS} {n : Nat} {al : List Nat} {k : Int} {sc : D}
    (hb : blank al (startD n [sc]) = List.replicate n none) (ha : ∀ a b, asg (.tp [.nm 1, .nm 2]) (.tup [a, b]) (List.replicate n none) = some (none :: some a :: some b :: List.replicate (n - 3) none))
    (hv : startD n [sc] = some sc :: List.replicate (n - 1) none)
    (ht : ∀ (i : Nat) (c : Int), i < 100 → turnB al n (body (none :: some (.int i) :: some (.int c) :: List.replicate (n - 3) none) []) = true) (ns : List Int) (hns : ns.length ≤ 63) (hs : sc = .lst (ns.map D.int)) :
    ∃ μ', callF n (gseq (gforT (itE (aCons (dsl (dbin addX (dvar 0) (dlst (aCons (dc (.int 1)) aNil))) onone (osome (dc (.int k)))) aNil)) (.tp [.nm 1, .nm 2]) body al) (gret (dc (.bl true)))) [sc] [] = .ok (.bl true) μ' := by
  obtain ⟨cs, hc⟩ : ∃ cs : List Int, DL.cutD ((ns ++ [1]).map D.int) none (some k) = cs.map D.int := ⟨_, by unfold DL.cutD; rw [← List.map_drop, ← List.map_take]⟩
  have hcl : cs.length ≤ 64 := by
    have := cutD_len ((ns ++ [1]).map D.int) none (some k)
    rw [hc] at this
    simp at this
    omega
  have e0 : DL.cutD (ns.map D.int ++ [D.int 1]) none (some k) = cs.map D.int := by
    rw [← hc]
    simp
  have run : forT (.tp [.nm 1, .nm 2]) body al (enumD 0 (cs.map D.int)) (List.replicate n none) [] = .nx (List.replicate n none) [] := by
    refine forT_all fun x hx => ?_
    obtain ⟨i, y, hi, hy, rfl⟩ := enum_mem hx
    rw [List.getElem?_map] at hy
    cases hq : cs[i]? with
    | none => rw [hq] at hy; cases hy
    | some c =>
      rw [hq] at hy
      cases hy
      refine ⟨_, ha _ _, ?_⟩
      rw [Int.zero_add]
      exact ht i c (by rw [List.length_map] at hi; omega)
  have it : itE (aCons (dsl (dbin addX (dvar 0) (dlst (aCons (dc (.int 1)) aNil))) onone (osome (dc (.int k)))) aNil) (startD n [sc]) [] = .ok (enumD 0 (cs.map D.int)) [] := by
    rw [hv, hs]
    simp [slD, show ns.length + 1 ≤ 1000000 by omega, e0]
  have go : gforT (itE (aCons (dsl (dbin addX (dvar 0) (dlst (aCons (dc (.int 1)) aNil))) onone (osome (dc (.int k)))) aNil)) (.tp [.nm 1, .nm 2]) body al (startD n [sc]) [] = .nx (List.replicate n none) [] := by
    unfold gforT
    rw [it, R.to_ok, hb]
    exact run
  have all : (gseq (gforT (itE (aCons (dsl (dbin addX (dvar 0) (dlst (aCons (dc (.int 1)) aNil))) onone (osome (dc (.int k)))) aNil)) (.tp [.nm 1, .nm 2]) body al) (gret (dc (.bl true)))) (startD n [sc]) [] = .rt (.bl true) [] := by
    rw [ap_seq, go]
    simp
  rw [callF_eq _ _ _ _ _ _ all]
  exact ⟨_, by simp [trunc, closedMu, D.closed]; rfl⟩
end DL
namespace DL46
open PySem PySem.Spec PyProof.Rows L2 DL
/-! the text -/
def topS (i : Nat) : Stmt := PySem.Challenge.pw_wholeparcels_k46_disc_refuses.main.body.getD i (.Pass ⟨0, 0, 0, 0⟩)
def clsS (i j : Nat) : Stmt := match topS i with
  | .ClassDef _ _ _ b _ _ _ _ _ _ _ => b.getD j (.Pass ⟨0, 0, 0, 0⟩)
  | s => s
abbrev s_Disc_init : Stmt := clsS 9 0
theorem sc_Disc_init : FnScope ["self", "room"] ["self"] (defScope s_Disc_init) := ⟨rfl, rfl, rfl, by decide +kernel, rfl, by decide +kernel, by decide +kernel⟩
abbrev s_Disc_look_at_room : Stmt := clsS 9 1
theorem sc_Disc_look_at_room : FnScope ["self", "room"] ["self", "room"] (defScope s_Disc_look_at_room) := ⟨rfl, rfl, rfl, by decide +kernel, rfl, by decide +kernel, by decide +kernel⟩
abbrev s_copied : Stmt := topS 8
theorem sc_copied : FnScope ["thing", "one"] ["thing"] (defScope s_copied) := ⟨rfl, rfl, rfl, by decide +kernel, rfl, by decide +kernel, by decide +kernel⟩
abbrev s_Disc_at : Stmt := clsS 9 6
theorem sc_Disc_at : FnScope ["self", "room", "key"] ["self", "room", "key"] (defScope s_Disc_at) := ⟨rfl, rfl, rfl, by decide +kernel, rfl, by decide +kernel, by decide +kernel⟩
abbrev s_Disc_let : Stmt := clsS 9 5
theorem sc_Disc_let : FnScope ["self", "many"] ["self", "many"] (defScope s_Disc_let) := ⟨rfl, rfl, rfl, by decide +kernel, rfl, by decide +kernel, by decide +kernel⟩
abbrev s_Disc_note : Stmt := clsS 9 8
theorem sc_Disc_note : FnScope ["self"] ["self"] (defScope s_Disc_note) := ⟨rfl, rfl, rfl, by decide +kernel, rfl, by decide +kernel, by decide +kernel⟩
abbrev s_Disc_one_write : Stmt := clsS 9 2
theorem sc_Disc_one_write : FnScope ["self"] ["self"] (defScope s_Disc_one_write) := ⟨rfl, rfl, rfl, by decide +kernel, rfl, by decide +kernel, by decide +kernel⟩
abbrev s_Disc_set_note : Stmt := clsS 9 4
theorem sc_Disc_set_note : FnScope ["self", "thing"] ["self", "thing"] (defScope s_Disc_set_note) := ⟨rfl, rfl, rfl, by decide +kernel, rfl, by decide +kernel, by decide +kernel⟩
abbrev s_Disc_whole : Stmt := clsS 9 7
theorem sc_Disc_whole : FnScope ["self", "room", "key", "worth"] ["self", "room"] (defScope s_Disc_whole) := ⟨rfl, rfl, rfl, by decide +kernel, rfl, by decide +kernel, by decide +kernel⟩
abbrev s_Disc_write : Stmt := clsS 9 3
theorem sc_Disc_write : FnScope ["self", "room", "key", "worth"] ["self", "room", "key", "worth"] (defScope s_Disc_write) := ⟨rfl, rfl, rfl, by decide +kernel, rfl, by decide +kernel, by decide +kernel⟩
abbrev s_Disc_writes : Stmt := clsS 9 9
theorem sc_Disc_writes : FnScope ["self"] ["self"] (defScope s_Disc_writes) := ⟨rfl, rfl, rfl, by decide +kernel, rfl, by decide +kernel, by decide +kernel⟩
abbrev s_law_digits : Stmt := topS 11
theorem sc_law_digits : FnScope ["_law_cell", "_law_turn", "_law_sizes", "_law_number", "_law_wide", "_law_seed", "_law_found", "_law_k", "_law_size"] ["_law_cell", "_law_turn", "_law_sizes"] (defScope s_law_digits) := ⟨rfl, rfl, rfl, by decide +kernel, rfl, by decide +kernel, by decide +kernel⟩
abbrev s_law_at : Stmt := topS 14
theorem sc_law_at : FnScope ["_law_some"] ["_law_some"] (defScope s_law_at) := ⟨rfl, rfl, rfl, by decide +kernel, rfl, by decide +kernel, by decide +kernel⟩
abbrev s_law_let : Stmt := topS 16
theorem sc_law_let : FnScope ["_law_some"] ["_law_some"] (defScope s_law_let) := ⟨rfl, rfl, rfl, by decide +kernel, rfl, by decide +kernel, by decide +kernel⟩
abbrev s_law_note : Stmt := topS 17
theorem sc_law_note : FnScope ["_law_some"] ["_law_some"] (defScope s_law_note) := ⟨rfl, rfl, rfl, by decide +kernel, rfl, by decide +kernel, by decide +kernel⟩
abbrev s_law_whole : Stmt := topS 15
theorem sc_law_whole : FnScope ["_law_some"] ["_law_some"] (defScope s_law_whole) := ⟨rfl, rfl, rfl, by decide +kernel, rfl, by decide +kernel, by decide +kernel⟩
abbrev s_law_write : Stmt := topS 13
theorem sc_law_write : FnScope ["_law_some"] ["_law_some"] (defScope s_law_write) := ⟨rfl, rfl, rfl, by decide +kernel, rfl, by decide +kernel, by decide +kernel⟩
abbrev s_law_said : Stmt := topS 12
theorem sc_law_said : FnScope ["_law_call", "_law_some", "e"] ["_law_call", "_law_some"] (defScope s_law_said) := ⟨rfl, rfl, rfl, by decide +kernel, rfl, by decide +kernel, by decide +kernel⟩
abbrev s_law : Stmt := topS 18
theorem sc_law : FnScope ["_law_script", "_law_turn", "_law_cell", "_law_d", "_law_disc", "_law_was", "_law_odd", "_law_call", "_law_none", "_law_k"] ["_law_script"] (defScope s_law) := ⟨rfl, rfl, rfl, by decide +kernel, rfl, by decide +kernel, by decide +kernel⟩
abbrev s_NoRoom_init : Stmt := clsS 4 0
theorem sc_NoRoom_init : FnScope ["self", "room"] ["self", "room"] (defScope s_NoRoom_init) := ⟨rfl, rfl, rfl, by decide +kernel, rfl, by decide +kernel, by decide +kernel⟩
abbrev s_NoNumber_init : Stmt := clsS 3 0
theorem sc_NoNumber_init : FnScope ["self", "number"] ["self", "number"] (defScope s_NoNumber_init) := ⟨rfl, rfl, rfl, by decide +kernel, rfl, by decide +kernel, by decide +kernel⟩
abbrev s_Stopped_init : Stmt := clsS 5 0
theorem sc_Stopped_init : FnScope ["self"] ["self"] (defScope s_Stopped_init) := ⟨rfl, rfl, rfl, by decide +kernel, rfl, by decide +kernel, by decide +kernel⟩
/-! names as numbers -/
abbrev cC_Disc : Nat := 1147761507
theorem nC_Disc : nmC cC_Disc = "Disc" := by decide +kernel
abbrev cv_law_whole : Nat := 450624087419687292333157
theorem nv_law_whole : nmC cv_law_whole = "_law_whole" := by decide +kernel
abbrev cv_law_at : Nat := 26859288657879412
theorem nv_law_at : nmC cv_law_at = "_law_at" := by decide +kernel
abbrev cv_law_write : Nat := 450624087419687459714149
theorem nv_law_write : nmC cv_law_write = "_law_write" := by decide +kernel
abbrev cv_law_let : Nat := 6875977896417846644
theorem nv_law_let : nmC cv_law_let = "_law_let" := by decide +kernel
abbrev cv_law_note : Nat := 1760250341483002950757
theorem nv_law_note : nmC cv_law_note = "_law_note" := by decide +kernel
abbrev cC_NoRoom : Nat := 86240031371117
theorem nC_NoRoom : nmC cC_NoRoom = "NoRoom" := by decide +kernel
abbrev cC_NoNumber : Nat := 5651822323626567026
theorem nC_NoNumber : nmC cC_NoNumber = "NoNumber" := by decide +kernel
abbrev cC_Stopped : Nat := 23490445043590500
theorem nC_Stopped : nmC cC_Stopped = "Stopped" := by decide +kernel
abbrev cC_WholeError : Nat := 412772374296909568962418
theorem nC_WholeError : nmC cC_WholeError = "WholeError" := by decide +kernel
def isAll : List Nat := [cC_Disc]
def exy_NoNumber : List Nat := [cC_NoNumber]
def exn_NoNumber : List Nat := [cC_NoRoom, cC_Stopped]
def exy_NoRoom : List Nat := [cC_NoRoom]
def exn_NoRoom : List Nat := [cC_NoNumber, cC_Stopped]
def exy_Stopped : List Nat := [cC_Stopped]
def exn_Stopped : List Nat := [cC_NoRoom, cC_NoNumber]
/-! what the defs are worth -/
def kb_b_Disc_at_1_key_room {α : Type} (us mv ws : List α) : List α := (pk us 0 (pk ws 1 (pk ws 0 [])))
def K_b_Disc_at_1_key_room (ds es : List D) : List D := kb_b_Disc_at_1_key_room ds [] es
def kb_b_Disc_write_1_worth_key_room {α : Type} (us mv ws : List α) : List α := (pk us 0 (pk ws 2 (pk ws 1 (pk ws 0 []))))
def K_b_Disc_write_1_worth_key_room (ds es : List D) : List D := kb_b_Disc_write_1_worth_key_room ds [] es
def kb_b_Disc_set_note_1_thing {α : Type} (us mv ws : List α) : List α := (pk us 0 (pk ws 0 []))
def K_b_Disc_set_note_1_thing (ds es : List D) : List D := kb_b_Disc_set_note_1_thing ds [] es
def kb_b_Disc_let_1_many {α : Type} (us mv ws : List α) : List α := (pk us 0 (pk ws 0 []))
def K_b_Disc_let_1_many (ds es : List D) : List D := kb_b_Disc_let_1_many ds [] es
def kb_b_Disc_whole_1_room {α : Type} (us mv ws : List α) : List α := (pk us 0 (pk ws 0 []))
def K_b_Disc_whole_1_room (ds es : List D) : List D := kb_b_Disc_whole_1_room ds [] es
def g_Disc_init : FS := (gseq (gsetat [cC_Disc] "rooms" (dvar 0) (ddc (itA (dc (.tup [(.str "files"), (.str "book"), (.str "asides"), (.str "choices"), (.str "offered"), (.str "marks"), (.str "made"), (.str "log")]))) [1] (.nm 1) tyes (dvar 1) dnew))
    (gseq (gsetat [cC_Disc] "own_note" (dvar 0) (dc .non))
    (gseq (gsetat [cC_Disc] "many_left" (dvar 0) (dc .non))
    (gseq (gsetat [cC_Disc] "many_done" (dvar 0) (dc (.int 0)))
    (gsetat [cC_Disc] "is_shut" (dvar 0) (dc (.bl false)))))))
def F_Disc_init : List D → Mu → R D := framed <| callF 2 g_Disc_init
def g_Disc_look_at_room : FS := (gif (tor (tnot (dtest (dcallB bIsi (aCons (dvar 1) (aCons (dc (.cst (.ty "str"))) aNil))))) (dtest (dbin (inX false dNotIn) (dvar 1) (dc (.tup [(.str "files"), (.str "book"), (.str "asides"), (.str "choices"), (.str "offered"), (.str "marks"), (.str "made"), (.str "log")]))))) (graise cC_NoRoom ["room"] (aCons (dvar 1) aNil)) gnil)
def F_Disc_look_at_room : List D → Mu → R D := framed <| callF 2 g_Disc_look_at_room
def g_copied (F_copied : List D → Mu → R D) : FS := (gseq (gif (dtest (dcallB bIsi (aCons (dvar 0) (aCons (dc (.cst (.ty "list"))) aNil)))) (gret (dlc (itA (dvar 0)) [1] (.nm 1) tyes (dcall F_copied [] (aCons (dvar 1) aNil)))) gnil)
    (gseq (gif (dtest (dcallB bIsi (aCons (dvar 0) (aCons (dc (.cst (.ty "tuple"))) aNil)))) (gret (dcallB bTupleX (aCons (dlc (itA (dvar 0)) [1] (.nm 1) tyes (dcall F_copied [] (aCons (dvar 1) aNil))) aNil))) gnil)
    (gret (dvar 0))))
def Fn_copied : Nat → List D → Mu → R D
  | 0 => fun _ _ => .bad
  | n + 1 => framed <| callF 2 (g_copied (Fn_copied n))
def F_copied : List D → Mu → R D := Fn_copied 12
def g_Disc_at : FS := (gseq (gexpr (dmeth cC_Disc "look_at_room" F_Disc_look_at_room [] (dvar 0) (aCons (dvar 1) aNil)))
    (gret (dcall F_copied [] (aCons (dbm "dict" mGet (dbin dIxX (dat [cC_Disc] "rooms" (dvar 0)) (dvar 1)) (aCons (dvar 2) aNil)) aNil))))
def F_Disc_at : List D → Mu → R D := framed <| callF 3 g_Disc_at
def g_Disc_let : FS := (gseq (gif (tand (dtest (dbin isntD (dvar 1) (dc .non))) (tor (tnot (dtest (dcallB bIsi (aCons (dvar 1) (aCons (dc (.cst (.ty "int"))) aNil))))) (tor (dtest (dcallB bIsi (aCons (dvar 1) (aCons (dc (.cst (.ty "bool"))) aNil)))) (dtest (dbin ltD (dvar 1) (dc (.int 0))))))) (graise cC_NoNumber ["number"] (aCons (dvar 1) aNil)) gnil)
    (gsetat [cC_Disc] "many_left" (dvar 0) (dvar 1)))
def F_Disc_let : List D → Mu → R D := framed <| callF 2 g_Disc_let
def g_Disc_note : FS := (gret (dcall F_copied [] (aCons (dat [cC_Disc] "own_note" (dvar 0)) aNil)))
def F_Disc_note : List D → Mu → R D := framed <| callF 1 g_Disc_note
def g_Disc_one_write : FS := (gseq (gif (dtest (dbin isntD (dat [cC_Disc] "many_left" (dvar 0)) (dc .non))) (gseq (gif (dtest (dbin dEqM (dat [cC_Disc] "many_left" (dvar 0)) (dc (.int 0)))) (graise cC_Stopped [] aNil) gnil)
    (gaugat [cC_Disc] "many_left" subI (dvar 0) (dc (.int 1)))) gnil)
    (gaugat [cC_Disc] "many_done" addI (dvar 0) (dc (.int 1))))
def F_Disc_one_write : List D → Mu → R D := framed <| callF 1 g_Disc_one_write
def g_Disc_set_note : FS := (gseq (gexpr (dmeth cC_Disc "one_write" F_Disc_one_write [] (dvar 0) aNil))
    (gsetat [cC_Disc] "own_note" (dvar 0) (dcall F_copied [] (aCons (dvar 1) aNil))))
def F_Disc_set_note : List D → Mu → R D := framed <| callF 2 g_Disc_set_note
def g_Disc_whole : FS := (gseq (gexpr (dmeth cC_Disc "look_at_room" F_Disc_look_at_room [] (dvar 0) (aCons (dvar 1) aNil)))
    (gret (dlockE pairsD (dbin dIxX (dat [cC_Disc] "rooms" (dvar 0)) (dvar 1)) (kdc [2, 3] (.tp [(.nm 2), (.nm 3)]) tyes (dvar 2) (dcall F_copied [] (aCons (dvar 3) aNil))))))
def F_Disc_whole : List D → Mu → R D := framed <| callF 4 g_Disc_whole
def g_Disc_write : FS := (gseq (gexpr (dmeth cC_Disc "look_at_room" F_Disc_look_at_room [] (dvar 0) (aCons (dvar 1) aNil)))
    (gseq (gexpr (dmeth cC_Disc "one_write" F_Disc_one_write [] (dvar 0) aNil))
    (gif (dtest (dbin isD (dvar 3) (dc .non))) (gexpr (dbm "dict" mPop (dbin dIxX (dat [cC_Disc] "rooms" (dvar 0)) (dvar 1)) (aCons (dvar 2) (aCons (dc .non) aNil)))) (gsetixX (dbin dIxX (dat [cC_Disc] "rooms" (dvar 0)) (dvar 1)) (dvar 2) (dcall F_copied [] (aCons (dvar 3) aNil))))))
def F_Disc_write : List D → Mu → R D := framed <| callF 4 g_Disc_write
def g_Disc_writes : FS := (gret (dat [cC_Disc] "many_done" (dvar 0)))
def F_Disc_writes : List D → Mu → R D := framed <| callF 1 g_Disc_writes
def g_law_digits : FS := (gseq (gasg (.nm 3) (dcallB bAbs (aCons (dvar 0) aNil)))
    (gseq (gasg (.nm 4) (dbin geD (dvar 3) (dbin powD (dc (.int 10)) (dc (.int 18)))))
    (gseq (gasg (.nm 5) (dbin addX (dbin modD (dvar 3) (dc (.int 2147483647))) (dbin mulX (dc (.int 7919)) (dvar 1))))
    (gseq (gasg (.nm 6) (dcel aNil))
    (gseq (gfor (itE (aCons (dvar 2) aNil)) (.tp [(.nm 7), (.nm 8)]) (gif (tand (dtest (dvar 4)) (dtest (dbin gtD (dvar 3) (dc (.int 0))))) (gseq (gexpr (dbm "list" mAppend (dvar 6) (aCons (dbin modD (dvar 3) (dvar 8)) aNil)))
    (gasg (.nm 3) (dbin fdivD (dvar 3) (dvar 8)))) (gseq (gasg (.nm 5) (dbin modD (dbin powD (dbin addX (dvar 5) (dbin mulX (dc (.int 104729)) (dbin addX (dvar 7) (dc (.int 1))))) (dc (.int 2))) (dc (.int 2147483587))))
    (gexpr (dbm "list" mAppend (dvar 6) (aCons (dbin modD (dbin fdivD (dvar 5) (dc (.int 16))) (dvar 8)) aNil))))))
    (gret (dfrz (dvar 6))))))))
def F_law_digits : List D → Mu → R D := framed <| callF 9 g_law_digits
def g_law_at : FS := (gexpr (dmeth cC_Disc "at" F_Disc_at [] (dbin dIxX (dvar 0) (dc (.int 0))) (aCons (dbin dIxX (dvar 0) (dc (.int 1))) (aCons (dc (.str "k")) aNil))))
def F_law_at : List D → Mu → R D := framed <| callF 1 g_law_at
def g_law_let : FS := (gexpr (dmeth cC_Disc "let" F_Disc_let [] (dbin dIxX (dvar 0) (dc (.int 0))) (aCons (dbin dIxX (dvar 0) (dc (.int 1))) aNil)))
def F_law_let : List D → Mu → R D := framed <| callF 1 g_law_let
def g_law_note : FS := (gexpr (dmeth cC_Disc "set_note" F_Disc_set_note [] (dbin dIxX (dvar 0) (dc (.int 0))) (aCons (dbin dIxX (dvar 0) (dc (.int 1))) aNil)))
def F_law_note : List D → Mu → R D := framed <| callF 1 g_law_note
def g_law_whole : FS := (gexpr (dmeth cC_Disc "whole" F_Disc_whole [] (dbin dIxX (dvar 0) (dc (.int 0))) (aCons (dbin dIxX (dvar 0) (dc (.int 1))) aNil)))
def F_law_whole : List D → Mu → R D := framed <| callF 1 g_law_whole
def g_law_write : FS := (gexpr (dmeth cC_Disc "write" F_Disc_write [] (dbin dIxX (dvar 0) (dc (.int 0))) (aCons (dbin dIxX (dvar 0) (dc (.int 1))) (aCons (dc (.str "k")) (aCons (dc (.int 1)) aNil)))))
def F_law_write : List D → Mu → R D := framed <| callF 1 g_law_write
def g_law_said : FS := (gseq (gtry (gexpr (dchoose (isFn 0 cv_law_write) (dcallL 0 cv_law_write F_law_write [] (aCons (dvar 1) aNil)) (dchoose (isFn 0 cv_law_at) (dcallL 0 cv_law_at F_law_at [] (aCons (dvar 1) aNil)) (dchoose (isFn 0 cv_law_whole) (dcallL 0 cv_law_whole F_law_whole [] (aCons (dvar 1) aNil)) (dchoose (isFn 0 cv_law_let) (dcallL 0 cv_law_let F_law_let [] (aCons (dvar 1) aNil)) (dchoose (isFn 0 cv_law_note) (dcallL 0 cv_law_note F_law_note [] (aCons (dvar 1) aNil)) dbad)))))) [(Cl.mk (mL exy_NoRoom exn_NoRoom) (some 2) (fun cc fs => (gret (dlst (aCons (dc (.str "room")) (aCons (dcallB bReprM (aCons (dxf fs "room") aNil)) (aCons (dc (.bl true)) aNil))))))), (Cl.mk (mL exy_NoNumber exn_NoNumber) (some 2) (fun cc fs => (gret (dlst (aCons (dc (.str "number")) (aCons (dcallB bReprM (aCons (dxf fs "number") aNil)) (aCons (dc (.bl true)) aNil))))))), (Cl.mk (mL exy_Stopped exn_Stopped) none (fun cc fs => (gret (dlst (aCons (dc (.str "stopped")) aNil)))))])
    (gret (dlst (aCons (dc (.str "told")) aNil))))
def F_law_said : List D → Mu → R D := framed <| callF 3 g_law_said
def g_rest : FS := (gseq (gasg (.nm 4) (dmake (makeM cC_Disc F_Disc_init) [] aNil))
    (gseq (gexpr (dmeth cC_Disc "write" F_Disc_write [] (dvar 4) (aCons (dc (.str "files")) (aCons (dc (.str "k")) (aCons (dtup (aCons (dc (.int 3)) (aCons (dc .non) aNil))) aNil)))))
    (gseq (gexpr (dmeth cC_Disc "set_note" F_Disc_set_note [] (dvar 4) (aCons (dlst (aCons (dc (.str "n")) aNil)) aNil)))
    (gseq (gif (dtest (dbin gtD (dbin dIxX (dvar 3) (dc (.int 0))) (dc (.int 0)))) (gexpr (dmeth cC_Disc "let" F_Disc_let [] (dvar 4) (aCons (dbin subD (dbin dIxX (dvar 3) (dc (.int 0))) (dc (.int 1))) aNil))) gnil)
    (gseq (gasg (.nm 5) (dlst (aCons (dmeth cC_Disc "whole" F_Disc_whole [] (dvar 4) (aCons (dc (.str "files")) aNil)) (aCons (dmeth cC_Disc "note" F_Disc_note [] (dvar 4) aNil) (aCons (dmeth cC_Disc "writes" F_Disc_writes [] (dvar 4) aNil) aNil)))))
    (gseq (gasg (.nm 6) (dbin dIxX (dlst (aCons (dc .non) (aCons (dc (.str "file")) (aCons (dc (.str "note")) (aCons (dc (.int 3)) (aCons (dtup (aCons (dc (.str "files")) aNil)) (aCons (dlst (aCons (dc (.str "files")) aNil)) (aCons dnew (aCons (dc (.bl true)) (aCons (dc (.str "")) aNil)))))))))) (dbin dIxX (dvar 3) (dc (.int 1)))))
    (gseq (gfor (itA (dlst (aCons (dc (dfn cv_law_write)) (aCons (dc (dfn cv_law_at)) (aCons (dc (dfn cv_law_whole)) aNil))))) (.nm 7) (gif (dtest (dbin dNeM (dcall F_law_said [] (aCons (dvar 7) (aCons (dtup (aCons (dvar 4) (aCons (dvar 6) aNil))) aNil))) (dlst (aCons (dc (.str "room")) (aCons (dcallB bReprM (aCons (dvar 6) aNil)) (aCons (dc (.bl true)) aNil)))))) (gret (dc (.bl false))) gnil))
    (gseq (gasg (.nm 8) (dbin dIxX (dlst (aCons (dneg (dc (.int 1))) (aCons (dc (.bl true)) (aCons (dc (.bl false)) (aCons (dc (.str "3")) (aCons (dlst (aCons (dc (.int 1)) aNil)) (aCons (dtup aNil) (aCons dnew (aCons (dc (.str "any")) (aCons (dneg (dbin powD (dc (.int 10)) (dc (.int 20)))) aNil)))))))))) (dbin dIxX (dvar 3) (dc (.int 2)))))
    (gseq (gif (dtest (dbin dNeM (dcall F_law_said [] (aCons (dc (dfn cv_law_let)) (aCons (dtup (aCons (dvar 4) (aCons (dvar 8) aNil))) aNil))) (dlst (aCons (dc (.str "number")) (aCons (dcallB bReprM (aCons (dvar 8) aNil)) (aCons (dc (.bl true)) aNil)))))) (gret (dc (.bl false))) gnil)
    (gseq (gif (dtest (dbin dNeM (dlst (aCons (dmeth cC_Disc "whole" F_Disc_whole [] (dvar 4) (aCons (dc (.str "files")) aNil)) (aCons (dmeth cC_Disc "note" F_Disc_note [] (dvar 4) aNil) (aCons (dmeth cC_Disc "writes" F_Disc_writes [] (dvar 4) aNil) aNil)))) (dvar 5))) (gret (dc (.bl false))) gnil)
    (gseq (gfor (itR1 (aCons (dbin subD (dbin dIxX (dvar 3) (dc (.int 0))) (dc (.int 1))) aNil)) (.nm 9) (gif (dtest (dbin dNeM (dcall F_law_said [] (aCons (dbin dIxX (dlst (aCons (dc (dfn cv_law_write)) (aCons (dc (dfn cv_law_note)) aNil))) (dbin modD (dbin addX (dvar 9) (dbin dIxX (dvar 3) (dc (.int 3)))) (dc (.int 2)))) (aCons (dtup (aCons (dvar 4) (aCons (dc (.str "made")) aNil))) aNil))) (dlst (aCons (dc (.str "told")) aNil)))) (gret (dc (.bl false))) gnil))
    (gseq (gif (dtest (dbin gtD (dbin dIxX (dvar 3) (dc (.int 0))) (dc (.int 0)))) (gseq (gasg (.nm 5) (dlst (aCons (dmeth cC_Disc "whole" F_Disc_whole [] (dvar 4) (aCons (dc (.str "files")) aNil)) (aCons (dmeth cC_Disc "note" F_Disc_note [] (dvar 4) aNil) (aCons (dmeth cC_Disc "writes" F_Disc_writes [] (dvar 4) aNil) aNil)))))
    (gseq (gfor (itA (dlst (aCons (dc (dfn cv_law_write)) (aCons (dc (dfn cv_law_note)) (aCons (dc (dfn cv_law_write)) aNil))))) (.nm 7) (gif (dtest (dbin dNeM (dcall F_law_said [] (aCons (dvar 7) (aCons (dtup (aCons (dvar 4) (aCons (dc (.str "made")) aNil))) aNil))) (dlst (aCons (dc (.str "stopped")) aNil)))) (gret (dc (.bl false))) gnil))
    (gif (dtest (dbin dNeM (dlst (aCons (dmeth cC_Disc "whole" F_Disc_whole [] (dvar 4) (aCons (dc (.str "files")) aNil)) (aCons (dmeth cC_Disc "note" F_Disc_note [] (dvar 4) aNil) (aCons (dmeth cC_Disc "writes" F_Disc_writes [] (dvar 4) aNil) aNil)))) (dvar 5))) (gret (dc (.bl false))) gnil))) gnil)
    (gseq (gif (tor (dtest (dbin dNeM (dcall F_law_said [] (aCons (dc (dfn cv_law_at)) (aCons (dtup (aCons (dvar 4) (aCons (dc (.str "made")) aNil))) aNil))) (dlst (aCons (dc (.str "told")) aNil)))) (dtest (dbin dNeM (dcall F_law_said [] (aCons (dc (dfn cv_law_let)) (aCons (dtup (aCons (dvar 4) (aCons (dc .non) aNil))) aNil))) (dlst (aCons (dc (.str "told")) aNil))))) (gret (dc (.bl false))) gnil)
    (gseq (gif (tor (dtest (dbin dNeM (dcall F_law_said [] (aCons (dc (dfn cv_law_write)) (aCons (dtup (aCons (dvar 4) (aCons (dc (.str "log")) aNil))) aNil))) (dlst (aCons (dc (.str "told")) aNil)))) (dtest (dbin dNeM (dmethK cC_Disc "at" F_Disc_at K_b_Disc_at_1_key_room (dvar 4) aNil (aCons (dc (.str "k")) (aCons (dc (.str "log")) aNil))) (dc (.int 1))))) (gret (dc (.bl false))) gnil)
    (gseq (gexpr (dmethK cC_Disc "write" F_Disc_write K_b_Disc_write_1_worth_key_room (dvar 4) aNil (aCons (dc .non) (aCons (dc (.str "k")) (aCons (dc (.str "log")) aNil)))))
    (gseq (gexpr (dmethK cC_Disc "set_note" F_Disc_set_note K_b_Disc_set_note_1_thing (dvar 4) aNil (aCons (dc .non) aNil)))
    (gseq (gexpr (dmethK cC_Disc "let" F_Disc_let K_b_Disc_let_1_many (dvar 4) aNil (aCons (dc (.int 0)) aNil)))
    (gif (tor (dtest (dbin dNeM (dmethK cC_Disc "whole" F_Disc_whole K_b_Disc_whole_1_room (dvar 4) aNil (aCons (dc (.str "log")) aNil)) dnew)) (dtest (dbin isntD (dmeth cC_Disc "note" F_Disc_note [] (dvar 4) aNil) (dc .non)))) (gret (dc (.bl false))) gnil))))))))))))))))))
def g_law : FS := (gseq (gforT (itE (aCons (dsl (dbin addX (dvar 0) (dlst (aCons (dc (.int 1)) aNil))) onone (osome (dc (.int 12)))) aNil)) (.tp [(.nm 1), (.nm 2)]) (gseq (gasg (.nm 3) (dcall F_law_digits [] (aCons (dvar 2) (aCons (dvar 1) (aCons (dlst (aCons (dc (.int 4)) (aCons (dc (.int 9)) (aCons (dc (.int 9)) (aCons (dc (.int 5)) aNil))))) aNil)))))
    (gforget [0, 1, 2, 4, 5, 6, 7, 8, 9] g_rest)) [0, 1, 2, 3, 4, 5, 6, 7, 8, 9])
    (gret (dc (.bl true))))
def F_law : List D → Mu → R D := callF 10 g_law
/-! what the top has left -/
abbrev FnP (K : PySem.W.Frag) (x q : Str) (st : Stmt) (kws : List (Str × V)) (f : Addr) (fd : FuncData) : Prop := FunD K x q (defArgs st) (defBody st) (defScope st) [] kws f fd
structure Tops (K : PySem.W.Frag) (mg : Str → Option Value) where
  m_Disc : mg "Disc" = some (.ref (cl K cC_Disc))
  cl_Disc : Cls K (cl K cC_Disc)
  f_Disc_init : Addr
  d_Disc_init : FuncData
  F_Disc_init : FnP K "__init__" "Disc.__init__" s_Disc_init [] f_Disc_init d_Disc_init
  fn_Disc_init : PySem.W.isFn K (.ref f_Disc_init) = true
  f_Disc_look_at_room : Addr
  d_Disc_look_at_room : FuncData
  F_Disc_look_at_room : FnP K "look_at_room" "Disc.look_at_room" s_Disc_look_at_room [] f_Disc_look_at_room d_Disc_look_at_room
  fn_Disc_look_at_room : PySem.W.isFn K (.ref f_Disc_look_at_room) = true
  f_copied : Addr
  d_copied : FuncData
  F_copied : FnP K "copied" "copied" s_copied [] f_copied d_copied
  m_copied : mg "copied" = some (.ref f_copied)
  f_Disc_at : Addr
  d_Disc_at : FuncData
  F_Disc_at : FnP K "at" "Disc.at" s_Disc_at [] f_Disc_at d_Disc_at
  fn_Disc_at : PySem.W.isFn K (.ref f_Disc_at) = true
  f_Disc_let : Addr
  d_Disc_let : FuncData
  F_Disc_let : FnP K "let" "Disc.let" s_Disc_let [] f_Disc_let d_Disc_let
  fn_Disc_let : PySem.W.isFn K (.ref f_Disc_let) = true
  f_Disc_note : Addr
  d_Disc_note : FuncData
  F_Disc_note : FnP K "note" "Disc.note" s_Disc_note [] f_Disc_note d_Disc_note
  fn_Disc_note : PySem.W.isFn K (.ref f_Disc_note) = true
  f_Disc_one_write : Addr
  d_Disc_one_write : FuncData
  F_Disc_one_write : FnP K "one_write" "Disc.one_write" s_Disc_one_write [] f_Disc_one_write d_Disc_one_write
  fn_Disc_one_write : PySem.W.isFn K (.ref f_Disc_one_write) = true
  f_Disc_set_note : Addr
  d_Disc_set_note : FuncData
  F_Disc_set_note : FnP K "set_note" "Disc.set_note" s_Disc_set_note [] f_Disc_set_note d_Disc_set_note
  fn_Disc_set_note : PySem.W.isFn K (.ref f_Disc_set_note) = true
  f_Disc_whole : Addr
  d_Disc_whole : FuncData
  F_Disc_whole : FnP K "whole" "Disc.whole" s_Disc_whole [] f_Disc_whole d_Disc_whole
  fn_Disc_whole : PySem.W.isFn K (.ref f_Disc_whole) = true
  f_Disc_write : Addr
  d_Disc_write : FuncData
  F_Disc_write : FnP K "write" "Disc.write" s_Disc_write [] f_Disc_write d_Disc_write
  fn_Disc_write : PySem.W.isFn K (.ref f_Disc_write) = true
  f_Disc_writes : Addr
  d_Disc_writes : FuncData
  F_Disc_writes : FnP K "writes" "Disc.writes" s_Disc_writes [] f_Disc_writes d_Disc_writes
  fn_Disc_writes : PySem.W.isFn K (.ref f_Disc_writes) = true
  f_law_digits : Addr
  d_law_digits : FuncData
  F_law_digits : FnP K "_law_digits" "_law_digits" s_law_digits [] f_law_digits d_law_digits
  m_law_digits : mg "_law_digits" = some (.ref f_law_digits)
  f_law_at : Addr
  d_law_at : FuncData
  F_law_at : FnP K "_law_at" "_law_at" s_law_at [] f_law_at d_law_at
  m_law_at : mg "_law_at" = some (.ref f_law_at)
  mv_law_at : mg "_law_at" = some (.ref (cl K cv_law_at))
  fv_law_at : f_law_at = cl K cv_law_at
  f_law_let : Addr
  d_law_let : FuncData
  F_law_let : FnP K "_law_let" "_law_let" s_law_let [] f_law_let d_law_let
  m_law_let : mg "_law_let" = some (.ref f_law_let)
  mv_law_let : mg "_law_let" = some (.ref (cl K cv_law_let))
  fv_law_let : f_law_let = cl K cv_law_let
  f_law_note : Addr
  d_law_note : FuncData
  F_law_note : FnP K "_law_note" "_law_note" s_law_note [] f_law_note d_law_note
  m_law_note : mg "_law_note" = some (.ref f_law_note)
  mv_law_note : mg "_law_note" = some (.ref (cl K cv_law_note))
  fv_law_note : f_law_note = cl K cv_law_note
  f_law_whole : Addr
  d_law_whole : FuncData
  F_law_whole : FnP K "_law_whole" "_law_whole" s_law_whole [] f_law_whole d_law_whole
  m_law_whole : mg "_law_whole" = some (.ref f_law_whole)
  mv_law_whole : mg "_law_whole" = some (.ref (cl K cv_law_whole))
  fv_law_whole : f_law_whole = cl K cv_law_whole
  f_law_write : Addr
  d_law_write : FuncData
  F_law_write : FnP K "_law_write" "_law_write" s_law_write [] f_law_write d_law_write
  m_law_write : mg "_law_write" = some (.ref f_law_write)
  mv_law_write : mg "_law_write" = some (.ref (cl K cv_law_write))
  fv_law_write : f_law_write = cl K cv_law_write
  f_law_said : Addr
  d_law_said : FuncData
  F_law_said : FnP K "_law_said" "_law_said" s_law_said [] f_law_said d_law_said
  m_law_said : mg "_law_said" = some (.ref f_law_said)
  f_law : Addr
  d_law : FuncData
  F_law : FnP K "law" "law" s_law [] f_law d_law
  m_law : mg "law" = some (.ref f_law)
  f_NoRoom_init : Addr
  d_NoRoom_init : FuncData
  F_NoRoom_init : FnP K "__init__" "NoRoom.__init__" s_NoRoom_init [] f_NoRoom_init d_NoRoom_init
  f_NoNumber_init : Addr
  d_NoNumber_init : FuncData
  F_NoNumber_init : FnP K "__init__" "NoNumber.__init__" s_NoNumber_init [] f_NoNumber_init d_NoNumber_init
  f_Stopped_init : Addr
  d_Stopped_init : FuncData
  F_Stopped_init : FnP K "__init__" "Stopped.__init__" s_Stopped_init [] f_Stopped_init d_Stopped_init
  m_NoNumber : mg "NoNumber" = some (.ref (cl K cC_NoNumber))
  m_NoRoom : mg "NoRoom" = some (.ref (cl K cC_NoRoom))
  m_Stopped : mg "Stopped" = some (.ref (cl K cC_Stopped))
  m_WholeError : mg "WholeError" = some (.ref (cl K cC_WholeError))
  oex_NoRoom : OexG K (cl K cC_NoRoom) (Bk.init .ke)
  ini_NoRoom : PySem.W.findIn K (.ref (cl K cC_NoRoom)) "__init__" = some (some (.ref f_NoRoom_init)) ∧ PySem.W.typeIn K (.ref f_NoRoom_init) = some (.type "function")
  exc_NoRoom : ExcC K (cl K cC_NoRoom) ∧ XfC K (cl K cC_NoRoom)
  xf_NoRoom_room : PySem.W.findIn K (.ref (cl K cC_NoRoom)) "room" = some none
  oex_NoNumber : OexG K (cl K cC_NoNumber) (Bk.init .ve)
  ini_NoNumber : PySem.W.findIn K (.ref (cl K cC_NoNumber)) "__init__" = some (some (.ref f_NoNumber_init)) ∧ PySem.W.typeIn K (.ref f_NoNumber_init) = some (.type "function")
  exc_NoNumber : ExcC K (cl K cC_NoNumber) ∧ XfC K (cl K cC_NoNumber)
  xf_NoNumber_number : PySem.W.findIn K (.ref (cl K cC_NoNumber)) "number" = some none
  oex_Stopped : OexG K (cl K cC_Stopped) (Bk.init .rt)
  ini_Stopped : PySem.W.findIn K (.ref (cl K cC_Stopped)) "__init__" = some (some (.ref f_Stopped_init)) ∧ PySem.W.typeIn K (.ref f_Stopped_init) = some (.type "function")
  exc_Stopped : ExcC K (cl K cC_Stopped) ∧ XfC K (cl K cC_Stopped)
  gm_WholeError : gmB K cC_WholeError (Bk.init .ve) = true
  gm_KeyError : gmTB K .ke = true
  gm_RuntimeError : gmTB K .rt = true
  exm_NoNumber : ∀ c b, mL exy_NoNumber exn_NoNumber c = some b → PySem.W.exmOne K (.ref (cl K c)) (.ref (cl K cC_NoNumber)) = some b
  exm_NoRoom : ∀ c b, mL exy_NoRoom exn_NoRoom c = some b → PySem.W.exmOne K (.ref (cl K c)) (.ref (cl K cC_NoRoom)) = some b
  exm_Stopped : ∀ c b, mL exy_Stopped exn_Stopped c = some b → PySem.W.exmOne K (.ref (cl K c)) (.ref (cl K cC_Stopped)) = some b
  kit_NoNumber_WholeError : PySem.W.kitOne K (.ref (cl K cC_NoNumber)) (.ref (cl K cC_WholeError)) = some true
  kit_NoRoom_KeyError : PySem.W.kitOne K (.ref (cl K cC_NoRoom)) (.type "KeyError") = some true
  me_Disc_at : Meth K (cl K cC_Disc) "at" f_Disc_at
  me_Disc_let : Meth K (cl K cC_Disc) "let" f_Disc_let
  me_Disc_look_at_room : Meth K (cl K cC_Disc) "look_at_room" f_Disc_look_at_room
  me_Disc_note : Meth K (cl K cC_Disc) "note" f_Disc_note
  me_Disc_one_write : Meth K (cl K cC_Disc) "one_write" f_Disc_one_write
  me_Disc_set_note : Meth K (cl K cC_Disc) "set_note" f_Disc_set_note
  me_Disc_whole : Meth K (cl K cC_Disc) "whole" f_Disc_whole
  me_Disc_write : Meth K (cl K cC_Disc) "write" f_Disc_write
  me_Disc_writes : Meth K (cl K cC_Disc) "writes" f_Disc_writes
  mk_Disc : Mk K (cl K cC_Disc) f_Disc_init
  at_is_shut : ∀ C ∈ [cC_Disc], Cls K (cl K C) ∧ NoAttr K (cl K C) "is_shut"
  at_many_done : ∀ C ∈ [cC_Disc], Cls K (cl K C) ∧ NoAttr K (cl K C) "many_done"
  at_many_left : ∀ C ∈ [cC_Disc], Cls K (cl K C) ∧ NoAttr K (cl K C) "many_left"
  at_own_note : ∀ C ∈ [cC_Disc], Cls K (cl K C) ∧ NoAttr K (cl K C) "own_note"
  at_rooms : ∀ C ∈ [cC_Disc], Cls K (cl K C) ∧ NoAttr K (cl K C) "rooms"
  z_KeyError : mg "KeyError" = none
  z_RuntimeError : mg "RuntimeError" = none
  z_abs : mg "abs" = none
  z_bool : mg "bool" = none
  z_enumerate : mg "enumerate" = none
  z_int : mg "int" = none
  z_isinstance : mg "isinstance" = none
  z_list : mg "list" = none
  z_range : mg "range" = none
  z_repr : mg "repr" = none
  z_str : mg "str" = none
  z_tuple : mg "tuple" = none
  c_ROOMS : { q : Value × V // mg "ROOMS" = some q.1 ∧ RelV q.2 q.1 ∧ ∀ W, Rep K W q.2 (.tup [(.str "files"), (.str "book"), (.str "asides"), (.str "choices"), (.str "offered"), (.str "marks"), (.str "made"), (.str "log")]) }
section
variable {P : Program} {w : World} {K : PySem.W.Frag} {mg : Str → Option Value} {base : Heap}
theorem Tops.b_Disc_init_1 (T : Tops K mg) : Dfl K T.d_Disc_init ["self"] 1 [] := dfl0 (T.F_Disc_init.bindsN fun _ _ _ _ _ _ us hl => match us, hl with | [_], _ => rfl)
theorem Tops.b_Disc_write_4 (T : Tops K mg) : Dfl K T.d_Disc_write ["self", "room", "key", "worth"] 4 [] := dfl0 (T.F_Disc_write.bindsN fun _ _ _ _ _ _ us hl => match us, hl with | [_, _, _, _], _ => rfl)
theorem Tops.b_Disc_set_note_2 (T : Tops K mg) : Dfl K T.d_Disc_set_note ["self", "thing"] 2 [] := dfl0 (T.F_Disc_set_note.bindsN fun _ _ _ _ _ _ us hl => match us, hl with | [_, _], _ => rfl)
theorem Tops.b_Disc_let_2 (T : Tops K mg) : Dfl K T.d_Disc_let ["self", "many"] 2 [] := dfl0 (T.F_Disc_let.bindsN fun _ _ _ _ _ _ us hl => match us, hl with | [_, _], _ => rfl)
theorem Tops.b_Disc_writes_1 (T : Tops K mg) : Dfl K T.d_Disc_writes ["self"] 1 [] := dfl0 (T.F_Disc_writes.bindsN fun _ _ _ _ _ _ us hl => match us, hl with | [_], _ => rfl)
theorem Tops.b_Disc_note_1 (T : Tops K mg) : Dfl K T.d_Disc_note ["self"] 1 [] := dfl0 (T.F_Disc_note.bindsN fun _ _ _ _ _ _ us hl => match us, hl with | [_], _ => rfl)
theorem Tops.b_Disc_whole_2 (T : Tops K mg) : Dfl K T.d_Disc_whole ["self", "room"] 2 [] := dfl0 (T.F_Disc_whole.bindsN fun _ _ _ _ _ _ us hl => match us, hl with | [_, _], _ => rfl)
theorem Tops.b_law_said_2 (T : Tops K mg) : Dfl K T.d_law_said ["_law_call", "_law_some"] 2 [] := dfl0 (T.F_law_said.bindsN fun _ _ _ _ _ _ us hl => match us, hl with | [_, _], _ => rfl)
theorem Tops.b_Disc_at_1_key_room (T : Tops K mg) : KDfl K T.d_Disc_at ["self", "room", "key"] 1 ["key", "room"] K_b_Disc_at_1_key_room := by
  refine kdfl_none T.F_Disc_at 1 ["key", "room"] [] [] (fun {α} => kb_b_Disc_at_1_key_room) (by simp) (by simp) (fun r1 r2 r3 => (vals_pk (vals_pk (vals_pk .nil 0 r3) 1 r3) 0 r1)) (fun W vs ds zs es h1 h2 r1 r2 => ?_) (fun us mv ws h1 h2 h3 => ?_) (fun D doc pm an cdv ct us mv ws h1 h2 h3 => ?_)
  · have rm : Reps K W ([] : List V) ([] : List D) := .nil
    exact (reps_pk (reps_pk (reps_pk .nil 0 r2) 1 r2) 0 r1)
  · match us, mv, ws, h1, h2, h3 with | [_], [], [_, _], _, _, _ => rfl
  · match us, mv, ws, h1, h2, h3 with | [_], [], [_, _], _, _, _ => exact rfl
theorem Tops.b_Disc_write_1_worth_key_room (T : Tops K mg) : KDfl K T.d_Disc_write ["self", "room", "key", "worth"] 1 ["worth", "key", "room"] K_b_Disc_write_1_worth_key_room := by
  refine kdfl_none T.F_Disc_write 1 ["worth", "key", "room"] [] [] (fun {α} => kb_b_Disc_write_1_worth_key_room) (by simp) (by simp) (fun r1 r2 r3 => (vals_pk (vals_pk (vals_pk (vals_pk .nil 0 r3) 1 r3) 2 r3) 0 r1)) (fun W vs ds zs es h1 h2 r1 r2 => ?_) (fun us mv ws h1 h2 h3 => ?_) (fun D doc pm an cdv ct us mv ws h1 h2 h3 => ?_)
  · have rm : Reps K W ([] : List V) ([] : List D) := .nil
    exact (reps_pk (reps_pk (reps_pk (reps_pk .nil 0 r2) 1 r2) 2 r2) 0 r1)
  · match us, mv, ws, h1, h2, h3 with | [_], [], [_, _, _], _, _, _ => rfl
  · match us, mv, ws, h1, h2, h3 with | [_], [], [_, _, _], _, _, _ => exact rfl
theorem Tops.b_Disc_set_note_1_thing (T : Tops K mg) : KDfl K T.d_Disc_set_note ["self", "thing"] 1 ["thing"] K_b_Disc_set_note_1_thing := by
  refine kdfl_none T.F_Disc_set_note 1 ["thing"] [] [] (fun {α} => kb_b_Disc_set_note_1_thing) (by simp) (by simp) (fun r1 r2 r3 => (vals_pk (vals_pk .nil 0 r3) 0 r1)) (fun W vs ds zs es h1 h2 r1 r2 => ?_) (fun us mv ws h1 h2 h3 => ?_) (fun D doc pm an cdv ct us mv ws h1 h2 h3 => ?_)
  · have rm : Reps K W ([] : List V) ([] : List D) := .nil
    exact (reps_pk (reps_pk .nil 0 r2) 0 r1)
  · match us, mv, ws, h1, h2, h3 with | [_], [], [_], _, _, _ => rfl
  · match us, mv, ws, h1, h2, h3 with | [_], [], [_], _, _, _ => exact rfl
theorem Tops.b_Disc_let_1_many (T : Tops K mg) : KDfl K T.d_Disc_let ["self", "many"] 1 ["many"] K_b_Disc_let_1_many := by
  refine kdfl_none T.F_Disc_let 1 ["many"] [] [] (fun {α} => kb_b_Disc_let_1_many) (by simp) (by simp) (fun r1 r2 r3 => (vals_pk (vals_pk .nil 0 r3) 0 r1)) (fun W vs ds zs es h1 h2 r1 r2 => ?_) (fun us mv ws h1 h2 h3 => ?_) (fun D doc pm an cdv ct us mv ws h1 h2 h3 => ?_)
  · have rm : Reps K W ([] : List V) ([] : List D) := .nil
    exact (reps_pk (reps_pk .nil 0 r2) 0 r1)
  · match us, mv, ws, h1, h2, h3 with | [_], [], [_], _, _, _ => rfl
  · match us, mv, ws, h1, h2, h3 with | [_], [], [_], _, _, _ => exact rfl
theorem Tops.b_Disc_whole_1_room (T : Tops K mg) : KDfl K T.d_Disc_whole ["self", "room"] 1 ["room"] K_b_Disc_whole_1_room := by
  refine kdfl_none T.F_Disc_whole 1 ["room"] [] [] (fun {α} => kb_b_Disc_whole_1_room) (by simp) (by simp) (fun r1 r2 r3 => (vals_pk (vals_pk .nil 0 r3) 0 r1)) (fun W vs ds zs es h1 h2 r1 r2 => ?_) (fun us mv ws h1 h2 h3 => ?_) (fun D doc pm an cdv ct us mv ws h1 h2 h3 => ?_)
  · have rm : Reps K W ([] : List V) ([] : List D) := .nil
    exact (reps_pk (reps_pk .nil 0 r2) 0 r1)
  · match us, mv, ws, h1, h2, h3 with | [_], [], [_], _, _, _ => rfl
  · match us, mv, ws, h1, h2, h3 with | [_], [], [_], _, _, _ => exact rfl
theorem Tops.b_law_digits_3 (T : Tops K mg) : Dfl K T.d_law_digits ["_law_cell", "_law_turn", "_law_sizes"] 3 [] := dfl0 (T.F_law_digits.bindsN fun _ _ _ _ _ _ us hl => match us, hl with | [_, _, _], _ => rfl)
theorem Tops.b_Disc_look_at_room_2 (T : Tops K mg) : Dfl K T.d_Disc_look_at_room ["self", "room"] 2 [] := dfl0 (T.F_Disc_look_at_room.bindsN fun _ _ _ _ _ _ us hl => match us, hl with | [_, _], _ => rfl)
theorem Tops.b_copied_1 (T : Tops K mg) : Dfl K T.d_copied ["thing"] 1 [] := dfl0 (T.F_copied.bindsN fun _ _ _ _ _ _ us hl => match us, hl with | [_], _ => rfl)
theorem Tops.b_Disc_one_write_1 (T : Tops K mg) : Dfl K T.d_Disc_one_write ["self"] 1 [] := dfl0 (T.F_Disc_one_write.bindsN fun _ _ _ _ _ _ us hl => match us, hl with | [_], _ => rfl)
theorem Tops.b_law_note_1 (T : Tops K mg) : Dfl K T.d_law_note ["_law_some"] 1 [] := dfl0 (T.F_law_note.bindsN fun _ _ _ _ _ _ us hl => match us, hl with | [_], _ => rfl)
theorem Tops.b_law_let_1 (T : Tops K mg) : Dfl K T.d_law_let ["_law_some"] 1 [] := dfl0 (T.F_law_let.bindsN fun _ _ _ _ _ _ us hl => match us, hl with | [_], _ => rfl)
theorem Tops.b_law_whole_1 (T : Tops K mg) : Dfl K T.d_law_whole ["_law_some"] 1 [] := dfl0 (T.F_law_whole.bindsN fun _ _ _ _ _ _ us hl => match us, hl with | [_], _ => rfl)
theorem Tops.b_law_at_1 (T : Tops K mg) : Dfl K T.d_law_at ["_law_some"] 1 [] := dfl0 (T.F_law_at.bindsN fun _ _ _ _ _ _ us hl => match us, hl with | [_], _ => rfl)
theorem Tops.b_law_write_1 (T : Tops K mg) : Dfl K T.d_law_write ["_law_some"] 1 [] := dfl0 (T.F_law_write.bindsN fun _ _ _ _ _ _ us hl => match us, hl with | [_], _ => rfl)
theorem Tops.b_Disc_at_3 (T : Tops K mg) : Dfl K T.d_Disc_at ["self", "room", "key"] 3 [] := dfl0 (T.F_Disc_at.bindsN fun _ _ _ _ _ _ us hl => match us, hl with | [_, _, _], _ => rfl)
theorem Tops.bi_NoRoom (T : Tops K mg) : Binds K T.d_NoRoom_init ["self", "room"] [] := T.F_NoRoom_init.bindsN fun _ _ _ _ _ _ us hl => match us, hl with | [_, _], _ => rfl
set_option maxHeartbeats 8000000 in
theorem ei_NoRoom (T : Tops K mg) : FnOk P w K mg base (L2.CX P w) 1 T.f_NoRoom_init T.d_NoRoom_init ["self", "room"] (sp1 (cl K cC_NoRoom) "room") := by
  refine FunD.ok (k := 0) T.F_NoRoom_init sc_NoRoom_init (fun vs H Q E h => by obtain ⟨a, y, rfl, _⟩ := h; rfl) fun cdv A outer s H vs Q E hr h => ⟨tI1 K (Bk.init .ke) "room", ?_, ?_⟩
  · exact pss_init1 (pl := _) rfl (names_blt rfl T.z_KeyError (by decide +kernel)) (gmTB_ok T.gm_KeyError) rfl (.inl rfl) rfl (.inl rfl) (by decide) (by decide)
  · obtain ⟨a, y, rfl, ha, q⟩ := h
    exact ⟨a, cl K cC_NoRoom, y, rfl, rfl, T.oex_NoRoom, T.xf_NoRoom_room, ha, q⟩
theorem Tops.bi_NoNumber (T : Tops K mg) : Binds K T.d_NoNumber_init ["self", "number"] [] := T.F_NoNumber_init.bindsN fun _ _ _ _ _ _ us hl => match us, hl with | [_, _], _ => rfl
set_option maxHeartbeats 8000000 in
theorem ei_NoNumber (T : Tops K mg) : FnOk P w K mg base (L2.CX P w) 1 T.f_NoNumber_init T.d_NoNumber_init ["self", "number"] (sp1 (cl K cC_NoNumber) "number") := by
  refine FunD.ok (k := 0) T.F_NoNumber_init sc_NoNumber_init (fun vs H Q E h => by obtain ⟨a, y, rfl, _⟩ := h; rfl) fun cdv A outer s H vs Q E hr h => ⟨tI1 K (Bk.init .ve) "number", ?_, ?_⟩
  · exact pss_init1 (pl := _) rfl ⟨rfl, by decide, .inl T.m_WholeError⟩ (gmB_ok (k := .ve) T.gm_WholeError) rfl (.inl rfl) rfl (.inl rfl) (by decide) (by decide)
  · obtain ⟨a, y, rfl, ha, q⟩ := h
    exact ⟨a, cl K cC_NoNumber, y, rfl, rfl, T.oex_NoNumber, T.xf_NoNumber_number, ha, q⟩
theorem Tops.bi_Stopped (T : Tops K mg) : Binds K T.d_Stopped_init ["self"] [] := T.F_Stopped_init.bindsN fun _ _ _ _ _ _ us hl => match us, hl with | [_], _ => rfl
set_option maxHeartbeats 8000000 in
theorem ei_Stopped (T : Tops K mg) : FnOk P w K mg base (L2.CX P w) 1 T.f_Stopped_init T.d_Stopped_init ["self"] (sp0 (cl K cC_Stopped)) := by
  refine FunD.ok (k := 0) T.F_Stopped_init sc_Stopped_init (fun vs H Q E h => by obtain ⟨a, rfl, _⟩ := h; rfl) fun cdv A outer s H vs Q E hr h => ⟨tI0 K (Bk.init .rt), ?_, ?_⟩
  · exact pss_init0 (pl := _) rfl (names_blt rfl T.z_RuntimeError (by decide +kernel)) (gmTB_ok T.gm_RuntimeError) rfl (.inl rfl)
  · obtain ⟨a, rfl, ha, q⟩ := h
    exact ⟨a, cl K cC_Stopped, rfl, T.oex_Stopped, ha, q⟩
set_option maxHeartbeats 8000000 in
theorem ok_Disc_init (T : Tops K mg) : FnG P w K mg base 1 T.f_Disc_init T.d_Disc_init ["self"] F_Disc_init := by
  refine FnG.framed <| FunD.g T.F_Disc_init sc_Disc_init fun cdv A outer s H E c => ?_
  exact (ds_cons (ds_setat T.at_rooms (de_dc [("room", 1)] rfl sc_Disc_init.nd (di_any (de_glob T.c_ROOMS.2.1 (v := T.c_ROOMS.1.2) T.c_ROOMS.2.2.1 T.c_ROOMS.2.2.2)) (blkOk_by (N := ["self", "room"]) (sc := defScope s_Disc_init) (by decide +kernel)) (fun s1 H1 C1 cl1 fp1 => (dg_name sc_Disc_init.nd)) (fun s1 H1 C1 cl1 fp1 => dts_nil) (fun s1 H1 C1 cl1 fp1 => (dv 1)) (fun s1 H1 C1 cl1 fp1 => de_dnew)) (dv 0))
    (ds_cons (ds_setat T.at_own_note dnon (dv 0))
    (ds_cons (ds_setat T.at_many_left dnon (dv 0))
    (ds_cons (ds_setat T.at_many_done dint (dv 0))
    (ds_one (ds_setat T.at_is_shut dbool (dv 0)))))))
set_option maxHeartbeats 8000000 in
theorem ok_Disc_look_at_room (T : Tops K mg) : FnG P w K mg base 3 T.f_Disc_look_at_room T.d_Disc_look_at_room ["self", "room"] F_Disc_look_at_room := by
  refine FnG.framed <| FunD.g T.F_Disc_look_at_room sc_Disc_look_at_room fun cdv A outer s H E c => ?_
  exact (ds_one (ds_if (dt_w (dw_or (dt_not (dtest_val (de_callB cx_isi T.z_isinstance (da_cons (dv 1) (da_cons (de_ty T.z_str) da_nil))))) (dw_or1 (dt_cmp (opx_notinX c.room.units) (dv 1) (de_glob T.c_ROOMS.2.1 (v := T.c_ROOMS.1.2) T.c_ROOMS.2.2.1 T.c_ROOMS.2.2.2))))) (ds_one (ds_raise1 T.oex_NoRoom T.ini_NoRoom.1 T.ini_NoRoom.2 (ei_NoRoom (P := P) (w := w) (base := base) T) T.bi_NoRoom (c.mono (by decide)) T.m_NoRoom (da_cons (dv 1) da_nil))) ds_nil))
set_option maxHeartbeats 8000000 in
theorem okn_copied (T : Tops K mg) : ∀ n, FnG P w K mg base (0 + n) T.f_copied T.d_copied ["thing"] (Fn_copied n)
  | 0 => fng_bad
  | n + 1 => by
    have G_copied := okn_copied T n
    refine FnG.framed <| FunD.g T.F_copied sc_copied fun cdv A outer s H E c => ?_
    exact (ds_cons (ds_if (dtest_val (de_callB cx_isi T.z_isinstance (da_cons (dv 0) (da_cons (de_ty T.z_list) da_nil)))) (ds_one (ds_ret (de_lc [("one", 1)] rfl sc_copied.nd (di_any (dv 0)) (blkOk_by (N := ["thing", "one"]) (sc := defScope s_copied) (by decide +kernel)) (fun s1 H1 C1 cl1 fp1 => (dg_name sc_copied.nd)) (fun s1 H1 C1 cl1 fp1 => dts_nil) (fun s1 H1 C1 cl1 fp1 => (de_call G_copied ((c.blk s1 H1 _ _ fp1).mono (by first | exact Nat.le_refl _ | exact Nat.le_trans (by decide) (Nat.le_add_right _ _))) T.m_copied T.F_copied.kp T.b_copied_1 (da_cons (dv 1) da_nil)))))) ds_nil)
    (ds_cons (ds_if (dtest_val (de_callB cx_isi T.z_isinstance (da_cons (dv 0) (da_cons (de_ty T.z_tuple) da_nil)))) (ds_one (ds_ret (de_callTy cx_tupleX T.z_tuple (da_cons (de_lc [("one", 1)] rfl sc_copied.nd (di_any (dv 0)) (blkOk_by (N := ["thing", "one"]) (sc := defScope s_copied) (by decide +kernel)) (fun s1 H1 C1 cl1 fp1 => (dg_name sc_copied.nd)) (fun s1 H1 C1 cl1 fp1 => dts_nil) (fun s1 H1 C1 cl1 fp1 => (de_call G_copied ((c.blk s1 H1 _ _ fp1).mono (by first | exact Nat.le_refl _ | exact Nat.le_trans (by decide) (Nat.le_add_right _ _))) T.m_copied T.F_copied.kp T.b_copied_1 (da_cons (dv 1) da_nil)))) da_nil)))) ds_nil)
    (ds_one (ds_ret (dv 0)))))
theorem ok_copied (T : Tops K mg) : FnG P w K mg base 13 T.f_copied T.d_copied ["thing"] F_copied := (okn_copied T 12).mono (by decide)
set_option maxHeartbeats 8000000 in
theorem ok_Disc_at (T : Tops K mg) : FnG P w K mg base 14 T.f_Disc_at T.d_Disc_at ["self", "room", "key"] F_Disc_at := by
  have G_Disc_look_at_room := ok_Disc_look_at_room (P := P) (w := w) (base := base) T
  have G_copied := ok_copied (P := P) (w := w) (base := base) T
  refine FnG.framed <| FunD.g T.F_Disc_at sc_Disc_at fun cdv A outer s H E c => ?_
  exact (ds_cons (ds_expr (de_meth G_Disc_look_at_room (c.mono (by decide)) T.cl_Disc T.me_Disc_look_at_room T.b_Disc_look_at_room_2 (dv 0) (da_cons (dv 1) da_nil)))
    (ds_one (ds_ret (de_call G_copied (c.mono (by decide)) T.m_copied T.F_copied.kp T.b_copied_1 (da_cons (de_bm PySem.F.plainAttrs_dict PySem.F.slot_dict_get PySem.F.type_dict_get (mx_get c.room.units) (de_ixX c.room.units (de_at T.at_rooms (dv 0)) (dv 1)) (da_cons (dv 2) da_nil)) da_nil)))))
set_option maxHeartbeats 8000000 in
theorem ok_Disc_let (T : Tops K mg) : FnG P w K mg base 3 T.f_Disc_let T.d_Disc_let ["self", "many"] F_Disc_let := by
  refine FnG.framed <| FunD.g T.F_Disc_let sc_Disc_let fun cdv A outer s H E c => ?_
  exact (ds_cons (ds_if (dt_w (dw_and (dt_cmp opx_isnt (dv 1) dnon) (dw_and1 (dt_w (dw_or (dt_not (dtest_val (de_callB cx_isi T.z_isinstance (da_cons (dv 1) (da_cons (de_ty T.z_int) da_nil))))) (dw_or (dtest_val (de_callB cx_isi T.z_isinstance (da_cons (dv 1) (da_cons (de_ty T.z_bool) da_nil)))) (dw_or1 (dt_cmp opx_lt (dv 1) dint)))))))) (ds_one (ds_raise1 T.oex_NoNumber T.ini_NoNumber.1 T.ini_NoNumber.2 (ei_NoNumber (P := P) (w := w) (base := base) T) T.bi_NoNumber (c.mono (by decide)) T.m_NoNumber (da_cons (dv 1) da_nil))) ds_nil)
    (ds_one (ds_setat T.at_many_left (dv 1) (dv 0))))
set_option maxHeartbeats 8000000 in
theorem ok_Disc_note (T : Tops K mg) : FnG P w K mg base 14 T.f_Disc_note T.d_Disc_note ["self"] F_Disc_note := by
  have G_copied := ok_copied (P := P) (w := w) (base := base) T
  refine FnG.framed <| FunD.g T.F_Disc_note sc_Disc_note fun cdv A outer s H E c => ?_
  exact (ds_one (ds_ret (de_call G_copied (c.mono (by decide)) T.m_copied T.F_copied.kp T.b_copied_1 (da_cons (de_at T.at_own_note (dv 0)) da_nil))))
set_option maxHeartbeats 8000000 in
theorem ok_Disc_one_write (T : Tops K mg) : FnG P w K mg base 3 T.f_Disc_one_write T.d_Disc_one_write ["self"] F_Disc_one_write := by
  refine FnG.framed <| FunD.g T.F_Disc_one_write sc_Disc_one_write fun cdv A outer s H E c => ?_
  exact (ds_cons (ds_if (dt_cmp opx_isnt (de_at T.at_many_left (dv 0)) dnon) (ds_cons (ds_if (dt_cmp (opx_eqM c.room.units) (de_at T.at_many_left (dv 0)) dint) (ds_one (ds_raise0 T.oex_Stopped T.ini_Stopped.1 T.ini_Stopped.2 (ei_Stopped (P := P) (w := w) (base := base) T) T.bi_Stopped (c.mono (by decide)) T.m_Stopped)) ds_nil)
    (ds_one (ds_augat T.at_many_left ind_sub (dv 0) dint))) ds_nil)
    (ds_one (ds_augat T.at_many_done ind_add (dv 0) dint)))
set_option maxHeartbeats 8000000 in
theorem ok_Disc_set_note (T : Tops K mg) : FnG P w K mg base 14 T.f_Disc_set_note T.d_Disc_set_note ["self", "thing"] F_Disc_set_note := by
  have G_Disc_one_write := ok_Disc_one_write (P := P) (w := w) (base := base) T
  have G_copied := ok_copied (P := P) (w := w) (base := base) T
  refine FnG.framed <| FunD.g T.F_Disc_set_note sc_Disc_set_note fun cdv A outer s H E c => ?_
  exact (ds_cons (ds_expr (de_meth0 G_Disc_one_write (c.mono (by decide)) T.cl_Disc T.me_Disc_one_write T.b_Disc_one_write_1 (dv 0)))
    (ds_one (ds_setat T.at_own_note (de_call G_copied (c.mono (by decide)) T.m_copied T.F_copied.kp T.b_copied_1 (da_cons (dv 1) da_nil)) (dv 0))))
set_option maxHeartbeats 8000000 in
theorem ok_Disc_whole (T : Tops K mg) : FnG P w K mg base 14 T.f_Disc_whole T.d_Disc_whole ["self", "room"] F_Disc_whole := by
  have G_Disc_look_at_room := ok_Disc_look_at_room (P := P) (w := w) (base := base) T
  have G_copied := ok_copied (P := P) (w := w) (base := base) T
  refine FnG.framed <| FunD.g T.F_Disc_whole sc_Disc_whole fun cdv A outer s H E c => ?_
  exact (ds_cons (ds_expr (de_meth G_Disc_look_at_room (c.mono (by decide)) T.cl_Disc T.me_Disc_look_at_room T.b_Disc_look_at_room_2 (dv 0) (da_cons (dv 1) da_nil)))
    (ds_one (ds_ret (de_dcL [("key", 2), ("worth", 3)] rfl sc_Disc_whole.nd (dil_items (de_ixX c.z.room.units (de_at T.at_rooms (dv 0)) (dv 1))) (blkOk_by (N := ["self", "room", "key", "worth"]) (sc := defScope s_Disc_whole) (by decide +kernel)) (fun s1 H1 C1 cl1 fp1 => (dg_tup rfl (dgs_cons (dg_name sc_Disc_whole.nd) (dgs_cons (dg_name sc_Disc_whole.nd) dgs_nil)))) (fun s1 H1 C1 cl1 fp1 => dts_nil) (fun s1 H1 C1 cl1 fp1 => (dv 2)) (fun s1 H1 C1 cl1 fp1 => (de_call G_copied ((c.blk s1 H1 _ _ fp1).mono (by decide)) T.m_copied T.F_copied.kp T.b_copied_1 (da_cons (dv 3) da_nil)))))))
set_option maxHeartbeats 8000000 in
theorem ok_Disc_write (T : Tops K mg) : FnG P w K mg base 14 T.f_Disc_write T.d_Disc_write ["self", "room", "key", "worth"] F_Disc_write := by
  have G_Disc_look_at_room := ok_Disc_look_at_room (P := P) (w := w) (base := base) T
  have G_Disc_one_write := ok_Disc_one_write (P := P) (w := w) (base := base) T
  have G_copied := ok_copied (P := P) (w := w) (base := base) T
  refine FnG.framed <| FunD.g T.F_Disc_write sc_Disc_write fun cdv A outer s H E c => ?_
  exact (ds_cons (ds_expr (de_meth G_Disc_look_at_room (c.mono (by decide)) T.cl_Disc T.me_Disc_look_at_room T.b_Disc_look_at_room_2 (dv 0) (da_cons (dv 1) da_nil)))
    (ds_cons (ds_expr (de_meth0 G_Disc_one_write (c.mono (by decide)) T.cl_Disc T.me_Disc_one_write T.b_Disc_one_write_1 (dv 0)))
    (ds_one (ds_if (dt_cmp opx_is (dv 3) dnon) (ds_one (ds_expr (de_bm PySem.F.plainAttrs_dict PySem.F.slot_dict_pop PySem.F.type_dict_pop mx_dpop (de_ixX c.room.units (de_at T.at_rooms (dv 0)) (dv 1)) (da_cons (dv 2) (da_cons dnon da_nil))))) (ds_one (ds_setixX c.room.units (de_call G_copied (c.mono (by decide)) T.m_copied T.F_copied.kp T.b_copied_1 (da_cons (dv 3) da_nil)) (de_ixX c.room.units (de_at T.at_rooms (dv 0)) (dv 1)) (dv 2)))))))
set_option maxHeartbeats 8000000 in
theorem ok_Disc_writes (T : Tops K mg) : FnG P w K mg base 1 T.f_Disc_writes T.d_Disc_writes ["self"] F_Disc_writes := by
  refine FnG.framed <| FunD.g T.F_Disc_writes sc_Disc_writes fun cdv A outer s H E c => ?_
  exact (ds_one (ds_ret (de_at T.at_many_done (dv 0))))
set_option maxHeartbeats 8000000 in
theorem ok_law_digits (T : Tops K mg) : FnG P w K mg base 1 T.f_law_digits T.d_law_digits ["_law_cell", "_law_turn", "_law_sizes"] F_law_digits := by
  refine FnG.framed <| FunD.g T.F_law_digits sc_law_digits fun cdv A outer s H E c => ?_
  exact (ds_cons (ds_set 3 sc_law_digits.nd (de_callB cx_abs T.z_abs (da_cons (dv 0) da_nil)))
    (ds_cons (ds_set 4 sc_law_digits.nd (de_cmp opx_ge (dv 3) (de_bin opx_pow dint dint)))
    (ds_cons (ds_set 5 sc_law_digits.nd (de_bin opx_addX (de_bin opx_mod (dv 3) dint) (de_bin opx_mulX dint (dv 1))))
    (ds_cons (ds_set 6 sc_law_digits.nd (de_cel da_nil))
    (ds_cons (ds_for (passes_of rfl) rfl (di_enum T.z_enumerate (da_cons (dv 2) da_nil)) (dg_tup rfl (dgs_cons (dg_name sc_law_digits.nd) (dgs_cons (dg_name sc_law_digits.nd) dgs_nil))) (ds_one (ds_if (dt_w (dw_and (dtest_val (dv 4)) (dw_and1 (dt_cmp opx_gt (dv 3) dint)))) (ds_cons (ds_expr (de_bm PySem.F.plainAttrs_list PySem.F.slot_list_append PySem.F.type_list_append mx_append (dv 6) (da_cons (de_bin opx_mod (dv 3) (dv 8)) da_nil)))
    (ds_one (ds_set 3 sc_law_digits.nd (de_bin opx_fdiv (dv 3) (dv 8))))) (ds_cons (ds_set 5 sc_law_digits.nd (de_bin opx_mod (de_bin opx_pow (de_bin opx_addX (dv 5) (de_bin opx_mulX dint (de_bin opx_addX (dv 7) dint))) dint) dint))
    (ds_one (ds_expr (de_bm PySem.F.plainAttrs_list PySem.F.slot_list_append PySem.F.type_list_append mx_append (dv 6) (da_cons (de_bin opx_mod (de_bin opx_fdiv (dv 5) dint) (dv 8)) da_nil))))))))
    (ds_one (ds_ret (de_frz (dv 6)))))))))
set_option maxHeartbeats 8000000 in
theorem ok_law_at (T : Tops K mg) : FnG P w K mg base 15 T.f_law_at T.d_law_at ["_law_some"] F_law_at := by
  have G_Disc_at := ok_Disc_at (P := P) (w := w) (base := base) T
  refine FnG.framed <| FunD.g T.F_law_at sc_law_at fun cdv A outer s H E c => ?_
  exact (ds_one (ds_expr (de_meth G_Disc_at (c.mono (by decide)) T.cl_Disc T.me_Disc_at T.b_Disc_at_3 (de_ixX c.room.units (dv 0) dint) (da_cons (de_ixX c.room.units (dv 0) dint) (da_cons dstr da_nil)))))
set_option maxHeartbeats 8000000 in
theorem ok_law_let (T : Tops K mg) : FnG P w K mg base 4 T.f_law_let T.d_law_let ["_law_some"] F_law_let := by
  have G_Disc_let := ok_Disc_let (P := P) (w := w) (base := base) T
  refine FnG.framed <| FunD.g T.F_law_let sc_law_let fun cdv A outer s H E c => ?_
  exact (ds_one (ds_expr (de_meth G_Disc_let (c.mono (by decide)) T.cl_Disc T.me_Disc_let T.b_Disc_let_2 (de_ixX c.room.units (dv 0) dint) (da_cons (de_ixX c.room.units (dv 0) dint) da_nil))))
set_option maxHeartbeats 8000000 in
theorem ok_law_note (T : Tops K mg) : FnG P w K mg base 15 T.f_law_note T.d_law_note ["_law_some"] F_law_note := by
  have G_Disc_set_note := ok_Disc_set_note (P := P) (w := w) (base := base) T
  refine FnG.framed <| FunD.g T.F_law_note sc_law_note fun cdv A outer s H E c => ?_
  exact (ds_one (ds_expr (de_meth G_Disc_set_note (c.mono (by decide)) T.cl_Disc T.me_Disc_set_note T.b_Disc_set_note_2 (de_ixX c.room.units (dv 0) dint) (da_cons (de_ixX c.room.units (dv 0) dint) da_nil))))
set_option maxHeartbeats 8000000 in
theorem ok_law_whole (T : Tops K mg) : FnG P w K mg base 15 T.f_law_whole T.d_law_whole ["_law_some"] F_law_whole := by
  have G_Disc_whole := ok_Disc_whole (P := P) (w := w) (base := base) T
  refine FnG.framed <| FunD.g T.F_law_whole sc_law_whole fun cdv A outer s H E c => ?_
  exact (ds_one (ds_expr (de_meth G_Disc_whole (c.mono (by decide)) T.cl_Disc T.me_Disc_whole T.b_Disc_whole_2 (de_ixX c.room.units (dv 0) dint) (da_cons (de_ixX c.room.units (dv 0) dint) da_nil))))
set_option maxHeartbeats 8000000 in
theorem ok_law_write (T : Tops K mg) : FnG P w K mg base 15 T.f_law_write T.d_law_write ["_law_some"] F_law_write := by
  have G_Disc_write := ok_Disc_write (P := P) (w := w) (base := base) T
  refine FnG.framed <| FunD.g T.F_law_write sc_law_write fun cdv A outer s H E c => ?_
  exact (ds_one (ds_expr (de_meth G_Disc_write (c.mono (by decide)) T.cl_Disc T.me_Disc_write T.b_Disc_write_4 (de_ixX c.room.units (dv 0) dint) (da_cons (de_ixX c.room.units (dv 0) dint) (da_cons dstr (da_cons dint da_nil))))))
set_option maxHeartbeats 8000000 in
theorem ok_law_said (T : Tops K mg) : FnG P w K mg base 16 T.f_law_said T.d_law_said ["_law_call", "_law_some"] F_law_said := by
  have G_law_at := ok_law_at (P := P) (w := w) (base := base) T
  have G_law_let := ok_law_let (P := P) (w := w) (base := base) T
  have G_law_note := ok_law_note (P := P) (w := w) (base := base) T
  have G_law_whole := ok_law_whole (P := P) (w := w) (base := base) T
  have G_law_write := ok_law_write (P := P) (w := w) (base := base) T
  refine FnG.framed <| FunD.g T.F_law_said sc_law_said fun cdv A outer s H E c => ?_
  exact (ds_cons (ds_try rfl rfl sc_law_said.nd c (fun W1 pn1 xe1 c1 po1 => (ds_one (ds_expr (de_choose (de_callL cv_law_write T.fv_law_write G_law_write (c1.mono (by decide)) 0 T.F_law_write.kp T.b_law_write_1 (da_cons (dv 1) da_nil)) (de_choose (de_callL cv_law_at T.fv_law_at G_law_at (c1.mono (by decide)) 0 T.F_law_at.kp T.b_law_at_1 (da_cons (dv 1) da_nil)) (de_choose (de_callL cv_law_whole T.fv_law_whole G_law_whole (c1.mono (by decide)) 0 T.F_law_whole.kp T.b_law_whole_1 (da_cons (dv 1) da_nil)) (de_choose (de_callL cv_law_let T.fv_law_let G_law_let (c1.mono (by decide)) 0 T.F_law_let.kp T.b_law_let_1 (da_cons (dv 1) da_nil)) (de_choose (de_callL cv_law_note T.fv_law_note G_law_note (c1.mono (by decide)) 0 T.F_law_note.kp T.b_law_note_1 (da_cons (dv 1) da_nil)) de_bad)))))))) (.as 2 rfl rfl ⟨rfl, by decide, .inl T.m_NoRoom⟩ T.exm_NoRoom (fun cc fs hm a oe cls d pn hcl hz hf => by
      have e := mL_one hm
      subst e
      exact (dsp_ret (dp_lst (dap_cons stays_X (dp_lift dstr) (dap_cons stays_X (dp_callB (cx_reprM c.guards c.room.units) T.z_repr (dap_cons stays_X (dp_xf T.exc_NoRoom.2 T.xf_NoRoom_room hcl hz hf rfl) dap_nil)) (dap_cons stays_X (dp_isE (cv := .ty "KeyError") T.exc_NoRoom.1 hcl hz hf T.kit_NoRoom_KeyError (fun _ h => h) (pe_bltn (v := .ty "KeyError") rfl T.z_KeyError (by decide +kernel) rfl (by decide) (by decide)) T.z_isinstance rfl) dap_nil))))))
    (.as 2 rfl rfl ⟨rfl, by decide, .inl T.m_NoNumber⟩ T.exm_NoNumber (fun cc fs hm a oe cls d pn hcl hz hf => by
      have e := mL_one hm
      subst e
      exact (dsp_ret (dp_lst (dap_cons stays_X (dp_lift dstr) (dap_cons stays_X (dp_callB (cx_reprM c.guards c.room.units) T.z_repr (dap_cons stays_X (dp_xf T.exc_NoNumber.2 T.xf_NoNumber_number hcl hz hf rfl) dap_nil)) (dap_cons stays_X (dp_isE (cv := .ref (cl K cC_WholeError)) T.exc_NoNumber.1 hcl hz hf T.kit_NoNumber_WholeError (fun _ h => h) (pe_glob rfl T.m_WholeError rfl (by decide)) T.z_isinstance rfl) dap_nil))))))
    (.one ⟨rfl, by decide, .inl T.m_Stopped⟩ T.exm_Stopped (fun cc fs hm a oe cls d pn hcl hz hf => by
      have e := mL_one hm
      subst e
      exact (dsp_lift (ds_one (ds_ret (de_lst (da_cons dstr da_nil))))))
    .nil))))
    (ds_one (ds_ret (de_lst (da_cons dstr da_nil)))))
end
end DL46
namespace DL46
open PySem PySem.Spec PyProof.Rows L2 DL
/-! the law -/
section
variable {P : Program} {w : World} {K : PySem.W.Frag} {mg : Str → Option Value} {base : Heap}
set_option maxHeartbeats 8000000 in
theorem ok_law (T : Tops K mg) : FnG P w K mg base 17 T.f_law T.d_law ["_law_script"] F_law := by
  have G_Disc_init := ok_Disc_init (P := P) (w := w) (base := base) T
  have G_Disc_at := ok_Disc_at (P := P) (w := w) (base := base) T
  have G_Disc_let := ok_Disc_let (P := P) (w := w) (base := base) T
  have G_Disc_note := ok_Disc_note (P := P) (w := w) (base := base) T
  have G_Disc_set_note := ok_Disc_set_note (P := P) (w := w) (base := base) T
  have G_Disc_whole := ok_Disc_whole (P := P) (w := w) (base := base) T
  have G_Disc_write := ok_Disc_write (P := P) (w := w) (base := base) T
  have G_Disc_writes := ok_Disc_writes (P := P) (w := w) (base := base) T
  have G_law_digits := ok_law_digits (P := P) (w := w) (base := base) T
  have G_law_said := ok_law_said (P := P) (w := w) (base := base) T
  refine FunD.g T.F_law sc_law fun cdv A outer s H E c => ?_
  exact (ds_cons (ds_forT [0, 1, 2, 3, 4, 5, 6, 7, 8, 9] (passes_of rfl) rfl (di_enum T.z_enumerate (da_cons (de_slice (de_bin opx_addX (dv 0) (de_lst (da_cons dint da_nil))) do_none (do_some dint)) da_nil)) (dg_tup rfl (dgs_cons (dg_name sc_law.nd) (dgs_cons (dg_name sc_law.nd) dgs_nil))) (ds_cons (ds_set 3 sc_law.nd (de_call G_law_digits (c.mono (by decide)) T.m_law_digits T.F_law_digits.kp T.b_law_digits_3 (da_cons (dv 2) (da_cons (dv 1) (da_cons (de_lst (da_cons dint (da_cons dint (da_cons dint (da_cons dint da_nil))))) da_nil)))))
    (by
    refine ds_forget [0, 1, 2, 4, 5, 6, 7, 8, 9] ?_
    exact (ds_cons (ds_set 4 sc_law.nd (de_make0 T.mk_Disc G_Disc_init (c.mono (by decide)) T.m_Disc T.b_Disc_init_1 (fun _ => mkq_M)))
    (ds_cons (ds_expr (de_meth G_Disc_write (c.mono (by decide)) T.cl_Disc T.me_Disc_write T.b_Disc_write_4 (dv 4) (da_cons dstr (da_cons dstr (da_cons (de_tup (da_cons dint (da_cons dnon da_nil))) da_nil)))))
    (ds_cons (ds_expr (de_meth G_Disc_set_note (c.mono (by decide)) T.cl_Disc T.me_Disc_set_note T.b_Disc_set_note_2 (dv 4) (da_cons (de_lst (da_cons dstr da_nil)) da_nil)))
    (ds_cons (ds_if (dt_cmp opx_gt (de_ixX c.room.units (dv 3) dint) dint) (ds_one (ds_expr (de_meth G_Disc_let (c.mono (by decide)) T.cl_Disc T.me_Disc_let T.b_Disc_let_2 (dv 4) (da_cons (de_bin opx_sub (de_ixX c.room.units (dv 3) dint) dint) da_nil)))) ds_nil)
    (ds_cons (ds_set 5 sc_law.nd (de_lst (da_cons (de_meth G_Disc_whole (c.mono (by decide)) T.cl_Disc T.me_Disc_whole T.b_Disc_whole_2 (dv 4) (da_cons dstr da_nil)) (da_cons (de_meth0 G_Disc_note (c.mono (by decide)) T.cl_Disc T.me_Disc_note T.b_Disc_note_1 (dv 4)) (da_cons (de_meth0 G_Disc_writes (c.mono (by decide)) T.cl_Disc T.me_Disc_writes T.b_Disc_writes_1 (dv 4)) da_nil)))))
    (ds_cons (ds_set 6 sc_law.nd (de_ixX c.room.units (de_lst (da_cons dnon (da_cons dstr (da_cons dstr (da_cons dint (da_cons (de_tup (da_cons dstr da_nil)) (da_cons (de_lst (da_cons dstr da_nil)) (da_cons de_dnew (da_cons dbool (da_cons dstr da_nil)))))))))) (de_ixX c.room.units (dv 3) dint)))
    (ds_cons (ds_for (passes_of rfl) rfl (di_any (de_lst (da_cons (de_fn cv_law_write T.mv_law_write) (da_cons (de_fn cv_law_at T.mv_law_at) (da_cons (de_fn cv_law_whole T.mv_law_whole) da_nil))))) (dg_name sc_law.nd) (ds_one (ds_if (dt_cmp (opx_neM c.room.units) (de_call G_law_said (c.mono (by decide)) T.m_law_said T.F_law_said.kp T.b_law_said_2 (da_cons (dv 7) (da_cons (de_tup (da_cons (dv 4) (da_cons (dv 6) da_nil))) da_nil))) (de_lst (da_cons dstr (da_cons (de_callB (cx_reprM c.guards c.room.units) T.z_repr (da_cons (dv 6) da_nil)) (da_cons dbool da_nil))))) (ds_one (ds_ret dbool)) ds_nil)))
    (ds_cons (ds_set 8 sc_law.nd (de_ixX c.room.units (de_lst (da_cons (de_neg dint) (da_cons dbool (da_cons dbool (da_cons dstr (da_cons (de_lst (da_cons dint da_nil)) (da_cons (de_tup da_nil) (da_cons de_dnew (da_cons dstr (da_cons (de_neg (de_bin opx_pow dint dint)) da_nil)))))))))) (de_ixX c.room.units (dv 3) dint)))
    (ds_cons (ds_if (dt_cmp (opx_neM c.room.units) (de_call G_law_said (c.mono (by decide)) T.m_law_said T.F_law_said.kp T.b_law_said_2 (da_cons (de_fn cv_law_let T.mv_law_let) (da_cons (de_tup (da_cons (dv 4) (da_cons (dv 8) da_nil))) da_nil))) (de_lst (da_cons dstr (da_cons (de_callB (cx_reprM c.guards c.room.units) T.z_repr (da_cons (dv 8) da_nil)) (da_cons dbool da_nil))))) (ds_one (ds_ret dbool)) ds_nil)
    (ds_cons (ds_if (dt_cmp (opx_neM c.room.units) (de_lst (da_cons (de_meth G_Disc_whole (c.mono (by decide)) T.cl_Disc T.me_Disc_whole T.b_Disc_whole_2 (dv 4) (da_cons dstr da_nil)) (da_cons (de_meth0 G_Disc_note (c.mono (by decide)) T.cl_Disc T.me_Disc_note T.b_Disc_note_1 (dv 4)) (da_cons (de_meth0 G_Disc_writes (c.mono (by decide)) T.cl_Disc T.me_Disc_writes T.b_Disc_writes_1 (dv 4)) da_nil)))) (dv 5)) (ds_one (ds_ret dbool)) ds_nil)
    (ds_cons (ds_for (passes_of rfl) rfl (di_range1 T.z_range (da_cons (de_bin opx_sub (de_ixX c.room.units (dv 3) dint) dint) da_nil)) (dg_name sc_law.nd) (ds_one (ds_if (dt_cmp (opx_neM c.room.units) (de_call G_law_said (c.mono (by decide)) T.m_law_said T.F_law_said.kp T.b_law_said_2 (da_cons (de_ixX c.room.units (de_lst (da_cons (de_fn cv_law_write T.mv_law_write) (da_cons (de_fn cv_law_note T.mv_law_note) da_nil))) (de_bin opx_mod (de_bin opx_addX (dv 9) (de_ixX c.room.units (dv 3) dint)) dint)) (da_cons (de_tup (da_cons (dv 4) (da_cons dstr da_nil))) da_nil))) (de_lst (da_cons dstr da_nil))) (ds_one (ds_ret dbool)) ds_nil)))
    (ds_cons (ds_if (dt_cmp opx_gt (de_ixX c.room.units (dv 3) dint) dint) (ds_cons (ds_set 5 sc_law.nd (de_lst (da_cons (de_meth G_Disc_whole (c.mono (by decide)) T.cl_Disc T.me_Disc_whole T.b_Disc_whole_2 (dv 4) (da_cons dstr da_nil)) (da_cons (de_meth0 G_Disc_note (c.mono (by decide)) T.cl_Disc T.me_Disc_note T.b_Disc_note_1 (dv 4)) (da_cons (de_meth0 G_Disc_writes (c.mono (by decide)) T.cl_Disc T.me_Disc_writes T.b_Disc_writes_1 (dv 4)) da_nil)))))
    (ds_cons (ds_for (passes_of rfl) rfl (di_any (de_lst (da_cons (de_fn cv_law_write T.mv_law_write) (da_cons (de_fn cv_law_note T.mv_law_note) (da_cons (de_fn cv_law_write T.mv_law_write) da_nil))))) (dg_name sc_law.nd) (ds_one (ds_if (dt_cmp (opx_neM c.room.units) (de_call G_law_said (c.mono (by decide)) T.m_law_said T.F_law_said.kp T.b_law_said_2 (da_cons (dv 7) (da_cons (de_tup (da_cons (dv 4) (da_cons dstr da_nil))) da_nil))) (de_lst (da_cons dstr da_nil))) (ds_one (ds_ret dbool)) ds_nil)))
    (ds_one (ds_if (dt_cmp (opx_neM c.room.units) (de_lst (da_cons (de_meth G_Disc_whole (c.mono (by decide)) T.cl_Disc T.me_Disc_whole T.b_Disc_whole_2 (dv 4) (da_cons dstr da_nil)) (da_cons (de_meth0 G_Disc_note (c.mono (by decide)) T.cl_Disc T.me_Disc_note T.b_Disc_note_1 (dv 4)) (da_cons (de_meth0 G_Disc_writes (c.mono (by decide)) T.cl_Disc T.me_Disc_writes T.b_Disc_writes_1 (dv 4)) da_nil)))) (dv 5)) (ds_one (ds_ret dbool)) ds_nil)))) ds_nil)
    (ds_cons (ds_if (dt_w (dw_or (dt_cmp (opx_neM c.room.units) (de_call G_law_said (c.mono (by decide)) T.m_law_said T.F_law_said.kp T.b_law_said_2 (da_cons (de_fn cv_law_at T.mv_law_at) (da_cons (de_tup (da_cons (dv 4) (da_cons dstr da_nil))) da_nil))) (de_lst (da_cons dstr da_nil))) (dw_or1 (dt_cmp (opx_neM c.room.units) (de_call G_law_said (c.mono (by decide)) T.m_law_said T.F_law_said.kp T.b_law_said_2 (da_cons (de_fn cv_law_let T.mv_law_let) (da_cons (de_tup (da_cons (dv 4) (da_cons dnon da_nil))) da_nil))) (de_lst (da_cons dstr da_nil)))))) (ds_one (ds_ret dbool)) ds_nil)
    (ds_cons (ds_if (dt_w (dw_or (dt_cmp (opx_neM c.room.units) (de_call G_law_said (c.mono (by decide)) T.m_law_said T.F_law_said.kp T.b_law_said_2 (da_cons (de_fn cv_law_write T.mv_law_write) (da_cons (de_tup (da_cons (dv 4) (da_cons dstr da_nil))) da_nil))) (de_lst (da_cons dstr da_nil))) (dw_or1 (dt_cmp (opx_neM c.room.units) (de_methK0 G_Disc_at (c.mono (by decide)) T.cl_Disc T.me_Disc_at T.b_Disc_at_1_key_room (dv 4) (dk_cons dstr (dk_cons dstr dk_nil))) dint)))) (ds_one (ds_ret dbool)) ds_nil)
    (ds_cons (ds_expr (de_methK0 G_Disc_write (c.mono (by decide)) T.cl_Disc T.me_Disc_write T.b_Disc_write_1_worth_key_room (dv 4) (dk_cons dnon (dk_cons dstr (dk_cons dstr dk_nil)))))
    (ds_cons (ds_expr (de_methK0 G_Disc_set_note (c.mono (by decide)) T.cl_Disc T.me_Disc_set_note T.b_Disc_set_note_1_thing (dv 4) (dk_cons dnon dk_nil)))
    (ds_cons (ds_expr (de_methK0 G_Disc_let (c.mono (by decide)) T.cl_Disc T.me_Disc_let T.b_Disc_let_1_many (dv 4) (dk_cons dint dk_nil)))
    (ds_one (ds_if (dt_w (dw_or (dt_cmp (opx_neM c.room.units) (de_methK0 G_Disc_whole (c.mono (by decide)) T.cl_Disc T.me_Disc_whole T.b_Disc_whole_1_room (dv 4) (dk_cons dstr dk_nil)) de_dnew) (dw_or1 (dt_cmp opx_isnt (de_meth0 G_Disc_note (c.mono (by decide)) T.cl_Disc T.me_Disc_note T.b_Disc_note_1 (dv 4)) dnon)))) (ds_one (ds_ret dbool)) ds_nil))))))))))))))))))))))
    (ds_one (ds_ret dbool)))
end
end DL46
namespace DL46
open PySem PySem.Spec PyProof.Rows L2 DL
/-! the head -/
def h_Disc_init : He.DefD := ⟨(nmC cC_Disc, some "__init__"), "__init__", "Disc.__init__", defArgs s_Disc_init, defBody s_Disc_init, defScope s_Disc_init, [], []⟩
def h_Disc_look_at_room : He.DefD := ⟨(nmC cC_Disc, some "look_at_room"), "look_at_room", "Disc.look_at_room", defArgs s_Disc_look_at_room, defBody s_Disc_look_at_room, defScope s_Disc_look_at_room, [], []⟩
def h_copied : He.DefD := ⟨("copied", none), "copied", "copied", defArgs s_copied, defBody s_copied, defScope s_copied, [], []⟩
def h_Disc_at : He.DefD := ⟨(nmC cC_Disc, some "at"), "at", "Disc.at", defArgs s_Disc_at, defBody s_Disc_at, defScope s_Disc_at, [], []⟩
def h_Disc_let : He.DefD := ⟨(nmC cC_Disc, some "let"), "let", "Disc.let", defArgs s_Disc_let, defBody s_Disc_let, defScope s_Disc_let, [], []⟩
def h_Disc_note : He.DefD := ⟨(nmC cC_Disc, some "note"), "note", "Disc.note", defArgs s_Disc_note, defBody s_Disc_note, defScope s_Disc_note, [], []⟩
def h_Disc_one_write : He.DefD := ⟨(nmC cC_Disc, some "one_write"), "one_write", "Disc.one_write", defArgs s_Disc_one_write, defBody s_Disc_one_write, defScope s_Disc_one_write, [], []⟩
def h_Disc_set_note : He.DefD := ⟨(nmC cC_Disc, some "set_note"), "set_note", "Disc.set_note", defArgs s_Disc_set_note, defBody s_Disc_set_note, defScope s_Disc_set_note, [], []⟩
def h_Disc_whole : He.DefD := ⟨(nmC cC_Disc, some "whole"), "whole", "Disc.whole", defArgs s_Disc_whole, defBody s_Disc_whole, defScope s_Disc_whole, [], []⟩
def h_Disc_write : He.DefD := ⟨(nmC cC_Disc, some "write"), "write", "Disc.write", defArgs s_Disc_write, defBody s_Disc_write, defScope s_Disc_write, [], []⟩
def h_Disc_writes : He.DefD := ⟨(nmC cC_Disc, some "writes"), "writes", "Disc.writes", defArgs s_Disc_writes, defBody s_Disc_writes, defScope s_Disc_writes, [], []⟩
def h_law_digits : He.DefD := ⟨("_law_digits", none), "_law_digits", "_law_digits", defArgs s_law_digits, defBody s_law_digits, defScope s_law_digits, [], []⟩
def h_law_at : He.DefD := ⟨("_law_at", none), "_law_at", "_law_at", defArgs s_law_at, defBody s_law_at, defScope s_law_at, [], []⟩
def h_law_let : He.DefD := ⟨("_law_let", none), "_law_let", "_law_let", defArgs s_law_let, defBody s_law_let, defScope s_law_let, [], []⟩
def h_law_note : He.DefD := ⟨("_law_note", none), "_law_note", "_law_note", defArgs s_law_note, defBody s_law_note, defScope s_law_note, [], []⟩
def h_law_whole : He.DefD := ⟨("_law_whole", none), "_law_whole", "_law_whole", defArgs s_law_whole, defBody s_law_whole, defScope s_law_whole, [], []⟩
def h_law_write : He.DefD := ⟨("_law_write", none), "_law_write", "_law_write", defArgs s_law_write, defBody s_law_write, defScope s_law_write, [], []⟩
def h_law_said : He.DefD := ⟨("_law_said", none), "_law_said", "_law_said", defArgs s_law_said, defBody s_law_said, defScope s_law_said, [], []⟩
def h_law : He.DefD := ⟨("law", none), "law", "law", defArgs s_law, defBody s_law, defScope s_law, [], []⟩
def h_NoRoom_init : He.DefD := ⟨(nmC cC_NoRoom, some "__init__"), "__init__", "NoRoom.__init__", defArgs s_NoRoom_init, defBody s_NoRoom_init, defScope s_NoRoom_init, [], []⟩
def h_NoNumber_init : He.DefD := ⟨(nmC cC_NoNumber, some "__init__"), "__init__", "NoNumber.__init__", defArgs s_NoNumber_init, defBody s_NoNumber_init, defScope s_NoNumber_init, [], []⟩
def h_Stopped_init : He.DefD := ⟨(nmC cC_Stopped, some "__init__"), "__init__", "Stopped.__init__", defArgs s_Stopped_init, defBody s_Stopped_init, defScope s_Stopped_init, [], []⟩
def hfn : List He.DefD := [h_Disc_init, h_Disc_look_at_room, h_copied, h_Disc_at, h_Disc_let, h_Disc_note, h_Disc_one_write, h_Disc_set_note, h_Disc_whole, h_Disc_write, h_Disc_writes, h_law_digits, h_law_at, h_law_let, h_law_note, h_law_whole, h_law_write, h_law_said, h_law, h_NoRoom_init, h_NoNumber_init, h_Stopped_init]
def hfa : List He.Fa := ([.glo (nmC cC_Disc), .cls (nmC cC_Disc), .meth (nmC cC_Disc) "__init__", .meth (nmC cC_Disc) "look_at_room", .glo "copied", .meth (nmC cC_Disc) "at", .meth (nmC cC_Disc) "let", .meth (nmC cC_Disc) "note", .meth (nmC cC_Disc) "one_write", .meth (nmC cC_Disc) "set_note", .meth (nmC cC_Disc) "whole", .meth (nmC cC_Disc) "write", .meth (nmC cC_Disc) "writes", .glo "_law_digits", .glo "_law_at", .glo "_law_let", .glo "_law_note", .glo "_law_whole", .glo "_law_write", .glo "_law_said"] : List He.Fa) ++ ([.glo "law", .glo (nmC cC_NoNumber), .glo (nmC cC_NoRoom), .glo (nmC cC_Stopped), .glo (nmC cC_WholeError), .mkr (nmC cC_Disc), .noat (nmC cC_Disc) "is_shut", .noat (nmC cC_Disc) "many_done", .noat (nmC cC_Disc) "many_left", .noat (nmC cC_Disc) "own_note", .noat (nmC cC_Disc) "rooms", .free "KeyError", .free "RuntimeError", .free "abs", .free "bool", .free "enumerate", .free "int", .free "isinstance", .free "list", .free "range"] : List He.Fa) ++ ([.free "repr", .free "str", .free "tuple"] : List He.Fa)
def exL (K : PySem.W.Frag) : List Bool := [oexB K cC_NoRoom .ke,
  oiniB K cC_NoRoom,
  excB K cC_NoRoom,
  decide (PySem.W.findIn K (.ref (cl K cC_NoRoom)) "room" = some none),
  oexB K cC_NoNumber .ve,
  oiniB K cC_NoNumber,
  excB K cC_NoNumber,
  decide (PySem.W.findIn K (.ref (cl K cC_NoNumber)) "number" = some none),
  oexB K cC_Stopped .rt,
  oiniB K cC_Stopped,
  excB K cC_Stopped,
  gmB K cC_WholeError (Bk.init .ve),
  gmTB K .ke,
  gmTB K .rt,
  exmB K (.ref (cl K cC_NoNumber)) exy_NoNumber exn_NoNumber,
  exmB K (.ref (cl K cC_NoRoom)) exy_NoRoom exn_NoRoom,
  exmB K (.ref (cl K cC_Stopped)) exy_Stopped exn_Stopped,
  decide (PySem.W.kitOne K (.ref (cl K cC_NoNumber)) (.ref (cl K cC_WholeError)) = some true),
  decide (PySem.W.kitOne K (.ref (cl K cC_NoRoom)) (.type "KeyError") = some true),
  gloB K "ROOMS" (.tup [(.str "files"), (.str "book"), (.str "asides"), (.str "choices"), (.str "offered"), (.str "marks"), (.str "made"), (.str "log")])]
def exB (K : PySem.W.Frag) : Bool := (exL K).all id
theorem exL_at {K : PySem.W.Frag} (h : exB K = true) (i : Nat) {b : Bool} (e : (exL K)[i]? = some b) : b = true := List.all_eq_true.mp h b (List.mem_of_getElem? e)
abbrev Rw : PySem.W.OpenRow := PySem.W.OpenLaw.row PySem.Challenge.rw_wholeparcels_k46_disc_refuses
abbrev hk : PySem.W.Hook := hookY 5 hfa hfn exB
def hob (s : PySem.W.SharedT) : He.AlX := obsY 5 hfa hfn exB (HandSHeadRun.getT s)
theorem hob_eq (s : PySem.W.SharedT) : hob s = hk.obs s.abs := obsY_eq (HandSHeadRun.getT_eq s)
def hview : List Nat := [11, 12, 13, 14, 15, 16, 17, 18]
def hloose : List Str := (["_wall", "WholeError", "NoNumber", "NoRoom", "Stopped", "ROOMS", "copied", "Disc"] : List Str)
theorem hrun (w : World) : HandSHeadRun.RunEq Rw (PySem.W.view Rw.prog hview) hk hob 4000 hloose w := by
  intro os
  kernel_rfl
noncomputable def tops {w : World} {K : PySem.W.Frag} {h : Heap} {mg : Str → Option Value} (X : K.In h) (G : h.Ns mainGlobals mg) (c : He.SaysX hfa hfn [] [] exB w h K) : Tops K mg where
  m_Disc := (congrArg mg nC_Disc).symm.trans (He.glo_ok X G (c.t.d.fact 0 (f := .glo (nmC cC_Disc)) rfl))
  cl_Disc := He.cls_ok (c.t.d.fact 1 (f := .cls (nmC cC_Disc)) rfl)
  f_Disc_init := He.fAd K (nmC cC_Disc, some "__init__")
  d_Disc_init := Classical.choose (c.t.d.def_ 0 (d := h_Disc_init) rfl)
  F_Disc_init := Classical.choose_spec (c.t.d.def_ 0 (d := h_Disc_init) rfl)
  fn_Disc_init := (He.meth_ok (c.t.d.fact 2 (f := .meth (nmC cC_Disc) "__init__") rfl)).fn
  f_Disc_look_at_room := He.fAd K (nmC cC_Disc, some "look_at_room")
  d_Disc_look_at_room := Classical.choose (c.t.d.def_ 1 (d := h_Disc_look_at_room) rfl)
  F_Disc_look_at_room := Classical.choose_spec (c.t.d.def_ 1 (d := h_Disc_look_at_room) rfl)
  fn_Disc_look_at_room := (He.meth_ok (c.t.d.fact 3 (f := .meth (nmC cC_Disc) "look_at_room") rfl)).fn
  f_copied := He.fAd K ("copied", none)
  d_copied := Classical.choose (c.t.d.def_ 2 (d := h_copied) rfl)
  F_copied := Classical.choose_spec (c.t.d.def_ 2 (d := h_copied) rfl)
  m_copied := He.glo_ok X G (c.t.d.fact 4 (f := .glo "copied") rfl)
  f_Disc_at := He.fAd K (nmC cC_Disc, some "at")
  d_Disc_at := Classical.choose (c.t.d.def_ 3 (d := h_Disc_at) rfl)
  F_Disc_at := Classical.choose_spec (c.t.d.def_ 3 (d := h_Disc_at) rfl)
  fn_Disc_at := (He.meth_ok (c.t.d.fact 5 (f := .meth (nmC cC_Disc) "at") rfl)).fn
  f_Disc_let := He.fAd K (nmC cC_Disc, some "let")
  d_Disc_let := Classical.choose (c.t.d.def_ 4 (d := h_Disc_let) rfl)
  F_Disc_let := Classical.choose_spec (c.t.d.def_ 4 (d := h_Disc_let) rfl)
  fn_Disc_let := (He.meth_ok (c.t.d.fact 6 (f := .meth (nmC cC_Disc) "let") rfl)).fn
  f_Disc_note := He.fAd K (nmC cC_Disc, some "note")
  d_Disc_note := Classical.choose (c.t.d.def_ 5 (d := h_Disc_note) rfl)
  F_Disc_note := Classical.choose_spec (c.t.d.def_ 5 (d := h_Disc_note) rfl)
  fn_Disc_note := (He.meth_ok (c.t.d.fact 7 (f := .meth (nmC cC_Disc) "note") rfl)).fn
  f_Disc_one_write := He.fAd K (nmC cC_Disc, some "one_write")
  d_Disc_one_write := Classical.choose (c.t.d.def_ 6 (d := h_Disc_one_write) rfl)
  F_Disc_one_write := Classical.choose_spec (c.t.d.def_ 6 (d := h_Disc_one_write) rfl)
  fn_Disc_one_write := (He.meth_ok (c.t.d.fact 8 (f := .meth (nmC cC_Disc) "one_write") rfl)).fn
  f_Disc_set_note := He.fAd K (nmC cC_Disc, some "set_note")
  d_Disc_set_note := Classical.choose (c.t.d.def_ 7 (d := h_Disc_set_note) rfl)
  F_Disc_set_note := Classical.choose_spec (c.t.d.def_ 7 (d := h_Disc_set_note) rfl)
  fn_Disc_set_note := (He.meth_ok (c.t.d.fact 9 (f := .meth (nmC cC_Disc) "set_note") rfl)).fn
  f_Disc_whole := He.fAd K (nmC cC_Disc, some "whole")
  d_Disc_whole := Classical.choose (c.t.d.def_ 8 (d := h_Disc_whole) rfl)
  F_Disc_whole := Classical.choose_spec (c.t.d.def_ 8 (d := h_Disc_whole) rfl)
  fn_Disc_whole := (He.meth_ok (c.t.d.fact 10 (f := .meth (nmC cC_Disc) "whole") rfl)).fn
  f_Disc_write := He.fAd K (nmC cC_Disc, some "write")
  d_Disc_write := Classical.choose (c.t.d.def_ 9 (d := h_Disc_write) rfl)
  F_Disc_write := Classical.choose_spec (c.t.d.def_ 9 (d := h_Disc_write) rfl)
  fn_Disc_write := (He.meth_ok (c.t.d.fact 11 (f := .meth (nmC cC_Disc) "write") rfl)).fn
  f_Disc_writes := He.fAd K (nmC cC_Disc, some "writes")
  d_Disc_writes := Classical.choose (c.t.d.def_ 10 (d := h_Disc_writes) rfl)
  F_Disc_writes := Classical.choose_spec (c.t.d.def_ 10 (d := h_Disc_writes) rfl)
  fn_Disc_writes := (He.meth_ok (c.t.d.fact 12 (f := .meth (nmC cC_Disc) "writes") rfl)).fn
  f_law_digits := He.fAd K ("_law_digits", none)
  d_law_digits := Classical.choose (c.t.d.def_ 11 (d := h_law_digits) rfl)
  F_law_digits := Classical.choose_spec (c.t.d.def_ 11 (d := h_law_digits) rfl)
  m_law_digits := He.glo_ok X G (c.t.d.fact 13 (f := .glo "_law_digits") rfl)
  f_law_at := He.fAd K ("_law_at", none)
  d_law_at := Classical.choose (c.t.d.def_ 12 (d := h_law_at) rfl)
  F_law_at := Classical.choose_spec (c.t.d.def_ 12 (d := h_law_at) rfl)
  m_law_at := He.glo_ok X G (c.t.d.fact 14 (f := .glo "_law_at") rfl)
  mv_law_at := (He.glo_ok X G (c.t.d.fact 14 (f := .glo "_law_at") rfl)).trans (congrArg (fun z => some (Value.ref (He.ga K z))) nv_law_at.symm)
  fv_law_at := congrArg (He.ga K) nv_law_at.symm
  f_law_let := He.fAd K ("_law_let", none)
  d_law_let := Classical.choose (c.t.d.def_ 13 (d := h_law_let) rfl)
  F_law_let := Classical.choose_spec (c.t.d.def_ 13 (d := h_law_let) rfl)
  m_law_let := He.glo_ok X G (c.t.d.fact 15 (f := .glo "_law_let") rfl)
  mv_law_let := (He.glo_ok X G (c.t.d.fact 15 (f := .glo "_law_let") rfl)).trans (congrArg (fun z => some (Value.ref (He.ga K z))) nv_law_let.symm)
  fv_law_let := congrArg (He.ga K) nv_law_let.symm
  f_law_note := He.fAd K ("_law_note", none)
  d_law_note := Classical.choose (c.t.d.def_ 14 (d := h_law_note) rfl)
  F_law_note := Classical.choose_spec (c.t.d.def_ 14 (d := h_law_note) rfl)
  m_law_note := He.glo_ok X G (c.t.d.fact 16 (f := .glo "_law_note") rfl)
  mv_law_note := (He.glo_ok X G (c.t.d.fact 16 (f := .glo "_law_note") rfl)).trans (congrArg (fun z => some (Value.ref (He.ga K z))) nv_law_note.symm)
  fv_law_note := congrArg (He.ga K) nv_law_note.symm
  f_law_whole := He.fAd K ("_law_whole", none)
  d_law_whole := Classical.choose (c.t.d.def_ 15 (d := h_law_whole) rfl)
  F_law_whole := Classical.choose_spec (c.t.d.def_ 15 (d := h_law_whole) rfl)
  m_law_whole := He.glo_ok X G (c.t.d.fact 17 (f := .glo "_law_whole") rfl)
  mv_law_whole := (He.glo_ok X G (c.t.d.fact 17 (f := .glo "_law_whole") rfl)).trans (congrArg (fun z => some (Value.ref (He.ga K z))) nv_law_whole.symm)
  fv_law_whole := congrArg (He.ga K) nv_law_whole.symm
  f_law_write := He.fAd K ("_law_write", none)
  d_law_write := Classical.choose (c.t.d.def_ 16 (d := h_law_write) rfl)
  F_law_write := Classical.choose_spec (c.t.d.def_ 16 (d := h_law_write) rfl)
  m_law_write := He.glo_ok X G (c.t.d.fact 18 (f := .glo "_law_write") rfl)
  mv_law_write := (He.glo_ok X G (c.t.d.fact 18 (f := .glo "_law_write") rfl)).trans (congrArg (fun z => some (Value.ref (He.ga K z))) nv_law_write.symm)
  fv_law_write := congrArg (He.ga K) nv_law_write.symm
  f_law_said := He.fAd K ("_law_said", none)
  d_law_said := Classical.choose (c.t.d.def_ 17 (d := h_law_said) rfl)
  F_law_said := Classical.choose_spec (c.t.d.def_ 17 (d := h_law_said) rfl)
  m_law_said := He.glo_ok X G (c.t.d.fact 19 (f := .glo "_law_said") rfl)
  f_law := He.fAd K ("law", none)
  d_law := Classical.choose (c.t.d.def_ 18 (d := h_law) rfl)
  F_law := Classical.choose_spec (c.t.d.def_ 18 (d := h_law) rfl)
  m_law := He.glo_ok X G (c.t.d.fact 20 (f := .glo "law") rfl)
  f_NoRoom_init := He.fAd K (nmC cC_NoRoom, some "__init__")
  d_NoRoom_init := Classical.choose (c.t.d.def_ 19 (d := h_NoRoom_init) rfl)
  F_NoRoom_init := Classical.choose_spec (c.t.d.def_ 19 (d := h_NoRoom_init) rfl)
  f_NoNumber_init := He.fAd K (nmC cC_NoNumber, some "__init__")
  d_NoNumber_init := Classical.choose (c.t.d.def_ 20 (d := h_NoNumber_init) rfl)
  F_NoNumber_init := Classical.choose_spec (c.t.d.def_ 20 (d := h_NoNumber_init) rfl)
  f_Stopped_init := He.fAd K (nmC cC_Stopped, some "__init__")
  d_Stopped_init := Classical.choose (c.t.d.def_ 21 (d := h_Stopped_init) rfl)
  F_Stopped_init := Classical.choose_spec (c.t.d.def_ 21 (d := h_Stopped_init) rfl)
  m_NoNumber := (congrArg mg nC_NoNumber).symm.trans (He.glo_ok X G (c.t.d.fact 21 (f := .glo (nmC cC_NoNumber)) rfl))
  m_NoRoom := (congrArg mg nC_NoRoom).symm.trans (He.glo_ok X G (c.t.d.fact 22 (f := .glo (nmC cC_NoRoom)) rfl))
  m_Stopped := (congrArg mg nC_Stopped).symm.trans (He.glo_ok X G (c.t.d.fact 23 (f := .glo (nmC cC_Stopped)) rfl))
  m_WholeError := (congrArg mg nC_WholeError).symm.trans (He.glo_ok X G (c.t.d.fact 24 (f := .glo (nmC cC_WholeError)) rfl))
  oex_NoRoom := oexB_ok (exL_at c.more 0 rfl)
  ini_NoRoom := oiniB_ok (exL_at c.more 1 rfl)
  exc_NoRoom := excB_ok (exL_at c.more 2 rfl)
  xf_NoRoom_room := of_decide_eq_true (exL_at c.more 3 rfl)
  oex_NoNumber := oexB_ok (exL_at c.more 4 rfl)
  ini_NoNumber := oiniB_ok (exL_at c.more 5 rfl)
  exc_NoNumber := excB_ok (exL_at c.more 6 rfl)
  xf_NoNumber_number := of_decide_eq_true (exL_at c.more 7 rfl)
  oex_Stopped := oexB_ok (exL_at c.more 8 rfl)
  ini_Stopped := oiniB_ok (exL_at c.more 9 rfl)
  exc_Stopped := excB_ok (exL_at c.more 10 rfl)
  gm_WholeError := (exL_at c.more 11 rfl)
  gm_KeyError := (exL_at c.more 12 rfl)
  gm_RuntimeError := (exL_at c.more 13 rfl)
  exm_NoNumber := exmB_ok (exL_at c.more 14 rfl)
  exm_NoRoom := exmB_ok (exL_at c.more 15 rfl)
  exm_Stopped := exmB_ok (exL_at c.more 16 rfl)
  kit_NoNumber_WholeError := of_decide_eq_true (exL_at c.more 17 rfl)
  kit_NoRoom_KeyError := of_decide_eq_true (exL_at c.more 18 rfl)
  me_Disc_at := He.meth_ok (c.t.d.fact 5 (f := .meth (nmC cC_Disc) "at") rfl)
  me_Disc_let := He.meth_ok (c.t.d.fact 6 (f := .meth (nmC cC_Disc) "let") rfl)
  me_Disc_look_at_room := He.meth_ok (c.t.d.fact 3 (f := .meth (nmC cC_Disc) "look_at_room") rfl)
  me_Disc_note := He.meth_ok (c.t.d.fact 7 (f := .meth (nmC cC_Disc) "note") rfl)
  me_Disc_one_write := He.meth_ok (c.t.d.fact 8 (f := .meth (nmC cC_Disc) "one_write") rfl)
  me_Disc_set_note := He.meth_ok (c.t.d.fact 9 (f := .meth (nmC cC_Disc) "set_note") rfl)
  me_Disc_whole := He.meth_ok (c.t.d.fact 10 (f := .meth (nmC cC_Disc) "whole") rfl)
  me_Disc_write := He.meth_ok (c.t.d.fact 11 (f := .meth (nmC cC_Disc) "write") rfl)
  me_Disc_writes := He.meth_ok (c.t.d.fact 12 (f := .meth (nmC cC_Disc) "writes") rfl)
  mk_Disc := He.mkr_ok (c.t.d.fact 25 (f := .mkr (nmC cC_Disc)) rfl)
  at_is_shut := List.forall_mem_cons.mpr ⟨⟨He.cls_ok (c.t.d.fact 1 (f := .cls (nmC cC_Disc)) rfl), He.noat_ok (c.t.d.fact 26 (f := .noat (nmC cC_Disc) "is_shut") rfl)⟩, fun _ h => absurd h List.not_mem_nil⟩
  at_many_done := List.forall_mem_cons.mpr ⟨⟨He.cls_ok (c.t.d.fact 1 (f := .cls (nmC cC_Disc)) rfl), He.noat_ok (c.t.d.fact 27 (f := .noat (nmC cC_Disc) "many_done") rfl)⟩, fun _ h => absurd h List.not_mem_nil⟩
  at_many_left := List.forall_mem_cons.mpr ⟨⟨He.cls_ok (c.t.d.fact 1 (f := .cls (nmC cC_Disc)) rfl), He.noat_ok (c.t.d.fact 28 (f := .noat (nmC cC_Disc) "many_left") rfl)⟩, fun _ h => absurd h List.not_mem_nil⟩
  at_own_note := List.forall_mem_cons.mpr ⟨⟨He.cls_ok (c.t.d.fact 1 (f := .cls (nmC cC_Disc)) rfl), He.noat_ok (c.t.d.fact 29 (f := .noat (nmC cC_Disc) "own_note") rfl)⟩, fun _ h => absurd h List.not_mem_nil⟩
  at_rooms := List.forall_mem_cons.mpr ⟨⟨He.cls_ok (c.t.d.fact 1 (f := .cls (nmC cC_Disc)) rfl), He.noat_ok (c.t.d.fact 30 (f := .noat (nmC cC_Disc) "rooms") rfl)⟩, fun _ h => absurd h List.not_mem_nil⟩
  z_KeyError := He.free_ok X G (c.t.d.fact 31 (f := .free "KeyError") rfl)
  z_RuntimeError := He.free_ok X G (c.t.d.fact 32 (f := .free "RuntimeError") rfl)
  z_abs := He.free_ok X G (c.t.d.fact 33 (f := .free "abs") rfl)
  z_bool := He.free_ok X G (c.t.d.fact 34 (f := .free "bool") rfl)
  z_enumerate := He.free_ok X G (c.t.d.fact 35 (f := .free "enumerate") rfl)
  z_int := He.free_ok X G (c.t.d.fact 36 (f := .free "int") rfl)
  z_isinstance := He.free_ok X G (c.t.d.fact 37 (f := .free "isinstance") rfl)
  z_list := He.free_ok X G (c.t.d.fact 38 (f := .free "list") rfl)
  z_range := He.free_ok X G (c.t.d.fact 39 (f := .free "range") rfl)
  z_repr := He.free_ok X G (c.t.d.fact 40 (f := .free "repr") rfl)
  z_str := He.free_ok X G (c.t.d.fact 41 (f := .free "str") rfl)
  z_tuple := He.free_ok X G (c.t.d.fact 42 (f := .free "tuple") rfl)
  c_ROOMS := gloB_sub X G (exL_at c.more 19 rfl)
end DL46
namespace DL46
open PySem PySem.Spec PyProof.Rows L2 DL
def en0 (a b c d : Nat) : En := [none, none, none, some (.lst [.int (Int.ofNat a), .int (Int.ofNat b), .int (Int.ofNat c), .int (Int.ofNat d)]), none, none, none, none, none, none]
def restOk (a b c d : Nat) : Bool := turnB [0, 1, 2, 3, 4, 5, 6, 7, 8, 9] 10 (g_rest (en0 a b c d) [])
theorem tab_0_0 : ((List.range 9).all fun c => (List.range 5).all fun d => restOk 0 0 c d) = true := by decide +kernel
theorem tab_0_1 : ((List.range 9).all fun c => (List.range 5).all fun d => restOk 0 1 c d) = true := by decide +kernel
theorem tab_0_2 : ((List.range 9).all fun c => (List.range 5).all fun d => restOk 0 2 c d) = true := by decide +kernel
theorem tab_0_3 : ((List.range 9).all fun c => (List.range 5).all fun d => restOk 0 3 c d) = true := by decide +kernel
theorem tab_0_4 : ((List.range 9).all fun c => (List.range 5).all fun d => restOk 0 4 c d) = true := by decide +kernel
theorem tab_0_5 : ((List.range 9).all fun c => (List.range 5).all fun d => restOk 0 5 c d) = true := by decide +kernel
theorem tab_0_6 : ((List.range 9).all fun c => (List.range 5).all fun d => restOk 0 6 c d) = true := by decide +kernel
theorem tab_0_7 : ((List.range 9).all fun c => (List.range 5).all fun d => restOk 0 7 c d) = true := by decide +kernel
theorem tab_0_8 : ((List.range 9).all fun c => (List.range 5).all fun d => restOk 0 8 c d) = true := by decide +kernel
theorem tab_1_0 : ((List.range 9).all fun c => (List.range 5).all fun d => restOk 1 0 c d) = true := by decide +kernel
theorem tab_1_1 : ((List.range 9).all fun c => (List.range 5).all fun d => restOk 1 1 c d) = true := by decide +kernel
theorem tab_1_2 : ((List.range 9).all fun c => (List.range 5).all fun d => restOk 1 2 c d) = true := by decide +kernel
theorem tab_1_3 : ((List.range 9).all fun c => (List.range 5).all fun d => restOk 1 3 c d) = true := by decide +kernel
theorem tab_1_4 : ((List.range 9).all fun c => (List.range 5).all fun d => restOk 1 4 c d) = true := by decide +kernel
theorem tab_1_5 : ((List.range 9).all fun c => (List.range 5).all fun d => restOk 1 5 c d) = true := by decide +kernel
theorem tab_1_6 : ((List.range 9).all fun c => (List.range 5).all fun d => restOk 1 6 c d) = true := by decide +kernel
theorem tab_1_7 : ((List.range 9).all fun c => (List.range 5).all fun d => restOk 1 7 c d) = true := by decide +kernel
theorem tab_1_8 : ((List.range 9).all fun c => (List.range 5).all fun d => restOk 1 8 c d) = true := by decide +kernel
theorem tab_2_0 : ((List.range 9).all fun c => (List.range 5).all fun d => restOk 2 0 c d) = true := by decide +kernel
theorem tab_2_1 : ((List.range 9).all fun c => (List.range 5).all fun d => restOk 2 1 c d) = true := by decide +kernel
theorem tab_2_2 : ((List.range 9).all fun c => (List.range 5).all fun d => restOk 2 2 c d) = true := by decide +kernel
theorem tab_2_3 : ((List.range 9).all fun c => (List.range 5).all fun d => restOk 2 3 c d) = true := by decide +kernel
theorem tab_2_4 : ((List.range 9).all fun c => (List.range 5).all fun d => restOk 2 4 c d) = true := by decide +kernel
theorem tab_2_5 : ((List.range 9).all fun c => (List.range 5).all fun d => restOk 2 5 c d) = true := by decide +kernel
theorem tab_2_6 : ((List.range 9).all fun c => (List.range 5).all fun d => restOk 2 6 c d) = true := by decide +kernel
theorem tab_2_7 : ((List.range 9).all fun c => (List.range 5).all fun d => restOk 2 7 c d) = true := by decide +kernel
theorem tab_2_8 : ((List.range 9).all fun c => (List.range 5).all fun d => restOk 2 8 c d) = true := by decide +kernel
theorem tab_3_0 : ((List.range 9).all fun c => (List.range 5).all fun d => restOk 3 0 c d) = true := by decide +kernel
theorem tab_3_1 : ((List.range 9).all fun c => (List.range 5).all fun d => restOk 3 1 c d) = true := by decide +kernel
theorem tab_3_2 : ((List.range 9).all fun c => (List.range 5).all fun d => restOk 3 2 c d) = true := by decide +kernel
theorem tab_3_3 : ((List.range 9).all fun c => (List.range 5).all fun d => restOk 3 3 c d) = true := by decide +kernel
theorem tab_3_4 : ((List.range 9).all fun c => (List.range 5).all fun d => restOk 3 4 c d) = true := by decide +kernel
theorem tab_3_5 : ((List.range 9).all fun c => (List.range 5).all fun d => restOk 3 5 c d) = true := by decide +kernel
theorem tab_3_6 : ((List.range 9).all fun c => (List.range 5).all fun d => restOk 3 6 c d) = true := by decide +kernel
theorem tab_3_7 : ((List.range 9).all fun c => (List.range 5).all fun d => restOk 3 7 c d) = true := by decide +kernel
theorem tab_3_8 : ((List.range 9).all fun c => (List.range 5).all fun d => restOk 3 8 c d) = true := by decide +kernel
theorem tab_in {a b c d : Nat} (h : ((List.range 9).all fun c => (List.range 5).all fun d => restOk a b c d) = true) (hc : c < 9) (hd : d < 5) : restOk a b c d = true := List.all_eq_true.mp (List.all_eq_true.mp h c (List.mem_range.mpr hc)) d (List.mem_range.mpr hd)
theorem tab_at {a b c d : Nat} (ha : a < 4) (hb : b < 9) (hc : c < 9) (hd : d < 5) : restOk a b c d = true := match a, b, ha, hb with
  | 0, 0, _, _ => tab_in tab_0_0 hc hd
  | 0, 1, _, _ => tab_in tab_0_1 hc hd
  | 0, 2, _, _ => tab_in tab_0_2 hc hd
  | 0, 3, _, _ => tab_in tab_0_3 hc hd
  | 0, 4, _, _ => tab_in tab_0_4 hc hd
  | 0, 5, _, _ => tab_in tab_0_5 hc hd
  | 0, 6, _, _ => tab_in tab_0_6 hc hd
  | 0, 7, _, _ => tab_in tab_0_7 hc hd
  | 0, 8, _, _ => tab_in tab_0_8 hc hd
  | 1, 0, _, _ => tab_in tab_1_0 hc hd
  | 1, 1, _, _ => tab_in tab_1_1 hc hd
  | 1, 2, _, _ => tab_in tab_1_2 hc hd
  | 1, 3, _, _ => tab_in tab_1_3 hc hd
  | 1, 4, _, _ => tab_in tab_1_4 hc hd
  | 1, 5, _, _ => tab_in tab_1_5 hc hd
  | 1, 6, _, _ => tab_in tab_1_6 hc hd
  | 1, 7, _, _ => tab_in tab_1_7 hc hd
  | 1, 8, _, _ => tab_in tab_1_8 hc hd
  | 2, 0, _, _ => tab_in tab_2_0 hc hd
  | 2, 1, _, _ => tab_in tab_2_1 hc hd
  | 2, 2, _, _ => tab_in tab_2_2 hc hd
  | 2, 3, _, _ => tab_in tab_2_3 hc hd
  | 2, 4, _, _ => tab_in tab_2_4 hc hd
  | 2, 5, _, _ => tab_in tab_2_5 hc hd
  | 2, 6, _, _ => tab_in tab_2_6 hc hd
  | 2, 7, _, _ => tab_in tab_2_7 hc hd
  | 2, 8, _, _ => tab_in tab_2_8 hc hd
  | 3, 0, _, _ => tab_in tab_3_0 hc hd
  | 3, 1, _, _ => tab_in tab_3_1 hc hd
  | 3, 2, _, _ => tab_in tab_3_2 hc hd
  | 3, 3, _, _ => tab_in tab_3_3 hc hd
  | 3, 4, _, _ => tab_in tab_3_4 hc hd
  | 3, 5, _, _ => tab_in tab_3_5 hc hd
  | 3, 6, _, _ => tab_in tab_3_6 hc hd
  | 3, 7, _, _ => tab_in tab_3_7 hc hd
  | 3, 8, _, _ => tab_in tab_3_8 hc hd
  | _ + 4, _, h, _ => absurd h (by omega)
  | _, _ + 9, _, h => absurd h (by omega)
end DL46
namespace DL46
open PySem PySem.Spec PyProof.Rows L2 DL
theorem digits_is : F_law_digits = framed (callF 9 gDigX) := rfl
theorem nat_of {n s : Int} (h0 : 0 ≤ n) (h1 : n < s) : ∃ a : Nat, n = Int.ofNat a ∧ (a : Int) < s := ⟨n.toNat, by show n = (n.toNat : Int); omega, by omega⟩
theorem digits (c : Int) (i : Nat) (hi : i < 100) : ∃ a b x y : Nat, a < 4 ∧ b < 9 ∧ x < 9 ∧ y < 5 ∧ F_law_digits [.int c, .int i, .lst [.int 4, .int 9, .int 9, .int 5]] [] = .ok (.lst [.int (Int.ofNat a), .int (Int.ofNat b), .int (Int.ofNat x), .int (Int.ofNat y)]) [] := by
  obtain ⟨ns, hl, hb, e⟩ := digX_ok c i ⟨by omega, by omega⟩ [4, 9, 9, 5] (by decide) (by decide) [] rfl
  match ns, hl, hb, e with
  | [n0, n1, n2, n3], _, hb, e =>
    obtain ⟨p0, q0⟩ := hb 0 n0 4 rfl rfl
    obtain ⟨p1, q1⟩ := hb 1 n1 9 rfl rfl
    obtain ⟨p2, q2⟩ := hb 2 n2 9 rfl rfl
    obtain ⟨p3, q3⟩ := hb 3 n3 5 rfl rfl
    obtain ⟨a, rfl, ha⟩ := nat_of p0 q0
    obtain ⟨b, rfl, hb'⟩ := nat_of p1 q1
    obtain ⟨x, rfl, hx⟩ := nat_of p2 q2
    obtain ⟨y, rfl, hy⟩ := nat_of p3 q3
    refine ⟨a, b, x, y, by omega, by omega, by omega, by omega, ?_⟩
    rw [digits_is]
    exact framed_ok (by simp [D.closedL, D.closed]) e (by simp [D.closedL, D.closed])
def bodyL : FS := (gseq (gasg (.nm 3) (dcall F_law_digits [] (aCons (dvar 2) (aCons (dvar 1) (aCons (dlst (aCons (dc (.int 4)) (aCons (dc (.int 9)) (aCons (dc (.int 9)) (aCons (dc (.int 5)) aNil))))) aNil)))))
    (gforget [0, 1, 2, 4, 5, 6, 7, 8, 9] g_rest))
theorem body_is (c : Int) (i : Nat) (hi : i < 100) : turnB [0, 1, 2, 3, 4, 5, 6, 7, 8, 9] 10 (bodyL (none :: some (.int i) :: some (.int c) :: List.replicate 7 none) []) = true := by
  obtain ⟨a, b, x, y, ha, hb, hx, hy, e⟩ := digits c i hi
  have q : bodyL (none :: some (.int i) :: some (.int c) :: List.replicate 7 none) [] = g_rest (en0 a b x y) [] := by
    unfold bodyL
    rw [ap_seq]
    have e1 : gasg (.nm 3) (dcall F_law_digits [] (aCons (dvar 2) (aCons (dvar 1) (aCons (dlst (aCons (dc (.int 4)) (aCons (dc (.int 9)) (aCons (dc (.int 9)) (aCons (dc (.int 5)) aNil))))) aNil)))) (none :: some (.int i) :: some (.int c) :: List.replicate 7 none) []
        = .nx [none, some (.int i), some (.int c), some (.lst [.int (Int.ofNat a), .int (Int.ofNat b), .int (Int.ofNat x), .int (Int.ofNat y)]), none, none, none, none, none, none] [] := by
      simp [List.replicate, e]
    rw [e1, O.thn_nx]
    rfl
  rw [q]
  exact tab_at ha hb hx hy
theorem law_is (ns : List Int) (hns : ns.length ≤ 63) : ∃ μ', F_law [.lst (ns.map D.int)] [] = .ok (.bl true) μ' :=
  turn_law (body := bodyL) (n := 10) (al := [0, 1, 2, 3, 4, 5, 6, 7, 8, 9]) (k := 12) rfl (fun _ _ => rfl) rfl (fun i c hi => body_is c i hi) ns hns rfl
end DL46
open PySem PySem.W PySem.Calls PyProof.Rows
theorem PySem.Challenge.cw_wholeparcels_k46_disc_refuses_holds : PySem.Challenge.rw_wholeparcels_k46_disc_refuses.Holds := by
  w_on; o_law
  refine HandSHeadRun.head_any (r := DL46.Rw) (q := view DL46.Rw.prog DL46.hview) (H := DL46.hk) (ob := DL46.hob) (M := 4000) (loose := DL46.hloose) (d := HandSHeadRun.topDef DL46.Rw.prog 18) (kwd := []) DL46.hob_eq
    (by kernel_rfl) (fun s => by kernel_rfl) DL46.hrun (by kernel_rfl) (by kernel_rfl) (by kernel_rfl) (by rfl) (by first | assumption | decide +kernel) (by decide +kernel) ⟨rfl, rfl, rfl, rfl, rfl, by decide +kernel⟩ ?hw ?hc
  case hw => w_witness2
  case hc =>
    refine DL.walk_g (l := PySem.Challenge.rw_wholeparcels_k46_disc_refuses) (n := 63) (k := 17) (x := "_law_script") rfl (by decide) (by kernel_rfl) ⟨rfl, by decide, by decide⟩ ?F
    intro w mg fa h Y G hmg0
    obtain ⟨K, KX, c⟩ := Y
    have named : mg ("law" : PySem.Str) = some (.ref fa) := by
      have e : (HandSHeadRun.topDef DL46.Rw.prog 18).name = ("law" : PySem.Str) := by kernel_rfl
      rw [← e]
      exact hmg0
    have T := DL46.tops KX G c
    have e := named.symm.trans T.m_law
    cases e
    have b := L2.FunD.bindsA (ps := ["_law_script"]) T.F_law fun _ _ _ _ _ _ us hl => match us, hl with | [_], _ => rfl
    exact ⟨K, T.d_law, DL46.F_law, KX, fun s v => b s [v] rfl, fun base _ _ => DL46.ok_law T, fun ns hl _ => DL46.law_is ns hl⟩
