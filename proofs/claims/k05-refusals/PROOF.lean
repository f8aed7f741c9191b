import PyProof.Rows.All
import HandS.HeadHook4
import Wide.All
import OpenK.AllK
import Wide.FinOn
import HandS.ForMost
import HandS.Exc
import HandS.WordsExc
import HandS.Defaults
import HandS.HeadHook1
import HandS.Nested
import HandS.EndTab
import HandS.Text
import HandS.TupAny
import HandS.Zip
import HandS.Deep
import HandS.Small
import HandS.RaiseMore
import HandS.IsInst
import KE.KStateDown
import Lean
import HandS.More
import HandS.Head0
import HandS.Head1
import HandS.Head2
import HandS.HeadEnd
import HandS.HeadHook2
import HandS.EndBits
import HandS.Dict
import HandS.Codes
import PyProof.FitsReplace
import HandS.TupMul
import HandS.Strs
import PyProof.Rows.StrMeet
import HandS.CallLocal
import HandS.FStr
import HandS.SlotsOwn
import KE.KFmtOwn
import PyProof.InstEq
import HandS.WordsDict
import HandS.ExcInit
import HandS.ExcField
import HandS.ExcIs
import HandS.TryMany
import HandS.TryOnly
import KE.KExcInit
import PyProof.ExcBaseAll.RuntimeError
import PyProof.ExcBaseAll.LookupError
import KE.KExcIs
import KE.KEqNest
import PyProof.NeKinds
import HandS.DictComp
import HandS.Iter
import HandS.SortKw
import KE.SortKeyHeap
import HandS.SetBool
import HandS.Style
import HandS.Conv
import KE.GoesEnum
import PyProof.Rows.CountFlat
import KE.DataMinMax
import HandS.Flow
import HandS.TupSets
import PyProof.ReprRoads
import PyProof.RowDictHeap
import PySem.Challenge.RW_wholeparcels_k05_refusals_apart
set_option Elab.async false
set_option linter.all false
set_option maxRecDepth 100000
set_option maxHeartbeats 0
/-! DLA: the defs that make functions (a lambda, a def within), and the name that these have -/
namespace DL
open PySem
def lamDefs : List ((Str × Option Str) × Str) := []
end DL
/-! DL0: data as trees and cells; what an expression, a statement is worth over them. -/
namespace DL
open PySem L2

/-- no exception is let out; one that does not look at the names -/
def E0 : WX := fun _ _ _ _ => False
abbrev lift (E : XK) : WX := fun c d _ H => E c d H
/-- a name as a number: its signs, by 256 -/
def signsOf : Nat → Nat → List Nat → List Nat
  | 0, _, acc => acc
  | f + 1, n, acc => if n = 0 then acc else signsOf f (n / 256) (n % 256 :: acc)
def nmC (n : Nat) : Str := ⟨(signsOf 64 n []).toArray⟩
/-- what the module's name with the number n stands for -/
def cl (K : PySem.W.Frag) (n : Nat) : Addr := He.ga K (nmC n)
/-- a datum: trees, and handles of cells; classes and defs by their names' numbers -/
inductive D where
  | non | bl (b : Bool) | int (i : Int) | str (x : Str)
  | tup (xs : List D) | lst (xs : List D)
  | hdl (l : Nat)
  | cst (v : V)
  | obj (C : Nat) (fs : List (Str × D))
  | glo (c : Nat)
  | exc (C : Nat) (fs : List (Str × D))

/-- a cell -/
inductive MO where
  | lst (xs : List D)
  | dct (ks : List Key) (xs : List D)
  | dtt (ks : List (List Key)) (xs : List D)
  | ins (C : Nat) (ns : List Str) (xs : List D)
  | gone
abbrev Mu := List MO

/-- S: what never changes any more; io: where each cell stands -/
structure Wd where
  S : Hp
  io : List Addr

/-- a list that is to be read: tracked, locked, or one of the module's own -/
def Lq (K : PySem.W.Frag) (H : Hp) (a : Addr) (xs : List V) : Prop := Rd H a (.lst xs) ∨ ∃ (its : List Value) (n : Nat), K.lookup a = some { cls := .type "list", data := .seq its.toArray n } ∧ its.length ≤ sizeLine ∧ Vals xs its
/-- at a: an exception of the class at C, its dict (none | at d) -/
def exv (a C : Addr) (d : Option Addr) : HO := .ext fun h => ∃ o : Obj, h.get? a = some o ∧ o.cls = .ref C ∧ o.dict = d ∧ ∃ fv : Array Value, o.data = .fields fv
/-- at a: an exception with such attributes -/
def ExAt (S : Hp) (a C : Addr) (ns : List Str) (vs : List V) : Prop := (S a = some (exv a C none) ∧ ns = [] ∧ vs = []) ∨ ∃ dx, S a = some (exv a C (some dx)) ∧ S dx = some (.xd (ns.zip vs)) ∧ ns.length = vs.length
mutual
inductive Rep (K : PySem.W.Frag) (W : Wd) : V → D → Prop
  | non : Rep K W .non .non
  | bl (b : Bool) : Rep K W (.bl b) (.bl b)
  | int (i : Int) : Rep K W (.int i) (.int i)
  | str (x : Str) : x.length ≤ sizeLine → Rep K W (.str x) (.str x)
  | tup {a : Addr} {xs : List V} {ds : List D} : ds.length ≤ sizeLine → SqT K W.S a xs → Reps K W xs ds → Rep K W (.ref a) (.tup ds)
  | lst {a : Addr} {xs : List V} {ds : List D} : ds.length ≤ sizeLine → Lq K W.S a xs → Reps K W xs ds → Rep K W (.ref a) (.lst ds)
  | hdl {a : Addr} {l : Nat} : W.io[l]? = some a → Rep K W (.ref a) (.hdl l)
  | cst (v : V) : Rep K W v (.cst v)
  | glo (c : Nat) : Rep K W (.ref (cl K c)) (.glo c)
  | obj {a dx : Addr} {C : Nat} {ns : List Str} {vs : List V} {ds : List D} : W.S a = some (.ins (cl K C) dx (ns.zip vs)) → ns.length = vs.length → Reps K W vs ds → Rep K W (.ref a) (.obj C (ns.zip ds))
  | exc {a : Addr} {C : Nat} {ns : List Str} {vs : List V} {ds : List D} : ExAt W.S a (cl K C) ns vs → Reps K W vs ds → Rep K W (.ref a) (.exc C (ns.zip ds))
inductive Reps (K : PySem.W.Frag) (W : Wd) : List V → List D → Prop
  | nil : Reps K W [] []
  | cons {v : V} {vs : List V} {d : D} {ds : List D} : Rep K W v d → Reps K W vs ds → Reps K W (v :: vs) (d :: ds)
end

theorem Reps.length {K : PySem.W.Frag} {W : Wd} : ∀ {vs : List V} {ds : List D}, Reps K W vs ds → vs.length = ds.length
  | _, _, .nil => rfl
  | _, _, .cons _ h => by rw [List.length_cons, List.length_cons, h.length]
theorem Reps.get {K : PySem.W.Frag} {W : Wd} : ∀ {vs : List V} {ds : List D} {i : Nat} {d : D}, Reps K W vs ds → ds[i]? = some d → ∃ v, vs[i]? = some v ∧ Rep K W v d
  | _, _, _, _, .nil, e => by simp at e
  | _, _, 0, _, .cons r _, e => by
    simp at e
    subst e
    exact ⟨_, rfl, r⟩
  | _, _, i + 1, d, .cons _ t, e => by
    obtain ⟨v, h1, h2⟩ := Reps.get (i := i) (d := d) t (by simpa using e)
    exact ⟨v, by simpa using h1, h2⟩
theorem Reps.getV {K : PySem.W.Frag} {W : Wd} : ∀ {vs : List V} {ds : List D} {i : Nat} {v : V}, Reps K W vs ds → vs[i]? = some v → ∃ d, ds[i]? = some d ∧ Rep K W v d
  | _, _, _, _, .nil, e => by simp at e
  | _, _, 0, _, .cons r _, e => by
    simp at e
    subst e
    exact ⟨_, rfl, r⟩
  | _, _, i + 1, v, .cons _ t, e => by
    obtain ⟨d, h1, h2⟩ := Reps.getV (i := i) (v := v) t (by simpa using e)
    exact ⟨d, by simpa using h1, h2⟩
theorem Reps.app {K : PySem.W.Frag} {W : Wd} : ∀ {vs us : List V} {ds es : List D}, Reps K W vs ds → Reps K W us es → Reps K W (vs ++ us) (ds ++ es)
  | _, _, _, _, .nil, s => s
  | _, _, _, _, .cons r t, s => .cons r (Reps.app t s)
theorem Reps.take {K : PySem.W.Frag} {W : Wd} : ∀ {vs : List V} {ds : List D} (n : Nat), Reps K W vs ds → Reps K W (vs.take n) (ds.take n)
  | _, _, 0, _ => .nil
  | _, _, _ + 1, .nil => .nil
  | _, _, n + 1, .cons r t => .cons r (Reps.take n t)
theorem Reps.drop {K : PySem.W.Frag} {W : Wd} : ∀ {vs : List V} {ds : List D} (n : Nat), Reps K W vs ds → Reps K W (vs.drop n) (ds.drop n)
  | _, _, 0, h => h
  | _, _, _ + 1, .nil => .nil
  | _, _, n + 1, .cons _ t => Reps.drop n t
theorem Reps.set {K : PySem.W.Frag} {W : Wd} {v : V} {d : D} (r : Rep K W v d) : ∀ {vs : List V} {ds : List D} (i : Nat), Reps K W vs ds → Reps K W (vs.set i v) (ds.set i d)
  | _, _, _, .nil => .nil
  | _, _, 0, .cons _ t => .cons r t
  | _, _, i + 1, .cons q t => .cons q (Reps.set r i t)

/-- W' knows all that W knows -/
structure Le (W W' : Wd) : Prop where
  s : Same W.S W'.S
  io : W.io <+: W'.io
theorem Le.refl (W : Wd) : Le W W := ⟨Same.refl _, List.prefix_refl _⟩
theorem Le.trans {W W1 W2 : Wd} (a : Le W W1) (b : Le W1 W2) : Le W W2 := ⟨a.s.trans b.s, a.io.trans b.io⟩
theorem prefix_get {l l' : List Addr} (h : l <+: l') {i : Nat} {a : Addr} (e : l[i]? = some a) : l'[i]? = some a := by
  obtain ⟨t, rfl⟩ := h
  rw [List.getElem?_append_left (List.getElem?_eq_some_iff.mp e).1]
  exact e
theorem same_rd {H H' : Hp} {a : Addr} {u : HO} (e : Same H H') (h : Rd H a u) : Rd H' a u := by
  rcases h with h | ⟨o, h⟩
  · exact .inl (e _ _ h)
  · exact .inr ⟨o, e _ _ h⟩
theorem same_lq {K : PySem.W.Frag} {H H' : Hp} {a : Addr} {xs : List V} (e : Same H H') (h : Lq K H a xs) : Lq K H' a xs := by
  rcases h with h | h
  · exact .inl (same_rd e h)
  · exact .inr h
theorem Lq.sq {K : PySem.W.Frag} {H : Hp} {a : Addr} {xs : List V} (h : Lq K H a xs) : SqL K H a xs := by
  rcases h with h | ⟨its, n, h1, h2, h3⟩
  · exact .inl h
  · exact .inr ⟨_, its.toArray, n, h1, rfl, rfl, rfl, by simpa using h2, by simpa using h3⟩
theorem Lq.isL {X : Cx} {pins : List (Addr × Obj)} {σ : St} {H : Hp} {s : Shared} {a : Addr} {xs : List V} (h : Lq X.K H a xs) (I : Inv X pins σ H s) : ∃ (its : List Value) (n : Nat), Vals xs its ∧ s.heap.get? a = some { cls := .type "list", data := .seq its.toArray n } := by
  rcases h with h | ⟨its, n, h1, h2, h3⟩
  · obtain ⟨z, its, n, r, e⟩ := h.ok I.hok
    exact ⟨its, n, r, e⟩
  · exact ⟨its, n, h3, I.kIn _ _ h1⟩
theorem same_l {K : PySem.W.Frag} {H H' : Hp} {a : Addr} {xs : List V} (e : Same H H') (h : SqL K H a xs) : SqL K H' a xs := e.seq h
theorem same_t {K : PySem.W.Frag} {H H' : Hp} {a : Addr} {xs : List V} (e : Same H H') (h : SqT K H a xs) : SqT K H' a xs := by
  rcases h with (h | ⟨o, h⟩) | h
  · exact .inl (.inl (e _ _ h))
  · exact .inl (.inr ⟨o, e _ _ h⟩)
  · exact .inr h
theorem ExAt.mono {S S' : Hp} {a C : Addr} {ns : List Str} {vs : List V} (e : Same S S') (h : ExAt S a C ns vs) : ExAt S' a C ns vs := by
  rcases h with ⟨h, z⟩ | ⟨dx, h1, h2, h3⟩
  · exact .inl ⟨e _ _ h, z⟩
  · exact .inr ⟨dx, e _ _ h1, e _ _ h2, h3⟩
theorem ExAt.len {S : Hp} {a C : Addr} {ns : List Str} {vs : List V} (h : ExAt S a C ns vs) : ns.length = vs.length := by
  rcases h with ⟨_, rfl, rfl⟩ | ⟨dx, h1, h2, h3⟩
  · rfl
  · exact h3
mutual
theorem Rep.mono {K : PySem.W.Frag} {W W' : Wd} (l : Le W W') : ∀ {v : V} {d : D}, Rep K W v d → Rep K W' v d
  | _, _, .non => .non
  | _, _, .bl b => .bl b
  | _, _, .int i => .int i
  | _, _, .str x z => .str x z
  | _, _, .tup z h r => .tup z (same_t l.s h) (Reps.mono l r)
  | _, _, .lst z h r => .lst z (same_lq l.s h) (Reps.mono l r)
  | _, _, .hdl h => .hdl (prefix_get l.io h)
  | _, _, .cst v => .cst v
  | _, _, .glo c => .glo c
  | _, _, .obj h n r => .obj (l.s _ _ h) n (Reps.mono l r)
  | _, _, .exc h r => .exc (h.mono l.s) (Reps.mono l r)
theorem Reps.mono {K : PySem.W.Frag} {W W' : Wd} (l : Le W W') : ∀ {vs : List V} {ds : List D}, Reps K W vs ds → Reps K W' vs ds
  | _, _, .nil => .nil
  | _, _, .cons r t => .cons (Rep.mono l r) (Reps.mono l t)
end

/-- no table, nothing by a property alone -/
def Plain (o : HO) : Prop := (∀ ps, o ≠ .tbl ps) ∧ ∀ φ, o ≠ .ext φ
/-- what stands at a cell's place -/
def CellO (K : PySem.W.Frag) (W : Wd) : MO → HO → Prop
  | .lst ds, o => ∃ vs, o = .lst vs ∧ Reps K W vs ds
  | .dct ks ds, o => ∃ vs, o = .dK (ks.zip vs) ∧ ks.length = vs.length ∧ Reps K W vs ds
  | .dtt ks ds, o => ∃ vs, o = .dT (ks.zip vs) ∧ ks.length = vs.length ∧ Reps K W vs ds
  | .ins C ns ds, o => ∃ dx vs, o = .ins (cl K C) dx (ns.zip vs) ∧ ns.length = vs.length ∧ Reps K W vs ds
  | .gone, o => (∀ fs, o ≠ .xd fs) ∧ Plain o
theorem CellO.mono {K : PySem.W.Frag} {W W' : Wd} (l : Le W W') : ∀ {m : MO} {o : HO}, CellO K W m o → CellO K W' m o
  | .lst ds, _, ⟨vs, e, r⟩ => ⟨vs, e, r.mono l⟩
  | .dct ks ds, _, ⟨vs, e, n, r⟩ => ⟨vs, e, n, r.mono l⟩
  | .dtt ks ds, _, ⟨vs, e, n, r⟩ => ⟨vs, e, n, r.mono l⟩
  | .ins C ns ds, _, ⟨dx, vs, e, n, r⟩ => ⟨dx, vs, e, n, r.mono l⟩
  | .gone, _, h => h
theorem CellO.notxd {K : PySem.W.Frag} {W : Wd} : ∀ {m : MO} {o : HO}, CellO K W m o → ∀ fs, o ≠ .xd fs
  | .lst ds, _, ⟨vs, e, r⟩, fs => by rw [e]; exact fun z => nomatch z
  | .dct ks ds, _, ⟨vs, e, n, r⟩, fs => by rw [e]; exact fun z => nomatch z
  | .dtt ks ds, _, ⟨vs, e, n, r⟩, fs => by rw [e]; exact fun z => nomatch z
  | .ins C ns ds, _, ⟨dx, vs, e, n, r⟩, fs => by rw [e]; exact fun z => nomatch z
  | .gone, _, h, fs => h.1 fs
theorem CellO.notbl {K : PySem.W.Frag} {W : Wd} : ∀ {m : MO} {o : HO}, CellO K W m o → ∀ ps, o ≠ .tbl ps
  | .lst ds, _, ⟨vs, e, r⟩, fs => by rw [e]; exact fun z => nomatch z
  | .dct ks ds, _, ⟨vs, e, n, r⟩, fs => by rw [e]; exact fun z => nomatch z
  | .dtt ks ds, _, ⟨vs, e, n, r⟩, fs => by rw [e]; exact fun z => nomatch z
  | .ins C ns ds, _, ⟨dx, vs, e, n, r⟩, fs => by rw [e]; exact fun z => nomatch z
  | .gone, _, h, fs => h.2.1 fs
def CellIs (K : PySem.W.Frag) (W : Wd) (H : Hp) (a : Addr) (m : MO) : Prop := ∃ o, H a = some o ∧ CellO K W m o
theorem CellIs.mono {K : PySem.W.Frag} {W W' : Wd} {H H' : Hp} {a : Addr} (l : Le W W') (h : ∀ o, H a = some o → H' a = some o) {m : MO} : CellIs K W H a m → CellIs K W' H' a m
  | ⟨o, e, r⟩ => ⟨o, h _ e, r.mono l⟩

/-- the tables of code objects: of each def that makes functions, with the name that all of them have -/
def tabsOf (K : PySem.W.Frag) : List (Addr × Str) := lamDefs.map fun p => ((He.cT K p.1).2, p.2)
/-- the tables stand, and none of them is held fast -/
structure TabOk (K : PySem.W.Frag) (W : Wd) (H : Hp) : Prop where
  all : LamX.Tabs (tabsOf K) H
  no : ∀ p ∈ tabsOf K, W.S p.1 = none
theorem CellO.plain {K : PySem.W.Frag} {W : Wd} : ∀ {m : MO} {o : HO}, CellO K W m o → Plain o
  | .lst ds, _, ⟨vs, e, r⟩ => by rw [e]; exact ⟨(fun _ z => nomatch z), (fun _ z => nomatch z)⟩
  | .dct ks ds, _, ⟨vs, e, n, r⟩ => by rw [e]; exact ⟨(fun _ z => nomatch z), (fun _ z => nomatch z)⟩
  | .dtt ks ds, _, ⟨vs, e, n, r⟩ => by rw [e]; exact ⟨(fun _ z => nomatch z), (fun _ z => nomatch z)⟩
  | .ins C ns ds, _, ⟨dx, vs, e, n, r⟩ => by rw [e]; exact ⟨(fun _ z => nomatch z), (fun _ z => nomatch z)⟩
  | .gone, _, h => h.2
theorem tabs_new {T : List (Addr × Str)} {H : Hp} {p : Addr} {o : HO} (t : LamX.Tabs T H) (h : H p = none) : LamX.Tabs T (upd H p o) := t.ext fun b x e => by
  rw [upd_ne (ne_of_none e h)]
  exact e
theorem tabs_upd {T : List (Addr × Str)} {H : Hp} {a : Addr} {o o' : HO} (t : LamX.Tabs T H) (h : H a = some o) (n : Plain o) : LamX.Tabs T (upd H a o') := fun p hp => by
  obtain ⟨ps, h1, h2, h3⟩ := t p hp
  have ne : ∀ {b : Addr} {u : HO}, H b = some u → u ≠ o → b ≠ a := fun e q z => by
    rw [z, h] at e
    exact q (Option.some.inj e).symm
  refine ⟨ps, by rw [upd_ne (ne h1 (n.1 ps).symm)]; exact h1, h2, fun pos cv hc => ?_⟩
  obtain ⟨c, e1, e2⟩ := h3 pos cv hc
  exact ⟨c, e1, by rw [upd_ne (ne e2 (fun z => n.2 _ z.symm))]; exact e2⟩
theorem TabOk.ne {K : PySem.W.Frag} {W : Wd} {H : Hp} {a : Addr} {o : HO} (t : TabOk K W H) (h : H a = some o) (n : ∀ ps, o ≠ .tbl ps) : ∀ p ∈ tabsOf K, p.1 ≠ a := fun p hp z => by
  obtain ⟨ps, h1, _⟩ := t.all p hp
  rw [z, h] at h1
  exact n ps (Option.some.inj h1)
theorem TabOk.fresh {K : PySem.W.Frag} {W : Wd} {H : Hp} {a : Addr} (t : TabOk K W H) (h : H a = none) : ∀ p ∈ tabsOf K, p.1 ≠ a := fun p hp z => by
  obtain ⟨ps, h1, _⟩ := t.all p hp
  rw [z, h] at h1
  cases h1

structure Ok (K : PySem.W.Frag) (W : Wd) (H : Hp) (μ : Mu) : Prop where
  sub : Same W.S H
  len : W.io.length = μ.length
  nd : W.io.Nodup
  apart : ∀ (l : Nat) a o, W.io[l]? = some a → μ[l]? = some o → o ≠ .gone → W.S a = none
  cell : ∀ (l : Nat) a o, W.io[l]? = some a → μ[l]? = some o → CellIs K W H a o
  tab : TabOk K W H

/-- from (W, H) to (W', H') -/
structure Go (W : Wd) (H : Hp) (W' : Wd) (H' : Hp) : Prop where
  le : Le W W'
  kept : ∀ a o, H a = some o → a ∉ W.io → (∀ ps, o ≠ .tbl ps) → H' a = some o
  grow : ∀ a, H' a = none → H a = none
  newio : ∀ a, a ∈ W'.io → a ∈ W.io ∨ H a = none
  newS : ∀ a o, W'.S a = some o → W.S a = some o ∨ H a = none ∨ a ∈ W.io
theorem Go.refl (W : Wd) (H : Hp) : Go W H W H := ⟨Le.refl W, fun _ _ h _ _ => h, fun _ h => h, fun _ h => .inl h, fun _ _ h => .inl h⟩
theorem Go.trans {W W1 W2 : Wd} {H H1 H2 : Hp} (a : Go W H W1 H1) (b : Go W1 H1 W2 H2) : Go W H W2 H2 where
  le := a.le.trans b.le
  kept := fun x o h n nt => b.kept x o (a.kept x o h n nt) (fun z => by
    rcases a.newio x z with z | z
    · exact n z
    · rw [h] at z; cases z) nt
  grow := fun x h => a.grow x (b.grow x h)
  newio := fun x h => by
    rcases b.newio x h with h | h
    · exact a.newio x h
    · exact .inr (a.grow x h)
  newS := fun x o h => by
    rcases b.newS x o h with h | h | h
    · exact a.newS x o h
    · exact .inr (.inl (a.grow x h))
    · rcases a.newio x h with h | h
      · exact .inr (.inr h)
      · exact .inr (.inl h)

/-- the environment by slots -/
abbrev En := List (Option D)
structure Envs (K : PySem.W.Frag) (W : Wd) (σ : St) (ρ : En) : Prop where
  len : ρ.length = σ.length
  at_ : ∀ (i : Nat) d, ρ[i]? = some (some d) → ∃ v, σ[i]? = some (some v) ∧ Rep K W v d
theorem Envs.mono {K : PySem.W.Frag} {W W' : Wd} {σ : St} {ρ : En} (l : Le W W') (h : Envs K W σ ρ) : Envs K W' σ ρ := ⟨h.len, fun i d e => by
  obtain ⟨v, h1, h2⟩ := h.at_ i d e
  exact ⟨v, h1, h2.mono l⟩⟩
theorem Envs.set {K : PySem.W.Frag} {W : Wd} {σ : St} {ρ : En} {v : V} {d : D} (h : Envs K W σ ρ) (r : Rep K W v d) (i : Nat) : Envs K W (σ.set i (some v)) (ρ.set i (some d)) := ⟨by simp [h.len], fun j e he => by
  by_cases hj : i = j
  · subst hj
    by_cases hl : i < ρ.length
    · rw [List.getElem?_set_self hl] at he
      cases he
      exact ⟨v, List.getElem?_set_self (by rw [← h.len]; exact hl), r⟩
    · rw [List.getElem?_eq_none (by simp; omega)] at he
      cases he
  · rw [List.getElem?_set_ne hj] at he
    obtain ⟨u, h1, h2⟩ := h.at_ j e he
    exact ⟨u, by rw [List.getElem?_set_ne hj]; exact h1, h2⟩⟩
theorem Envs.unset {K : PySem.W.Frag} {W : Wd} {σ : St} {ρ : En} (h : Envs K W σ ρ) (x : Option V) (i : Nat) : Envs K W (σ.set i x) (ρ.set i none) := ⟨by simp [h.len], fun j e he => by
  by_cases hj : i = j
  · subst hj
    by_cases hl : i < ρ.length
    · rw [List.getElem?_set_self hl] at he
      cases he
    · rw [List.getElem?_eq_none (by simp; omega)] at he
      cases he
  · rw [List.getElem?_set_ne hj] at he
    obtain ⟨u, h1, h2⟩ := h.at_ j e he
    exact ⟨u, by rw [List.getElem?_set_ne hj]; exact h1, h2⟩⟩

/-- what comes out -/
inductive R (α : Type) where
  | ok (a : α) (μ : Mu)
  | ex (c : Nat) (fs : List (Str × D)) (μ : Mu)
  | bad
def R.bind {α β : Type} : R α → (α → Mu → R β) → R β
  | .ok a μ, k => k a μ
  | .ex c fs μ, _ => .ex c fs μ
  | .bad, _ => .bad
@[simp] theorem R.bind_ok {α β : Type} (a : α) (μ : Mu) (k : α → Mu → R β) : (R.ok a μ).bind k = k a μ := of_eq_true (eq_self _)
@[simp] theorem R.bind_ex {α β : Type} (c : Nat) (fs : List (Str × D)) (μ : Mu) (k : α → Mu → R β) : (R.ex c fs μ : R α).bind k = .ex c fs μ := of_eq_true (eq_self _)
@[simp] theorem R.bind_bad {α β : Type} (k : α → Mu → R β) : (R.bad : R α).bind k = .bad := of_eq_true (eq_self _)
/-- a pure answer, or none -/
def R.of {α : Type} (o : Option α) (μ : Mu) : R α := match o with
  | some a => .ok a μ
  | none => .bad
@[simp] theorem R.of_some {α : Type} (a : α) (μ : Mu) : R.of (some a) μ = .ok a μ := of_eq_true (eq_self _)
@[simp] theorem R.of_none {α : Type} (μ : Mu) : (R.of none μ : R α) = .bad := of_eq_true (eq_self _)

/-- an exception as it lies in the heap: its own dict's address (none: it has no field) -/
def ExcIs (K : PySem.W.Frag) (W : Wd) (H : Hp) (fs : List (Str × D)) (d : Option Addr) : Prop :=
  (fs = [] ∧ d = none) ∨ ∃ (a : Addr) (ns : List Str) (vs : List V) (ds : List D), d = some a ∧ H a = some (.xd (ns.zip vs)) ∧ fs = ns.zip ds ∧ ns.length = vs.length ∧ Reps K W vs ds ∧ W.S a = none ∧ a ∉ W.io

def post {α : Type} (K : PySem.W.Frag) (E : XK) (W : Wd) (H : Hp) (Rp : Wd → V → α → Prop) (r : R α) (Q : VK) : Prop := match r with
  | .ok d μ => ∀ W' v H', Go W H W' H' → Ok K W' H' μ → Rp W' v d → Q v H'
  | .ex c fs μ => ∀ W' H' d, Go W H W' H' → Ok K W' H' μ → ExcIs K W' H' fs d → E (.ref (cl K c)) d H'
  | .bad => False
abbrev postE (K : PySem.W.Frag) (E : XK) (W : Wd) (H : Hp) (r : R D) (Q : VK) : Prop := post K E W H (fun W v d => Rep K W v d) r Q
theorem post.mono {α : Type} {K : PySem.W.Frag} {E : XK} {W W1 : Wd} {H H1 : Hp} {Rp : Wd → V → α → Prop} {r : R α} {Q : VK} (g : Go W H W1 H1) (h : post K E W H Rp r Q) : post K E W1 H1 Rp r Q := by
  cases r with
  | ok d μ => exact fun W' v H' g' o r => h W' v H' (g.trans g') o r
  | ex c fs μ => exact fun W' H' d g' o r => h W' H' d (g.trans g') o r
  | bad => exact h

abbrev FE := En → Mu → R D
def rE (K : PySem.W.Frag) (E : WX) (f : FE) : TE := fun σ H Q => ∃ W ρ μ, Ok K W H μ ∧ Envs K W σ ρ ∧ postE K (WE E σ) W H (f ρ μ) Q
abbrev DE (X : Cx) (E : WX) (e : Expr) (f : FE) : Prop := PE X e (rE X.K E f)
theorem pe_imp {X : Cx} {e : Expr} {t t' : TE} (h : PE X e t) (i : ∀ σ H Q, t' σ H Q → t σ H Q) : PE X e t' := ⟨fun pins s σ H Q I q => h.run pins s σ H Q I (i σ H Q q)⟩
theorem ps_imp {X : Cx} {e : Stmt} {t t' : TS} (h : PS X e t) (i : ∀ D σ H, t' D σ H → t D σ H) : PS X e t' := ⟨fun pins s σ H D I q => h.run pins s σ H D I (i D σ H q)⟩
theorem pss_imp {X : Cx} {e : List Stmt} {t t' : TS} (h : PSs X e t) (i : ∀ D σ H, t' D σ H → t D σ H) : PSs X e t' := ⟨fun pins s σ H D I q => h.run pins s σ H D I (i D σ H q)⟩
theorem pa_imp {X : Cx} {e : List Expr} {t t' : TA} (h : PA X e t) (i : ∀ σ H Q, t' σ H Q → t σ H Q) : PA X e t' := ⟨fun pos pins s σ H Q I q => h.run pos pins s σ H Q I (i σ H Q q)⟩
theorem pt_imp {X : Cx} {e : Expr} {t t' : TT} (h : PT X e t) (i : ∀ σ H Q, t' σ H Q → t σ H Q) : PT X e t' := ⟨fun pins s σ H Q I q => h.run pins s σ H Q I (i σ H Q q)⟩
theorem pw_imp {X : Cx} {e : Expr} {t t' : TT} (h : PW X e t) (i : ∀ σ H Q, t' σ H Q → t σ H Q) : PW X e t' := ⟨fun wh pins s σ H Q I q => h.run wh pins s σ H Q I (i σ H Q q)⟩

/-- one part, then what follows -/
theorem seq {β : Type} {K : PySem.W.Frag} {E : WX} {fa : FE} {k : D → Mu → R β} {Rp : Wd → V → β → Prop} {σ : St} {H : Hp} {W : Wd} {ρ : En} {μ : Mu} {Q Q1 : VK} (p : post K (WE E σ) W H Rp ((fa ρ μ).bind k) Q) (ok : Ok K W H μ) (en : Envs K W σ ρ)
    (hk : ∀ d μ1 W1 x H1, Go W H W1 H1 → Ok K W1 H1 μ1 → Envs K W1 σ ρ → Rep K W1 x d → post K (WE E σ) W1 H1 Rp (k d μ1) Q → Q1 x H1) : rE K E fa σ H Q1 := by
  refine ⟨W, ρ, μ, ok, en, ?_⟩
  revert p
  cases h : fa ρ μ with
  | ok d μ1 => exact fun p W1 x H1 g o r => hk d μ1 W1 x H1 g o (en.mono g.le) r (post.mono g p)
  | ex c fs μ1 => exact fun p => p
  | bad => exact fun p => p

/-! ### tests -/
abbrev FT := En → Mu → R Bool
def postT (K : PySem.W.Frag) (E : XK) (W : Wd) (H : Hp) (r : R Bool) (Q : Bool → Hp → Prop) : Prop := match r with
  | .ok b μ => ∀ W' H', Go W H W' H' → Ok K W' H' μ → Q b H'
  | .ex c fs μ => ∀ W' H' d, Go W H W' H' → Ok K W' H' μ → ExcIs K W' H' fs d → E (.ref (cl K c)) d H'
  | .bad => False
theorem postT.mono {K : PySem.W.Frag} {E : XK} {W W1 : Wd} {H H1 : Hp} {r : R Bool} {Q : Bool → Hp → Prop} (g : Go W H W1 H1) (h : postT K E W H r Q) : postT K E W1 H1 r Q := by
  cases r with
  | ok d μ => exact fun W' H' g' o => h W' H' (g.trans g') o
  | ex c fs μ => exact fun W' H' d g' o r => h W' H' d (g.trans g') o r
  | bad => exact h
def rT (K : PySem.W.Frag) (E : WX) (f : FT) : TT := fun σ H Q => ∃ W ρ μ, Ok K W H μ ∧ Envs K W σ ρ ∧ postT K (WE E σ) W H (f ρ μ) Q
abbrev DT (X : Cx) (E : WX) (e : Expr) (f : FT) : Prop := PT X e (rT X.K E f)
abbrev DW (X : Cx) (E : WX) (e : Expr) (f : FT) : Prop := PW X e (rT X.K E f)

/-! ### argument lists -/
abbrev FA := En → Mu → R (List D)
def postA (K : PySem.W.Frag) (E : XK) (W : Wd) (H : Hp) (r : R (List D)) (Q : List V → Hp → Prop) : Prop := match r with
  | .ok ds μ => ∀ W' vs H', Go W H W' H' → Ok K W' H' μ → Reps K W' vs ds → Q vs H'
  | .ex c fs μ => ∀ W' H' d, Go W H W' H' → Ok K W' H' μ → ExcIs K W' H' fs d → E (.ref (cl K c)) d H'
  | .bad => False
theorem postA.mono {K : PySem.W.Frag} {E : XK} {W W1 : Wd} {H H1 : Hp} {r : R (List D)} {Q : List V → Hp → Prop} (g : Go W H W1 H1) (h : postA K E W H r Q) : postA K E W1 H1 r Q := by
  cases r with
  | ok d μ => exact fun W' v H' g' o r => h W' v H' (g.trans g') o r
  | ex c fs μ => exact fun W' H' d g' o r => h W' H' d (g.trans g') o r
  | bad => exact h
def rA (K : PySem.W.Frag) (E : WX) (f : FA) : TA := fun σ H Q => ∃ W ρ μ, Ok K W H μ ∧ Envs K W σ ρ ∧ postA K (WE E σ) W H (f ρ μ) Q
abbrev DA (X : Cx) (E : WX) (e : List Expr) (f : FA) : Prop := PA X e (rA X.K E f)

/-- the same of a whole argument list -/
theorem seqA {β : Type} {K : PySem.W.Frag} {E : WX} {fa : FA} {k : List D → Mu → R β} {Rp : Wd → V → β → Prop} {σ : St} {H : Hp} {W : Wd} {ρ : En} {μ : Mu} {Q : VK} {Q1 : List V → Hp → Prop} (p : post K (WE E σ) W H Rp ((fa ρ μ).bind k) Q) (ok : Ok K W H μ) (en : Envs K W σ ρ)
    (hk : ∀ ds μ1 W1 xs H1, Go W H W1 H1 → Ok K W1 H1 μ1 → Envs K W1 σ ρ → Reps K W1 xs ds → post K (WE E σ) W1 H1 Rp (k ds μ1) Q → Q1 xs H1) : rA K E fa σ H Q1 := by
  refine ⟨W, ρ, μ, ok, en, ?_⟩
  revert p
  cases h : fa ρ μ with
  | ok d μ1 => exact fun p W1 x H1 g o r => hk d μ1 W1 x H1 g o (en.mono g.le) r (post.mono g p)
  | ex c fs μ1 => exact fun p => p
  | bad => exact fun p => p
def aNil : FA := fun _ μ => .ok [] μ
def aCons (f : FE) (g : FA) : FA := fun ρ μ => (f ρ μ).bind fun d μ1 => (g ρ μ1).bind fun ds μ2 => .ok (d :: ds) μ2
section
variable {X : Cx} {E : WX}
theorem da_nil : DA X E [] aNil := pa_imp pa_nil fun σ H Q ⟨W, ρ, μ, ok, en, p⟩ => p W [] H (Go.refl W H) ok .nil
theorem da_cons {e : Expr} {es : List Expr} {f : FE} {g : FA} (h : DE X E e f) (hs : DA X E es g) (hst : starEach (e :: es) X.env = (false, eval e X.env) :: starEach es X.env := by rfl) : DA X E (e :: es) (aCons f g) := by
  refine pa_imp (pa_cons h hs hst) fun σ H Q ⟨W, ρ, μ, ok, en, p⟩ => ?_
  refine ⟨W, ρ, μ, ok, en, ?_⟩
  unfold aCons at p
  revert p
  cases f ρ μ with
  | ok d μ1 =>
    intro p W1 x H1 g1 o1 r1
    refine ⟨W1, ρ, μ1, o1, en.mono g1.le, ?_⟩
    have p := postA.mono g1 p
    revert p
    rw [R.bind_ok]
    cases g ρ μ1 with
    | ok ds μ2 => exact fun p W2 xs H2 g2 o2 r2 => p W2 (x :: xs) H2 g2 o2 (.cons (r1.mono g2.le) r2)
    | ex c fs μ2 => exact fun p => p
    | bad => exact fun p => p
  | ex c fs μ1 => exact fun p => p
  | bad => exact fun p => p
end

/-! ### names and constants -/
def dvar (i : Nat) : FE := fun ρ μ => match ρ[i]? with
  | some (some d) => .ok d μ
  | _ => .bad
def dc (d : D) : FE := fun _ μ => .ok d μ
section
variable {X : Cx} {E : WX}
theorem dv (i : Nat) {x : Str} {pos : Pos} (hN : X.N[i]? = some x := by rfl) (hv : Vis X.env.scope x := by first | exact Or.inl rfl | exact Or.inr (Or.inl rfl) | exact Or.inr (Or.inr rfl)) (hd : (x == ("__debug__" : Str)) = false := by decide)
    (hcd : (x == ("__classdict__" : Str)) = false := by decide) : DE X E (.Name x pos) (dvar i) := by
  refine pe_imp (pe_var hN hv hd hcd) fun σ H Q ⟨W, ρ, μ, ok, en, p⟩ => ?_
  unfold dvar at p
  revert p
  cases e : ρ[i]? with
  | none => exact fun p => p.elim
  | some o =>
    cases o with
    | none => exact fun p => p.elim
    | some d =>
      intro p
      obtain ⟨v, h1, h2⟩ := en.at_ i d e
      exact ⟨v, h1, p W v H (Go.refl W H) ok h2⟩
theorem dconst {e : Expr} {v : V} {d : D} (h : PE X e (tC v)) (r : ∀ W, Rep X.K W v d) : DE X E e (dc d) := pe_imp h fun σ H Q ⟨W, ρ, μ, ok, en, p⟩ => p W v H (Go.refl W H) ok (r W)
theorem dint {i j pos} : DE X E (.Constant (.int i) j pos) (dc (.int i)) := dconst pe_int fun _ => .int i
theorem dbool {b j pos} : DE X E (.Constant (.bool b) j pos) (dc (.bl b)) := dconst pe_bl fun _ => .bl b
theorem dnon {j pos} : DE X E (.Constant .none j pos) (dc .non) := dconst pe_non fun _ => .non
theorem dstr {x j pos} (hx : x.length ≤ sizeLine := by decide +kernel) : DE X E (.Constant (.str x) j pos) (dc (.str x)) := dconst pe_str fun _ => .str x hx

/-! ### two-place operations -/
/-- the rule r does g -/
def OpD (K : PySem.W.Frag) (E : WX) (r : R2) (g : D → D → Mu → R D) : Prop :=
  ∀ (E' : XK) W H μ x y vx vy Q, Ok K W H μ → Rep K W vx x → Rep K W vy y → postE K E' W H (g x y μ) Q → r vx vy H Q
/-- .. a pure one that makes nothing -/
theorem OpD.pure {K : PySem.W.Frag} {E : WX} {r : R2} {g : D → D → Option D} (h : ∀ W H μ x y vx vy d, Ok K W H μ → Rep K W vx x → Rep K W vy y → g x y = some d → ∃ v, Rep K W v d ∧ ∀ Q : VK, Q v H → r vx vy H Q) : OpD K E r (fun x y μ => R.of (g x y) μ) := by
  intro E' W H μ x y vx vy Q ok rx ry
  show postE K E' W H (R.of (g x y) μ) Q → _
  cases e : g x y with
  | none => exact fun p => p.elim
  | some d =>
    intro p
    obtain ⟨v, h1, h2⟩ := h W H μ x y vx vy d ok rx ry e
    exact h2 Q (p W v H (Go.refl W H) ok h1)
def dbin (g : D → D → Mu → R D) (fa fb : FE) : FE := fun ρ μ => (fa ρ μ).bind fun x μ1 => (fb ρ μ1).bind fun y μ2 => g x y μ2
theorem tOp_of {r : R2} {g : D → D → Mu → R D} {fa fb : FE} (h : OpD X.K E r g) : ∀ σ H Q, rE X.K E (dbin g fa fb) σ H Q → tOp r (rE X.K E fa) (rE X.K E fb) σ H Q := fun σ H Q ⟨W, ρ, μ, ok, en, p⟩ =>
  seq p ok en fun x μ1 W1 vx H1 g1 ok1 en1 rx p1 => seq p1 ok1 en1 fun y μ2 W2 vy H2 g2 ok2 en2 ry p2 => h _ W2 H2 μ2 x y vx vy Q ok2 (rx.mono g2.le) ry p2
theorem dbinop {op : Operator} {a b : Expr} {pos : Pos} {fa fb : FE} {r : R2} {g : D → D → Mu → R D} (ho : OpR X (binaryOp op) r) (h : OpD X.K E r g) (ha : DE X E a fa) (hb : DE X E b fb) : DE X E (.BinOp a op b pos) (dbin g fa fb) :=
  pe_imp (pe_op ho ha hb) (tOp_of h)
theorem dcmp {op : CmpOp} {a b : Expr} {pos : Pos} {fa fb : FE} {r : R2} {g : D → D → Mu → R D} (ho : OpR X (compareOp op) r) (h : OpD X.K E r g) (ha : DE X E a fa) (hb : DE X E b fb) (hm : behindInMarks op b = false := by first | exact nomark _ | rfl) : DE X E (.Compare a [op] [b] pos) (dbin g fa fb) :=
  pe_imp (pe_cmpR ho ha hb hm) (tOp_of h)
def dun (g : D → Mu → R D) (fa : FE) : FE := fun ρ μ => (fa ρ μ).bind fun x μ1 => g x μ1

/-! ### tests of values -/
def dtest (f : FE) : FT := fun ρ μ => (f ρ μ).bind fun d μ1 => match d with
  | .bl b => .ok b μ1
  | _ => .bad
theorem tB_of {f : FE} : ∀ σ H Q, rT X.K E (dtest f) σ H Q → tB (rE X.K E f) σ H Q := fun σ H Q ⟨W, ρ, μ, ok, en, p⟩ => by
  refine ⟨W, ρ, μ, ok, en, ?_⟩
  unfold dtest at p
  revert p
  cases f ρ μ with
  | ok d μ1 =>
    rw [R.bind_ok]
    cases d with
    | bl b =>
      intro p W1 v H1 g1 o1 r1
      cases r1
      exact ⟨b, rfl, p W1 H1 g1 o1⟩
    | _ => exact fun p => p.elim
  | ex c fs μ1 => exact fun p => p
  | bad => exact fun p => p
theorem dtest_val {e : Expr} {f : FE} (h : DE X E e f) (he : ∀ whole, isTrue e X.env whole = (do let v ← whole; standAt e.pos; holding [v] (truthy v)) := by intro _; rfl) : DT X E e (dtest f) := pt_imp (pt_val h he) tB_of
theorem dtest_cmp {op : CmpOp} {a b : Expr} {pos : Pos} {fa fb : FE} {r : R2} {g : D → D → Mu → R D} (ho : OpR X (compareOp op) r) (h : OpD X.K E r g) (ha : DE X E a fa) (hb : DE X E b fb) (hm : behindInMarks op b = false := by first | exact nomark _ | rfl) : DT X E (.Compare a [op] [b] pos) (dtest (dbin g fa fb)) := by
  refine pt_imp (pt_cmpR ho ha hb hm) fun σ H Q q => ?_
  have q := tB_of σ H Q q
  unfold tTest
  exact tOp_of h σ H _ q
def tand (f g : FT) : FT := fun ρ μ => (f ρ μ).bind fun b μ1 => if b = true then g ρ μ1 else .ok false μ1
def tor (f g : FT) : FT := fun ρ μ => (f ρ μ).bind fun b μ1 => if b = true then .ok true μ1 else g ρ μ1
def tnot (f : FT) : FT := fun ρ μ => (f ρ μ).bind fun b μ1 => .ok (!b) μ1
theorem seqT {K : PySem.W.Frag} {fa : FT} {k : Bool → Mu → R Bool} {σ : St} {H : Hp} {W : Wd} {ρ : En} {μ : Mu} {Q Q1 : Bool → Hp → Prop} (p : postT K (WE E σ) W H ((fa ρ μ).bind k) Q) (ok : Ok K W H μ) (en : Envs K W σ ρ)
    (hk : ∀ b μ1 W1 H1, Go W H W1 H1 → Ok K W1 H1 μ1 → Envs K W1 σ ρ → postT K (WE E σ) W1 H1 (k b μ1) Q → Q1 b H1) : rT K E fa σ H Q1 := by
  refine ⟨W, ρ, μ, ok, en, ?_⟩
  revert p
  cases h : fa ρ μ with
  | ok d μ1 => exact fun p W1 H1 g o => hk d μ1 W1 H1 g o (en.mono g.le) (postT.mono g p)
  | ex c fs μ1 => exact fun p => p
  | bad => exact fun p => p
theorem tAnd_of {f g : FT} : ∀ σ H Q, rT X.K E (tand f g) σ H Q → tAnd (rT X.K E f) (rT X.K E g) σ H Q := fun σ H Q ⟨W, ρ, μ, ok, en, p⟩ =>
  seqT p ok en fun b μ1 W1 H1 g1 o1 en1 p1 => by
    cases b with
    | true => exact ⟨W1, ρ, μ1, o1, en1, p1⟩
    | false => exact p1 W1 H1 (Go.refl _ _) o1
theorem tOr_of {f g : FT} : ∀ σ H Q, rT X.K E (tor f g) σ H Q → tOr (rT X.K E f) (rT X.K E g) σ H Q := fun σ H Q ⟨W, ρ, μ, ok, en, p⟩ =>
  seqT p ok en fun b μ1 W1 H1 g1 o1 en1 p1 => by
    cases b with
    | false => exact ⟨W1, ρ, μ1, o1, en1, p1⟩
    | true => exact p1 W1 H1 (Go.refl _ _) o1
variable {a b : Expr} {rest : List Expr} {pos : Pos} {f g : FT}
theorem dw_and1 (ha : DT X E a f) : DW X E (.BoolOp .And [a] pos) f := pw_and1 ha
theorem dw_or1 (ha : DT X E a f) : DW X E (.BoolOp .Or [a] pos) f := pw_or1 ha
theorem dw_and (ha : DT X E a f) (hb : DW X E (.BoolOp .And (b :: rest) pos) g) : DW X E (.BoolOp .And (a :: b :: rest) pos) (tand f g) := pw_imp (pw_and ha hb) tAnd_of
theorem dw_or (ha : DT X E a f) (hb : DW X E (.BoolOp .Or (b :: rest) pos) g) : DW X E (.BoolOp .Or (a :: b :: rest) pos) (tor f g) := pw_imp (pw_or ha hb) tOr_of
theorem dt_w (h : DW X E a f) : DT X E a f := h.pt
theorem dt_not (ha : DT X E a f) : DT X E (.UnaryOp .Not a pos) (tnot f) := pt_imp (pt_not ha) fun σ H Q ⟨W, ρ, μ, ok, en, p⟩ =>
  seqT p ok en fun b μ1 W1 H1 g1 o1 en1 p1 => p1 W1 H1 (Go.refl _ _) o1
end
end DL
/-! DL1: statements, targets, walks, loops, comprehensions. -/
namespace DL
open PySem L2

/-- no exception is let out -/
def R.nox {α : Type} : R α → R α
  | .ok a μ => .ok a μ
  | _ => .bad
@[simp] theorem R.nox_ok {α : Type} (a : α) (μ : Mu) : (R.ok a μ).nox = .ok a μ := of_eq_true (eq_self _)
@[simp] theorem R.nox_bad {α : Type} : (R.bad : R α).nox = .bad := of_eq_true (eq_self _)
@[simp] theorem R.nox_ex {α : Type} (c : Nat) (fs : List (Str × D)) (μ : Mu) : (R.ex c fs μ : R α).nox = .bad := of_eq_true (eq_self _)

/-! ### a new object that never changes -/
section
variable {K : PySem.W.Frag} {W : Wd} {H : Hp} {μ : Mu} {p : Addr} {o : HO}
theorem same_new {H : Hp} {p : Addr} {o : HO} (h : H p = none) : Same H (upd H p o) := fun b x e => by
  rw [upd_ne (ne_of_none e h)]
  exact e
def Wd.new (W : Wd) (p : Addr) (o : HO) : Wd := ⟨upd W.S p o, W.io⟩
theorem Ok.snone (ok : Ok K W H μ) (h : H p = none) : W.S p = none := ok.sub.free h
theorem Go.new (ok : Ok K W H μ) (h : H p = none) : Go W H (W.new p o) (upd H p o) := by
  refine ⟨⟨same_new (ok.snone h), List.prefix_refl _⟩, fun a u e _ _ => ?_, fun a e => ?_, fun a e => .inl e, fun a u e => ?_⟩
  · rw [upd_ne (ne_of_none e h)]
    exact e
  · by_cases z : a = p
    · rw [z]; exact h
    · rw [upd_ne z] at e; exact e
  · by_cases z : a = p
    · rw [z]; exact .inr (.inl h)
    · exact .inl (by rw [← e]; exact (upd_ne z).symm)
theorem Ok.new (ok : Ok K W H μ) (h : H p = none) : Ok K (W.new p o) (upd H p o) μ := by
  have g := Go.new (o := o) ok h
  refine ⟨fun a u e => ?_, ok.len, ok.nd, fun l a m e1 e2 n => ?_, fun l a m e1 e2 => ?_, ⟨tabs_new ok.tab.all h, fun q hq => (upd_ne (ok.tab.fresh h q hq)).trans (ok.tab.no q hq)⟩⟩
  · by_cases z : a = p
    · have e : upd W.S p o a = some u := e
      rw [z] at e ⊢
      rw [upd_same] at e ⊢
      exact e
    · have e : upd W.S p o a = some u := e
      rw [upd_ne z] at e ⊢
      exact ok.sub a u e
  · show upd W.S p o a = none
    by_cases z : a = p
    · obtain ⟨u, e, _⟩ := ok.cell l a m e1 e2
      rw [z, h] at e
      cases e
    · rw [upd_ne z]
      exact ok.apart l a m e1 e2 n
  · exact (ok.cell l a m e1 e2).mono g.le fun u e => by
      rw [upd_ne (ne_of_none e h)]
      exact e
/-- a new tuple, a new list -/
theorem rep_tup {vs : List V} {ds : List D} (ok : Ok K W H μ) (h : H p = none) (z : ds.length ≤ sizeLine) (r : Reps K W vs ds) : Rep K (W.new p (.tup vs)) (.ref p) (.tup ds) :=
  .tup z (.inl (.inl (show upd W.S p (.tup vs) p = _ from upd_same))) (r.mono (Go.new ok h).le)
theorem rep_lst {vs : List V} {ds : List D} (ok : Ok K W H μ) (h : H p = none) (z : ds.length ≤ sizeLine) (r : Reps K W vs ds) : Rep K (W.new p (.lst vs)) (.ref p) (.lst ds) :=
  .lst z (.inl (.inl (show upd W.S p (.lst vs) p = _ from upd_same))) (r.mono (Go.new ok h).le)
end

/-! ### a new cell, a changed cell, a frozen cell -/
section
variable {K : PySem.W.Frag} {W : Wd} {H : Hp} {μ : Mu} {p a : Addr} {l : Nat} {m m' : MO} {o o' : HO}
def Wd.cell (W : Wd) (p : Addr) : Wd := ⟨W.S, W.io ++ [p]⟩
theorem Ok.notio (ok : Ok K W H μ) (h : H p = none) : p ∉ W.io := fun z => by
  obtain ⟨l, hl, e⟩ := List.mem_iff_getElem.mp z
  have hm : l < μ.length := by rw [← ok.len]; exact hl
  obtain ⟨u, q, _⟩ := ok.cell l p μ[l] (by rw [List.getElem?_eq_getElem hl, e]) (List.getElem?_eq_getElem hm)
  rw [h] at q
  cases q
theorem Go.cell (ok : Ok K W H μ) (h : H p = none) : Go W H (W.cell p) (upd H p o) := by
  refine ⟨⟨Same.refl _, List.prefix_append _ _⟩, fun a u e _ _ => ?_, fun a e => ?_, fun a e => ?_, fun a u e => .inl e⟩
  · rw [upd_ne (ne_of_none e h)]
    exact e
  · by_cases z : a = p
    · rw [z]; exact h
    · rw [upd_ne z] at e; exact e
  · have e : a ∈ W.io ++ [p] := e
    rcases List.mem_append.mp e with e | e
    · exact .inl e
    · have e : a = p := by simpa using e
      rw [e]; exact .inr h
theorem Ok.newcell (ok : Ok K W H μ) (h : H p = none) (c : CellO K W m o) : Ok K (W.cell p) (upd H p o) (μ ++ [m]) := by
  have g := Go.cell (o := o) ok h
  have hn := ok.notio h
  have get : ∀ (l : Nat) a k, (W.io ++ [p])[l]? = some a → (μ ++ [m])[l]? = some k → (W.io[l]? = some a ∧ μ[l]? = some k) ∨ (a = p ∧ k = m) := fun l a k e1 e2 => by
    by_cases hl : l < W.io.length
    · rw [List.getElem?_append_left hl] at e1
      rw [List.getElem?_append_left (by rw [← ok.len]; exact hl)] at e2
      exact .inl ⟨e1, e2⟩
    · rw [List.getElem?_append_right (by omega)] at e1
      rw [List.getElem?_append_right (by rw [← ok.len]; omega), ← ok.len] at e2
      cases hz : l - W.io.length with
      | zero =>
        rw [hz] at e1 e2
        simp at e1 e2
        exact .inr ⟨e1.symm, e2.symm⟩
      | succ n =>
        rw [hz] at e1
        simp at e1
  refine ⟨fun a u e => ?_, by simp [Wd.cell, ok.len], ?_, fun l a k e1 e2 n => ?_, fun l a k e1 e2 => ?_, ⟨tabs_new ok.tab.all h, ok.tab.no⟩⟩
  · have e : W.S a = some u := e
    rw [upd_ne (ne_of_none (ok.sub _ _ e) h)]
    exact ok.sub _ _ e
  · show (W.io ++ [p]).Nodup
    rw [List.nodup_append]
    exact ⟨ok.nd, by simp, fun x hx y hy z => hn (by
      have e : y = p := by simpa using hy
      rw [← e, ← z]; exact hx)⟩
  · show W.S a = none
    rcases get l a k e1 e2 with ⟨e1, e2⟩ | ⟨rfl, rfl⟩
    · exact ok.apart l a k e1 e2 n
    · exact ok.snone h
  · rcases get l a k e1 e2 with ⟨e1, e2⟩ | ⟨rfl, rfl⟩
    · exact (ok.cell l a k e1 e2).mono g.le fun u e => by
        rw [upd_ne (ne_of_none e h)]
        exact e
    · exact ⟨o, upd_same, c.mono g.le⟩
theorem Ok.io_ne (ok : Ok K W H μ) {l2 : Nat} {b : Addr} (h1 : W.io[l]? = some a) (h2 : W.io[l2]? = some b) (hne : l2 ≠ l) : b ≠ a := fun e => by
  obtain ⟨i1, e1⟩ := List.getElem?_eq_some_iff.mp h1
  obtain ⟨i2, e2⟩ := List.getElem?_eq_some_iff.mp h2
  exact hne ((List.getElem_inj ok.nd).mp (e2.trans (e.trans e1.symm)))
/-- the cell l holds m' from now on -/
theorem Ok.setcell (ok : Ok K W H μ) (h1 : W.io[l]? = some a) (h2 : μ[l]? = some m) (hg : m ≠ .gone) (c : CellO K W m' o') : Ok K W (upd H a o') (μ.set l m') ∧ Go W H W (upd H a o') := by
  have ha : W.S a = none := ok.apart l a m h1 h2 hg
  obtain ⟨o, ho, hc0⟩ := ok.cell l a m h1 h2
  have hm : a ∈ W.io := List.mem_of_getElem? h1
  refine ⟨⟨fun b u e => ?_, by rw [List.length_set]; exact ok.len, ok.nd, fun l2 b k e1 e2 n => ?_, fun l2 b k e1 e2 => ?_, ⟨tabs_upd ok.tab.all ho hc0.plain, ok.tab.no⟩⟩, ⟨Le.refl _, fun b u e n _ => ?_, fun b e => ?_, fun b e => .inl e, fun b u e => .inl e⟩⟩
  · rw [upd_ne (ne_of_none e ha)]
    exact ok.sub _ _ e
  · by_cases z : l2 = l
    · subst z
      rw [h1] at e1
      cases e1
      exact ha
    · rw [List.getElem?_set_ne (Ne.symm z)] at e2
      exact ok.apart l2 b k e1 e2 n
  · by_cases z : l2 = l
    · subst z
      rw [h1] at e1
      cases e1
      rw [List.getElem?_set_self (List.getElem?_eq_some_iff.mp h2).1] at e2
      cases e2
      exact ⟨o', upd_same, c⟩
    · rw [List.getElem?_set_ne (Ne.symm z)] at e2
      exact (ok.cell l2 b k e1 e2).mono (Le.refl _) fun u e => by
        rw [upd_ne (ok.io_ne h1 e1 z)]
        exact e
  · rw [upd_ne (fun z => n (by rw [z]; exact hm))]
    exact e
  · by_cases z : b = a
    · rw [z, upd_same] at e
      cases e
    · rw [upd_ne z] at e
      exact e
/-- the cell l never changes any more -/
theorem Ok.freeze (ok : Ok K W H μ) (h1 : W.io[l]? = some a) (h2 : μ[l]? = some m) (hg : m ≠ .gone) (ho : H a = some o) : Ok K (W.new a o) H (μ.set l .gone) ∧ Go W H (W.new a o) H := by
  have ha : W.S a = none := ok.apart l a m h1 h2 hg
  have hm : a ∈ W.io := List.mem_of_getElem? h1
  have le : Le W (W.new a o) := ⟨same_new ha, List.prefix_refl _⟩
  have np : ∀ p ∈ tabsOf K, p.1 ≠ a := by
    obtain ⟨o3, ho3, hc3⟩ := ok.cell l a m h1 h2
    exact ok.tab.ne ho3 hc3.plain.1
  refine ⟨⟨fun b u e => ?_, by rw [List.length_set]; exact ok.len, ok.nd, fun l2 b k e1 e2 n => ?_, fun l2 b k e1 e2 => ?_, ⟨ok.tab.all, fun q hq => (upd_ne (np q hq)).trans (ok.tab.no q hq)⟩⟩, ⟨le, fun b u e n _ => e, fun b e => e, fun b e => .inl e, fun b u e => ?_⟩⟩
  · have e : upd W.S a o b = some u := e
    by_cases z : b = a
    · rw [z] at e ⊢
      rw [upd_same] at e
      rw [ho]; exact e
    · rw [upd_ne z] at e
      exact ok.sub _ _ e
  · show upd W.S a o b = none
    by_cases z : l2 = l
    · subst z
      rw [List.getElem?_set_self (List.getElem?_eq_some_iff.mp h2).1] at e2
      cases e2
      exact absurd rfl n
    · rw [List.getElem?_set_ne (Ne.symm z)] at e2
      rw [upd_ne (ok.io_ne h1 e1 z)]
      exact ok.apart l2 b k e1 e2 n
  · by_cases z : l2 = l
    · subst z
      rw [List.getElem?_set_self (List.getElem?_eq_some_iff.mp h2).1] at e2
      cases e2
      have e1 : W.io[l2]? = some b := e1
      rw [h1] at e1
      cases e1
      obtain ⟨o2, ho2, c2⟩ := ok.cell l2 a m h1 h2
      rw [ho] at ho2
      cases ho2
      exact ⟨o, ho, c2.notxd, c2.plain⟩
    · rw [List.getElem?_set_ne (Ne.symm z)] at e2
      exact (ok.cell l2 b k e1 e2).mono le fun u e => e
  · have e : upd W.S a o b = some u := e
    by_cases z : b = a
    · rw [z]; exact .inr (.inr hm)
    · rw [upd_ne z] at e
      exact .inl e
end

/-! ### targets -/
inductive Tg where
  | nm (i : Nat)
  | tp (ts : List Tg)
mutual
def Tg.slots : Tg → List Nat
  | .nm i => [i]
  | .tp ts => Tg.slotsL ts
def Tg.slotsL : List Tg → List Nat
  | [] => []
  | t :: ts => t.slots ++ Tg.slotsL ts
end
mutual
def asg : Tg → D → En → Option En
  | .nm i, d, ρ => some (ρ.set i (some d))
  | .tp ts, d, ρ => match d with
    | .tup ds => asgL ts ds ρ
    | _ => none
def asgL : List Tg → List D → En → Option En
  | [], [], ρ => some ρ
  | t :: ts, d :: ds, ρ => match asg t d ρ with
    | some ρ1 => asgL ts ds ρ1
    | none => none
  | _, _, _ => none
end
@[simp] theorem asg_nm (i : Nat) (d : D) (ρ : En) : asg (.nm i) d ρ = some (ρ.set i (some d)) := by simp [asg]
@[simp] theorem asg_tp (ts : List Tg) (ds : List D) (ρ : En) : asg (.tp ts) (.tup ds) ρ = asgL ts ds ρ := by simp [asg]
@[simp] theorem asgL_nil (ρ : En) : asgL [] [] ρ = some ρ := by simp [asgL]
@[simp] theorem asgL_cons (t : Tg) (ts : List Tg) (d : D) (ds : List D) (ρ : En) : asgL (t :: ts) (d :: ds) ρ = (asg t d ρ).bind (asgL ts ds) := by
  cases h : asg t d ρ <;> simp [asgL, h]
theorem asgL_len : ∀ {ts : List Tg} {ds : List D} {ρ ρ' : En}, asgL ts ds ρ = some ρ' → ds.length = ts.length
  | [], [], _, _, _ => rfl
  | [], _ :: _, _, _, e => by simp [asgL] at e
  | _ :: _, [], _, _, e => by simp [asgL] at e
  | t :: ts, d :: ds, ρ, ρ', e => by
    rw [asgL_cons] at e
    cases h : asg t d ρ with
    | none => rw [h] at e; cases e
    | some ρ1 =>
      rw [h] at e
      rw [List.length_cons, List.length_cons, asgL_len (ts := ts) (ds := ds) e]
/-- only some slots changed -/
structure But (vs : List Nat) (σ σ' : St) : Prop where
  len : σ'.length = σ.length
  at_ : ∀ j, j ∉ vs → σ'[j]? = σ[j]?
theorem But.refl (vs : List Nat) (σ : St) : But vs σ σ := ⟨rfl, fun _ _ => rfl⟩
theorem But.trans {vs us : List Nat} {σ σ1 σ2 : St} (a : But vs σ σ1) (b : But us σ1 σ2) : But (vs ++ us) σ σ2 :=
  ⟨b.len.trans a.len, fun j h => by
    rw [List.mem_append] at h
    rw [b.at_ j fun z => h (.inr z), a.at_ j fun z => h (.inl z)]⟩
theorem But.set (σ : St) (i : Nat) (x : Option V) : But [i] σ (σ.set i x) := ⟨by simp, fun j h => by
  have hj : i ≠ j := fun z => h (by simp [z])
  rw [List.getElem?_set_ne hj]⟩
def rG (K : PySem.W.Frag) (t : Tg) : TG := fun v σ H Q => ∃ W ρ ρ' d μ, Ok K W H μ ∧ Envs K W σ ρ ∧ Rep K W v d ∧ asg t d ρ = some ρ' ∧ ∀ σ', Envs K W σ' ρ' → But t.slots σ σ' → Q σ' H
def rGs (K : PySem.W.Frag) (ts : List Tg) : TGs := fun vs σ H Q => ∃ W ρ ρ' ds μ, Ok K W H μ ∧ Envs K W σ ρ ∧ Reps K W vs ds ∧ asgL ts ds ρ = some ρ' ∧ ∀ σ', Envs K W σ' ρ' → But (Tg.slotsL ts) σ σ' → Q σ' H
abbrev DG (X : Cx) (tg : Expr) (t : Tg) : Prop := PG X tg (rG X.K t)
abbrev DGs (X : Cx) (tg : List Expr) (t : List Tg) : Prop := PGs X tg (rGs X.K t)
theorem pg_imp {X : Cx} {e : Expr} {t t' : TG} (h : PG X e t) (i : ∀ v σ H Q, t' v σ H Q → t v σ H Q) : PG X e t' := ⟨fun pins s σ H v u Q I r q => h.run pins s σ H v u Q I r (i v σ H Q q)⟩
theorem pgs_imp {X : Cx} {e : List Expr} {t t' : TGs} (h : PGs X e t) (i : ∀ v σ H Q, t' v σ H Q → t v σ H Q) : PGs X e t' := ⟨fun pins s σ H v u Q I r q => h.run pins s σ H v u Q I r (i v σ H Q q)⟩
section
variable {X : Cx} {pos : Pos}
theorem dg_name {i : Nat} {x : Str} (hN : X.N.Nodup) (hi : X.N[i]? = some x := by rfl) (hx : Loc X.env.scope x := by first | exact .inl rfl | exact .inr rfl) (hf : X.fn x = true ∨ X.env.scope.names.lookup x = some .local := by first | exact .inl rfl | exact .inr rfl) : DG X (.Name x pos) (.nm i) :=
  pg_imp (pg_name hN hi hx hf) fun v σ H Q ⟨W, ρ, ρ', d, μ, ok, en, r, e, q⟩ => by
    rw [asg_nm] at e
    cases e
    exact q _ (en.set r i) (But.set σ i _)
theorem dgs_nil : DGs X [] [] := pgs_imp pgs_nil fun vs σ H Q ⟨W, ρ, ρ', ds, μ, ok, en, r, e, q⟩ => by
  have l := r.length
  rw [asgL_len e] at l
  cases r with
  | nil =>
    rw [asgL_nil] at e
    cases e
    exact ⟨rfl, q σ en (But.refl _ _)⟩
  | cons _ _ => cases l
theorem dgs_cons {e : Expr} {es : List Expr} {t : Tg} {ts : List Tg} (h : DG X e t) (hs : DGs X es ts) (hst : (assignEach (e :: es) X.env).map (·.2) = assign e X.env :: (assignEach es X.env).map (·.2) := by rfl) : DGs X (e :: es) (t :: ts) :=
  pgs_imp (pgs_cons h hs hst) fun vs σ H Q ⟨W, ρ, ρ', ds, μ, ok, en, r, e, q⟩ => by
    cases r with
    | nil => simp [asgL] at e
    | @cons v vs d ds r rs =>
      rw [asgL_cons] at e
      cases h : asg t d ρ with
      | none => rw [h] at e; cases e
      | some ρ1 =>
        rw [h] at e
        refine ⟨v, vs, rfl, W, ρ, ρ1, d, μ, ok, en, r, h, fun σ1 en1 b1 => ⟨W, ρ1, ρ', ds, μ, ok, en1, rs, e, fun σ2 en2 b2 => q σ2 en2 ?_⟩⟩
        show But (t.slots ++ Tg.slotsL ts) σ σ2
        exact b1.trans b2
theorem dg_tup {es : List Expr} {k : Nat} {ts : List Tg} (hc : X.calm = true) (h : DGs X es ts) (hn : (assignEach es X.env).length = ts.length := by rfl) (hst : (assignEach es X.env).findIdx? (·.1) = none := by rfl) : DG X (.Tuple es k pos) (.tp ts) :=
  pg_imp (pg_tup hc h hn hst) fun v σ H Q ⟨W, ρ, ρ', d, μ, ok, en, r, e, q⟩ => by
    cases r with
    | @tup a xs ds z sq rs =>
      rw [asg_tp] at e
      refine ⟨a, xs, rfl, same_t ok.sub sq, ?_, W, ρ, ρ', ds, μ, ok, en, rs, e, fun σ' en' b => q σ' en' b⟩
      rw [rs.length]
      exact asgL_len e
    | _ => simp [asg] at e
end

/-! ### statements -/
inductive O where
  | nx (ρ : En) (μ : Mu)
  | rt (d : D) (μ : Mu)
  | bk (ρ : En) (μ : Mu)
  | ct (ρ : En) (μ : Mu)
  | ex (ρ : En) (c : Nat) (fs : List (Str × D)) (μ : Mu)
  | bad
def postS (K : PySem.W.Frag) (E : WX) (W : Wd) (H : Hp) (o : O) (Z : Ends) : Prop := match o with
  | .nx ρ μ => ∀ W' σ' H', Go W H W' H' → Ok K W' H' μ → Envs K W' σ' ρ → Z.nx σ' H'
  | .bk ρ μ => ∀ W' σ' H', Go W H W' H' → Ok K W' H' μ → Envs K W' σ' ρ → Z.bk σ' H'
  | .ct ρ μ => ∀ W' σ' H', Go W H W' H' → Ok K W' H' μ → Envs K W' σ' ρ → Z.ct σ' H'
  | .rt d μ => ∀ W' v H', Go W H W' H' → Ok K W' H' μ → Rep K W' v d → Z.rt v H'
  | .ex ρ c fs μ => ∀ W' σ' H' d, Go W H W' H' → Ok K W' H' μ → Envs K W' σ' ρ → ExcIs K W' H' fs d → E (.ref (cl K c)) d σ' H'
  | .bad => False
theorem postS.mono {K : PySem.W.Frag} {E : WX} {W W1 : Wd} {H H1 : Hp} {o : O} {Z : Ends} (g : Go W H W1 H1) (h : postS K E W H o Z) : postS K E W1 H1 o Z := by
  cases o with
  | nx ρ μ => exact fun W' v H' g' o r => h W' v H' (g.trans g') o r
  | bk ρ μ => exact fun W' v H' g' o r => h W' v H' (g.trans g') o r
  | ct ρ μ => exact fun W' v H' g' o r => h W' v H' (g.trans g') o r
  | rt ρ μ => exact fun W' v H' g' o r => h W' v H' (g.trans g') o r
  | ex ρ c fs μ => exact fun W' σ' H' d g' o n r => h W' σ' H' d (g.trans g') o n r
  | bad => exact h
abbrev FS := En → Mu → O
def rS (K : PySem.W.Frag) (E : WX) (g : FS) : TS := fun Z σ H => ∃ W ρ μ, Ok K W H μ ∧ Envs K W σ ρ ∧ postS K E W H (g ρ μ) Z
abbrev DS (X : Cx) (E : WX) (st : Stmt) (g : FS) : Prop := PS X st (rS X.K E g)
abbrev DSs (X : Cx) (E : WX) (st : List Stmt) (g : FS) : Prop := PSs X st (rS X.K E g)
def R.to {α : Type} (r : R α) (ρ : En) (k : α → Mu → O) : O := match r with
  | .ok a μ => k a μ
  | .ex c fs μ => .ex ρ c fs μ
  | .bad => .bad
@[simp] theorem R.to_ok {α : Type} (a : α) (μ : Mu) (ρ : En) (k : α → Mu → O) : (R.ok a μ).to ρ k = k a μ := of_eq_true (eq_self _)
@[simp] theorem R.to_bad {α : Type} (ρ : En) (k : α → Mu → O) : (R.bad : R α).to ρ k = .bad := of_eq_true (eq_self _)
@[simp] theorem R.to_ex {α : Type} (c : Nat) (fs : List (Str × D)) (μ : Mu) (ρ : En) (k : α → Mu → O) : (R.ex c fs μ : R α).to ρ k = .ex ρ c fs μ := of_eq_true (eq_self _)
theorem seqS {K : PySem.W.Frag} {E : WX} {fa : FE} {k : D → Mu → O} {σ : St} {H : Hp} {W : Wd} {ρ : En} {μ : Mu} {Z : Ends} {Q1 : VK} (p : postS K E W H ((fa ρ μ).to ρ k) Z) (ok : Ok K W H μ) (en : Envs K W σ ρ)
    (hk : ∀ d μ1 W1 x H1, Go W H W1 H1 → Ok K W1 H1 μ1 → Envs K W1 σ ρ → Rep K W1 x d → postS K E W1 H1 (k d μ1) Z → Q1 x H1) : rE K E fa σ H Q1 := by
  refine ⟨W, ρ, μ, ok, en, ?_⟩
  revert p
  cases h : fa ρ μ with
  | ok d μ1 => exact fun p W1 x H1 g o r => hk d μ1 W1 x H1 g o (en.mono g.le) r (postS.mono g p)
  | ex c fs μ1 => exact fun p W' H' d g o r => p W' σ H' d g o (en.mono g.le) r
  | bad => exact fun p => p
theorem seqST {K : PySem.W.Frag} {E : WX} {fa : FT} {k : Bool → Mu → O} {σ : St} {H : Hp} {W : Wd} {ρ : En} {μ : Mu} {Z : Ends} {Q1 : Bool → Hp → Prop} (p : postS K E W H ((fa ρ μ).to ρ k) Z) (ok : Ok K W H μ) (en : Envs K W σ ρ)
    (hk : ∀ b μ1 W1 H1, Go W H W1 H1 → Ok K W1 H1 μ1 → Envs K W1 σ ρ → postS K E W1 H1 (k b μ1) Z → Q1 b H1) : rT K E fa σ H Q1 := by
  refine ⟨W, ρ, μ, ok, en, ?_⟩
  revert p
  cases h : fa ρ μ with
  | ok d μ1 => exact fun p W1 H1 g o => hk d μ1 W1 H1 g o (en.mono g.le) (postS.mono g p)
  | ex c fs μ1 => exact fun p W' H' d g o r => p W' σ H' d g o (en.mono g.le) r
  | bad => exact fun p => p
def gnil : FS := fun ρ μ => .nx ρ μ
def gseq (g h : FS) : FS := fun ρ μ => match g ρ μ with
  | .nx ρ' μ' => h ρ' μ'
  | o => o
def gret (f : FE) : FS := fun ρ μ => (f ρ μ).to ρ fun d μ1 => .rt d μ1
def gexpr (f : FE) : FS := fun ρ μ => (f ρ μ).to ρ fun _ μ1 => .nx ρ μ1
def gasg (t : Tg) (f : FE) : FS := fun ρ μ => (f ρ μ).to ρ fun d μ1 => match asg t d ρ with
  | some ρ' => .nx ρ' μ1
  | none => .bad
def gif (c : FT) (g h : FS) : FS := fun ρ μ => (c ρ μ).to ρ fun b μ1 => if b = true then g ρ μ1 else h ρ μ1
section
variable {X : Cx} {E : WX} {st : Stmt} {sts : List Stmt} {g h : FS} {e : Expr} {f : FE} {pos : Pos}
theorem ds_nil : DSs X E [] gnil := pss_imp pss_nil fun Z σ H ⟨W, ρ, μ, ok, en, p⟩ => p W σ H (Go.refl _ _) ok en
theorem ds_one (a : DS X E st g) : DSs X E [st] g := pss_one a
theorem ds_cons (a : DS X E st g) (b : DSs X E sts h) : DSs X E (st :: sts) (gseq g h) := pss_imp (pss_cons a b) fun Z σ H ⟨W, ρ, μ, ok, en, p⟩ => by
  refine ⟨W, ρ, μ, ok, en, ?_⟩
  unfold gseq at p
  revert p
  cases g ρ μ with
  | nx ρ' μ' => exact fun p W' σ' H' g' o r => ⟨W', ρ', μ', o, r, postS.mono g' p⟩
  | bk ρ μ => exact fun p => p
  | ct ρ μ => exact fun p => p
  | rt ρ μ => exact fun p => p
  | ex ρ c fs μ => exact fun p => p
  | bad => exact fun p => p
theorem ds_pass : DS X E (.Pass pos) gnil := ps_imp ps_pass fun Z σ H ⟨W, ρ, μ, ok, en, p⟩ => p W σ H (Go.refl _ _) ok en
theorem ds_break : DS X E (.Break pos) (fun ρ μ => .bk ρ μ) := ps_imp ps_break fun Z σ H ⟨W, ρ, μ, ok, en, p⟩ => p W σ H (Go.refl _ _) ok en
theorem ds_continue : DS X E (.Continue pos) (fun ρ μ => .ct ρ μ) := ps_imp ps_continue fun Z σ H ⟨W, ρ, μ, ok, en, p⟩ => p W σ H (Go.refl _ _) ok en
theorem ds_ret (a : DE X E e f) : DS X E (.Return (some e) pos) (gret f) := ps_imp (ps_ret a) fun Z σ H ⟨W, ρ, μ, ok, en, p⟩ =>
  seqS p ok en fun d μ1 W1 x H1 g1 o1 en1 r p1 => p1 W1 x H1 (Go.refl _ _) o1 r
theorem ds_retN : DS X E (.Return none pos) (fun _ μ => .rt .non μ) := ps_imp ps_retN fun Z σ H ⟨W, ρ, μ, ok, en, p⟩ => p W .non H (Go.refl _ _) ok .non
theorem ds_expr (a : DE X E e f) (hs : swapsWith e none pos.line X.env = pure false := by rfl) : DS X E (.Expr e pos) (gexpr f) := ps_imp (ps_expr a hs) fun Z σ H ⟨W, ρ, μ, ok, en, p⟩ =>
  seqS p ok en fun d μ1 W1 x H1 g1 o1 en1 r p1 => p1 W1 σ H1 (Go.refl _ _) o1 en1
theorem tAsg_of {t : Tg} : ∀ Z σ H, rS X.K E (gasg t f) Z σ H → tAsg (rE X.K E f) (rG X.K t) Z σ H := fun Z σ H ⟨W, ρ, μ, ok, en, p⟩ =>
  seqS p ok en fun d μ1 W1 x H1 g1 o1 en1 r p1 => by
    revert p1
    cases e : asg t d ρ with
    | none => exact fun p => p.elim
    | some ρ' => exact fun p1 => ⟨W1, ρ, ρ', d, μ1, o1, en1, r, e, fun σ' en' _ => p1 W1 σ' H1 (Go.refl _ _) o1 en'⟩
theorem ds_asg {tg : Expr} {t : Tg} (a : DE X E e f) (b : DG X tg t) (hs : swapsWithSole [tg] e pos.line X.env = pure false := by rfl) (hw : swappedStores [tg] e X.env = pure none := by rfl)
    (h1 : (assignEach [tg] X.env).map (·.2) = [assign tg X.env] := by rfl) : DS X E (.Assign [tg] e pos) (gasg t f) := ps_imp (ps_asg a b hs hw h1) tAsg_of
theorem ds_set (i : Nat) {x : Str} {pos' : Pos} (hN : X.N.Nodup) (a : DE X E e f) (hi : X.N[i]? = some x := by rfl) (hx : Loc X.env.scope x := by first | exact .inl rfl | exact .inr rfl) (hs : swapsWith e (some (.Name x pos')) pos.line X.env = pure false := by rfl) (hf : X.fn x = true ∨ X.env.scope.names.lookup x = some .local := by first | exact .inl rfl | exact .inr rfl) :
    DS X E (.Assign [.Name x pos'] e pos) (gasg (.nm i) f) := ps_imp (ps_set hN hi hx a hs hf) fun Z σ H ⟨W, ρ, μ, ok, en, p⟩ =>
  seqS p ok en fun d μ1 W1 v H1 g1 o1 en1 r p1 => by
    rw [asg_nm] at p1
    exact p1 W1 _ H1 (Go.refl _ _) o1 (en1.set r i)
theorem ds_if {c : Expr} {a b : List Stmt} {fc : FT} (hc : DT X E c fc) (ha : DSs X E a g) (hb : DSs X E b h) : DS X E (.If c a b pos) (gif fc g h) := ps_imp (ps_if hc ha hb) fun Z σ H ⟨W, ρ, μ, ok, en, p⟩ =>
  seqST p ok en fun d μ1 W1 H1 g1 o1 en1 p1 => by
    cases d with
    | true => exact ⟨W1, ρ, μ1, o1, en1, p1⟩
    | false => exact ⟨W1, ρ, μ1, o1, en1, p1⟩
end

/-! ### walks -/
structure Walk (K : PySem.W.Frag) (W : Wd) (J : It) (xs : List D) : Prop where
  len : xs.length ≤ sizeLine
  go : ∀ H i, Same W.S H → i < xs.length → J.go i H
  stop : ∀ H i, Same W.S H → xs.length ≤ i → J.stop i H
  yld : ∀ H i x H', Same W.S H → J.yld i H x H' → ∀ d, xs[i]? = some d → ∀ W1 μ, Le W W1 → Ok K W1 H μ → ∃ W2, Go W1 H W2 H' ∧ Ok K W2 H' μ ∧ Rep K W2 x d
def postI (K : PySem.W.Frag) (E : XK) (W : Wd) (H : Hp) (r : R (List D)) (Q : It → Hp → Prop) : Prop := match r with
  | .ok xs μ => ∀ W' J H', Go W H W' H' → Ok K W' H' μ → Walk K W' J xs → Q J H'
  | .ex c fs μ => ∀ W' H' d, Go W H W' H' → Ok K W' H' μ → ExcIs K W' H' fs d → E (.ref (cl K c)) d H'
  | .bad => False
def rI (K : PySem.W.Frag) (E : WX) (f : FA) : TI := fun σ H Q => ∃ W ρ μ, Ok K W H μ ∧ Envs K W σ ρ ∧ postI K (WE E σ) W H (f ρ μ) Q
abbrev DI (X : Cx) (E : WX) (tg iter : Expr) (f : FA) : Prop := PI X tg iter (rI X.K E f)
theorem pi_imp {X : Cx} {tg e : Expr} {t t' : TI} (h : PI X tg e t) (i : ∀ σ H Q, t' σ H Q → t σ H Q) : PI X tg e t' := ⟨fun pins s σ H Q I q => h.run pins s σ H Q I (i σ H Q q)⟩
theorem Walk.le {K : PySem.W.Frag} {W W' : Wd} {J : It} {xs : List D} (w : Walk K W J xs) (l : Le W W') : Walk K W' J xs :=
  ⟨w.len, fun H i s => w.go H i (l.s.trans s), fun H i s => w.stop H i (l.s.trans s), fun H i x H' s y d e W1 μ l1 ok => w.yld H i x H' (l.s.trans s) y d e W1 μ (l.trans l1) ok⟩

/-! ### for -/
def forD (t : Tg) (b : FS) : List D → En → Mu → O
  | [], ρ, μ => .nx ρ μ
  | x :: xs, ρ, μ => match asg t x ρ with
    | none => .bad
    | some ρ1 => match b ρ1 μ with
      | .nx ρ2 μ2 => forD t b xs ρ2 μ2
      | .ct ρ2 μ2 => forD t b xs ρ2 μ2
      | .bk ρ2 μ2 => .nx ρ2 μ2
      | o => o
def gfor (fi : FA) (t : Tg) (b : FS) : FS := fun ρ μ => (fi ρ μ).to ρ fun xs μ1 => forD t b xs ρ μ1
section
variable {X : Cx} {E : WX} {pos : Pos}
theorem ds_for {tg iter : Expr} {body : List Stmt} {fi : FA} {t : Tg} {b : FS} (hp : PassesOwn (model X.prog X.w) X.A X.env X.xe) (hc : X.calm = true) (hi : DI X E tg iter fi) (hg : DG X tg t) (hb : DSs X E body b)
    (hs : ∀ x, foldedSetIterable iter X.env x = pure x := by intro _; rfl) : DS X E (.For tg iter body [] pos) (gfor fi t b) := by
  refine ps_imp (ps_for hp hc hi hg hb hs) fun Z σ H ⟨W, ρ, μ, ok, en, p⟩ => ?_
  refine ⟨W, ρ, μ, ok, en, ?_⟩
  unfold gfor at p
  revert p
  cases fi ρ μ with
  | ex c fs μ1 => exact fun p W' H' d g o r => p W' σ H' d g o (en.mono g.le) r
  | bad => exact fun p => p
  | ok xs μ1 =>
    rw [R.to_ok]
    intro p W1 J H1 g1 o1 wk
    refine ⟨fun i m σ H => m = xs.length - i ∧ i ≤ xs.length ∧ ∃ W2 ρ μ, Le W1 W2 ∧ Ok X.K W2 H μ ∧ Envs X.K W2 σ ρ ∧ postS X.K E W2 H (forD t b (xs.drop i) ρ μ) Z, ⟨xs.length, by simp, Nat.zero_le _, W1, ρ, μ1, Le.refl _, o1, en.mono g1.le, postS.mono g1 p⟩, ?_⟩
    rintro i m σ2 H2 ⟨rfl, hi, W2, ρ2, μ2, l2, o2, en2, p2⟩
    have s2 : Same W1.S H2 := l2.s.trans o2.sub
    by_cases hlt : i < xs.length
    · rw [List.drop_eq_getElem_cons hlt] at p2
      unfold forD at p2
      refine .inr ⟨wk.go H2 i s2 hlt, fun σ3 H3 => ∃ W3 ρ3 μ3, Le W1 W3 ∧ Ok X.K W3 H3 μ3 ∧ Envs X.K W3 σ3 ρ3 ∧ postS X.K E W3 H3 (forD t b (xs.drop (i + 1)) ρ3 μ3) Z, fun σ3 H3 ⟨W3, ρ3, μ3, l3, o3, en3, p3⟩ => ⟨xs.length - (i + 1), by omega, rfl, hlt, W3, ρ3, μ3, l3, o3, en3, p3⟩, fun x H3 y => ?_⟩
      obtain ⟨W3, g3, o3, r3⟩ := wk.yld H2 i x H3 s2 y xs[i] (List.getElem?_eq_getElem hlt) W2 μ2 l2 o2
      revert p2
      cases e : asg t xs[i] ρ2 with
      | none => exact fun p => p.elim
      | some ρ3 =>
        intro p2
        refine ⟨W3, ρ2, ρ3, xs[i], μ2, o3, en2.mono g3.le, r3, e, fun σ4 en4 _ => ⟨W3, ρ3, μ2, o3, en4, ?_⟩⟩
        have p3 := postS.mono g3 p2
        revert p3
        dsimp only
        cases b ρ3 μ2 with
        | nx ρ5 μ5 => exact fun p W5 σ5 H5 g5 o5 e5 => ⟨W5, ρ5, μ5, (l2.trans g3.le).trans g5.le, o5, e5, postS.mono g5 p⟩
        | ct ρ5 μ5 => exact fun p W5 σ5 H5 g5 o5 e5 => ⟨W5, ρ5, μ5, (l2.trans g3.le).trans g5.le, o5, e5, postS.mono g5 p⟩
        | bk ρ5 μ5 => exact fun p => p
        | rt d μ5 => exact fun p => p
        | ex c fs μ5 => exact fun p => p
        | bad => exact fun p => p
    · have ei : i = xs.length := by omega
      subst ei
      rw [List.drop_length] at p2
      exact .inl ⟨wk.stop H2 _ s2 (Nat.le_refl _), p2 W2 σ2 H2 (Go.refl _ _) o2 en2⟩
end
end DL
/-! DL2: comprehensions, what is walked, displays, cells, calls of defs. -/
namespace DL
open PySem L2

/-! ### comprehensions -/
def wipeD (ρ : En) : List Nat → En
  | [] => ρ
  | v :: vs => (wipeD ρ vs).set v none
theorem Envs.wipe {K : PySem.W.Frag} {W : Wd} {σ : St} {ρ : En} (h : Envs K W σ ρ) : ∀ vs : List Nat, Envs K W (L2.wipe σ vs) (wipeD ρ vs)
  | [] => h
  | v :: vs => (Envs.wipe h vs).unset none v
theorem wipe_out {σ : St} {j : Nat} : ∀ {vs : List Nat}, j ∉ vs → (L2.wipe σ vs)[j]? = σ[j]?
  | [], _ => rfl
  | v :: vs, h => by
    show ((L2.wipe σ vs).set v none)[j]? = _
    rw [List.getElem?_set_ne (fun z => h (by simp [z]))]
    exact wipe_out fun z => h (by simp [z])
theorem wipe_in {σ : St} {j : Nat} : ∀ {vs : List Nat}, j ∈ vs → (L2.wipe σ vs)[j]? = if j < σ.length then some none else none
  | [], h => by cases h
  | v :: vs, h => by
    show ((L2.wipe σ vs).set v none)[j]? = _
    by_cases e : v = j
    · subst e
      rw [List.getElem?_set]
      simp [L2.wipe_length]
    · rw [List.getElem?_set_ne e]
      exact wipe_in (by
        rcases List.mem_cons.mp h with z | z
        · exact absurd z.symm e
        · exact z)
theorem wipe_but {σ σ2 : St} {vs ts : List Nat} (hs : ∀ i ∈ ts, i ∈ vs) (b : But ts (L2.wipe σ vs) σ2) : L2.wipe σ2 vs = L2.wipe σ vs := by
  have hl : σ2.length = σ.length := by rw [b.len, L2.wipe_length]
  apply List.ext_getElem?
  intro j
  by_cases h : j ∈ vs
  · rw [wipe_in h, wipe_in h, hl]
  · rw [wipe_out h, wipe_out h, b.at_ j fun z => h (hs j z), wipe_out h]
abbrev DTs (X : Cx) (ifs : List Expr) (f : FT) : Prop := PTs X ifs (rT X.K E0 f)
theorem pts_imp {X : Cx} {e : List Expr} {t t' : TT} (h : PTs X e t) (i : ∀ σ H Q, t' σ H Q → t σ H Q) : PTs X e t' := ⟨fun pins s σ H Q I q => h.run pins s σ H Q I (i σ H Q q)⟩
def tyes : FT := fun _ μ => .ok true μ
theorem dts_nil {X : Cx} : DTs X [] tyes := pts_imp pts_nil fun σ H Q ⟨W, ρ, μ, ok, en, p⟩ => p W H (Go.refl _ _) ok
theorem dts_one {X : Cx} {c : Expr} {f : FT} (h : DT X E0 c f) : DTs X [c] f := pts_one h
def lcD (t : Tg) (ft : FT) (fe : FE) (ρ : En) : List D → Mu → R (List D)
  | [], μ => .ok [] μ
  | x :: xs, μ => match asg t x ρ with
    | none => .bad
    | some ρ1 => (ft ρ1 μ).nox.bind fun b μ1 => if b = true then (fe ρ1 μ1).nox.bind fun y μ2 => (lcD t ft fe ρ xs μ2).bind fun ys μ3 => .ok (y :: ys) μ3 else lcD t ft fe ρ xs μ1
def dlc (fi : FA) (vs : List Nat) (t : Tg) (ft : FT) (fe : FE) : FE := fun ρ μ => (fi ρ μ).bind fun xs μ1 => (lcD t ft fe (wipeD ρ vs) xs μ1).bind fun ys μ2 => .ok (.lst ys) μ2
/-- an object outside of W changes, or comes -/
theorem Ok.other {K : PySem.W.Frag} {W : Wd} {H : Hp} {μ : Mu} {p : Addr} {o : HO} (ok : Ok K W H μ) (h1 : W.S p = none) (h2 : p ∉ W.io) (h3 : H p = none ∨ ∃ u, H p = some u ∧ Plain u) : Ok K W (upd H p o) μ :=
  ⟨fun a u e => by rw [upd_ne (ne_of_none e h1)]; exact ok.sub a u e, ok.len, ok.nd, ok.apart, fun l a m e1 e2 => (ok.cell l a m e1 e2).mono (Le.refl _) fun u e => by
    rw [upd_ne (fun z => h2 (by rw [← z]; exact List.mem_of_getElem? e1))]
    exact e, ⟨by
      rcases h3 with h3 | ⟨u, h3, h4⟩
      · exact tabs_new ok.tab.all h3
      · exact tabs_upd ok.tab.all h3 h4, ok.tab.no⟩⟩
theorem Go.other {W W' : Wd} {H H' : Hp} {p : Addr} {o : HO} (g : Go W H W' H') (h : H p = none) : Go W H W' (upd H' p o) :=
  ⟨g.le, fun a u e n nt => by rw [upd_ne (ne_of_none e h)]; exact g.kept a u e n nt, fun a e => by
    by_cases z : a = p
    · rw [z]; exact h
    · rw [upd_ne z] at e
      exact g.grow a e, g.newio, g.newS⟩
theorem Go.out {W W' : Wd} {H H' : Hp} {p : Addr} {o : HO} (g : Go W H W' H') (h : H p = some o) (h1 : W.S p = none) (h2 : p ∉ W.io) (h3 : ∀ ps, o ≠ .tbl ps := by exact fun _ z => nomatch z) : H' p = some o ∧ W'.S p = none ∧ p ∉ W'.io := by
  refine ⟨g.kept p o h h2 h3, ?_, fun z => ?_⟩
  · cases e : W'.S p with
    | none => rfl
    | some u =>
      rcases g.newS p u e with z | z | z
      · rw [h1] at z; cases z
      · rw [h] at z; cases z
      · exact absurd z h2
  · rcases g.newio p z with z | z
    · exact h2 z
    · rw [h] at z; cases z
section
variable {X : Cx} {E : WX} {pos : Pos}
theorem tLc_of {fi : FA} {vs : List Nat} {t : Tg} {ft : FT} {fe : FE} (hsub : ∀ i ∈ t.slots, i ∈ vs) : ∀ σ H Q, rE X.K E (dlc fi vs t ft fe) σ H Q → tLc (rI X.K E fi) (rG X.K t) (rT X.K E0 ft) (rE X.K E0 fe) vs σ H Q := fun σ H Q ⟨W, ρ, μ, ok, en, p⟩ => by
  refine ⟨W, ρ, μ, ok, en, ?_⟩
  unfold dlc at p
  revert p
  cases fi ρ μ with
  | ex c fs μ1 => exact fun p => p
  | bad => exact fun p => p
  | ok xs μ1 =>
    rw [R.bind_ok]
    intro p W1 J H1 g1 o1 wk Dn hD
    have hz := wk.len
    have en1 := (en.mono g1.le).wipe vs
    refine ⟨fun i m H2 => m = xs.length - i ∧ i ≤ xs.length ∧ ∃ W2 μ2 acc ds, Go W1 H1 W2 H2 ∧ Ok X.K W2 H2 μ2 ∧ H2 Dn = some (.lst acc) ∧ Dn ∉ W2.io ∧ W2.S Dn = none ∧ Reps X.K W2 acc ds ∧ acc.length ≤ i ∧ postE X.K (WE E σ) W1 H1 ((lcD t ft fe (wipeD ρ vs) (xs.drop i) μ2).bind fun ys μ3 => .ok (.lst (ds ++ ys)) μ3) Q,
      ⟨xs.length, by simp, Nat.zero_le _, W1, μ1, [], [], (Go.refl _ _).other hD, o1.other (o1.snone hD) (o1.notio hD) (.inl hD), upd_same, o1.notio hD, o1.snone hD, .nil, Nat.le_refl _, ?_⟩, ?_⟩
    · exact post.mono g1 p
    rintro i m H2 ⟨rfl, hi, W2, μ2, acc, ds, g2, o2, hacc, n2, s2, r2, l2, p2⟩
    have sm : Same W1.S H2 := g2.le.s.trans o2.sub
    by_cases hlt : i < xs.length
    · rw [List.drop_eq_getElem_cons hlt] at p2
      unfold lcD at p2
      refine .inr ⟨wk.go H2 i sm hlt, fun H3 => ∃ W3 μ3 acc ds, Go W1 H1 W3 H3 ∧ Ok X.K W3 H3 μ3 ∧ H3 Dn = some (.lst acc) ∧ Dn ∉ W3.io ∧ W3.S Dn = none ∧ Reps X.K W3 acc ds ∧ acc.length ≤ i + 1 ∧ postE X.K (WE E σ) W1 H1 ((lcD t ft fe (wipeD ρ vs) (xs.drop (i + 1)) μ3).bind fun ys μ3 => .ok (.lst (ds ++ ys)) μ3) Q,
        fun H3 ⟨W3, μ3, acc, ds, q⟩ => ⟨xs.length - (i + 1), by omega, rfl, hlt, W3, μ3, acc, ds, q⟩, fun x H3 y => ?_⟩
      obtain ⟨W3, g3, o3, r3⟩ := wk.yld H2 i x H3 sm y xs[i] (List.getElem?_eq_getElem hlt) W2 μ2 g2.le o2
      obtain ⟨a3, s3, n3⟩ := g3.out hacc s2 n2
      revert p2
      cases e : asg t xs[i] (wipeD ρ vs) with
      | none => exact fun p => p.elim
      | some ρ3 =>
        dsimp only
        intro p2
        refine ⟨W3, wipeD ρ vs, ρ3, xs[i], μ2, o3, en1.mono (g2.le.trans g3.le), r3, e, fun σ4 en4 b4 => ⟨wipe_but hsub b4, ?_⟩⟩
        refine ⟨W3, ρ3, μ2, o3, en4, ?_⟩
        revert p2
        cases ft ρ3 μ2 with
        | ex c fs μ4 => exact fun p => p.elim
        | bad => exact fun p => p.elim
        | ok b μ4 =>
          rw [R.nox_ok, R.bind_ok]
          intro p2 W4 H4 g4 o4
          obtain ⟨a4, s4, n4⟩ := g4.out a3 s3 n3
          cases b with
          | false =>
            rw [if_neg Bool.false_ne_true] at p2 ⊢
            exact ⟨W4, μ4, acc, ds, (g2.trans g3).trans g4, o4, a4, n4, s4, r2.mono (g3.le.trans g4.le), by omega, p2⟩
          | true =>
            rw [if_pos rfl] at p2 ⊢
            refine ⟨W4, ρ3, μ4, o4, en4.mono g4.le, ?_⟩
            revert p2
            cases fe ρ3 μ4 with
            | ex c fs μ5 => exact fun p => p.elim
            | bad => exact fun p => p.elim
            | ok yd μ5 =>
              rw [R.nox_ok, R.bind_ok]
              intro p2 W5 yv H5 g5 o5 r5
              obtain ⟨a5, s5, n5⟩ := g5.out a4 s4 n4
              refine ⟨acc, a5, by omega, W5, μ5, acc ++ [yv], ds ++ [yd], (((g2.trans g3).trans g4).trans g5).other hD, o5.other s5 n5 (.inr ⟨_, a5, (fun _ z => nomatch z), (fun _ z => nomatch z)⟩), upd_same, n5, s5, (r2.mono ((g3.le.trans g4.le).trans g5.le)).app (.cons r5 .nil), by simp; omega, ?_⟩
              revert p2
              cases lcD t ft fe (wipeD ρ vs) (xs.drop (i + 1)) μ5 with
              | ex c fs μ6 => exact fun p => p
              | bad => exact fun p => p
              | ok ys μ6 =>
                rw [R.bind_ok, R.bind_ok, R.bind_ok, List.append_assoc]
                exact fun p => p
    · have ei : i = xs.length := by omega
      subst ei
      rw [List.drop_length] at p2
      unfold lcD at p2
      rw [R.bind_ok, List.append_nil] at p2
      refine .inl ⟨wk.stop H2 _ sm (Nat.le_refl _), ?_⟩
      have lD : Le W2 (W2.new Dn (.lst acc)) := ⟨same_new s2, List.prefix_refl _⟩
      refine p2 (W2.new Dn (.lst acc)) (.ref Dn) H2 ⟨g2.le.trans lD, g2.kept, g2.grow, g2.newio, fun a u e => ?_⟩ ?_ ?_
      · by_cases z : a = Dn
        · rw [z]; exact .inr (.inl hD)
        · exact g2.newS a u (by rw [← e]; exact (upd_ne z).symm)
      · refine ⟨fun a u e => ?_, o2.len, o2.nd, fun l a m e1 e2 n => ?_, fun l a m e1 e2 => (o2.cell l a m e1 e2).mono lD fun u e => e, ⟨o2.tab.all, fun q hq => (upd_ne (o2.tab.ne hacc (fun _ z => nomatch z) q hq)).trans (o2.tab.no q hq)⟩⟩
        · by_cases z : a = Dn
          · have e : upd W2.S Dn (.lst acc) a = some u := e
            rw [z, upd_same] at e
            rw [z, hacc, e]
          · have e : upd W2.S Dn (.lst acc) a = some u := e
            rw [upd_ne z] at e
            exact o2.sub a u e
        · show upd W2.S Dn (.lst acc) a = none
          have z : a ≠ Dn := fun z => n2 (by rw [← z]; exact List.mem_of_getElem? e1)
          rw [upd_ne z]
          exact o2.apart l a m e1 e2 n
      · refine .lst ?_ (.inl (.inl (show upd W2.S Dn (.lst acc) Dn = _ from upd_same))) (r2.mono lD)
        rw [← r2.length]
        omega
theorem de_lc {elt tg iter : Expr} {ifs : List Expr} {scope : Scope} {fi : FA} {t : Tg} {ft : FT} {fe : FE} (own : List (Str × Nat)) (hc : X.calm = true) (hN : X.N.Nodup) (hi : DI X E tg iter fi) (ok : BlkOk X.N X.env.scope scope own)
    (hg : ∀ (s : Shared) (H : Hp) (C : Addr) (cl : List (Str × Addr)) (fp : List Addr), DG (X.blk s H scope (compEnvC scope cl C X.env) fp) tg t) (ht : ∀ (s : Shared) (H : Hp) (C : Addr) (cl : List (Str × Addr)) (fp : List Addr), DTs (X.blk s H scope (compEnvC scope cl C X.env) fp) ifs ft)
    (he : ∀ (s : Shared) (H : Hp) (C : Addr) (cl : List (Str × Addr)) (fp : List Addr), DE (X.blk s H scope (compEnvC scope cl C X.env) fp) E0 elt fe) (hsub : ∀ i ∈ t.slots, i ∈ own.map (·.2) := by decide) (hs : ∀ x, foldedSetIterable iter X.env x = pure x := by intro _; rfl) :
    DE X E (.ListComp elt [⟨tg, iter, ifs, 0⟩] scope pos) (dlc fi (own.map (·.2)) t ft fe) := pe_imp (pe_lc (te := rE X.K E0 fe) (g := rG X.K t) (tt := rT X.K E0 ft) hc hN hi ok hg ht he hs) (tLc_of hsub)
theorem ds_setLc (i : Nat) {y : Str} {py spos : Pos} {elt tg iter : Expr} {ifs : List Expr} {scope : Scope} {fi : FA} {t : Tg} {ft : FT} {fe : FE} (own : List (Str × Nat)) (hc : X.calm = true) (hN : X.N.Nodup) (hi : DI X E tg iter fi) (ok : BlkOk X.N X.env.scope scope own)
    (hg : ∀ (s : Shared) (H : Hp) (C : Addr) (cl : List (Str × Addr)) (fp : List Addr), DG (X.blk s H scope (compEnvC scope cl C X.env) fp) tg t) (ht : ∀ (s : Shared) (H : Hp) (C : Addr) (cl : List (Str × Addr)) (fp : List Addr), DTs (X.blk s H scope (compEnvC scope cl C X.env) fp) ifs ft)
    (he : ∀ (s : Shared) (H : Hp) (C : Addr) (cl : List (Str × Addr)) (fp : List Addr), DE (X.blk s H scope (compEnvC scope cl C X.env) fp) E0 elt fe) (hsub : ∀ i ∈ t.slots, i ∈ own.map (·.2) := by decide) (hy : X.N[i]? = some y := by rfl) (hyl : X.env.scope.names.lookup y = some .local := by rfl)
    (hsw : swapsWith (.ListComp elt [⟨tg, iter, ifs, 0⟩] scope pos) (some (.Name y py)) spos.line X.env = pure true := by exact sw_true rfl rfl rfl (by decide +kernel)) (hs : ∀ x, foldedSetIterable iter X.env x = pure x := by intro _; rfl) :
    DS X E (.Assign [.Name y py] (.ListComp elt [⟨tg, iter, ifs, 0⟩] scope pos) spos) (gasg (.nm i) (dlc fi (own.map (·.2)) t ft fe)) := by
  refine ps_imp (ps_setLc (te := rE X.K E0 fe) (g := rG X.K t) (tt := rT X.K E0 ft) hc hN hy hyl hsw hi ok hg ht he hs) fun Z σ H ⟨W, ρ, μ, ok, en, p⟩ => ?_
  refine tLc_of (X := X) (E := E) hsub σ H _ (seqS p ok en fun d μ1 W1 v H1 g1 o1 en1 r p1 => ?_)
  rw [asg_nm] at p1
  exact p1 W1 _ H1 (Go.refl _ _) o1 (en1.set r i)
end

/-! ### what is walked -/
section
variable {K : PySem.W.Frag} {W : Wd} {a : Addr} {vs : List V} {ds : List D}
theorem walk_list (z : ds.length ≤ sizeLine) (h : SqL K W.S a vs) (r : Reps K W vs ds) : Walk K W (Itl K a) ds := by
  have hl := r.length
  refine ⟨z, fun H i s hi => ?_, fun H i s hi => ⟨vs, same_l s h, by omega⟩, fun H i x H' s y d e W1 μ l1 ok => ?_⟩
  · obtain ⟨v, e, _⟩ := r.get (List.getElem?_eq_getElem hi)
    exact ⟨vs, v, same_l s h, e⟩
  · obtain ⟨rfl, q⟩ := y
    obtain ⟨v, e1, r1⟩ := r.get e
    have e2 := q vs (same_l s h)
    rw [e1] at e2
    cases e2
    exact ⟨W1, Go.refl _ _, ok, r1.mono l1⟩
theorem walk_tup (z : ds.length ≤ sizeLine) (h : SqT K W.S a vs) (r : Reps K W vs ds) : Walk K W (Itt K a) ds := by
  have hl := r.length
  refine ⟨z, fun H i s hi => ?_, fun H i s hi => ⟨vs, same_t s h, by omega⟩, fun H i x H' s y d e W1 μ l1 ok => ?_⟩
  · obtain ⟨v, e, _⟩ := r.get (List.getElem?_eq_getElem hi)
    exact ⟨vs, v, same_t s h, e⟩
  · obtain ⟨rfl, q⟩ := y
    obtain ⟨v, e1, r1⟩ := r.get e
    have e2 := q vs (same_t s h)
    rw [e1] at e2
    cases e2
    exact ⟨W1, Go.refl _ _, ok, r1.mono l1⟩
/-- the signs of a text -/
def signs (x : Str) : List D := x.cps.toList.map fun c => .str ⟨#[c]⟩
theorem walk_str (x : Str) (z : x.length ≤ sizeLine) : Walk K W (Its x) (signs x) := by
  have hz : (signs x).length = x.cps.size := by simp [signs]
  refine ⟨by rw [hz]; exact z, fun H i s hi => by rw [hz] at hi; exact hi, fun H i s hi => by rw [hz] at hi; exact hi, fun H i v H' s y d e W1 μ l1 ok => ?_⟩
  obtain ⟨rfl, c, hc, rfl⟩ := y
  have e2 : (signs x)[i]? = some (.str ⟨#[c]⟩) := by
    unfold signs
    rw [List.getElem?_map, Array.getElem?_toList, hc]
    rfl
  rw [e2] at e
  cases e
  exact ⟨W1, Go.refl _ _, ok, .str _ (by show 1 ≤ sizeLine; decide)⟩
/-- numbers from lo on -/
def upto (lo : Int) : Nat → List D
  | 0 => []
  | n + 1 => .int lo :: upto (lo + 1) n
theorem upto_len : ∀ (lo : Int) (n : Nat), (upto lo n).length = n
  | _, 0 => rfl
  | lo, n + 1 => by rw [upto, List.length_cons, upto_len]
theorem upto_get : ∀ (lo : Int) (n i : Nat), i < n → (upto lo n)[i]? = some (.int (lo + i))
  | _, 0, _, h => by omega
  | lo, n + 1, 0, _ => by simp [upto]
  | lo, n + 1, i + 1, h => by
    rw [upto, List.getElem?_cons_succ, upto_get (lo + 1) n i (by omega)]
    congr 2
    omega
theorem walk_range (lo : Int) (n : Nat) (z : n ≤ sizeLine) : Walk K W (Itr lo n) (upto lo n) := by
  refine ⟨by rw [upto_len]; exact z, fun H i s hi => by rw [upto_len] at hi; exact hi, fun H i s hi => by rw [upto_len] at hi; exact hi, fun H i v H' s y d e W1 μ l1 ok => ?_⟩
  obtain ⟨rfl, rfl⟩ := y
  have hi : i < n := by
    have := (List.getElem?_eq_some_iff.mp e).1
    rw [upto_len] at this
    exact this
  rw [upto_get lo n i hi] at e
  cases e
  exact ⟨W1, Go.refl _ _, ok, .int _⟩
/-- numbered -/
def enumD (k : Int) : List D → List D
  | [] => []
  | x :: xs => .tup [.int k, x] :: enumD (k + 1) xs
theorem enumD_len : ∀ (k : Int) (xs : List D), (enumD k xs).length = xs.length
  | _, [] => rfl
  | k, x :: xs => by rw [enumD, List.length_cons, List.length_cons, enumD_len]
theorem enumD_get : ∀ (k : Int) (xs : List D) (i : Nat) (x : D), xs[i]? = some x → (enumD k xs)[i]? = some (.tup [.int (k + i), x])
  | _, [], _, _, h => by simp at h
  | k, y :: ys, 0, x, h => by
    simp at h
    subst h
    simp [enumD]
  | k, y :: ys, i + 1, x, h => by
    rw [enumD, List.getElem?_cons_succ, enumD_get (k + 1) ys i x (by simpa using h)]
    congr 4
    omega
theorem walk_enum (z : ds.length ≤ sizeLine) (h : SqL K W.S a vs) (r : Reps K W vs ds) : Walk K W (Ite K a) (enumD 0 ds) := by
  have hl := r.length
  refine ⟨by rw [enumD_len]; exact z, fun H i s hi => ?_, fun H i s hi => ⟨vs, same_l s h, by rw [enumD_len] at hi; omega⟩, fun H i x H' s y d e W1 μ l1 ok => ?_⟩
  · rw [enumD_len] at hi
    obtain ⟨v, e, _⟩ := r.get (List.getElem?_eq_getElem hi)
    exact ⟨vs, v, same_l s h, e⟩
  · obtain ⟨T, xv, rfl, hT, rfl, q⟩ := y
    have e2 := q vs (same_l s h)
    obtain ⟨xd, e3, r3⟩ := r.getV e2
    rw [enumD_get 0 ds i xd e3] at e
    cases e
    refine ⟨W1.new T (.tup [.int i, xv]), Go.new ok hT, ok.new hT, rep_tup ok hT (by show 2 ≤ sizeLine; decide) (.cons ?_ (.cons (r3.mono l1) .nil))⟩
    have : (0 : Int) + i = i := by omega
    rw [this]
    exact .int _
end
/-- the items of what is walked -/
def itemsD : D → Option (List D)
  | .lst xs => some xs
  | .tup xs => some xs
  | .str x => some (signs x)
  | _ => none
def itA (f : FE) : FA := fun ρ μ => (f ρ μ).bind fun d μ1 => R.of (itemsD d) μ1
def itR1 (f : FA) : FA := fun ρ μ => (f ρ μ).bind fun ds μ1 => match ds with
  | [.int n] => if n ≤ 1000000 ∧ -1000000 ≤ n then .ok (upto 0 n.toNat) μ1 else .bad
  | _ => .bad
def itR2 (f : FA) : FA := fun ρ μ => (f ρ μ).bind fun ds μ1 => match ds with
  | [.int m, .int n] => if n ≤ 1000000 ∧ -1000000 ≤ m ∧ m ≤ 1000000 ∧ -1000000 ≤ n then .ok (upto m (n - m).toNat) μ1 else .bad
  | _ => .bad
def itE (f : FA) : FA := fun ρ μ => (f ρ μ).bind fun ds μ1 => match ds with
  | [.lst xs] => .ok (enumD 0 xs) μ1
  | _ => .bad
theorem pi_or {X : Cx} {tg e : Expr} {t u : TI} (h : PI X tg e t) (h' : PI X tg e u) : PI X tg e (fun σ H Q => t σ H Q ∨ u σ H Q) := ⟨fun pins s σ H Q I q => by
  rcases q with q | q
  · exact h.run pins s σ H Q I q
  · exact h'.run pins s σ H Q I q⟩
section
variable {X : Cx} {E : WX} {tg e : Expr} {f : FE} {pos p : Pos}
theorem di_any (h : DE X E e f) : DI X E tg e (itA f) := by
  refine pi_imp (pi_or (pi_list h) (pi_or (pi_tup h) (pi_str h))) fun σ H Q ⟨W, ρ, μ, ok, en, p⟩ => ?_
  unfold itA at p
  revert p
  cases hf : f ρ μ with
  | ex c fs μ1 =>
    intro p
    refine .inl ⟨W, ρ, μ, ok, en, ?_⟩
    rw [hf]
    exact p
  | bad => exact fun p => p.elim
  | ok d μ1 =>
    rw [R.bind_ok]
    cases d with
    | lst xs =>
      intro p
      refine .inl ⟨W, ρ, μ, ok, en, ?_⟩
      rw [hf]
      intro W1 v H1 g1 o1 r
      cases r with
      | lst z h r => exact ⟨_, rfl, ⟨_, (same_lq o1.sub h).sq⟩, p W1 _ H1 g1 o1 (walk_list z h.sq r)⟩
    | tup xs =>
      intro p
      refine .inr (.inl ⟨W, ρ, μ, ok, en, ?_⟩)
      rw [hf]
      intro W1 v H1 g1 o1 r
      cases r with
      | tup z h r => exact ⟨_, rfl, ⟨_, same_t o1.sub h⟩, p W1 _ H1 g1 o1 (walk_tup z h r)⟩
    | str x =>
      intro p
      refine .inr (.inr ⟨W, ρ, μ, ok, en, ?_⟩)
      rw [hf]
      intro W1 v H1 g1 o1 r
      cases r with
      | str _ z => exact ⟨_, rfl, p W1 _ H1 g1 o1 (walk_str x z)⟩
    | _ => exact fun p => p.elim
theorem di_range1 {fa : FA} (hm : X.mg "range" = none) (ha : DA X E [e] fa) (hg : Gl X "range" := by rfl) (hs : starEach [e] X.env = [(false, eval e X.env)] := by rfl) : DI X E tg (.Call (.Name "range" p) [e] [] pos) (itR1 fa) := by
  refine pi_imp (pi_range1 hg hm ha hs) fun σ H Q ⟨W, ρ, μ, ok, en, p⟩ => ?_
  refine ⟨W, ρ, μ, ok, en, ?_⟩
  unfold itR1 at p
  revert p
  cases fa ρ μ with
  | ex c fs μ1 => exact fun p => p
  | bad => exact fun p => p.elim
  | ok ds μ1 =>
    rw [R.bind_ok]
    intro p W1 vs H1 g1 o1 r
    match ds, r, p with
    | [.int n], .cons r .nil, p =>
      cases r
      dsimp only at p
      by_cases hn : n ≤ 1000000 ∧ -1000000 ≤ n
      · rw [if_pos hn] at p
        exact ⟨n, rfl, by omega, by omega, p W1 _ H1 g1 o1 (walk_range 0 n.toNat (by show n.toNat ≤ 16777216; omega))⟩
      · rw [if_neg hn] at p
        exact p.elim
theorem di_range2 {e2 : Expr} {fa : FA} (hm : X.mg "range" = none) (ha : DA X E [e, e2] fa) (hg : Gl X "range" := by rfl) (hs : starEach [e, e2] X.env = [(false, eval e X.env), (false, eval e2 X.env)] := by rfl) (hs2 : starEach [e2] X.env = [(false, eval e2 X.env)] := by rfl) : DI X E tg (.Call (.Name "range" p) [e, e2] [] pos) (itR2 fa) := by
  refine pi_imp (pi_range2 hg hm ha hs hs2) fun σ H Q ⟨W, ρ, μ, ok, en, p⟩ => ?_
  refine ⟨W, ρ, μ, ok, en, ?_⟩
  unfold itR2 at p
  revert p
  cases fa ρ μ with
  | ex c fs μ1 => exact fun p => p
  | bad => exact fun p => p.elim
  | ok ds μ1 =>
    rw [R.bind_ok]
    intro p W1 vs H1 g1 o1 r
    match ds, r, p with
    | [.int m, .int n], .cons r (.cons r' .nil), p =>
      cases r
      cases r'
      dsimp only at p
      by_cases hn : n ≤ 1000000 ∧ -1000000 ≤ m ∧ m ≤ 1000000 ∧ -1000000 ≤ n
      · rw [if_pos hn] at p
        exact ⟨m, n, rfl, ⟨by omega, by omega, by omega, by omega⟩, p W1 _ H1 g1 o1 (walk_range m (n - m).toNat (by show (n - m).toNat ≤ 16777216; omega))⟩
      · rw [if_neg hn] at p
        exact p.elim
theorem di_enum {fa : FA} {tpos : Pos} {elts : List Expr} {kk : Nat} (hm : X.mg "enumerate" = none) (ha : DA X E [e] fa) (hg : Gl X "enumerate" := by rfl) (hs : starEach [e] X.env = [(false, eval e X.env)] := by rfl) : DI X E (.Tuple elts kk tpos) (.Call (.Name "enumerate" p) [e] [] pos) (itE fa) := by
  refine pi_imp (pi_enum hg hm ha hs) fun σ H Q ⟨W, ρ, μ, ok, en, p⟩ => ?_
  refine ⟨W, ρ, μ, ok, en, ?_⟩
  unfold itE at p
  revert p
  cases fa ρ μ with
  | ex c fs μ1 => exact fun p => p
  | bad => exact fun p => p.elim
  | ok ds μ1 =>
    rw [R.bind_ok]
    intro p W1 vs H1 g1 o1 r
    match ds, r, p with
    | [.lst xs], .cons r .nil, p =>
      cases r with
      | lst z h r => exact ⟨_, _, rfl, (same_lq o1.sub h).sq, p W1 _ H1 g1 o1 (walk_enum z h.sq r)⟩
end

/-! ### displays -/
def dtup (f : FA) : FE := fun ρ μ => (f ρ μ).bind fun ds μ1 => if ds.length ≤ 1000000 then .ok (.tup ds) μ1 else .bad
def dlst (f : FA) : FE := fun ρ μ => (f ρ μ).bind fun ds μ1 => if ds.length ≤ 1000000 then .ok (.lst ds) μ1 else .bad
/-- a list that is changed later: a cell -/
def dcel (f : FA) : FE := fun ρ μ => (f ρ μ).bind fun ds μ1 => if ds.length ≤ 1000000 then .ok (.hdl μ1.length) (μ1 ++ [.lst ds]) else .bad
/-- a cell's list that never changes any more -/
def dfrz (f : FE) : FE := fun ρ μ => (f ρ μ).bind fun d μ1 => match d with
  | .hdl l => match μ1[l]? with
    | some (.lst xs) => if xs.length ≤ 1000000 then .ok (.lst xs) (μ1.set l .gone) else .bad
    | _ => .bad
  | _ => .bad
section
variable {X : Cx} {E : WX} {e : Expr} {es : List Expr} {f : FE} {fa : FA} {pos : Pos}
theorem le_line {n : Nat} (h : n ≤ 1000000) : n ≤ sizeLine := Nat.le_trans h (by decide)
theorem de_tup {x1 : Nat} (h : DA X E es fa) : DE X E (.Tuple es x1 pos) (dtup fa) := pe_imp (pe_tup h) fun σ H Q ⟨W, ρ, μ, ok, en, p⟩ => by
  refine seqA p ok en fun ds μ1 W1 xs H1 g1 o1 en1 r p1 => ?_
  by_cases hn : ds.length ≤ 1000000
  · rw [if_pos hn] at p1
    exact ⟨by rw [r.length]; exact le_line hn, fun q hq => p1 _ _ _ (Go.new o1 hq) (o1.new hq) (rep_tup o1 hq (le_line hn) r)⟩
  · rw [if_neg hn] at p1
    exact p1.elim
theorem de_lst (h : DA X E es fa) : DE X E (.List es pos) (dlst fa) := pe_imp (pe_lst h) fun σ H Q ⟨W, ρ, μ, ok, en, p⟩ => by
  refine seqA p ok en fun ds μ1 W1 xs H1 g1 o1 en1 r p1 => ?_
  by_cases hn : ds.length ≤ 1000000
  · rw [if_pos hn] at p1
    exact ⟨by rw [r.length]; exact le_line hn, fun q hq => p1 _ _ _ (Go.new o1 hq) (o1.new hq) (rep_lst o1 hq (le_line hn) r)⟩
  · rw [if_neg hn] at p1
    exact p1.elim
theorem de_cel (h : DA X E es fa) : DE X E (.List es pos) (dcel fa) := pe_imp (pe_lst h) fun σ H Q ⟨W, ρ, μ, ok, en, p⟩ => by
  refine seqA p ok en fun ds μ1 W1 xs H1 g1 o1 en1 r p1 => ?_
  by_cases hn : ds.length ≤ 1000000
  · rw [if_pos hn] at p1
    refine ⟨by rw [r.length]; exact le_line hn, fun q hq => p1 (W1.cell q) _ _ (Go.cell o1 hq) (o1.newcell hq ⟨xs, rfl, r⟩) (.hdl ?_)⟩
    show (W1.io ++ [q])[μ1.length]? = some q
    rw [← o1.len]
    simp
  · rw [if_neg hn] at p1
    exact p1.elim
theorem de_frz (h : DE X E e f) : DE X E e (dfrz f) := pe_imp h fun σ H Q ⟨W, ρ, μ, ok, en, p⟩ => by
  refine seq p ok en fun d μ1 W1 v H1 g1 o1 en1 r p1 => ?_
  cases d with
  | hdl l =>
    cases r with
    | @hdl a _ ha =>
      revert p1
      dsimp only
      cases hm : μ1[l]? with
      | none => exact fun p => p.elim
      | some m =>
        cases m with
        | lst xs =>
          by_cases hn : xs.length ≤ 1000000
          · dsimp only
            rw [if_pos hn]
            intro p1
            obtain ⟨o, ho, vs, rfl, rs⟩ := o1.cell l a _ ha hm
            obtain ⟨ok2, g2⟩ := o1.freeze ha hm (fun z => nomatch z) ho
            exact p1 _ _ _ g2 ok2 (.lst (le_line hn) (.inl (.inl (show upd W1.S a (.lst vs) a = _ from upd_same))) (rs.mono g2.le))
          · dsimp only
            rw [if_neg hn]
            exact fun p => p.elim
        | _ => exact fun p => p.elim
  | _ => exact p1.elim
end
end DL
/-! DL3: defs and their calls. -/
namespace DL
open PySem L2

/-! ### no handle from n on -/
mutual
def D.closed (n : Nat) : D → Bool
  | .hdl l => decide (l < n)
  | .tup xs => D.closedL n xs
  | .lst xs => D.closedL n xs
  | .obj _ fs => D.closedF n fs
  | .exc _ fs => D.closedF n fs
  | _ => true
def D.closedL (n : Nat) : List D → Bool
  | [] => true
  | x :: xs => x.closed n && D.closedL n xs
def D.closedF (n : Nat) : List (Str × D) → Bool
  | [] => true
  | (_, x) :: xs => x.closed n && D.closedF n xs
end
theorem closedF_zip {n : Nat} : ∀ {ns : List Str} {ds : List D}, D.closedF n (ns.zip ds) = true → ns.length = ds.length → D.closedL n ds = true
  | [], [], _, _ => by simp [D.closedL]
  | [], _ :: _, _, e => by cases e
  | _ :: _, [], _, e => by cases e
  | m :: ns, d :: ds, h, e => by
    simp [D.closedF, D.closedL] at h ⊢
    exact ⟨h.1, closedF_zip h.2 (by simpa using e)⟩
def MO.closed (n : Nat) : MO → Bool
  | .lst xs => D.closedL n xs
  | .dct _ xs => D.closedL n xs
  | .dtt _ xs => D.closedL n xs
  | .ins _ _ xs => D.closedL n xs
  | .gone => true
theorem take_get {l : List Addr} {n i : Nat} {a : Addr} (h : l[i]? = some a) (hi : i < n) : (l.take n)[i]? = some a := by
  rw [List.getElem?_take_of_lt hi]
  exact h
mutual
theorem Rep.cut {K : PySem.W.Frag} {W : Wd} {n : Nat} : ∀ {v : V} {d : D}, d.closed n = true → Rep K W v d → Rep K ⟨W.S, W.io.take n⟩ v d
  | _, _, _, .non => .non
  | _, _, _, .bl b => .bl b
  | _, _, _, .int i => .int i
  | _, _, _, .str x z => .str x z
  | _, _, c, .tup z h r => .tup z h (Reps.cut (by simpa [D.closed] using c) r)
  | _, _, c, .lst z h r => .lst z h (Reps.cut (by simpa [D.closed] using c) r)
  | _, _, c, .hdl h => .hdl (take_get h (by simpa [D.closed] using c))
  | _, _, _, .cst v => .cst v
  | _, _, _, .glo c => .glo c
  | _, _, c, .obj h e r => .obj h e (Reps.cut (closedF_zip (by simpa [D.closed] using c) (e.trans r.length)) r)
  | _, _, c, .exc h r => .exc h (Reps.cut (closedF_zip (by simpa [D.closed] using c) (h.len.trans r.length)) r)
theorem Reps.cut {K : PySem.W.Frag} {W : Wd} {n : Nat} : ∀ {vs : List V} {ds : List D}, D.closedL n ds = true → Reps K W vs ds → Reps K ⟨W.S, W.io.take n⟩ vs ds
  | _, _, _, .nil => .nil
  | _, _, c, .cons r t => by
    simp [D.closedL] at c
    exact .cons (Rep.cut c.1 r) (Reps.cut c.2 t)
end
theorem CellO.cut {K : PySem.W.Frag} {W : Wd} {n : Nat} : ∀ {m : MO} {o : HO}, m.closed n = true → CellO K W m o → CellO K ⟨W.S, W.io.take n⟩ m o
  | .lst ds, _, c, ⟨vs, e, r⟩ => ⟨vs, e, r.cut c⟩
  | .dct ks ds, _, c, ⟨vs, e, z, r⟩ => ⟨vs, e, z, r.cut c⟩
  | .dtt ks ds, _, c, ⟨vs, e, z, r⟩ => ⟨vs, e, z, r.cut c⟩
  | .ins C ns ds, _, c, ⟨dx, vs, e, z, r⟩ => ⟨dx, vs, e, z, r.cut c⟩
  | .gone, _, _, h => h
def closedMu (n : Nat) (μ : Mu) : Bool := (μ.take n).all (·.closed n)
/-- a def's answer: its own cells are forgotten where nothing points there -/
def trunc (n : Nat) (d : D) (μ : Mu) : R D := if (d.closed n && closedMu n μ) = true then .ok d (μ.take n) else .ok d μ
def truncX (n : Nat) (c : Nat) (fs : List (Str × D)) (μ : Mu) : R D := if (D.closedF n fs && closedMu n μ) = true then .ex c fs (μ.take n) else .ex c fs μ
theorem Ok.cut {K : PySem.W.Frag} {W : Wd} {H : Hp} {μ : Mu} {n : Nat} (ok : Ok K W H μ) (c : closedMu n μ = true) : Ok K ⟨W.S, W.io.take n⟩ H (μ.take n) := by
  have get : ∀ (l : Nat) a m, (W.io.take n)[l]? = some a → (μ.take n)[l]? = some m → l < n ∧ W.io[l]? = some a ∧ μ[l]? = some m := fun l a m e1 e2 => by
    have hl : l < n := by
      have := (List.getElem?_eq_some_iff.mp e1).1
      rw [List.length_take] at this
      omega
    rw [List.getElem?_take_of_lt hl] at e1 e2
    exact ⟨hl, e1, e2⟩
  refine ⟨ok.sub, by simp [ok.len], ok.nd.sublist (List.take_sublist _ _), fun l a m e1 e2 z => ?_, fun l a m e1 e2 => ?_, ⟨ok.tab.all, ok.tab.no⟩⟩
  · obtain ⟨_, e1, e2⟩ := get l a m e1 e2
    exact ok.apart l a m e1 e2 z
  · have hm : m.closed n = true := by
      unfold closedMu at c
      exact List.all_eq_true.mp c m (List.mem_of_getElem? e2)
    obtain ⟨_, e1, e2⟩ := get l a m e1 e2
    obtain ⟨o, ho, r⟩ := ok.cell l a m e1 e2
    exact ⟨o, ho, r.cut hm⟩
theorem Go.cut {W W' : Wd} {H H' : Hp} (g : Go W H W' H') : Go W H ⟨W'.S, W'.io.take W.io.length⟩ H' := by
  have e : W'.io.take W.io.length = W.io := by
    obtain ⟨t, ht⟩ := g.le.io
    rw [← ht]
    simp
  refine ⟨⟨g.le.s, by rw [e]; exact List.prefix_refl _⟩, g.kept, g.grow, fun a h => ?_, g.newS⟩
  have h : a ∈ W'.io.take W.io.length := h
  rw [e] at h
  exact .inl h
theorem ExcIs.cut {K : PySem.W.Frag} {W : Wd} {H : Hp} {n : Nat} {fs : List (Str × D)} {d : Option Addr} (c : D.closedF n fs = true) (x : ExcIs K W H fs d) : ExcIs K ⟨W.S, W.io.take n⟩ H fs d := by
  rcases x with x | ⟨a, ns, vs, ds, h1, h2, h3, h4, h5, h6, h7⟩
  · exact .inl x
  · subst h3
    exact .inr ⟨a, ns, vs, ds, h1, h2, rfl, h4, h5.cut (closedF_zip c (h4.trans h5.length)), h6, fun z => h7 (List.mem_of_mem_take z)⟩

/-! ### a def's answer by its body -/
def startD (n : Nat) (ds : List D) : En := ds.map some ++ List.replicate (n - ds.length) none
def callF (n : Nat) (g : FS) (ds : List D) (μ : Mu) : R D := match g (startD n ds) μ with
  | .rt d μ1 => trunc μ.length d μ1
  | .nx _ μ1 => trunc μ.length .non μ1
  | .ex _ c fs μ1 => truncX μ.length c fs μ1
  | _ => .bad
theorem envs_start {K : PySem.W.Frag} {W : Wd} {N : List Str} {vs : List V} {ds : List D} (r : Reps K W vs ds) : Envs K W (start N vs) (startD N.length ds) := by
  have hl := r.length
  unfold L2.start startD
  refine ⟨by simp [hl], fun i d e => ?_⟩
  by_cases h : i < ds.length
  · rw [List.getElem?_append_left (by simpa using h), List.getElem?_map] at e
    cases q : ds[i]? with
    | none => rw [q] at e; cases e
    | some d' =>
      rw [q] at e
      cases e
      obtain ⟨v, e1, r1⟩ := r.get q
      refine ⟨v, ?_, r1⟩
      rw [List.getElem?_append_left (by rw [List.length_map, hl]; exact h), List.getElem?_map, e1]
      rfl
  · rw [List.getElem?_append_right (by simpa using h)] at e
    have := List.mem_of_getElem? e
    simp at this
/-- a def that keeps F, by at most level k, where no repr is under way -/
structure FnG (P : Program) (w : World) (K : PySem.W.Frag) (mg : Str → Option Value) (base : Heap) (k : Nat) (f : Addr) (fd : FuncData) (ps : List Str) (F : List D → Mu → R D) : Prop where
  run : ∀ (A : Around) (outer : List Env) (s : Shared) (H : Hp) (args : Args) (us : List Value) (vs : List V) (Q : VK) (E : XK) (W : Wd) (ds : List D) (μ : Mu), Room k A → A.guards = some [] → Env0 P w K mg base A outer s H →
    us.length = ps.length → BindsTo s fd args (ps.zip us) → Vals vs us → Ok K W H μ → Reps K W vs ds → postE K E W H (F ds μ) Q → codeAny (model P w) A (.call (.ref f) args) (CR (L2.CX P w) outer P w H s Q E) s
theorem FnG.mono {P : Program} {w : World} {K : PySem.W.Frag} {mg : Str → Option Value} {base : Heap} {j k : Nat} {f : Addr} {fd : FuncData} {ps : List Str} {F : List D → Mu → R D} (h : FnG P w K mg base j f fd ps F) (l : j ≤ k) : FnG P w K mg base k f fd ps F :=
  ⟨fun A outer s H args us vs Q E W ds μ hr => h.run A outer s H args us vs Q E W ds μ (hr.mono l)⟩
/-- .. another function that is the same where it is no bad one -/
theorem FnG.congr {P : Program} {w : World} {K : PySem.W.Frag} {mg : Str → Option Value} {base : Heap} {k : Nat} {f : Addr} {fd : FuncData} {ps : List Str} {F G : List D → Mu → R D} (h : FnG P w K mg base k f fd ps F) (e : ∀ ds μ, ds.length = ps.length → G ds μ ≠ .bad → F ds μ = G ds μ) : FnG P w K mg base k f fd ps G :=
  ⟨fun A outer s H args us vs Q E W ds μ hr hg e0 hl hb rv ok r p => h.run A outer s H args us vs Q E W ds μ hr hg e0 hl hb rv ok r (by
    have hd : ds.length = ps.length := by rw [← r.length, rv.length, hl]
    have hn : G ds μ ≠ .bad := fun z => by rw [z] at p; exact p
    rw [e ds μ hd hn]
    exact p)⟩
/-- where no argument has a handle the cells are nothing to it -/
def framed (F : List D → Mu → R D) (ds : List D) (μ : Mu) : R D := if D.closedL 0 ds = true then (match F ds [] with
    | .ok d μ1 => if d.closed 0 = true then .ok d μ else F ds μ
    | .ex c fs μ1 => if D.closedF 0 fs = true then .ex c fs μ else F ds μ
    | .bad => .bad) else F ds μ
theorem Ok.none {K : PySem.W.Frag} {W : Wd} {H : Hp} {μ : Mu} (ok : Ok K W H μ) : Ok K ⟨W.S, []⟩ H [] :=
  ⟨ok.sub, rfl, List.nodup_nil, fun l a o e => by simp at e, fun l a o e => by simp at e, ⟨ok.tab.all, ok.tab.no⟩⟩
theorem Go.back {K : PySem.W.Frag} {W W' : Wd} {H H' : Hp} {μ μ1 : Mu} (ok : Ok K W H μ) (g : Go ⟨W.S, []⟩ H W' H') (o : Ok K W' H' μ1) : Go W H ⟨W'.S, W.io⟩ H' ∧ Ok K ⟨W'.S, W.io⟩ H' μ := by
  have le : Le W ⟨W'.S, W.io⟩ := ⟨g.le.s, List.prefix_refl _⟩
  have nw : ∀ a u, W'.S a = some u → W.S a = some u ∨ H a = .none := fun a u e => by
    rcases g.newS a u e with z | z | z
    · exact .inl z
    · exact .inr z
    · cases z
  refine ⟨⟨le, fun a u e _ nt => g.kept a u e (by simp) nt, g.grow, fun a e => .inl e, fun a u e => ?_⟩, ⟨o.sub, ok.len, ok.nd, fun l a m e1 e2 n => ?_, fun l a m e1 e2 => ?_, ⟨o.tab.all, o.tab.no⟩⟩⟩
  · rcases nw a u e with z | z
    · exact .inl z
    · exact .inr (.inl z)
  · show W'.S a = .none
    cases e : W'.S a with
    | none => rfl
    | some u =>
      rcases nw a u e with z | z
      · rw [ok.apart l a m e1 e2 n] at z
        cases z
      · obtain ⟨v, hv, _⟩ := ok.cell l a m e1 e2
        rw [z] at hv
        cases hv
  · obtain ⟨u, hu, cu⟩ := ok.cell l a m e1 e2
    exact ⟨u, g.kept a u hu (by simp) cu.notbl, cu.mono le⟩
theorem Le.io0 {S : Hp} {io : List Addr} : Le ⟨S, []⟩ ⟨S, io⟩ := ⟨Same.refl _, List.nil_prefix⟩
theorem FnG.framed {P : Program} {w : World} {K : PySem.W.Frag} {mg : Str → Option Value} {base : Heap} {k : Nat} {f : Addr} {fd : FuncData} {ps : List Str} {F : List D → Mu → R D} (h : FnG P w K mg base k f fd ps F) : FnG P w K mg base k f fd ps (DL.framed F) := by
  refine ⟨fun A outer s H args us vs Q E W ds μ hr hg e0 hl hb rv ok r p => ?_⟩
  have plain : postE K E W H (F ds μ) Q → codeAny (model P w) A (.call (.ref f) args) (CR (L2.CX P w) outer P w H s Q E) s := fun p => h.run A outer s H args us vs Q E W ds μ hr hg e0 hl hb rv ok r p
  unfold DL.framed at p
  by_cases c : D.closedL 0 ds = true
  · rw [if_pos c] at p
    have r0 : Reps K ⟨W.S, []⟩ vs ds := by
      have := r.cut c
      rwa [List.take_zero] at this
    cases hF : F ds [] with
    | ok d μ1 =>
      rw [hF] at p
      dsimp only at p
      by_cases cd : d.closed 0 = true
      · rw [if_pos cd] at p
        refine h.run A outer s H args us vs Q E ⟨W.S, []⟩ ds [] hr hg e0 hl hb rv ok.none r0 ?_
        rw [hF]
        intro W' v H' g o r'
        obtain ⟨g2, o2⟩ := Go.back ok g o
        refine p ⟨W'.S, W.io⟩ v H' g2 o2 ?_
        have r2 := r'.cut cd
        rw [List.take_zero] at r2
        exact r2.mono Le.io0
      · rw [if_neg cd] at p
        exact plain p
    | ex cc fs μ1 =>
      rw [hF] at p
      dsimp only at p
      by_cases cd : D.closedF 0 fs = true
      · rw [if_pos cd] at p
        refine h.run A outer s H args us vs Q E ⟨W.S, []⟩ ds [] hr hg e0 hl hb rv ok.none r0 ?_
        rw [hF]
        intro W' H' d g o x
        obtain ⟨g2, o2⟩ := Go.back ok g o
        refine p ⟨W'.S, W.io⟩ H' d g2 o2 ?_
        have x2 := x.cut cd
        rw [List.take_zero] at x2
        rcases x2 with z | ⟨a, ns, vs', ds', z1, z2, z3, z4, z5, z6, z7⟩
        · exact .inl z
        · refine .inr ⟨a, ns, vs', ds', z1, z2, z3, z4, z5.mono Le.io0, z6, fun hm => ?_⟩
          have hm : a ∈ W.io := hm
          obtain ⟨l, hl, el⟩ := List.mem_iff_getElem.mp hm
          have hμ : l < μ.length := by rw [← ok.len]; exact hl
          obtain ⟨u, hu, cu⟩ := ok.cell l a μ[l] (by rw [List.getElem?_eq_getElem hl, el]) (List.getElem?_eq_getElem hμ)
          have hk := g.kept a u hu (by simp) cu.notbl
          rw [z2] at hk
          cases hk
          exact cu.notxd _ rfl
      · rw [if_neg cd] at p
        exact plain p
    | bad =>
      rw [hF] at p
      exact p.elim
  · rw [if_neg c] at p
    exact plain p
/-- the calm context of a body -/
structure Cal (X : Cx) (E : WX) (k : Nat) : Prop where
  room : Room k X.A
  guards : X.A.guards = some []
  take : Takes X E
theorem Cal.pass {X : Cx} {E : WX} {k : Nat} (c : Cal X E k) : ∀ σ, PassesAt (L2.CX X.prog X.w) X σ (WE E σ) := passAt c.take
theorem take0 {X : Cx} : Takes X E0 := takes0
theorem pass0 {X : Cx} : ∀ σ, PassesAt (L2.CX X.prog X.w) X σ (WE E0 σ) := fun _ _ _ _ _ _ _ h => by
  obtain ⟨_, _, _, _, _, _, _, _, _, _, _, _, z⟩ := h
  exact z.elim
theorem Cal.mono {X : Cx} {E : WX} {j k : Nat} (c : Cal X E k) (h : j ≤ k) : Cal X E j := ⟨c.room.mono h, c.guards, c.take⟩
theorem Cal.blk {X : Cx} {E : WX} {k : Nat} (c : Cal X E k) (s : Shared) (H : Hp) (scope : Scope) (env : Env) (fp : List Addr) : Cal (X.blk s H scope env fp) E0 k := ⟨c.room, c.guards, take0⟩
theorem trunc_post {K : PySem.W.Frag} {E : XK} {W W' : Wd} {H H' : Hp} {μ μ1 : Mu} {d : D} {v : V} {Q : VK} (hl : W.io.length = μ.length) (p : postE K E W H (trunc μ.length d μ1) Q) (g : Go W H W' H') (o : Ok K W' H' μ1) (r : Rep K W' v d) : Q v H' := by
  unfold trunc at p
  by_cases c : (d.closed μ.length && closedMu μ.length μ1) = true
  · rw [if_pos c] at p
    simp only [Bool.and_eq_true] at c
    have g' := g.cut
    rw [hl] at g'
    exact p _ v H' g' (o.cut c.2) (r.cut c.1)
  · rw [if_neg c] at p
    exact p W' v H' g o r
theorem truncX_post {K : PySem.W.Frag} {E : XK} {W W' : Wd} {H H' : Hp} {μ μ1 : Mu} {c : Nat} {fs : List (Str × D)} {d : Option Addr} {Q : VK} (hl : W.io.length = μ.length) (p : postE K E W H (truncX μ.length c fs μ1) Q) (g : Go W H W' H') (o : Ok K W' H' μ1) (r : ExcIs K W' H' fs d) : E (.ref (cl K c)) d H' := by
  unfold truncX at p
  by_cases z : (D.closedF μ.length fs && closedMu μ.length μ1) = true
  · rw [if_pos z] at p
    simp only [Bool.and_eq_true] at z
    have g' := g.cut
    rw [hl] at g'
    exact p _ H' d g' (o.cut z.2) (r.cut z.1)
  · rw [if_neg z] at p
    exact p W' H' d g o r
section
variable {P : Program} {w : World} {K : PySem.W.Frag} {mg : Str → Option Value} {base : Heap}
theorem pass_body {N : List Str} {qual : Str} {scope : Scope} {f : Addr} {cd : Value} {A : Around} {outer : List Env} {s : Shared} {H : Hp} {E : XK} : Passes (L2.CX P w) (cxOf (L2.CX P w) P w K mg base N qual scope f cd A outer s H E) E :=
  fun pins σ H' s' e s2 I h => by
    have tk : Takes (cxOf (L2.CX P w) P w K mg base N qual scope f cd A outer s H E) (fun cls d _ H => E cls d H) := takes_of rfl rfl rfl rfl
    exact tk e s2 (XE.of_call I (fun cls d H' h => h) h)
/-- a def's body keeps its F -/
theorem fn_body {k : Nat} {f : Addr} {name qual : Str} {params : Arguments} {body : List Stmt} {scope : Scope} {dV kV doc pm cdv ct oc : Value} {an od : Option Addr} {osl : Array (Option Value)} {N ps : List Str} {g : FS}
    (lk : K.lookup f = some ⟨oc, od, .func (PySem.W.fnOf name qual params body scope dV kV doc pm an cdv ct), osl⟩) (hcd : PySem.W.codeIn K cdv qual = true) (sc : FnScope N ps scope)
    (hb : ∀ (A : Around) (outer : List Env) (s : Shared) (H : Hp) (E : XK), Cal (cxOf (L2.CX P w) P w K mg base N qual scope f cdv A outer s H E) (lift E) k → DSs (cxOf (L2.CX P w) P w K mg base N qual scope f cdv A outer s H E) (lift E) body g) :
    FnG P w K mg base (k + 1) f (PySem.W.fnOf name qual params body scope dV kV doc pm an cdv ct) ps (callF N.length g) := by
  refine ⟨fun A outer s H args us vs Q E W ds μ hr hg e0 hl hbd rv ok r p => ?_⟩
  have hvl : vs.length = ps.length := by rw [rv.length, hl]
  have kin : K.In s.heap := e0.mod.kin.keeps fun b o e => (e0.bs b o e).1
  have nl : s.heap.NoLimit := e0.mod.nolimit.keeps fun b o e => (e0.bs b o e).1
  have kinds : ∀ y ∈ ps.zip us, scope.names.lookup y.1 = some .local ∨ (scope.names.lookup y.1 = some .cell ∧ ((cellsFrom (s.heap.objs.size + 1) scope.names []).lookup y.1).isSome = true) := by
    rintro ⟨n, v⟩ hy
    rcases sc.par n (List.of_mem_zip hy).1 with q | q
    · exact .inl q
    · exact .inr ⟨q, PySem.W.cellsFrom_some _ _ _ (.inl q)⟩
  have X0 : Cal (cxOf (L2.CX P w) P w K mg base N qual scope f cdv A outer s H E) (lift E) k :=
    ⟨hr.deeper _, hg, takes_of rfl rfl rfl rfl⟩
  refine codeAny_call_function hr.depth (kin _ _ lk) rfl sc.co sc.gen rfl (PySem.W.codeRec_of kin hcd) (hbd _ _ _ _ ?_)
  refine wpAny_newFunctionEnv_cells sc.kind kinds fun env he s1 x => ?_
  subst he
  refine ⟨nl.keeps x.toInCall.keep, codeAny_func ?_⟩
  have I0 : Inv (cxOf (L2.CX P w) P w K mg base N qual scope f cdv A outer s H E) [] (start N vs) H s1 := inv_start sc hr.hd e0 hvl rv x
  have rd : rS K (lift E) g { nx := fun _ H' => Q .non H', rt := Q } (start N vs) H := by
    refine ⟨W, startD N.length ds, μ, ok, envs_start r, ?_⟩
    unfold callF at p
    revert p
    cases g (startD N.length ds) μ with
    | rt d μ1 => exact fun p W' v H' g o r => trunc_post ok.len p g o r
    | nx ρ1 μ1 => exact fun p W' σ' H' g o _ => trunc_post ok.len p g o .non
    | ex ρ1 c fs μ1 => exact fun p W' σ' H' d g o _ r => truncX_post ok.len p g o r
    | bk _ _ => exact fun p => p.elim
    | ct _ _ => exact fun p => p.elim
    | bad => exact fun p => p
  refine wpAny_mono ((hb A outer s H E X0).run [] s1 (start N vs) H _ I0 rd) (fun fl s2 hs => ?_) fun e s2 hs => hs
  have fin : ∀ {σ' : St} {H' : Hp} {v : V} {u : Value}, Inv (cxOf (L2.CX P w) P w K mg base N qual scope f cdv A outer s H E) [] σ' H' s2 → RelV v u → Q v H' → CE outer P w H s Q u s2 :=
    fun {σ' H' v u} J rr q => ⟨v, H', J.os, J.bare, J.base, J.hok, rr, q⟩
  cases fl with
  | ret u =>
    have ⟨v, σ', H', J, rr, q⟩ := hs
    exact fin J rr q
  | next =>
    have ⟨σ', H', J, q⟩ := hs
    exact fin (v := V.non) (u := Value.none) J rfl q
  | brk =>
    have ⟨_, _, _, q⟩ := hs
    exact absurd q id
  | cont =>
    have ⟨_, _, _, q⟩ := hs
    exact absurd q id
theorem Fun.g {x qual : Str} {st : Stmt} {f : Addr} {fd : FuncData} {N ps : List Str} {k : Nat} {g : FS} (F : Fun K x qual st f fd) (sc : FnScope N ps (defScope st))
    (hb : ∀ (cdv : Value) (A : Around) (outer : List Env) (s : Shared) (H : Hp) (E : XK), Cal (cxOf (L2.CX P w) P w K mg base N qual (defScope st) f cdv A outer s H E) (lift E) k → DSs (cxOf (L2.CX P w) P w K mg base N qual (defScope st) f cdv A outer s H E) (lift E) (defBody st) g) :
    FnG P w K mg base (k + 1) f fd ps (callF N.length g) := by
  obtain ⟨oc, od, kV, doc, pm, an, cdv, ct, osl, rfl, lk, hcd⟩ := F.ex
  exact fn_body lk hcd sc (hb cdv)
theorem FunD.g {x qual : Str} {params : Arguments} {body : List Stmt} {scope : Scope} {dvs : List V} {kws : List (Str × V)} {f : Addr} {fd : FuncData} {N ps : List Str} {k : Nat} {g : FS} (F : FunD K x qual params body scope dvs kws f fd) (sc : FnScope N ps scope)
    (hb : ∀ (cdv : Value) (A : Around) (outer : List Env) (s : Shared) (H : Hp) (E : XK), Cal (cxOf (L2.CX P w) P w K mg base N qual scope f cdv A outer s H E) (lift E) k → DSs (cxOf (L2.CX P w) P w K mg base N qual scope f cdv A outer s H E) (lift E) body g) :
    FnG P w K mg base (k + 1) f fd ps (callF N.length g) := by
  obtain ⟨oc, od, dV, kV, doc, pm, an, cdv, ct, osl, rfl, lk, hcd, _, _⟩ := F.ex
  exact fn_body lk hcd sc (hb cdv)
end

/-! ### calls -/
def HasLen (fa : FA) (n : Nat) : Prop := ∀ ρ μ ds μ1, fa ρ μ = .ok ds μ1 → ds.length = n
theorem aNil_len : HasLen aNil 0 := fun ρ μ ds μ1 h => by
  unfold aNil at h
  cases h
  rfl
theorem aCons_len {f : FE} {g : FA} {n : Nat} (h : HasLen g n) : HasLen (aCons f g) (n + 1) := fun ρ μ ds μ1 e => by
  unfold aCons at e
  cases hf : f ρ μ with
  | ok d μ2 =>
    rw [hf, R.bind_ok] at e
    cases hg : g ρ μ2 with
    | ok es μ3 =>
      rw [hg, R.bind_ok] at e
      cases e
      rw [List.length_cons, h _ _ _ _ hg]
    | ex c fs μ3 => rw [hg] at e; cases e
    | bad => rw [hg] at e; cases e
  | ex c fs μ2 => rw [hf] at e; cases e
  | bad => rw [hf] at e; cases e
def dcall (F : List D → Mu → R D) (dd : List D) (fa : FA) : FE := fun ρ μ => (fa ρ μ).bind fun ds μ1 => F (ds ++ dd) μ1
section
variable {X : Cx} {E : WX} {k : Nat} {f : Addr} {fd : FuncData} {ps : List Str} {F : List D → Mu → R D} {dvs : List V} {dd : List D} {d0 : List Value} {x : Str} {p pos : Pos} {e : Expr} {es : List Expr} {fa : FA}
theorem run_g {pins : List (Addr × Obj)} {σ : St} {H : Hp} {s : Shared} {Q : VK} {us : List Value} {vs : List V} {args : Args} {W : Wd} {ds : List D} {μ : Mu} (G : FnG X.prog X.w X.K X.mg X.base k f fd ps F) (c : Cal X E k)
    (I : Inv X pins σ H s) (hl : us.length = ps.length) (hb : BindsTo s fd args (ps.zip us)) (rv : Vals vs us) (ok : Ok X.K W H μ) (r : Reps X.K W vs ds) (q : postE X.K (WE E σ) W H (F ds μ) Q) :
    codeAny (model X.prog X.w) X.A (.call (.ref f) args) (callEnd (EP X pins σ Q) X.xe) s := by
  refine codeAny_mono (G.run X.A X.stack s H args us vs Q (WE E σ) W ds μ c.room c.guards I.env0 hl hb rv ok r q) fun z s2 hz => ?_
  match z, hz with
  | .error e, hz => exact c.pass σ pins H s e s2 I hz
  | .ok (.ret u), hz => exact I.after hz
/-- the defaults that fill up -/
structure Dfl (K : PySem.W.Frag) (fd : FuncData) (ps : List Str) (n : Nat) (dd : List D) : Prop where
  ex : ∃ (dvs : List V) (d0 : List Value), Vals dvs d0 ∧ (∀ W, Reps K W dvs dd) ∧ n + d0.length = ps.length ∧ Binds K fd ps d0
theorem dfl0 {K : PySem.W.Frag} {fd : FuncData} {ps : List Str} (b : Binds K fd ps []) : Dfl K fd ps ps.length [] := ⟨[], [], .nil, fun _ => .nil, rfl, b⟩
theorem callF_args {pins : List (Addr × Obj)} {σ : St} {H : Hp} {s : Shared} {Q : VK} {us : List Value} {vs : List V} {W : Wd} {ds : List D} {μ : Mu} {n : Nat} (G : FnG X.prog X.w X.K X.mg X.base k f fd ps F) (c : Cal X E k) (b : Dfl X.K fd ps n dd)
    (I : Inv X pins σ H s) (hn : us.length = n) (rv : Vals vs us) (ok : Ok X.K W H μ) (r : Reps X.K W vs ds) (q : postE X.K (WE E σ) W H (F (ds ++ dd) μ) Q) : wpAny (model X.prog X.w) X.A (call (.ref f) us) (EP X pins σ Q) X.xe s := by
  obtain ⟨dvs, d0, r0, rd, hl, hb⟩ := b.ex
  have hlen : (us ++ d0).length = ps.length := by rw [List.length_append, hn]; exact hl
  exact wpAny_call (run_g (args := ⟨us, []⟩) G c I hlen (hb s us I.kIn hlen) (rv.append r0) ok (r.app (rd W)) q)
theorem de_call (G : FnG X.prog X.w X.K X.mg X.base k f fd ps F) (c : Cal X E k) (hm : X.mg x = some (.ref f)) (hk : PySem.W.keepIn X.K (.ref f) = true) (b : Dfl X.K fd ps (e :: es).length dd) (ha : DA X E (e :: es) fa)
    (hf : HasLen fa (e :: es).length := by repeat (first | exact aNil_len | refine aCons_len ?_)) (hg : Gl X x := by rfl) (hdb : (x == ("__debug__" : Str)) = false := by decide) (he : starEach (e :: es) X.env = (false, eval e X.env) :: starEach es X.env := by rfl) (hpl : (backTo pos (starEach es X.env)).any (·.1) = false := by rfl) :
    DE X E (.Call (.Name x p) (e :: es) [] pos) (dcall F dd fa) := by
  refine ⟨fun pins s σ H Q I q => ?_⟩
  obtain ⟨W, ρ, μ, ok, en, pq⟩ := q
  refine wpAny_Call_Name_kw (ld_glob I hg hm ?_ hdb)
  unfold dcall at pq
  have rd : rA X.K E fa σ H (fun vs H1 => ∃ W1 ds μ1, vs.length = (e :: es).length ∧ Ok X.K W1 H1 μ1 ∧ Reps X.K W1 vs ds ∧ postE X.K (WE E σ) W1 H1 (F (ds ++ dd) μ1) Q) := by
    refine ⟨W, ρ, μ, ok, en, ?_⟩
    revert pq
    cases hq : fa ρ μ with
    | ok ds μ1 => exact fun p W1 xs H1 g o r => ⟨W1, ds, μ1, by rw [r.length]; exact hf ρ μ ds μ1 hq, o, r, post.mono g p⟩
    | ex c fs μ1 => exact fun p => p
    | bad => exact fun p => p
  refine PySem.W.callWith_K (h₀ := X.base) I.ok.mod.kin hk (thn (ha.run pos pins s σ H _ I rd) fun us s1 ⟨vs, H1, I1, r, W1, ds, μ1, hn, o1, r1, q1⟩ => ⟨I1.kIn, ?_⟩) he hpl
  exact callF_args G c b I1 (show us.length = _ by rw [← r.length]; exact hn) r o1 r1 q1
end
end DL
/-! DL4: operators, comparisons, built-ins over data. -/
namespace DL
open PySem L2

/-! ### operators by the kinds of their data -/
def rD (K : PySem.W.Frag) (E : WX) (g : D → D → Mu → R D) : R2 := fun x y H Q => ∃ (E' : XK) (W : Wd) (μ : Mu) (dx dy : D), Ok K W H μ ∧ Rep K W x dx ∧ Rep K W y dy ∧ postE K E' W H (g dx dy μ) Q
abbrev OpX (X : Cx) (E : WX) (f : Value → Value → Sem Value) (g : D → D → Mu → R D) : Prop := OpR X f (rD X.K E g)
theorem opx {X : Cx} {E : WX} {f : Value → Value → Sem Value} {g : D → D → Mu → R D} (h : ∀ {E' : XK} W H μ dx dy vx vy Q, Ok X.K W H μ → Rep X.K W vx dx → Rep X.K W vy dy → postE X.K E' W H (g dx dy μ) Q → ∃ r, OpR X f r ∧ r vx vy H Q) : OpX X E f g := by
  intro pins s σ H x y v u Q I rx ry q
  obtain ⟨_, W, μ, dx, dy, ok, r1, r2, p⟩ := q
  obtain ⟨r, o, z⟩ := h W H μ dx dy x y Q ok r1 r2 p
  exact o pins s σ H x y v u Q I rx ry z
theorem opd_D {K : PySem.W.Frag} {E : WX} {g : D → D → Mu → R D} : OpD K E (rD K E g) g := fun E' W H μ x y vx vy Q ok rx ry p => ⟨E', W, μ, x, y, ok, rx, ry, p⟩
section
variable {X : Cx} {E : WX} {a b : Expr} {fa fb : FE} {pos : Pos} {g : D → D → Mu → R D}
theorem de_bin {op : Operator} (ho : OpX X E (binaryOp op) g) (ha : DE X E a fa) (hb : DE X E b fb) : DE X E (.BinOp a op b pos) (dbin g fa fb) := dbinop ho opd_D ha hb
theorem de_cmp {op : CmpOp} (ho : OpX X E (compareOp op) g) (ha : DE X E a fa) (hb : DE X E b fb) (hm : behindInMarks op b = false := by first | exact nomark _ | rfl) : DE X E (.Compare a [op] [b] pos) (dbin g fa fb) := dcmp ho opd_D ha hb hm
theorem dt_cmp {op : CmpOp} (ho : OpX X E (compareOp op) g) (ha : DE X E a fa) (hb : DE X E b fb) (hm : behindInMarks op b = false := by first | exact nomark _ | rfl) : DT X E (.Compare a [op] [b] pos) (dtest (dbin g fa fb)) := dtest_cmp ho opd_D ha hb hm
end

/-- an answer that makes nothing -/
theorem post_pure {K : PySem.W.Frag} {E : XK} {W : Wd} {H : Hp} {μ : Mu} {d : D} {v : V} {Q : VK} (ok : Ok K W H μ) (p : postE K E W H (.ok d μ) Q) (r : Rep K W v d) : Q v H := p W v H (Go.refl _ _) ok r

/-! ### + - * // % ** -/
def addD : D → D → Mu → R D
  | .int i, .int j, μ => .ok (.int (i + j)) μ
  | .str x, .str y, μ => if x.length + y.length ≤ 1000000 then .ok (.str (x ++ y)) μ else .bad
  | .lst xs, .lst ys, μ => if xs.length + ys.length ≤ 1000000 then .ok (.lst (xs ++ ys)) μ else .bad
  | _, _, _ => .bad
def subD : D → D → Mu → R D
  | .int i, .int j, μ => .ok (.int (i - j)) μ
  | _, _, _ => .bad
/-- one factor is below 2 ^ 64 -/
def mulD : D → D → Mu → R D
  | .int i, .int j, μ => if (-(2 ^ 64) < i ∧ i < 2 ^ 64) ∨ (-(2 ^ 64) < j ∧ j < 2 ^ 64) then .ok (.int (i * j)) μ else .bad
  | _, _, _ => .bad
def modD : D → D → Mu → R D
  | .int i, .int j, μ => if 0 < j then .ok (.int (i % j)) μ else .bad
  | _, _, _ => .bad
def fdivD : D → D → Mu → R D
  | .int i, .int j, μ => if 0 < j ∧ j < 1073741824 then .ok (.int (i / j)) μ else .bad
  | _, _, _ => .bad
def powD : D → D → Mu → R D
  | .int i, .int j, μ => if 0 ≤ j ∧ j ≤ 1000000 ∧ i.natAbs < 2 ^ 64 then .ok (.int (i ^ j.toNat)) μ else .bad
  | _, _, _ => .bad
section
variable {X : Cx} {E : WX}
theorem op_catR : OpR X (binaryOp .Add) (fun x y H Q => ∃ l b xs zs, x = .ref l ∧ y = .ref b ∧ Lq X.K H l xs ∧ Lq X.K H b zs ∧ xs.length + zs.length ≤ sizeLine ∧ ∀ p, H p = none → Q (.ref p) (upd H p (.lst (xs ++ zs)))) := by
  intro pins s σ H x y v u Q I rx ry h
  obtain ⟨l, b, xs, zs, rfl, rfl, h1, h2, hz, q⟩ := h
  cases rx
  cases ry
  obtain ⟨its, n, r, e⟩ := h1.isL I
  obtain ⟨its2, n2, r2, e2⟩ := h2.isL I
  refine PySem.P.add_list e e2 ?_ (by
    rw [List.size_toArray, List.size_toArray, ← r.length, ← r2.length]
    exact hz)
  have ea : its.toArray ++ its2.toArray = (its ++ its2).toArray := by simp
  rw [ea]
  exact ⟨.ref _, _, I.lnew (t' := s.toks) (r.append r2) (by rw [List.length_append]; exact hz), rfl, q _ I.fresh⟩
theorem strlen_app (x y : Str) : (x ++ y).length = x.length + y.length := by
  show (x.cps ++ y.cps).size = x.cps.size + y.cps.size
  simp
theorem opx_add : OpX X E (binaryOp .Add) addD := opx fun W H μ dx dy vx vy Q ok r1 r2 p => by
  unfold addD at p
  split at p
  · cases r1; cases r2
    exact ⟨_, op_add, _, _, rfl, rfl, post_pure ok p (.int _)⟩
  · split at p
    · rename_i hn
      cases r1; cases r2
      exact ⟨_, op_add_str, _, _, rfl, rfl, le_line hn, post_pure ok p (.str _ (by rw [strlen_app]; exact le_line hn))⟩
    · exact p.elim
  · split at p
    · rename_i hn
      cases r1 with
      | lst z1 h1 q1 =>
        cases r2 with
        | lst z2 h2 q2 =>
          refine ⟨_, op_catR, _, _, _, _, rfl, rfl, same_lq ok.sub h1, same_lq ok.sub h2, by rw [q1.length, q2.length]; exact le_line hn, fun q hq => p _ _ _ (Go.new ok hq) (ok.new hq) (rep_lst ok hq (by rw [List.length_append]; exact le_line hn) (q1.app q2))⟩
    · exact p.elim
  · exact p.elim
theorem opx_sub : OpX X E (binaryOp .Sub) subD := opx fun W H μ dx dy vx vy Q ok r1 r2 p => by
  unfold subD at p
  split at p
  · cases r1; cases r2
    exact ⟨_, op_sub, _, _, rfl, rfl, post_pure ok p (.int _)⟩
  · exact p.elim
theorem opx_mul : OpX X E (binaryOp .Mult) mulD := opx fun W H μ dx dy vx vy Q ok r1 r2 p => by
  unfold mulD at p
  split at p
  · split at p
    · rename_i hn
      cases r1; cases r2
      exact ⟨_, op_mul, _, _, rfl, rfl, hn, post_pure ok p (.int _)⟩
    · exact p.elim
  · exact p.elim
theorem opx_mod : OpX X E (binaryOp .Mod) modD := opx fun W H μ dx dy vx vy Q ok r1 r2 p => by
  unfold modD at p
  split at p
  · split at p
    · rename_i hn
      cases r1; cases r2
      exact ⟨_, op_mod, _, _, rfl, rfl, hn, post_pure ok p (.int _)⟩
    · exact p.elim
  · exact p.elim
theorem opx_fdiv : OpX X E (binaryOp .FloorDiv) fdivD := opx fun W H μ dx dy vx vy Q ok r1 r2 p => by
  unfold fdivD at p
  split at p
  · split at p
    · rename_i hn
      cases r1; cases r2
      exact ⟨_, op_fdiv, _, _, rfl, rfl, hn, post_pure ok p (.int _)⟩
    · exact p.elim
  · exact p.elim
theorem opx_pow : OpX X E (binaryOp .Pow) powD := opx fun W H μ dx dy vx vy Q ok r1 r2 p => by
  unfold powD at p
  split at p
  · split at p
    · rename_i hn
      cases r1; cases r2
      exact ⟨_, op_pow, _, _, rfl, rfl, hn, post_pure ok p (.int _)⟩
    · exact p.elim
  · exact p.elim
end

/-! ### < <= > >= -/
def strLt (x y : Str) : Bool := decide (x.cps.toList < y.cps.toList)
def ltD : D → D → Mu → R D
  | .int i, .int j, μ => .ok (.bl (decide (i < j))) μ
  | .str x, .str y, μ => .ok (.bl (strLt x y)) μ
  | _, _, _ => .bad
def leD : D → D → Mu → R D
  | .int i, .int j, μ => .ok (.bl (decide (i ≤ j))) μ
  | .str x, .str y, μ => .ok (.bl (!strLt y x)) μ
  | _, _, _ => .bad
def gtD : D → D → Mu → R D
  | .int i, .int j, μ => .ok (.bl (decide (j < i))) μ
  | _, _, _ => .bad
def geD : D → D → Mu → R D
  | .int i, .int j, μ => .ok (.bl (decide (j ≤ i))) μ
  | _, _, _ => .bad
section
variable {X : Cx} {E : WX}
theorem opx_lt : OpX X E (compareOp .Lt) ltD := opx fun W H μ dx dy vx vy Q ok r1 r2 p => by
  unfold ltD at p
  split at p
  · cases r1; cases r2
    exact ⟨_, op_lt, _, _, rfl, rfl, post_pure ok p (.bl _)⟩
  · cases r1; cases r2
    exact ⟨_, op_lt_str, _, _, rfl, rfl, post_pure ok p (.bl _)⟩
  · exact p.elim
theorem opx_le : OpX X E (compareOp .LtE) leD := opx fun W H μ dx dy vx vy Q ok r1 r2 p => by
  unfold leD at p
  split at p
  · cases r1; cases r2
    exact ⟨_, op_le, _, _, rfl, rfl, post_pure ok p (.bl _)⟩
  · cases r1; cases r2
    exact ⟨_, op_le_str, _, _, rfl, rfl, post_pure ok p (.bl _)⟩
  · exact p.elim
theorem opx_gt : OpX X E (compareOp .Gt) gtD := opx fun W H μ dx dy vx vy Q ok r1 r2 p => by
  unfold gtD at p
  split at p
  · cases r1; cases r2
    exact ⟨_, op_gt, _, _, rfl, rfl, post_pure ok p (.bl _)⟩
  · exact p.elim
theorem opx_ge : OpX X E (compareOp .GtE) geD := opx fun W H μ dx dy vx vy Q ok r1 r2 p => by
  unfold geD at p
  split at p
  · cases r1; cases r2
    exact ⟨_, op_ge, _, _, rfl, rfl, post_pure ok p (.bl _)⟩
  · exact p.elim
end

/-! ### is None -/
def isNoneD : D → Option Bool
  | .non => some true
  | .cst _ => none
  | _ => some false
def isD : D → D → Mu → R D
  | x, .non, μ => match isNoneD x with
    | some b => .ok (.bl b) μ
    | none => .bad
  | _, _, _ => .bad
def isntD : D → D → Mu → R D
  | x, .non, μ => match isNoneD x with
    | some b => .ok (.bl (!b)) μ
    | none => .bad
  | _, _, _ => .bad
theorem isNone_rep {K : PySem.W.Frag} {W : Wd} {v : V} {d : D} {b : Bool} (r : Rep K W v d) (h : isNoneD d = some b) : decide (v = .non) = b := by
  cases r <;> simp [isNoneD] at h <;> subst h <;> simp
section
variable {X : Cx} {E : WX}
theorem opx_is : OpX X E (compareOp .Is) isD := opx fun W H μ dx dy vx vy Q ok r1 r2 p => by
  unfold isD at p
  split at p
  · split at p
    · rename_i b hb
      cases r2
      refine ⟨_, op_isN, rfl, ?_⟩
      rw [isNone_rep r1 hb]
      exact post_pure ok p (.bl _)
    · exact p.elim
  · exact p.elim
theorem opx_isnt : OpX X E (compareOp .IsNot) isntD := opx fun W H μ dx dy vx vy Q ok r1 r2 p => by
  unfold isntD at p
  split at p
  · split at p
    · rename_i b hb
      cases r2
      refine ⟨_, op_notN, rfl, ?_⟩
      rw [isNone_rep r1 hb]
      exact post_pure ok p (.bl _)
    · exact p.elim
  · exact p.elim
end

end DL
/-! DL5: == and in over data. -/
namespace DL
open PySem L2

inductive Kd where
  | flat (v : V) | tup (xs : List D) | lst (xs : List D) | none
def D.kd : D → Kd
  | .non => .flat .non
  | .bl b => .flat (.bl b)
  | .int i => .flat (.int i)
  | .str x => .flat (.str x)
  | .tup xs => .tup xs
  | .lst xs => .lst xs
  | _ => .none
def eqL (e : D → D → Option Bool) : List D → List D → Option Bool
  | [], [] => some true
  | [], _ :: _ => some false
  | _ :: _, [] => some false
  | x :: xs, y :: ys => match e x y, eqL e xs ys with
    | some a, some b => some (a && b)
    | _, _ => none
/-- == of data of less than that depth -/
def eqD : Nat → D → D → Option Bool
  | 0, _, _ => none
  | n + 1, x, y => match x.kd, y.kd with
    | .flat u, .flat v => some (eqV u v)
    | .tup xs, .tup ys => eqL (eqD n) xs ys
    | .lst xs, .lst ys => eqL (eqD n) xs ys
    | .none, _ => none
    | _, .none => none
    | _, _ => some false
def atF (e : D → D → Option Bool) (xs ys : List D) (j : Nat) : Bool := match xs[j]?, ys[j]? with
  | some x, some y => (e x y).getD false
  | _, _ => false
theorem eqL_at {e : D → D → Option Bool} : ∀ {xs ys : List D} {b : Bool}, eqL e xs ys = some b → ∀ (j : Nat) x y, xs[j]? = some x → ys[j]? = some y → e x y = some (atF e xs ys j)
  | [], _, _, _, _, _, _, h, _ => by simp at h
  | _ :: _, [], _, _, _, _, _, _, h => by simp at h
  | x :: xs, y :: ys, b, h, j, x', y', h1, h2 => by
    unfold eqL at h
    cases e1 : e x y with
    | none => rw [e1] at h; cases h
    | some a =>
      cases e2 : eqL e xs ys with
      | none => rw [e1, e2] at h; cases h
      | some c =>
        cases j with
        | zero =>
          simp at h1 h2
          subst h1 h2
          simp [atF, e1]
        | succ j =>
          have := eqL_at e2 j x' y' (by simpa using h1) (by simpa using h2)
          rw [this]
          simp [atF]
theorem all_shift (p : Nat → Bool) (n : Nat) : (List.range (n + 1)).all p = (p 0 && (List.range n).all fun j => p (j + 1)) := by
  rw [List.range_succ_eq_map, List.all_cons, List.all_map]
  rfl
theorem eqL_val {e : D → D → Option Bool} : ∀ {xs ys : List D} {b : Bool}, eqL e xs ys = some b → b = ((List.range (min xs.length ys.length)).all (atF e xs ys) && xs.length == ys.length)
  | [], [], b, h => by
    simp [eqL] at h
    subst h
    simp
  | [], y :: ys, b, h => by
    simp [eqL] at h
    subst h
    simp
  | x :: xs, [], b, h => by
    simp [eqL] at h
    subst h
    simp
  | x :: xs, y :: ys, b, h => by
    unfold eqL at h
    cases e1 : e x y with
    | none => rw [e1] at h; cases h
    | some a =>
      cases e2 : eqL e xs ys with
      | none => rw [e1, e2] at h; cases h
      | some c =>
        rw [e1, e2] at h
        cases h
        have ih := eqL_val e2
        have hm : min (x :: xs).length (y :: ys).length = min xs.length ys.length + 1 := by simp [Nat.succ_min_succ]
        rw [hm, all_shift]
        have h0 : atF e (x :: xs) (y :: ys) 0 = a := by simp [atF, e1]
        have hs : (fun j => atF e (x :: xs) (y :: ys) (j + 1)) = atF e xs ys := by
          funext j
          simp [atF]
        rw [h0, hs, Bool.and_assoc, ih]
        simp
theorem rd_inj {H : Hp} {a : Addr} {xs ys : List V} (h : Rd H a (.lst xs)) (h' : Rd H a (.lst ys)) : xs = ys := by
  rcases h with h | ⟨o, h⟩ <;> rcases h' with h' | ⟨o', h'⟩ <;> rw [h] at h' <;> cases h' <;> rfl
section
variable {X : Cx} {pins : List (Addr × Obj)} {σ : St} {H : Hp} {s : Shared} {W : Wd} {μ : Mu}
theorem eqV_refl {v : V} (h : flatV v = true) : eqV v v = true := by
  cases v <;> simp [eqV, flatV] at h ⊢
theorem kd_flat {K : PySem.W.Frag} {v u : V} {d : D} (r : Rep K W v d) (h : d.kd = .flat u) : v = u ∧ flatV v = true := by
  cases r <;> simp [D.kd] at h <;> subst h <;> exact ⟨rfl, rfl⟩
theorem kd_tup {K : PySem.W.Frag} {v : V} {d : D} {xs : List D} (r : Rep K W v d) (h : d.kd = .tup xs) : ∃ a vs, v = .ref a ∧ SqT K W.S a vs ∧ Reps K W vs xs := by
  cases r <;> simp [D.kd] at h
  subst h
  exact ⟨_, _, rfl, by assumption, by assumption⟩
theorem kd_lst {K : PySem.W.Frag} {v : V} {d : D} {xs : List D} (r : Rep K W v d) (h : d.kd = .lst xs) : ∃ a vs, v = .ref a ∧ Lq K W.S a vs ∧ Reps K W vs xs := by
  cases r <;> simp [D.kd] at h
  subst h
  exact ⟨_, _, rfl, by assumption, by assumption⟩
theorem eqL_same {K : PySem.W.Frag} {e : D → D → Option Bool} (h : ∀ v x y c, Rep K W v x → Rep K W v y → e x y = some c → c = true) : ∀ {vs : List V} {xs ys : List D} {b : Bool}, Reps K W vs xs → Reps K W vs ys → eqL e xs ys = some b → b = true
  | _, _, _, _, .nil, .nil, q => by
    simp [eqL] at q
    exact q
  | _, _, _, _, .cons r1 t1, .cons r2 t2, q => by
    rename_i v vs d ds d' ds'
    unfold eqL at q
    cases e1 : e d d' with
    | none => rw [e1] at q; cases q
    | some a =>
      cases e2 : eqL e ds ds' with
      | none => rw [e1, e2] at q; cases q
      | some c =>
        rw [e1, e2] at q
        cases q
        rw [h v d d' a r1 r2 e1, eqL_same h t1 t2 e2]
        rfl
theorem eqD_same (I : Inv X pins σ H s) (ok : Ok X.K W H μ) : ∀ (n : Nat) (v : V) (d e : D) (b : Bool), Rep X.K W v d → Rep X.K W v e → eqD n d e = some b → b = true
  | 0, _, _, _, _, _, _, h => by simp [eqD] at h
  | n + 1, v, d, e, b, r1, r2, h => by
    unfold eqD at h
    cases k1 : d.kd with
    | none => rw [k1] at h; cases h
    | flat u1 =>
      obtain ⟨rfl, f1⟩ := kd_flat r1 k1
      cases k2 : e.kd with
      | none => rw [k1, k2] at h; cases h
      | flat u2 =>
        obtain ⟨rfl, _⟩ := kd_flat r2 k2
        rw [k1, k2] at h
        cases h
        exact eqV_refl f1
      | tup ys =>
        obtain ⟨a, vs, rfl, _⟩ := kd_tup r2 k2
        simp [flatV] at f1
      | lst ys =>
        obtain ⟨a, vs, rfl, _⟩ := kd_lst r2 k2
        simp [flatV] at f1
    | tup xs =>
      obtain ⟨a, vs, rfl, h1, q1⟩ := kd_tup r1 k1
      cases k2 : e.kd with
      | none => rw [k1, k2] at h; cases h
      | flat u2 =>
        obtain ⟨rfl, f⟩ := kd_flat r2 k2
        simp [flatV] at f
      | tup ys =>
        obtain ⟨a', us, e', h2, q2⟩ := kd_tup r2 k2
        cases e'
        have ev := I.tuple_inj (same_t ok.sub h1) (same_t ok.sub h2)
        subst ev
        rw [k1, k2] at h
        exact eqL_same (fun v x y c a b z => eqD_same I ok n v x y c a b z) q1 q2 h
      | lst ys =>
        obtain ⟨a', us, e', h2, q2⟩ := kd_lst r2 k2
        cases e'
        obtain ⟨its, _, ⟨o, e1, c1, _⟩, _⟩ := I.tuple (same_t ok.sub h1)
        obtain ⟨its', _, ⟨o', n', e2, c2, _⟩, _⟩ := I.list (same_lq ok.sub h2).sq
        rw [e1] at e2
        cases e2
        rw [c1] at c2
        exact absurd c2 (by decide)
    | lst xs =>
      obtain ⟨a, vs, rfl, h1, q1⟩ := kd_lst r1 k1
      cases k2 : e.kd with
      | none => rw [k1, k2] at h; cases h
      | flat u2 =>
        obtain ⟨rfl, f⟩ := kd_flat r2 k2
        simp [flatV] at f
      | lst ys =>
        obtain ⟨a', us, e', h2, q2⟩ := kd_lst r2 k2
        cases e'
        have ev := I.list_inj (same_lq ok.sub h1).sq (same_lq ok.sub h2).sq
        subst ev
        rw [k1, k2] at h
        exact eqL_same (fun v x y c a b z => eqD_same I ok n v x y c a b z) q1 q2 h
      | tup ys =>
        obtain ⟨a', us, e', h2, q2⟩ := kd_tup r2 k2
        cases e'
        obtain ⟨its, _, ⟨o, e1, c1, _⟩, _⟩ := I.tuple (same_t ok.sub h2)
        obtain ⟨its', _, ⟨o', n', e2, c2, _⟩, _⟩ := I.list (same_lq ok.sub h1).sq
        rw [e1] at e2
        cases e2
        rw [c1] at c2
        exact absurd c2 (by decide)
open PySem.SeqAt in
theorem rc_flat {A : Around} {u v : V} {p q : Value} (r1 : RelV u p) (r2 : RelV v q) (f1 : flatV u = true) (f2 : flatV v = true) : RcAt A s p q (eqV u v) := by
  cases u <;> simp [flatV] at f1 <;> cases v <;> simp [flatV] at f2
  case non.non => cases r1; cases r2; exact RcAt.none_none
  case non.bl => cases r1; cases r2; exact RcAt.none_bool _
  case non.int => cases r1; obtain ⟨t, rfl⟩ := r2; exact RcAt.none_int _ _
  case non.str => cases r1; obtain ⟨t, rfl⟩ := r2; exact RcAt.none_str _ _
  case bl.non => cases r1; cases r2; exact RcAt.bool_none _
  case bl.bl => cases r1; cases r2; exact RcAt.bool_bool _ _
  case bl.int => cases r1; obtain ⟨t, rfl⟩ := r2; exact RcAt.bool_int _ _ _
  case bl.str => cases r1; obtain ⟨t, rfl⟩ := r2; exact RcAt.bool_str _ _ _
  case int.non => obtain ⟨t, rfl⟩ := r1; cases r2; exact RcAt.int_none _ _
  case int.bl => obtain ⟨t, rfl⟩ := r1; cases r2; exact RcAt.int_bool _ _ _
  case int.int => obtain ⟨t, rfl⟩ := r1; obtain ⟨t', rfl⟩ := r2; exact RcAt.int_int _ _ _ _
  case int.str => obtain ⟨t, rfl⟩ := r1; obtain ⟨t', rfl⟩ := r2; exact RcAt.int_str _ _ _ _
  case str.non => obtain ⟨t, rfl⟩ := r1; cases r2; exact RcAt.str_none _ _
  case str.bl => obtain ⟨t, rfl⟩ := r1; cases r2; exact RcAt.str_bool _ _ _
  case str.int => obtain ⟨t, rfl⟩ := r1; obtain ⟨t', rfl⟩ := r2; exact RcAt.str_int _ _ _ _
  case str.str => obtain ⟨t, rfl⟩ := r1; obtain ⟨t', rfl⟩ := r2; exact RcAt.str_str _ _ _ _
open PySem.SeqAt in
theorem flat_list {A : Around} {u : V} {p : Value} {l : Addr} {its : Array Value} (r1 : RelV u p) (f1 : flatV u = true) (hl : s.heap.IsList l its) (hu : A.units < cLine) : RcAt A s p (.ref l) false ∧ EqAt A s p (.ref l) false ∧ RcAt A s (.ref l) p false ∧ EqAt A s (.ref l) p false := by
  cases u <;> simp [flatV] at f1
  case non => cases r1; exact ⟨.none_list hl hu, .none_list hl hu, .list_none hl hu, .list_none hl hu⟩
  case bl => cases r1; exact ⟨.bool_list _ hl hu, .bool_list _ hl hu, .list_bool _ hl hu, .list_bool _ hl hu⟩
  case int => obtain ⟨t, rfl⟩ := r1; exact ⟨.int_list _ _ hl hu, .int_list _ _ hl hu, .list_int _ _ hl hu, .list_int _ _ hl hu⟩
  case str => obtain ⟨t, rfl⟩ := r1; exact ⟨.str_list _ _ hl hu, .str_list _ _ hl hu, .list_str _ _ hl hu, .list_str _ _ hl hu⟩
open PySem.SeqAt in
theorem flat_tuple {A : Around} {u : V} {p : Value} {l : Addr} {its : Array Value} (r1 : RelV u p) (f1 : flatV u = true) (hl : s.heap.IsTuple l its) (hu : A.units < cLine) : RcAt A s p (.ref l) false ∧ EqAt A s p (.ref l) false ∧ RcAt A s (.ref l) p false ∧ EqAt A s (.ref l) p false := by
  cases u <;> simp [flatV] at f1
  case non => cases r1; exact ⟨.none_tuple hl hu, .none_tuple hl hu, .tuple_none hl hu, .tuple_none hl hu⟩
  case bl => cases r1; exact ⟨.bool_tuple _ hl hu, .bool_tuple _ hl hu, .tuple_bool _ hl hu, .tuple_bool _ hl hu⟩
  case int => obtain ⟨t, rfl⟩ := r1; exact ⟨.int_tuple _ _ hl hu, .int_tuple _ _ hl hu, .tuple_int _ _ hl hu, .tuple_int _ _ hl hu⟩
  case str => obtain ⟨t, rfl⟩ := r1; exact ⟨.str_tuple _ _ hl hu, .str_tuple _ _ hl hu, .tuple_str _ _ hl hu, .tuple_str _ _ hl hu⟩
open PySem.SeqAt in
theorem eqD_at (I : Inv X pins σ H s) (ok : Ok X.K W H μ) : ∀ (n : Nat) (A : Around) (d e : D) (b : Bool) (u v : V) (p q : Value), A.units + n < cLine → Rep X.K W u d → Rep X.K W v e → RelV u p → RelV v q → eqD n d e = some b → RcAt A s p q b ∧ EqAt A s p q b
  | 0, _, _, _, _, _, _, _, _, _, _, _, _, _, h => by simp [eqD] at h
  | n + 1, A, d, e, b, u, v, p, q, hu, r1, r2, w1, w2, h => by
    have hu0 : A.units < cLine := by omega
    unfold eqD at h
    cases k1 : d.kd with
    | none => rw [k1] at h; cases h
    | flat u1 =>
      obtain ⟨rfl, f1⟩ := kd_flat r1 k1
      cases k2 : e.kd with
      | none => rw [k1, k2] at h; cases h
      | flat u2 =>
        obtain ⟨rfl, f2⟩ := kd_flat r2 k2
        rw [k1, k2] at h
        cases h
        exact ⟨rc_flat w1 w2 f1 f2, eqAt_V w1 w2 f1 f2⟩
      | tup ys =>
        obtain ⟨a, vs, rfl, h2, _⟩ := kd_tup r2 k2
        cases w2
        obtain ⟨its, _, ht, _⟩ := I.tuple (same_t ok.sub h2)
        rw [k1, k2] at h
        cases h
        have z := flat_tuple (s := s) (A := A) w1 f1 (show s.heap.IsTuple a its.toArray from ht) hu0
        exact ⟨z.1, z.2.1⟩
      | lst ys =>
        obtain ⟨a, vs, rfl, h2, _⟩ := kd_lst r2 k2
        cases w2
        obtain ⟨its, _, ht, _⟩ := I.list (same_lq ok.sub h2).sq
        rw [k1, k2] at h
        cases h
        have z := flat_list (s := s) (A := A) w1 f1 ht.isList hu0
        exact ⟨z.1, z.2.1⟩
    | tup xs =>
      obtain ⟨a, vs, rfl, h1, q1⟩ := kd_tup r1 k1
      cases w1
      obtain ⟨its, v1, ht, _⟩ := I.tuple (same_t ok.sub h1)
      cases k2 : e.kd with
      | none => rw [k1, k2] at h; cases h
      | flat u2 =>
        obtain ⟨rfl, f2⟩ := kd_flat r2 k2
        rw [k1, k2] at h
        cases h
        have z := flat_tuple (s := s) (A := A) w2 f2 (show s.heap.IsTuple a its.toArray from ht) hu0
        exact ⟨z.2.2.1, z.2.2.2⟩
      | lst ys =>
        obtain ⟨a', us, rfl, h2, q2⟩ := kd_lst r2 k2
        cases w2
        obtain ⟨its', _, ht', _⟩ := I.list (same_lq ok.sub h2).sq
        rw [k1, k2] at h
        cases h
        exact ⟨.tuple_list (show s.heap.IsTuple a its.toArray from ht) ht'.isList hu0, .tuple_list (show s.heap.IsTuple a its.toArray from ht) ht'.isList hu0⟩
      | tup ys =>
        obtain ⟨a', us, rfl, h2, q2⟩ := kd_tup r2 k2
        cases w2
        obtain ⟨its', v2, ht', _⟩ := I.tuple (same_t ok.sub h2)
        have hs := h
        rw [k1, k2] at h
        have l1 : its.toArray.size = xs.length := by rw [List.size_toArray, ← v1.length, q1.length]
        have l2 : its'.toArray.size = ys.length := by rw [List.size_toArray, ← v2.length, q2.length]
        have rc : RcAt A s (.ref a) (.ref a') b := by
          have z := RcAt.tuples (e := atF (eqD n) xs ys) (show s.heap.IsTuple a its.toArray from ht) (show s.heap.IsTuple a' its'.toArray from ht') hu0 (fun j h3 h4 => by
            obtain ⟨xd, ex⟩ : ∃ xd, xs[j]? = some xd := ⟨_, List.getElem?_eq_getElem (by rw [← l1]; exact h3)⟩
            obtain ⟨yd, ey⟩ : ∃ yd, ys[j]? = some yd := ⟨_, List.getElem?_eq_getElem (by rw [← l2]; exact h4)⟩
            obtain ⟨xv, e3, r3⟩ := q1.get ex
            obtain ⟨yv, e4, r4⟩ := q2.get ey
            obtain ⟨xu, e5, w5⟩ := v1.get e3
            obtain ⟨yu, e6, w6⟩ := v2.get e4
            have g1 : its.toArray[j] = xu := by
              have := List.getElem?_eq_some_iff.mp e5
              simpa using this.2
            have g2 : its'.toArray[j] = yu := by
              have := List.getElem?_eq_some_iff.mp e6
              simpa using this.2
            rw [g1, g2]
            exact (eqD_at I ok n A.in1 xd yd _ xv yv xu yu (by show A.units + 1 + n < cLine; omega) r3 r4 w5 w6 (eqL_at h j xd yd ex ey)).2)
          rw [l1, l2, ← eqL_val h] at z
          exact z
        refine ⟨rc, ?_⟩
        by_cases hne : a = a'
        · subst hne
          have hb : b = true := eqD_same I ok (n + 1) (.ref a) d e b r1 r2 (by unfold eqD; exact hs)
          rw [hb]
          exact .same _
        · exact .of_refs hne rc
    | lst xs =>
      obtain ⟨a, vs, rfl, h1, q1⟩ := kd_lst r1 k1
      cases w1
      obtain ⟨its, v1, ht, _⟩ := I.list (same_lq ok.sub h1).sq
      cases k2 : e.kd with
      | none => rw [k1, k2] at h; cases h
      | flat u2 =>
        obtain ⟨rfl, f2⟩ := kd_flat r2 k2
        rw [k1, k2] at h
        cases h
        have z := flat_list (s := s) (A := A) w2 f2 ht.isList hu0
        exact ⟨z.2.2.1, z.2.2.2⟩
      | tup ys =>
        obtain ⟨a', us, rfl, h2, q2⟩ := kd_tup r2 k2
        cases w2
        obtain ⟨its', _, ht', _⟩ := I.tuple (same_t ok.sub h2)
        rw [k1, k2] at h
        cases h
        exact ⟨.list_tuple ht.isList (show s.heap.IsTuple a' its'.toArray from ht') hu0, .list_tuple ht.isList (show s.heap.IsTuple a' its'.toArray from ht') hu0⟩
      | lst ys =>
        obtain ⟨a', us, rfl, h2, q2⟩ := kd_lst r2 k2
        cases w2
        obtain ⟨its', v2, ht', _⟩ := I.list (same_lq ok.sub h2).sq
        have hs := h
        rw [k1, k2] at h
        have l1 : its.toArray.size = xs.length := by rw [List.size_toArray, ← v1.length, q1.length]
        have l2 : its'.toArray.size = ys.length := by rw [List.size_toArray, ← v2.length, q2.length]
        have rc : RcAt A s (.ref a) (.ref a') b := by
          by_cases hl : xs.length = ys.length
          · have z := RcAt.lists (e := atF (eqD n) xs ys) ht.isList ht'.isList (by rw [l1, l2]; exact hl) hu0 (fun j h3 h4 => by
              obtain ⟨xd, ex⟩ : ∃ xd, xs[j]? = some xd := ⟨_, List.getElem?_eq_getElem (by rw [← l1]; exact h3)⟩
              obtain ⟨yd, ey⟩ : ∃ yd, ys[j]? = some yd := ⟨_, List.getElem?_eq_getElem (by rw [← l2]; exact h4)⟩
              obtain ⟨xv, e3, r3⟩ := q1.get ex
              obtain ⟨yv, e4, r4⟩ := q2.get ey
              obtain ⟨xu, e5, w5⟩ := v1.get e3
              obtain ⟨yu, e6, w6⟩ := v2.get e4
              have g1 : its.toArray[j] = xu := by
                have := List.getElem?_eq_some_iff.mp e5
                simpa using this.2
              have g2 : its'.toArray[j] = yu := by
                have := List.getElem?_eq_some_iff.mp e6
                simpa using this.2
              rw [g1, g2]
              exact (eqD_at I ok n A.in1 xd yd _ xv yv xu yu (by show A.units + 1 + n < cLine; omega) r3 r4 w5 w6 (eqL_at h j xd yd ex ey)).2)
            have hv := eqL_val h
            rw [hl, Nat.min_self, beq_self_eq_true, Bool.and_true] at hv
            rw [l1, hl, ← hv] at z
            exact z
          · have hv := eqL_val h
            rw [show (xs.length == ys.length) = false from beq_eq_false_iff_ne.mpr hl, Bool.and_false] at hv
            rw [hv]
            exact .lists_lengths ht.isList ht'.isList (by rw [l1, l2]; simpa using hl) hu0
        refine ⟨rc, ?_⟩
        by_cases hne : a = a'
        · subst hne
          have hb : b = true := eqD_same I ok (n + 1) (.ref a) d e b r1 r2 (by unfold eqD; exact hs)
          rw [hb]
          exact .same _
        · exact .of_refs hne rc
end

def dEq : D → D → Mu → R D := fun x y μ => R.of ((eqD 20 x y).map .bl) μ
/-- != of flat things -/
def dNe : D → D → Mu → R D := fun x y μ => match x.kd, y.kd with
  | .flat u, .flat v => if scal u v = true then .ok (.bl (!decide (u = v))) μ else .bad
  | _, _ => .bad
section
variable {X : Cx} {E : WX}
theorem opx_eq (hu : X.A.units + 64 < cLine) : OpX X E (compareOp .Eq) dEq := by
  intro pins s σ H x y v u Q I rx ry q
  obtain ⟨E', W, μ, dx, dy, ok, r1, r2, p⟩ := q
  unfold dEq at p
  revert p
  cases h : eqD 20 dx dy with
  | none => exact fun p => p.elim
  | some b =>
    intro p
    have z := (eqD_at I ok 20 X.A dx dy b x y v u (by omega) r1 r2 rx ry h).1
    exact z X.prog X.w X.xe _ ⟨.bl b, H, I, rfl, post_pure ok p (.bl b)⟩
theorem opx_ne : OpX X E (compareOp .NotEq) dNe := opx fun W H μ dx dy vx vy Q ok r1 r2 p => by
  unfold dNe at p
  split at p
  · rename_i u v h1 h2
    obtain ⟨rfl, _⟩ := kd_flat r1 h1
    obtain ⟨rfl, _⟩ := kd_flat r2 h2
    split at p
    · rename_i hs
      exact ⟨_, op_ne, hs, post_pure ok p (.bl _)⟩
    · exact p.elim
  · exact p.elim
end
end DL
/-! DL6: in, len, items, slices, built-ins, methods. -/
namespace DL
open PySem L2

/-- the items of a sequence, a cell's too -/
def seqD (μ : Mu) : D → Option (List D)
  | .lst xs => some xs
  | .tup xs => some xs
  | .hdl l => match μ[l]? with
    | some (.lst xs) => some xs
    | _ => none
  | _ => none
theorem seq_rep {K : PySem.W.Frag} {W : Wd} {H : Hp} {μ : Mu} {v : V} {d : D} {xs : List D} (ok : Ok K W H μ) (r : Rep K W v d) (h : seqD μ d = some xs) : ∃ a vs, v = .ref a ∧ Reps K W vs xs ∧ (SqL K H a vs ∨ SqT K H a vs) := by
  cases r with
  | lst z h1 r1 =>
    simp [seqD] at h
    subst h
    exact ⟨_, _, rfl, r1, .inl (same_lq ok.sub h1).sq⟩
  | tup z h1 r1 =>
    simp [seqD] at h
    subst h
    exact ⟨_, _, rfl, r1, .inr (same_t ok.sub h1)⟩
  | @hdl a l ha =>
    unfold seqD at h
    dsimp only at h
    cases hm : μ[l]? with
    | none => rw [hm] at h; cases h
    | some m =>
      rw [hm] at h
      cases m with
      | lst ys =>
        cases h
        obtain ⟨o, ho, vs, rfl, rs⟩ := ok.cell l a _ ha hm
        exact ⟨a, vs, rfl, rs, .inl (.inl (.inl ho))⟩
      | _ => cases h
  | _ => simp [seqD] at h

/-! ### in -/
def inL (e : D → Option Bool) : List D → Option Bool
  | [] => some false
  | y :: ys => match e y, inL e ys with
    | some a, some b => some (a || b)
    | _, _ => none
def inD (μ : Mu) (x y : D) : Option Bool := match y with
  | .str z => match x with
    | .str w => match w.cps.toList with
      | [c] => some (decide (c ∈ z.cps.toList))
      | _ => some (!(Builtin.Str.occurrences z w 0 z.length 1).isEmpty)
    | _ => none
  | y => match seqD μ y with
    | some ys => inL (fun d => eqD 20 d x) ys
    | none => none
def dIn : D → D → Mu → R D := fun x y μ => R.of ((inD μ x y).map .bl) μ
def dNotIn : D → D → Mu → R D := fun x y μ => R.of ((inD μ x y).map fun b => .bl (!b)) μ
theorem inL_def {e : D → Option Bool} : ∀ {ys : List D} {b : Bool}, inL e ys = some b → ∀ y ∈ ys, ∃ c, e y = some c
  | [], _, _, _, h => by cases h
  | y :: ys, b, h, z, hz => by
    unfold inL at h
    cases e1 : e y with
    | none => rw [e1] at h; cases h
    | some a =>
      cases e2 : inL e ys with
      | none => rw [e1, e2] at h; cases h
      | some c =>
        rcases List.mem_cons.mp hz with rfl | hz
        · exact ⟨a, e1⟩
        · exact inL_def e2 z hz
theorem inL_iff {e : D → Option Bool} : ∀ {ys : List D} {b : Bool}, inL e ys = some b → (b = true ↔ ∃ y ∈ ys, e y = some true)
  | [], b, h => by
    simp [inL] at h
    subst h
    simp
  | y :: ys, b, h => by
    unfold inL at h
    cases e1 : e y with
    | none => rw [e1] at h; cases h
    | some a =>
      cases e2 : inL e ys with
      | none => rw [e1, e2] at h; cases h
      | some c =>
        rw [e1, e2] at h
        cases h
        have ih := inL_iff e2
        simp [e1, ih]
def backV : Value → Option V
  | .none => some .non
  | .bool b => some (.bl b)
  | .int i _ => some (.int i)
  | .str x _ => some (.str x)
  | .bytes b _ => some (.byt b)
  | .float b _ => some (.flt b)
  | .ref a => some (.ref a)
  | .type n => some (.ty n)
  | _ => none
theorem backV_of {v : V} {p : Value} (h : RelV v p) : backV p = some v := by
  cases v with
  | non => cases h; rfl
  | bl b => cases h; rfl
  | int i => obtain ⟨t, rfl⟩ := h; rfl
  | str i => obtain ⟨t, rfl⟩ := h; rfl
  | byt i => obtain ⟨t, rfl⟩ := h; rfl
  | flt i => obtain ⟨t, rfl⟩ := h; rfl
  | ref a => cases h; rfl
  | ty n => cases h; rfl
theorem relV_inj {u v : V} {p : Value} (h : RelV u p) (h' : RelV v p) : u = v := by
  have e := backV_of h
  rw [backV_of h'] at e
  exact (Option.some.inj e).symm
theorem eqL_det {K : PySem.W.Frag} {W : Wd} {e : D → D → Option Bool} (h : ∀ v x x' y c c', Rep K W v x → Rep K W v x' → e x y = some c → e x' y = some c' → c = c') : ∀ {vs : List V} {xs xs' ys : List D} {b b' : Bool}, Reps K W vs xs → Reps K W vs xs' → eqL e xs ys = some b → eqL e xs' ys = some b' → b = b'
  | _, _, _, [], b, b', .nil, .nil, q, q' => by
    simp [eqL] at q q'
    rw [q, q']
  | _, _, _, _ :: _, b, b', .nil, .nil, q, q' => by
    simp [eqL] at q q'
    rw [q, q']
  | _, _, _, [], b, b', .cons _ _, .cons _ _, q, q' => by
    simp [eqL] at q q'
    rw [q, q']
  | _, _, _, y :: ys, b, b', .cons (d := d) (ds := ds) r1 t1, .cons (d := d') (ds := ds') r2 t2, q, q' => by
    unfold eqL at q q'
    cases e1 : e d y with
    | none => rw [e1] at q; cases q
    | some a =>
      cases e2 : eqL e ds ys with
      | none => rw [e1, e2] at q; cases q
      | some c =>
        cases e3 : e d' y with
        | none => rw [e3] at q'; cases q'
        | some a' =>
          cases e4 : eqL e ds' ys with
          | none => rw [e3, e4] at q'; cases q'
          | some c' =>
            rw [e1, e2] at q
            rw [e3, e4] at q'
            cases q
            cases q'
            rw [h _ d d' y a a' r1 r2 e1 e3, eqL_det h t1 t2 e2 e4]
section
variable {X : Cx} {pins : List (Addr × Obj)} {σ : St} {H : Hp} {s : Shared} {W : Wd} {μ : Mu} {E : WX}
theorem eqD_det (I : Inv X pins σ H s) (ok : Ok X.K W H μ) : ∀ (n : Nat) (v : V) (d d' e : D) (b b' : Bool), Rep X.K W v d → Rep X.K W v d' → eqD n d e = some b → eqD n d' e = some b' → b = b'
  | 0, _, _, _, _, _, _, _, _, h, _ => by simp [eqD] at h
  | n + 1, v, d, d', e, b, b', r1, r2, h, h' => by
    have again : ∀ v x x' y c c', Rep X.K W v x → Rep X.K W v x' → eqD n x y = some c → eqD n x' y = some c' → c = c' := fun v x x' y c c' a1 a2 a3 a4 => eqD_det I ok n v x x' y c c' a1 a2 a3 a4
    unfold eqD at h h'
    cases k1 : d.kd with
    | none => rw [k1] at h; cases h
    | flat u1 =>
      obtain ⟨rfl, f1⟩ := kd_flat r1 k1
      have k2 : d'.kd = .flat v := by
        cases k2 : d'.kd with
        | none => rw [k2] at h'; cases h'
        | flat u2 => obtain ⟨rfl, _⟩ := kd_flat r2 k2; rfl
        | tup ys => obtain ⟨a, vs, rfl, _⟩ := kd_tup r2 k2; simp [flatV] at f1
        | lst ys => obtain ⟨a, vs, rfl, _⟩ := kd_lst r2 k2; simp [flatV] at f1
      rw [k1] at h
      rw [k2] at h'
      rw [h] at h'
      exact Option.some.inj h'
    | tup xs =>
      obtain ⟨a, vs, rfl, h1, q1⟩ := kd_tup r1 k1
      cases k2 : d'.kd with
      | none => rw [k2] at h'; cases h'
      | flat u2 => obtain ⟨rfl, f⟩ := kd_flat r2 k2; simp [flatV] at f
      | lst ys =>
        obtain ⟨a', us, e', h2, q2⟩ := kd_lst r2 k2
        cases e'
        obtain ⟨its, _, ⟨o, e1, c1, _⟩, _⟩ := I.tuple (same_t ok.sub h1)
        obtain ⟨its', _, ⟨o', n', e2, c2, _⟩, _⟩ := I.list (same_lq ok.sub h2).sq
        rw [e1] at e2
        cases e2
        rw [c1] at c2
        exact absurd c2 (by decide)
      | tup ys =>
        obtain ⟨a', us, e', h2, q2⟩ := kd_tup r2 k2
        cases e'
        have ev := I.tuple_inj (same_t ok.sub h1) (same_t ok.sub h2)
        subst ev
        rw [k1] at h
        rw [k2] at h'
        cases k3 : e.kd with
        | none => rw [k3] at h; cases h
        | flat u3 => rw [k3] at h h'; rw [← Option.some.inj h, ← Option.some.inj h']
        | lst zs => rw [k3] at h h'; rw [← Option.some.inj h, ← Option.some.inj h']
        | tup zs => rw [k3] at h h'; exact eqL_det again q1 q2 h h'
    | lst xs =>
      obtain ⟨a, vs, rfl, h1, q1⟩ := kd_lst r1 k1
      cases k2 : d'.kd with
      | none => rw [k2] at h'; cases h'
      | flat u2 => obtain ⟨rfl, f⟩ := kd_flat r2 k2; simp [flatV] at f
      | tup ys =>
        obtain ⟨a', us, e', h2, q2⟩ := kd_tup r2 k2
        cases e'
        obtain ⟨its, _, ⟨o, e1, c1, _⟩, _⟩ := I.tuple (same_t ok.sub h2)
        obtain ⟨its', _, ⟨o', n', e2, c2, _⟩, _⟩ := I.list (same_lq ok.sub h1).sq
        rw [e1] at e2
        cases e2
        rw [c1] at c2
        exact absurd c2 (by decide)
      | lst ys =>
        obtain ⟨a', us, e', h2, q2⟩ := kd_lst r2 k2
        cases e'
        have ev := I.list_inj (same_lq ok.sub h1).sq (same_lq ok.sub h2).sq
        subst ev
        rw [k1] at h
        rw [k2] at h'
        cases k3 : e.kd with
        | none => rw [k3] at h; cases h
        | flat u3 => rw [k3] at h h'; rw [← Option.some.inj h, ← Option.some.inj h']
        | tup zs => rw [k3] at h h'; rw [← Option.some.inj h, ← Option.some.inj h']
        | lst zs => rw [k3] at h h'; exact eqL_det again q1 q2 h h'
open Classical in
/-- each item's answer, by the item's own value -/
theorem in_items (I : Inv X pins σ H s) (ok : Ok X.K W H μ) {A : Around} (hu : A.units + 20 < cLine) {x : D} {vx : V} {ux : Value} (rx : Rep X.K W vx x) (wx : RelV vx ux) {ys : List D} {vs : List V} {us : List Value} {b : Bool} (rs : Reps X.K W vs ys) (ws : Vals vs us) (h : inL (fun d => eqD 20 d x) ys = some b) :
    ∃ e : Value → Bool, (∀ u, u ∈ us → SeqAt.EqAt A s u ux (e u)) ∧ us.any e = b := by
  have tri : ∀ (i : Nat) u, us[i]? = some u → ∃ v y c, vs[i]? = some v ∧ ys[i]? = some y ∧ RelV v u ∧ Rep X.K W v y ∧ eqD 20 y x = some c := fun i u hi => by
    have hl : i < vs.length := by rw [ws.length]; exact (List.getElem?_eq_some_iff.mp hi).1
    have hv : vs[i]? = some vs[i] := List.getElem?_eq_getElem hl
    obtain ⟨u', e1, w1⟩ := ws.get hv
    rw [hi] at e1
    cases e1
    obtain ⟨y, e2, r2⟩ := rs.getV hv
    obtain ⟨c, hc⟩ := inL_def h y (List.mem_of_getElem? e2)
    exact ⟨_, y, c, hv, e2, w1, r2, hc⟩
  let e : Value → Bool := fun u => decide (∃ (i : Nat) (y : D), us[i]? = some u ∧ ys[i]? = some y ∧ eqD 20 y x = some true)
  have val : ∀ (i : Nat) u y c, us[i]? = some u → ys[i]? = some y → eqD 20 y x = some c → e u = c := fun i u y c h1 h2 h3 => by
    cases c with
    | true => exact decide_eq_true ⟨i, y, h1, h2, h3⟩
    | false =>
      refine decide_eq_false fun ⟨j, y', h4, h5, h6⟩ => ?_
      obtain ⟨v, y1, c1, hv, hy, w, r, hc⟩ := tri i u h1
      rw [h2] at hy
      cases hy
      obtain ⟨v', y2, c2, hv', hy', w', r', hc'⟩ := tri j u h4
      rw [h5] at hy'
      cases hy'
      have ev := relV_inj w w'
      subst ev
      exact absurd (eqD_det I ok 20 v y y' x false true r r' h3 h6) (by decide)
  refine ⟨e, fun u hm => ?_, ?_⟩
  · obtain ⟨i, hi, eu⟩ := List.mem_iff_getElem.mp hm
    have hi' : us[i]? = some u := by rw [List.getElem?_eq_getElem hi, eu]
    obtain ⟨v, y, c, hv, hy, w, r, hc⟩ := tri i u hi'
    rw [val i u y c hi' hy hc]
    exact (eqD_at I ok 20 A y x c v vx u ux hu r rx w wx hc).2
  · have hb := inL_iff h
    cases b with
    | true =>
      obtain ⟨y, hy, hc⟩ := hb.mp rfl
      obtain ⟨i, hi, ey⟩ := List.mem_iff_getElem.mp hy
      have hl : i < us.length := by rw [← ws.length, rs.length]; exact hi
      rw [List.any_eq_true]
      exact ⟨us[i], List.getElem_mem hl, val i us[i] y true (List.getElem?_eq_getElem hl) (by rw [List.getElem?_eq_getElem hi, ey]) hc⟩
    | false =>
      rw [List.any_eq_false]
      intro u hm q
      have q : e u = true := q
      obtain ⟨i, y, h1, h2, h3⟩ := of_decide_eq_true q
      exact absurd (hb.mpr ⟨y, List.mem_of_getElem? h2, h3⟩) (by decide)
theorem opx_in (hu : X.A.units + 64 < cLine) : OpX X E (compareOp .In) dIn := by
  intro pins s σ H x y v u Q I rx ry q
  obtain ⟨E', W, μ, dx, dy, ok, r1, r2, p⟩ := q
  unfold dIn at p
  revert p
  cases h : inD μ dx dy with
  | none => exact fun p => p.elim
  | some b =>
    intro p
    have fin : EP X pins σ Q (.bool b) s := ⟨.bl b, H, I, rfl, post_pure ok p (.bl b)⟩
    have seqs : ∀ ys, seqD μ dy = some ys → inL (fun d => eqD 20 d dx) ys = some b → wpAny (model X.prog X.w) X.A (compareOp .In v u) (EP X pins σ Q) X.xe s := fun ys e1 e2 => by
      obtain ⟨a, vs, rfl, rs, sq⟩ := seq_rep ok r2 e1
      cases ry
      rcases sq with sq | sq
      · obtain ⟨its, rv, pl, _⟩ := I.list sq
        obtain ⟨e, he, hb⟩ := in_items I ok (A := X.A.in1) (by show X.A.units + 1 + 20 < cLine; omega) r1 rx rs rv e2
        refine SeqAt.in_listAt e pl.isList (fun w hw => he w (by simpa using hw)) ?_
        have : its.toArray.any e = its.any e := by simp
        rw [this, hb]
        exact fin
      · obtain ⟨its, rv, pl, _⟩ := I.tuple sq
        obtain ⟨e, he, hb⟩ := in_items I ok (A := X.A.in1) (by show X.A.units + 1 + 20 < cLine; omega) r1 rx rs rv e2
        refine SeqAt.in_tupleAt e (show s.heap.IsTuple a its.toArray from pl) (fun w hw => he w (by simpa using hw)) ?_
        have : its.toArray.any e = its.any e := by simp
        rw [this, hb]
        exact fin
    cases r2 with
    | str z hz =>
      unfold inD at h
      cases r1 with
      | str w hw =>
        dsimp only at h
        split at h
        · rename_i c hc
          cases h
          have ew : w = ⟨#[c]⟩ := by
            obtain ⟨l⟩ := w
            congr 1
            exact Array.toList_inj.mp (by simpa using hc)
          subst ew
          exact op_in_sign pins s σ H _ _ v u Q I rx ry ⟨c, z, rfl, rfl, post_pure ok p (.bl _)⟩
        · cases h
          exact op_in_str pins s σ H _ _ v u Q I rx ry ⟨w, z, rfl, rfl, post_pure ok p (.bl _)⟩
      | _ => cases h
    | lst z1 h1 q1 => exact seqs _ rfl (by simpa [inD, seqD] using h)
    | tup z1 h1 q1 => exact seqs _ rfl (by simpa [inD, seqD] using h)
    | @hdl a l ha =>
      unfold inD at h
      dsimp only at h
      cases hs : seqD μ (.hdl l) with
      | none => rw [hs] at h; cases h
      | some ys => rw [hs] at h; exact seqs ys hs h
    | _ => simp [inD, seqD] at h
theorem opx_notin (hu : X.A.units + 64 < cLine) : OpX X E (compareOp .NotIn) dNotIn := by
  intro pins s σ H x y v u Q I rx ry q
  obtain ⟨E', W, μ, dx, dy, ok, r1, r2, p⟩ := q
  unfold dNotIn at p
  revert p
  cases h : inD μ dx dy with
  | none => exact fun p => p.elim
  | some b =>
    intro p
    have fin : EP X pins σ Q (.bool (!b)) s := ⟨.bl (!b), H, I, rfl, post_pure ok p (.bl _)⟩
    have seqs : ∀ ys, seqD μ dy = some ys → inL (fun d => eqD 20 d dx) ys = some b → wpAny (model X.prog X.w) X.A (compareOp .NotIn v u) (EP X pins σ Q) X.xe s := fun ys e1 e2 => by
      obtain ⟨a, vs, rfl, rs, sq⟩ := seq_rep ok r2 e1
      cases ry
      rcases sq with sq | sq
      · obtain ⟨its, rv, pl, _⟩ := I.list sq
        obtain ⟨e, he, hb⟩ := in_items I ok (A := X.A.in1) (by show X.A.units + 1 + 20 < cLine; omega) r1 rx rs rv e2
        refine SeqAt.notIn_listAt e pl.isList (fun w hw => he w (by simpa using hw)) ?_
        have : its.toArray.any e = its.any e := by simp
        rw [this, hb]
        exact fin
      · obtain ⟨its, rv, pl, _⟩ := I.tuple sq
        obtain ⟨e, he, hb⟩ := in_items I ok (A := X.A.in1) (by show X.A.units + 1 + 20 < cLine; omega) r1 rx rs rv e2
        refine SeqAt.notIn_tupleAt e (show s.heap.IsTuple a its.toArray from pl) (fun w hw => he w (by simpa using hw)) ?_
        have : its.toArray.any e = its.any e := by simp
        rw [this, hb]
        exact fin
    cases r2 with
    | str z hz =>
      unfold inD at h
      cases r1 with
      | str w hw =>
        dsimp only at h
        split at h
        · rename_i c hc
          cases h
          have ew : w = ⟨#[c]⟩ := by
            obtain ⟨l⟩ := w
            congr 1
            exact Array.toList_inj.mp (by simpa using hc)
          subst ew
          exact op_notIn_sign pins s σ H _ _ v u Q I rx ry ⟨c, z, rfl, rfl, post_pure ok p (.bl _)⟩
        · cases h
          exact op_notIn_str pins s σ H _ _ v u Q I rx ry ⟨w, z, rfl, rfl, post_pure ok p (.bl _)⟩
      | _ => cases h
    | lst z1 h1 q1 => exact seqs _ rfl (by simpa [inD, seqD] using h)
    | tup z1 h1 q1 => exact seqs _ rfl (by simpa [inD, seqD] using h)
    | @hdl a l ha =>
      unfold inD at h
      dsimp only at h
      cases hs : seqD μ (.hdl l) with
      | none => rw [hs] at h; cases h
      | some ys => rw [hs] at h; exact seqs ys hs h
    | _ => simp [inD, seqD] at h
end
end DL
/-! DL7: built-in calls, items, slices, methods, calls with keywords. -/
namespace DL
open PySem L2

/-! ### calls of built-ins -/
def rC (K : PySem.W.Frag) (E : WX) (g : List D → Mu → R D) : List V → Hp → VK → Prop := fun xs H Q => ∃ (E' : XK) (W : Wd) (μ : Mu) (ds : List D), Ok K W H μ ∧ Reps K W xs ds ∧ postE K E' W H (g ds μ) Q
abbrev CallX (X : Cx) (E : WX) (f : Value) (g : List D → Mu → R D) : Prop := CallR X f (rC X.K E g)
theorem callx {X : Cx} {E : WX} {f : Value} {g : List D → Mu → R D} (h : ∀ {E' : XK} W H μ ds xs Q, Ok X.K W H μ → Reps X.K W xs ds → postE X.K E' W H (g ds μ) Q → ∃ r, CallR X f r ∧ r xs H Q) : CallX X E f g := by
  intro pins s σ H xs us Q I rx q
  obtain ⟨_, W, μ, ds, ok, r1, p⟩ := q
  obtain ⟨r, o, z⟩ := h W H μ ds xs Q ok r1 p
  exact o pins s σ H xs us Q I rx z
def dcallB (g : List D → Mu → R D) (fa : FA) : FE := fun ρ μ => (fa ρ μ).bind fun ds μ1 => g ds μ1
section
variable {X : Cx} {E : WX} {x : Str} {p pos : Pos} {e : Expr} {es : List Expr} {fa : FA} {g : List D → Mu → R D}
theorem tCB_of : ∀ σ H Q, rE X.K E (dcallB g fa) σ H Q → tCB (rC X.K E g) (rA X.K E fa) σ H Q := fun σ H Q ⟨W, ρ, μ, ok, en, p⟩ =>
  seqA p ok en fun ds μ1 W1 xs H1 g1 o1 en1 r p1 => ⟨_, W1, μ1, ds, o1, r, p1⟩
theorem de_callB {id : String} (hc : CallX X E (.builtin id) g) (hm : X.mg x = none) (ha : DA X E (e :: es) fa) (hg : Gl X x := by rfl) (hv : bootBuiltins x = some (.builtin id) := by decide +kernel) (hn : x ≠ "__name__" := by decide) (hdb : (x == ("__debug__" : Str)) = false := by decide)
    (he : starEach (e :: es) X.env = (false, eval e X.env) :: starEach es X.env := by rfl) (hpl : (backTo pos (starEach es X.env)).any (·.1) = false := by rfl) : DE X E (.Call (.Name x p) (e :: es) [] pos) (dcallB g fa) :=
  pe_imp (pe_callB hc hg hm hv ha hn hdb he hpl) tCB_of
theorem de_callTy {T : String} (hc : CallX X E (.type T) g) (hm : X.mg x = none) (ha : DA X E (e :: es) fa) (hg : Gl X x := by rfl) (hv : bootBuiltins x = some (.type T) := by decide +kernel) (hn : x ≠ "__name__" := by decide) (hdb : (x == ("__debug__" : Str)) = false := by decide)
    (he : starEach (e :: es) X.env = (false, eval e X.env) :: starEach es X.env := by rfl) (hpl : (backTo pos (starEach es X.env)).any (·.1) = false := by rfl) : DE X E (.Call (.Name x p) (e :: es) [] pos) (dcallB g fa) :=
  pe_imp (pe_callTy hc hg hm hv ha hn hdb he hpl) tCB_of
end
def lenD (μ : Mu) : D → Option Nat
  | .str x => some x.length
  | d => (seqD μ d).map (·.length)
def bLen : List D → Mu → R D
  | [d], μ => match lenD μ d with
    | some n => .ok (.int n) μ
    | none => .bad
  | _, _ => .bad
def bAbs : List D → Mu → R D
  | [.int i], μ => .ok (.int (if i < 0 then -i else i)) μ
  | _, _ => .bad
def bMax : List D → Mu → R D
  | [.int i, .int j], μ => .ok (.int (if j > i then j else i)) μ
  | _, _ => .bad
def bMin : List D → Mu → R D
  | [.int i, .int j], μ => .ok (.int (if j < i then j else i)) μ
  | _, _ => .bad
def bInt : List D → Mu → R D
  | [.int i], μ => .ok (.int i) μ
  | [.bl b], μ => .ok (.int (if b then 1 else 0)) μ
  | _, _ => .bad
def bools : List D → Option (List Bool)
  | [] => some []
  | .bl b :: ds => (bools ds).map (b :: ·)
  | _ => none
def bAll : List D → Mu → R D
  | [.lst ds], μ => match bools ds with
    | some bs => .ok (.bl (bs.all id)) μ
    | none => .bad
  | _, _ => .bad
def bAny : List D → Mu → R D
  | [.lst ds], μ => match bools ds with
    | some bs => .ok (.bl (bs.any id)) μ
    | none => .bad
  | _, _ => .bad
theorem bools_rep {K : PySem.W.Frag} {W : Wd} : ∀ {vs : List V} {ds : List D} {bs : List Bool}, Reps K W vs ds → bools ds = some bs → vs = bs.map V.bl
  | _, _, _, .nil, h => by
    simp [bools] at h
    subst h
    rfl
  | _, _, bs, .cons (d := d) (ds := ds) r rs, h => by
    cases d with
    | bl b =>
      cases r
      unfold bools at h
      cases e : bools ds with
      | none => rw [e] at h; cases h
      | some cs =>
        rw [e] at h
        cases h
        rw [bools_rep rs e]
        rfl
    | _ => simp [bools] at h
section
variable {X : Cx} {E : WX}
theorem cx_len : CallX X E (.builtin "len") bLen := callx fun W H μ ds xs Q ok r p => by
  unfold bLen at p
  split at p
  · rename_i d
    cases r with
    | cons r1 r2 =>
      cases r2
      split at p
      · rename_i n hn
        refine ⟨_, call_len, _, n, rfl, ?_, post_pure ok p (.int _)⟩
        cases r1 with
        | str x z =>
          simp [lenD] at hn
          exact ⟨z, hn.symm⟩
        | lst z h q =>
          simp [lenD, seqD] at hn
          exact .inl ⟨_, (same_lq ok.sub h).sq, by rw [← hn, q.length]⟩
        | tup z h q =>
          simp [lenD, seqD] at hn
          exact .inr ⟨_, same_t ok.sub h, by rw [← hn, q.length]⟩
        | @hdl a l ha =>
          unfold lenD at hn
          dsimp only at hn
          cases hs : seqD μ (.hdl l) with
          | none => rw [hs] at hn; cases hn
          | some ys =>
            rw [hs] at hn
            cases hn
            obtain ⟨a', vs, e, rs, sq⟩ := seq_rep ok (.hdl ha) hs
            cases e
            rcases sq with sq | sq
            · exact .inl ⟨vs, sq, by rw [rs.length]⟩
            · exact .inr ⟨vs, sq, by rw [rs.length]⟩
        | _ => simp [lenD, seqD] at hn
      · exact p.elim
  · exact p.elim
theorem cx_abs : CallX X E (.builtin "abs") bAbs := callx fun W H μ ds xs Q ok r p => by
  unfold bAbs at p
  split at p
  · cases r with
    | cons r1 r2 =>
      cases r2
      cases r1
      exact ⟨_, call_abs, _, rfl, post_pure ok p (.int _)⟩
  · exact p.elim
theorem cx_max (hc : X.calm = true) : CallX X E (.builtin "max") bMax := callx fun W H μ ds xs Q ok r p => by
  unfold bMax at p
  split at p
  · cases r with
    | cons r1 r2 =>
      cases r2 with
      | cons r2 r3 =>
        cases r3
        cases r1
        cases r2
        exact ⟨_, call_max2 hc, _, _, rfl, post_pure ok p (.int _)⟩
  · exact p.elim
theorem cx_min (hc : X.calm = true) : CallX X E (.builtin "min") bMin := callx fun W H μ ds xs Q ok r p => by
  unfold bMin at p
  split at p
  · cases r with
    | cons r1 r2 =>
      cases r2 with
      | cons r2 r3 =>
        cases r3
        cases r1
        cases r2
        exact ⟨_, call_min2 hc, _, _, rfl, post_pure ok p (.int _)⟩
  · exact p.elim
theorem cx_int : CallX X E (.type "int") bInt := callx fun W H μ ds xs Q ok r p => by
  unfold bInt at p
  split at p
  · cases r with
    | cons r1 r2 =>
      cases r2
      cases r1
      exact ⟨_, call_int1, .inl ⟨_, rfl, post_pure ok p (.int _)⟩⟩
  · cases r with
    | cons r1 r2 =>
      cases r2
      cases r1
      exact ⟨_, call_int1, .inr ⟨_, rfl, post_pure ok p (.int _)⟩⟩
  · exact p.elim
theorem cx_all (hc : X.calm = true) : CallX X E (.builtin "all") bAll := callx fun W H μ ds xs Q ok r p => by
  unfold bAll at p
  split at p
  · cases r with
    | cons r1 r2 =>
      cases r2
      split at p
      · rename_i bs hb
        cases r1 with
        | lst z h q =>
          have e := bools_rep q hb
          subst e
          exact ⟨_, cr_all hc, _, bs, rfl, (same_lq ok.sub h).sq, post_pure ok p (.bl _)⟩
      · exact p.elim
  · exact p.elim
theorem cx_any (hc : X.calm = true) : CallX X E (.builtin "any") bAny := callx fun W H μ ds xs Q ok r p => by
  unfold bAny at p
  split at p
  · cases r with
    | cons r1 r2 =>
      cases r2
      split at p
      · rename_i bs hb
        cases r1 with
        | lst z h q =>
          have e := bools_rep q hb
          subst e
          exact ⟨_, cr_any hc, _, bs, rfl, (same_lq ok.sub h).sq, post_pure ok p (.bl _)⟩
      · exact p.elim
  · exact p.elim
end

/-! ### repr -/
mutual
def D.py : D → Option PyData
  | .non => some .none
  | .bl b => some (.bool b)
  | .int i => some (.int i)
  | .str x => some (.str x)
  | .tup xs => (D.pys xs).map .tuple
  | .lst xs => (D.pys xs).map .list
  | _ => none
def D.pys : List D → Option (List PyData)
  | [] => some []
  | x :: xs => match x.py, D.pys xs with
    | some p, some ps => some (p :: ps)
    | _, _ => none
end
mutual
theorem py_dp {K : PySem.W.Frag} {W : Wd} {H : Hp} {μ : Mu} (ok : Ok K W H μ) : ∀ {v : V} {d : D} {q : PyData}, Rep K W v d → d.py = some q → Dp K H v q
  | _, _, q, .non, h => by
    simp [D.py] at h
    subst h
    exact .non
  | _, _, q, .bl b, h => by
    simp [D.py] at h
    subst h
    exact .bl b
  | _, _, q, .int i, h => by
    simp [D.py] at h
    subst h
    exact .int i
  | _, _, q, .str x z, h => by
    simp [D.py] at h
    subst h
    exact .str x
  | _, _, q, .tup (ds := ds) z h1 r, h => by
    unfold D.py at h
    cases e : D.pys ds with
    | none => rw [e] at h; cases h
    | some ps =>
      rw [e] at h
      cases h
      exact .tup (same_t ok.sub h1) (pys_dp ok r e)
  | _, _, q, .lst (ds := ds) z h1 r, h => by
    unfold D.py at h
    cases e : D.pys ds with
    | none => rw [e] at h; cases h
    | some ps =>
      rw [e] at h
      cases h
      exact .lst ((same_lq ok.sub h1).sq) (pys_dp ok r e)
  | _, _, q, .hdl _, h => by simp [D.py] at h
  | _, _, q, .cst _, h => by simp [D.py] at h
  | _, _, q, .glo _, h => by simp [D.py] at h
  | _, _, q, .obj _ _ _, h => by simp [D.py] at h
  | _, _, q, .exc _ _, h => by simp [D.py] at h
theorem pys_dp {K : PySem.W.Frag} {W : Wd} {H : Hp} {μ : Mu} (ok : Ok K W H μ) : ∀ {vs : List V} {ds : List D} {qs : List PyData}, Reps K W vs ds → D.pys ds = some qs → DpAll K H vs qs
  | _, _, qs, .nil, h => by
    simp [D.pys] at h
    subst h
    exact .nil
  | _, _, qs, .cons (d := d) (ds := ds) r rs, h => by
    unfold D.pys at h
    cases e1 : d.py with
    | none => rw [e1] at h; cases h
    | some p =>
      cases e2 : D.pys ds with
      | none => rw [e1, e2] at h; cases h
      | some ps =>
        rw [e1, e2] at h
        cases h
        exact .cons (py_dp ok r e1) (pys_dp ok rs e2)
end
/-- the text of a thing, where it is short enough -/
def reprD (d : D) : Option Str := match d.py with
  | some p => if p.showable = true ∧ p.hasDict = false ∧ p.depth ≤ 40 ∧ p.shown.length ≤ 1000000 then some p.shown else none
  | none => none
def bRepr : List D → Mu → R D
  | [d], μ => R.of ((reprD d).map .str) μ
  | _, _ => .bad
theorem cx_repr {X : Cx} {E : WX} (hg : X.A.guards = some []) (hu : X.A.units + 64 < cLine) : CallX X E (.builtin "repr") bRepr := by
  intro pins s σ H xs us Q I rx q
  obtain ⟨_, W, μ, ds, ok, r1, p⟩ := q
  unfold bRepr at p
  split at p
  · rename_i d
    revert p
    unfold reprD
    cases hp : d.py with
    | none => exact fun p => p.elim
    | some q =>
      dsimp only
      by_cases hc : q.showable = true ∧ q.hasDict = false ∧ q.depth ≤ 40 ∧ q.shown.length ≤ 1000000
      · rw [if_pos hc]
        intro p
        obtain ⟨c1, c2, c3, c4⟩ := hc
        cases r1 with
        | cons r1 r2 =>
          cases r2
          cases rx with
          | cons w1 w2 =>
            cases w2
            rename_i v u
            have fin : ∀ h' tk tk', (∀ b o, s.heap.get? b = some o → h'.get? b = some o) → EP X pins σ Q (.str q.shown tk) { s with heap := h', toks := tk' } := fun h' tk tk' hk => ⟨.str q.shown, H, I.kept hk, ⟨_, rfl⟩, post_pure ok p (.str _ (le_line c4))⟩
            have dp := py_dp ok r1 hp
            obtain ⟨as, rd⟩ := Dp.reads I q v u dp w1
            cases v with
            | ref a =>
              cases w1
              exact repr_of_reads' rd c1 (PyData.noDict_hsm c2) hg (by omega) (fun _ _ e => e) (fun h' tk tk' hk => fin h' tk tk' hk) (le_line c4)
            | non =>
              cases w1
              cases dp
              exact PySem.P.repr_of_none (fin _ _ _ fun _ _ e => e)
            | bl b =>
              cases w1
              cases dp
              exact PySem.P.repr_of_bool (fin _ _ _ fun _ _ e => e)
            | int i =>
              obtain ⟨t, rfl⟩ := w1
              cases dp
              exact PySem.P.repr_of_int (by simpa [PyData.showable] using c1) (fin _ _ _ fun _ _ e => e)
            | str x =>
              obtain ⟨t, rfl⟩ := w1
              cases dp
              exact PySem.P.repr_of_str (fin _ _ _ fun _ _ e => e) (le_line c4)
            | _ => cases dp
      · rw [if_neg hc]
        exact fun p => p.elim
  · exact p.elim

/-! ### items and slices -/
def ixD (μ : Mu) (x i : D) : Option D := match i with
  | .int k => match x with
    | .str z => (atI z.cps.toList k).map fun c => .str ⟨#[c]⟩
    | x => (seqD μ x).bind fun xs => atI xs k
  | _ => none
def dIx : D → D → Mu → R D := fun x i μ => R.of (ixD μ x i) μ
theorem Reps.atI {K : PySem.W.Frag} {W : Wd} {vs : List V} {ds : List D} {i : Int} {d : D} (r : Reps K W vs ds) (h : atI ds i = some d) : ∃ v, L2.atI vs i = some v ∧ Rep K W v d := by
  unfold L2.atI at h ⊢
  rw [r.length]
  cases e : ixN ds.length i with
  | none => rw [e] at h; cases h
  | some j =>
    rw [e] at h
    exact r.get h
section
variable {X : Cx} {E : WX}
theorem ixx {g : D → D → Mu → R D} (h : ∀ {E' : XK} W H μ dx dy vx vy Q, Ok X.K W H μ → Rep X.K W vx dx → Rep X.K W vy dy → postE X.K E' W H (g dx dy μ) Q → ∃ r, IxR X r ∧ r vx vy H Q) : IxR X (rD X.K E g) := by
  intro value slice pins s σ H x y v u Q I rx ry q hs
  obtain ⟨E', W, μ, dx, dy, ok, r1, r2, p⟩ := q
  obtain ⟨r, o, z⟩ := h W H μ dx dy x y Q ok r1 r2 p
  exact o value slice pins s σ H x y v u Q I rx ry z hs
theorem ixx_all : IxR X (rD X.K E dIx) := ixx fun W H μ dx dy vx vy Q ok r1 r2 p => by
  unfold dIx at p
  revert p
  cases h : ixD μ dx dy with
  | none => exact fun p => p.elim
  | some d =>
    intro p
    unfold ixD at h
    cases r2 with
    | int k =>
      dsimp only at h
      have go : ∀ ys, seqD μ dx = some ys → L2.atI ys k = some d → ∃ r, IxR X r ∧ r vx (.int k) H Q := fun ys e1 e2 => by
        obtain ⟨a, vs, rfl, rs, sq⟩ := seq_rep ok r1 e1
        obtain ⟨v, e3, r3⟩ := rs.atI e2
        rcases sq with sq | sq
        · exact ⟨_, ix_list, _, _, _, v, rfl, rfl, sq, e3, post_pure ok p r3⟩
        · exact ⟨_, ix_tup, _, _, _, v, rfl, rfl, sq, e3, post_pure ok p r3⟩
      cases r1 with
      | str z hz =>
        dsimp only at h
        cases e : L2.atI z.cps.toList k with
        | none => rw [e] at h; cases h
        | some c =>
          rw [e] at h
          cases h
          exact ⟨_, ix_str, z, k, c, rfl, rfl, hz, e, post_pure ok p (.str _ (by show 1 ≤ sizeLine; decide))⟩
      | lst z h1 q1 => exact go _ rfl (by simpa [seqD] using h)
      | tup z h1 q1 => exact go _ rfl (by simpa [seqD] using h)
      | @hdl a l ha =>
        dsimp only at h
        cases hs : seqD μ (.hdl l) with
        | none => rw [hs] at h; cases h
        | some ys => rw [hs] at h; exact go ys hs h
      | _ => simp [seqD] at h
    | _ => simp at h
theorem de_ix {a b : Expr} {fa fb : FE} {pos : Pos} (ha : DE X E a fa) (hb : DE X E b fb) (hs : PlainIx b := by exact fun _ _ => rfl) : DE X E (.Subscript a b pos) (dbin dIx fa fb) := pe_imp (pe_ix ixx_all ha hb hs) (tOp_of opd_D)
/-- a part of a slice -/
abbrev FO := En → Mu → R (Option Int)
def postO (K : PySem.W.Frag) (E : XK) (W : Wd) (H : Hp) (r : R (Option Int)) (Q : Option Int → Hp → Prop) : Prop := match r with
  | .ok o μ => ∀ W' H', Go W H W' H' → Ok K W' H' μ → Q o H'
  | .ex c fs μ => ∀ W' H' d, Go W H W' H' → Ok K W' H' μ → ExcIs K W' H' fs d → E (.ref (cl K c)) d H'
  | .bad => False
def rO (K : PySem.W.Frag) (E : WX) (f : FO) : TO := fun σ H Q => ∃ W ρ μ, Ok K W H μ ∧ Envs K W σ ρ ∧ postO K (WE E σ) W H (f ρ μ) Q
abbrev DO (X : Cx) (E : WX) (e : Option Expr) (f : FO) : Prop := PO X e (rO X.K E f)
theorem po_imp {e : Option Expr} {t t' : TO} (h : PO X e t) (i : ∀ σ H Q, t' σ H Q → t σ H Q) : PO X e t' := ⟨fun pins s σ H Q I q => h.run pins s σ H Q I (i σ H Q q)⟩
def onone : FO := fun _ μ => .ok none μ
def osome (f : FE) : FO := fun ρ μ => (f ρ μ).bind fun d μ1 => match d with
  | .int i => .ok (some i) μ1
  | _ => .bad
theorem do_none : DO X E none onone := po_imp po_none fun σ H Q ⟨W, ρ, μ, ok, en, p⟩ => p W H (Go.refl _ _) ok
theorem do_some {e : Expr} {f : FE} (h : DE X E e f) : DO X E (some e) (osome f) := po_imp (po_some h) fun σ H Q ⟨W, ρ, μ, ok, en, p⟩ => by
  refine ⟨W, ρ, μ, ok, en, ?_⟩
  unfold osome at p
  revert p
  cases f ρ μ with
  | ok d μ1 =>
    rw [R.bind_ok]
    cases d with
    | int i =>
      intro p W1 v H1 g1 o1 r1
      cases r1
      exact ⟨i, rfl, p W1 H1 g1 o1⟩
    | _ => exact fun p => p.elim
  | ex c fs μ1 => exact fun p => p
  | bad => exact fun p => p
def cutD (xs : List D) (lo hi : Option Int) : List D := (xs.drop (HT.sIx xs.length 0 lo)).take (HT.sIx xs.length xs.length hi - HT.sIx xs.length 0 lo)
theorem Reps.cutV {K : PySem.W.Frag} {W : Wd} {vs : List V} {ds : List D} (r : Reps K W vs ds) (lo hi : Option Int) : Reps K W (L2.cutV vs lo hi) (cutD ds lo hi) := by
  unfold L2.cutV cutD
  rw [r.length]
  exact (r.drop _).take _
theorem cutD_len (xs : List D) (lo hi : Option Int) : (cutD xs lo hi).length ≤ xs.length := by
  unfold cutD
  rw [List.length_take, List.length_drop]
  omega
def slD (x : D) (lo hi : Option Int) : Option D := match x with
  | .lst xs => some (.lst (cutD xs lo hi))
  | .tup xs => some (.tup (cutD xs lo hi))
  | .str z => some (.str (cutS z lo hi))
  | _ => none
def dsl (fe : FE) (fl fh : FO) : FE := fun ρ μ => (fe ρ μ).bind fun x μ1 => (fl ρ μ1).bind fun lo μ2 => (fh ρ μ2).bind fun hi μ3 => R.of (slD x lo hi) μ3
def rSl (K : PySem.W.Frag) (E : WX) : V → Option Int → Option Int → Hp → VK → Prop := fun x lo hi H Q => ∃ (E' : XK) (W : Wd) (μ : Mu) (dx : D), Ok K W H μ ∧ Rep K W x dx ∧ postE K E' W H (R.of (slD dx lo hi) μ) Q
theorem slr {r : V → Option Int → Option Int → Hp → VK → Prop} (h : ∀ x lo hi H Q, r x lo hi H Q → ∃ r', SlR X r' ∧ r' x lo hi H Q) : SlR X r := by
  intro pins s σ H x v vl vu lo hi sl Q I rx hs pl pu q
  obtain ⟨r', o, z⟩ := h x lo hi H Q q
  exact o pins s σ H x v vl vu lo hi sl Q I rx hs pl pu z
theorem cutS_len (z : Str) (lo hi : Option Int) : (cutS z lo hi).length ≤ z.length := by
  show (((z.cps.toList.drop _).take _).toArray).size ≤ z.cps.size
  rw [List.size_toArray, List.length_take, List.length_drop, Array.length_toList]
  omega
theorem sl_all : SlR X (rSl X.K E) := slr fun x lo hi H Q ⟨_, W, μ, dx, ok, r, p⟩ => by
  cases r with
  | lst z h q => exact ⟨_, sl_list, _, _, rfl, (same_lq ok.sub h).sq, fun a ha => p _ _ _ (Go.new ok ha) (ok.new ha) (rep_lst ok ha (Nat.le_trans (cutD_len _ _ _) z) (q.cutV lo hi))⟩
  | @tup a xs ds z h q =>
    refine ⟨_, sl_tupA, _, _, rfl, same_t ok.sub h, fun hw => ?_, fun _ b hb => p _ _ _ (Go.new ok hb) (ok.new hb) (rep_tup ok hb (Nat.le_trans (cutD_len _ _ _) z) (q.cutV lo hi))⟩
    have e : cutD ds lo hi = ds := by
      unfold cutD
      rw [← q.length, hw.1, hw.2]
      simp [q.length]
    exact post_pure ok p (by rw [e]; exact .tup z h q)
  | str y z => exact ⟨_, sl_str, y, rfl, z, post_pure ok p (.str _ (Nat.le_trans (cutS_len _ _ _) z))⟩
  | _ => exact p.elim
theorem de_slice {e : Expr} {lo hi : Option Expr} {fe : FE} {fl fh : FO} {p2 pos : Pos} (he : DE X E e fe) (hl : DO X E lo fl) (hh : DO X E hi fh) : DE X E (.Subscript e (.Slice lo hi none p2) pos) (dsl fe fl fh) := by
  refine pe_imp (pe_slice (sl_all (E := E)) he hl hh) fun σ H Q ⟨W, ρ, μ, ok, en, p⟩ => ?_
  refine seq p ok en fun x μ1 W1 v H1 g1 o1 en1 r p1 => ⟨W1, ρ, μ1, o1, en1, ?_⟩
  revert p1
  cases fl ρ μ1 with
  | ex c fs μ2 => exact fun p => p
  | bad => exact fun p => p
  | ok lo μ2 =>
    rw [R.bind_ok]
    intro p1 W2 H2 g2 o2
    refine ⟨W2, ρ, μ2, o2, en1.mono g2.le, ?_⟩
    have p2 := post.mono g2 p1
    revert p2
    cases fh ρ μ2 with
    | ex c fs μ3 => exact fun p => p
    | bad => exact fun p => p
    | ok hi μ3 =>
      rw [R.bind_ok]
      exact fun p2 W3 H3 g3 o3 => ⟨_, W3, μ3, x, o3, r.mono (g2.le.trans g3.le), post.mono g3 p2⟩
end

/-! ### methods of built-in types -/
def tyD (T : String) (d : D) (μ : Mu) : Bool := match d with
  | .str _ => T == "str"
  | .lst _ => T == "list"
  | .hdl l => match μ[l]? with
    | some (.lst _) => T == "list"
    | some (.dct _ _) => T == "dict"
    | some (.dtt _ _) => T == "dict"
    | _ => false
  | _ => false
theorem tyD_rep {K : PySem.W.Frag} {W : Wd} {H : Hp} {μ : Mu} {T : String} {v : V} {d : D} (ok : Ok K W H μ) (r : Rep K W v d) (h : tyD T d μ = true) : tyV K T v H := by
  cases r with
  | str x z => exact eq_of_beq h
  | lst z h1 q => exact .inl ⟨eq_of_beq h, _, (same_lq ok.sub h1).sq⟩
  | @hdl a l ha =>
    unfold tyD at h
    dsimp only at h
    cases hm : μ[l]? with
    | none => rw [hm] at h; cases h
    | some m =>
      rw [hm] at h
      obtain ⟨o, ho, c⟩ := ok.cell l a m ha hm
      cases m with
      | lst xs =>
        obtain ⟨vs, rfl, _⟩ := c
        exact .inl ⟨eq_of_beq h, _, .inl (.inl ho)⟩
      | dct ks xs =>
        obtain ⟨vs, rfl, _⟩ := c
        exact .inr (.inr (.inl ⟨eq_of_beq h, .inl ⟨_, ho⟩⟩))
      | dtt ks xs =>
        obtain ⟨vs, rfl, _⟩ := c
        exact .inr (.inr (.inl ⟨eq_of_beq h, .inr ⟨_, ho⟩⟩))
      | _ => cases h
  | _ => cases h
def rM (K : PySem.W.Frag) (E : WX) (g : D → List D → Mu → R D) : V → List V → Hp → VK → Prop := fun x xs H Q => ∃ (E' : XK) (W : Wd) (μ : Mu) (d : D) (ds : List D), Ok K W H μ ∧ Rep K W x d ∧ Reps K W xs ds ∧ postE K E' W H (g d ds μ) Q
abbrev MtX (X : Cx) (E : WX) (id : String) (g : D → List D → Mu → R D) : Prop := MtR X id (rM X.K E g)
theorem mtx {X : Cx} {E : WX} {id : String} {g : D → List D → Mu → R D} (h : ∀ {E' : XK} W H μ d ds x xs Q, Ok X.K W H μ → Rep X.K W x d → Reps X.K W xs ds → postE X.K E' W H (g d ds μ) Q → ∃ r, MtR X id r ∧ r x xs H Q) : MtX X E id g := by
  intro pins s σ H x xs v us Q I rx rs q
  obtain ⟨_, W, μ, d, ds, ok, r1, r2, p⟩ := q
  obtain ⟨r, o, z⟩ := h W H μ d ds x xs Q ok r1 r2 p
  exact o pins s σ H x xs v us Q I rx rs z
def dbm (T : String) (g : D → List D → Mu → R D) (fo : FE) (fa : FA) : FE := fun ρ μ => (fo ρ μ).bind fun x μ1 => if tyD T x μ1 = true then (fa ρ μ1).bind fun ds μ2 => g x ds μ2 else .bad
section
variable {X : Cx} {E : WX} {o e : Expr} {es : List Expr} {fo : FE} {fa : FA} {name : Str} {apos cpos : Pos} {T id : String} {g : D → List D → Mu → R D}
theorem de_bm (pa : PlainAttrs T) (slot : Slot T name id) (hty : typeOf (.builtin id) = pure (.type "method_descriptor")) (hm : MtX X E id g) (ho : DE X E o fo) (ha : DA X E (e :: es) fa)
    (hbase : attributeBase o name X.env (eval o X.env) = eval o X.env := by rfl)
    (hfew : ((backTo cpos (starEach (e :: es) X.env)).all (fun x => !x.1) && (backToKw cpos (keywordEach [] X.env)).all (fun x => x.1.isSome)
      && decide ((e :: es).length + ([] : List Keyword).length + (if ([] : List Keyword).isEmpty then 0 else 1) < 30)) = true := by rfl)
    (hline : (apos.endLine == cpos.line) = true := by rfl) (hs : starEach (e :: es) X.env = (false, eval e X.env) :: starEach es X.env := by rfl) (hplain : (backTo cpos (starEach es X.env)).any (·.1) = false := by rfl) :
    DE X E (.Call (.Attribute o name apos) (e :: es) [] cpos) (dbm T g fo fa) := by
  refine pe_imp (pe_bm pa slot hty hm ho ha hbase hfew hline hs hplain) fun σ H Q ⟨W, ρ, μ, ok, en, p⟩ => ?_
  refine seq p ok en fun x μ1 W1 v H1 g1 o1 en1 r p1 => ?_
  by_cases ht : tyD T x μ1 = true
  · rw [if_pos ht] at p1
    exact ⟨tyD_rep o1 r ht, seqA p1 o1 en1 fun ds μ2 W2 xs H2 g2 o2 en2 rs p2 => ⟨_, W2, μ2, x, ds, o2, r.mono g2.le, rs, p2⟩⟩
  · rw [if_neg ht] at p1
    exact p1.elim
end
def mAppend : D → List D → Mu → R D := fun x ds μ => match x, ds with
  | .hdl l, [d] => match μ[l]? with
    | some (.lst xs) => if xs.length < 1000000 then .ok .non (μ.set l (.lst (xs ++ [d]))) else .bad
    | _ => .bad
  | _, _ => .bad
theorem mx_append {X : Cx} {E : WX} : MtX X E "list.append" mAppend := mtx fun W H μ d ds x xs Q ok r rs p => by
  unfold mAppend at p
  split at p
  · rename_i l y
    split at p
    · rename_i ys hm
      split at p
      · rename_i hn
        cases r with
        | @hdl a _ ha =>
          cases rs with
          | cons r1 r2 =>
            cases r2
            obtain ⟨o, ho, vs, rfl, q⟩ := ok.cell l a _ ha hm
            obtain ⟨ok2, g2⟩ := ok.setcell (m' := .lst (ys ++ [y])) ha hm (fun z => nomatch z) ⟨vs ++ [_], rfl, q.app (.cons r1 .nil)⟩
            exact ⟨_, mt_append, a, vs, _, rfl, rfl, ho, by rw [q.length]; exact Nat.lt_of_lt_of_le hn (by decide), p _ _ _ g2 ok2 .non⟩
      · exact p.elim
    · exact p.elim
  · exact p.elim
def mSplit : D → List D → Mu → R D := fun x ds μ => match x, ds with
  | .str a, [.str b] => if 0 < b.length ∧ a.length ≤ 1000000 ∧ (∀ y ∈ Txt.split a b, y.length ≤ 1000000) then .ok (.lst ((Txt.split a b).map .str)) μ else .bad
  | _, _ => .bad
def strsD : List D → Option (List Str)
  | [] => some []
  | .str x :: ds => (strsD ds).map (x :: ·)
  | _ => none
def mJoin : D → List D → Mu → R D := fun x ds μ => match x, ds with
  | .str a, [.lst ds] => match strsD ds with
    | some ys => if (ys.map (·.length)).sum + ys.length * a.length ≤ 1000000 ∧ (Txt.join a ys).length ≤ 1000000 then .ok (.str (Txt.join a ys)) μ else .bad
    | none => .bad
  | _, _ => .bad

/-! ### stores into a cell's list -/
def gsetix (fo fi fe : FE) : FS := fun ρ μ => (fe ρ μ).to ρ fun d μ1 => (fo ρ μ1).to ρ fun x μ2 => (fi ρ μ2).to ρ fun i μ3 => match x, i with
  | .hdl l, .int k => match μ3[l]? with
    | some (.lst xs) => match ixN xs.length k with
      | some j => .nx ρ (μ3.set l (.lst (xs.set j d)))
      | none => .bad
    | _ => .bad
  | _, _ => .bad
theorem ds_setix {X : Cx} {E : WX} {o i e : Expr} {fo fi fe : FE} {pos pos' : Pos} (he : DE X E e fe) (ho : DE X E o fo) (hi : DE X E i fi)
    (ha : ∀ v, assign (.Subscript o i pos') X.env v = (do
      let ov ← holding [v] (eval o X.env)
      let iv ← holding [v, ov] (eval i X.env)
      standAt pos'
      holding [v, ov, iv] (setItem ov iv v)
      release [v, ov, iv] []) := by intro _; rfl) (hs : swapsWithSole [.Subscript o i pos'] e pos.line X.env = pure false := by rfl) (hw : swappedStores [.Subscript o i pos'] e X.env = pure none := by rfl)
    (h1 : (assignEach [.Subscript o i pos'] X.env).map (·.2) = [assign (.Subscript o i pos') X.env] := by rfl) : DS X E (.Assign [.Subscript o i pos'] e pos) (gsetix fo fi fe) := by
  refine ps_imp (ps_asg he (pg_sub ho hi set_list ha) hs hw h1) fun Z σ H ⟨W, ρ, μ, ok, en, p⟩ => ?_
  refine seqS p ok en fun d μ1 W1 v H1 g1 o1 en1 r p1 => ?_
  refine seqS p1 o1 en1 fun x μ2 W2 xv H2 g2 o2 en2 r2 p2 => ?_
  refine seqS p2 o2 en2 fun i μ3 W3 iv H3 g3 o3 en3 r3 p3 => ?_
  split at p3
  · rename_i l k
    split at p3
    · rename_i xs hm
      split at p3
      · rename_i j hj
        cases r2 with
        | @hdl a _ ha =>
          cases r3
          have ha3 := prefix_get g3.le.io ha
          obtain ⟨ob, ho, vs, rfl, q⟩ := o3.cell l a _ ha3 hm
          obtain ⟨ok4, g4⟩ := o3.setcell (m' := .lst (xs.set j d)) ha3 hm (fun z => nomatch z) ⟨vs.set j v, rfl, q.set ((r.mono g2.le).mono g3.le) j⟩
          exact ⟨a, vs, k, j, rfl, rfl, ho, by rw [q.length]; exact hj, p3 _ _ _ g4 ok4 en3⟩
      · exact p3.elim
    · exact p3.elim
  · exact p3.elim
end DL
/-! DL8: calls with keywords, texts, sets of numbers. -/
namespace DL
open PySem L2

/-! ### calls with keywords -/
/-- how n values and the keywords ks come to the parameters -/
structure KDfl (K : PySem.W.Frag) (fd : FuncData) (ps : List Str) (n : Nat) (ks : List Str) (gD : List D → List D → List D) : Prop where
  ex : ∃ (g : List Value → List Value → List Value) (gV : List V → List V → List V), (∀ us ws, us.length = n → ws.length = ks.length → (g us ws).length = ps.length) ∧ KBn K fd ps n ks g gV ∧
    ∀ W vs ds zs es, vs.length = n → zs.length = ks.length → Reps K W vs ds → Reps K W zs es → Reps K W (gV vs zs) (gD ds es)
abbrev DK (X : Cx) (E : WX) (kws : List Keyword) (f : FA) : Prop := PK X kws (rA X.K E f)
theorem pk_imp {X : Cx} {e : List Keyword} {t t' : TA} (h : PK X e t) (i : ∀ σ H Q, t' σ H Q → t σ H Q) : PK X e t' := ⟨fun pos pins s σ H Q I q => h.run pos pins s σ H Q I (i σ H Q q)⟩
def dcallK (F : List D → Mu → R D) (gD : List D → List D → List D) (fa fk : FA) : FE := fun ρ μ => (fa ρ μ).bind fun ds μ1 => (fk ρ μ1).bind fun es μ2 => F (gD ds es) μ2
section
variable {X : Cx} {E : WX} {k n : Nat} {f : Addr} {fd : FuncData} {ps ks : List Str} {F : List D → Mu → R D} {gD : List D → List D → List D} {x : Str} {p pos kpos : Pos} {e : Expr} {es : List Expr} {kws : List Keyword} {fa fk : FA} {nm : Option Str} {fe : FE}
theorem dk_nil : DK X E [] aNil := pk_imp pk_nil fun σ H Q ⟨W, ρ, μ, ok, en, p⟩ => p W [] H (Go.refl W H) ok .nil
theorem dk_cons (h : DE X E e fe) (hs : DK X E kws fk) : DK X E (⟨nm, e, kpos⟩ :: kws) (aCons fe fk) := by
  refine pk_imp (pk_cons h hs) fun σ H Q ⟨W, ρ, μ, ok, en, p⟩ => ?_
  refine ⟨W, ρ, μ, ok, en, ?_⟩
  unfold aCons at p
  revert p
  cases fe ρ μ with
  | ok d μ1 =>
    intro p W1 x H1 g1 o1 r1
    refine ⟨W1, ρ, μ1, o1, en.mono g1.le, ?_⟩
    have p := postA.mono g1 p
    revert p
    rw [R.bind_ok]
    cases fk ρ μ1 with
    | ok ds μ2 => exact fun p W2 xs H2 g2 o2 r2 => p W2 (x :: xs) H2 g2 o2 (.cons (r1.mono g2.le) r2)
    | ex c fs μ2 => exact fun p => p
    | bad => exact fun p => p
  | ex c fs μ1 => exact fun p => p
  | bad => exact fun p => p
theorem callF_kw {pins : List (Addr × Obj)} {σ : St} {H : Hp} {s : Shared} {Q : VK} {us ws : List Value} {vs zs : List V} {W : Wd} {ds es : List D} {μ : Mu} (G : FnG X.prog X.w X.K X.mg X.base k f fd ps F) (c : Cal X E k) (b : KDfl X.K fd ps n ks gD)
    (I : Inv X pins σ H s) (hn : vs.length = n) (hk : zs.length = ks.length) (rv : Vals vs us) (rz : Vals zs ws) (ok : Ok X.K W H μ) (r : Reps X.K W vs ds) (r' : Reps X.K W zs es) (q : postE X.K (WE E σ) W H (F (gD ds es) μ) Q) : wpAny (model X.prog X.w) X.A (call (.ref f) us (ks.zip ws)) (EP X pins σ Q) X.xe s := by
  obtain ⟨g, gV, hl, kb, rp⟩ := b.ex
  have h1 : us.length = n := by rw [← rv.length]; exact hn
  have h2 : ws.length = ks.length := by rw [← rz.length]; exact hk
  exact wpAny_call (run_g (args := ⟨us, ks.zip ws⟩) G c I (hl us ws h1 h2) (kb.to s us ws I.kIn h1 h2) (kb.rel rv rz) ok (rp W vs ds zs es hn hk r r') q)
theorem de_callK (G : FnG X.prog X.w X.K X.mg X.base k f fd ps F) (c : Cal X E k) (hm : X.mg x = some (.ref f)) (hk : PySem.W.keepIn X.K (.ref f) = true) (b : KDfl X.K fd ps (e :: es).length ks gD) (ha : DA X E (e :: es) fa) (hkw : DK X E kws fk)
    (hf : HasLen fa (e :: es).length := by repeat (first | exact aNil_len | refine aCons_len ?_)) (hf2 : HasLen fk ks.length := by repeat (first | exact aNil_len | refine aCons_len ?_))
    (hall : (backToKw pos (keywordEach kws X.env)).all (·.1.isSome) = true := by rfl) (hks : (backToKw pos (keywordEach kws X.env)).filterMap (·.1) = ks := by rfl)
    (hg : Gl X x := by rfl) (hdb : (x == ("__debug__" : Str)) = false := by decide) (he : starEach (e :: es) X.env = (false, eval e X.env) :: starEach es X.env := by rfl)
    (hpl : ((backTo pos (starEach (e :: es) X.env)).any (·.1) || (backToKw pos (keywordEach kws X.env)).any (·.1.isNone)) = false := by rfl) :
    DE X E (.Call (.Name x p) (e :: es) kws pos) (dcallK F gD fa fk) := by
  refine ⟨fun pins s σ H Q I q => ?_⟩
  obtain ⟨W, ρ, μ, ok, en, pq⟩ := q
  refine wpAny_Call_Name_kw (ld_glob I hg hm ?_ hdb)
  unfold dcallK at pq
  have rd : rA X.K E fa σ H (fun vs H1 => ∃ W1 ds μ1, vs.length = (e :: es).length ∧ Ok X.K W1 H1 μ1 ∧ Envs X.K W1 σ ρ ∧ Reps X.K W1 vs ds ∧ postE X.K (WE E σ) W1 H1 ((fk ρ μ1).bind fun es μ2 => F (gD ds es) μ2) Q) := by
    refine ⟨W, ρ, μ, ok, en, ?_⟩
    revert pq
    cases hq : fa ρ μ with
    | ok ds μ1 => exact fun p W1 xs H1 g o r => ⟨W1, ds, μ1, by rw [r.length]; exact hf ρ μ ds μ1 hq, o, en.mono g.le, r, post.mono g p⟩
    | ex c fs μ1 => exact fun p => p
    | bad => exact fun p => p
  refine PySem.W.callWith_KW (h₀ := X.base) I.ok.mod.kin hk hall (thn (ha.run pos pins s σ H _ I rd) fun us s1 ⟨vs, H1, I1, r, W1, ds, μ1, hn, o1, en1, r1, q1⟩ => ?_) hpl he
  have rd2 : rA X.K E fk σ H1 (fun zs H2 => ∃ W2 es μ2, zs.length = ks.length ∧ Ok X.K W2 H2 μ2 ∧ Le W1 W2 ∧ Reps X.K W2 zs es ∧ postE X.K (WE E σ) W2 H2 (F (gD ds es) μ2) Q) := by
    refine ⟨W1, ρ, μ1, o1, en1, ?_⟩
    revert q1
    cases hq : fk ρ μ1 with
    | ok es μ2 => exact fun p W2 xs H2 g o r => ⟨W2, es, μ2, by rw [r.length]; exact hf2 ρ μ1 es μ2 hq, o, g.le, r, post.mono g p⟩
    | ex c fs μ1 => exact fun p => p
    | bad => exact fun p => p
  refine thn (hkw.run pos pins s1 σ H1 _ I1 rd2) fun ws s2 ⟨zs, H2, I2, rz, W2, es, μ2, hz, o2, l2, r2, q2⟩ => ⟨I2.kIn, ?_⟩
  rw [hks]
  exact callF_kw G c b I2 hn hz r rz o2 (r1.mono l2) r2 q2
theorem de_callK0 (G : FnG X.prog X.w X.K X.mg X.base k f fd ps F) (c : Cal X E k) (hm : X.mg x = some (.ref f)) (hk : PySem.W.keepIn X.K (.ref f) = true) (b : KDfl X.K fd ps 0 ks gD) (hkw : DK X E kws fk)
    (hf2 : HasLen fk ks.length := by repeat (first | exact aNil_len | refine aCons_len ?_))
    (hall : (backToKw pos (keywordEach kws X.env)).all (·.1.isSome) = true := by rfl) (hks : (backToKw pos (keywordEach kws X.env)).filterMap (·.1) = ks := by rfl)
    (hg : Gl X x := by rfl) (hdb : (x == ("__debug__" : Str)) = false := by decide)
    (hpl : ((backTo pos (starEach [] X.env)).any (·.1) || (backToKw pos (keywordEach kws X.env)).any (·.1.isNone)) = false := by rfl) :
    DE X E (.Call (.Name x p) [] kws pos) (dcallK F gD aNil fk) := by
  refine ⟨fun pins s σ H Q I q => ?_⟩
  obtain ⟨W, ρ, μ, ok, en, pq⟩ := q
  refine wpAny_Call_Name_kw (ld_glob I hg hm ?_ hdb)
  unfold dcallK aNil at pq
  rw [R.bind_ok] at pq
  have rd2 : rA X.K E fk σ H (fun zs H2 => ∃ W2 es μ2, zs.length = ks.length ∧ Ok X.K W2 H2 μ2 ∧ Reps X.K W2 zs es ∧ postE X.K (WE E σ) W2 H2 (F (gD [] es) μ2) Q) := by
    refine ⟨W, ρ, μ, ok, en, ?_⟩
    revert pq
    cases hq : fk ρ μ with
    | ok es μ2 => exact fun p W2 xs H2 g o r => ⟨W2, es, μ2, by rw [r.length]; exact hf2 ρ μ es μ2 hq, o, r, post.mono g p⟩
    | ex c fs μ1 => exact fun p => p
    | bad => exact fun p => p
  refine PySem.W.callWith_KW0 (h₀ := X.base) I.ok.mod.kin hk hall (thn (hkw.run pos pins s σ H _ I rd2) fun ws s2 ⟨zs, H2, I2, rz, W2, es, μ2, hz, o2, r2, q2⟩ => ⟨I2.kIn, ?_⟩) hpl
  rw [hks]
  exact callF_kw (us := []) (vs := []) G c b I2 rfl hz .nil rz o2 .nil r2 q2
end
section
variable {K : PySem.W.Frag} {x qual : Str} {params : Arguments} {body : List Stmt} {scope : Scope} {kws : List (Str × V)} {f : Addr} {fd : FuncData} {ps : List Str}
/-- keyword-only defaults alone: n values written, the keywords ks, the lacking ones ms -/
theorem kdfl (F : FunD K x qual params body scope [] kws f fd) (n : Nat) (ks : List Str) (ms : List (Str × V)) (md : List D) (g : {α : Type} → List α → List α → List α → List α) (hk : kws ≠ []) (hms : ∀ q ∈ ms, q ∈ kws)
    (hrel : ∀ {vs mz zs : List V} {us mv ws : List Value}, Vals vs us → Vals mz mv → Vals zs ws → Vals (g vs mz zs) (g us mv ws))
    (hrep : ∀ W vs ds zs es, vs.length = n → zs.length = ks.length → Reps K W vs ds → Reps K W zs es → Reps K W (g vs (ms.map (·.2)) zs) (g ds md es))
    (hlen : ∀ us mv ws : List Value, us.length = n → mv.length = ms.length → ws.length = ks.length → (g us mv ws).length = ps.length)
    (h : ∀ (D : Addr) (doc pm : Value) (an : Option Addr) (cdv ct : Value) (us mv ws : List Value), us.length = n → mv.length = ms.length → ws.length = ks.length →
      KwChain D ((ms.map (·.1)).zip mv) (bindArgs (PySem.W.fnOf x qual params body scope .none (.ref D) doc pm an cdv ct) ⟨us, ks.zip ws⟩) (ps.zip (g us mv ws))) :
    KDfl K fd ps n ks (fun ds es => g ds md es) := by
  obtain ⟨oc, od, dV, kV, doc, pm, an, cdv, ct, osl, rfl, lk, hcd, hD, hK⟩ := F.ex
  rcases hD with ⟨_, rfl⟩ | ⟨e, _⟩
  · rcases hK with e | ⟨D0, rfl, hq⟩
    · exact absurd e hk
    · obtain ⟨mv, hl, rk, hks⟩ := kwd_vals (ms := ms) fun q hm => hq q (hms q hm)
      exact ⟨fun us ws => g us mv ws, fun vs zs => g vs (ms.map (·.2)) zs, fun us ws h1 h2 => hlen us mv ws h1 hl h2,
        ⟨fun s us ws X l1 l2 => BindsTo.of_looks fun M => KwChain.looks X hks (h D0 doc pm an cdv ct us mv ws l1 hl l2), fun r1 r2 => hrel r1 rk r2⟩, hrep⟩
  · exact absurd rfl e
/-- .. all lacking ones by their places alone -/
theorem dfl_kw (F : FunD K x qual params body scope [] kws f fd) (n : Nat) (kd : List D) (hk : kws ≠ []) (hn : n + kws.length = ps.length) (hr : ∀ W, Reps K W (kws.map (·.2)) kd)
    (h : ∀ (D : Addr) (doc pm : Value) (an : Option Addr) (cdv ct : Value) (us ks : List Value), us.length = n → ks.length = kws.length →
      KwChain D ((kws.map (·.1)).zip ks) (bindArgs (PySem.W.fnOf x qual params body scope .none (.ref D) doc pm an cdv ct) ⟨us, []⟩) (ps.zip (us ++ ks))) : Dfl K fd ps n kd := by
  obtain ⟨ds, rv, hb⟩ := F.binds0 n hk hn h
  exact ⟨_, ds, rv, hr, by rw [← rv.length, List.length_map]; exact hn, hb⟩
end

/-! ### texts -/
theorem strs_reps {K : PySem.W.Frag} {W : Wd} : ∀ {ys : List Str}, (∀ y ∈ ys, y.length ≤ sizeLine) → Reps K W (ys.map V.str) (ys.map D.str)
  | [], _ => .nil
  | y :: ys, h => .cons (.str y (h y (by simp))) (strs_reps fun z hz => h z (by simp [hz]))
theorem strsD_rep {K : PySem.W.Frag} {W : Wd} : ∀ {vs : List V} {ds : List D} {ys : List Str}, Reps K W vs ds → strsD ds = some ys → vs = ys.map V.str
  | _, _, _, .nil, h => by
    simp [strsD] at h
    subst h
    rfl
  | _, _, _, .cons (d := d) (ds := ds) r rs, h => by
    cases d with
    | str x =>
      cases r
      unfold strsD at h
      cases e : strsD ds with
      | none => rw [e] at h; cases h
      | some cs =>
        rw [e] at h
        cases h
        rw [strsD_rep rs e]
        rfl
    | _ => simp [strsD] at h

/-! ### len(set(xs)) of numbers -/
def intsD : List D → Option (List Int)
  | [] => some []
  | .int x :: ds => (intsD ds).map (x :: ·)
  | _ => none
theorem intsD_rep {K : PySem.W.Frag} {W : Wd} : ∀ {vs : List V} {ds : List D} {ys : List Int}, Reps K W vs ds → intsD ds = some ys → vs = ys.map V.int
  | _, _, _, .nil, h => by
    simp [intsD] at h
    subst h
    rfl
  | _, _, _, .cons (d := d) (ds := ds) r rs, h => by
    cases d with
    | int x =>
      cases r
      unfold intsD at h
      cases e : intsD ds with
      | none => rw [e] at h; cases h
      | some cs =>
        rw [e] at h
        cases h
        rw [intsD_rep rs e]
        rfl
    | _ => simp [intsD] at h
theorem vals_ints : ∀ {ns : List Int} {us : List Value}, Vals (ns.map V.int) us → PyProof.Rows.IntsAre us ns
  | [], _, .nil => .nil
  | n :: ns, _, .cons r t => by
    obtain ⟨k, rfl⟩ := r
    exact .cons n k (vals_ints t)
/-- how many unlike ones -/
def kinds (ns : List Int) : Nat := (PyProof.Rows.firstMet (fun i => ns.getD i 0) ns.length).length
def dlenset (f : FE) : FE := fun ρ μ => (f ρ μ).bind fun d μ1 => match d with
  | .lst ds => match intsD ds with
    | some ns => if ns.length ≤ 1000 then .ok (.int (kinds ns)) μ1 else .bad
    | none => .bad
  | _ => .bad
theorem de_lenset {X : Cx} {E : WX} {a : Expr} {fa : FE} {p p2 q pos : Pos} (hm : X.mg "len" = none) (hm2 : X.mg "set" = none) (ha : DE X E a fa) (hc : X.calm = true := by rfl) (hg : Gl X "len" := by rfl) (hg2 : Gl X "set" := by rfl)
    (na : starEach [a] X.env = (false, eval a X.env) :: starEach [] X.env := by rfl) : DE X E (.Call (.Name "len" p) [.Call (.Name "set" p2) [a] [] q] [] pos) (dlenset fa) := by
  constructor
  intro pins s σ H Q I rd
  obtain ⟨W, ρ, μ, ok, en, z⟩ := rd
  unfold dlenset at z
  have inner : rE X.K E fa σ H (fun x H1 => ∃ l ns, x = .ref l ∧ SqL X.K H1 l (ns.map V.int) ∧ ns.length ≤ 1000 ∧ Q (.int (kinds ns)) H1) := seq z ok en fun d μ1 W1 v H1 g1 o1 en1 r z1 => by
    cases r with
    | lst zz h rs =>
      dsimp only at z1
      split at z1
      · rename_i ns hns
        have e := intsD_rep rs hns
        subst e
        split at z1
        · rename_i hl
          exact ⟨_, ns, rfl, (same_lq o1.sub h).sq, hl, post_pure o1 z1 (.int _)⟩
        · exact z1.elim
      · exact z1.elim
    | _ => exact z1.elim
  refine PyProof.Rows.Call_ (ld_blt I hg hm PySem.boot_len (PyProof.Rows.callWith_builtin1 (PyProof.Rows.args_cons ?_ rfl) rfl rfl))
  refine PyProof.Rows.Call_ (ld_blt I hg2 hm2 PyProof.Rows.boot_set (PyProof.Rows.callWith_type1 (PyProof.Rows.args_cons (thn (ha.run pins s σ H _ I inner) fun v s1 hv => PyProof.Rows.args_nil ?_) na) na rfl))
  obtain ⟨y, H1, I1, w1, l, ns, ey, sq, hl, fin⟩ := hv
  subst ey
  cases w1
  obtain ⟨its, rv, pl, _⟩ := I1.list sq
  have hsz : its.toArray.size = ns.length := by
    rw [List.size_toArray, ← rv.length, List.length_map]
  refine PySem.call_set_list (I1.ok.hd hc) pl.isList (ns := ns) (by simpa using vals_ints rv) (by rw [hsz]; unfold scanBound; omega) fun h' tk made old => PyProof.Rows.args_nil ?_
  rw [hsz] at made
  obtain ⟨ob, en', ep, tt, ho, hex, hd, _, _, _, hf, hn⟩ := made
  have few : (PyProof.Rows.firstMet (fun i => ns.getD i 0) ns.length).length ≤ ns.length := PyProof.Rows.firstMet_length_le _ _
  exact call_len_set ho hex hd hf (by rw [hn]; omega) ⟨.int (kinds ns), H1, (I1.kept fun b o e => old b o (Heap.lt_size e) e).tok _, ⟨_, by rw [hn]; rfl⟩, fin⟩
end DL
/-! DL9: and, or, not as values, chains, conditional expressions, isinstance, texts. -/
namespace DL
open PySem L2

def dand (f g : FE) : FE := fun ρ μ => (f ρ μ).bind fun d μ1 => match d with
  | .bl true => g ρ μ1
  | .bl false => .ok (.bl false) μ1
  | _ => .bad
def dor (f g : FE) : FE := fun ρ μ => (f ρ μ).bind fun d μ1 => match d with
  | .bl true => .ok (.bl true) μ1
  | .bl false => g ρ μ1
  | _ => .bad
def dnot (f : FE) : FE := fun ρ μ => (f ρ μ).bind fun d μ1 => match d with
  | .bl b => .ok (.bl (!b)) μ1
  | _ => .bad
def dneg (f : FE) : FE := fun ρ μ => (f ρ μ).bind fun d μ1 => match d with
  | .int i => .ok (.int (-i)) μ1
  | _ => .bad
def dite (c : FT) (f g : FE) : FE := fun ρ μ => (c ρ μ).bind fun b μ1 => if b = true then f ρ μ1 else g ρ μ1
def dchain (g1 g2 : D → D → Mu → R D) (fa fb fc : FE) : FE := fun ρ μ => (fa ρ μ).bind fun x μ1 => (fb ρ μ1).bind fun y μ2 => (g1 x y μ2).bind fun z μ3 => match z with
  | .bl true => (fc ρ μ3).bind fun w μ4 => g2 y w μ4
  | .bl false => .ok (.bl false) μ3
  | _ => .bad
section
variable {X : Cx} {E : WX} {a b c : Expr} {rest : List Expr} {pos : Pos} {f g h : FE}
theorem de_one {op : BoolOp} (ha : DE X E a f) : DE X E (.BoolOp op [a] pos) f := pe_one ha
theorem de_and (ha : DE X E a f) (hb : DE X E (.BoolOp .And (b :: rest) pos) g) : DE X E (.BoolOp .And (a :: b :: rest) pos) (dand f g) := pe_imp (pe_and ha hb) fun σ H Q ⟨W, ρ, μ, ok, en, p⟩ =>
  seq p ok en fun d μ1 W1 x H1 g1 o1 en1 r p1 => by
    cases d with
    | bl k =>
      cases r
      cases k with
      | true => exact ⟨true, rfl, W1, ρ, μ1, o1, en1, p1⟩
      | false => exact ⟨false, rfl, post_pure o1 p1 (.bl _)⟩
    | _ => exact p1.elim
theorem de_or (ha : DE X E a f) (hb : DE X E (.BoolOp .Or (b :: rest) pos) g) : DE X E (.BoolOp .Or (a :: b :: rest) pos) (dor f g) := pe_imp (pe_or ha hb) fun σ H Q ⟨W, ρ, μ, ok, en, p⟩ =>
  seq p ok en fun d μ1 W1 x H1 g1 o1 en1 r p1 => by
    cases d with
    | bl k =>
      cases r
      cases k with
      | false => exact ⟨false, rfl, W1, ρ, μ1, o1, en1, p1⟩
      | true => exact ⟨true, rfl, post_pure o1 p1 (.bl _)⟩
    | _ => exact p1.elim
theorem de_not (ha : DE X E a f) : DE X E (.UnaryOp .Not a pos) (dnot f) := pe_imp (pe_not ha) fun σ H Q ⟨W, ρ, μ, ok, en, p⟩ =>
  seq p ok en fun d μ1 W1 x H1 g1 o1 en1 r p1 => by
    cases d with
    | bl k =>
      cases r
      exact ⟨k, rfl, post_pure o1 p1 (.bl _)⟩
    | _ => exact p1.elim
theorem de_neg (ha : DE X E a f) : DE X E (.UnaryOp .USub a pos) (dneg f) := pe_imp (pe_un un_neg ha) fun σ H Q ⟨W, ρ, μ, ok, en, p⟩ =>
  seq p ok en fun d μ1 W1 x H1 g1 o1 en1 r p1 => by
    cases d with
    | int k =>
      cases r
      exact ⟨k, rfl, post_pure o1 p1 (.int _)⟩
    | _ => exact p1.elim
theorem seqTE {K : PySem.W.Frag} {fa : FT} {k : Bool → Mu → R D} {σ : St} {H : Hp} {W : Wd} {ρ : En} {μ : Mu} {Q : VK} {Q1 : Bool → Hp → Prop} (p : postE K (WE E σ) W H ((fa ρ μ).bind k) Q) (ok : Ok K W H μ) (en : Envs K W σ ρ)
    (hk : ∀ b μ1 W1 H1, Go W H W1 H1 → Ok K W1 H1 μ1 → Envs K W1 σ ρ → postE K (WE E σ) W1 H1 (k b μ1) Q → Q1 b H1) : rT K E fa σ H Q1 := by
  refine ⟨W, ρ, μ, ok, en, ?_⟩
  revert p
  cases fa ρ μ with
  | ok d μ1 => exact fun p W1 H1 g o => hk d μ1 W1 H1 g o (en.mono g.le) (post.mono g p)
  | ex c fs μ1 => exact fun p => p
  | bad => exact fun p => p
theorem de_ifx {fc : FT} (hc : DT X E c fc) (ha : DE X E a f) (hb : DE X E b g) : DE X E (.IfExp c a b pos) (dite fc f g) := pe_imp (pe_ifExp hc ha hb) fun σ H Q ⟨W, ρ, μ, ok, en, p⟩ =>
  seqTE p ok en fun k μ1 W1 H1 g1 o1 en1 p1 => by
    cases k with
    | true => exact ⟨W1, ρ, μ1, o1, en1, p1⟩
    | false => exact ⟨W1, ρ, μ1, o1, en1, p1⟩
theorem tChain_of {g1 g2 : D → D → Mu → R D} : ∀ σ H Q, rE X.K E (dchain g1 g2 f g h) σ H Q → tChain (rD X.K E g1) (rD X.K E g2) (rE X.K E f) (rE X.K E g) (rE X.K E h) σ H Q := fun σ H Q ⟨W, ρ, μ, ok, en, p⟩ =>
  seq p ok en fun x μ1 W1 xv H1 k1 o1 en1 r1 p1 => seq p1 o1 en1 fun y μ2 W2 yv H2 k2 o2 en2 r2 p2 => by
    refine ⟨WE E σ, W2, μ2, x, y, o2, r1.mono k2.le, r2, ?_⟩
    revert p2
    cases g1 x y μ2 with
    | ex c fs μ3 => exact fun p => p
    | bad => exact fun p => p
    | ok z μ3 =>
      rw [R.bind_ok]
      cases z with
      | bl k =>
        intro p2 W3 v H3 k3 o3 r3
        cases r3
        refine ⟨k, rfl, ?_⟩
        have p3 := post.mono k3 p2
        cases k with
        | true =>
          rw [if_pos rfl]
          exact seq p3 o3 (en2.mono k3.le) fun w μ4 W4 wv H4 k4 o4 en4 r4 p4 => ⟨_, W4, μ4, y, w, o4, (r2.mono k3.le).mono k4.le, r4, p4⟩
        | false =>
          rw [if_neg Bool.false_ne_true]
          exact post_pure o3 p3 (.bl _)
      | _ => exact fun p => p.elim
theorem de_chain {op op' : CmpOp} {g1 g2 : D → D → Mu → R D} (ho : OpX X E (compareOp op) g1) (ho' : OpX X E (compareOp op') g2) (ha : DE X E a f) (hb : DE X E b g) (hc : DE X E c h) (hm : lastMarks [op, op'] [b, c] = false := by with_unfolding_all rfl) : DE X E (.Compare a [op, op'] [b, c] pos) (dchain g1 g2 f g h) :=
  pe_imp (pe_chain ho ho' ha hb hc hm) tChain_of
theorem dt_chain {op op' : CmpOp} {g1 g2 : D → D → Mu → R D} (ho : OpX X E (compareOp op) g1) (ho' : OpX X E (compareOp op') g2) (ha : DE X E a f) (hb : DE X E b g) (hc : DE X E c h) (hm : lastMarks [op, op'] [b, c] = false := by with_unfolding_all rfl) : DT X E (.Compare a [op, op'] [b, c] pos) (dtest (dchain g1 g2 f g h)) := by
  refine pt_imp (pt_chain ho ho' ha hb hc hm) fun σ H Q q => ?_
  have q := tB_of σ H Q q
  unfold tTest
  exact tChain_of σ H _ q
/-- a module's name -/
theorem de_glob {x : Str} {d : D} {v : V} {u : Value} (hm : X.mg x = some u) (r : RelV v u) (rp : ∀ W, Rep X.K W v d) (hg : Gl X x := by rfl) (hd : (x == ("__debug__" : Str)) = false := by decide) : DE X E (.Name x pos) (dc d) := dconst (pe_glob hg hm r hd) rp
/-- a built-in class -/
theorem de_ty {x : Str} {T : String} (hm : X.mg x = none) (hg : Gl X x := by rfl) (hv : bootBuiltins x = some (.type T) := by decide +kernel) (hn : x ≠ "__name__" := by decide) (hd : (x == ("__debug__" : Str)) = false := by decide) : DE X E (.Name x pos) (dc (.cst (.ty T))) := dconst (pe_bltn (v := .ty T) hg hm hv rfl hn hd) fun _ => .cst _
end

/-! ### isinstance -/
def tyName (μ : Mu) : D → Option String
  | .non => some "NoneType"
  | .bl _ => some "bool"
  | .int _ => some "int"
  | .str _ => some "str"
  | .tup _ => some "tuple"
  | .lst _ => some "list"
  | .hdl l => match μ[l]? with
    | some (.lst _) => some "list"
    | some (.dct _ _) => some "dict"
    | some (.dtt _ _) => some "dict"
    | _ => none
  | _ => none
def bIsi : List D → Mu → R D
  | [d, .cst (.ty T)], μ => match tyName μ d with
    | some t => match kitB t T with
      | some b => .ok (.bl b) μ
      | none => .bad
    | none => .bad
  | _, _ => .bad
theorem tyName_rep {K : PySem.W.Frag} {W : Wd} {H : Hp} {μ : Mu} {v : V} {d : D} {t : String} (ok : Ok K W H μ) (r : Rep K W v d) (h : tyName μ d = some t) : TyX K H v (.type t) := by
  cases r with
  | non => simp [tyName] at h; subst h; exact .base .non
  | bl b => simp [tyName] at h; subst h; exact .base (.bl b)
  | int i => simp [tyName] at h; subst h; exact .base (.int i)
  | str x z => simp [tyName] at h; subst h; exact .base (.str x)
  | tup z h1 q =>
    simp [tyName] at h
    subst h
    rcases h1 with (h1 | ⟨o, h1⟩) | ⟨o, its, n, h1, h2, _⟩
    · exact .base (.tup (ok.sub _ _ h1))
    · exact .fTuple (ok.sub _ _ h1)
    · exact .kTuple h1 h2
  | lst z h1 q =>
    simp [tyName] at h
    subst h
    rcases h1 with (h1 | ⟨o, h1⟩) | ⟨its, n, h1, _⟩
    · exact .base (.lst (ok.sub _ _ h1))
    · exact .base (.frz (ok.sub _ _ h1))
    · exact .kList h1 rfl
  | @hdl a l ha =>
    unfold tyName at h
    dsimp only at h
    cases hm : μ[l]? with
    | none => rw [hm] at h; cases h
    | some m =>
      rw [hm] at h
      obtain ⟨o, ho, c⟩ := ok.cell l a m ha hm
      cases m with
      | lst xs =>
        cases h
        obtain ⟨vs, rfl, _⟩ := c
        exact .base (.lst ho)
      | dct ks xs =>
        cases h
        obtain ⟨vs, rfl, _⟩ := c
        exact .base (.dK ho)
      | dtt ks xs =>
        cases h
        obtain ⟨vs, rfl, _⟩ := c
        exact .base (.dT ho)
      | _ => cases h
  | _ => simp [tyName] at h
theorem cx_isi {X : Cx} {E : WX} : CallX X E (.builtin "isinstance") bIsi := callx fun W H μ ds xs Q ok r p => by
  unfold bIsi at p
  split at p
  · rename_i d T
    cases r with
    | cons r1 r2 =>
      cases r2 with
      | cons r2 r3 =>
        cases r3
        cases r2
        split at p
        · rename_i t ht
          split at p
          · rename_i b hb
            exact ⟨_, call_isi, _, _, .type t, .type T, b, rfl, .ty T, tyName_rep ok r1 ht, kit_ty hb, post_pure ok p (.bl b)⟩
          · exact p.elim
        · exact p.elim
  · exact p.elim

/-! ### texts -/
theorem mx_join {X : Cx} {E : WX} : MtX X E "str.join" mJoin := mtx fun W H μ d ds x xs Q ok r rs p => by
  unfold mJoin at p
  split at p
  · split at p
    · rename_i ys hy
      split at p
      · rename_i hn
        cases r
        cases rs with
        | cons r1 r2 =>
          cases r2
          cases r1 with
          | lst z h q =>
            have e := strsD_rep q hy
            subst e
            exact ⟨_, mt_join, _, _, ys, rfl, rfl, .inl (same_lq ok.sub h).sq, Nat.le_trans hn.1 (by decide), post_pure ok p (.str _ (le_line hn.2))⟩
      · exact p.elim
    · exact p.elim
  · exact p.elim
theorem mx_split {X : Cx} {E : WX} : MtX X E "str.split" mSplit := mtx fun W H μ d ds x xs Q ok r rs p => by
  unfold mSplit at p
  split at p
  · rename_i a b
    split at p
    · rename_i hn
      cases r
      cases rs with
      | cons r1 r2 =>
        cases r2
        cases r1
        refine ⟨_, mt_split, a, b, rfl, rfl, ?_, ?_, fun q hq => p _ _ _ (Go.new ok hq) (ok.new hq) (rep_lst ok hq ?_ (strs_reps fun y hy => ?_))⟩
        · exact beq_eq_false_iff_ne.mpr (by omega)
        · show a.length + 2 ≤ 16777216
          omega
        · rw [List.length_map]
          exact Nat.le_trans (PyProof.Rows.split_le a b) (by show a.length + 2 ≤ 16777216; omega)
        · exact le_line (hn.2.2 y hy)
    · exact p.elim
  · exact p.elim
end DL
/-! DL10: the end of a law whose defs are told by DL's functions. -/
namespace DL
open PySem PySem.Spec PyProof.Rows L2

/-- the script's own world -/
def scriptW (a : Addr) (H : Hp) : Wd := ⟨fun b => if b = a then H a else none, []⟩
theorem ints_reps {K : PySem.W.Frag} {W : Wd} : ∀ ns : List Int, Reps K W (ns.map V.int) (ns.map D.int)
  | [] => .nil
  | n :: ns => .cons (.int n) (ints_reps ns)
section
variable {P : Program} {w : World} {K : PySem.W.Frag} {mg mb : Str → Option Value} {k : Nat} {fa a : Addr} {fd : FuncData} {x : Str} {F : List D → Mu → R D} {s1 : Shared} {vs : List Value} {ns : List Int}
/-- what is told of the tables at the start -/
structure TabHead (K : PySem.W.Frag) (h : Heap) : Prop where
  hd : ∀ p ∈ lamDefs, PySem.W.codeHdIn K (He.cT K p.1).1 (He.cT K p.1).2 = true
  out : ∀ p ∈ lamDefs, K.lookup (He.cT K p.1).2 = none
  empty : ∀ p ∈ lamDefs, h.get? (He.cT K p.1).2 = some { cls := .none, data := .fields #[] }
/-- .. and within a def -/
def TabIn (K : PySem.W.Frag) (base : Heap) (mg : Str → Option Value) : Prop := ∀ p ∈ lamDefs, LamX.TabB base mg (He.cT K p.1).1 (He.cT K p.1).2
theorem tabs_mem {p : (Str × Option Str) × Str} (h : p ∈ lamDefs) : ((He.cT K p.1).2, p.2) ∈ tabsOf K := List.mem_map.mpr ⟨p, h, rfl⟩
theorem tabs_of {q : Addr × Str} (h : q ∈ tabsOf K) : ∃ p ∈ lamDefs, q = ((He.cT K p.1).2, p.2) := by
  obtain ⟨p, h1, h2⟩ := List.mem_map.mp h
  exact ⟨p, h1, h2.symm⟩
theorem law_g (th : TabHead K s1.heap) (hbm : ∃ (bm : Addr) (ob : Obj), mg "__builtins__" = some (.ref bm) ∧ bm ≠ builtinsNs ∧ s1.heap.get? bm = some ob ∧ ob.cls = .type "module" ∧ ob.dict = some builtinsNs ∧ ob.data = .plain)
    (kin : K.In s1.heap) (hns : s1.heap.Ns mainGlobals mg) (hb : s1.heap.Ns builtinsNs mb) (hbb : ∀ x : Str, x ≠ "__name__" → mb x = bootBuiltins x) (hlim : s1.heap.NoLimit) (hg : s1.gens = #[])
    (ha : s1.heap.get? a = some { cls := .type "list", data := .seq vs.toArray }) (hi : IntsAre vs ns) (hl : ns.length ≤ sizeLine) (hr : Room k callerA)
    (G : ∀ base : Heap, K.In base → base.Ns mainGlobals mg → TabIn K base mg → FnG P w K mg base k fa fd [x] F) (hbind : ∀ (s : Shared) (u : Value), BindsTo s fd ⟨[u], []⟩ [(x, u)])
    (hF : ∃ μ', F [.lst (ns.map D.int)] [] = .ok (.bl true) μ') :
    codeAny (model P w) callerA (.call (.ref fa) ⟨[.ref a], []⟩) (fun r s' => r = .ok (.ret (.bool true)) ∧ OldK s1.heap s'.heap ∧ s'.os = s1.os ∧ AllBare s'.gens) s1 := by
  have rv : Vals (ns.map V.int) vs := L2.vals_ints hi
  have lv : vs.length = ns.length := hi.length
  obtain ⟨μ', hF⟩ := hF
  have tbs : ∀ b, b ∈ (tabsOf K).map (·.1) → ∃ p ∈ lamDefs, b = (He.cT K p.1).2 := fun b hb => by
    obtain ⟨q, hq, e⟩ := List.mem_map.mp hb
    obtain ⟨p, hp, e2⟩ := tabs_of hq
    exact ⟨p, hp, by rw [← e, e2]⟩
  have tbAt : ∀ b, b ∈ (tabsOf K).map (·.1) → s1.heap.get? b = some { cls := .none, data := .fields #[] } := fun b hb => by
    obtain ⟨p, hp, e⟩ := tbs b hb
    rw [e]
    exact th.empty p hp
  have aNo : a ∉ (tabsOf K).map (·.1) := fun z => by
    have q := tbAt a z
    rw [ha] at q
    exact nomatch (congrArg Obj.data (Option.some.inj q))
  have main : ∀ H : Hp, (∀ b, H b ≠ none → b = a ∨ b ∈ (tabsOf K).map (·.1)) → (∀ b, b ∈ (tabsOf K).map (·.1) → H b = some (.tbl #[])) → (∀ u, H a = some u → ∃ o xs, u = .frz o (.lst xs)) → Lq K H a (ns.map V.int) → HOk P w H s1.heap → (H a ≠ none → K.lookup a = none) →
      codeAny (model P w) callerA (.call (.ref fa) ⟨[.ref a], []⟩) (fun r s' => r = .ok (.ret (.bool true)) ∧ OldK s1.heap s'.heap ∧ s'.os = s1.os ∧ AllBare s'.gens) s1 := by
    intro H only tbl frz lq hok hK
    have out : ∀ b, b ≠ a → b ∉ (tabsOf K).map (·.1) → H b = none := fun b hb hb2 => by
      cases q : H b with
      | none => rfl
      | some u =>
        rcases only b (by rw [q]; simp) with z | z
        · exact absurd z hb
        · exact absurd z hb2
    have free : ∀ {b : Addr} {o : Obj}, s1.heap.get? b = some o → (∀ its n, o.data ≠ .seq its n) → o.data ≠ .fields #[] → H b = none := fun {b o} e h1 h2 => by
      refine out b (fun z => ?_) fun z => ?_
      · rw [z, ha] at e
        exact h1 _ _ (by rw [← Option.some.inj e])
      · rw [tbAt b z] at e
        exact h2 (by rw [← Option.some.inj e])
    have dicts : ∀ {b : Addr} {o : Obj} {es : Array DictEntry} {ep : Nat}, s1.heap.get? b = some o → o.data = .dict es ep → H b = none := fun {b o es ep} e d =>
      free e (fun its n z => nomatch (d.symm.trans z)) (fun z => nomatch (d.symm.trans z))
    have ns' : ∀ {b : Addr} {m : Str → Option Value}, s1.heap.Ns b m → (hidT s1.heap H).Ns b m := by
      rintro b m ⟨o, es, ep, e, d, r⟩
      exact ⟨o, es, ep, hidT_get e (dicts e d), d, r⟩
    have kb : K.In (hidT s1.heap H) := fun b o e => hidT_get (kin b o e) (by
      cases q : H b with
      | none => rfl
      | some u =>
        rcases only b (by rw [q]; simp) with z | z
        · rw [z] at e q
          rw [hK (by rw [q]; simp)] at e
          cases e
        · obtain ⟨p, hp, ep⟩ := tbs b z
          rw [ep, th.out p hp] at e
          cases e)
    have md : Mod K mg (hidT s1.heap H) := by
      obtain ⟨mc, l1, l2⟩ := hlim
      exact ⟨kb, ns' hns, ⟨mb, ns' hb, hbb⟩, ⟨mc, ns' l1, l2⟩⟩
    have tin : TabIn K (hidT s1.heap H) mg := fun p hp => by
      have at_ := th.empty p hp
      refine ⟨?_, ?_, fun z => ?_⟩
      · obtain ⟨o, us, x1, x2, x3, x4, x5, x6, x7, e1, r1, r2, r3, r4⟩ := PySem.W.codeHd_of_K kin (th.hd p hp)
        refine ⟨o, us, x1, x2, x3, x4, x5, x6, x7, hidT_get e1 (free e1 (fun its n z => nomatch (r2.symm.trans z)) fun z => ?_), r1, r2, r3, r4⟩
        have e3 : us = #[] := by simpa using r2.symm.trans z
        rw [e3] at r3
        simp at r3
      · obtain ⟨bm, ob, b1, b2, b3, b4, b5, b6⟩ := hbm
        refine ⟨bm, ob, b1, b2, fun q => ?_, fun q => ?_, hidT_get b3 (free b3 (fun its n z => nomatch (b6.symm.trans z)) (fun z => nomatch (b6.symm.trans z))), b4, b5, b6⟩
        · obtain ⟨o, es, ep, e, hd, _⟩ := hns
          rw [q, e] at b3
          rw [Option.some.inj b3, b6] at hd
          cases hd
        · rw [q, at_] at b3
          rw [← Option.some.inj b3] at b6
          cases b6
      · obtain ⟨o, es, ep, e, hd, _⟩ := hns
        rw [z, at_] at e
        rw [← Option.some.inj e] at hd
        cases hd
    have e0 : Env0 P w K mg (hidT s1.heap H) callerA [] s1 H := by
      refine ⟨rfl, md, fun b o e => of_hidT e, Nat.le_of_eq (hidT_size _ _), trivial, ?_, hok, .of_eq hg⟩
      intro b hb
      cases hb
    have wok : Ok K (scriptW a H) H [] := by
      refine ⟨fun b o e => ?_, rfl, List.nodup_nil, fun l b o e => ?_, fun l b o e => ?_, ⟨fun q hq => LamX.TabS.nil (tbl q.1 (List.mem_map.mpr ⟨q, hq, rfl⟩)), fun q hq => if_neg fun z => aNo (List.mem_map.mpr ⟨q, hq, z⟩)⟩⟩
      · have e : (if b = a then H a else none) = some o := e
        by_cases z : b = a
        · rw [if_pos z] at e
          rw [z]; exact e
        · rw [if_neg z] at e
          cases e
      · cases l <;> cases e
      · cases l <;> cases e
    have lq' : Lq K (scriptW a H).S a (ns.map V.int) := by
      have ea : (scriptW a H).S a = H a := if_pos rfl
      rcases lq with (h | ⟨o, h⟩) | h
      · exact .inl (.inl (ea.trans h))
      · exact .inl (.inr ⟨o, ea.trans h⟩)
      · exact .inr h
    have rp : Reps K (scriptW a H) [.ref a] [.lst (ns.map D.int)] := .cons (.lst (by rw [List.length_map]; exact hl) lq' (ints_reps ns)) .nil
    have run := (G _ kb (ns' hns) tin).run callerA [] s1 H ⟨[.ref a], []⟩ [.ref a] [.ref a] (fun v _ => v = .bl true) (fun _ _ _ => False) (scriptW a H) _ [] hr rfl e0 rfl (hbind s1 (.ref a)) (.cons rfl .nil) wok rp (by
      rw [hF]
      intro W' v H' _ _ r
      cases r
      rfl)
    refine codeAny_mono run fun r s' h => ?_
    match r, h with
    | .error e, h =>
      obtain ⟨_, _, _, _, _, _, _, _, _, _, _, _, z⟩ := h
      exact z.elim
    | .ok (.ret u), ⟨v, H', os, bare, un, hok', r', q⟩ =>
      have q : v = .bl true := q
      subst q
      cases r'
      have stay : ∀ b o, b ∉ (tabsOf K).map (·.1) → s1.heap.get? b = some o → s'.heap.get? b = some o := fun b o nb e => by
        by_cases z : b = a
        · cases q : H b with
          | none => exact un.keep b o e q (by intro z; cases z) (by simp)
          | some u =>
            have q' := q
            rw [z] at q'
            obtain ⟨ob, xs, rfl⟩ := frz u q'
            have z2 := un.frzs b ob _ q
            obtain ⟨e1, _⟩ := hok b _ q
            obtain ⟨e2, _⟩ := hok' b _ z2
            rw [e] at e1
            cases e1
            exact e2
        · exact un.keep b o e (out b z nb) (by intro z; cases z) (by simp)
      have more : ∀ b, b ∈ (tabsOf K).map (·.1) → ∃ ps : Array Value, s'.heap.get? b = some { cls := .none, data := .fields ps } := fun b hb => by
        obtain ⟨m, z⟩ := un.tbls b #[] (tbl b hb)
        exact ⟨_, hok' b _ z⟩
      refine ⟨rfl, ⟨fun b o e => ?_, fun b o e => ?_⟩, os, bare⟩
      · by_cases hb : b ∈ (tabsOf K).map (·.1)
        · obtain ⟨ps, hm⟩ := more b hb
          obtain ⟨p, hp, ep⟩ := tbs b hb
          have e4 := Option.some.inj ((tbAt b hb).symm.trans e)
          subst e4
          refine .inr (.inl ⟨?_, rfl, #[], ps, rfl, by rw [Array.empty_append]; exact hm⟩)
          have cd := PySem.W.codeHd_of_K kin (th.hd p hp)
          rw [← ep] at cd
          exact (cd.tab (tbAt b hb)).isCodeTable
        · exact .inl (stay b o hb e)
      · by_cases hb : b ∈ (tabsOf K).map (·.1)
        · obtain ⟨ps, hm⟩ := more b hb
          exact ⟨_, hm⟩
        · exact ⟨o, stay b o hb e⟩
  cases hk : K.lookup a with
  | some o =>
    have e := kin a o hk
    rw [ha] at e
    cases e
    refine main (fun b => if b ∈ (tabsOf K).map (·.1) then some (.tbl #[]) else none) (fun b z => ?_) (fun b hb => if_pos hb) (fun u z => ?_) (.inr ⟨vs, _, hk, by rw [lv]; exact hl, rv⟩) (fun b u z => ?_) (fun z => absurd (if_neg aNo) z)
    · by_cases hb : b ∈ (tabsOf K).map (·.1)
      · exact .inr hb
      · exact absurd (if_neg hb) z
    · exact nomatch ((if_neg aNo).symm.trans z)
    · by_cases hb : b ∈ (tabsOf K).map (·.1)
      · have z' := (if_pos hb).symm.trans z
        cases z'
        exact tbAt b hb
      · exact nomatch ((if_neg hb).symm.trans z)
  | none =>
    have ea : (fun b => if b = a then some (HO.frz { cls := .type "list", data := .seq vs.toArray } (.lst (ns.map V.int))) else if b ∈ (tabsOf K).map (·.1) then some (.tbl #[]) else none) a = some (HO.frz { cls := .type "list", data := .seq vs.toArray } (.lst (ns.map V.int))) := if_pos rfl
    have ne : ∀ b, b ∈ (tabsOf K).map (·.1) → b ≠ a := fun b hb z => aNo (by rw [← z]; exact hb)
    refine main (fun b => if b = a then some (.frz { cls := .type "list", data := .seq vs.toArray } (.lst (ns.map V.int))) else if b ∈ (tabsOf K).map (·.1) then some (.tbl #[]) else none) (fun b z => ?_) (fun b hb => (if_neg (ne b hb)).trans (if_pos hb)) (fun u z => ?_) (.inl (.inr ⟨_, ea⟩)) (fun b u z => ?_) fun _ => hk
    · by_cases hb : b = a
      · exact .inl hb
      · by_cases hb2 : b ∈ (tabsOf K).map (·.1)
        · exact .inr hb2
        · exact absurd ((if_neg hb).trans (if_neg hb2)) z
    · have z' := ea.symm.trans z
      cases z'
      exact ⟨_, _, rfl⟩
    · by_cases hb : b = a
      · have z' := (if_pos hb).symm.trans z
        cases z'
        rw [hb]
        exact ⟨ha, by rw [List.length_map]; exact hl, vs, _, rv, ha⟩
      · have z1 := (if_neg hb).symm.trans z
        by_cases hb2 : b ∈ (tabsOf K).map (·.1)
        · have z' := (if_pos hb2).symm.trans z1
          cases z'
          exact tbAt b hb2
        · exact nomatch ((if_neg hb2).symm.trans z1)
end
/-- a law: what its def is worth at every script -/
theorem walk_g {l : PySem.W.OpenLaw} {n k : Nat} {q : Program} {loose : List Str} {XP : (Str → Option Value) → Heap → Prop} {YP : World → Heap → Prop} {d : DefRec} {x : Str}
    (hn : l.most = some n) (hn2 : n ≤ sizeLine) (hdf : d.params.defaults = []) (hr : Room k callerA)
    (G : ∀ (w : World) (mg : Str → Option Value) (fa : Addr) (h : Heap), YP w h → h.Ns mainGlobals mg → mg d.name = some (.ref fa) →
      ∃ (K : PySem.W.Frag) (fd : FuncData) (F : List D → Mu → R D), K.In h ∧ TabHead K h ∧ (∀ (s : Shared) (u : Value), BindsTo s fd ⟨[u], []⟩ [(x, u)]) ∧
        (∀ base : Heap, K.In base → base.Ns mainGlobals mg → TabIn K base mg → FnG l.prog w K mg base k fa fd [x] F) ∧ ∀ ns : List Int, ns.length ≤ n → (∀ z ∈ ns, Builtin.Int.intBits z ≤ 1048576) → ∃ μ', F [.lst (ns.map D.int)] [] = .ok (.bl true) μ') :
    PySem.W.WalkO q loose XP YP l.row.toRowW d [] (fun f vs => PySem.call f vs) := by
  refine Att.attach_callB hn hdf fun w s0 s1 mg mb fa o pm cd doc a vs ns Gr Y ho hd hcd hmg hobj hints hlen hbits hgn => ?_
  obtain ⟨K, fd, F, kin, th, hb, hG, hF⟩ := G w mg fa _ Y Gr.T.g hmg
  exact law_g th Gr.T.bmain kin Gr.T.g Gr.T.b Gr.T.builtins Gr.T.nolimit hgn hobj hints (Nat.le_trans hlen hn2) hr hG hb (hF ns hlen hbits)
end DL
/-! DL11: picking by places. -/
namespace DL
open PySem L2
def pk {α : Type} : List α → Nat → List α → List α
  | [], _, r => r
  | a :: _, 0, r => a :: r
  | _ :: l, i + 1, r => pk l i r
theorem vals_pk {r : List V} {r' : List Value} (h : Vals r r') : ∀ {vs : List V} {us : List Value} (i : Nat), Vals vs us → Vals (pk vs i r) (pk us i r')
  | _, _, _, .nil => h
  | _, _, 0, .cons a _ => .cons a h
  | _, _, i + 1, .cons _ l => vals_pk h i l
theorem reps_pk {K : PySem.W.Frag} {W : Wd} {r : List V} {r' : List D} (h : Reps K W r r') : ∀ {vs : List V} {us : List D} (i : Nat), Reps K W vs us → Reps K W (pk vs i r) (pk us i r')
  | _, _, _, .nil => h
  | _, _, 0, .cons a _ => .cons a h
  | _, _, i + 1, .cons _ l => reps_pk h i l
end DL
/-! DL12: reckoning with the mirrors. -/
namespace DL
open PySem L2
def O.thn : O → FS → O
  | .nx ρ μ, h => h ρ μ
  | .rt d μ, _ => .rt d μ
  | .bk ρ μ, _ => .bk ρ μ
  | .ct ρ μ, _ => .ct ρ μ
  | .ex ρ c fs μ, _ => .ex ρ c fs μ
  | .bad, _ => .bad
@[simp] theorem O.thn_nx (ρ : En) (μ : Mu) (h : FS) : (O.nx ρ μ).thn h = h ρ μ := of_eq_true (eq_self _)
@[simp] theorem O.thn_rt (d : D) (μ : Mu) (h : FS) : (O.rt d μ).thn h = .rt d μ := of_eq_true (eq_self _)
@[simp] theorem O.thn_bk (ρ : En) (μ : Mu) (h : FS) : (O.bk ρ μ).thn h = .bk ρ μ := of_eq_true (eq_self _)
@[simp] theorem O.thn_ct (ρ : En) (μ : Mu) (h : FS) : (O.ct ρ μ).thn h = .ct ρ μ := of_eq_true (eq_self _)
@[simp] theorem O.thn_ex (ρ : En) (c : Nat) (fs : List (Str × D)) (μ : Mu) (h : FS) : (O.ex ρ c fs μ).thn h = .ex ρ c fs μ := of_eq_true (eq_self _)
theorem thn_if {p : Prop} [Decidable p] (a b : O) (h : FS) : (if p then a else b).thn h = if p then a.thn h else b.thn h := by split <;> rfl
theorem to_if {α : Type} {p : Prop} [Decidable p] (a b : R α) (ρ : En) (h : α → Mu → O) : (if p then a else b).to ρ h = if p then a.to ρ h else b.to ρ h := by split <;> rfl
theorem bind_if {α β : Type} {p : Prop} [Decidable p] (a b : R α) (h : α → Mu → R β) : (if p then a else b).bind h = if p then a.bind h else b.bind h := by split <;> rfl
@[simp] theorem ap_seq (g h : FS) (ρ : En) (μ : Mu) : gseq g h ρ μ = (g ρ μ).thn h := by
  unfold gseq O.thn
  cases g ρ μ <;> rfl
@[simp] theorem ap_nil (ρ : En) (μ : Mu) : gnil ρ μ = .nx ρ μ := of_eq_true (eq_self _)
@[simp] theorem ap_ret (f : FE) (ρ : En) (μ : Mu) : gret f ρ μ = (f ρ μ).to ρ fun d μ1 => .rt d μ1 := of_eq_true (eq_self _)
@[simp] theorem ap_expr (f : FE) (ρ : En) (μ : Mu) : gexpr f ρ μ = (f ρ μ).to ρ fun _ μ1 => .nx ρ μ1 := of_eq_true (eq_self _)
@[simp] theorem ap_set (i : Nat) (f : FE) (ρ : En) (μ : Mu) : gasg (.nm i) f ρ μ = (f ρ μ).to ρ fun d μ1 => .nx (ρ.set i (some d)) μ1 := by
  unfold gasg
  simp
theorem ap_asg (t : Tg) (f : FE) (ρ : En) (μ : Mu) : gasg t f ρ μ = (f ρ μ).to ρ fun d μ1 => match asg t d ρ with | some ρ' => .nx ρ' μ1 | none => .bad := rfl
@[simp] theorem ap_asgT (ts : List Tg) (f : FE) (ρ : En) (μ : Mu) : gasg (.tp ts) f ρ μ = (f ρ μ).to ρ fun d μ1 => match asg (.tp ts) d ρ with | some ρ' => .nx ρ' μ1 | none => .bad := of_eq_true (eq_self _)
@[simp] theorem ap_gif (c : FT) (g h : FS) (ρ : En) (μ : Mu) : gif c g h ρ μ = (c ρ μ).to ρ fun b μ1 => if b = true then g ρ μ1 else h ρ μ1 := of_eq_true (eq_self _)
@[simp] theorem ap_for (fi : FA) (t : Tg) (b : FS) (ρ : En) (μ : Mu) : gfor fi t b ρ μ = (fi ρ μ).to ρ fun xs μ1 => forD t b xs ρ μ1 := of_eq_true (eq_self _)
@[simp] theorem ap_var (i : Nat) (ρ : En) (μ : Mu) : dvar i ρ μ = match ρ[i]? with | some (some d) => .ok d μ | _ => .bad := of_eq_true (eq_self _)
@[simp] theorem ap_dc (d : D) (ρ : En) (μ : Mu) : dc d ρ μ = .ok d μ := of_eq_true (eq_self _)
@[simp] theorem ap_bin (g : D → D → Mu → R D) (fa fb : FE) (ρ : En) (μ : Mu) : dbin g fa fb ρ μ = (fa ρ μ).bind fun x μ1 => (fb ρ μ1).bind fun y μ2 => g x y μ2 := of_eq_true (eq_self _)
@[simp] theorem ap_test (f : FE) (ρ : En) (μ : Mu) : dtest f ρ μ = (f ρ μ).bind fun d μ1 => match d with | .bl b => .ok b μ1 | _ => .bad := of_eq_true (eq_self _)
@[simp] theorem ap_tand (f g : FT) (ρ : En) (μ : Mu) : tand f g ρ μ = (f ρ μ).bind fun b μ1 => if b = true then g ρ μ1 else .ok false μ1 := of_eq_true (eq_self _)
@[simp] theorem ap_tor (f g : FT) (ρ : En) (μ : Mu) : tor f g ρ μ = (f ρ μ).bind fun b μ1 => if b = true then .ok true μ1 else g ρ μ1 := of_eq_true (eq_self _)
@[simp] theorem ap_tnot (f : FT) (ρ : En) (μ : Mu) : tnot f ρ μ = (f ρ μ).bind fun b μ1 => .ok (!b) μ1 := of_eq_true (eq_self _)
@[simp] theorem ap_tyes (ρ : En) (μ : Mu) : tyes ρ μ = .ok true μ := of_eq_true (eq_self _)
@[simp] theorem ap_aNil (ρ : En) (μ : Mu) : aNil ρ μ = .ok [] μ := of_eq_true (eq_self _)
@[simp] theorem ap_aCons (f : FE) (g : FA) (ρ : En) (μ : Mu) : aCons f g ρ μ = (f ρ μ).bind fun d μ1 => (g ρ μ1).bind fun ds μ2 => .ok (d :: ds) μ2 := of_eq_true (eq_self _)
@[simp] theorem ap_tup (f : FA) (ρ : En) (μ : Mu) : dtup f ρ μ = (f ρ μ).bind fun ds μ1 => if ds.length ≤ 1000000 then .ok (.tup ds) μ1 else .bad := of_eq_true (eq_self _)
@[simp] theorem ap_lst (f : FA) (ρ : En) (μ : Mu) : dlst f ρ μ = (f ρ μ).bind fun ds μ1 => if ds.length ≤ 1000000 then .ok (.lst ds) μ1 else .bad := of_eq_true (eq_self _)
@[simp] theorem ap_cel (f : FA) (ρ : En) (μ : Mu) : dcel f ρ μ = (f ρ μ).bind fun ds μ1 => if ds.length ≤ 1000000 then .ok (.hdl μ1.length) (μ1 ++ [.lst ds]) else .bad := of_eq_true (eq_self _)
@[simp] theorem ap_frz (f : FE) (ρ : En) (μ : Mu) : dfrz f ρ μ = (f ρ μ).bind fun d μ1 => match d with
  | .hdl l => match μ1[l]? with
    | some (.lst xs) => if xs.length ≤ 1000000 then .ok (.lst xs) (μ1.set l .gone) else .bad
    | _ => .bad
  | _ => .bad := of_eq_true (eq_self _)
@[simp] theorem ap_callB (g : List D → Mu → R D) (fa : FA) (ρ : En) (μ : Mu) : dcallB g fa ρ μ = (fa ρ μ).bind fun ds μ1 => g ds μ1 := of_eq_true (eq_self _)
@[simp] theorem ap_call (F : List D → Mu → R D) (dd : List D) (fa : FA) (ρ : En) (μ : Mu) : dcall F dd fa ρ μ = (fa ρ μ).bind fun ds μ1 => F (ds ++ dd) μ1 := of_eq_true (eq_self _)
@[simp] theorem ap_callK (F : List D → Mu → R D) (gD : List D → List D → List D) (fa fk : FA) (ρ : En) (μ : Mu) : dcallK F gD fa fk ρ μ = (fa ρ μ).bind fun ds μ1 => (fk ρ μ1).bind fun es μ2 => F (gD ds es) μ2 := of_eq_true (eq_self _)
@[simp] theorem ap_bm (T : String) (g : D → List D → Mu → R D) (fo : FE) (fa : FA) (ρ : En) (μ : Mu) : dbm T g fo fa ρ μ = (fo ρ μ).bind fun x μ1 => if tyD T x μ1 = true then (fa ρ μ1).bind fun ds μ2 => g x ds μ2 else .bad := of_eq_true (eq_self _)
@[simp] theorem ap_sl (fe : FE) (fl fh : FO) (ρ : En) (μ : Mu) : dsl fe fl fh ρ μ = (fe ρ μ).bind fun x μ1 => (fl ρ μ1).bind fun lo μ2 => (fh ρ μ2).bind fun hi μ3 => R.of (slD x lo hi) μ3 := of_eq_true (eq_self _)
@[simp] theorem ap_onone (ρ : En) (μ : Mu) : onone ρ μ = .ok none μ := of_eq_true (eq_self _)
@[simp] theorem ap_itA (f : FE) (ρ : En) (μ : Mu) : itA f ρ μ = (f ρ μ).bind fun d μ1 => R.of (itemsD d) μ1 := of_eq_true (eq_self _)
@[simp] theorem ap_ite (c : FT) (f g : FE) (ρ : En) (μ : Mu) : dite c f g ρ μ = (c ρ μ).bind fun b μ1 => if b = true then f ρ μ1 else g ρ μ1 := of_eq_true (eq_self _)
@[simp] theorem ap_lc (fi : FA) (vs : List Nat) (t : Tg) (ft : FT) (fe : FE) (ρ : En) (μ : Mu) : dlc fi vs t ft fe ρ μ = (fi ρ μ).bind fun xs μ1 => (lcD t ft fe (wipeD ρ vs) xs μ1).bind fun ys μ2 => .ok (.lst ys) μ2 := of_eq_true (eq_self _)
@[simp] theorem ap_osome (f : FE) (ρ : En) (μ : Mu) : osome f ρ μ = (f ρ μ).bind fun d μ1 => match d with | .int i => .ok (some i) μ1 | _ => .bad := of_eq_true (eq_self _)
@[simp] theorem ap_itR1 (f : FA) (ρ : En) (μ : Mu) : itR1 f ρ μ = (f ρ μ).bind fun ds μ1 => match ds with
  | [.int n] => if n ≤ 1000000 ∧ -1000000 ≤ n then .ok (upto 0 n.toNat) μ1 else .bad
  | _ => .bad := of_eq_true (eq_self _)
@[simp] theorem ap_itR2 (f : FA) (ρ : En) (μ : Mu) : itR2 f ρ μ = (f ρ μ).bind fun ds μ1 => match ds with
  | [.int m, .int n] => if n ≤ 1000000 ∧ -1000000 ≤ m ∧ m ≤ 1000000 ∧ -1000000 ≤ n then .ok (upto m (n - m).toNat) μ1 else .bad
  | _ => .bad := of_eq_true (eq_self _)
@[simp] theorem ap_itE (f : FA) (ρ : En) (μ : Mu) : itE f ρ μ = (f ρ μ).bind fun ds μ1 => match ds with
  | [.lst xs] => .ok (enumD 0 xs) μ1
  | _ => .bad := of_eq_true (eq_self _)
@[simp] theorem ap_lenset (f : FE) (ρ : En) (μ : Mu) : dlenset f ρ μ = (f ρ μ).bind fun d μ1 => match d with
  | .lst ds => match intsD ds with
    | some ns => if ns.length ≤ 1000 then .ok (.int (kinds ns)) μ1 else .bad
    | none => .bad
  | _ => .bad := of_eq_true (eq_self _)
@[simp] theorem items_lst (xs : List D) : itemsD (.lst xs) = some xs := of_eq_true (eq_self _)
@[simp] theorem items_tup (xs : List D) : itemsD (.tup xs) = some xs := of_eq_true (eq_self _)
@[simp] theorem items_str (x : Str) : itemsD (.str x) = some (signs x) := of_eq_true (eq_self _)
@[simp] theorem add_int (i j : Int) (μ : Mu) : addD (.int i) (.int j) μ = .ok (.int (i + j)) μ := of_eq_true (eq_self _)
@[simp] theorem add_str (x y : Str) (μ : Mu) : addD (.str x) (.str y) μ = if x.length + y.length ≤ 1000000 then .ok (.str (x ++ y)) μ else .bad := of_eq_true (eq_self _)
@[simp] theorem add_lst (x y : List D) (μ : Mu) : addD (.lst x) (.lst y) μ = if x.length + y.length ≤ 1000000 then .ok (.lst (x ++ y)) μ else .bad := of_eq_true (eq_self _)
@[simp] theorem sub_int (i j : Int) (μ : Mu) : subD (.int i) (.int j) μ = .ok (.int (i - j)) μ := of_eq_true (eq_self _)
@[simp] theorem mul_int (i j : Int) (μ : Mu) : mulD (.int i) (.int j) μ = if (-(2 ^ 64) < i ∧ i < 2 ^ 64) ∨ (-(2 ^ 64) < j ∧ j < 2 ^ 64) then .ok (.int (i * j)) μ else .bad := of_eq_true (eq_self _)
@[simp] theorem mod_int (i j : Int) (μ : Mu) : modD (.int i) (.int j) μ = if 0 < j then .ok (.int (i % j)) μ else .bad := of_eq_true (eq_self _)
@[simp] theorem fdiv_int (i j : Int) (μ : Mu) : fdivD (.int i) (.int j) μ = if 0 < j ∧ j < 1073741824 then .ok (.int (i / j)) μ else .bad := of_eq_true (eq_self _)
@[simp] theorem pow_int (i j : Int) (μ : Mu) : powD (.int i) (.int j) μ = if 0 ≤ j ∧ j ≤ 1000000 ∧ i.natAbs < 2 ^ 64 then .ok (.int (i ^ j.toNat)) μ else .bad := of_eq_true (eq_self _)
@[simp] theorem lt_int (i j : Int) (μ : Mu) : ltD (.int i) (.int j) μ = .ok (.bl (decide (i < j))) μ := of_eq_true (eq_self _)
@[simp] theorem le_int (i j : Int) (μ : Mu) : leD (.int i) (.int j) μ = .ok (.bl (decide (i ≤ j))) μ := of_eq_true (eq_self _)
@[simp] theorem gt_int (i j : Int) (μ : Mu) : gtD (.int i) (.int j) μ = .ok (.bl (decide (j < i))) μ := of_eq_true (eq_self _)
@[simp] theorem ge_int (i j : Int) (μ : Mu) : geD (.int i) (.int j) μ = .ok (.bl (decide (j ≤ i))) μ := of_eq_true (eq_self _)
@[simp] theorem lt_str (x y : Str) (μ : Mu) : ltD (.str x) (.str y) μ = .ok (.bl (strLt x y)) μ := of_eq_true (eq_self _)
@[simp] theorem le_str (x y : Str) (μ : Mu) : leD (.str x) (.str y) μ = .ok (.bl (!strLt y x)) μ := of_eq_true (eq_self _)
@[simp] theorem is_non (x : D) (μ : Mu) : isD x .non μ = match isNoneD x with | some b => .ok (.bl b) μ | none => .bad := of_eq_true (eq_self _)
@[simp] theorem isnt_non (x : D) (μ : Mu) : isntD x .non μ = match isNoneD x with | some b => .ok (.bl (!b)) μ | none => .bad := of_eq_true (eq_self _)
@[simp] theorem isNone_non : isNoneD .non = some true := of_eq_true (eq_self _)
@[simp] theorem isNone_int (i : Int) : isNoneD (.int i) = some false := of_eq_true (eq_self _)
@[simp] theorem isNone_bl (i : Bool) : isNoneD (.bl i) = some false := of_eq_true (eq_self _)
@[simp] theorem isNone_str (i : Str) : isNoneD (.str i) = some false := of_eq_true (eq_self _)
@[simp] theorem isNone_tup (i : List D) : isNoneD (.tup i) = some false := of_eq_true (eq_self _)
@[simp] theorem isNone_lst (i : List D) : isNoneD (.lst i) = some false := of_eq_true (eq_self _)
@[simp] theorem abs_int (i : Int) (μ : Mu) : bAbs [.int i] μ = .ok (.int (if i < 0 then -i else i)) μ := of_eq_true (eq_self _)
@[simp] theorem append_hdl (l : Nat) (d : D) (μ : Mu) : mAppend (.hdl l) [d] μ = match μ[l]? with
    | some (.lst xs) => if xs.length < 1000000 then .ok .non (μ.set l (.lst (xs ++ [d]))) else .bad
    | _ => .bad := of_eq_true (eq_self _)
theorem for_nil (t : Tg) (b : FS) (ρ : En) (μ : Mu) : forD t b [] ρ μ = .nx ρ μ := by simp [forD]
def O.pass : O → (En → Mu → O) → O
  | .nx ρ μ, k => k ρ μ
  | .ct ρ μ, k => k ρ μ
  | .bk ρ μ, _ => .nx ρ μ
  | .rt d μ, _ => .rt d μ
  | .ex ρ c fs μ, _ => .ex ρ c fs μ
  | .bad, _ => .bad
@[simp] theorem O.pass_nx (ρ : En) (μ : Mu) (k : En → Mu → O) : (O.nx ρ μ).pass k = k ρ μ := of_eq_true (eq_self _)
@[simp] theorem O.pass_ct (ρ : En) (μ : Mu) (k : En → Mu → O) : (O.ct ρ μ).pass k = k ρ μ := of_eq_true (eq_self _)
@[simp] theorem O.pass_bk (ρ : En) (μ : Mu) (k : En → Mu → O) : (O.bk ρ μ).pass k = .nx ρ μ := of_eq_true (eq_self _)
@[simp] theorem O.pass_rt (d : D) (μ : Mu) (k : En → Mu → O) : (O.rt d μ).pass k = .rt d μ := of_eq_true (eq_self _)
@[simp] theorem O.pass_ex (ρ : En) (c : Nat) (fs : List (Str × D)) (μ : Mu) (k : En → Mu → O) : (O.ex ρ c fs μ).pass k = .ex ρ c fs μ := of_eq_true (eq_self _)
theorem pass_if {p : Prop} [Decidable p] (a b : O) (h : En → Mu → O) : (if p then a else b).pass h = if p then a.pass h else b.pass h := by split <;> rfl
theorem for_cons (t : Tg) (b : FS) (x : D) (xs : List D) (ρ : En) (μ : Mu) : forD t b (x :: xs) ρ μ = match asg t x ρ with | none => .bad | some ρ1 => (b ρ1 μ).pass fun ρ2 μ2 => forD t b xs ρ2 μ2 := by
  rw [forD]
  cases asg t x ρ with
  | none => rfl
  | some ρ1 =>
    dsimp only
    cases b ρ1 μ <;> rfl
/-- a loop that never leaves what I says -/
theorem for_inv {t : Tg} {b : FS} (I : En → Mu → Prop) : ∀ {xs : List D} {ρ : En} {μ : Mu}, (∀ x ∈ xs, ∀ ρ μ, I ρ μ → ∃ ρ1 ρ2 μ2, asg t x ρ = some ρ1 ∧ b ρ1 μ = .nx ρ2 μ2 ∧ I ρ2 μ2) → I ρ μ → ∃ ρ' μ', forD t b xs ρ μ = .nx ρ' μ' ∧ I ρ' μ'
  | [], ρ, μ, _, h => ⟨ρ, μ, for_nil _ _ _ _, h⟩
  | x :: xs, ρ, μ, hb, h => by
    obtain ⟨ρ1, ρ2, μ2, e1, e2, i2⟩ := hb x (by simp) ρ μ h
    obtain ⟨ρ', μ', e, i'⟩ := for_inv (xs := xs) I (fun y hy => hb y (List.mem_cons_of_mem _ hy)) i2
    exact ⟨ρ', μ', by rw [for_cons, e1]; dsimp only; rw [e2]; exact e, i'⟩
/-- .. by enumerate -/
theorem for_enum {t : Tg} {b : FS} (I : Nat → En → Mu → Prop) : ∀ {xs : List D} {k : Nat} {ρ : En} {μ : Mu}, (∀ (i : Nat) (x : D), xs[i]? = some x → ∀ ρ μ, I (k + i) ρ μ → ∃ ρ1 ρ2 μ2, asg t (.tup [.int (k + i : Nat), x]) ρ = some ρ1 ∧ b ρ1 μ = .nx ρ2 μ2 ∧ I (k + i + 1) ρ2 μ2) → I k ρ μ →
    ∃ ρ' μ', forD t b (enumD k xs) ρ μ = .nx ρ' μ' ∧ I (k + xs.length) ρ' μ'
  | [], k, ρ, μ, _, h => ⟨ρ, μ, by simp [enumD, for_nil], h⟩
  | x :: xs, k, ρ, μ, hb, h => by
    obtain ⟨ρ1, ρ2, μ2, e1, e2, i2⟩ := hb 0 x rfl ρ μ h
    obtain ⟨ρ', μ', e, i'⟩ := for_enum (xs := xs) (k := k + 1) I (fun i y hy ρ μ hi => by
      have := hb (i + 1) y (by simpa using hy) ρ μ (by rw [show k + (i + 1) = k + 1 + i by omega]; exact hi)
      rw [show k + (i + 1) = k + 1 + i by omega] at this
      exact this) i2
    refine ⟨ρ', μ', ?_, by rw [List.length_cons, show k + (xs.length + 1) = k + 1 + xs.length by omega]; exact i'⟩
    have e1' : asg t (.tup [.int k, x]) ρ = some ρ1 := e1
    rw [enumD, for_cons, e1']
    dsimp only
    rw [e2]
    exact e
theorem take_app {α : Type} (xs ys : List α) : (xs ++ ys).take xs.length = xs := by simp
theorem trunc_app {μ ex : Mu} {d : D} (hd : d.closed μ.length = true) (h : closedMu μ.length μ = true) : trunc μ.length d (μ ++ ex) = .ok d μ := by
  unfold trunc closedMu
  rw [take_app, hd]
  unfold closedMu at h
  rw [List.take_length] at h
  rw [h]
  rfl
theorem trunc_self {μ : Mu} {d : D} (hd : d.closed μ.length = true) (h : closedMu μ.length μ = true) : trunc μ.length d μ = .ok d μ := by
  have := trunc_app (ex := []) hd h
  rwa [List.append_nil] at this
@[simp] theorem callF_eq (n : Nat) (g : FS) (ds : List D) (μ : Mu) (d : D) (μ1 : Mu) (h : g (startD n ds) μ = .rt d μ1) : callF n g ds μ = trunc μ.length d μ1 := by
  unfold callF
  rw [h]
end DL
/-! DL13: the laws' own digits. -/
namespace DL
open PySem L2
def bDig : FS := gif (tand (dtest (dvar 4)) (dtest (dbin gtD (dvar 3) (dc (.int 0))))) (gseq (gexpr (dbm "list" mAppend (dvar 6) (aCons (dbin modD (dvar 3) (dvar 8)) aNil)))
    (gasg (.nm 3) (dbin fdivD (dvar 3) (dvar 8)))) (gseq (gasg (.nm 5) (dbin modD (dbin powD (dbin addD (dvar 5) (dbin mulD (dc (.int 104729)) (dbin addD (dvar 7) (dc (.int 1))))) (dc (.int 2))) (dc (.int 2147483587))))
    (gexpr (dbm "list" mAppend (dvar 6) (aCons (dbin modD (dbin fdivD (dvar 5) (dc (.int 16))) (dvar 8)) aNil))))
def gDig : FS := (gseq (gasg (.nm 3) (dcallB bAbs (aCons (dvar 0) aNil)))
    (gseq (gasg (.nm 4) (dbin geD (dvar 3) (dbin powD (dc (.int 10)) (dc (.int 18)))))
    (gseq (gasg (.nm 5) (dbin addD (dbin modD (dvar 3) (dc (.int 2147483647))) (dbin mulD (dc (.int 7919)) (dvar 1))))
    (gseq (gasg (.nm 6) (dcel aNil))
    (gseq (gfor (itE (aCons (dvar 2) aNil)) (.tp [(.nm 7), (.nm 8)]) bDig)
    (gret (dfrz (dvar 6))))))))
theorem closed_ints (n : Nat) : ∀ ns : List Int, D.closedL n (ns.map .int) = true
  | [] => by simp [D.closedL]
  | a :: ns => by simp [D.closedL, D.closed, closed_ints n ns]
structure DigI (c t : Int) (ss : List Int) (μ : Mu) (k : Nat) (ρ : En) (μ' : Mu) : Prop where
  ex : ∃ (num seed : Int) (w : Bool) (a7 a8 : Option D) (ns : List Int), ρ = [some (.int c), some (.int t), some (.lst (ss.map .int)), some (.int num), some (.bl w), some (.int seed), some (.hdl μ.length), a7, a8] ∧ μ' = μ ++ [.lst (ns.map .int)] ∧ ns.length = k ∧
    (∀ (i : Nat) n s, ns[i]? = some n → ss[i]? = some s → 0 ≤ n ∧ n < s) ∧ 0 ≤ seed ∧ seed ≤ 2 ^ 40
theorem app_at {α : Type} {xs : List α} {y n : α} {i : Nat} (h : (xs ++ [y])[i]? = some n) : xs[i]? = some n ∨ (i = xs.length ∧ n = y) := by
  rcases Nat.lt_or_ge i xs.length with l | l
  · rw [List.getElem?_append_left l] at h
    exact .inl h
  · rw [List.getElem?_append_right l] at h
    rcases Nat.eq_zero_or_pos (i - xs.length) with z | z
    · rw [z] at h
      simp at h
      exact .inr ⟨by omega, h.symm⟩
    · rw [List.getElem?_eq_none (by show [y].length ≤ _; simp; omega)] at h
      cases h
theorem app_set {α : Type} (xs : List α) (x y : α) : (xs ++ [x]).set xs.length y = xs ++ [y] := by simp
theorem dig_step {c t : Int} {ss : List Int} {μ : Mu} (hs : ∀ s ∈ ss, 0 < s ∧ s < 1073741824) (hl : ss.length ≤ 1000) (i : Nat) (s : Int) (hi : ss[i]? = some s) (ρ : En) (μ' : Mu) (h : DigI c t ss μ i ρ μ') :
    ∃ ρ1 ρ2 μ2, asg (.tp [(.nm 7), (.nm 8)]) (.tup [.int i, .int s]) ρ = some ρ1 ∧ bDig ρ1 μ' = .nx ρ2 μ2 ∧ DigI c t ss μ (i + 1) ρ2 μ2 := by
  obtain ⟨num, seed, w, a7, a8, ns, rfl, rfl, hn, hb, h0, h1⟩ := h.ex
  obtain ⟨s0, s1⟩ := hs s (List.mem_of_getElem? hi)
  have hil : i < 1000 := Nat.lt_of_lt_of_le (List.getElem?_eq_some_iff.mp hi).1 hl
  have nl : (ns.map D.int).length < 1000000 := by rw [List.length_map]; omega
  by_cases hw : w = true ∧ 0 < num
  · obtain ⟨rfl, hw⟩ := hw
    refine ⟨[some (.int c), some (.int t), some (.lst (ss.map .int)), some (.int num), some (.bl true), some (.int seed), some (.hdl μ.length), some (.int i), some (.int s)], [some (.int c), some (.int t), some (.lst (ss.map .int)), some (.int (num / s)), some (.bl true), some (.int seed), some (.hdl μ.length), some (.int i), some (.int s)], μ ++ [.lst ((ns ++ [num % s]).map .int)], by simp, by simp [bDig, hw, tyD, s0, s1, hn, show i < 1000000 by omega], ⟨num / s, seed, true, _, _, ns ++ [num % s], rfl, by simp, by simp [hn], fun j n s' e1 e2 => ?_, h0, h1⟩⟩
    rcases app_at e1 with e | ⟨rfl, rfl⟩
    · exact hb j n s' e e2
    · rw [hn] at e2
      rw [hi] at e2
      cases e2
      exact ⟨Int.emod_nonneg _ (by omega), Int.emod_lt_of_pos _ s0⟩
  · have hw' : w = false ∨ ¬ 0 < num := by
      cases w
      · exact .inl rfl
      · exact .inr fun z => hw ⟨rfl, z⟩
    have m0 := Int.emod_nonneg ((seed + 104729 * (((i : Nat) : Int) + 1)) ^ 2) (b := 2147483587) (by omega)
    have m1 := Int.emod_lt_of_pos ((seed + 104729 * (((i : Nat) : Int) + 1)) ^ 2) (b := 2147483587) (by omega)
    have hp : (seed + 104729 * (((i : Nat) : Int) + 1)).natAbs < 18446744073709551616 := by omega
    refine ⟨[some (.int c), some (.int t), some (.lst (ss.map .int)), some (.int num), some (.bl w), some (.int seed), some (.hdl μ.length), some (.int i), some (.int s)], _, _, by simp, ?_, ⟨num, (seed + 104729 * (((i : Nat) : Int) + 1)) ^ 2 % 2147483587, w, some (.int i), some (.int s), ns ++ [(seed + 104729 * (((i : Nat) : Int) + 1)) ^ 2 % 2147483587 / 16 % s], rfl, rfl, by simp [hn], fun j n s' e1 e2 => ?_, m0, by omega⟩⟩
    · rcases hw' with rfl | hw'
      · simp [bDig, tyD, s0, s1, hn, show i < 1000000 by omega, hp]
      · cases w <;> simp [bDig, hw', tyD, s0, s1, hn, show i < 1000000 by omega, hp]
    · rcases app_at e1 with e | ⟨rfl, rfl⟩
      · exact hb j n s' e e2
      · rw [hn] at e2
        rw [hi] at e2
        cases e2
        exact ⟨Int.emod_nonneg _ (by omega), Int.emod_lt_of_pos _ s0⟩
theorem dig_ok (c t : Int) (ht : 0 ≤ t ∧ t ≤ 1000000) (ss : List Int) (hs : ∀ s ∈ ss, 0 < s ∧ s < 1073741824) (hl : ss.length ≤ 1000) (μ : Mu) (hμ : closedMu μ.length μ = true) :
    ∃ ns : List Int, ns.length = ss.length ∧ (∀ (i : Nat) n s, ns[i]? = some n → ss[i]? = some s → 0 ≤ n ∧ n < s) ∧ callF 9 gDig [.int c, .int t, .lst (ss.map .int)] μ = .ok (.lst (ns.map .int)) μ := by
  have m0 := Int.emod_nonneg (if c < 0 then -c else c) (b := 2147483647) (by omega)
  have m1 := Int.emod_lt_of_pos (if c < 0 then -c else c) (b := 2147483647) (by omega)
  have run := for_enum (t := .tp [(.nm 7), (.nm 8)]) (b := bDig) (xs := ss.map D.int) (k := 0) (DigI c t ss μ) (ρ := [some (.int c), some (.int t), some (.lst (ss.map .int)), some (.int (if c < 0 then -c else c)), some (.bl (decide (10 ^ 18 ≤ (if c < 0 then -c else c)))), some (.int ((if c < 0 then -c else c) % 2147483647 + 7919 * t)), some (.hdl μ.length), none, none]) (μ := μ ++ [.lst []])
    (fun i x hx ρ μ' h => by
      rw [List.getElem?_map] at hx
      cases hq : ss[i]? with
      | none => rw [hq] at hx; cases hx
      | some s =>
        rw [hq] at hx
        cases hx
        rw [Nat.zero_add] at h ⊢
        exact dig_step hs hl i s hq ρ μ' h)
    ⟨_, _, _, _, _, [], rfl, rfl, rfl, fun i n s e _ => (by simp at e), by omega, by omega⟩
  obtain ⟨ρ', μ', e, h⟩ := run
  obtain ⟨num, seed, w, a7, a8, ns, rfl, rfl, hn, hb, _, _⟩ := h.ex
  rw [List.length_map, Nat.zero_add] at hn
  refine ⟨ns, hn, hb, ?_⟩
  have body : gDig (startD 9 [.int c, .int t, .lst (ss.map .int)]) μ = .rt (.lst (ns.map .int)) (μ ++ [.gone]) := by
    simp [gDig, startD]
    simp at e
    rw [e]
    simp [show ns.length ≤ 1000000 by omega]
  rw [callF_eq _ _ _ _ _ _ body]
  exact trunc_app (by simp [D.closed, closed_ints]) hμ
end DL
/-! DL14: == and repr of flat things. -/
namespace DL
open PySem L2
@[simp] theorem eq_ints (a b : Int) (μ : Mu) : dEq (.int a) (.int b) μ = .ok (.bl (decide (a = b))) μ := by
  simp [dEq, eqD, D.kd, eqV]
  by_cases h : a = b <;> simp [h]
@[simp] theorem eq_strs (a b : Str) (μ : Mu) : dEq (.str a) (.str b) μ = .ok (.bl (decide (a = b))) μ := by
  simp [dEq, eqD, D.kd, eqV]
  by_cases h : a = b <;> simp [h]
@[simp] theorem eq_non (μ : Mu) : dEq .non .non μ = .ok (.bl true) μ := by simp [dEq, eqD, D.kd, eqV]
@[simp] theorem eq_non_int (a : Int) (μ : Mu) : dEq .non (.int a) μ = .ok (.bl false) μ := by simp [dEq, eqD, D.kd, eqV]
@[simp] theorem eq_int_non (a : Int) (μ : Mu) : dEq (.int a) .non μ = .ok (.bl false) μ := by simp [dEq, eqD, D.kd, eqV]
@[simp] theorem eq_non_str (a : Str) (μ : Mu) : dEq .non (.str a) μ = .ok (.bl false) μ := by simp [dEq, eqD, D.kd, eqV]
@[simp] theorem eq_str_non (a : Str) (μ : Mu) : dEq (.str a) .non μ = .ok (.bl false) μ := by simp [dEq, eqD, D.kd, eqV]
@[simp] theorem ne_strs (a b : Str) (μ : Mu) : dNe (.str a) (.str b) μ = .ok (.bl (!decide (a = b))) μ := by
  simp [dNe, D.kd, scal]
theorem lt_log {i : Int} (h : i.natAbs < 10 ^ 12) : i.natAbs.log2 < 1920 := by
  rcases Nat.eq_zero_or_pos i.natAbs with z | z
  · rw [z]; decide
  · exact (Nat.log2_lt (by omega)).mpr (Nat.lt_trans h (by decide))
/-- a short thing's text -/
theorem repr_short {d : D} {p : PyData} (h : d.py = some p) (h1 : p.leavesShort 13 = true) (h2 : p.showable = true) (h3 : p.hasDict = false) (h4 : p.depth ≤ 40) (h5 : p.bulk ≤ 60000) : reprD d = some p.shown := by
  have := PyData.shown_le_bulk 13 (by decide) p h1
  unfold reprD
  rw [h]
  dsimp only
  rw [if_pos ⟨h2, h3, h4, by omega⟩]
end DL
/-! DL15: an empty dict. -/
namespace DL
open PySem L2
def dnew : FE := fun _ μ => .ok (.hdl μ.length) (μ ++ [.dct [] []])
@[simp] theorem ap_new (ρ : En) (μ : Mu) : dnew ρ μ = .ok (.hdl μ.length) (μ ++ [.dct [] []]) := of_eq_true (eq_self _)
theorem de_dnew {X : Cx} {E : WX} {pos : Pos} : DE X E (.Dict [] [] pos) dnew := pe_imp pe_dnewK fun σ H Q ⟨W, ρ, μ, ok, en, p⟩ => fun q hq =>
  p (W.cell q) _ _ (Go.cell ok hq) (ok.newcell hq (m := .dct [] []) ⟨[], rfl, rfl, .nil⟩) (.hdl (by
    show (W.io ++ [q])[μ.length]? = some q
    rw [← ok.len]
    simp))
end DL
/-! DL16: comprehensions reckoned, closed cells, the laws' own draws. -/
namespace DL
open PySem L2
/-- cells without handles -/
def AllC (μ : Mu) : Prop := ∀ m ∈ μ, ∀ n, m.closed n = true
theorem AllC.mu {μ : Mu} (h : AllC μ) (n : Nat) : closedMu n μ = true := by
  unfold closedMu
  rw [List.all_eq_true]
  exact fun m hm => h m (List.mem_of_mem_take hm) n
theorem AllC.app {μ ex : Mu} (h : AllC μ) (h2 : AllC ex) : AllC (μ ++ ex) := fun m hm n => by
  rcases List.mem_append.mp hm with z | z
  · exact h m z n
  · exact h2 m z n
theorem AllC.set {μ : Mu} (h : AllC μ) (l : Nat) {m : MO} (hm : ∀ n, m.closed n = true) : AllC (μ.set l m) := fun k hk n => by
  rcases List.mem_or_eq_of_mem_set hk with z | z
  · exact h k z n
  · rw [z]; exact hm n
theorem trunc_len {μ μ1 : Mu} {d : D} (hl : μ1.length = μ.length) (hd : d.closed μ.length = true) (h : AllC μ1) : trunc μ.length d μ1 = .ok d μ1 := by
  unfold trunc
  rw [h.mu, hd, ← hl, List.take_length]
  rfl
theorem trunc_more {μ ex : Mu} {d : D} (hd : d.closed μ.length = true) (h : AllC μ) : trunc μ.length d (μ ++ ex) = .ok d μ := trunc_app hd (h.mu _)
@[simp] theorem lc_nil (t : Tg) (ft : FT) (fe : FE) (ρ : En) (μ : Mu) : lcD t ft fe ρ [] μ = .ok [] μ := by simp [lcD]
/-- a comprehension without effects -/
theorem lc_pure {t : Tg} {ft : FT} {fe : FE} {ρ : En} {μ : Mu} (g : D → En) (p : D → Bool) (f : D → D) : ∀ {xs : List D}, (∀ x ∈ xs, asg t x ρ = some (g x) ∧ ft (g x) μ = .ok (p x) μ ∧ (p x = true → fe (g x) μ = .ok (f x) μ)) → lcD t ft fe ρ xs μ = .ok ((xs.filter p).map f) μ
  | [], _ => by simp
  | x :: xs, h => by
    obtain ⟨h1, h2, h3⟩ := h x (by simp)
    have ih := lc_pure g p f (xs := xs) fun y hy => h y (List.mem_cons_of_mem _ hy)
    rw [lcD, h1]
    dsimp only
    rw [h2]
    cases hp : p x with
    | true => simp [hp, h3 hp, ih]
    | false => simp [hp, ih]
/-- .. with effects on the cells, all taken -/
theorem lc_inv {t : Tg} {fe : FE} {ρ : En} (I : Mu → Prop) (P : D → Prop) : ∀ {xs : List D} {μ : Mu}, (∀ x ∈ xs, ∀ μ, I μ → ∃ ρ1 y μ2, asg t x ρ = some ρ1 ∧ fe ρ1 μ = .ok y μ2 ∧ I μ2 ∧ P y) → I μ → ∃ ys μ', lcD t tyes fe ρ xs μ = .ok ys μ' ∧ I μ' ∧ ys.length = xs.length ∧ ∀ y ∈ ys, P y
  | [], μ, _, i => ⟨[], μ, by simp, i, rfl, fun _ z => nomatch z⟩
  | x :: xs, μ, h, i => by
    obtain ⟨ρ1, y, μ2, e1, e2, i2, py⟩ := h x (by simp) μ i
    obtain ⟨ys, μ', e, i', hl, hp⟩ := lc_inv (xs := xs) I P (fun z hz => h z (List.mem_cons_of_mem _ hz)) i2
    refine ⟨y :: ys, μ', ?_, i', by simp [hl], fun z hz => ?_⟩
    · rw [lcD, e1]
      simp [e2, e]
    · rcases List.mem_cons.mp hz with rfl | hz'
      · exact py
      · exact hp z hz'
@[simp] theorem ap_dand (f g : FE) (ρ : En) (μ : Mu) : dand f g ρ μ = (f ρ μ).bind fun d μ1 => match d with | .bl true => g ρ μ1 | .bl false => .ok (.bl false) μ1 | _ => .bad := of_eq_true (eq_self _)
@[simp] theorem ap_dor (f g : FE) (ρ : En) (μ : Mu) : dor f g ρ μ = (f ρ μ).bind fun d μ1 => match d with | .bl true => .ok (.bl true) μ1 | .bl false => g ρ μ1 | _ => .bad := of_eq_true (eq_self _)
@[simp] theorem ap_dnot (f : FE) (ρ : En) (μ : Mu) : dnot f ρ μ = (f ρ μ).bind fun d μ1 => match d with | .bl b => .ok (.bl (!b)) μ1 | _ => .bad := of_eq_true (eq_self _)
@[simp] theorem ap_dneg (f : FE) (ρ : En) (μ : Mu) : dneg f ρ μ = (f ρ μ).bind fun d μ1 => match d with | .int i => .ok (.int (-i)) μ1 | _ => .bad := of_eq_true (eq_self _)
@[simp] theorem ap_chain (g1 g2 : D → D → Mu → R D) (fa fb fc : FE) (ρ : En) (μ : Mu) : dchain g1 g2 fa fb fc ρ μ = (fa ρ μ).bind fun x μ1 => (fb ρ μ1).bind fun y μ2 => (g1 x y μ2).bind fun z μ3 => match z with
  | .bl true => (fc ρ μ3).bind fun w μ4 => g2 y w μ4
  | .bl false => .ok (.bl false) μ3
  | _ => .bad := of_eq_true (eq_self _)
@[simp] theorem isi_ap (d : D) (T : String) (μ : Mu) : bIsi [d, .cst (.ty T)] μ = match tyName μ d with
    | some t => match kitB t T with
      | some b => .ok (.bl b) μ
      | none => .bad
    | none => .bad := of_eq_true (eq_self _)
@[simp] theorem tn_non (μ : Mu) : tyName μ .non = some "NoneType" := of_eq_true (eq_self _)
@[simp] theorem tn_bl (μ : Mu) (b : Bool) : tyName μ (.bl b) = some "bool" := of_eq_true (eq_self _)
@[simp] theorem tn_int (μ : Mu) (b : Int) : tyName μ (.int b) = some "int" := of_eq_true (eq_self _)
@[simp] theorem tn_str (μ : Mu) (b : Str) : tyName μ (.str b) = some "str" := of_eq_true (eq_self _)
@[simp] theorem tn_tup (μ : Mu) (b : List D) : tyName μ (.tup b) = some "tuple" := of_eq_true (eq_self _)
@[simp] theorem tn_lst (μ : Mu) (b : List D) : tyName μ (.lst b) = some "list" := of_eq_true (eq_self _)
@[simp] theorem k_non_str : kitB "NoneType" "str" = some false := by decide +kernel
@[simp] theorem k_bool_str : kitB "bool" "str" = some false := by decide +kernel
@[simp] theorem k_int_str : kitB "int" "str" = some false := by decide +kernel
@[simp] theorem k_str_str : kitB "str" "str" = some true := by decide +kernel
@[simp] theorem k_tup_str : kitB "tuple" "str" = some false := by decide +kernel
@[simp] theorem k_lst_str : kitB "list" "str" = some false := by decide +kernel
@[simp] theorem k_dict_str : kitB "dict" "str" = some false := by decide +kernel
@[simp] theorem ix_lst (xs : List D) (k : Int) (μ : Mu) : dIx (.lst xs) (.int k) μ = R.of (atI xs k) μ := of_eq_true (eq_self _)
@[simp] theorem ix_tup (xs : List D) (k : Int) (μ : Mu) : dIx (.tup xs) (.int k) μ = R.of (atI xs k) μ := of_eq_true (eq_self _)
theorem ix_hdl {l : Nat} {μ : Mu} {xs : List D} (h : μ[l]? = some (.lst xs)) (k : Int) : dIx (.hdl l) (.int k) μ = R.of (atI xs k) μ := by
  simp [dIx, ixD, seqD, h]
@[simp] theorem at0 (x : D) (xs : List D) : atI (x :: xs) 0 = some x := by
  simp [atI, ixN]
@[simp] theorem at1 (x y : D) (xs : List D) : atI (x :: y :: xs) 1 = some y := by
  unfold atI ixN
  rw [if_pos (by decide), if_pos (by simp; omega)]
  rfl
theorem at_lt {xs : List D} {k : Int} (h0 : 0 ≤ k) (h : k < xs.length) : ∃ x, atI xs k = some x ∧ x ∈ xs := by
  have hk : k.toNat < xs.length := by omega
  refine ⟨xs[k.toNat], ?_, List.getElem_mem _⟩
  simp [atI, ixN, h0, h, hk]
theorem seq_assoc (a b c : FS) (ρ : En) (μ : Mu) : gseq a (gseq b c) ρ μ = (gseq a b ρ μ).thn c := by
  rw [ap_seq, ap_seq]
  cases a ρ μ with
  | nx ρ1 μ1 => rw [O.thn_nx, O.thn_nx, ap_seq]
  | _ => rfl
/-! ### the laws' draws -/
def gPool1 : FS := gif (dtest (dbin ltD (dvar 1) (dcallB bLen (aCons (dvar 0) aNil)))) (gasg (.nm 2) (dcallB bAbs (aCons (dbin dIx (dvar 0) (dvar 1)) aNil))) gnil
def gPool2 : FS := (gseq (gasg (.nm 3) (dbin modD (dbin mulD (dbin addD (dbin addD (dbin addD (dbin modD (dvar 2) (dc (.int 2147483629))) (dbin mulD (dbin mulD (dc (.int 7919)) (dvar 1)) (dvar 1))) (dbin mulD (dc (.int 31)) (dvar 1))) (dc (.int 17))) (dc (.int 48271))) (dc (.int 2147483647))))
    (gret (dcel (aCons (dbin mulD (dvar 2) (dcallB bInt (aCons (dbin geD (dvar 2) (dbin powD (dc (.int 10)) (dc (.int 18)))) aNil))) (aCons (dbin modD (dbin mulD (dvar 3) (dvar 3)) (dc (.int 2147483629))) aNil)))))
def gPool : FS := gseq (gasg (.nm 2) (dc (.int 0))) (gseq gPool1 gPool2)
def gTake : FS := (gseq (gif (dtest (dbin gtD (dbin dIx (dvar 0) (dc (.int 0))) (dc (.int 0)))) (gseq (gasg (.nm 2) (dbin modD (dbin dIx (dvar 0) (dc (.int 0))) (dvar 1)))
    (gseq (gsetix (dvar 0) (dc (.int 0)) (dbin fdivD (dbin dIx (dvar 0) (dc (.int 0))) (dvar 1)))
    (gret (dvar 2)))) gnil)
    (gseq (gsetix (dvar 0) (dc (.int 1)) (dbin modD (dbin addD (dbin mulD (dbin dIx (dvar 0) (dc (.int 1))) (dc (.int 48271))) (dc (.int 12345))) (dc (.int 2147483647))))
    (gret (dbin modD (dbin fdivD (dbin modD (dbin mulD (dbin dIx (dvar 0) (dc (.int 1))) (dbin dIx (dvar 0) (dc (.int 1)))) (dc (.int 2147483629))) (dc (.int 64))) (dvar 1)))))
/-- a pool lies at l -/
structure Pool (μ : Mu) (l : Nat) : Prop where
  ex : ∃ a b : Int, μ[l]? = some (.lst [.int a, .int b]) ∧ 0 ≤ b ∧ b < 2147483648
  cl : AllC μ
theorem pool_cl (a b : Int) (n : Nat) : MO.closed n (.lst [.int a, .int b]) = true := by simp [MO.closed, D.closedL, D.closed]
theorem pool2 (s : D) (k : Nat) (hk : k ≤ 1000) (c : Int) (μ : Mu) : ∃ a b : Int, gPool2 [some s, some (.int k), some (.int c), none] μ = .rt (.hdl μ.length) (μ ++ [.lst [.int a, .int b]]) ∧ 0 ≤ b ∧ b < 2147483648 := by
  have m0 := Int.emod_nonneg ((c % 2147483629 + 7919 * (k : Int) * k + 31 * k + 17) * 48271) (b := 2147483647) (by omega)
  have m1 := Int.emod_lt_of_pos ((c % 2147483629 + 7919 * (k : Int) * k + 31 * k + 17) * 48271) (b := 2147483647) (by omega)
  generalize hx : (c % 2147483629 + 7919 * (k : Int) * k + 31 * k + 17) * 48271 % 2147483647 = x at m0 m1
  have n0 := Int.emod_nonneg (x * x) (b := 2147483629) (by omega)
  have n1 := Int.emod_lt_of_pos (x * x) (b := 2147483629) (by omega)
  generalize hy : x * x % 2147483629 = y at n0 n1
  have hk2 : -18446744073709551616 < (k : Int) ∧ (k : Int) < 18446744073709551616 := by omega
  have hx2 : -18446744073709551616 < x ∧ x < 18446744073709551616 := by omega
  by_cases hc18 : (1000000000000000000 : Int) ≤ c
  · exact ⟨c, y, by simp [gPool2, hk2.1, hk2.2, bInt, hc18, hx, hx2.1, hx2.2, hy], n0, by omega⟩
  · exact ⟨0, y, by simp [gPool2, hk2.1, hk2.2, bInt, hc18, hx, hx2.1, hx2.2, hy], n0, by omega⟩
theorem pool_ok (ns : List Int) (hl : ns.length ≤ 1000) (k : Nat) (hk : k ≤ 1000) (μ : Mu) (hμ : AllC μ) : ∃ μ', callF 4 gPool [.lst (ns.map .int), .int k] μ = .ok (.hdl μ.length) μ' ∧ Pool μ' μ.length ∧ ∃ m, μ' = μ ++ [m] := by
  have main : ∀ c : Int, gPool1 [some (.lst (ns.map .int)), some (.int k), some (.int 0), none] μ = .nx [some (.lst (ns.map .int)), some (.int k), some (.int c), none] μ →
      ∃ μ', callF 4 gPool [.lst (ns.map .int), .int k] μ = .ok (.hdl μ.length) μ' ∧ Pool μ' μ.length ∧ ∃ m, μ' = μ ++ [m] := by
    intro c hc
    obtain ⟨a, b, e, b0, b1⟩ := pool2 (.lst (ns.map .int)) k hk c μ
    have body : gPool (startD 4 [.lst (ns.map .int), .int k]) μ = .rt (.hdl μ.length) (μ ++ [.lst [.int a, .int b]]) := by
      simp [gPool, startD, hc, e]
    refine ⟨μ ++ [.lst [.int a, .int b]], ?_, ⟨⟨a, b, by simp, b0, b1⟩, hμ.app fun m hm n => by rw [List.mem_singleton.mp hm]; exact pool_cl _ _ n⟩, _, rfl⟩
    rw [callF_eq _ _ _ _ _ _ body]
    simp [trunc, D.closed]
  by_cases h : k < ns.length
  · refine main (if ns[k] < 0 then -ns[k] else ns[k]) ?_
    have hk' : (k : Int) < ns.length := by omega
    have e : atI (ns.map D.int) k = some (.int ns[k]) := by simp [atI, ixN, h]
    simp [gPool1, bLen, lenD, seqD, hk', e]
  · refine main 0 ?_
    have hk' : ¬ (k : Int) < ns.length := by omega
    simp [gPool1, bLen, lenD, seqD, hk']
theorem take_ok {μ : Mu} {l : Nat} (h : Pool μ l) (n : Int) (hn : 0 < n ∧ n < 1073741824) : ∃ v μ', callF 3 gTake [.hdl l, .int n] μ = .ok (.int v) μ' ∧ 0 ≤ v ∧ v < n ∧ Pool μ' l ∧ μ'.length = μ.length := by
  obtain ⟨a, b, e, b0, b1⟩ := h.ex
  have hll : l < μ.length := (List.getElem?_eq_some_iff.mp e).1
  by_cases ha : 0 < a
  · have body : gTake (startD 3 [.hdl l, .int n]) μ = .rt (.int (a % n)) (μ.set l (.lst [.int (a / n), .int b])) := by
      simp [gTake, startD, ix_hdl e, ha, hn.1, hn.2, gsetix, e, ixN]
    refine ⟨_, _, (callF_eq _ _ _ _ _ _ body).trans (trunc_len (by simp) (by simp [D.closed]) (h.cl.set l (pool_cl _ _))), Int.emod_nonneg _ (by omega), Int.emod_lt_of_pos _ hn.1, ⟨⟨a / n, b, by simp [hll], b0, b1⟩, h.cl.set l (pool_cl _ _)⟩, by simp⟩
  · have m0 := Int.emod_nonneg (b * 48271 + 12345) (b := 2147483647) (by omega)
    have m1 := Int.emod_lt_of_pos (b * 48271 + 12345) (b := 2147483647) (by omega)
    generalize hy : (b * 48271 + 12345) % 2147483647 = y at m0 m1
    have hb2 : -18446744073709551616 < b ∧ b < 18446744073709551616 := by omega
    have hy2 : -18446744073709551616 < y ∧ y < 18446744073709551616 := by omega
    have e2 : (μ.set l (.lst [.int a, .int y]))[l]? = some (.lst [.int a, .int y]) := by simp [hll]
    have body : gTake (startD 3 [.hdl l, .int n]) μ = .rt (.int (y * y % 2147483629 / 64 % n)) (μ.set l (.lst [.int a, .int y])) := by
      simp [gTake, startD, ix_hdl e, ha, hn.1, hn.2, gsetix, e, ixN, hy, ix_hdl e2, hb2.1, hb2.2, hy2.1, hy2.2]
    refine ⟨_, _, (callF_eq _ _ _ _ _ _ body).trans (trunc_len (by simp) (by simp [D.closed]) (h.cl.set l (pool_cl _ _))), Int.emod_nonneg _ (by omega), Int.emod_lt_of_pos _ hn.1, ⟨⟨_, y, e2, m0, by omega⟩, h.cl.set l (pool_cl _ _)⟩, by simp⟩
end DL
/-! DL17: instances of own classes: attributes, methods, making. What is never reached. -/
namespace DL
open PySem L2
/-! ### what is never reached -/
def gbad : FS := fun _ _ => .bad
def dbad : FE := fun _ _ => .bad
theorem ds_bad {X : Cx} {E : WX} {st : Stmt} : DS X E st gbad := ⟨fun pins s σ H D I h => by
  obtain ⟨W, ρ, μ, ok, en, p⟩ := h
  exact p.elim⟩
theorem de_bad {X : Cx} {E : WX} {e : Expr} : DE X E e dbad := ⟨fun pins s σ H D I h => by
  obtain ⟨W, ρ, μ, ok, en, p⟩ := h
  exact p.elim⟩
@[simp] theorem ap_gbad (ρ : En) (μ : Mu) : gbad ρ μ = .bad := of_eq_true (eq_self _)
@[simp] theorem ap_dbad (ρ : En) (μ : Mu) : dbad ρ μ = .bad := of_eq_true (eq_self _)
@[simp] theorem O.thn_bad (h : FS) : O.bad.thn h = .bad := of_eq_true (eq_self _)
/-! ### attributes -/
def putP {α : Type} (f : Str) (x : α) : List Str → List α → List Str × List α
  | g :: ns, y :: ys => if g = f then (g :: ns, x :: ys) else (g :: (putP f x ns ys).1, y :: (putP f x ns ys).2)
  | _, _ => ([f], [x])
theorem putP_zip (f : Str) (v : V) : ∀ {ns : List Str} {vs : List V}, ns.length = vs.length → putF f v (ns.zip vs) = (putP f v ns vs).1.zip (putP f v ns vs).2
  | [], [], _ => rfl
  | [], _ :: _, h => by cases h
  | _ :: _, [], h => by cases h
  | g :: ns, y :: ys, h => by
    simp only [List.zip_cons_cons, putF, putP]
    by_cases e : g = f
    · simp [e]
    · simp [e, putP_zip f v (ns := ns) (vs := ys) (by simpa using h)]
theorem putP_len {α : Type} (f : Str) (v : α) : ∀ {ns : List Str} {vs : List α}, ns.length = vs.length → (putP f v ns vs).1.length = (putP f v ns vs).2.length
  | [], [], _ => rfl
  | [], _ :: _, h => by cases h
  | _ :: _, [], h => by cases h
  | g :: ns, y :: ys, h => by
    simp only [putP]
    by_cases e : g = f
    · simpa [e] using h
    · simp [e, putP_len f v (ns := ns) (vs := ys) (by simpa using h)]
theorem putP_names {α β : Type} (f : Str) (v : α) (d : β) : ∀ {ns : List Str} {vs : List α} {ds : List β}, ns.length = vs.length → ns.length = ds.length → (putP f v ns vs).1 = (putP f d ns ds).1
  | [], [], [], _, _ => rfl
  | [], _ :: _, _, h, _ => by cases h
  | [], [], _ :: _, _, h => by cases h
  | _ :: _, [], _, h, _ => by cases h
  | _ :: _, _ :: _, [], _, h => by cases h
  | g :: ns, y :: ys, z :: zs, h, h2 => by
    simp only [putP]
    by_cases e : g = f
    · simp [e]
    · simp [e, putP_names f v d (ns := ns) (vs := ys) (ds := zs) (by simpa using h) (by simpa using h2)]
theorem putP_reps {K : PySem.W.Frag} {W : Wd} (f : Str) {v : V} {d : D} (r : Rep K W v d) : ∀ {ns : List Str} {vs : List V} {ds : List D}, ns.length = vs.length → Reps K W vs ds → Reps K W (putP f v ns vs).2 (putP f d ns ds).2
  | [], [], [], _, _ => .cons r .nil
  | [], _ :: _, _, h, _ => by cases h
  | _ :: _, [], _, h, _ => by cases h
  | g :: ns, y :: ys, z :: zs, h, .cons r1 r2 => by
    simp only [putP]
    by_cases e : g = f
    · simp only [if_pos e]
      exact .cons r r2
    · simp only [if_neg e]
      exact .cons r1 (putP_reps f r (by simpa using h) r2)
theorem lookup_rep {K : PySem.W.Frag} {W : Wd} {f : Str} {d : D} : ∀ {ns : List Str} {vs : List V} {ds : List D}, Reps K W vs ds → (ns.zip ds).lookup f = some d → ∃ v, (ns.zip vs).lookup f = some v ∧ Rep K W v d
  | [], _, _, _, h => by cases h
  | _ :: _, _, _, .nil, h => by cases h
  | g :: ns, _, _, .cons (v := v) (vs := vs) (d := e) (ds := ds) r rs, h => by
    simp only [List.zip_cons_cons, List.lookup] at h ⊢
    cases hb : (f == g) with
    | true =>
      rw [hb] at h
      cases h
      exact ⟨v, rfl, r⟩
    | false =>
      rw [hb] at h
      exact lookup_rep rs h
theorem lookup_none {K : PySem.W.Frag} {W : Wd} {f : Str} : ∀ {ns : List Str} {vs : List V} {ds : List D}, Reps K W vs ds → (ns.zip ds).lookup f = none → (ns.zip vs).lookup f = none
  | [], _, _, _, _ => rfl
  | _ :: _, _, _, .nil, _ => rfl
  | g :: ns, _, _, .cons (v := v) (vs := vs) (d := e) (ds := ds) r rs, h => by
    simp only [List.zip_cons_cons, List.lookup] at h ⊢
    cases hb : (f == g) with
    | true => rw [hb] at h; cases h
    | false =>
      rw [hb] at h
      exact lookup_none rs h
/-- an instance: its class and its attributes -/
def insD (μ : Mu) : D → Option (Nat × List (Str × D))
  | .obj C fs => some (C, fs)
  | .hdl l => match μ[l]? with
    | some (.ins C ns xs) => some (C, ns.zip xs)
    | _ => none
  | _ => none
theorem ins_rep {K : PySem.W.Frag} {W : Wd} {H : Hp} {μ : Mu} {v : V} {d : D} {C : Nat} {fs : List (Str × D)} (ok : Ok K W H μ) (r : Rep K W v d) (h : insD μ d = some (C, fs)) :
    ∃ (a dx : Addr) (ns : List Str) (vs : List V) (ds : List D), v = .ref a ∧ H a = some (.ins (cl K C) dx (ns.zip vs)) ∧ fs = ns.zip ds ∧ Reps K W vs ds := by
  cases r with
  | obj h1 e rs =>
    simp [insD] at h
    obtain ⟨rfl, rfl⟩ := h
    exact ⟨_, _, _, _, _, rfl, ok.sub _ _ h1, rfl, rs⟩
  | @hdl a l ha =>
    unfold insD at h
    dsimp only at h
    cases hm : μ[l]? with
    | none => rw [hm] at h; cases h
    | some m =>
      rw [hm] at h
      cases m with
      | ins C' ns xs =>
        cases h
        obtain ⟨o, ho, dx, vs, rfl, hl, rs⟩ := ok.cell l a _ ha hm
        exact ⟨_, _, _, _, _, rfl, ho, rfl, rs⟩
      | _ => cases h
  | _ => simp [insD] at h
def atD (cs : List Nat) (f : Str) (μ : Mu) (d : D) : Option D := match insD μ d with
  | some (C, fs) => if C ∈ cs then fs.lookup f else none
  | none => none
def dat (cs : List Nat) (f : Str) (fo : FE) : FE := fun ρ μ => (fo ρ μ).bind fun d μ1 => R.of (atD cs f μ1 d) μ1
@[simp] theorem ap_at (cs : List Nat) (f : Str) (fo : FE) (ρ : En) (μ : Mu) : dat cs f fo ρ μ = (fo ρ μ).bind fun d μ1 => R.of (atD cs f μ1 d) μ1 := of_eq_true (eq_self _)
section
variable {X : Cx} {E : WX} {e o : Expr} {fe fo : FE} {f : Str} {pos pos' : Pos} {cs : List Nat}
theorem de_at (hc : ∀ C ∈ cs, Cls X.K (cl X.K C) ∧ NoAttr X.K (cl X.K C) f) (he : DE X E e fe) (hb : attributeBase e f X.env (eval e X.env) = eval e X.env := by rfl) : DE X E (.Attribute e f pos) (dat cs f fe) := by
  refine pe_imp (pe_fld he hb) fun σ H Q ⟨W, ρ, μ, ok, en, p⟩ => ?_
  refine seq p ok en fun d μ1 W1 v H1 g1 o1 en1 r p1 => ?_
  unfold atD at p1
  cases hi : insD μ1 d with
  | none => rw [hi] at p1; exact p1.elim
  | some q =>
    obtain ⟨C, fs⟩ := q
    rw [hi] at p1
    dsimp only at p1
    by_cases hC : C ∈ cs
    · rw [if_pos hC] at p1
      cases hl : fs.lookup f with
      | none => rw [hl] at p1; exact p1.elim
      | some x =>
        rw [hl] at p1
        obtain ⟨a, dx, ns, vs, ds, rfl, ha, rfl, rs⟩ := ins_rep o1 r hi
        obtain ⟨w, hw, rw1⟩ := lookup_rep rs hl
        exact ⟨a, _, dx, _, w, rfl, ha, (hc C hC).1, (hc C hC).2, hw, post_pure o1 p1 rw1⟩
    · rw [if_neg hC] at p1
      exact p1.elim
/-- o.f = e on an instance that is a cell -/
def gsetat (cs : List Nat) (f : Str) (fo fe : FE) : FS := fun ρ μ => (fe ρ μ).to ρ fun d μ1 => (fo ρ μ1).to ρ fun x μ2 => match x with
  | .hdl l => match μ2[l]? with
    | some (.ins C ns xs) => if C ∈ cs ∧ ns.length < 900 ∧ ns.length = xs.length then .nx ρ (μ2.set l (.ins C (putP f d ns xs).1 (putP f d ns xs).2)) else .bad
    | _ => .bad
  | _ => .bad
theorem ds_setat (hc : ∀ C ∈ cs, Cls X.K (cl X.K C) ∧ NoAttr X.K (cl X.K C) f) (he : DE X E e fe) (ho : DE X E o fo) (hs : swapsWith e (some (.Attribute o f pos')) pos.line X.env = pure false := by rfl) : DS X E (.Assign [.Attribute o f pos'] e pos) (gsetat cs f fo fe) := by
  refine ps_imp (ps_fld ho he hs) fun Z σ H ⟨W, ρ, μ, ok, en, p⟩ => ?_
  refine seqS p ok en fun d μ1 W1 v H1 g1 o1 en1 r p1 => ?_
  refine seqS p1 o1 en1 fun x μ2 W2 xv H2 g2 o2 en2 r2 p2 => ?_
  split at p2
  · rename_i l
    split at p2
    · rename_i C ns xs hm
      split at p2
      · rename_i hq
        obtain ⟨hC, hn, hl⟩ := hq
        cases r2 with
        | @hdl a _ ha =>
          obtain ⟨ob, hob, dx, vs, rfl, hlv, rs⟩ := o2.cell l a _ ha hm
          obtain ⟨ok4, g4⟩ := o2.setcell (m' := .ins C (putP f d ns xs).1 (putP f d ns xs).2) (o' := .ins (cl X.K C) dx (putF f v (ns.zip vs))) ha hm (fun z => nomatch z) ⟨dx, (putP f v ns vs).2, by rw [putP_zip f v hlv, putP_names f v d hlv hl], by rw [← putP_names f v d hlv hl]; exact putP_len f v hlv, putP_reps f (r.mono g2.le) hlv rs⟩
          refine ⟨a, _, dx, _, rfl, hob, (hc C hC).1, (hc C hC).2, ?_, p2 _ _ _ g4 ok4 en2⟩
          rw [List.length_zip]
          omega
      · exact p2.elim
    · exact p2.elim
  · exact p2.elim
end
/-! ### methods -/
/-- o.m(..) of the class C, m no attribute of its own -/
def dmeth (C : Nat) (m : Str) (F : List D → Mu → R D) (dd : List D) (fo : FE) (fa : FA) : FE := fun ρ μ => (fo ρ μ).bind fun o μ1 => match insD μ1 o with
  | some (C', fs) => if C' = C ∧ (fs.lookup m).isNone = true then (fa ρ μ1).bind fun ds μ2 => F ((o :: ds) ++ dd) μ2 else .bad
  | none => .bad
@[simp] theorem ap_meth (C : Nat) (m : Str) (F : List D → Mu → R D) (dd : List D) (fo : FE) (fa : FA) (ρ : En) (μ : Mu) : dmeth C m F dd fo fa ρ μ = (fo ρ μ).bind fun o μ1 => match insD μ1 o with
  | some (C', fs) => if C' = C ∧ (fs.lookup m).isNone = true then (fa ρ μ1).bind fun ds μ2 => F ((o :: ds) ++ dd) μ2 else .bad
  | none => .bad := of_eq_true (eq_self _)
section
variable {X : Cx} {E : WX} {k C : Nat} {f : Addr} {fd : FuncData} {ps : List Str} {F : List D → Mu → R D} {dd : List D} {m : Str} {p pos apos : Pos} {o e : Expr} {es : List Expr} {fo : FE} {fa : FA}
theorem de_meth {pl : Sem Bool} (G : FnG X.prog X.w X.K X.mg X.base k f fd ps F) (c : Cal X E k) (hC : Cls X.K (cl X.K C)) (hm : Meth X.K (cl X.K C) m f) (b : Dfl X.K fd ps ((e :: es).length + 1) dd) (ho : DE X E o fo) (ha : DA X E (e :: es) fa)
    (hf : HasLen fa (e :: es).length := by repeat (first | exact aNil_len | refine aCons_len ?_)) (hst : starEach (e :: es) X.env = (false, eval e X.env) :: starEach es X.env := by rfl) (hpl : (backTo pos (starEach es X.env)).any (·.1) = false := by rfl)
    (ht : eval (.Call (.Attribute o m apos) (e :: es) [] pos) X.env = (do
      let ov ← eval o X.env
      standAt apos.atName
      let (f, first) ← holding [ov] (getMethod ov m pl)
      callWith pos f first (backTo pos (starEach (e :: es) X.env)) (backToKw pos (keywordEach [] X.env))) := by rfl) :
    DE X E (.Call (.Attribute o m apos) (e :: es) [] pos) (dmeth C m F dd fo fa) := by
  refine ⟨fun pins s σ H Q I q => ?_⟩
  obtain ⟨W, ρ, μ, ok, en, pq⟩ := q
  unfold dmeth at pq
  have rd : rE X.K E fo σ H (fun x H1 => ∃ W1 d μ1 a dx fs, x = .ref a ∧ H1 a = some (.ins (cl X.K C) dx fs) ∧ fs.lookup m = none ∧ Ok X.K W1 H1 μ1 ∧ Envs X.K W1 σ ρ ∧ Rep X.K W1 x d ∧ postE X.K (WE E σ) W1 H1 ((fa ρ μ1).bind fun ds μ2 => F ((d :: ds) ++ dd) μ2) Q) := by
    refine seq pq ok en fun d μ1 W1 v H1 g1 o1 en1 r p1 => ?_
    cases hi : insD μ1 d with
    | none => rw [hi] at p1; exact p1.elim
    | some z =>
      obtain ⟨C', fs⟩ := z
      rw [hi] at p1
      dsimp only at p1
      by_cases hq : C' = C ∧ (fs.lookup m).isNone = true
      · rw [if_pos hq] at p1
        obtain ⟨rfl, hn⟩ := hq
        obtain ⟨a, dx, ns, vs, ds, rfl, ha, rfl, rs⟩ := ins_rep o1 r hi
        exact ⟨W1, d, μ1, a, dx, _, rfl, ha, lookup_none rs (Option.isNone_iff_eq_none.mp hn), o1, en1, r, p1⟩
      · rw [if_neg hq] at p1
        exact p1.elim
  refine PySem.W.methodCall_KW (pl := pl) (thn (ho.run pins s σ H _ I rd) fun u s1 ⟨x, H1, I1, rx, W1, d, μ1, a, dx, fs, ex, ea, l, o1, en1, r1, q1⟩ => ?_) ht
  subst ex
  obtain rfl : u = Value.ref a := rx
  refine getmeth_ok I1 ea hC hm l ?_
  have rd2 : rA X.K E fa σ H1 (fun vs H2 => ∃ W2 ds μ2, vs.length = (e :: es).length ∧ Ok X.K W2 H2 μ2 ∧ Le W1 W2 ∧ Reps X.K W2 vs ds ∧ postE X.K (WE E σ) W2 H2 (F ((d :: ds) ++ dd) μ2) Q) := by
    refine ⟨W1, ρ, μ1, o1, en1, ?_⟩
    revert q1
    cases hq : fa ρ μ1 with
    | ok ds μ2 => exact fun p W2 xs H2 g o r => ⟨W2, ds, μ2, by rw [r.length]; exact hf ρ μ1 ds μ2 hq, o, g.le, r, post.mono g p⟩
    | ex c fs μ1 => exact fun p => p
    | bad => exact fun p => p
  refine PySem.W.callWith_K (first := [.ref a]) (h₀ := X.base) I.ok.mod.kin hm.kp (thn (ha.run pos pins s1 σ H1 _ I1 rd2) fun us s2 ⟨vs, H2, I2, r, W2, ds, μ2, hn, o2, l2, r2, q2⟩ => ⟨I2.kIn, ?_⟩) hst hpl
  exact callF_args (us := .ref a :: us) (vs := .ref a :: vs) (n := (e :: es).length + 1) G c b I2 (by rw [List.length_cons, ← r.length, hn]) (.cons rfl r) o2 (.cons (r1.mono l2) r2) q2
theorem de_meth0 {pl : Sem Bool} (G : FnG X.prog X.w X.K X.mg X.base k f fd ps F) (c : Cal X E k) (hC : Cls X.K (cl X.K C)) (hm : Meth X.K (cl X.K C) m f) (b : Dfl X.K fd ps 1 dd) (ho : DE X E o fo)
    (ht : eval (.Call (.Attribute o m apos) [] [] pos) X.env = (do
      let ov ← eval o X.env
      standAt apos.atName
      let (f, first) ← holding [ov] (getMethod ov m pl)
      callWith pos f first (backTo pos (starEach [] X.env)) (backToKw pos (keywordEach [] X.env))) := by rfl) :
    DE X E (.Call (.Attribute o m apos) [] [] pos) (dmeth C m F dd fo aNil) := by
  refine ⟨fun pins s σ H Q I q => ?_⟩
  obtain ⟨W, ρ, μ, ok, en, pq⟩ := q
  unfold dmeth at pq
  have rd : rE X.K E fo σ H (fun x H1 => ∃ W1 d μ1 a dx fs, x = .ref a ∧ H1 a = some (.ins (cl X.K C) dx fs) ∧ fs.lookup m = none ∧ Ok X.K W1 H1 μ1 ∧ Rep X.K W1 x d ∧ postE X.K (WE E σ) W1 H1 (F ([d] ++ dd) μ1) Q) := by
    refine seq pq ok en fun d μ1 W1 v H1 g1 o1 en1 r p1 => ?_
    cases hi : insD μ1 d with
    | none => rw [hi] at p1; exact p1.elim
    | some z =>
      obtain ⟨C', fs⟩ := z
      rw [hi] at p1
      dsimp only at p1
      by_cases hq : C' = C ∧ (fs.lookup m).isNone = true
      · rw [if_pos hq] at p1
        obtain ⟨rfl, hn⟩ := hq
        obtain ⟨a, dx, ns, vs, ds, rfl, ha, rfl, rs⟩ := ins_rep o1 r hi
        unfold aNil at p1
        rw [R.bind_ok] at p1
        exact ⟨W1, d, μ1, a, dx, _, rfl, ha, lookup_none rs (Option.isNone_iff_eq_none.mp hn), o1, r, p1⟩
      · rw [if_neg hq] at p1
        exact p1.elim
  refine PySem.W.methodCall_KW (pl := pl) (thn (ho.run pins s σ H _ I rd) fun u s1 ⟨x, H1, I1, rx, W1, d, μ1, a, dx, fs, ex, ea, l, o1, r1, q1⟩ => ?_) ht
  subst ex
  obtain rfl : u = Value.ref a := rx
  refine getmeth_ok I1 ea hC hm l ?_
  exact PySem.W.callWith_K0 (first := [.ref a]) I1.kIn hm.kp (callF_args (us := [.ref a]) (vs := [.ref a]) (n := 1) G c b I1 rfl (.cons rfl .nil) o1 (.cons r1 .nil) q1)
end
/-! ### making -/
/-- a new instance that is changed later -/
def makeM (C : Nat) (F : List D → Mu → R D) (g : D → List D) (μ : Mu) : R D := match F (g (.hdl μ.length)) (μ ++ [.ins C [] []]) with
  | .ok .non μ1 => .ok (.hdl μ.length) μ1
  | .ex c fs μ1 => .ex c fs μ1
  | _ => .bad
/-- .. that never changes any more -/
def makeO (C : Nat) (F : List D → Mu → R D) (g : D → List D) (μ : Mu) : R D := match F (g (.hdl μ.length)) (μ ++ [.ins C [] []]) with
  | .ok .non μ1 => match μ1[μ.length]? with
    | some (.ins C' ns xs) => trunc μ.length (.obj C' (ns.zip xs)) (μ1.set μ.length .gone)
    | _ => .bad
  | .ex c fs μ1 => truncX μ.length c fs μ1
  | _ => .bad
end DL
/-! DL18: an instance made by a call of its class. -/
namespace DL
open PySem L2
section
variable {K : PySem.W.Frag} {W : Wd} {H : Hp} {μ : Mu} {x dx : Addr} {C : Nat}
theorem born_ok (ok : Ok K W H μ) (h1 : H x = none) (h2 : H dx = none) (hne : dx ≠ x) : Ok K (W.cell x) (upd (upd H dx (.own x)) x (.ins (cl K C) dx [])) (μ ++ [.ins C [] []]) ∧ Go W H (W.cell x) (upd (upd H dx (.own x)) x (.ins (cl K C) dx [])) := by
  have ok1 : Ok K W (upd H dx (.own x)) μ := ok.other (ok.snone h2) (ok.notio h2) (.inl h2)
  have hx : upd H dx (.own x) x = none := by rw [upd_ne (fun z => hne z.symm)]; exact h1
  exact ⟨ok1.newcell hx ⟨dx, [], rfl, rfl, .nil⟩, ((Go.refl W H).other h2).trans (Go.cell ok1 hx)⟩
theorem cell_last (ok : Ok K W H μ) {W' : Wd} (l : Le (W.cell x) W') : W'.io[μ.length]? = some x := prefix_get l.io (by
  show (W.io ++ [x])[μ.length]? = some x
  rw [← ok.len]
  simp)
end
section
variable {X : Cx} {E : WX} {k C : Nat} {f : Addr} {fd : FuncData} {ps : List Str} {F : List D → Mu → R D}
/-- what the call of the class must give for what its __init__ gives -/
def MkQ (K : PySem.W.Frag) (E : WX) (C : Nat) (F : List D → Mu → R D) (g : D → List D) (r : Mu → R D) : Prop := ∀ (E' : XK) (W : Wd) (H : Hp) (μ : Mu) (x dx : Addr) (Q : VK), Ok K W H μ → H x = none → H dx = none → dx ≠ x → postE K E' W H (r μ) Q →
  postE K E' (W.cell x) (upd (upd H dx (.own x)) x (.ins (cl K C) dx [])) (F (g (.hdl μ.length)) (μ ++ [.ins C [] []])) (fun v H3 => v = .non ∧ Q (.ref x) H3)
theorem mkq_M {K : PySem.W.Frag} {g : D → List D} : MkQ K E C F g (makeM C F g) := by
  intro E' W H μ x dx Q ok h1 h2 hne p
  obtain ⟨ok1, g1⟩ := born_ok (C := C) ok h1 h2 hne
  unfold makeM at p
  revert p
  cases F (g (.hdl μ.length)) (μ ++ [.ins C [] []]) with
  | ok d μ2 =>
    intro p W' v H' g2 o2 r2
    cases r2 with
    | non => exact ⟨rfl, p W' (.ref x) H' (g1.trans g2) o2 (.hdl (cell_last ok g2.le))⟩
    | _ => exact p.elim
  | ex c fs μ2 => exact fun p W' H' d g2 o2 r2 => p W' H' d (g1.trans g2) o2 r2
  | bad => exact fun p => p
theorem mkq_O {K : PySem.W.Frag} {g : D → List D} : MkQ K E C F g (makeO C F g) := by
  intro E' W H μ x dx Q ok h1 h2 hne p
  obtain ⟨ok1, g1⟩ := born_ok (C := C) ok h1 h2 hne
  unfold makeO at p
  revert p
  cases F (g (.hdl μ.length)) (μ ++ [.ins C [] []]) with
  | ok d μ2 =>
    intro p W' v H' g2 o2 r2
    cases r2 with
    | non =>
      dsimp only at p
      cases hm : μ2[μ.length]? with
      | none => rw [hm] at p; exact p.elim
      | some m =>
        rw [hm] at p
        cases m with
        | ins C' ns xs =>
          have hio := cell_last ok g2.le
          obtain ⟨o, ho, dx', vs, rfl, hl, rs⟩ := o2.cell _ _ _ hio hm
          obtain ⟨ok3, g3⟩ := o2.freeze hio hm (fun z => nomatch z) ho
          refine ⟨rfl, trunc_post ok.len p ((g1.trans g2).trans g3) ok3 (.obj (dx := dx') (vs := vs) ?_ hl (rs.mono g3.le))⟩
          show upd W'.S x _ x = _
          exact upd_same
        | _ => exact p.elim
    | _ => exact p.elim
  | ex c fs μ2 => exact fun p W' H' d g2 o2 r2 => truncX_post ok.len p (g1.trans g2) o2 r2
  | bad => exact fun p => p
/-- the call itself; uz, vz: what comes to the parameters for self -/
theorem run_born {pins : List (Addr × Obj)} {σ : St} {H : Hp} {s : Shared} {Q : VK} {us : List Value} {kw : List (Str × Value)} {W : Wd} {μ : Mu} {g : D → List D} {r : Mu → R D} (M : Mk X.K (cl X.K C) f) (G : FnG X.prog X.w X.K X.mg X.base k f fd ps F) (c : Cal X E (k + 1))
    (I : Inv X pins σ H s) (uz : Value → List Value) (vz : V → List V) (hl : ∀ u, (uz u).length = ps.length) (hb : ∀ (s' : Shared) (a : Addr), X.K.In s'.heap → BindsTo s' fd ⟨.ref a :: us, kw⟩ (ps.zip (uz (.ref a)))) (rv : ∀ a : Addr, Vals (vz (.ref a)) (uz (.ref a)))
    (ok : Ok X.K W H μ) (rp : ∀ (W' : Wd) (a : Addr), Le W W' → Rep X.K W' (.ref a) (.hdl μ.length) → Reps X.K W' (vz (.ref a)) (g (.hdl μ.length))) (mk : MkQ X.K E C F g r) (q : postE X.K (WE E σ) W H (r μ) Q) :
    wpAny (model X.prog X.w) X.A (call (.ref (cl X.K C)) us kw) (EP X pins σ Q) X.xe s := by
  have n1 := I.hok.fresh (Nat.le_succ s.heap.objs.size)
  have n2 := I.hok.fresh (Nat.le_refl s.heap.objs.size)
  have ne : s.heap.objs.size ≠ s.heap.objs.size + 1 := Nat.ne_of_lt (Nat.lt_succ_self _)
  have hq := mk (WE E σ) W H μ (s.heap.objs.size + 1) s.heap.objs.size Q ok n1 n2 ne q
  obtain ⟨ok1, g1⟩ := born_ok (C := C) ok n1 n2 ne
  have I2 := Inv.made (C := cl X.K C) I
  have gd : (X.A.under (.builtin "type.__call__" ⟨.ref (cl X.K C) :: us, kw⟩)).guards = some [] := by
    have e : Code.guards (.builtin "type.__call__" ⟨.ref (cl X.K C) :: us, kw⟩) = [] := by simp [Code.guards, Code.isGuard, guardIds]
    unfold Around.under
    dsimp only
    rw [e, c.guards]
    rfl
  refine wpAny_call (make_map (f := f) I.kIn M.makes M.init (beq_iff_eq.mp M.fn) (codeAny_mono (G.run _ X.stack _ _ ⟨Value.ref (s.heap.objs.size + 1) :: us, kw⟩ (uz (.ref (s.heap.objs.size + 1))) (vz (.ref (s.heap.objs.size + 1))) _ (WE E σ) _ _ _ (c.room.make (cl X.K C) us kw) gd
    (I2.env0.make (cl X.K C) us kw) (hl _) (hb _ _ I2.kIn) (rv _) ok1 (rp _ _ g1.le (.hdl (cell_last ok (Le.refl _)))) hq) fun z s' hq' => ?_))
  cases z with
  | error e => exact c.pass σ pins _ _ e s' I2 hq'
  | ok fl =>
    cases fl with
    | ret u =>
      obtain ⟨v, H', I3, rr, ev, q3⟩ := I2.after hq'
      subst ev
      exact ⟨rr, ⟨V.ref (s.heap.objs.size + 1), H', I3, rfl, q3⟩⟩
    | next => exact hq'.elim
    | brk => exact hq'.elim
    | cont => exact hq'.elim
end
/-- C(e, ..), C(e, .., k = v, ..): mk is makeM or makeO -/
def dmake (mk : (D → List D) → Mu → R D) (dd : List D) (fa : FA) : FE := fun ρ μ => (fa ρ μ).bind fun ds μ1 => mk (fun x => (x :: ds) ++ dd) μ1
def dmakeK (mk : (D → List D) → Mu → R D) (gD : List D → List D → List D) (fa fk : FA) : FE := fun ρ μ => (fa ρ μ).bind fun ds μ1 => (fk ρ μ1).bind fun es μ2 => mk (fun x => gD (x :: ds) es) μ2
@[simp] theorem ap_make (mk : (D → List D) → Mu → R D) (dd : List D) (fa : FA) (ρ : En) (μ : Mu) : dmake mk dd fa ρ μ = (fa ρ μ).bind fun ds μ1 => mk (fun x => (x :: ds) ++ dd) μ1 := of_eq_true (eq_self _)
@[simp] theorem ap_makeK (mk : (D → List D) → Mu → R D) (gD : List D → List D → List D) (fa fk : FA) (ρ : En) (μ : Mu) : dmakeK mk gD fa fk ρ μ = (fa ρ μ).bind fun ds μ1 => (fk ρ μ1).bind fun es μ2 => mk (fun x => gD (x :: ds) es) μ2 := of_eq_true (eq_self _)
section
variable {X : Cx} {E : WX} {k n C : Nat} {f : Addr} {fd : FuncData} {ps ks : List Str} {F : List D → Mu → R D} {dd : List D} {gD : List D → List D → List D} {x : Str} {p pos kpos : Pos} {e : Expr} {es : List Expr} {kws : List Keyword} {fa fk : FA} {mk : (D → List D) → Mu → R D}
theorem de_make (M : Mk X.K (cl X.K C) f) (G : FnG X.prog X.w X.K X.mg X.base k f fd ps F) (c : Cal X E (k + 1)) (hm : X.mg x = some (.ref (cl X.K C))) (b : Dfl X.K fd ps ((e :: es).length + 1) dd) (hk : ∀ g, MkQ X.K E C F g (mk g)) (ha : DA X E (e :: es) fa)
    (hf : HasLen fa (e :: es).length := by repeat (first | exact aNil_len | refine aCons_len ?_)) (hg : Gl X x := by rfl) (hdb : (x == ("__debug__" : Str)) = false := by decide) (he : starEach (e :: es) X.env = (false, eval e X.env) :: starEach es X.env := by rfl) (hpl : (backTo pos (starEach es X.env)).any (·.1) = false := by rfl) :
    DE X E (.Call (.Name x p) (e :: es) [] pos) (dmake mk dd fa) := by
  refine ⟨fun pins s σ H Q I q => ?_⟩
  obtain ⟨W, ρ, μ, ok, en, pq⟩ := q
  refine wpAny_Call_Name_kw (ld_glob I hg hm ?_ hdb)
  unfold dmake at pq
  have rd : rA X.K E fa σ H (fun vs H1 => ∃ W1 ds μ1, vs.length = (e :: es).length ∧ Ok X.K W1 H1 μ1 ∧ Reps X.K W1 vs ds ∧ postE X.K (WE E σ) W1 H1 (mk (fun x => (x :: ds) ++ dd) μ1) Q) := by
    refine ⟨W, ρ, μ, ok, en, ?_⟩
    revert pq
    cases hq : fa ρ μ with
    | ok ds μ1 => exact fun p W1 xs H1 g o r => ⟨W1, ds, μ1, by rw [r.length]; exact hf ρ μ ds μ1 hq, o, r, post.mono g p⟩
    | ex c fs μ1 => exact fun p => p
    | bad => exact fun p => p
  refine PySem.W.callWith_K (h₀ := X.base) I.ok.mod.kin M.kp (thn (ha.run pos pins s σ H _ I rd) fun us s1 ⟨vs, H1, I1, r, W1, ds, μ1, hn, o1, r1, q1⟩ => ⟨I1.kIn, ?_⟩) he hpl
  obtain ⟨dvs, d0, r0, rd0, hl, hb⟩ := b.ex
  have hu : us.length = (e :: es).length := by rw [← r.length]; exact hn
  have hlen : ∀ u : Value, ((u :: us) ++ d0).length = ps.length := fun u => by rw [List.length_append, List.length_cons, hu]; exact hl
  exact run_born M G c I1 (fun u => (u :: us) ++ d0) (fun v => (v :: vs) ++ dvs) hlen (fun s' a kin => hb s' (.ref a :: us) kin (hlen _)) (fun a => (Vals.append (.cons rfl r) r0)) o1 (fun W' a l ra => (Reps.cons ra (r1.mono l)).app (rd0 W')) (hk _) q1
theorem de_make0 (M : Mk X.K (cl X.K C) f) (G : FnG X.prog X.w X.K X.mg X.base k f fd ps F) (c : Cal X E (k + 1)) (hm : X.mg x = some (.ref (cl X.K C))) (b : Dfl X.K fd ps 1 dd) (hk : ∀ g, MkQ X.K E C F g (mk g))
    (hg : Gl X x := by rfl) (hdb : (x == ("__debug__" : Str)) = false := by decide) : DE X E (.Call (.Name x p) [] [] pos) (dmake mk dd aNil) := by
  refine ⟨fun pins s σ H Q I q => ?_⟩
  obtain ⟨W, ρ, μ, ok, en, pq⟩ := q
  refine wpAny_Call_Name_kw (ld_glob I hg hm ?_ hdb)
  unfold dmake aNil at pq
  rw [R.bind_ok] at pq
  obtain ⟨dvs, d0, r0, rd0, hl, hb⟩ := b.ex
  have hlen : ∀ u : Value, ([u] ++ d0).length = ps.length := fun u => by rw [List.length_append]; exact hl
  exact PySem.W.callWith_K0 I.kIn M.kp (run_born M G c I (fun u => [u] ++ d0) (fun v => [v] ++ dvs) hlen (fun s' a kin => hb s' [.ref a] kin (hlen _)) (fun a => (Vals.append (.cons rfl .nil) r0)) ok (fun W' a l ra => (Reps.cons ra .nil).app (rd0 W')) (hk _) pq)
theorem de_makeK (M : Mk X.K (cl X.K C) f) (G : FnG X.prog X.w X.K X.mg X.base k f fd ps F) (c : Cal X E (k + 1)) (hm : X.mg x = some (.ref (cl X.K C))) (b : KDfl X.K fd ps ((e :: es).length + 1) ks gD) (hk : ∀ g, MkQ X.K E C F g (mk g)) (ha : DA X E (e :: es) fa) (hkw : DK X E kws fk)
    (hf : HasLen fa (e :: es).length := by repeat (first | exact aNil_len | refine aCons_len ?_)) (hf2 : HasLen fk ks.length := by repeat (first | exact aNil_len | refine aCons_len ?_))
    (hall : (backToKw pos (keywordEach kws X.env)).all (·.1.isSome) = true := by rfl) (hks : (backToKw pos (keywordEach kws X.env)).filterMap (·.1) = ks := by rfl)
    (hg : Gl X x := by rfl) (hdb : (x == ("__debug__" : Str)) = false := by decide) (he : starEach (e :: es) X.env = (false, eval e X.env) :: starEach es X.env := by rfl)
    (hpl : (((backTo pos (starEach (e :: es) X.env)).any (·.1)) || (backToKw pos (keywordEach kws X.env)).any (·.1.isNone)) = false := by rfl) :
    DE X E (.Call (.Name x p) (e :: es) kws pos) (dmakeK mk gD fa fk) := by
  refine ⟨fun pins s σ H Q I q => ?_⟩
  obtain ⟨W, ρ, μ, ok, en, pq⟩ := q
  refine wpAny_Call_Name_kw (ld_glob I hg hm ?_ hdb)
  unfold dmakeK at pq
  have rd : rA X.K E fa σ H (fun vs H1 => ∃ W1 ds μ1, vs.length = (e :: es).length ∧ Ok X.K W1 H1 μ1 ∧ Envs X.K W1 σ ρ ∧ Reps X.K W1 vs ds ∧ postE X.K (WE E σ) W1 H1 ((fk ρ μ1).bind fun es μ2 => mk (fun x => gD (x :: ds) es) μ2) Q) := by
    refine ⟨W, ρ, μ, ok, en, ?_⟩
    revert pq
    cases hq : fa ρ μ with
    | ok ds μ1 => exact fun p W1 xs H1 g o r => ⟨W1, ds, μ1, by rw [r.length]; exact hf ρ μ ds μ1 hq, o, en.mono g.le, r, post.mono g p⟩
    | ex c fs μ1 => exact fun p => p
    | bad => exact fun p => p
  refine PySem.W.callWith_KW (h₀ := X.base) I.ok.mod.kin M.kp hall (thn (ha.run pos pins s σ H _ I rd) fun us s1 ⟨vs, H1, I1, r, W1, ds, μ1, hn, o1, en1, r1, q1⟩ => ?_) hpl he
  have rd2 : rA X.K E fk σ H1 (fun zs H2 => ∃ W2 es μ2, zs.length = ks.length ∧ Ok X.K W2 H2 μ2 ∧ Le W1 W2 ∧ Reps X.K W2 zs es ∧ postE X.K (WE E σ) W2 H2 (mk (fun x => gD (x :: ds) es) μ2) Q) := by
    refine ⟨W1, ρ, μ1, o1, en1, ?_⟩
    revert q1
    cases hq : fk ρ μ1 with
    | ok es μ2 => exact fun p W2 xs H2 g o r => ⟨W2, es, μ2, by rw [r.length]; exact hf2 ρ μ1 es μ2 hq, o, g.le, r, post.mono g p⟩
    | ex c fs μ1 => exact fun p => p
    | bad => exact fun p => p
  refine thn (hkw.run pos pins s1 σ H1 _ I1 rd2) fun ws s2 ⟨zs, H2, I2, rz, W2, es', μ2, hz, o2, l2, r2, q2⟩ => ⟨I2.kIn, ?_⟩
  rw [hks]
  obtain ⟨g, gV, hl, kb, rp⟩ := b.ex
  have hu : ∀ u : Value, (u :: us).length = (e :: es).length + 1 := fun u => by rw [List.length_cons, ← r.length, hn]
  have hv : ∀ v : V, (v :: vs).length = (e :: es).length + 1 := fun v => by rw [List.length_cons, hn]
  have hw : ws.length = ks.length := by rw [← rz.length]; exact hz
  exact run_born M G c I2 (fun u => g (u :: us) ws) (fun v => gV (v :: vs) zs) (fun u => hl _ _ (hu u) hw) (fun s' a kin => kb.to s' (.ref a :: us) ws kin (hu _) hw) (fun a => kb.rel (.cons rfl r) rz) o2 (fun W' a l ra => rp W' _ _ _ _ (hv _) hz (.cons ra ((r1.mono l2).mono l)) (r2.mono l)) (hk _) q2
theorem de_makeK0 (M : Mk X.K (cl X.K C) f) (G : FnG X.prog X.w X.K X.mg X.base k f fd ps F) (c : Cal X E (k + 1)) (hm : X.mg x = some (.ref (cl X.K C))) (b : KDfl X.K fd ps 1 ks gD) (hk : ∀ g, MkQ X.K E C F g (mk g)) (hkw : DK X E kws fk)
    (hf2 : HasLen fk ks.length := by repeat (first | exact aNil_len | refine aCons_len ?_))
    (hall : (backToKw pos (keywordEach kws X.env)).all (·.1.isSome) = true := by rfl) (hks : (backToKw pos (keywordEach kws X.env)).filterMap (·.1) = ks := by rfl)
    (hg : Gl X x := by rfl) (hdb : (x == ("__debug__" : Str)) = false := by decide)
    (hpl : (((backTo pos (starEach [] X.env)).any (·.1)) || (backToKw pos (keywordEach kws X.env)).any (·.1.isNone)) = false := by rfl) :
    DE X E (.Call (.Name x p) [] kws pos) (dmakeK mk gD aNil fk) := by
  refine ⟨fun pins s σ H Q I q => ?_⟩
  obtain ⟨W, ρ, μ, ok, en, pq⟩ := q
  refine wpAny_Call_Name_kw (ld_glob I hg hm ?_ hdb)
  unfold dmakeK aNil at pq
  rw [R.bind_ok] at pq
  have rd2 : rA X.K E fk σ H (fun zs H2 => ∃ W2 es μ2, zs.length = ks.length ∧ Ok X.K W2 H2 μ2 ∧ Reps X.K W2 zs es ∧ postE X.K (WE E σ) W2 H2 (mk (fun x => gD (x :: []) es) μ2) Q) := by
    refine ⟨W, ρ, μ, ok, en, ?_⟩
    revert pq
    cases hq : fk ρ μ with
    | ok es μ2 => exact fun p W2 xs H2 g o r => ⟨W2, es, μ2, by rw [r.length]; exact hf2 ρ μ es μ2 hq, o, r, post.mono g p⟩
    | ex c fs μ1 => exact fun p => p
    | bad => exact fun p => p
  refine PySem.W.callWith_KW0 (h₀ := X.base) I.ok.mod.kin M.kp hall (thn (hkw.run pos pins s σ H _ I rd2) fun ws s2 ⟨zs, H2, I2, rz, W2, es', μ2, hz, o2, r2, q2⟩ => ⟨I2.kIn, ?_⟩) hpl
  rw [hks]
  obtain ⟨g, gV, hl, kb, rp⟩ := b.ex
  have hw : ws.length = ks.length := by rw [← rz.length]; exact hz
  exact run_born M G c I2 (fun u => g [u] ws) (fun v => gV [v] zs) (fun u => hl _ _ rfl hw) (fun s' a kin => kb.to s' [.ref a] ws kin rfl hw) (fun a => kb.rel (.cons rfl .nil) rz) o2 (fun W' a l ra => rp W' _ _ _ _ rfl hz (.cons ra .nil) (r2.mono l)) (hk _) q2
end
end DL
/-! DL19: tuples and lists: + and *, tuple(..), list(..), sorted of texts. -/
namespace DL
open PySem L2 PySem.Spec PyProof.Rows
/-! ### + -/
def addX : D → D → Mu → R D := fun x y μ => match x, y with
  | .tup xs, .tup ys => if xs.length + ys.length ≤ 1000000 then .ok (.tup (xs ++ ys)) μ else .bad
  | x, y => addD x y μ
@[simp] theorem addX_int (i j : Int) (μ : Mu) : addX (.int i) (.int j) μ = .ok (.int (i + j)) μ := of_eq_true (eq_self _)
@[simp] theorem addX_str (x y : Str) (μ : Mu) : addX (.str x) (.str y) μ = if x.length + y.length ≤ 1000000 then .ok (.str (x ++ y)) μ else .bad := of_eq_true (eq_self _)
@[simp] theorem addX_lst (x y : List D) (μ : Mu) : addX (.lst x) (.lst y) μ = if x.length + y.length ≤ 1000000 then .ok (.lst (x ++ y)) μ else .bad := of_eq_true (eq_self _)
@[simp] theorem addX_tup (x y : List D) (μ : Mu) : addX (.tup x) (.tup y) μ = if x.length + y.length ≤ 1000000 then .ok (.tup (x ++ y)) μ else .bad := of_eq_true (eq_self _)
section
variable {X : Cx} {E : WX}
theorem nil_of {K : PySem.W.Frag} {W : Wd} {vs : List V} {ds : List D} (r : Reps K W vs ds) : vs = [] ↔ ds = [] := by
  cases r <;> simp
theorem opx_addX : OpX X E (binaryOp .Add) addX := by
  intro pins s σ H x y v u Q I rx ry q
  obtain ⟨E', W, μ, dx, dy, ok, r1, r2, p⟩ := q
  unfold addX at p
  split at p
  · rename_i xs ys
    split at p
    · rename_i hn
      cases r1 with
      | tup z1 h1 q1 =>
        cases r2 with
        | tup z2 h2 q2 =>
          rename_i a vs b ws
          have l1 := q1.length
          have l2 := q2.length
          refine op_catA pins s σ H _ _ v u Q I rx ry ⟨a, b, vs, ws, rfl, rfl, same_t ok.sub h1, same_t ok.sub h2, by rw [l1, l2]; exact le_line hn, fun e => ?_, fun _ e => ?_, fun _ _ q hq => ?_⟩
          · have e' := (nil_of q1).mp e
            subst e'
            exact p W _ H (Go.refl _ _) ok (.tup z2 h2 q2)
          · have e' := (nil_of q2).mp e
            subst e'
            rw [List.append_nil] at p
            exact p W _ H (Go.refl _ _) ok (.tup z1 h1 q1)
          · exact p (W.new q (.tup (vs ++ ws))) _ _ (Go.new ok hq) (ok.new hq) (rep_tup ok hq (by rw [List.length_append]; exact le_line hn) (q1.app q2))
    · exact p.elim
  · exact opx_add (E := E)  pins s σ H x y v u Q I rx ry ⟨E', W, μ, dx, dy, ok, r1, r2, p⟩
end
/-! ### * -/
/-- one factor is a number; a list or a tuple so often -/
def mulX : D → D → Mu → R D := fun x y μ => match x, y with
  | .tup xs, .int k => if k ≤ 1000 ∧ -1000 ≤ k ∧ xs.length ≤ 1000 then .ok (.tup (List.replicate k.toNat xs).flatten) μ else .bad
  | .lst xs, .int k => if k ≤ 1000 ∧ -1000 ≤ k ∧ xs.length ≤ 1000 then .ok (.lst (List.replicate k.toNat xs).flatten) μ else .bad
  | x, y => mulD x y μ
@[simp] theorem mulX_int (i j : Int) (μ : Mu) : mulX (.int i) (.int j) μ = if (-(2 ^ 64) < i ∧ i < 2 ^ 64) ∨ (-(2 ^ 64) < j ∧ j < 2 ^ 64) then .ok (.int (i * j)) μ else .bad := of_eq_true (eq_self _)
@[simp] theorem mulX_tup (xs : List D) (k : Int) (μ : Mu) : mulX (.tup xs) (.int k) μ = if k ≤ 1000 ∧ -1000 ≤ k ∧ xs.length ≤ 1000 then .ok (.tup (List.replicate k.toNat xs).flatten) μ else .bad := of_eq_true (eq_self _)
@[simp] theorem mulX_lst (xs : List D) (k : Int) (μ : Mu) : mulX (.lst xs) (.int k) μ = if k ≤ 1000 ∧ -1000 ≤ k ∧ xs.length ≤ 1000 then .ok (.lst (List.replicate k.toNat xs).flatten) μ else .bad := of_eq_true (eq_self _)
theorem tuple_mul_same (l : Addr) (items : Array Value) (n : Nat) (dd : Option Addr) (sl : Array (Option Value)) (x : Int) (u : Tok) (c0 : (decide (x < -(2 ^ 63)) || decide (x ≥ 2 ^ 63)) = false) (c1 : (items.isEmpty || x == 1) = true) :
    Meets (Builtin.«tuple.__mul__» ⟨[.ref l, .int x u], []⟩) (fun _ R s => s.heap.get? l = some { cls := .type "tuple", dict := dd, data := .seq items n, slots := sl } ∧ R (.ok (.ret (Value.ref l))) s) :=
  .of_wp fun prog w A R s h => by
    obtain ⟨hp, g, d, tk, os⟩ := s
    obtain ⟨hl, h⟩ := h
    have f1 := AutoSeq1.idx_int
    wp_walk using wpAny_loadPart' hl
    repeat (first
      | (refine wpAny_ite_false (decide_eq_false (by rw [c0]; exact Bool.false_ne_true)) ?_; wp_walk using wpAny_loadPart' hl)
      | (refine wpAny_ite_true (decide_eq_true c1) ?_; wp_walk using wpAny_loadPart' hl))
    exact ⟨_, rfl, h⟩
theorem tuple_mul_none (l : Addr) (items : Array Value) (n : Nat) (dd : Option Addr) (sl : Array (Option Value)) (x : Int) (u : Tok) (c0 : (decide (x < -(2 ^ 63)) || decide (x ≥ 2 ^ 63)) = false) (c1 : (items.isEmpty || x == 1) = false) (c2 : (decide (x ≤ 0) || items.isEmpty) = true) :
    Meets (Builtin.«tuple.__mul__» ⟨[.ref l, .int x u], []⟩) (fun _ R s => s.heap.get? l = some { cls := .type "tuple", dict := dd, data := .seq items n, slots := sl } ∧
      R (.ok (.ret (Value.ref s.heap.objs.size))) { s with heap := s.heap.push { cls := Value.type "tuple", data := Data.seq #[] }, toks := s.toks }) :=
  .of_wp fun prog w A R s h => by
    obtain ⟨hp, g, d, tk, os⟩ := s
    obtain ⟨hl, h⟩ := h
    have f1 := AutoSeq1.idx_int
    wp_walk using wpAny_loadPart' hl
    repeat (first
      | (refine wpAny_ite_false (decide_eq_false (by rw [c0]; exact Bool.false_ne_true)) ?_; wp_walk using wpAny_loadPart' hl)
      | (refine wpAny_ite_false (decide_eq_false (by rw [c1]; exact Bool.false_ne_true)) ?_; wp_walk using wpAny_loadPart' hl)
      | (refine wpAny_ite_true (decide_eq_true c2) ?_; wp_walk using wpAny_loadPart' hl))
    exact ⟨_, rfl, h⟩
theorem Reps.rep {K : PySem.W.Frag} {W : Wd} {vs : List V} {ds : List D} (r : Reps K W vs ds) : ∀ n : Nat, Reps K W (List.replicate n vs).flatten (List.replicate n ds).flatten
  | 0 => .nil
  | n + 1 => by
    rw [List.replicate_succ, List.replicate_succ, List.flatten_cons, List.flatten_cons]
    exact r.app (Reps.rep r n)
theorem rep_len {α : Type} (xs : List α) (n : Nat) : (List.replicate n xs).flatten.length = n * xs.length := by
  induction n with
  | zero => simp
  | succ n ih => rw [List.replicate_succ, List.flatten_cons, List.length_append, ih, Nat.succ_mul, Nat.add_comm]
section
variable {X : Cx} {E : WX}
theorem rep_small {k : Int} {n : Nat} (h1 : k ≤ 1000) (h3 : n ≤ 1000) : k.toNat * n ≤ 1000000 := by
  have a1 : k.toNat * n ≤ 1000 * 1000 := Nat.mul_le_mul (by omega) h3
  omega
theorem opx_mulT : OpX X E (binaryOp .Mult) (fun x y μ => match x, y with
  | .tup xs, .int k => if k ≤ 1000 ∧ -1000 ≤ k ∧ xs.length ≤ 1000 then .ok (.tup (List.replicate k.toNat xs).flatten) μ else .bad
  | _, _ => .bad) := by
  intro pins s σ H x y v u Q I rx ry q
  obtain ⟨E', W, μ, dx, dy, ok, r1, r2, p⟩ := q
  dsimp only at p
  split at p
  · rename_i xs k
    split at p
    · rename_i hn
      obtain ⟨h1, h2, h3⟩ := hn
      cases r1 with
      | tup z1 ht q1 =>
        rename_i l vs
        cases r2
        have lv := q1.length
        have hT := same_t ok.sub ht
        by_cases hne : vs = []
        · have e := (nil_of q1).mp hne
          subst e
          cases rx
          obtain ⟨t, rfl⟩ := ry
          obtain ⟨its, r, ⟨⟨cls, dd, data, sl⟩, ho, hc, n, hd⟩, hs⟩ := I.tuple hT
          simp only at hc hd
          subst hc hd
          have hi : its = [] := by
            rw [hne] at r
            cases r
            rfl
          refine wpAny_binaryOp_repeat_ref (T := "tuple") (U := "int") (by decide) ⟨_, ho, rfl⟩ (fun s' => typeIs_int s' k t) noFill_tuple_mul F.fills_int_mul F.slot_int_rmul repeat_tuple F.slot_int_index.lookup
            (call_meets F.slot_int_rmul (typeIs_int s k t) F.entry_int_rmul (F.args_int_rmul_2 _ _) (int_rmul_tuple k t l its.toArray n dd sl)
              ⟨ho, rfl, ⟨_, ho, rfl⟩, call_meets F.slot_tuple_mul ⟨_, ho, rfl⟩ F.entry_tuple_mul (F.args_tuple_mul_2 _ _) (tuple_mul_same l its.toArray n dd sl k t (by rw [decide_eq_false (by omega), decide_eq_false (by omega)] <;> rfl) (by rw [hi]; rfl)) ⟨ho, ?_⟩⟩)
          have ef : (List.replicate k.toNat ([] : List D)).flatten = [] := by simp
          rw [ef] at p
          exact ⟨.ref l, H, I, rfl, p W _ H (Go.refl _ _) ok (.tup z1 ht q1)⟩
        · by_cases hk1 : k = 1
          · subst hk1
            cases rx
            obtain ⟨t, rfl⟩ := ry
            obtain ⟨its, r, ⟨⟨cls, dd, data, sl⟩, ho, hc, n, hd⟩, hs⟩ := I.tuple hT
            simp only at hc hd
            subst hc hd
            refine wpAny_binaryOp_repeat_ref (T := "tuple") (U := "int") (by decide) ⟨_, ho, rfl⟩ (fun s' => typeIs_int s' 1 t) noFill_tuple_mul F.fills_int_mul F.slot_int_rmul repeat_tuple F.slot_int_index.lookup
              (call_meets F.slot_int_rmul (typeIs_int s 1 t) F.entry_int_rmul (F.args_int_rmul_2 _ _) (int_rmul_tuple 1 t l its.toArray n dd sl)
                ⟨ho, rfl, ⟨_, ho, rfl⟩, call_meets F.slot_tuple_mul ⟨_, ho, rfl⟩ F.entry_tuple_mul (F.args_tuple_mul_2 _ _) (tuple_mul_same l its.toArray n dd sl 1 t (by rw [decide_eq_false (by omega), decide_eq_false (by omega)] <;> rfl) (by rw [beq_self_eq_true, Bool.or_true])) ⟨ho, ?_⟩⟩)
            have ef : (List.replicate (Int.toNat 1) xs).flatten = xs := by simp
            rw [ef] at p
            exact ⟨.ref l, H, I, rfl, p W _ H (Go.refl _ _) ok (.tup z1 ht q1)⟩
          · by_cases hk0 : k ≤ 0
            · cases rx
              obtain ⟨t, rfl⟩ := ry
              obtain ⟨its, r, ⟨⟨cls, dd, data, sl⟩, ho, hc, n, hd⟩, hs⟩ := I.tuple hT
              simp only at hc hd
              subst hc hd
              have hi : its.toArray.isEmpty = false := by
                cases its with
                | nil => cases r; exact absurd rfl hne
                | cons a b => rfl
              refine wpAny_binaryOp_repeat_ref (T := "tuple") (U := "int") (by decide) ⟨_, ho, rfl⟩ (fun s' => typeIs_int s' k t) noFill_tuple_mul F.fills_int_mul F.slot_int_rmul repeat_tuple F.slot_int_index.lookup
                (call_meets F.slot_int_rmul (typeIs_int s k t) F.entry_int_rmul (F.args_int_rmul_2 _ _) (int_rmul_tuple k t l its.toArray n dd sl)
                  ⟨ho, rfl, ⟨_, ho, rfl⟩, call_meets F.slot_tuple_mul ⟨_, ho, rfl⟩ F.entry_tuple_mul (F.args_tuple_mul_2 _ _) (tuple_mul_none l its.toArray n dd sl k t (by rw [decide_eq_false (by omega), decide_eq_false (by omega)] <;> rfl) (by rw [hi, Bool.false_or]; exact beq_eq_false_iff_ne.mpr hk1) (by rw [decide_eq_true hk0]; rfl)) ⟨ho, ?_⟩⟩)
              have ef : (List.replicate k.toNat xs).flatten = [] := by
                have : k.toNat = 0 := by omega
                rw [this]
                rfl
              rw [ef] at p
              have hf := I.hok.fresh (Nat.le_refl s.heap.objs.size)
              refine ⟨.ref s.heap.objs.size, upd H s.heap.objs.size (.tup []), I.laid (t' := s.toks) (o := .tup []) (fun b ob q => Heap.get?_push_of_some _ q) (Nat.le_refl _) ?_, rfl, p (W.new _ (.tup [])) _ _ (Go.new ok hf) (ok.new hf) (rep_tup ok hf (Nat.zero_le _) .nil)⟩
              exact ⟨Nat.zero_le _, [], .nil, IsTup.new _ _⟩
            · refine op_repT pins s σ H _ _ v u Q I rx ry ⟨l, k, vs, rfl, rfl, hT, hne, by omega, h1, by rw [lv]; exact h3, fun q hq => ?_⟩
              exact p (W.new q (.tup _)) _ _ (Go.new ok hq) (ok.new hq) (rep_tup ok hq (by rw [rep_len]; exact le_line (rep_small h1 h3)) (q1.rep _))
    · exact p.elim
  · exact p.elim
end
section
variable {X : Cx} {E : WX}
theorem opx_mulL : OpX X E (binaryOp .Mult) (fun x y μ => match x, y with
  | .lst xs, .int k => if k ≤ 1000 ∧ -1000 ≤ k ∧ xs.length ≤ 1000 then .ok (.lst (List.replicate k.toNat xs).flatten) μ else .bad
  | _, _ => .bad) := by
  intro pins s σ H x y v u Q I rx ry q
  obtain ⟨E', W, μ, dx, dy, ok, r1, r2, p⟩ := q
  dsimp only at p
  split at p
  · rename_i xs k
    split at p
    · rename_i hn
      obtain ⟨h1, h2, h3⟩ := hn
      cases r1 with
      | lst z1 ht q1 =>
        rename_i l vs
        cases r2
        have lv := q1.length
        cases rx
        obtain ⟨t, rfl⟩ := ry
        obtain ⟨its, n, r, e⟩ := (same_lq ok.sub ht).isL I
        have hl := r.length
        have hz : vs.length * k.toNat ≤ sizeLine := by
          rw [lv, Nat.mul_comm]
          exact le_line (rep_small h1 h3)
        have hlen : its.toArray.size * k.toNat ≤ sizeLine := by rw [List.size_toArray, ← hl]; exact hz
        have hcap : ¬ its.toArray.size * k.toNat > (2 ^ 63 - 1) / 8 := by
          have : (sizeLine : Nat) ≤ (2 ^ 63 - 1) / 8 := by decide
          omega
        have hfit : ¬ (!Builtin.List.listFitsIndex k) = true := by
          rw [fitsIndex_both (by omega) (by omega)]
          exact Bool.false_ne_true
        have hlong : ¬ Builtin.List.listTooLong (its.toArray.size * k.toNat) = true := by
          rw [notLongL hlen]
          exact Bool.false_ne_true
        have hnew : List.foldl (fun x1 x2 => x1 ++ x2) #[] (List.replicate (if its.toArray.isEmpty = true then 0 else k.toNat) its.toArray) = (List.replicate k.toNat its).flatten.toArray := by
          rw [size_rep]
          cases its with
          | nil => simp
          | cons a r' => rw [if_neg (by simp)]
        refine wpAny_binaryOp_repeat_ref (T := "list") (U := "int") (by decide) ⟨_, e, rfl⟩ (fun s' => typeIs_int s' k t) noFill_list_mul F.fills_int_mul F.slot_int_rmul repeat_list F.slot_int_index.lookup
          (call_meets F.slot_int_rmul (typeIs_int s k t) F.entry_int_rmul (F.args_int_rmul_2 _ _) (int___rmul___int_list k t l its.toArray n)
            ⟨e, rfl, ⟨_, e, rfl⟩, call_meets F.slot_list_mul ⟨_, e, rfl⟩ F.entry_list_mul (F.args_list_mul_2 _ _) (AutoListH.list___mul___list_int_3 l its.toArray n k t hfit hcap hlong) ⟨e, ?_⟩⟩)
        rw [hnew]
        refine ⟨.ref _, _, I.lnew (t' := s.toks) (r.rep k.toNat) (by rw [PyProof.Rows.lm_len_rep_flat, Nat.mul_comm]; exact hz), rfl, ?_⟩
        have hq := I.fresh
        exact p (W.new _ (.lst _)) _ _ (Go.new ok hq) (ok.new hq) (rep_lst ok hq (by rw [rep_len]; exact le_line (rep_small h1 h3)) (q1.rep _))
    · exact p.elim
  · exact p.elim
theorem opx_mulX : OpX X E (binaryOp .Mult) mulX := by
  intro pins s σ H x y v u Q I rx ry q
  obtain ⟨E', W, μ, dx, dy, ok, r1, r2, p⟩ := q
  unfold mulX at p
  split at p
  · exact opx_mulT (E := E) pins s σ H x y v u Q I rx ry ⟨E', W, μ, _, _, ok, r1, r2, p⟩
  · exact opx_mulL (E := E) pins s σ H x y v u Q I rx ry ⟨E', W, μ, _, _, ok, r1, r2, p⟩
  · exact opx_mul (E := E)  pins s σ H x y v u Q I rx ry ⟨E', W, μ, dx, dy, ok, r1, r2, p⟩
end
/-! ### tuple(..), list(..), sorted(..), str(..) -/
def bTuple : List D → Mu → R D
  | [.lst xs], μ => .ok (.tup xs) μ
  | [.tup xs], μ => .ok (.tup xs) μ
  | _, _ => .bad
def bList : List D → Mu → R D
  | [.lst xs], μ => .ok (.lst xs) μ
  | [.tup xs], μ => .ok (.lst xs) μ
  | _, _ => .bad
@[simp] theorem tuple_lst (xs : List D) (μ : Mu) : bTuple [.lst xs] μ = .ok (.tup xs) μ := of_eq_true (eq_self _)
@[simp] theorem tuple_tup (xs : List D) (μ : Mu) : bTuple [.tup xs] μ = .ok (.tup xs) μ := of_eq_true (eq_self _)
@[simp] theorem list_lst (xs : List D) (μ : Mu) : bList [.lst xs] μ = .ok (.lst xs) μ := of_eq_true (eq_self _)
@[simp] theorem list_tup (xs : List D) (μ : Mu) : bList [.tup xs] μ = .ok (.lst xs) μ := of_eq_true (eq_self _)
/-- texts in order -/
def insS (x : Str) : List Str → List Str
  | [] => [x]
  | y :: ys => if strLt y x = true then y :: insS x ys else x :: y :: ys
def srtS : List Str → List Str
  | [] => []
  | x :: xs => insS x (srtS xs)
def bSorted : List D → Mu → R D
  | [.lst ds], μ => match strsD ds with
    | some xs => if xs.length < 64 then .ok (.lst ((srtS xs).map .str)) μ else .bad
    | none => .bad
  | _, _ => .bad
def bStr : List D → Mu → R D
  | [.int i], μ => if i.natAbs.log2 < 1920 ∧ (toString i : Str).length ≤ 1000000 then .ok (.str (toString i)) μ else .bad
  | [.str x], μ => .ok (.str x) μ
  | _, _ => .bad
section
variable {X : Cx} {E : WX}
theorem cx_tuple : CallX X E (.type "tuple") bTuple := callx fun W H μ ds xs Q ok r p => by
  unfold bTuple at p
  split at p
  · cases r with
    | cons r1 r2 =>
      cases r2
      cases r1 with
      | lst z h q =>
        exact ⟨_, call_tuple_of, _, _, rfl, .inl ⟨(same_lq ok.sub h).sq, fun l hl => p _ _ _ (Go.new ok hl) (ok.new hl) (rep_tup ok hl z q)⟩⟩
  · cases r with
    | cons r1 r2 =>
      cases r2
      cases r1 with
      | tup z h q => exact ⟨_, call_tuple_of, _, _, rfl, .inr ⟨same_t ok.sub h, p W _ H (Go.refl _ _) ok (.tup z h q)⟩⟩
  · exact p.elim
theorem cx_list : CallX X E (.type "list") bList := callx fun W H μ ds xs Q ok r p => by
  unfold bList at p
  split at p
  · cases r with
    | cons r1 r2 =>
      cases r2
      cases r1 with
      | lst z h q => exact ⟨_, call_list_of, _, _, rfl, .inl (same_lq ok.sub h).sq, fun l hl => p _ _ _ (Go.new ok hl) (ok.new hl) (rep_lst ok hl z q)⟩
  · cases r with
    | cons r1 r2 =>
      cases r2
      cases r1 with
      | tup z h q => exact ⟨_, call_list_of, _, _, rfl, .inr (same_t ok.sub h), fun l hl => p _ _ _ (Go.new ok hl) (ok.new hl) (rep_lst ok hl z q)⟩
  · exact p.elim
theorem cx_str : CallX X E (.type "str") bStr := callx fun W H μ ds xs Q ok r p => by
  unfold bStr at p
  split at p
  · rename_i i
    split at p
    · rename_i h
      cases r with
      | cons r1 r2 =>
        cases r2
        cases r1
        exact ⟨_, call_str_int, _, rfl, h.1, post_pure ok p (.str _ (le_line h.2))⟩
    · exact p.elim
  · cases r with
    | cons r1 r2 =>
      cases r2
      cases r1 with
      | str x z => exact ⟨_, SkE.call_str_str, _, rfl, post_pure ok p (.str _ z)⟩
  · exact p.elim
/-! sorted -/
abbrev leS (x y : Str) : Prop := x.cps.toList ≤ y.cps.toList
theorem leS_of {x y : Str} (h : strLt y x = false) : leS x y := List.not_lt.mp (of_decide_eq_false h)
theorem leS_lt {x y : Str} (h : strLt x y = true) : leS x y := by
  rcases List.le_total x.cps.toList y.cps.toList with z | z
  · exact z
  · exact absurd (of_decide_eq_true h) (List.not_lt.mpr z)
theorem leS_trans {x y z : Str} (a : leS x y) (b : leS y z) : leS x z := List.le_trans a b
theorem leS_anti {x y : Str} (a : leS x y) (b : leS y x) : x = y := by
  have e := List.le_antisymm a b
  cases x
  cases y
  simpa using e
theorem rising_pw : ∀ (ys : List Str) (p : Str), risingS p ys = true → (p :: ys).Pairwise leS
  | [], p, _ => by simp
  | y :: ys, p, h => by
    unfold risingS at h
    rw [Bool.and_eq_true, Bool.not_eq_true', ltCps_eq] at h
    have ih := rising_pw ys y h.2
    have hy : leS p y := leS_of h.1
    refine List.pairwise_cons.mpr ⟨fun z hz => ?_, ih⟩
    rcases List.mem_cons.mp hz with e | hz'
    · rw [e]; exact hy
    · exact leS_trans hy ((List.pairwise_cons.mp ih).1 z hz')
theorem sortedS_pw {ys : List Str} (h : sortedS ys = true) : ys.Pairwise leS := by
  cases ys with
  | nil => exact .nil
  | cons y ys => exact rising_pw ys y h
theorem insS_perm (x : Str) : ∀ ys : List Str, (insS x ys).Perm (x :: ys)
  | [] => List.Perm.refl _
  | y :: ys => by
    unfold insS
    split
    · exact ((insS_perm x ys).cons y).trans (List.Perm.swap x y ys)
    · exact List.Perm.refl _
theorem srtS_perm : ∀ xs : List Str, (srtS xs).Perm xs
  | [] => List.Perm.refl _
  | x :: xs => (insS_perm x _).trans ((srtS_perm xs).cons x)
theorem insS_pw (x : Str) : ∀ {ys : List Str}, ys.Pairwise leS → (insS x ys).Pairwise leS
  | [], _ => by simp [insS]
  | y :: ys, h => by
    have hh := List.pairwise_cons.mp h
    unfold insS
    split
    · rename_i hl
      refine List.pairwise_cons.mpr ⟨fun z hz => ?_, insS_pw x hh.2⟩
      rcases List.mem_cons.mp ((insS_perm x ys).mem_iff.mp hz) with e | hz'
      · rw [e]; exact leS_lt hl
      · exact hh.1 z hz'
    · rename_i hl
      have hxy : leS x y := leS_of (by simpa using hl)
      refine List.pairwise_cons.mpr ⟨fun z hz => ?_, h⟩
      rcases List.mem_cons.mp hz with e | hz'
      · rw [e]; exact hxy
      · exact leS_trans hxy (hh.1 z hz')
theorem srtS_pw : ∀ xs : List Str, (srtS xs).Pairwise leS
  | [] => .nil
  | x :: xs => insS_pw x (srtS_pw xs)
theorem srtS_uniq {xs ys : List Str} (p : ys.Perm xs) (h : sortedS ys = true) : ys = srtS xs :=
  List.Perm.eq_of_pairwise (fun a b _ _ h1 h2 => leS_anti h1 h2) (sortedS_pw h) (srtS_pw xs) (p.trans (srtS_perm xs).symm)
theorem strs_bound {K : PySem.W.Frag} {W : Wd} : ∀ {vs : List V} {ds : List D} {ys : List Str}, Reps K W vs ds → strsD ds = some ys → ∀ y ∈ ys, y.length ≤ sizeLine
  | _, _, _, .nil, h => by
    simp [strsD] at h
    subst h
    exact fun y hy => nomatch hy
  | _, _, _, .cons (d := d) (ds := ds) r rs, h => by
    cases d with
    | str x =>
      cases r with
      | str _ z =>
        unfold strsD at h
        cases e : strsD ds with
        | none => rw [e] at h; exact nomatch h
        | some cs =>
          rw [e] at h
          cases h
          intro y hy
          rcases List.mem_cons.mp hy with q | q
          · rw [q]; exact z
          · exact strs_bound rs e y q
    | _ => simp [strsD] at h
theorem cx_sorted : CallX X E (.builtin "sorted") bSorted := callx fun W H μ ds xs Q ok r p => by
  unfold bSorted at p
  split at p
  · rename_i es
    split at p
    · rename_i ys hy
      split at p
      · rename_i hn
        cases r with
        | cons r1 r2 =>
          cases r2
          cases r1 with
          | lst z h q =>
            have b := strs_bound q hy
            have e := strsD_rep q hy
            subst e
            refine ⟨_, cr_sortedS, _, ys, rfl, (same_lq ok.sub h).sq, hn, fun zs l pm so hl => ?_⟩
            have ez := srtS_uniq pm so
            subst ez
            have hlz : (srtS ys).length = ys.length := (srtS_perm ys).length_eq
            exact p _ _ _ (Go.new ok hl) (ok.new hl) (rep_lst ok hl (by rw [List.length_map, hlz]; exact le_line (by omega)) (strs_reps fun y m => b y ((srtS_perm ys).mem_iff.mp m)))
      · exact p.elim
    · exact p.elim
  · exact p.elim
end
end DL
/-! DL20: defs as values, isinstance of own classes, zip, != of data. -/
namespace DL
open PySem L2 PySem.Spec PyProof.Rows
/-! ### a def held by a name -/
def dfn (c : Nat) : D := .glo c
/-- the slot i holds the def at f -/
def isFn (i c : Nat) (ρ : En) : Bool := match ρ[i]? with
  | some (some (.glo g)) => decide (g = c)
  | _ => false
def dcallL (i n : Nat) (F : List D → Mu → R D) (dd : List D) (fa : FA) : FE := fun ρ μ => if isFn i n ρ = true then (fa ρ μ).bind fun ds μ1 => F (ds ++ dd) μ1 else .bad
@[simp] theorem ap_callL (i n : Nat) (F : List D → Mu → R D) (dd : List D) (fa : FA) (ρ : En) (μ : Mu) : dcallL i n F dd fa ρ μ = if isFn i n ρ = true then (fa ρ μ).bind fun ds μ1 => F (ds ++ dd) μ1 else .bad := of_eq_true (eq_self _)
/-- one of two readings, chosen by the names -/
def dchoose (c : En → Bool) (f g : FE) : FE := fun ρ μ => if c ρ = true then f ρ μ else g ρ μ
@[simp] theorem ap_choose (c : En → Bool) (f g : FE) (ρ : En) (μ : Mu) : dchoose c f g ρ μ = if c ρ = true then f ρ μ else g ρ μ := of_eq_true (eq_self _)
section
variable {X : Cx} {E : WX} {k i n : Nat} {f : Addr} {fd : FuncData} {ps : List Str} {F : List D → Mu → R D} {dd : List D} {x : Str} {p pos : Pos} {e : Expr} {es : List Expr} {fa : FA} {fe ge : FE} {c : En → Bool}
theorem de_choose (h1 : DE X E e fe) (h2 : DE X E e ge) : DE X E e (dchoose c fe ge) := ⟨fun pins s σ H Q I q => by
  obtain ⟨W, ρ, μ, ok, en, pq⟩ := q
  unfold dchoose at pq
  by_cases hc : c ρ = true
  · rw [if_pos hc] at pq
    exact h1.run pins s σ H Q I ⟨W, ρ, μ, ok, en, pq⟩
  · rw [if_neg hc] at pq
    exact h2.run pins s σ H Q I ⟨W, ρ, μ, ok, en, pq⟩⟩
theorem de_fn (n : Nat) (hm : X.mg x = some (.ref (cl X.K n))) (hg : Gl X x := by rfl) (hd : (x == ("__debug__" : Str)) = false := by decide) : DE X E (.Name x pos) (dc (dfn n)) := de_glob (v := .ref (cl X.K n)) hm rfl (fun _ => .glo _) hg hd
theorem de_callL (n : Nat) (hfn : f = cl X.K n) (G : FnG X.prog X.w X.K X.mg X.base k f fd ps F) (c : Cal X E k) (i : Nat) (hk : PySem.W.keepIn X.K (.ref f) = true) (b : Dfl X.K fd ps (e :: es).length dd) (ha : DA X E (e :: es) fa)
    (hN : X.N[i]? = some x := by rfl) (hv : Vis X.env.scope x := by first | exact Or.inl rfl | exact Or.inr (Or.inl rfl) | exact Or.inr (Or.inr rfl))
    (hf : HasLen fa (e :: es).length := by repeat (first | exact aNil_len | refine aCons_len ?_)) (hdb : (x == ("__debug__" : Str)) = false := by decide) (hcd : (x == ("__classdict__" : Str)) = false := by decide)
    (he : starEach (e :: es) X.env = (false, eval e X.env) :: starEach es X.env := by rfl) (hpl : (backTo pos (starEach es X.env)).any (·.1) = false := by rfl) :
    DE X E (.Call (.Name x p) (e :: es) [] pos) (dcallL i n F dd fa) := by
  subst hfn
  refine ⟨fun pins s σ H Q I q => ?_⟩
  obtain ⟨W, ρ, μ, ok, en, pq⟩ := q
  unfold dcallL at pq
  by_cases hq : isFn i n ρ = true
  · rw [if_pos hq] at pq
    have hs : σ[i]? = some (some (.ref (cl X.K n))) := by
      unfold isFn at hq
      split at hq
      · rename_i g hr
        have eg := of_decide_eq_true hq
        subst eg
        obtain ⟨v, hv, rv⟩ := en.at_ i _ hr
        cases rv
        exact hv
      · cases hq
    refine wpAny_Call_Name_kw (thn ((pe_var (pos := p) hN hv hdb hcd).run pins s σ H (fun v H1 => v = .ref (cl X.K n) ∧ H1 = H) I ⟨.ref (cl X.K n), hs, rfl, rfl⟩) fun u s1 ⟨v, H1, I1, r1, q1⟩ => ?_)
    obtain ⟨rfl, rfl⟩ := q1
    cases r1
    have rd : rA X.K E fa σ H1 (fun vs H1 => ∃ W1 ds μ1, vs.length = (e :: es).length ∧ Ok X.K W1 H1 μ1 ∧ Reps X.K W1 vs ds ∧ postE X.K (WE E σ) W1 H1 (F (ds ++ dd) μ1) Q) := by
      refine ⟨W, ρ, μ, ok, en, ?_⟩
      revert pq
      cases hq : fa ρ μ with
      | ok ds μ1 => exact fun p W1 xs H1 g o r => ⟨W1, ds, μ1, by rw [r.length]; exact hf ρ μ ds μ1 hq, o, r, post.mono g p⟩
      | ex c fs μ1 => exact fun p => p
      | bad => exact fun p => p
    refine PySem.W.callWith_K (h₀ := X.base) I.ok.mod.kin hk (thn (ha.run pos pins s1 σ _ _ I1 rd) fun us s2 ⟨vs, H2, I2, r, W1, ds, μ1, hn, o1, r1, q1⟩ => ⟨I2.kIn, ?_⟩) he hpl
    exact callF_args G c b I2 (show us.length = _ by rw [← r.length]; exact hn) r o1 r1 q1
  · rw [if_neg hq] at pq
    exact pq.elim
end
/-! ### isinstance of own classes -/
/-- a class whose instances isinstance may be asked about -/
structure IsC (K : PySem.W.Frag) (C : Addr) : Prop where
  cl : Cls K C
  ha : PySem.W.findIn K (.ref C) "__class__" = some (some (.builtin "object.__class__"))
  hn : PySem.W.specialIn K (.builtin "object.__class__") "__get__" = some (some (.builtin "getset_descriptor.__get__"))
  ht : PySem.W.takesIn K (.builtin "object.__class__") = some true
  hm : PySem.W.mroIn K C (.type "object") = some true
/-- a type: an own class, a built-in one -/
inductive Ty where
  | own (C : Nat) | blt (t : String)
  deriving DecidableEq
def Ty.val (K : PySem.W.Frag) : Ty → Value
  | .own C => .ref (cl K C)
  | .blt t => .type t
def tyV (μ : Mu) (d : D) : Option Ty := match insD μ d with
  | some (C, _) => some (.own C)
  | none => (tyName μ d).map .blt
/-- the same class: both an own one, both a built-in one -/
def sameC : D → D → Bool
  | .glo a, .glo b => decide (a = b)
  | .cst (.ty a), .cst (.ty b) => decide (a = b)
  | _, _ => false
/-- isinstance(x, c): cs, the own classes that x may be of; kt, what is known of c -/
def isiO (cs : List Nat) (kt : Ty → Option Bool) (d : D) (μ : Mu) : Option Bool := match tyV μ d with
  | some t => match kt t with
    | some b => (match t with
      | .own C => if C ∈ cs then some b else none
      | _ => some b)
    | none => none
  | none => none
def bIsiO (c : D) (cs : List Nat) (kt : Ty → Option Bool) : List D → Mu → R D
  | [d, c'], μ => if sameC c' c = true then R.of ((isiO cs kt d μ).map .bl) μ else .bad
  | _, _ => .bad
@[simp] theorem isiO_ap (c : Nat) (cs : List Nat) (kt : Ty → Option Bool) (d : D) (μ : Mu) : bIsiO (.glo c) cs kt [d, .glo c] μ = R.of ((isiO cs kt d μ).map .bl) μ := by
  unfold bIsiO
  simp [sameC]
/-- what is known of a class: which types are of it, which are not -/
def ktL (yes no : List Ty) : Ty → Option Bool := fun t => if t ∈ yes then some true else if t ∈ no then some false else none
def Ty.d : Ty → D
  | .own C => .glo C
  | .blt t => .cst (.ty t)
theorem cx_isiO {X : Cx} {E : WX} {cs : List Nat} {kt : Ty → Option Bool} (c : Ty) (hcs : ∀ C ∈ cs, IsC X.K (cl X.K C)) (hk : ∀ t b, kt t = some b → PySem.W.kitOne X.K (t.val X.K) (c.val X.K) = some b) : CallX X E (.builtin "isinstance") (bIsiO c.d cs kt) := callx fun W H μ ds xs Q ok r p => by
  unfold bIsiO at p
  split at p
  · rename_i d c'
    split at p
    · rename_i ec
      cases r with
      | cons r1 r2 =>
        cases r2 with
        | cons r2 r3 =>
          cases r3
          rename_i v1 v2
          have hcv : ClsV v2 (c.val X.K) := by
            cases c with
            | own C =>
              unfold sameC Ty.d at ec
              cases c' <;> simp at ec
              subst ec
              cases r2
              exact .own _
            | blt t =>
              unfold sameC Ty.d at ec
              cases c' <;> simp at ec
              rename_i w
              cases w <;> simp at ec
              subst ec
              cases r2
              exact .ty _
          cases hi0 : isiO cs kt d μ with
          | none => rw [hi0] at p; exact p.elim
          | some b =>
            rw [hi0] at p
            have q : Q (.bl b) H := post_pure ok p (.bl b)
            unfold isiO at hi0
            split at hi0
            · rename_i t ht
              split at hi0
              · rename_i b' hb
                have ty : TyX X.K H v1 (t.val X.K) ∧ b' = b := by
                  unfold tyV at ht
                  cases hi : insD μ d with
                  | none =>
                    rw [hi] at ht
                    cases hn : tyName μ d with
                    | none => rw [hn] at ht; cases ht
                    | some n =>
                      rw [hn] at ht
                      cases ht
                      exact ⟨tyName_rep ok r1 hn, Option.some.inj hi0⟩
                  | some z =>
                    obtain ⟨C, fs⟩ := z
                    rw [hi] at ht
                    cases ht
                    dsimp only at hi0
                    split at hi0
                    · rename_i hC
                      obtain ⟨a, dx, ns, vs, ds, rfl, ha, _, _⟩ := ins_rep ok r1 hi
                      have K := hcs C hC
                      exact ⟨.base (.ins ha K.cl K.ha K.hn K.ht K.hm), Option.some.inj hi0⟩
                    · cases hi0
                obtain ⟨ty, rfl⟩ := ty
                exact ⟨_, call_isi, v1, v2, t.val X.K, c.val X.K, b', rfl, hcv, ty, hk t b' hb, q⟩
              · cases hi0
            · cases hi0
    · exact p.elim
  · exact p.elim
/-! ### zip -/
def zipD (xs ys : List D) : List D := (xs.zip ys).map fun q => .tup [q.1, q.2]
def itZ (f : FA) : FA := fun ρ μ => (f ρ μ).bind fun ds μ1 => match ds with
  | [.lst xs, .lst ys] => .ok (zipD xs ys) μ1
  | [.tup xs, .tup ys] => .ok (zipD xs ys) μ1
  | _ => .bad
@[simp] theorem ap_itZ (f : FA) (ρ : En) (μ : Mu) : itZ f ρ μ = (f ρ μ).bind fun ds μ1 => match ds with
  | [.lst xs, .lst ys] => .ok (zipD xs ys) μ1
  | [.tup xs, .tup ys] => .ok (zipD xs ys) μ1
  | _ => .bad := of_eq_true (eq_self _)
theorem zipD_len (xs ys : List D) : (zipD xs ys).length = min xs.length ys.length := by simp [zipD]
theorem zipD_get {xs ys : List D} {i : Nat} {x y : D} (hx : xs[i]? = some x) (hy : ys[i]? = some y) : (zipD xs ys)[i]? = some (.tup [x, y]) := by
  unfold zipD
  have e : (xs.zip ys)[i]? = some (x, y) := List.getElem?_zip_eq_some.mpr ⟨hx, hy⟩
  rw [List.getElem?_map, e]
  rfl
section
variable {K : PySem.W.Frag} {W : Wd} {a b : Addr} {vs ws : List V} {xs ys : List D}
theorem walk_zipL (z : xs.length ≤ sizeLine) (h1 : SqL K W.S a vs) (r1 : Reps K W vs xs) (h2 : SqL K W.S b ws) (r2 : Reps K W ws ys) : Walk K W (Itz K a b) (zipD xs ys) := by
  have l1 := r1.length
  have l2 := r2.length
  refine ⟨by rw [zipD_len]; omega, fun H i s hi => ?_, fun H i s hi => ⟨vs, ws, same_l s h1, same_l s h2, by rw [zipD_len] at hi; omega⟩, fun H i x H' s y d e W1 μ le ok => ?_⟩
  · rw [zipD_len] at hi
    obtain ⟨v, e, _⟩ := r1.get (List.getElem?_eq_getElem (show i < xs.length by omega))
    obtain ⟨w, e2, _⟩ := r2.get (List.getElem?_eq_getElem (show i < ys.length by omega))
    exact ⟨vs, ws, v, w, same_l s h1, same_l s h2, e, e2⟩
  · obtain ⟨T, xv, yv, rfl, hT, rfl, q1, q2⟩ := y
    obtain ⟨xd, e3, r3⟩ := r1.getV (q1 vs (same_l s h1))
    obtain ⟨yd, e4, r4⟩ := r2.getV (q2 ws (same_l s h2))
    rw [zipD_get e3 e4] at e
    cases e
    exact ⟨W1.new T (.tup [xv, yv]), Go.new ok hT, ok.new hT, rep_tup ok hT (by show 2 ≤ sizeLine; decide) (.cons (r3.mono le) (.cons (r4.mono le) .nil))⟩
theorem walk_zipT (z : xs.length ≤ sizeLine) (h1 : SqT K W.S a vs) (r1 : Reps K W vs xs) (h2 : SqT K W.S b ws) (r2 : Reps K W ws ys) : Walk K W (RZ.ItzT K a b) (zipD xs ys) := by
  have l1 := r1.length
  have l2 := r2.length
  refine ⟨by rw [zipD_len]; omega, fun H i s hi => ?_, fun H i s hi => ⟨vs, ws, same_t s h1, same_t s h2, by rw [zipD_len] at hi; omega⟩, fun H i x H' s y d e W1 μ le ok => ?_⟩
  · rw [zipD_len] at hi
    obtain ⟨v, e, _⟩ := r1.get (List.getElem?_eq_getElem (show i < xs.length by omega))
    obtain ⟨w, e2, _⟩ := r2.get (List.getElem?_eq_getElem (show i < ys.length by omega))
    exact ⟨vs, ws, v, w, same_t s h1, same_t s h2, e, e2⟩
  · obtain ⟨T, xv, yv, rfl, hT, rfl, q1, q2⟩ := y
    obtain ⟨xd, e3, r3⟩ := r1.getV (q1 vs (same_t s h1))
    obtain ⟨yd, e4, r4⟩ := r2.getV (q2 ws (same_t s h2))
    rw [zipD_get e3 e4] at e
    cases e
    exact ⟨W1.new T (.tup [xv, yv]), Go.new ok hT, ok.new hT, rep_tup ok hT (by show 2 ≤ sizeLine; decide) (.cons (r3.mono le) (.cons (r4.mono le) .nil))⟩
end
theorem di_zip {X : Cx} {E : WX} {e e2 : Expr} {fa : FA} {p pos tpos : Pos} {elts : List Expr} {kk : Nat} (hm : X.mg "zip" = none) (ha : DA X E [e, e2] fa) (hg : Gl X "zip" := by rfl) (hs : starEach [e, e2] X.env = (false, eval e X.env) :: starEach [e2] X.env := by rfl) (hpl : (backTo pos (starEach [e2] X.env)).any (·.1) = false := by rfl) :
    DI X E (.Tuple elts kk tpos) (.Call (.Name "zip" p) [e, e2] [] pos) (itZ fa) := by
  refine pi_imp (RZ.pi_zipA hg hm ha hs hpl) fun σ H Q ⟨W, ρ, μ, ok, en, p⟩ => ?_
  refine ⟨W, ρ, μ, ok, en, ?_⟩
  unfold itZ at p
  revert p
  cases fa ρ μ with
  | ex c fs μ1 => exact fun p => p
  | bad => exact fun p => p.elim
  | ok ds μ1 =>
    rw [R.bind_ok]
    intro p W1 vs H1 g1 o1 r
    match ds, r, p with
    | [.lst xs, .lst ys], .cons ra (.cons rb .nil), p =>
      cases ra with
      | lst z h r =>
        cases rb with
        | lst z2 h2 r2 => exact ⟨_, _, _, _, rfl, .inl ⟨(same_lq o1.sub h).sq, (same_lq o1.sub h2).sq, p W1 _ H1 g1 o1 (walk_zipL z h.sq r h2.sq r2)⟩⟩
    | [.tup xs, .tup ys], .cons ra (.cons rb .nil), p =>
      cases ra with
      | tup z h r =>
        cases rb with
        | tup z2 h2 r2 => exact ⟨_, _, _, _, rfl, .inr ⟨same_t o1.sub h, same_t o1.sub h2, p W1 _ H1 g1 o1 (walk_zipT z h r h2 r2)⟩⟩
/-! ### != of data -/
def dNeX : D → D → Mu → R D := fun x y μ => match x.kd, y.kd with
  | .flat _, .flat _ => dNe x y μ
  | _, _ => match x.py, y.py with
    | some p, some q => if SeqAt.shaped p = true ∧ SeqAt.shaped q = true then .ok (.bl (!PyData.eqv p q)) μ else .bad
    | _, _ => .bad
theorem opx_neX {X : Cx} {E : WX} (hu : X.A.units + 64 < cLine) : OpX X E (compareOp .NotEq) dNeX := by
  intro pins s σ H x y v u Q I rx ry q
  obtain ⟨E', W, μ, dx, dy, ok, r1, r2, p⟩ := q
  unfold dNeX at p
  split at p
  · exact opx_ne (E := E)  pins s σ H x y v u Q I rx ry ⟨E', W, μ, dx, dy, ok, r1, r2, p⟩
  · split at p
    · rename_i p1 p2 e1 e2
      split at p
      · rename_i hs
        exact op_neD hu pins s σ H x y v u Q I rx ry ⟨p1, p2, py_dp ok r1 e1, py_dp ok r2 e2, hs.1, hs.2, post_pure ok p (.bl _)⟩
      · exact p.elim
    · exact p.elim
end DL
/-! DL21: len(set(xs)) of texts. -/
namespace DL
open PySem L2 PySem.Spec PyProof.Rows
/-- the unlike ones, as they were met -/
def dd1 (σ : List Str) (x : Str) : List Str := if σ.any (· == x) = true then σ else σ ++ [x]
def met (xs : List Str) (i : Nat) : List Str := (xs.take i).foldl dd1 []
theorem met_succ {xs : List Str} {i : Nat} (h : i < xs.length) : met xs (i + 1) = dd1 (met xs i) (xs.getD i Str.empty) := by
  unfold met
  rw [List.take_succ, List.foldl_append]
  simp [h, List.getD]
theorem dd1_any (σ : List Str) (v k : Str) : (dd1 σ v).any (· == k) = (σ.any (· == k) || decide (k = v)) := by
  unfold dd1
  by_cases h : σ.any (· == v) = true
  · rw [if_pos h]
    by_cases e : k = v
    · rw [e, h]; rfl
    · rw [decide_eq_false e, Bool.or_false]
  · rw [if_neg h, List.any_append]
    by_cases e : k = v
    · subst e; simp
    · have hb : (v == k) = false := beq_eq_false_iff_ne.mpr fun z => e z.symm
      simp [hb, e]
theorem dd1_len (σ : List Str) (v : Str) : (dd1 σ v).length = if σ.any (· == v) then σ.length else σ.length + 1 := by
  unfold dd1
  split <;> simp
theorem met_len (xs : List Str) : ∀ i, i ≤ xs.length → (met xs i).length ≤ i
  | 0, _ => by simp [met]
  | i + 1, h => by
    rw [met_succ h, dd1_len]
    have := met_len xs i (by omega)
    split <;> omega
section
variable {prog : Program} {w : World} {A : Around} {R : Result → Shared → Prop} {J : Addr} {fp wr : List Addr} {G : Array GenState → Array GenState → Prop} {P : Nat → Value → Prop} {St : Nat → Shared → Prop}
abbrev SetAt (prog : Program) (w : World) (h : Heap) (S : Addr) (l : List Str) : Prop := h.SetOf (PySem.strKind prog w) S (fun k' => l.any (· == k')) l.length
theorem loop_met (xs : List Str) (W : WalksS prog w A.in1 J fp wr G xs.length P St) (S : Addr) (hSf : S ∉ fp) (hb : xs.length + 1 < scanBound) (hval : ∀ i v, P i v → ∃ t, v = .str (xs.getD i Str.empty) t) :
    ∀ (k i : Nat) (s : Shared), xs.length - i = k → i ≤ xs.length → St i s → SetAt prog w s.heap S (met xs i) → (∀ s', Moved (S :: wr) G s s' → SetAt prog w s'.heap S (met xs xs.length) → R (.ok (.ret .none)) s') →
      codeAny (model prog w) A (.builtin "set.update.loop" ⟨[.ref S, .ref J], []⟩) R s := by
  have out : S ∉ wr := fun z => hSf (W.sub _ z)
  have more : ∀ b ∈ wr, b ∈ S :: wr := fun b z => List.mem_cons_of_mem _ z
  have keep : ∀ {s s' : Shared} {l : List Str}, Moved wr G s s' → SetAt prog w s.heap S l → SetAt prog w s'.heap S l := fun hm ⟨o, es, ep, tb, ho, rest⟩ => ⟨o, es, ep, tb, hm.heap S _ out ho, rest⟩
  intro k
  induction k with
  | zero =>
    intro i s hk hi st hS hR
    obtain rfl : i = xs.length := by omega
    refine codeAny_builtin PyProof.Rows.F.entry_set_update_loop ?_
    rw [Around.under_plainId PyProof.Rows.F.plain_set_update_loop _]
    exact wpAny_bind (W.done s _ _ st fun s' hm => wpAny_pure (hR s' (hm.mono more) (keep hm hS)))
  | succ k ih =>
    intro i s hk hi st hS hR
    have lt : i < xs.length := by omega
    refine codeAny_builtin PyProof.Rows.F.entry_set_update_loop ?_
    rw [Around.under_plainId PyProof.Rows.F.plain_set_update_loop _]
    refine wpAny_bind (W.item i s _ _ lt st fun v s' hP st' hm => ?_)
    obtain ⟨t, rfl⟩ := hval i v hP
    have here : SetAt prog w s'.heap S (met xs i) := keep hm hS
    have room : (met xs i).length + 1 < scanBound := by
      have := met_len xs i hi
      omega
    show wpAny _ A.in1 (holding [Value.str (xs.getD i Str.empty) t] (setAdd S (.str (xs.getD i Str.empty) t)) >>= _) _ _ s'
    refine wpAny_bind (wpAny_holding ?_)
    unfold setAdd
    refine wpAny_holding (wpAny_bind ((PySem.strKind prog w).pyHash (k := xs.getD i Str.empty) (strKind_is _ _ _ _) ?_))
    refine wpAny_setAddHashed_of (knd := PySem.strKind prog w) (s := { s' with toks := s'.toks + 1 }) (strKind_is _ _ _ _) rfl here room fun h' hsb hS2 => ?_
    have next : SetAt prog w h' S (met xs (i + 1)) := SetOf_congr hS2 (fun k' => by rw [met_succ lt, dd1_any]) (by rw [met_succ lt, dd1_len])
    refine wpAny_pure ⟨plainId_quiet PyProof.Rows.F.plain_set_update_loop _, ih (i + 1) _ (by omega) lt (W.frame _ s' _ _ st' (Nat.le_succ _) fun b hb o e => ?_) next fun s2 hm2 hS3 => ?_⟩
    · rw [hsb.2 b fun z => hSf (by rw [← z]; exact hb)]
      exact e
    · refine hR s2 (Moved.trans W.gtrans ((hm.mono more).then_heap (Nat.le_succ _) fun b o hb e => ?_) hm2) hS3
      rw [hsb.2 b fun z => hb (by rw [z]; exact List.mem_cons_self)]
      exact e
end
section
variable {prog : Program} {w : World} {A : Around} {E : Value → Shared → Prop} {s : Shared}
abbrev newSet (led : Bool) : Obj := { cls := .type "set", dict := none, data := .set #[] 0 (.fresh 0 0 led) }
/-- set(xs) of a list of texts -/
theorem call_set_met {l : Addr} {items : Array Value} {xs : List Str} {Q : Value → Shared → Prop} (hh : A.handled = none) (hl : s.heap.IsList l items) (hi : StrsAre items.toList xs) (hb : xs.length + 1 < scanBound)
    (h : ∀ (h' : Heap) (tk : Nat), SetAt prog w h' s.heap.objs.size (met xs xs.length) → (∀ b o, b < s.heap.objs.size → s.heap.get? b = some o → h'.get? b = some o) → Q (.ref s.heap.objs.size) { s with heap := h', toks := tk }) :
    wpAny (model prog w) A (call (.type "set") [.ref l]) Q E s := by
  have hsz : items.size = xs.length := by rw [← StrsAre.len_eq hi, Array.length_toList]
  obtain ⟨c, tl, m0⟩ := PySem.F.called_set.mro
  have m1 := PySem.F.called_set.made
  have m2 := PySem.F.called_set.sub
  refine wpAny_call (codeAny_of_tree ?_)
  show wpAny _ _ (callAny (.type "set") _) _ _ _
  refine wpAny_pure ⟨Code.quiet_builtin _ (by decide +kernel), codeAny_builtin PySem.F.entry_type_call ?_⟩
  rw [Around.under_plain (weight_type_call_type "set" [.ref l] []) rfl]
  have m3 := PySem.F.called_set.notType
  have m4 := PySem.F.called_set.canCreate
  have m5 := PySem.F.typeCall_set_1 (.ref l)
  repeat (any_goals (first | assumption | wp_step))
  refine codeAny_mono (code_set_new_1 (.ref l) (E := E) (Q₁ := fun u s1 => ∃ led : Bool, u = .ref s.heap.objs.size ∧ s1 = { s with heap := s.heap.push (newSet led) }) fun led => ⟨led, rfl, rfl⟩) fun r s1 hr => ?_
  cases r with
  | error e => exact hr
  | ok fl =>
    cases fl with
    | ret u =>
      obtain ⟨led, rfl, rfl⟩ := hr
      have gS : (s.heap.push (newSet led)).get? s.heap.objs.size = some (newSet led) := Heap.get?_push_size _ rfl
      have tS : Shared.TypeIs { s with heap := s.heap.push (newSet led) } (.ref s.heap.objs.size) "set" := ⟨_, gS, rfl⟩
      have n1 := PySem.F.called_set.init.lookup
      have n2 := PySem.F.called_set.init.bind (.ref s.heap.objs.size)
      repeat (any_goals (first | assumption | wp_step))
      refine codeAny_mono (codeAny_call_builtin (R := wants (fun r s2 => r = .none ∧ ∃ h' tk, s2 = { s with heap := h', toks := tk } ∧ SetAt prog w h' s.heap.objs.size (met xs xs.length) ∧ ∀ b o, b < s.heap.objs.size → s.heap.get? b = some o → h'.get? b = some o) E) PySem.F.called_set.init.plain PySem.F.entry_set_init (check_set_init_1 tS ?_)) fun r2 s2 hr2 => ?_
      · obtain ⟨⟨oc, od, dt, sl⟩, ho, hc, nl, hd⟩ := hl
        simp only at hc hd
        subst hc hd
        have ho' : (s.heap.push (newSet led)).get? l = some { cls := .type "list", dict := od, data := .seq items nl, slots := sl } := Heap.get?_push_of_some _ ho
        have k1 := PySem.F.sub_list_set
        have k2 := PySem.F.sub_list_frozenset
        have k3 : (Value.type "list" == Value.type "dict") = false := by decide
        have hl1 : (s.heap.push (newSet led)).IsList l items := ⟨_, ho', rfl, nl, rfl⟩
        unfold Builtin.«set.__init__» noKeywords Builtin.Frozenset.updateFrom
        generalize hPI : pyIter = PI
        wp_walk
        subst hPI
        refine wpAny_pyIter_list hl1 (wpAny_bind (wpAny_runValue ?_))
        have lS : l < s.heap.objs.size := Heap.lt_size ho
        have h3 : A.in1.in1.in1.handled = none := by simp [hh]
        have nI : l ≠ (s.heap.push (newSet led)).objs.size := by
          rw [Heap.size_push]
          exact Nat.ne_of_lt (Nat.lt_succ_of_lt lS)
        have nS : s.heap.objs.size ∉ [(s.heap.push (newSet led)).objs.size, l] := by
          rw [Heap.size_push]
          intro z
          rcases List.mem_cons.mp z with z | z
          · exact absurd z (Nat.ne_of_lt (Nat.lt_succ_self _))
          · exact absurd (List.mem_singleton.mp z) (Nat.ne_of_gt lS)
        have hval : ∀ (i : Nat) (v : Value), items[i]? = some v → ∃ t, v = .str (xs.getD i Str.empty) t := fun i v hv => SS.strs_at hi i v (by rw [Array.getElem?_toList]; exact hv)
        have wk := (Walks.list (prog := prog) (w := w) h3 (s.heap.push (newSet led)).objs.size l nI items).toS
        rw [hsz] at wk
        refine loop_met xs wk s.heap.objs.size nS hb hval (xs.length - 0) 0 _ (by omega) (Nat.zero_le _) ⟨⟨_, Heap.get?_push_size _ rfl, rfl, rfl⟩, hl1.push _⟩ ?_ ?_
        · exact SetOf_congr ((setObjOf_fresh (knd := PySem.strKind prog w) led).setOf (Heap.get?_push_of_some _ gS) (by unfold scanBound; omega)) (fun _ => rfl) rfl
        · intro s' hm hS'
          obtain ⟨h', g', d', tk', os'⟩ := s'
          obtain rfl : g' = s.gens := hm.gens
          obtain rfl : d' = s.drawn := hm.drawn
          obtain rfl : os' = s.os := hm.os
          refine wpAny_pure (wpAny_pure ⟨rfl, h', tk', rfl, hS', fun b o hb e => hm.heap b o (fun z => ?_) (Heap.get?_push_of_some _ (Heap.get?_push_of_some _ e))⟩)
          rcases List.mem_cons.mp z with z | z
          · exact absurd z (Nat.ne_of_lt hb)
          · have z := List.mem_singleton.mp z
            rw [Heap.size_push] at z
            exact absurd z (Nat.ne_of_lt (Nat.lt_succ_of_lt hb))
      · cases r2 with
        | error e => exact hr2
        | ok fl2 =>
          cases fl2 with
          | ret r =>
            obtain ⟨rfl, h', tk, rfl, hS', hk'⟩ := hr2
            repeat (any_goals (first | assumption | wp_step))
            exact h _ _ hS' hk'
          | _ => exact hr2.elim
    | _ => exact hr.elim
end
end DL
/-! DL22: len(set(xs)) of numbers or texts; texts with fields. -/
namespace DL
open PySem L2 PySem.Spec PyProof.Rows
def setLen (ds : List D) : Option Nat := match intsD ds with
  | some ns => if ns.length ≤ 1000 then some (kinds ns) else none
  | none => match strsD ds with
    | some xs => if xs.length ≤ 1000 then some (met xs xs.length).length else none
    | none => none
def dlensetX (f : FE) : FE := fun ρ μ => (f ρ μ).bind fun d μ1 => match d with
  | .lst ds => R.of ((setLen ds).map fun n : Nat => D.int (n : Int)) μ1
  | _ => .bad
@[simp] theorem ap_lensetX (f : FE) (ρ : En) (μ : Mu) : dlensetX f ρ μ = (f ρ μ).bind fun d μ1 => match d with
  | .lst ds => R.of ((setLen ds).map fun n : Nat => D.int (n : Int)) μ1
  | _ => .bad := of_eq_true (eq_self _)
theorem de_lensetX {X : Cx} {E : WX} {a : Expr} {fa : FE} {p p2 q pos : Pos} (hm : X.mg "len" = none) (hm2 : X.mg "set" = none) (ha : DE X E a fa) (hc : X.calm = true := by rfl) (hg : Gl X "len" := by rfl) (hg2 : Gl X "set" := by rfl)
    (na : starEach [a] X.env = (false, eval a X.env) :: starEach [] X.env := by rfl) : DE X E (.Call (.Name "len" p) [.Call (.Name "set" p2) [a] [] q] [] pos) (dlensetX fa) := by
  constructor
  intro pins s σ H Q I rd
  obtain ⟨W, ρ, μ, ok, en, z⟩ := rd
  unfold dlensetX at z
  have inner : rE X.K E fa σ H (fun x H1 => ∃ l, x = .ref l ∧ ((∃ ns : List Int, SqL X.K H1 l (ns.map V.int) ∧ ns.length ≤ 1000 ∧ Q (.int (kinds ns)) H1) ∨ ∃ xs : List Str, SqL X.K H1 l (xs.map V.str) ∧ xs.length ≤ 1000 ∧ Q (.int (met xs xs.length).length) H1)) := seq z ok en fun d μ1 W1 v H1 g1 o1 en1 r z1 => by
    cases r with
    | lst zz h rs =>
      dsimp only at z1
      unfold setLen at z1
      split at z1
      · rename_i ns hns
        have e := intsD_rep rs hns
        subst e
        split at z1
        · rename_i hl
          exact ⟨_, rfl, .inl ⟨ns, (same_lq o1.sub h).sq, hl, post_pure o1 z1 (.int _)⟩⟩
        · exact z1.elim
      · split at z1
        · rename_i xs hxs
          have e := strsD_rep rs hxs
          subst e
          split at z1
          · rename_i hl
            exact ⟨_, rfl, .inr ⟨xs, (same_lq o1.sub h).sq, hl, post_pure o1 z1 (.int _)⟩⟩
          · exact z1.elim
        · exact z1.elim
    | _ => exact z1.elim
  refine PyProof.Rows.Call_ (ld_blt I hg hm PySem.boot_len (PyProof.Rows.callWith_builtin1 (PyProof.Rows.args_cons ?_ rfl) rfl rfl))
  refine PyProof.Rows.Call_ (ld_blt I hg2 hm2 PyProof.Rows.boot_set (PyProof.Rows.callWith_type1 (PyProof.Rows.args_cons (thn (ha.run pins s σ H _ I inner) fun v s1 hv => PyProof.Rows.args_nil ?_) na) na rfl))
  obtain ⟨y, H1, I1, w1, l, ey, alt⟩ := hv
  subst ey
  cases w1
  rcases alt with ⟨ns, sq, hl, fin⟩ | ⟨xs, sq, hl, fin⟩
  · obtain ⟨its, rv, pl, _⟩ := I1.list sq
    have hsz : its.toArray.size = ns.length := by
      rw [List.size_toArray, ← rv.length, List.length_map]
    refine PySem.call_set_list (I1.ok.hd hc) pl.isList (ns := ns) (by simpa using vals_ints rv) (by rw [hsz]; unfold scanBound; omega) fun h' tk made old => PyProof.Rows.args_nil ?_
    rw [hsz] at made
    obtain ⟨ob, en', ep, tt, ho, hex, hd, _, _, _, hf, hn⟩ := made
    have few : (PyProof.Rows.firstMet (fun i => ns.getD i 0) ns.length).length ≤ ns.length := PyProof.Rows.firstMet_length_le _ _
    exact call_len_set ho hex hd hf (by rw [hn]; omega) ⟨.int (kinds ns), H1, (I1.kept fun b o e => old b o (Heap.lt_size e) e).tok _, ⟨_, by rw [hn]; rfl⟩, fin⟩
  · obtain ⟨its, rv, pl, _⟩ := I1.list sq
    refine call_set_met (I1.ok.hd hc) pl.isList (xs := xs) (by simpa using rv.strs) (by unfold scanBound; omega) fun h' tk made old => PyProof.Rows.args_nil ?_
    obtain ⟨ob, en', ep, tt, ho, hex, hd, _, _, _, hf, hn⟩ := made
    have few := met_len xs xs.length (Nat.le_refl _)
    exact call_len_set ho hex hd hf (by rw [hn]; omega) ⟨.int (met xs xs.length).length, H1, (I1.kept fun b o e => old b o (Heap.lt_size e) e).tok _, ⟨_, by rw [hn]⟩, fin⟩
/-! ### f-strings -/
def fmtD : D → Option Str
  | .str y => some y
  | .int i => if i.natAbs.log2 < 1920 then some (toString i) else none
  | _ => none
def fmtR : D → Option Str
  | .str y => some (reprText y)
  | .int i => if i.natAbs.log2 < 1920 then some (toString i) else none
  | _ => none
/-- a text, where it is short enough -/
def shortS (o : Option Str) : Option D := match o with
  | some x => if x.length ≤ 1000000 then some (.str x) else none
  | none => none
def dfmt (f : FE) : FE := fun ρ μ => (f ρ μ).bind fun d μ1 => R.of (shortS (fmtD d)) μ1
def dfmtR (f : FE) : FE := fun ρ μ => (f ρ μ).bind fun d μ1 => R.of (shortS (fmtR d)) μ1
@[simp] theorem ap_fmt (f : FE) (ρ : En) (μ : Mu) : dfmt f ρ μ = (f ρ μ).bind fun d μ1 => R.of (shortS (fmtD d)) μ1 := of_eq_true (eq_self _)
@[simp] theorem ap_fmtR (f : FE) (ρ : En) (μ : Mu) : dfmtR f ρ μ = (f ρ μ).bind fun d μ1 => R.of (shortS (fmtR d)) μ1 := of_eq_true (eq_self _)
/-- the parts one behind the other -/
def joinF : List FE → Str → En → Mu → R D
  | [], acc, _, μ => .ok (.str acc) μ
  | f :: fs, acc, ρ, μ => (f ρ μ).bind fun d μ1 => match d with
    | .str y => if acc.length + y.length ≤ 1000000 then joinF fs (acc ++ y) ρ μ1 else .bad
    | _ => .bad
def djoin (fs : List FE) : FE := fun ρ μ => joinF fs Str.empty ρ μ
@[simp] theorem ap_join (fs : List FE) (ρ : En) (μ : Mu) : djoin fs ρ μ = joinF fs Str.empty ρ μ := of_eq_true (eq_self _)
section
variable {X : Cx} {E : WX} {e : Expr} {fe : FE} {pos : Pos}
theorem de_fmt (he : DE X E e fe) : DE X E (.FormattedValue e (-1) none pos) (dfmt fe) := pe_imp (pe_fmt he) fun σ H Q ⟨W, ρ, μ, ok, en, p⟩ => by
  refine seq p ok en fun d μ1 W1 v H1 g1 o1 en1 r p1 => ?_
  unfold shortS fmtD at p1
  cases d with
  | str y =>
    cases r with
    | str _ z =>
      dsimp only at p1
      split at p1
      · exact .inl ⟨y, rfl, z, post_pure o1 p1 (.str _ z)⟩
      · exact p1.elim
  | int i =>
    cases r
    dsimp only at p1
    by_cases h : i.natAbs.log2 < 1920
    · rw [if_pos h] at p1
      dsimp only at p1
      split at p1
      · rename_i hl
        exact .inr ⟨i, rfl, h, post_pure o1 p1 (.str _ (le_line hl))⟩
      · exact p1.elim
    · rw [if_neg h] at p1
      exact p1.elim
  | _ => exact p1.elim
theorem de_fmtR (he : DE X E e fe) : DE X E (.FormattedValue e 114 none pos) (dfmtR fe) := pe_imp (pe_fmtR he) fun σ H Q ⟨W, ρ, μ, ok, en, p⟩ => by
  refine seq p ok en fun d μ1 W1 v H1 g1 o1 en1 r p1 => ?_
  unfold shortS fmtR at p1
  cases d with
  | str y =>
    cases r with
    | str _ z =>
      dsimp only at p1
      split at p1
      · rename_i hl
        exact .inl ⟨y, rfl, le_line hl, post_pure o1 p1 (.str _ (le_line hl))⟩
      · exact p1.elim
  | int i =>
    cases r
    dsimp only at p1
    by_cases h : i.natAbs.log2 < 1920
    · rw [if_pos h] at p1
      dsimp only at p1
      split at p1
      · rename_i hl
        exact .inr ⟨i, rfl, h, post_pure o1 p1 (.str _ (le_line hl))⟩
      · exact p1.elim
    · rw [if_neg h] at p1
      exact p1.elim
  | _ => exact p1.elim
inductive DJ (X : Cx) (E : WX) : List Expr → List FE → Prop
  | nil : DJ X E [] []
  | cons {e : Expr} {f : FE} {es : List Expr} {fs : List FE} (h : DE X E e f) (r : DJ X E es fs) : DJ X E (e :: es) (f :: fs)
theorem DJ.pj {es : List Expr} {fs : List FE} (h : DJ X E es fs) : PJ X es (fs.map (rE X.K E)) := by
  induction h with
  | nil => exact .nil
  | cons h r ih => exact .cons h ih
theorem join_js : ∀ (fs : List FE) (acc : Str) (σ : L2.St) (H : Hp) (Q : VK) (W : Wd) (ρ : En) (μ : Mu), acc.length ≤ sizeLine → Ok X.K W H μ → Envs X.K W σ ρ → postE X.K (WE E σ) W H (joinF fs acc ρ μ) Q → tJs (fs.map (rE X.K E)) acc σ H fun out H1 => Q (.str out) H1
  | [], acc, σ, H, Q, W, ρ, μ, ha, ok, en, p => by
    unfold joinF at p
    exact post_pure ok p (.str _ ha)
  | f :: fs, acc, σ, H, Q, W, ρ, μ, ha, ok, en, p => by
    unfold joinF at p
    refine seq p ok en fun d μ1 W1 v H1 g1 o1 en1 r p1 => ?_
    cases d with
    | str y =>
      cases r
      dsimp only at p1
      split at p1
      · rename_i hl
        have h2 : (acc ++ y).length ≤ sizeLine := by rw [strlen_app]; exact le_line hl
        exact ⟨y, rfl, h2, join_js fs (acc ++ y) σ H1 Q W1 ρ μ1 h2 o1 en1 p1⟩
      · exact p1.elim
    | _ => exact p1.elim
theorem de_joined {v1 v2 : Expr} {rest : List Expr} {fs : List FE} (h : DJ X E (v1 :: v2 :: rest) fs) : DE X E (.JoinedStr (v1 :: v2 :: rest) pos) (djoin fs) :=
  pe_imp (pe_joined h.pj) fun σ H Q ⟨W, ρ, μ, ok, en, p⟩ => join_js fs Str.empty σ H Q W ρ μ (Nat.zero_le _) ok en p
end
end DL
/-! DL23: == by an own __eq__. -/
namespace DL
open PySem L2 PySem.Spec PyProof.Rows
/-- the type of what stands at the right -/
def tyW (μ : Mu) : D → Option Ty
  | .non => some (.blt "NoneType")
  | .bl _ => some (.blt "bool")
  | .int _ => some (.blt "int")
  | .str _ => some (.blt "str")
  | .tup _ => some (.blt "tuple")
  | .lst _ => some (.blt "list")
  | d => match insD μ d with
    | some (C, _) => some (.own C)
    | none => none
theorem looks_obj {M : Model} {h : Heap} {a : Addr} {o : Obj} (e : h.get? a = some o) : PySem.W.Looks M h (typeOf (.ref a)) o.cls := (PySem.W.Looks.ld e).andThen .now
section
variable {X : Cx} {E : WX} {pins : List (Addr × Obj)} {σ : L2.St} {H : Hp} {s : Shared}
theorem ins_inst {a C dx : Addr} {fs : List (Str × V)} (I : Inv X pins σ H s) (e : H a = some (.ins C dx fs)) : ∃ od : Obj, PySem.W.InstAt s.heap a (PySem.W.instObj C dx) C (some od) := by
  obtain ⟨mA, O, r, wi, _, ho⟩ := ins_get I.hok e
  obtain ⟨od, hod, hl⟩ := lookIn_ns O.ns
  exact ⟨od, O.obj, rfl, rfl, hod⟩
theorem looks_ty {W : Wd} {μ : Mu} {v : V} {d : D} {u : Value} {t : Ty} (I : Inv X pins σ H s) (ok : Ok X.K W H μ) (r : Rep X.K W v d) (rv : RelV v u) (h : tyW μ d = some t) : PySem.W.Looks (model X.prog X.w) s.heap (typeOf u) (t.val X.K) := by
  have own : ∀ {C : Nat} {fs : List (Str × D)}, insD μ d = some (C, fs) → PySem.W.Looks (model X.prog X.w) s.heap (typeOf u) (.ref (cl X.K C)) := fun hi => by
    obtain ⟨a, dx, ns, vs, ds, rfl, ha, _, _⟩ := ins_rep ok r hi
    cases rv
    obtain ⟨od, J⟩ := ins_inst I ha
    exact J.type
  have via : (match insD μ d with | some (C, _) => some (Ty.own C) | none => none) = some t → PySem.W.Looks (model X.prog X.w) s.heap (typeOf u) (t.val X.K) := fun z => by
    cases hi : insD μ d with
    | none => rw [hi] at z; cases z
    | some q =>
      obtain ⟨C, fs⟩ := q
      rw [hi] at z
      cases z
      exact own hi
  cases r with
  | non => cases h; cases rv; exact PySem.W.Looks.of_pure rfl
  | bl b => cases h; cases rv; exact PySem.W.Looks.of_pure rfl
  | int i => cases h; obtain ⟨tk, rfl⟩ := rv; exact PySem.W.Looks.of_pure rfl
  | str x z => cases h; obtain ⟨tk, rfl⟩ := rv; exact PySem.W.Looks.of_pure rfl
  | tup z h1 q =>
    cases h
    cases rv
    obtain ⟨its, _, ⟨o, ho, hc, _⟩, _⟩ := I.tuple (same_t ok.sub h1)
    show PySem.W.Looks _ _ _ (Value.type "tuple")
    rw [← hc]
    exact looks_obj ho
  | lst z h1 q =>
    cases h
    cases rv
    obtain ⟨its, n, _, e⟩ := (same_lq ok.sub h1).isL I
    exact looks_obj e
  | hdl ha => exact via h
  | cst v => cases h
  | glo c => exact via h
  | obj h1 e rs => exact via h
  | exc h1 rs => exact via h
/-- x == y, x of the class C with an own __eq__ that keeps F; ts: types that y may have -/
def eqOwn (C : Nat) (F : List D → Mu → R D) (ts : List Ty) : D → D → Mu → R D := fun x y μ => match insD μ x, tyW μ y with
  | some (C', _), some t => if C' = C ∧ t ∈ ts then (F [x, y] μ).nox else .bad
  | _, _ => .bad
theorem nox_post {K : PySem.W.Frag} {E' : XK} {σ : L2.St} {W : Wd} {H : Hp} {r : R D} {Q : VK} (p : postE K E' W H r.nox Q) : postE K (WE E0 σ) W H r Q := by
  cases r with
  | ok d μ => exact p
  | ex c fs μ => exact p.elim
  | bad => exact p
theorem Cal.quiet {X : Cx} {E : WX} {k : Nat} (c : Cal X E k) : Cal X E0 k := ⟨c.room, c.guards, take0⟩
theorem opx_own {k C : Nat} {f : Addr} {fd : FuncData} {ps : List Str} {F : List D → Mu → R D} {ts : List Ty} {op : CmpOp} (hop : ∀ a b, compareOp op a b = richCompare op a b) (G : FnG X.prog X.w X.K X.mg X.base k f fd ps F) (c : Cal X E k) (b : Dfl X.K fd ps 2 [])
    (hs : PySem.W.findIn X.K (.ref (cl X.K C)) (cmpInfo op).2.1 = some (some (.ref f))) (hf : PySem.W.isFn X.K (.ref f) = true) (hts : ∀ t ∈ ts, PySem.W.notFirst X.K (cl X.K C) (t.val X.K) = true) : OpX X E (compareOp op) (eqOwn C F ts) := by
  intro pins s σ H x y v u Q I rx ry q
  obtain ⟨E', W, μ, dx, dy, ok, r1, r2, p⟩ := q
  unfold eqOwn at p
  split at p
  · rename_i C' fs t hi ht
    split at p
    · rename_i hq
      obtain ⟨rfl, hm⟩ := hq
      have lk := looks_ty I ok r2 ry ht
      obtain ⟨a, dd, ns, vs, ds, rfl, ha, _, _⟩ := ins_rep ok r1 hi
      cases rx
      obtain ⟨od, J⟩ := ins_inst I ha
      obtain ⟨m, hF⟩ := I.fr
      rw [hop]
      refine PySem.W.cmp_K (op := op) (tb := t.val X.K) c.room.units0 hF I.ok.mod.kin J lk (hts t hm) hs hf ?_
      refine wpAny_mono (callF_args (us := [.ref a, u]) (vs := [.ref a, y]) (n := 2) (ds := [dx, dy]) G c.quiet b I rfl (.cons rfl (.cons ry .nil)) ok (.cons r1 (.cons r2 .nil)) (nox_post p)) (fun w s' z => ?_) fun _ _ e => e
      obtain ⟨z', H', I', rz, qz⟩ := z
      exact SlX.cmpback rz ⟨z', H', I', rz, qz⟩
    · exact p.elim
  · exact p.elim
end
end DL
/-! DL24: != by an own __eq__, str(o), repr(o) by own __str__, __repr__. -/
namespace DL
open PySem L2 PySem.Spec PyProof.Rows
section
variable {X : Cx} {E : WX} {k C : Nat} {f : Addr} {fd : FuncData} {ps : List Str} {F : List D → Mu → R D} {pins : List (Addr × Obj)} {σ : L2.St} {H : Hp} {s : Shared} {Q : VK} {us : List Value} {vs : List V} {W : Wd} {ds : List D} {μ : Mu} {n : Nat} {dd : List D}
/-- a call below a built-in -/
theorem callF_at {A : Around} (hA : Room k A) (hg : A.guards = some []) (he : Env0 X.prog X.w X.K X.mg X.base A X.stack s H) (G : FnG X.prog X.w X.K X.mg X.base k f fd ps F) (hx : ∀ σ, PassesAt (L2.CX X.prog X.w) X σ (WE E σ)) (b : Dfl X.K fd ps n dd)
    (I : Inv X pins σ H s) (hn : us.length = n) (rv : Vals vs us) (ok : Ok X.K W H μ) (r : Reps X.K W vs ds) (q : postE X.K (WE E σ) W H (F (ds ++ dd) μ) Q) : wpAny (model X.prog X.w) A (call (.ref f) us) (EP X pins σ Q) X.xe s := by
  obtain ⟨dvs, d0, r0, rd, hl, hb⟩ := b.ex
  have hlen : (us ++ d0).length = ps.length := by rw [List.length_append, hn]; exact hl
  refine wpAny_call (codeAny_mono (G.run A X.stack s H ⟨us, []⟩ (us ++ d0) (vs ++ dvs) Q (WE E σ) W (ds ++ dd) μ hA hg he hlen (hb s us I.kIn hlen) (rv.append r0) ok (r.app (rd W)) q) fun z s2 hz => ?_)
  match z, hz with
  | .error e, hz => exact hx σ pins H s e s2 I hz
  | .ok (.ret u), hz => exact I.after hz
end
theorem ifBound_B {M : Model} {A : Around} {E : Value → Shared → Prop} {s : Shared} {K : PySem.W.Frag} {x C : Addr} {ox : Obj} {od : Option Obj} {name : Str} {id : String} {args : List Value} {Q : Option Value → Shared → Prop} (X : K.In s.heap) (I : PySem.W.InstAt s.heap x ox C od)
    (hs : PySem.W.findIn K (.ref C) name = some (some (.builtin id))) (hb : ∀ self, bindSpecial (.builtin id) self = pure (.builtin id, [self])) (h : wpAny M A (call (.builtin id) (.ref x :: args)) (fun v => Q (some v)) E s) : wpAny M A (callSpecialIfBound? (.ref x) name args) Q E s := by
  simp only [callSpecialIfBound?, bindSpecialIfBound?]
  refine wpAny_holding (wpAny_bind (wpAny_bind (wpAny_bind (I.type.here ((PySem.W.looks_findIn X hs).here ?_)))))
  simp only [hb]
  refine wpAny_bind (wpAny_askSetting (wpAny_ite ?_))
  have fin : wpAny M A (call (.builtin id) ([.ref x] ++ args) >>= fun v => pure (some v)) Q E s := wpAny_bind (wpAny_mono h (fun v s' z => wpAny_pure z) fun _ _ z => z)
  split
  · exact wpAny_bind (wpAny_pure (wpAny_pure fin))
  · exact wpAny_tryCatch (wpAny_bind (wpAny_pure (wpAny_pure fin)))
section
variable {prog : Program} {w : World} {A : Around} {E : Value → Shared → Prop} {s : Shared} {K : PySem.W.Frag} {x C f L : Addr} {h₀ : Heap} {m : Str → Option Value} {ox : Obj} {od : Option Obj} {b tb : Value}
open Builtin in
theorem ne_slot {Q : Value → Shared → Prop} (hu : A.in1.units < cLine) (X : K.In s.heap) (I : PySem.W.InstAt s.heap x ox C od) (hm : PySem.W.mroIn K C (.type "object") = some true) (hs : PySem.W.findIn K (.ref C) "__eq__" = some (some (.ref f))) (hf : PySem.W.isFn K (.ref f) = true)
    (h : wpAny (model prog w) A.in1 (call (.ref f) [.ref x, b]) (PySem.W.BoolBack fun r s' => Q (.bool (!r)) s') E s) : wpAny (model prog w) A (call (.builtin "object.__ne__") [.ref x, b]) Q E s := by
  refine wpAny_call (codeAny_call_builtin (by decide +kernel) PySem.F.cmpEntry_ne (PySem.W.check_slot (i := "object.__ne__") (owner := "object") (n := "__ne__") PySem.F.cmpKind_ne PySem.F.cmpSplit_ne (I.type.andThen (PySem.W.looks_mroIn X hm)) (PySem.F.cmpArgs_ne _ _) ?_))
  unfold Builtin.«object.__ne__»
  refine wpAny_bind (m := slotArgs "__ne__" 1 _) (wpAny_pure ?_)
  refine wpAny_bind (m := cRoomFor _ _) (wpAny_cRoomFor hu ?_)
  refine wpAny_bind (m := callSpecialIfBound? (.ref x) (Str.ofString "__eq__") _) (PySem.W.ifBound_K X I hs hf (wpAny_mono h (fun r s' hq => ?_) fun _ _ y => y))
  cases r <;> first | exact hq.elim | exact wpAny_bind (wpAny_pure (wpAny_pure hq))
end
section
variable {prog : Program} {w : World} {A : Around} {E : Value → Shared → Prop} {s : Shared} {K : PySem.W.Frag} {x C f L : Addr} {h₀ : Heap} {m : Str → Option Value} {ox : Obj} {od : Option Obj} {b tb : Value}
theorem ne_K {Q : Value → Shared → Prop} (hu : A.units + 1 < cLine) (X : K.In s.heap) (I : PySem.W.InstAt s.heap x ox C od) (hb : PySem.W.Looks (model prog w) s.heap (typeOf b) tb) (hn : PySem.W.notFirst K C tb = true)
    (hne : PySem.W.findIn K (.ref C) "__ne__" = some (some (.builtin "object.__ne__"))) (hm : PySem.W.mroIn K C (.type "object") = some true) (hs : PySem.W.findIn K (.ref C) "__eq__" = some (some (.ref f))) (hf : PySem.W.isFn K (.ref f) = true)
    (h : wpAny (model prog w) A.in1 (call (.ref f) [.ref x, b]) (PySem.W.BoolBack fun r s' => Q (.bool (!r)) s') E s) : wpAny (model prog w) A (richCompare .NotEq (.ref x) b) Q E s := by
  have bd : ∀ self, bindSpecial (.builtin "object.__ne__") self = pure (.builtin "object.__ne__", [self]) := PySem.F.slot_object_ne.bind
  have one : wpAny (model prog w) A (tryCompare (.ref x) (cmpInfo .NotEq).2.1 b) (fun r s' => ∃ v, r = some v ∧ Q v s') E s := by
    unfold tryCompare
    refine wpAny_bind (ifBound_B X I hne bd (ne_slot hu X I hm hs hf (wpAny_mono h (fun v s' z => ?_) fun _ _ e => e)))
    cases v <;> first | exact z.elim | exact wpAny_pure ⟨_, rfl, z⟩
  unfold richCompare
  simp only [oneThing_ref]
  refine wpAny_holding (wpAny_bind (wpAny_cRoomFor (Nat.lt_of_succ_lt hu) ?_))
  refine wpAny_bind (I.type.here (wpAny_bind (hb.here ?_)))
  split
  · rename_i q
    have e : PySem.W.subIn K tb (.ref C) = some false := by
      rcases Bool.or_eq_true_iff.mp hn with z | z
      · rw [beq_iff_eq.mp z] at q
        simp at q
      · exact beq_iff_eq.mp z
    refine wpAny_bind ((PySem.W.looks_subIn X e).here ?_)
    simp only [Bool.false_eq_true, if_false]
    refine wpAny_bind (wpAny_mono one (fun r s' z => ?_) fun _ _ z => z)
    obtain ⟨v, rfl, z⟩ := z
    exact wpAny_pure z
  · refine wpAny_bind (wpAny_pure ?_)
    simp only [Bool.false_eq_true, if_false]
    refine wpAny_bind (wpAny_mono one (fun r s' z => ?_) fun _ _ z => z)
    obtain ⟨v, rfl, z⟩ := z
    exact wpAny_pure z
/-- repr(o) by an own __repr__ -/
theorem repr_K {Q : Value → Shared → Prop} (hu : A.in1.units < cLine) (X : K.In s.heap) (I : PySem.W.InstAt s.heap x ox C od) (hs : PySem.W.findIn K (.ref C) "__repr__" = some (some (.ref f))) (hf : PySem.W.isFn K (.ref f) = true)
    (h : wpAny (model prog w) A.in1 (call (.ref f) [.ref x]) (PySem.W.StrBack Q) E s) : wpAny (model prog w) A (call (.builtin "repr") [.ref x]) Q E s := by
  refine Calls.call_function_entry PySem.F.kind_repr PySem.F.plain_repr PySem.F.entry_repr (PySem.F.args_repr1 _) ?_
  unfold Builtin.«repr»
  refine wpAny_bind (wpAny_pure ?_)
  refine wpAny_bind (m := cRoomFor _ _) (wpAny_cRoomFor hu ?_)
  refine wpAny_bind (m := specialOf (.ref x) _) (wpAny_bind (I.type.here ((PySem.W.looks_findIn X hs).here ?_)))
  refine wpAny_bind (m := callSpecialIfBound? (.ref x) (Str.ofString "__repr__") _) (PySem.W.ifBound_K X I hs hf (wpAny_mono h (fun r s' hq => ?_) fun _ _ y => y))
  cases r <;> first | exact hq.elim | skip
  rename_i y t
  refine wpAny_bind (wpAny_isInstance (T := "str") (b := true) (typeIs_str _ _ _) isSubtype_str_str ?_)
  exact wpAny_pure ⟨_, rfl, hq⟩
end
/-! ### as rules -/
def notB : R D → R D
  | .ok (.bl b) μ => .ok (.bl (!b)) μ
  | _ => .bad
/-- x != y, x of the class C with an own __eq__ alone -/
def neOwn (C : Nat) (F : List D → Mu → R D) (ts : List Ty) : D → D → Mu → R D := fun x y μ => match insD μ x, tyW μ y with
  | some (C', _), some t => if C' = C ∧ t ∈ ts then notB (F [x, y] μ) else .bad
  | _, _ => .bad
def strOnly : R D → R D
  | .ok (.str x) μ => .ok (.str x) μ
  | _ => .bad
/-- str(o), repr(o) of an instance of C, or as ahead -/
def bOwn (C : Nat) (F : List D → Mu → R D) (g : List D → Mu → R D) : List D → Mu → R D := fun ds μ => match ds with
  | [d] => match insD μ d with
    | some (C', _) => if C' = C then strOnly (F [d] μ) else .bad
    | none => g [d] μ
  | _ => .bad
section
variable {X : Cx} {E : WX} {k C : Nat} {f : Addr} {fd : FuncData} {ps : List Str} {F : List D → Mu → R D} {ts : List Ty}
theorem Room.units1 {k : Nat} {A : Around} (r : Room (k + 1) A) : A.units + 1 < cLine := by have := r.un; omega
theorem opx_neOwn (G : FnG X.prog X.w X.K X.mg X.base k f fd ps F) (c : Cal X E (k + 1)) (b : Dfl X.K fd ps 2 []) (hne : PySem.W.findIn X.K (.ref (cl X.K C)) "__ne__" = some (some (.builtin "object.__ne__"))) (hm : PySem.W.mroIn X.K (cl X.K C) (.type "object") = some true)
    (hs : PySem.W.findIn X.K (.ref (cl X.K C)) "__eq__" = some (some (.ref f))) (hf : PySem.W.isFn X.K (.ref f) = true) (hts : ∀ t ∈ ts, PySem.W.notFirst X.K (cl X.K C) (t.val X.K) = true) : OpX X E (compareOp .NotEq) (neOwn C F ts) := by
  intro pins s σ H x y v u Q I rx ry q
  obtain ⟨E', W, μ, dx, dy, ok, r1, r2, p⟩ := q
  unfold neOwn at p
  split at p
  · rename_i C' fs t hi ht
    split at p
    · rename_i hq
      obtain ⟨rfl, hmem⟩ := hq
      have lk := looks_ty I ok r2 ry ht
      obtain ⟨a, dd, ns, vs, ds, rfl, ha, _, _⟩ := ins_rep ok r1 hi
      cases rx
      obtain ⟨od, J⟩ := ins_inst I ha
      show wpAny _ _ (richCompare .NotEq (.ref a) u) _ _ _
      refine ne_K (Room.units1 c.room) I.kIn J lk (hts t hmem) hne hm hs hf ?_
      have p' : postE X.K (WE E0 σ) W H (F ([dx, dy] ++ []) μ) (fun z H' => ∃ bb, z = .bl bb ∧ Q (.bl (!bb)) H') := by
        rw [List.append_nil]
        revert p
        cases F [dx, dy] μ with
        | ok d μ1 =>
          intro p W' v' H' g' o' r'
          cases r' with
          | bl bb => exact ⟨bb, rfl, p W' _ H' g' o' (.bl _)⟩
          | _ => exact p.elim
        | ex c fs μ1 => exact fun p => p.elim
        | bad => exact fun p => p
      refine wpAny_mono (callF_at (us := [.ref a, u]) (vs := [.ref a, y]) (n := 2) (ds := [dx, dy]) (Room.in1 c.room) c.guards I.env0.in1 G pass0 b I rfl (.cons rfl (.cons ry .nil)) ok (.cons r1 (.cons r2 .nil)) p') (fun w s' z => ?_) fun _ _ e => e
      obtain ⟨z', H', I', rz, bb, rfl, qz⟩ := z
      cases rz
      exact ⟨.bl (!bb), H', I', rfl, qz⟩
    · exact p.elim
  · exact p.elim
theorem str_back {pins : List (Addr × Obj)} {σ : L2.St} {Q : VK} {w : Value} {s' : Shared} (z : EP X pins σ (fun z H' => ∃ y, z = .str y ∧ Q (.str y) H') w s') : PySem.W.StrBack (EP X pins σ Q) w s' := by
  obtain ⟨z', H', I', rz, y, rfl, qz⟩ := z
  obtain ⟨t, rfl⟩ := rz
  exact ⟨.str y, H', I', ⟨t, rfl⟩, qz⟩
theorem str_post {E' : XK} {σ : L2.St} {W : Wd} {H : Hp} {μ : Mu} {ds : List D} {Q : VK} (p : postE X.K E' W H (strOnly (F ds μ)) Q) : postE X.K (WE E0 σ) W H (F (ds ++ []) μ) (fun z H' => ∃ y, z = .str y ∧ Q (.str y) H') := by
  rw [List.append_nil]
  revert p
  cases F ds μ with
  | ok d μ1 =>
    intro p W' v' H' g' o' r'
    cases r' with
    | str y z => exact ⟨y, rfl, p W' _ H' g' o' (.str y z)⟩
    | _ => exact p.elim
  | ex c fs μ1 => exact fun p => p.elim
  | bad => exact fun p => p
theorem cx_strOwn {g : List D → Mu → R D} (hg : CallX X E (.type "str") g) (G : FnG X.prog X.w X.K X.mg X.base k f fd ps F) (c : Cal X E (k + 2)) (b : Dfl X.K fd ps 1 []) (hs : PySem.W.findIn X.K (.ref (cl X.K C)) "__str__" = some (some (.ref f))) (hf : PySem.W.isFn X.K (.ref f) = true) : CallX X E (.type "str") (bOwn C F g) := by
  intro pins s σ H xs us Q I rx q
  obtain ⟨E', W, μ, ds, ok, r1, p⟩ := q
  unfold bOwn at p
  split at p
  · rename_i d
    split at p
    · rename_i C' fs hi
      split at p
      · rename_i e
        subst e
        cases r1 with
        | cons r1 r2 =>
          cases r2
          obtain ⟨a, dd, ns, vs, ds, rfl, ha, _, _⟩ := ins_rep ok r1 hi
          obtain ⟨u, rfl, ru⟩ := rx.one
          cases ru
          obtain ⟨od, J⟩ := ins_inst I ha
          have rm : Room k X.A.in1.in1 := (show Room (k + 1) X.A.in1 from Room.in1 c.room).in1
          exact PySem.W.kso_call rm.units0 I.kIn J hs hf (wpAny_mono (callF_at (us := [.ref a]) (vs := [.ref a]) (n := 1) (ds := [d]) rm c.guards I.env0.in1.in1 G pass0 b I rfl (.cons rfl .nil) ok (.cons r1 .nil) (str_post p)) (fun w s' z => str_back z) fun _ _ e => e)
      · exact p.elim
    · exact hg pins s σ H xs us Q I rx ⟨E', W, μ, _, ok, r1, p⟩
  · exact p.elim
theorem cx_reprOwn {g : List D → Mu → R D} (hg : CallX X E (.builtin "repr") g) (G : FnG X.prog X.w X.K X.mg X.base k f fd ps F) (c : Cal X E (k + 1)) (b : Dfl X.K fd ps 1 []) (hs : PySem.W.findIn X.K (.ref (cl X.K C)) "__repr__" = some (some (.ref f))) (hf : PySem.W.isFn X.K (.ref f) = true) : CallX X E (.builtin "repr") (bOwn C F g) := by
  intro pins s σ H xs us Q I rx q
  obtain ⟨E', W, μ, ds, ok, r1, p⟩ := q
  unfold bOwn at p
  split at p
  · rename_i d
    split at p
    · rename_i C' fs hi
      split at p
      · rename_i e
        subst e
        cases r1 with
        | cons r1 r2 =>
          cases r2
          obtain ⟨a, dd, ns, vs, ds, rfl, ha, _, _⟩ := ins_rep ok r1 hi
          obtain ⟨u, rfl, ru⟩ := rx.one
          cases ru
          obtain ⟨od, J⟩ := ins_inst I ha
          have rm : Room k X.A.in1 := Room.in1 c.room
          exact repr_K rm.units0 I.kIn J hs hf (wpAny_mono (callF_at (us := [.ref a]) (vs := [.ref a]) (n := 1) (ds := [d]) rm c.guards I.env0.in1 G pass0 b I rfl (.cons rfl .nil) ok (.cons r1 .nil) (str_post p)) (fun w s' z => str_back z) fun _ _ e => e)
      · exact p.elim
    · exact hg pins s σ H xs us Q I rx ⟨E', W, μ, _, ok, r1, p⟩
  · exact p.elim
end
end DL
/-! DL25: data of the module's own, one of two readings, defs apart. -/
namespace DL
open PySem L2 PySem.Spec PyProof.Rows
/-! ### what the module holds -/
mutual
/-- the value u of the written part is the datum d -/
def holdV (K : PySem.W.Frag) : Nat → Value → D → Bool
  | _, .none, .non => true
  | _, .bool b, .bl c => b == c
  | _, .int i _, .int j => i == j
  | _, .str x _, .str y => x == y && decide (x.length ≤ 1000000)
  | n + 1, .ref a, .tup ds => match K.lookup a with
    | some o => (match o.data with
      | .seq its _ => o.cls == .type "tuple" && (decide (its.size ≤ 1000000) && holdVs K n its.toList ds)
      | _ => false)
    | none => false
  | _, _, _ => false
def holdVs (K : PySem.W.Frag) : Nat → List Value → List D → Bool
  | _, [], [] => true
  | n, u :: us, d :: ds => holdV K n u d && holdVs K n us ds
  | _, _, _ => false
end
mutual
theorem holdV_rep {K : PySem.W.Frag} : ∀ (n : Nat) (u : Value) (d : D), holdV K n u d = true → ∃ v, RelV v u ∧ ∀ W, Rep K W v d
  | n, u, .non, h => by
    cases u <;> first | exact ⟨.non, rfl, fun _ => .non⟩ | (cases n <;> simp [holdV] at h)
  | n, u, .bl c, h => by
    cases u with
    | bool b =>
      have e : b = c := by cases n <;> simpa [holdV] using h
      subst e
      exact ⟨.bl b, rfl, fun _ => .bl b⟩
    | _ => cases n <;> simp [holdV] at h
  | n, u, .int j, h => by
    cases u with
    | int i t =>
      have e : i = j := by cases n <;> simpa [holdV] using h
      subst e
      exact ⟨.int i, ⟨t, rfl⟩, fun _ => .int i⟩
    | _ => cases n <;> simp [holdV] at h
  | n, u, .str y, h => by
    cases u with
    | str x t =>
      have e : x = y ∧ x.length ≤ 1000000 := by cases n <;> simpa [holdV] using h
      obtain ⟨rfl, hl⟩ := e
      exact ⟨.str x, ⟨t, rfl⟩, fun _ => .str x (le_line hl)⟩
    | _ => cases n <;> simp [holdV] at h
  | 0, u, .tup ds, h => by cases u <;> simp [holdV] at h
  | n + 1, u, .tup ds, h => by
    cases u with
    | ref a =>
      unfold holdV at h
      split at h
      · rename_i o ho
        split at h
        · rename_i its m hd
          simp only [Bool.and_eq_true, beq_iff_eq, decide_eq_true_eq] at h
          obtain ⟨hc, hz, hv⟩ := h
          obtain ⟨vs, rv, rp⟩ := holdVs_reps n its.toList ds hv
          have hl : its.size ≤ sizeLine := le_line hz
          refine ⟨.ref a, rfl, fun W => .tup ?_ (.inr ⟨o, its, m, ho, hc, hd, hl, rv⟩) (rp W)⟩
          rw [← (rp W).length, rv.length, Array.length_toList]
          exact hl
        · cases h
      · cases h
    | _ => simp [holdV] at h
  | n, u, .lst _, h => by cases n <;> cases u <;> simp [holdV] at h
  | n, u, .hdl _, h => by cases n <;> cases u <;> simp [holdV] at h
  | n, u, .cst _, h => by cases n <;> cases u <;> simp [holdV] at h
  | n, u, .obj _ _, h => by cases n <;> cases u <;> simp [holdV] at h
  | n, u, .glo _, h => by cases n <;> cases u <;> simp [holdV] at h
  | n, u, .exc _ _, h => by cases n <;> cases u <;> simp [holdV] at h
theorem holdVs_reps {K : PySem.W.Frag} : ∀ (n : Nat) (us : List Value) (ds : List D), holdVs K n us ds = true → ∃ vs, Vals vs us ∧ ∀ W, Reps K W vs ds
  | n, [], [], _ => ⟨[], .nil, fun _ => .nil⟩
  | n, [], _ :: _, h => by cases n <;> simp [holdVs] at h
  | n, _ :: _, [], h => by cases n <;> simp [holdVs] at h
  | n, u :: us, d :: ds, h => by
    have h : (holdV K n u d && holdVs K n us ds) = true := by cases n <;> simpa [holdVs] using h
    rw [Bool.and_eq_true] at h
    obtain ⟨v, r, p⟩ := holdV_rep n u d h.1
    obtain ⟨vs, rs, ps⟩ := holdVs_reps n us ds h.2
    exact ⟨v :: vs, .cons r rs, fun W => .cons (p W) (ps W)⟩
end
/-- a global of the module is the datum d -/
def gloB (K : PySem.W.Frag) (x : Str) (d : D) : Bool := match PySem.W.nsIn K mainGlobals x with
  | some (some u) => holdV K 8 u d
  | _ => false
theorem gloB_ok {K : PySem.W.Frag} {h : Heap} {mg : Str → Option Value} (X : K.In h) (G : h.Ns mainGlobals mg) {x : Str} {d : D} (c : gloB K x d = true) : ∃ u v, mg x = some u ∧ RelV v u ∧ ∀ W, Rep K W v d := by
  unfold gloB at c
  split at c
  · rename_i u e
    obtain ⟨v, r, p⟩ := holdV_rep 8 u d c
    exact ⟨u, v, PySem.W.mg_of X G e, r, p⟩
  · cases c
/-! ### one of two readings -/
theorem opx_if {X : Cx} {E : WX} {f : Value → Value → Sem Value} {g1 g2 : D → D → Mu → R D} (c : D → D → Mu → Bool) (h1 : OpX X E f g1) (h2 : OpX X E f g2) : OpX X E f (fun x y μ => if c x y μ = true then g1 x y μ else g2 x y μ) := by
  intro pins s σ H x y v u Q I rx ry q
  obtain ⟨E', W, μ, dx, dy, ok, r1, r2, p⟩ := q
  dsimp only at p
  by_cases hc : c dx dy μ = true
  · rw [if_pos hc] at p
    exact h1 pins s σ H x y v u Q I rx ry ⟨E', W, μ, dx, dy, ok, r1, r2, p⟩
  · rw [if_neg hc] at p
    exact h2 pins s σ H x y v u Q I rx ry ⟨E', W, μ, dx, dy, ok, r1, r2, p⟩
/-- == where the left one may be an instance -/
def eqP (C : Nat) (F : List D → Mu → R D) (ts : List Ty) : D → D → Mu → R D := fun x y μ => if (insD μ x).isSome = true then eqOwn C F ts x y μ else dEq x y μ
def neP (C : Nat) (F : List D → Mu → R D) (ts : List Ty) : D → D → Mu → R D := fun x y μ => if (insD μ x).isSome = true then neOwn C F ts x y μ else dNeX x y μ
/-! ### defs apart -/
theorem FunD.ne {K : PySem.W.Frag} {x x' q q' : Str} {p p' : Arguments} {b b' : List Stmt} {sc sc' : Scope} {dv dv' : List V} {kw kw' : List (Str × V)} {f f' : Addr} {fd fd' : FuncData} (F : FunD K x q p b sc dv kw f fd) (F' : FunD K x' q' p' b' sc' dv' kw' f' fd') (h : x ≠ x') : f ≠ f' := by
  rintro rfl
  obtain ⟨oc, od, dV, kV, doc, pm, an, cdv, ct, osl, rfl, lk, _⟩ := F.ex
  obtain ⟨oc', od', dV', kV', doc', pm', an', cdv', ct', osl', rfl, lk', _⟩ := F'.ex
  have e := lk.symm.trans lk'
  have e2 : PySem.W.fnOf x q p b sc dV kV doc pm an cdv ct = PySem.W.fnOf x' q' p' b' sc' dV' kV' doc' pm' an' cdv' ct' := by
    injection e with e
    injection e with e1 e2 e3 e4
    injection e3
  have e3 := congrArg FuncData.name e2
  exact h e3
end DL
/-! DL26: facts of classes by Bools of the written part. -/
namespace DL
open PySem L2 PySem.Spec PyProof.Rows
/-- the keyword default x of the def at f, if it is an object -/
def kwAt (f : Str × Option Str) (x : Str) (K : PySem.W.Frag) : Addr := match K.lookup (He.fAd K f) with
  | some ⟨_, _, .func fd, _⟩ => (match fd.kwdefaults with
    | .ref d => (match PySem.W.nsIn K d x with
      | some (some (.ref b)) => b
      | _ => 0)
    | _ => 0)
  | _ => 0
/-- f() -/
theorem de_call0 {X : Cx} {E : WX} {k : Nat} {f : Addr} {fd : FuncData} {ps : List Str} {F : List D → Mu → R D} {dd : List D} {x : Str} {p pos : Pos} (G : FnG X.prog X.w X.K X.mg X.base k f fd ps F) (c : Cal X E k) (hm : X.mg x = some (.ref f)) (hk : PySem.W.keepIn X.K (.ref f) = true) (b : Dfl X.K fd ps 0 dd)
    (hg : Gl X x := by rfl) (hdb : (x == ("__debug__" : Str)) = false := by decide) : DE X E (.Call (.Name x p) [] [] pos) (dcall F dd aNil) := by
  refine ⟨fun pins s σ H Q I q => ?_⟩
  obtain ⟨W, ρ, μ, ok, en, pq⟩ := q
  refine wpAny_Call_Name_kw (ld_glob I hg hm ?_ hdb)
  unfold dcall aNil at pq
  rw [R.bind_ok] at pq
  exact PySem.W.callWith_K0 I.kIn hk (callF_args (us := []) (vs := []) (n := 0) G c b I rfl .nil ok .nil pq)
/-- what isinstance may be asked about the class at C -/
def isCB (K : PySem.W.Frag) (C : Nat) : Bool :=
  decide (PySem.W.findIn K (.ref (cl K C)) "__class__" = some (some (.builtin "object.__class__"))) && (decide (PySem.W.specialIn K (.builtin "object.__class__") "__get__" = some (some (.builtin "getset_descriptor.__get__"))) &&
    (decide (PySem.W.takesIn K (.builtin "object.__class__") = some true) && decide (PySem.W.mroIn K (cl K C) (.type "object") = some true)))
theorem isCB_ok {K : PySem.W.Frag} {C : Nat} (c : Cls K (cl K C)) (h : isCB K C = true) : IsC K (cl K C) := by
  unfold isCB at h
  simp only [Bool.and_eq_true, decide_eq_true_eq] at h
  exact ⟨c, h.1, h.2.1, h.2.2.1, h.2.2.2⟩
def ktB (K : PySem.W.Frag) (c : Ty) (yes no : List Ty) : Bool :=
  yes.all (fun t => decide (PySem.W.kitOne K (t.val K) (c.val K) = some true)) && no.all fun t => decide (PySem.W.kitOne K (t.val K) (c.val K) = some false)
theorem ktB_ok {K : PySem.W.Frag} {c : Ty} {yes no : List Ty} (h : ktB K c yes no = true) : ∀ t b, ktL yes no t = some b → PySem.W.kitOne K (t.val K) (c.val K) = some b := by
  unfold ktB at h
  simp only [Bool.and_eq_true, decide_eq_true_eq, List.all_eq_true] at h
  obtain ⟨h1, h2⟩ := h
  intro t b e
  unfold ktL at e
  split at e
  · rename_i m
    cases e
    exact h1 t m
  · split at e
    · rename_i m
      cases e
      exact h2 t m
    · cases e
def basicT : List Ty := [.blt "NoneType", .blt "bool", .blt "int", .blt "str", .blt "tuple", .blt "list", .blt "dict"]
/-- the types of a right operand -/
def rightT (cs : List Nat) : List Ty := cs.map Ty.own ++ [.blt "NoneType", .blt "bool", .blt "int", .blt "str", .blt "tuple", .blt "list"]
def nfB (K : PySem.W.Frag) (C : Nat) (ts : List Ty) : Bool := ts.all fun t => PySem.W.notFirst K (cl K C) (t.val K)
theorem nfB_ok {K : PySem.W.Frag} {C : Nat} {ts : List Ty} (h : nfB K C ts = true) : ∀ t ∈ ts, PySem.W.notFirst K (cl K C) (t.val K) = true := List.all_eq_true.mp h
end DL
/-! DL27: what the head tells, in the form that the tops want. -/
namespace DL
open PySem L2 PySem.Spec PyProof.Rows
theorem holdV_ref {K : PySem.W.Frag} {n : Nat} {a : Addr} {d : D} (h : holdV K n (.ref a) d = true) : ∀ W, Rep K W (.ref a) d := by
  obtain ⟨v, r, p⟩ := holdV_rep n _ d h
  have e : v = .ref a := by
    cases v <;> first | (cases r; rfl) | (obtain ⟨_, r⟩ := r; cases r) | (cases r) | skip
  rw [← e]
  exact p
noncomputable def gloB_sub {K : PySem.W.Frag} {h : Heap} {mg : Str → Option Value} (X : K.In h) (G : h.Ns mainGlobals mg) {x : Str} {d : D} (c : gloB K x d = true) : { q : Value × V // mg x = some q.1 ∧ RelV q.2 q.1 ∧ ∀ W, Rep K W q.2 d } :=
  ⟨(Classical.choose (gloB_ok X G c), Classical.choose (Classical.choose_spec (gloB_ok X G c))), Classical.choose_spec (Classical.choose_spec (gloB_ok X G c))⟩
end DL
/-! DL28: tuple, list, sorted of a list that changes. -/
namespace DL
open PySem L2 PySem.Spec PyProof.Rows
/-- the list that stands at a handle -/
def thaw (μ : Mu) : D → D
  | .hdl l => match μ[l]? with
    | some (.lst xs) => if xs.length ≤ 1000000 then .lst xs else .hdl l
    | _ => .hdl l
  | d => d
theorem thaw_lq {K : PySem.W.Frag} {W : Wd} {H : Hp} {μ : Mu} {v : V} {d : D} {xs : List D} (ok : Ok K W H μ) (r : Rep K W v d) (h : thaw μ d = .lst xs) : ∃ a vs, v = .ref a ∧ Lq K H a vs ∧ Reps K W vs xs ∧ xs.length ≤ sizeLine := by
  cases r with
  | lst z h1 q =>
    simp [thaw] at h
    subst h
    exact ⟨_, _, rfl, same_lq ok.sub h1, q, z⟩
  | @hdl a l ha =>
    unfold thaw at h
    dsimp only at h
    cases hm : μ[l]? with
    | none => rw [hm] at h; cases h
    | some m =>
      rw [hm] at h
      cases m with
      | lst ys =>
        dsimp only at h
        split at h
        · rename_i hz
          cases h
          obtain ⟨o, ho, vs, rfl, rs⟩ := ok.cell l a _ ha hm
          exact ⟨a, vs, rfl, .inl (.inl ho), rs, le_line hz⟩
        · cases h
      | _ => cases h
  | _ => simp [thaw] at h
def bTupleX : List D → Mu → R D
  | [d], μ => match thaw μ d with
    | .lst xs => .ok (.tup xs) μ
    | .tup xs => .ok (.tup xs) μ
    | _ => .bad
  | _, _ => .bad
def bListX : List D → Mu → R D
  | [d], μ => match thaw μ d with
    | .lst xs => .ok (.lst xs) μ
    | .tup xs => .ok (.lst xs) μ
    | _ => .bad
  | _, _ => .bad
@[simp] theorem tupleX_lst (xs : List D) (μ : Mu) : bTupleX [.lst xs] μ = .ok (.tup xs) μ := of_eq_true (eq_self _)
@[simp] theorem tupleX_tup (xs : List D) (μ : Mu) : bTupleX [.tup xs] μ = .ok (.tup xs) μ := of_eq_true (eq_self _)
@[simp] theorem listX_lst (xs : List D) (μ : Mu) : bListX [.lst xs] μ = .ok (.lst xs) μ := of_eq_true (eq_self _)
@[simp] theorem listX_tup (xs : List D) (μ : Mu) : bListX [.tup xs] μ = .ok (.lst xs) μ := of_eq_true (eq_self _)
theorem tupleX_hdl {μ : Mu} {l : Nat} {xs : List D} (h : μ[l]? = some (.lst xs)) (z : xs.length ≤ 1000000) : bTupleX [.hdl l] μ = .ok (.tup xs) μ := by simp [bTupleX, thaw, h, z]
theorem listX_hdl {μ : Mu} {l : Nat} {xs : List D} (h : μ[l]? = some (.lst xs)) (z : xs.length ≤ 1000000) : bListX [.hdl l] μ = .ok (.lst xs) μ := by simp [bListX, thaw, h, z]
theorem thaw_tup {μ : Mu} {d : D} {xs : List D} (h : thaw μ d = .tup xs) : d = .tup xs := by
  cases d with
  | hdl l =>
    unfold thaw at h
    dsimp only at h
    split at h
    · split at h <;> cases h
    · cases h
  | _ => simpa [thaw] using h
section
variable {X : Cx} {E : WX}
theorem cx_tupleX : CallX X E (.type "tuple") bTupleX := callx fun W H μ ds xs Q ok r p => by
  unfold bTupleX at p
  split at p
  · cases r with
    | cons r1 r2 =>
      cases r2
      split at p
      · rename_i ys ht
        obtain ⟨a, vs, rfl, h, rs, z⟩ := thaw_lq ok r1 ht
        exact ⟨_, call_tuple_of, _, _, rfl, .inl ⟨h.sq, fun l hl => p _ _ _ (Go.new ok hl) (ok.new hl) (rep_tup ok hl z rs)⟩⟩
      · rename_i ys ht
        have e := thaw_tup ht
        subst e
        cases r1 with
        | tup z h q => exact ⟨_, call_tuple_of, _, _, rfl, .inr ⟨same_t ok.sub h, p W _ H (Go.refl _ _) ok (.tup z h q)⟩⟩
      · exact p.elim
  · exact p.elim
theorem cx_listX : CallX X E (.type "list") bListX := callx fun W H μ ds xs Q ok r p => by
  unfold bListX at p
  split at p
  · cases r with
    | cons r1 r2 =>
      cases r2
      split at p
      · rename_i ys ht
        obtain ⟨a, vs, rfl, h, rs, z⟩ := thaw_lq ok r1 ht
        exact ⟨_, call_list_of, _, _, rfl, .inl h.sq, fun l hl => p _ _ _ (Go.new ok hl) (ok.new hl) (rep_lst ok hl z rs)⟩
      · rename_i ys ht
        have e := thaw_tup ht
        subst e
        cases r1 with
        | tup z h q => exact ⟨_, call_list_of, _, _, rfl, .inr (same_t ok.sub h), fun l hl => p _ _ _ (Go.new ok hl) (ok.new hl) (rep_lst ok hl z q)⟩
      · exact p.elim
  · exact p.elim
end
end DL
/-! DL29: small plain data: its text, == and != of it. -/
namespace DL
open PySem L2 PySem.Spec PyProof.Rows
/-- numbers, texts and tuples of them, so many at each depth -/
def tm : List Nat → D → Bool
  | _, .int i => decide (i.natAbs < 10 ^ 11)
  | _, .str x => decide (x.cps.size ≤ 40) && x.cps.toList.all fun c => decide (c < 128)
  | a :: as, .tup xs => decide (xs.length ≤ a) && xs.all (tm as)
  | _, _ => false
def bulkB : List Nat → Nat
  | [] => 40
  | a :: as => 40 + a * (bulkB as + 1)
structure PyOk (n b : Nat) (p : PyData) : Prop where
  h1 : p.leavesShort 13 = true
  h2 : p.showable = true
  h3 : p.hasDict = false
  h4 : p.depth ≤ n
  h5 : p.bulk ≤ b
  h6 : p.canLay0 = true
theorem bulkB_40 : ∀ as : List Nat, 40 ≤ bulkB as
  | [] => Nat.le_refl _
  | a :: as => by unfold bulkB; omega
theorem str_leaf {x : Str} (h : (x.cps.toList.all fun c => decide (c < 128)) = true) : (PyData.str x).leavesShort 13 = true := by
  simp only [List.all_eq_true, decide_eq_true_eq] at h
  simp only [PyData.leavesShort, List.all_eq_true, decide_eq_true_eq]
  exact fun c hc => Nat.lt_trans (h c hc) (by decide)
theorem str_lay {x : Str} (h : (x.cps.toList.all fun c => decide (c < 128)) = true) : (PyData.str x).canLay0 = true := by
  simp only [List.all_eq_true, decide_eq_true_eq] at h
  simp only [PyData.canLay0, PyData.strOk]
  rw [← Array.all_toList]
  simp only [List.all_eq_true, decide_eq_true_eq]
  exact fun c hc => Nat.lt_trans (h c hc) (by decide)
theorem tm_py : ∀ (as : List Nat) (d : D), tm as d = true → ∃ p, d.py = some p ∧ PyOk as.length (bulkB as) p := by
  intro as
  induction as with
  | nil =>
    intro d h
    cases d with
    | int i =>
      have hi : i.natAbs < 10 ^ 11 := by simpa [tm] using h
      exact ⟨.int i, by simp [D.py], ⟨by simp [PyData.leavesShort]; exact PyData.shown_int_le2 (by omega) (by omega), by simp [PyData.showable]; exact lt_log (by omega), by simp [PyData.hasDict], by simp [PyData.depth], by simp [PyData.bulk], by simp [PyData.canLay0]⟩⟩
    | str x =>
      simp only [tm, Bool.and_eq_true, decide_eq_true_eq] at h
      exact ⟨.str x, by simp [D.py], ⟨str_leaf h.2, by simp [PyData.showable], by simp [PyData.hasDict], by simp [PyData.depth], by simp only [PyData.bulk]; exact h.1, str_lay h.2⟩⟩
    | _ => simp [tm] at h
  | cons a as ih =>
    intro d h
    cases d with
    | int i =>
      have hi : i.natAbs < 10 ^ 11 := by simpa [tm] using h
      exact ⟨.int i, by simp [D.py], ⟨by simp [PyData.leavesShort]; exact PyData.shown_int_le2 (by omega) (by omega), by simp [PyData.showable]; exact lt_log (by omega), by simp [PyData.hasDict], by simp [PyData.depth], by simp [PyData.bulk], by simp [PyData.canLay0]⟩⟩
    | str x =>
      simp only [tm, Bool.and_eq_true, decide_eq_true_eq] at h
      exact ⟨.str x, by simp [D.py], ⟨str_leaf h.2, by simp [PyData.showable], by simp [PyData.hasDict], by simp [PyData.depth], by simp only [PyData.bulk]; exact Nat.le_trans h.1 (bulkB_40 _), str_lay h.2⟩⟩
    | tup xs =>
      simp only [tm, Bool.and_eq_true, decide_eq_true_eq, List.all_eq_true] at h
      obtain ⟨hl, hx⟩ := h
      have key : ∀ ys : List D, (∀ y ∈ ys, tm as y = true) → ∃ ps, D.pys ys = some ps ∧ PyData.leavesShortAll 13 ps = true ∧ PyData.showableAll ps = true ∧ PyData.hasDictAll ps = false ∧ PyData.depthAll ps ≤ as.length ∧ PyData.bulkAll ps ≤ ys.length * (bulkB as + 1) ∧ PyData.canLayAll0 ps = true := by
        intro ys
        induction ys with
        | nil => exact fun _ => ⟨[], by simp [D.pys], by simp [PyData.leavesShortAll], by simp [PyData.showableAll], by simp [PyData.hasDictAll], by simp [PyData.depthAll], by simp [PyData.bulkAll], by simp [PyData.canLayAll0]⟩
        | cons y ys ihy =>
          intro hy
          obtain ⟨p, e1, q⟩ := ih y (hy y (by simp))
          obtain ⟨ps, e2, q1, q2, q3, q4, q5, q6⟩ := ihy fun z hz => hy z (List.mem_cons_of_mem _ hz)
          refine ⟨p :: ps, by simp [D.pys, e1, e2], by simp [PyData.leavesShortAll, q.h1, q1], by simp [PyData.showableAll, q.h2, q2], by simp [PyData.hasDictAll, q.h3, q3], ?_, ?_, by simp [PyData.canLayAll0, q.h6, q6]⟩
          · have := q.h4
            simp only [PyData.depthAll]
            omega
          · have := q.h5
            simp only [PyData.bulkAll, List.length_cons, Nat.add_mul]
            omega
      obtain ⟨ps, e, q1, q2, q3, q4, q5, q6⟩ := key xs hx
      refine ⟨.tuple ps, by simp [D.py, e], ⟨by simpa [PyData.leavesShort] using q1, by simpa [PyData.showable] using q2, by simpa [PyData.hasDict] using q3, by simp [PyData.depth]; exact q4, ?_, by simpa [PyData.canLay0] using q6⟩⟩
      have := Nat.mul_le_mul_right (bulkB as + 1) hl
      simp only [PyData.bulk, bulkB]
      omega
    | _ => simp [tm] at h
/-- repr of it -/
theorem tm_repr {as : List Nat} {d : D} (h : tm as d = true) (h1 : as.length ≤ 40) (h2 : bulkB as ≤ 60000) (μ : Mu) : ∃ x, bRepr [d] μ = .ok (.str x) μ := by
  obtain ⟨p, e, q⟩ := tm_py as d h
  have r := repr_short e q.h1 q.h2 q.h3 (Nat.le_trans q.h4 h1) (Nat.le_trans q.h5 h2)
  exact ⟨p.shown, by simp [bRepr, r]⟩
/-- no handle in it -/
theorem tm_closed : ∀ (as : List Nat) (d : D) (n : Nat), tm as d = true → d.closed n = true := by
  have cl : ∀ (n : Nat) (xs : List D), (∀ x ∈ xs, x.closed n = true) → D.closedL n xs = true := by
    intro n xs
    induction xs with
    | nil => exact fun _ => by simp [D.closedL]
    | cons x xs ih => exact fun h => by simp [D.closedL, h x (by simp), ih fun y hy => h y (List.mem_cons_of_mem _ hy)]
  intro as
  induction as with
  | nil => intro d n h; cases d <;> simp [tm] at h <;> simp [D.closed]
  | cons a as ih =>
    intro d n h
    cases d with
    | tup xs =>
      simp only [tm, Bool.and_eq_true, decide_eq_true_eq, List.all_eq_true] at h
      simp only [D.closed]
      exact cl n xs fun x hx => ih x n (h.2 x hx)
    | int i => simp [D.closed]
    | str x => simp [D.closed]
    | _ => simp [tm] at h
/-- == of it is = -/
theorem tm_eq : ∀ (as : List Nat) (n : Nat) (x y : D), as.length < n → tm as x = true → tm as y = true → ∃ b, eqD n x y = some b ∧ (b = true ↔ x = y) := by
  intro as
  induction as with
  | nil =>
    intro n x y hn hx hy
    obtain ⟨m, rfl⟩ : ∃ m, n = m + 1 := ⟨n - 1, by simp at hn; omega⟩
    cases x <;> simp [tm] at hx <;> cases y <;> simp [tm] at hy <;> simp [eqD, D.kd, eqV]
  | cons a as ih =>
    intro n x y hn hx hy
    obtain ⟨m, rfl⟩ : ∃ m, n = m + 1 := ⟨n - 1, by simp at hn; omega⟩
    have hm : as.length < m := by simp at hn; omega
    cases x with
    | int i => cases y <;> simp [tm] at hy <;> simp [eqD, D.kd, eqV]
    | str i => cases y <;> simp [tm] at hy <;> simp [eqD, D.kd, eqV]
    | tup xs =>
      cases y with
      | int i => exact ⟨false, by simp [eqD, D.kd], by simp⟩
      | str i => exact ⟨false, by simp [eqD, D.kd], by simp⟩
      | tup ys =>
        simp only [tm, Bool.and_eq_true, decide_eq_true_eq, List.all_eq_true] at hx hy
        have key : ∀ xs ys : List D, (∀ x ∈ xs, tm as x = true) → (∀ y ∈ ys, tm as y = true) → ∃ b, eqL (eqD m) xs ys = some b ∧ (b = true ↔ xs = ys) := by
          intro xs
          induction xs with
          | nil =>
            intro ys _ _
            cases ys with
            | nil => exact ⟨true, by simp [eqL], by simp⟩
            | cons y ys => exact ⟨false, by simp [eqL], by simp⟩
          | cons x xs ihx =>
            intro ys h1 h2
            cases ys with
            | nil => exact ⟨false, by simp [eqL], by simp⟩
            | cons y ys =>
              obtain ⟨b1, e1, i1⟩ := ih m x y hm (h1 x (by simp)) (h2 y (by simp))
              obtain ⟨b2, e2, i2⟩ := ihx ys (fun z hz => h1 z (List.mem_cons_of_mem _ hz)) fun z hz => h2 z (List.mem_cons_of_mem _ hz)
              refine ⟨b1 && b2, by simp [eqL, e1, e2], ?_⟩
              rw [Bool.and_eq_true, i1, i2, List.cons.injEq]
        obtain ⟨b, e, i⟩ := key xs ys hx.2 hy.2
        exact ⟨b, by simp [eqD, D.kd, e], by rw [i]; simp⟩
      | _ => simp [tm] at hy
    | _ => simp [tm] at hx
theorem tm_dEq {as : List Nat} {x y : D} (hx : tm as x = true) (hy : tm as y = true) (hn : as.length < 20) (μ : Mu) : ∃ b, dEq x y μ = .ok (.bl b) μ ∧ (b = true ↔ x = y) := by
  obtain ⟨b, e, i⟩ := tm_eq as 20 x y hn hx hy
  exact ⟨b, by simp [dEq, e], i⟩
theorem tm_self {as : List Nat} {x : D} (hx : tm as x = true) (hn : as.length < 20) (μ : Mu) : dEq x x μ = .ok (.bl true) μ := by
  obtain ⟨b, e, i⟩ := tm_dEq hx hx hn μ
  rw [e, i.mpr rfl]
end DL
/-! DL30: framed defs reckoned; counted loops; the laws' draws (with addX, mulX). -/
namespace DL
open PySem L2 PySem.Spec PyProof.Rows
theorem framed_ok {F : List D → Mu → R D} {ds : List D} {d : D} {μ μ1 : Mu} (hc : D.closedL 0 ds = true) (h : F ds [] = .ok d μ1) (hd : d.closed 0 = true) : framed F ds μ = .ok d μ := by
  unfold framed
  rw [if_pos hc, h]
  dsimp only
  rw [if_pos hd]
theorem framed_open {F : List D → Mu → R D} {ds : List D} {μ : Mu} (hc : D.closedL 0 ds = false) : framed F ds μ = F ds μ := by
  unfold framed
  rw [hc]
  simp
theorem trunc0 {d : D} {μ1 : Mu} (hd : d.closed 0 = true) : trunc 0 d μ1 = .ok d [] := by
  unfold trunc closedMu
  simp [hd]
/-- a framed def, by its body over no cells -/
theorem fr_ok {n : Nat} {g : FS} {ds : List D} {d : D} {μ μ1 : Mu} (hc : D.closedL 0 ds = true) (h : g (startD n ds) [] = .rt d μ1) (hd : d.closed 0 = true) : framed (callF n g) ds μ = .ok d μ := by
  refine framed_ok (μ1 := []) hc ?_ hd
  unfold callF
  rw [h]
  exact trunc0 hd
theorem open_hdl (l : Nat) (ds : List D) : D.closedL 0 (.hdl l :: ds) = false := by simp [D.closedL, D.closed]
theorem closed_of {n : Nat} : ∀ {xs : List D}, (∀ x ∈ xs, x.closed n = true) → D.closedL n xs = true
  | [], _ => by simp [D.closedL]
  | x :: xs, h => by simp [D.closedL, h x (by simp), closed_of (xs := xs) fun y hy => h y (List.mem_cons_of_mem _ hy)]
/-- a loop over numbers, counted -/
theorem for_upto {t : Tg} {b : FS} (I : Nat → En → Mu → Prop) : ∀ {n k : Nat} {ρ : En} {μ : Mu}, (∀ i, k ≤ i → i < k + n → ∀ ρ μ, I i ρ μ → ∃ ρ1 ρ2 μ2, asg t (.int (i : Int)) ρ = some ρ1 ∧ b ρ1 μ = .nx ρ2 μ2 ∧ I (i + 1) ρ2 μ2) → I k ρ μ → ∃ ρ' μ', forD t b (upto k n) ρ μ = .nx ρ' μ' ∧ I (k + n) ρ' μ'
  | 0, k, ρ, μ, _, h => ⟨ρ, μ, by simp [upto, for_nil], h⟩
  | n + 1, k, ρ, μ, hb, h => by
    obtain ⟨ρ1, ρ2, μ2, e1, e2, i2⟩ := hb k (Nat.le_refl _) (by omega) ρ μ h
    obtain ⟨ρ', μ', e, i'⟩ := for_upto (n := n) (k := k + 1) I (fun i h1 h2 ρ μ hi => hb i (by omega) (by omega) ρ μ hi) i2
    refine ⟨ρ', μ', ?_, by rw [show k + (n + 1) = k + 1 + n by omega]; exact i'⟩
    rw [upto, for_cons, e1]
    dsimp only
    rw [e2]
    exact e
/-- .. over any list, counted -/
theorem for_list {t : Tg} {b : FS} (I : Nat → En → Mu → Prop) : ∀ {xs : List D} {k : Nat} {ρ : En} {μ : Mu}, (∀ i x, xs[i]? = some x → ∀ ρ μ, I (k + i) ρ μ → ∃ ρ1 ρ2 μ2, asg t x ρ = some ρ1 ∧ b ρ1 μ = .nx ρ2 μ2 ∧ I (k + i + 1) ρ2 μ2) → I k ρ μ → ∃ ρ' μ', forD t b xs ρ μ = .nx ρ' μ' ∧ I (k + xs.length) ρ' μ'
  | [], k, ρ, μ, _, h => ⟨ρ, μ, for_nil _ _ _ _, h⟩
  | x :: xs, k, ρ, μ, hb, h => by
    obtain ⟨ρ1, ρ2, μ2, e1, e2, i2⟩ := hb 0 x rfl ρ μ h
    obtain ⟨ρ', μ', e, i'⟩ := for_list (xs := xs) (k := k + 1) I (fun i y hy ρ μ hi => by
      have := hb (i + 1) y (by simpa using hy) ρ μ (by rw [show k + (i + 1) = k + 1 + i by omega]; exact hi)
      rw [show k + (i + 1) = k + 1 + i by omega] at this
      exact this) i2
    refine ⟨ρ', μ', ?_, by rw [List.length_cons, show k + (xs.length + 1) = k + 1 + xs.length by omega]; exact i'⟩
    rw [for_cons, e1]
    dsimp only
    rw [e2]
    exact e
/-- side by side -/
inductive F2 {α β : Type} (P : α → β → Prop) : List α → List β → Prop
  | nil : F2 P [] []
  | cons {x : α} {y : β} {xs : List α} {ys : List β} : P x y → F2 P xs ys → F2 P (x :: xs) (y :: ys)
theorem F2.length {α β : Type} {P : α → β → Prop} : ∀ {xs : List α} {ys : List β}, F2 P xs ys → ys.length = xs.length
  | _, _, .nil => rfl
  | _, _, .cons _ h => by simp [h.length]
theorem F2.imp {α β : Type} {P Q : α → β → Prop} (i : ∀ x y, P x y → Q x y) : ∀ {xs : List α} {ys : List β}, F2 P xs ys → F2 Q xs ys
  | _, _, .nil => .nil
  | _, _, .cons p h => .cons (i _ _ p) (h.imp i)
theorem F2.right {α β : Type} {P : α → β → Prop} : ∀ {xs : List α} {ys : List β}, F2 P xs ys → ∀ y ∈ ys, ∃ x ∈ xs, P x y
  | _, _, .nil, _, h => by cases h
  | _, _, .cons (x := x) p t, y, h => by
    rcases List.mem_cons.mp h with rfl | h
    · exact ⟨x, by simp, p⟩
    · obtain ⟨z, hz, q⟩ := t.right y h
      exact ⟨z, List.mem_cons_of_mem _ hz, q⟩
theorem F2.eq {α : Type} : ∀ {xs ys : List α}, F2 (fun x y => y = x) xs ys → ys = xs
  | _, _, .nil => rfl
  | _, _, .cons p h => by rw [p, h.eq]
/-- a comprehension with effects on the cells: what is taken -/
theorem lc_eff {t : Tg} {ft : FT} {fe : FE} {ρ : En} (I : Mu → Prop) (P : D → D → Prop) : ∀ {xs : List D} {μ : Mu}, (∀ x ∈ xs, ∀ μ, I μ → ∃ ρ1 b μ1, asg t x ρ = some ρ1 ∧ ft ρ1 μ = .ok b μ1 ∧ I μ1 ∧ (b = true → ∃ y μ2, fe ρ1 μ1 = .ok y μ2 ∧ I μ2 ∧ P x y)) → I μ →
    ∃ ys zs μ', lcD t ft fe ρ xs μ = .ok ys μ' ∧ I μ' ∧ List.Sublist zs xs ∧ F2 P zs ys
  | [], μ, _, i => ⟨[], [], μ, by simp, i, List.Sublist.refl _, .nil⟩
  | x :: xs, μ, h, i => by
    obtain ⟨ρ1, b, μ1, e1, e2, i1, hb⟩ := h x (by simp) μ i
    cases b with
    | false =>
      obtain ⟨ys, zs, μ', e, i', s, f⟩ := lc_eff (xs := xs) I P (fun z hz => h z (List.mem_cons_of_mem _ hz)) i1
      exact ⟨ys, zs, μ', by rw [lcD, e1]; simp [e2, e], i', s.cons _, f⟩
    | true =>
      obtain ⟨y, μ2, e3, i2, p⟩ := hb rfl
      obtain ⟨ys, zs, μ', e, i', s, f⟩ := lc_eff (xs := xs) I P (fun z hz => h z (List.mem_cons_of_mem _ hz)) i2
      exact ⟨y :: ys, x :: zs, μ', by rw [lcD, e1]; simp [e2, e3, e], i', s.cons₂ _, .cons p f⟩
/-! ### the laws' draws -/
def gPoolX1 : FS := gif (dtest (dbin ltD (dvar 1) (dcallB bLen (aCons (dvar 0) aNil)))) (gasg (.nm 2) (dcallB bAbs (aCons (dbin dIx (dvar 0) (dvar 1)) aNil))) gnil
def gPoolX2 : FS := (gseq (gasg (.nm 3) (dbin modD (dbin mulX (dbin addX (dbin addX (dbin addX (dbin modD (dvar 2) (dc (.int 2147483629))) (dbin mulX (dbin mulX (dc (.int 7919)) (dvar 1)) (dvar 1))) (dbin mulX (dc (.int 31)) (dvar 1))) (dc (.int 17))) (dc (.int 48271))) (dc (.int 2147483647))))
    (gret (dcel (aCons (dbin mulX (dvar 2) (dcallB bInt (aCons (dbin geD (dvar 2) (dbin powD (dc (.int 10)) (dc (.int 18)))) aNil))) (aCons (dbin modD (dbin mulX (dvar 3) (dvar 3)) (dc (.int 2147483629))) aNil)))))
def gPoolX : FS := gseq (gasg (.nm 2) (dc (.int 0))) (gseq gPoolX1 gPoolX2)
def gTakeX : FS := (gseq (gif (dtest (dbin gtD (dbin dIx (dvar 0) (dc (.int 0))) (dc (.int 0)))) (gseq (gasg (.nm 2) (dbin modD (dbin dIx (dvar 0) (dc (.int 0))) (dvar 1)))
    (gseq (gsetix (dvar 0) (dc (.int 0)) (dbin fdivD (dbin dIx (dvar 0) (dc (.int 0))) (dvar 1)))
    (gret (dvar 2)))) gnil)
    (gseq (gsetix (dvar 0) (dc (.int 1)) (dbin modD (dbin addX (dbin mulX (dbin dIx (dvar 0) (dc (.int 1))) (dc (.int 48271))) (dc (.int 12345))) (dc (.int 2147483647))))
    (gret (dbin modD (dbin fdivD (dbin modD (dbin mulX (dbin dIx (dvar 0) (dc (.int 1))) (dbin dIx (dvar 0) (dc (.int 1)))) (dc (.int 2147483629))) (dc (.int 64))) (dvar 1)))))
theorem poolX2 (s : D) (k : Nat) (hk : k ≤ 1000) (c : Int) (μ : Mu) : ∃ a b : Int, gPoolX2 [some s, some (.int k), some (.int c), none] μ = .rt (.hdl μ.length) (μ ++ [.lst [.int a, .int b]]) ∧ 0 ≤ b ∧ b < 2147483648 := by
  have m0 := Int.emod_nonneg ((c % 2147483629 + 7919 * (k : Int) * k + 31 * k + 17) * 48271) (b := 2147483647) (by omega)
  have m1 := Int.emod_lt_of_pos ((c % 2147483629 + 7919 * (k : Int) * k + 31 * k + 17) * 48271) (b := 2147483647) (by omega)
  generalize hx : (c % 2147483629 + 7919 * (k : Int) * k + 31 * k + 17) * 48271 % 2147483647 = x at m0 m1
  have n0 := Int.emod_nonneg (x * x) (b := 2147483629) (by omega)
  have n1 := Int.emod_lt_of_pos (x * x) (b := 2147483629) (by omega)
  generalize hy : x * x % 2147483629 = y at n0 n1
  have hk2 : -18446744073709551616 < (k : Int) ∧ (k : Int) < 18446744073709551616 := by omega
  have hx2 : -18446744073709551616 < x ∧ x < 18446744073709551616 := by omega
  by_cases hc18 : (1000000000000000000 : Int) ≤ c
  · exact ⟨c, y, by simp [gPoolX2, hk2.1, hk2.2, bInt, hc18, hx, hx2.1, hx2.2, hy], n0, by omega⟩
  · exact ⟨0, y, by simp [gPoolX2, hk2.1, hk2.2, bInt, hc18, hx, hx2.1, hx2.2, hy], n0, by omega⟩
theorem poolX_ok (ns : List Int) (hl : ns.length ≤ 1000) (k : Nat) (hk : k ≤ 1000) (μ : Mu) (hμ : AllC μ) : ∃ μ', callF 4 gPoolX [.lst (ns.map .int), .int k] μ = .ok (.hdl μ.length) μ' ∧ Pool μ' μ.length ∧ ∃ m, μ' = μ ++ [m] := by
  have main : ∀ c : Int, gPoolX1 [some (.lst (ns.map .int)), some (.int k), some (.int 0), none] μ = .nx [some (.lst (ns.map .int)), some (.int k), some (.int c), none] μ →
      ∃ μ', callF 4 gPoolX [.lst (ns.map .int), .int k] μ = .ok (.hdl μ.length) μ' ∧ Pool μ' μ.length ∧ ∃ m, μ' = μ ++ [m] := by
    intro c hc
    obtain ⟨a, b, e, b0, b1⟩ := poolX2 (.lst (ns.map .int)) k hk c μ
    have body : gPoolX (startD 4 [.lst (ns.map .int), .int k]) μ = .rt (.hdl μ.length) (μ ++ [.lst [.int a, .int b]]) := by
      simp [gPoolX, startD, hc, e]
    refine ⟨μ ++ [.lst [.int a, .int b]], ?_, ⟨⟨a, b, by simp, b0, b1⟩, hμ.app fun m hm n => by rw [List.mem_singleton.mp hm]; exact pool_cl _ _ n⟩, _, rfl⟩
    rw [callF_eq _ _ _ _ _ _ body]
    simp [trunc, D.closed]
  by_cases h : k < ns.length
  · refine main (if ns[k] < 0 then -ns[k] else ns[k]) ?_
    have hk' : (k : Int) < ns.length := by omega
    have e : atI (ns.map D.int) k = some (.int ns[k]) := by simp [atI, ixN, h]
    simp [gPoolX1, bLen, lenD, seqD, hk', e]
  · refine main 0 ?_
    have hk' : ¬ (k : Int) < ns.length := by omega
    simp [gPoolX1, bLen, lenD, seqD, hk']
theorem takeX_ok {μ : Mu} {l : Nat} (h : Pool μ l) (n : Int) (hn : 0 < n ∧ n < 1073741824) : ∃ v μ', framed (callF 3 gTakeX) [.hdl l, .int n] μ = .ok (.int v) μ' ∧ 0 ≤ v ∧ v < n ∧ Pool μ' l ∧ ∃ m, μ' = μ.set l m := by
  rw [framed_open (open_hdl _ _)]
  obtain ⟨a, b, e, b0, b1⟩ := h.ex
  have hll : l < μ.length := (List.getElem?_eq_some_iff.mp e).1
  by_cases ha : 0 < a
  · have body : gTakeX (startD 3 [.hdl l, .int n]) μ = .rt (.int (a % n)) (μ.set l (.lst [.int (a / n), .int b])) := by
      simp [gTakeX, startD, ix_hdl e, ha, hn.1, hn.2, gsetix, e, ixN]
    refine ⟨_, _, (callF_eq _ _ _ _ _ _ body).trans (trunc_len (by simp) (by simp [D.closed]) (h.cl.set l (pool_cl _ _))), Int.emod_nonneg _ (by omega), Int.emod_lt_of_pos _ hn.1, ⟨⟨a / n, b, by simp [hll], b0, b1⟩, h.cl.set l (pool_cl _ _)⟩, _, rfl⟩
  · have m0 := Int.emod_nonneg (b * 48271 + 12345) (b := 2147483647) (by omega)
    have m1 := Int.emod_lt_of_pos (b * 48271 + 12345) (b := 2147483647) (by omega)
    generalize hy : (b * 48271 + 12345) % 2147483647 = y at m0 m1
    have hb2 : -18446744073709551616 < b ∧ b < 18446744073709551616 := by omega
    have hy2 : -18446744073709551616 < y ∧ y < 18446744073709551616 := by omega
    have e2 : (μ.set l (.lst [.int a, .int y]))[l]? = some (.lst [.int a, .int y]) := by simp [hll]
    have body : gTakeX (startD 3 [.hdl l, .int n]) μ = .rt (.int (y * y % 2147483629 / 64 % n)) (μ.set l (.lst [.int a, .int y])) := by
      simp [gTakeX, startD, ix_hdl e, ha, hn.1, hn.2, gsetix, e, ixN, hy, ix_hdl e2, hb2.1, hb2.2, hy2.1, hy2.2]
    refine ⟨_, _, (callF_eq _ _ _ _ _ _ body).trans (trunc_len (by simp) (by simp [D.closed]) (h.cl.set l (pool_cl _ _))), Int.emod_nonneg _ (by omega), Int.emod_lt_of_pos _ hn.1, ⟨⟨_, y, e2, m0, by omega⟩, h.cl.set l (pool_cl _ _)⟩, _, rfl⟩
/-- two memories that differ at the pool alone -/
structure Step (l : Nat) (μ μ' : Mu) : Prop where
  pool : Pool μ' l
  len : μ'.length = μ.length
  at_ : ∀ i, i ≠ l → μ'[i]? = μ[i]?
theorem Step.refl {l : Nat} {μ : Mu} (h : Pool μ l) : Step l μ μ := ⟨h, rfl, fun _ _ => rfl⟩
theorem Step.trans {l : Nat} {μ μ1 μ2 : Mu} (a : Step l μ μ1) (b : Step l μ1 μ2) : Step l μ μ2 := ⟨b.pool, b.len.trans a.len, fun i h => (b.at_ i h).trans (a.at_ i h)⟩
theorem take_step {μ : Mu} {l : Nat} (h : Pool μ l) (n : Int) (hn : 0 < n ∧ n < 1073741824) : ∃ v μ', framed (callF 3 gTakeX) [.hdl l, .int n] μ = .ok (.int v) μ' ∧ 0 ≤ v ∧ v < n ∧ Step l μ μ' := by
  obtain ⟨v, μ', e, h1, h2, p, m, rfl⟩ := takeX_ok h n hn
  exact ⟨v, _, e, h1, h2, p, by simp, fun i hi => by rw [List.getElem?_set_ne (Ne.symm hi)]⟩
/-- a def that was handed the pool gives back a datum and forgets its own cells -/
theorem call_step {n : Nat} {g : FS} {l : Nat} {ds : List D} {d : D} {μ μ1 : Mu} (h : g (startD n (.hdl l :: ds)) μ = .rt d μ1) (hd : d.closed 0 = true) (p : Pool μ1 l) (hl : l < μ.length) (hm : μ.length ≤ μ1.length) (hs : ∀ i, i < μ.length → i ≠ l → μ1[i]? = μ[i]?) (hdm : ∀ n, d.closed n = true) :
    ∃ μ', framed (callF n g) (.hdl l :: ds) μ = .ok d μ' ∧ Step l μ μ' := by
  rw [framed_open (open_hdl _ _)]
  unfold callF
  rw [h]
  dsimp only
  unfold trunc
  rw [if_pos (by rw [hdm, p.cl.mu]; rfl)]
  refine ⟨_, rfl, ⟨?_, fun m hm => p.cl m (List.mem_of_mem_take hm)⟩, by simp; omega, fun i hi => ?_⟩
  · obtain ⟨a, b, e, h1, h2⟩ := p.ex
    exact ⟨a, b, by rw [List.getElem?_take_of_lt hl]; exact e, h1, h2⟩
  · by_cases z : i < μ.length
    · rw [List.getElem?_take_of_lt z]
      exact hs i z hi
    · rw [List.getElem?_eq_none (by simp; omega), List.getElem?_eq_none (by omega)]
end DL
/-! DL31: which kind is of which. -/
namespace DL
open PySem L2
@[simp] theorem k_NoneType__bool : kitB "NoneType" "bool" = some false := by decide +kernel
@[simp] theorem k_bool__bool : kitB "bool" "bool" = some true := by decide +kernel
@[simp] theorem k_int__bool : kitB "int" "bool" = some false := by decide +kernel
@[simp] theorem k_str__bool : kitB "str" "bool" = some false := by decide +kernel
@[simp] theorem k_tuple__bool : kitB "tuple" "bool" = some false := by decide +kernel
@[simp] theorem k_list__bool : kitB "list" "bool" = some false := by decide +kernel
@[simp] theorem k_dict__bool : kitB "dict" "bool" = some false := by decide +kernel
@[simp] theorem k_NoneType__int : kitB "NoneType" "int" = some false := by decide +kernel
@[simp] theorem k_bool__int : kitB "bool" "int" = some true := by decide +kernel
@[simp] theorem k_int__int : kitB "int" "int" = some true := by decide +kernel
@[simp] theorem k_str__int : kitB "str" "int" = some false := by decide +kernel
@[simp] theorem k_tuple__int : kitB "tuple" "int" = some false := by decide +kernel
@[simp] theorem k_list__int : kitB "list" "int" = some false := by decide +kernel
@[simp] theorem k_dict__int : kitB "dict" "int" = some false := by decide +kernel
@[simp] theorem k_NoneType__tuple : kitB "NoneType" "tuple" = some false := by decide +kernel
@[simp] theorem k_bool__tuple : kitB "bool" "tuple" = some false := by decide +kernel
@[simp] theorem k_int__tuple : kitB "int" "tuple" = some false := by decide +kernel
@[simp] theorem k_str__tuple : kitB "str" "tuple" = some false := by decide +kernel
@[simp] theorem k_tuple__tuple : kitB "tuple" "tuple" = some true := by decide +kernel
@[simp] theorem k_list__tuple : kitB "list" "tuple" = some false := by decide +kernel
@[simp] theorem k_dict__tuple : kitB "dict" "tuple" = some false := by decide +kernel
@[simp] theorem k_NoneType__list : kitB "NoneType" "list" = some false := by decide +kernel
@[simp] theorem k_bool__list : kitB "bool" "list" = some false := by decide +kernel
@[simp] theorem k_int__list : kitB "int" "list" = some false := by decide +kernel
@[simp] theorem k_str__list : kitB "str" "list" = some false := by decide +kernel
@[simp] theorem k_tuple__list : kitB "tuple" "list" = some false := by decide +kernel
@[simp] theorem k_list__list : kitB "list" "list" = some true := by decide +kernel
@[simp] theorem k_dict__list : kitB "dict" "list" = some false := by decide +kernel
@[simp] theorem k_NoneType__dict : kitB "NoneType" "dict" = some false := by decide +kernel
@[simp] theorem k_bool__dict : kitB "bool" "dict" = some false := by decide +kernel
@[simp] theorem k_int__dict : kitB "int" "dict" = some false := by decide +kernel
@[simp] theorem k_str__dict : kitB "str" "dict" = some false := by decide +kernel
@[simp] theorem k_tuple__dict : kitB "tuple" "dict" = some false := by decide +kernel
@[simp] theorem k_list__dict : kitB "list" "dict" = some false := by decide +kernel
@[simp] theorem k_dict__dict : kitB "dict" "dict" = some true := by decide +kernel
/-- it is true, whatever cells there are -/
def isTrue : R D → Bool
  | .ok (.bl b) _ => b
  | _ => false
theorem fr_true {F : List D → Mu → R D} {ds : List D} (hc : D.closedL 0 ds = true) (h : isTrue (framed F ds []) = true) (μ : Mu) : framed F ds μ = .ok (.bl true) μ := by
  cases hF : F ds [] with
  | ok d μ1 =>
    by_cases cd : d.closed 0 = true
    · rw [framed_ok (μ := []) hc hF cd] at h
      cases d <;> simp [isTrue] at h
      subst h
      exact framed_ok hc hF (by simp [D.closed])
    · unfold framed at h
      rw [if_pos hc, hF] at h
      dsimp only at h
      rw [if_neg cd] at h
      cases d <;> simp [isTrue] at h
      exact absurd (by simp [D.closed]) cd
  | ex c fs μ1 =>
    unfold framed at h
    rw [if_pos hc, hF] at h
    dsimp only at h
    split at h <;> simp [isTrue, hF] at h
  | bad =>
    unfold framed at h
    rw [if_pos hc, hF] at h
    simp [isTrue] at h
def okT (F : List D → Mu → R D) (ds : List D) : Bool := D.closedL 0 ds && isTrue (F ds [])
theorem okT_fr {F : List D → Mu → R D} {ds : List D} (h : okT (framed F) ds = true) (μ : Mu) : framed F ds μ = .ok (.bl true) μ := by
  unfold okT at h
  rw [Bool.and_eq_true] at h
  exact fr_true h.1 h.2 μ
end DL
/-! DL32: dicts by numbers and texts: d[k], k in d, d[k] = v, get, pop. -/
namespace DL
open PySem L2 PySem.Spec PyProof.Rows
def keyD : D → Option Key
  | .int i => some (.inl i)
  | .str x => some (.inr x)
  | _ => none
theorem key_rep {K : PySem.W.Frag} {W : Wd} {v : V} {d : D} {k : Key} (r : Rep K W v d) (h : keyD d = some k) : v = kV k := by
  cases r <;> simp [keyD] at h
  · subst h; rfl
  · subst h; rfl
/-- a dict's keys and worths -/
def dctD (μ : Mu) : D → Option (List Key × List D)
  | .hdl l => match μ[l]? with
    | some (.dct ks xs) => some (ks, xs)
    | _ => none
  | _ => none
theorem dct_rep {K : PySem.W.Frag} {W : Wd} {H : Hp} {μ : Mu} {v : V} {d : D} {ks : List Key} {xs : List D} (ok : Ok K W H μ) (r : Rep K W v d) (h : dctD μ d = some (ks, xs)) : ∃ l a vs, d = .hdl l ∧ W.io[l]? = some a ∧ μ[l]? = some (.dct ks xs) ∧ v = .ref a ∧ H a = some (.dK (ks.zip vs)) ∧ ks.length = vs.length ∧ Reps K W vs xs := by
  cases r with
  | @hdl a l ha =>
    unfold dctD at h
    dsimp only at h
    cases hm : μ[l]? with
    | none => rw [hm] at h; cases h
    | some m =>
      rw [hm] at h
      cases m with
      | dct ks' xs' =>
        cases h
        obtain ⟨o, ho, vs, rfl, hl, rs⟩ := ok.cell l a _ ha hm
        exact ⟨l, a, vs, rfl, ha, hm, rfl, ho, hl, rs⟩
      | _ => cases h
  | _ => simp [dctD] at h
def lookK : List Key → List D → Key → Option D
  | k :: ks, x :: xs, j => if k = j then some x else lookK ks xs j
  | _, _, _ => none
theorem look_rep {K : PySem.W.Frag} {W : Wd} {j : Key} : ∀ {ks : List Key} {vs : List V} {ds : List D}, Reps K W vs ds → match lookK ks ds j with
    | some d => ∃ v, valV (ks.zip vs) j = some v ∧ Rep K W v d
    | none => valV (ks.zip vs) j = none
  | [], _, _, _ => by simp [lookK, valV]
  | _ :: _, _, _, .nil => by simp [lookK, valV]
  | k :: ks, _, _, .cons (v := v) (vs := vs) (d := d) (ds := ds) r rs => by
    have ih := look_rep (j := j) (ks := ks) rs
    rw [lookK, List.zip_cons_cons]
    by_cases e : k = j
    · rw [if_pos e, valV_pos e]
      exact ⟨v, rfl, r⟩
    · rw [if_neg e, valV_neg e]
      exact ih
def putD : List Key → List D → Key → D → List Key × List D
  | k :: ks, x :: xs, j, d => if k = j then (k :: ks, d :: xs) else (k :: (putD ks xs j d).1, x :: (putD ks xs j d).2)
  | _, _, j, d => ([j], [d])
def putVs : List Key → List V → Key → V → List V
  | k :: ks, x :: xs, j, d => if k = j then d :: xs else x :: putVs ks xs j d
  | _, _, _, d => [d]
theorem put_noK {j : Key} {v : V} : ∀ {kvs : List (Key × V)}, j ∉ kvs.map (·.1) → kvs.map (fun kv => if kv.1 = j then (kv.1, v) else kv) = kvs
  | [], _ => rfl
  | p :: kvs, h => by
    simp only [List.map_cons, List.mem_cons, not_or] at h
    rw [List.map_cons, if_neg (fun e => h.1 e.symm), put_noK h.2]
theorem put_zip {j : Key} {d : D} {v : V} : ∀ {ks : List Key} {vs : List V} {xs : List D}, ks.Nodup → ks.length = vs.length → ks.length = xs.length → putK (ks.zip vs) j v = (putD ks xs j d).1.zip (putVs ks vs j v) ∧ (putD ks xs j d).1.length = (putVs ks vs j v).length
  | [], [], [], _, _, _ => by simp [putK, putD, putVs]
  | k :: ks, x :: vs, y :: xs, hn, h1, h2 => by
    have hk := List.nodup_cons.mp hn
    obtain ⟨ih, il⟩ := put_zip (j := j) (d := d) (v := v) (ks := ks) (vs := vs) (xs := xs) hk.2 (by simpa using h1) (by simpa using h2)
    by_cases e : k = j
    · subst e
      have hno : k ∉ (ks.zip vs).map (·.1) := fun z => hk.1 (by
        obtain ⟨q, hq, rfl⟩ := List.mem_map.mp z
        exact (List.of_mem_zip hq).1)
      simp [putK, putD, putVs]
      refine ⟨?_, by simpa using h1⟩
      have := put_noK (v := v) hno
      simpa using this
    · have hz : (List.zip (k :: ks) (x :: vs)) = (k, x) :: ks.zip vs := rfl
      simp only [putD, putVs, if_neg e, List.zip_cons_cons, List.length_cons, il]
      refine ⟨?_, trivial⟩
      rw [← ih]
      unfold putK
      rw [List.any_cons]
      simp only [decide_eq_false e, Bool.false_or]
      split
      · rw [List.map_cons, if_neg e]
      · rfl
theorem putVs_reps {K : PySem.W.Frag} {W : Wd} {j : Key} {d : D} {v : V} (r : Rep K W v d) : ∀ {ks : List Key} {vs : List V} {xs : List D}, ks.length = vs.length → Reps K W vs xs → Reps K W (putVs ks vs j v) (putD ks xs j d).2
  | [], [], xs, _, r0 => by
    cases r0
    simp [putVs, putD]
    exact .cons r .nil
  | k :: ks, x :: vs, xs, h, r0 => by
    cases r0 with
    | cons r1 rs =>
      by_cases e : k = j
      · simp [putVs, putD, e]
        exact .cons r rs
      · simp [putVs, putD, e]
        exact .cons r1 (putVs_reps r (by simpa using h) rs)
  | [], _ :: _, _, h, _ => by simp at h
  | _ :: _, [], _, h, _ => by simp at h
section
variable {X : Cx} {E : WX}
/-- d[y] as a rule of values -/
def rIxD : R2 := fun x y H Q => ∃ a v, x = .ref a ∧ DGet H a y (some v) ∧ Q v H
theorem ix_dict (hu : X.A.units + 1 < cLine) : IxR X rIxD := by
  intro value slice pins s σ H x y v u Q I rx ry h hs
  obtain ⟨a, w, rfl, g, q⟩ := h
  cases rx
  have hT := dict_typeIs I g
  unfold subscriptTail
  refine wpAny_bind ?_
  rw [getitemInPython_of_ne hT.not_modules]
  refine wpAny_bind (wpAny_specialOf hT PySem.F.slot_dict_getitem.lookup ?_)
  have fin : wpAny (model X.prog X.w) X.A (subscripted slice false (.ref a) u) (fun r s₃ => wpAny (model X.prog X.w) X.A (letTemporaryGo value (.ref a) r >>= fun _ => pure r) (EP X pins σ Q) X.xe s₃) X.xe s := by
    rw [hs]
    exact wpAny_operating (d_getItem hu I g ry fun w' s3 I3 rw' => wpAny_bind (wpAny_letTemporaryGo (wpAny_pure ⟨w, H, I3, rw', q⟩)))
  first
    | exact wpAny_pure (wpAny_bind fin)
    | exact wpAny_bind (wpAny_pure (wpAny_bind fin))
    | exact wpAny_bind fin
def dIxX : D → D → Mu → R D := fun x i μ => match dctD μ x with
  | some (ks, xs) => match keyD i with
    | some k => R.of (lookK ks xs k) μ
    | none => .bad
  | none => dIx x i μ
theorem dget_of {W : Wd} {H : Hp} {μ : Mu} {v w : V} {d i : D} {ks : List Key} {xs : List D} {k : Key} (ok : Ok X.K W H μ) (r : Rep X.K W v d) (h : dctD μ d = some (ks, xs)) (ri : Rep X.K W w i) (hk : keyD i = some k) : ∃ a o, v = .ref a ∧ DGet H a w o ∧ match lookK ks xs k with
    | some d => ∃ x, o = some x ∧ Rep X.K W x d
    | none => o = none := by
  obtain ⟨l, a, vs, rfl, ha, hm, rfl, ho, hl, rs⟩ := dct_rep ok r h
  have e := key_rep ri hk
  subst e
  have lr := look_rep (j := k) (ks := ks) rs
  refine ⟨a, _, rfl, DGet.k ho, ?_⟩
  cases hq : lookK ks xs k with
  | none => rw [hq] at lr; exact lr
  | some d =>
    rw [hq] at lr
    obtain ⟨x, e1, e2⟩ := lr
    exact ⟨x, e1, e2⟩
theorem ixx_X (hu : X.A.units + 1 < cLine) : IxR X (rD X.K E dIxX) := by
  intro value slice pins s σ H x y v u Q I rx ry q hs
  obtain ⟨E', W, μ, dx, dy, ok, r1, r2, p⟩ := q
  unfold dIxX at p
  cases hd : dctD μ dx with
  | none =>
    rw [hd] at p
    exact ixx_all (E := E) value slice pins s σ H x y v u Q I rx ry ⟨E', W, μ, dx, dy, ok, r1, r2, p⟩ hs
  | some z =>
    obtain ⟨ks, xs⟩ := z
    rw [hd] at p
    dsimp only at p
    cases hk : keyD dy with
    | none => rw [hk] at p; exact p.elim
    | some k =>
      rw [hk] at p
      dsimp only at p
      obtain ⟨a, o, rfl, g, hg⟩ := dget_of ok r1 hd r2 hk
      cases hl : lookK ks xs k with
      | none => rw [hl] at p; exact p.elim
      | some d =>
        rw [hl] at hg p
        obtain ⟨x, rfl, rx'⟩ := hg
        exact ix_dict hu value slice pins s σ H _ y v u Q I rx ry ⟨a, x, rfl, g, post_pure ok p rx'⟩ hs
theorem de_ixX {a b : Expr} {fa fb : FE} {pos : Pos} (hu : X.A.units + 64 < cLine) (ha : DE X E a fa) (hb : DE X E b fb) (hs : PlainIx b := by exact fun _ _ => rfl) : DE X E (.Subscript a b pos) (dbin dIxX fa fb) := pe_imp (pe_ix (ixx_X (by omega)) ha hb hs) (tOp_of opd_D)
/-- y in d, y not in d -/
def inX (b : Bool) (g : D → D → Mu → R D) : D → D → Mu → R D := fun x y μ => match dctD μ y with
  | some (ks, xs) => match keyD x with
    | some k => .ok (.bl ((lookK ks xs k).isSome == b)) μ
    | none => .bad
  | none => g x y μ
theorem opx_inX (hu : X.A.units + 64 < cLine) : OpX X E (compareOp .In) (inX true dIn) := by
  intro pins s σ H x y v u Q I rx ry q
  obtain ⟨E', W, μ, dx, dy, ok, r1, r2, p⟩ := q
  unfold inX at p
  cases hd : dctD μ dy with
  | none => rw [hd] at p; exact opx_in (E := E) hu pins s σ H x y v u Q I rx ry ⟨E', W, μ, dx, dy, ok, r1, r2, p⟩
  | some z =>
    obtain ⟨ks, xs⟩ := z
    rw [hd] at p
    dsimp only at p
    cases hk : keyD dx with
    | none => rw [hk] at p; exact p.elim
    | some k =>
      rw [hk] at p
      dsimp only at p
      obtain ⟨a, o, rfl, g, hg⟩ := dget_of ok r2 hd r1 hk
      cases ry
      have e : o.isSome = (lookK ks xs k).isSome := by
        cases hl : lookK ks xs k with
        | none => rw [hl] at hg; rw [hg]; rfl
        | some d => rw [hl] at hg; obtain ⟨x, rfl, _⟩ := hg; rfl
      refine d_in (by omega) I g rx fun s' I' => ⟨.bl o.isSome, H, I', rfl, ?_⟩
      have q := post_pure ok p (.bl _)
      rw [← e] at q
      cases ho : o.isSome <;> rw [ho] at q <;> exact q
theorem opx_notinX (hu : X.A.units + 64 < cLine) : OpX X E (compareOp .NotIn) (inX false dNotIn) := by
  intro pins s σ H x y v u Q I rx ry q
  obtain ⟨E', W, μ, dx, dy, ok, r1, r2, p⟩ := q
  unfold inX at p
  cases hd : dctD μ dy with
  | none => rw [hd] at p; exact opx_notin (E := E) hu pins s σ H x y v u Q I rx ry ⟨E', W, μ, dx, dy, ok, r1, r2, p⟩
  | some z =>
    obtain ⟨ks, xs⟩ := z
    rw [hd] at p
    dsimp only at p
    cases hk : keyD dx with
    | none => rw [hk] at p; exact p.elim
    | some k =>
      rw [hk] at p
      dsimp only at p
      obtain ⟨a, o, rfl, g, hg⟩ := dget_of ok r2 hd r1 hk
      cases ry
      have e : o.isSome = (lookK ks xs k).isSome := by
        cases hl : lookK ks xs k with
        | none => rw [hl] at hg; rw [hg]; rfl
        | some d => rw [hl] at hg; obtain ⟨x, rfl, _⟩ := hg; rfl
      refine d_notIn (by omega) I g rx fun s' I' => ⟨.bl (!o.isSome), H, I', rfl, ?_⟩
      have q := post_pure ok p (.bl _)
      rw [← e] at q
      cases ho : o.isSome <;> rw [ho] at q <;> exact q
end
end DL
/-! DL33: d[k] = v, d.get, d.pop, len(d). -/
namespace DL
open PySem L2 PySem.Spec PyProof.Rows
/-- o[i] = v, o a list or a dict -/
def putIx (ρ : En) (d x i : D) (μ : Mu) : O := match x with
  | .hdl l => match μ[l]? with
    | some (.lst xs) => match i with
      | .int k => match ixN xs.length k with
        | some j => .nx ρ (μ.set l (.lst (xs.set j d)))
        | none => .bad
      | _ => .bad
    | some (.dct ks xs) => match keyD i with
      | some k => if ks.Nodup ∧ ks.length = xs.length ∧ ks.length < 1000000 then .nx ρ (μ.set l (.dct (putD ks xs k d).1 (putD ks xs k d).2)) else .bad
      | none => .bad
    | _ => .bad
  | _ => .bad
def gsetixX (fo fi fe : FE) : FS := fun ρ μ => (fe ρ μ).to ρ fun d μ1 => (fo ρ μ1).to ρ fun x μ2 => (fi ρ μ2).to ρ fun i μ3 => putIx ρ d x i μ3
@[simp] theorem ap_setixX (fo fi fe : FE) (ρ : En) (μ : Mu) : gsetixX fo fi fe ρ μ = (fe ρ μ).to ρ fun d μ1 => (fo ρ μ1).to ρ fun x μ2 => (fi ρ μ2).to ρ fun i μ3 => putIx ρ d x i μ3 := of_eq_true (eq_self _)
section
variable {X : Cx} {E : WX}
def rSetX : V → V → V → Hp → (Hp → Prop) → Prop := fun o i v H Q => rSetL o i v H Q ∨ ∃ a H', o = .ref a ∧ DPut H a i v H' ∧ Q H'
theorem set_X (hu : X.A.units + 1 < cLine) : PSet X rSetX := by
  intro pins s σ H o i v ov iv u Q I ro ri rv h
  rcases h with h | ⟨a, H', rfl, g, q⟩
  · exact set_list pins s σ H o i v ov iv u Q I ro ri rv h
  · cases ro
    exact d_setItem hu I g ri rv fun s' I' => ⟨H', I', q⟩
theorem ds_setixX {o i e : Expr} {fo fi fe : FE} {pos pos' : Pos} (hu : X.A.units + 64 < cLine) (he : DE X E e fe) (ho : DE X E o fo) (hi : DE X E i fi)
    (ha : ∀ v, assign (.Subscript o i pos') X.env v = (do
      let ov ← holding [v] (eval o X.env)
      let iv ← holding [v, ov] (eval i X.env)
      standAt pos'
      holding [v, ov, iv] (setItem ov iv v)
      release [v, ov, iv] []) := by intro _; rfl) (hs : swapsWithSole [.Subscript o i pos'] e pos.line X.env = pure false := by rfl) (hw : swappedStores [.Subscript o i pos'] e X.env = pure none := by rfl)
    (h1 : (assignEach [.Subscript o i pos'] X.env).map (·.2) = [assign (.Subscript o i pos') X.env] := by rfl) : DS X E (.Assign [.Subscript o i pos'] e pos) (gsetixX fo fi fe) := by
  refine ps_imp (ps_asg he (pg_sub ho hi (set_X (by omega)) ha) hs hw h1) fun Z σ H ⟨W, ρ, μ, ok, en, p⟩ => ?_
  refine seqS p ok en fun d μ1 W1 v H1 g1 o1 en1 r p1 => ?_
  refine seqS p1 o1 en1 fun x μ2 W2 xv H2 g2 o2 en2 r2 p2 => ?_
  refine seqS p2 o2 en2 fun i μ3 W3 iv H3 g3 o3 en3 r3 p3 => ?_
  unfold putIx at p3
  split at p3
  · rename_i l
    cases r2 with
    | @hdl a _ ha =>
      have ha3 := prefix_get g3.le.io ha
      split at p3
      · rename_i xs hm
        split at p3
        · rename_i k
          split at p3
          · rename_i j hj
            cases r3
            obtain ⟨ob, ho, vs, rfl, q⟩ := o3.cell l a _ ha3 hm
            obtain ⟨ok4, g4⟩ := o3.setcell (m' := .lst (xs.set j d)) ha3 hm (fun z => nomatch z) ⟨vs.set j v, rfl, q.set ((r.mono g2.le).mono g3.le) j⟩
            exact .inl ⟨a, vs, k, j, rfl, rfl, ho, by rw [q.length]; exact hj, p3 _ _ _ g4 ok4 en3⟩
          · exact p3.elim
        · exact p3.elim
      · rename_i ks xs hm
        split at p3
        · rename_i k hk
          split at p3
          · rename_i hq
            obtain ⟨hn, hl, hz⟩ := hq
            obtain ⟨ob, ho, vs, rfl, hv, q⟩ := o3.cell l a _ ha3 hm
            have e := key_rep r3 hk
            subst e
            obtain ⟨pz, pl⟩ := put_zip (j := k) (d := d) (v := v) (xs := xs) hn hv hl
            have rr := putVs_reps (j := k) ((r.mono g2.le).mono g3.le) hv q
            obtain ⟨ok4, g4⟩ := o3.setcell (m' := .dct (putD ks xs k d).1 (putD ks xs k d).2) (o' := .dK (putK (ks.zip vs) k v)) ha3 hm (fun z => nomatch z) ⟨putVs ks vs k v, by rw [pz], pl, rr⟩
            refine .inr ⟨a, _, rfl, DPut.k ho ?_, p3 _ _ _ g4 ok4 en3⟩
            rw [List.length_zip, ← hv, Nat.min_self]
            exact Nat.lt_of_lt_of_le hz (by rw [sizeLine_eq]; omega)
          · exact p3.elim
        · exact p3.elim
      · exact p3.elim
  · exact p3.elim
/-- d.get(k), d.get(k, x) -/
def mGet : D → List D → Mu → R D := fun x ds μ => match dctD μ x with
  | some (ks, xs) => match ds with
    | [i] => match keyD i with
      | some k => .ok ((lookK ks xs k).getD .non) μ
      | none => .bad
    | [i, d] => match keyD i with
      | some k => .ok ((lookK ks xs k).getD d) μ
      | none => .bad
    | _ => .bad
  | none => .bad
theorem mx_get (hu : X.A.units + 64 < cLine) : MtX X E "dict.get" mGet := by
  intro pins s σ H x xs v us Q I rx rs q
  obtain ⟨E', W, μ, d, ds, ok, r1, r2, p⟩ := q
  unfold mGet at p
  split at p
  · rename_i ks ys hd
    split at p
    · rename_i i
      cases r2 with
      | cons ri r3 =>
        cases r3
        split at p
        · rename_i k hk
          obtain ⟨a, o, rfl, g, hg⟩ := dget_of ok r1 hd ri hk
          cases rx
          obtain ⟨u, rfl, ru⟩ := rs.one
          refine d_get1 (by omega) I g ru fun w' s' I' rw' => ⟨_, H, I', rw', ?_⟩
          cases hl : lookK ks ys k with
          | none => rw [hl] at hg p; rw [hg]; exact post_pure ok p .non
          | some z => rw [hl] at hg p; obtain ⟨y, rfl, ry⟩ := hg; exact post_pure ok p ry
        · exact p.elim
    · rename_i i d2
      cases r2 with
      | cons ri r3 =>
        cases r3 with
        | cons rd r4 =>
          cases r4
          split at p
          · rename_i k hk
            obtain ⟨a, o, rfl, g, hg⟩ := dget_of ok r1 hd ri hk
            cases rx
            cases rs with
            | cons ru rs2 =>
              cases rs2 with
              | cons ru2 rs3 =>
                cases rs3
                refine d_get2 (by omega) I g ru ru2 fun w' s' I' rw' => ⟨_, H, I', rw', ?_⟩
                cases hl : lookK ks ys k with
                | none => rw [hl] at hg p; rw [hg]; exact post_pure ok p rd
                | some z => rw [hl] at hg p; obtain ⟨y, rfl, ry⟩ := hg; exact post_pure ok p ry
          · exact p.elim
    · exact p.elim
  · exact p.elim
/-- len of a dict too -/
def bLenX : List D → Mu → R D := fun ds μ => match ds with
  | [d] => match dctD μ d with
    | some (ks, xs) => .ok (.int ks.length) μ
    | none => bLen [d] μ
  | _ => .bad
theorem cx_lenX : CallX X E (.builtin "len") bLenX := by
  intro pins s σ H xs us Q I rx q
  obtain ⟨E', W, μ, ds, ok, r1, p⟩ := q
  unfold bLenX at p
  split at p
  · rename_i d
    split at p
    · rename_i ks ys hd
      cases r1 with
      | cons r1 r2 =>
        cases r2
        obtain ⟨l, a, vs, rfl, ha, hm, rfl, ho, hl, rs⟩ := dct_rep ok r1 hd
        obtain ⟨u, rfl, ru⟩ := rx.one
        cases ru
        refine d_len I (.inl ho) fun t s' I' => ⟨.int _, H, I', ⟨t, rfl⟩, ?_⟩
        have e : (ks.zip vs).length = ks.length := by rw [List.length_zip, ← hl, Nat.min_self]
        rw [e]
        exact post_pure ok p (.int _)
    · exact cx_len (E := E) pins s σ H xs us Q I rx ⟨E', W, μ, _, ok, r1, p⟩
  · exact p.elim
end
end DL
/-! DL34: while, d.pop, dict displays. -/
namespace DL
open PySem L2 PySem.Spec PyProof.Rows
/-! ### while, of so many turns at most -/
def whileN (c : FT) (b : FS) : Nat → En → Mu → O
  | 0, _, _ => .bad
  | n + 1, ρ, μ => (c ρ μ).to ρ fun t μ1 => if t = true then (match b ρ μ1 with
    | .nx ρ' μ' => whileN c b n ρ' μ'
    | .ct ρ' μ' => whileN c b n ρ' μ'
    | .bk ρ' μ' => .nx ρ' μ'
    | o => o) else .nx ρ μ1
def gwhile (n : Nat) (c : FT) (b : FS) : FS := fun ρ μ => whileN c b n ρ μ
@[simp] theorem ap_while (n : Nat) (c : FT) (b : FS) (ρ : En) (μ : Mu) : gwhile n c b ρ μ = whileN c b n ρ μ := of_eq_true (eq_self _)
theorem while_step (c : FT) (b : FS) (n : Nat) (ρ : En) (μ : Mu) : whileN c b (n + 1) ρ μ = (c ρ μ).to ρ fun t μ1 => if t = true then (b ρ μ1).pass (fun ρ' μ' => whileN c b n ρ' μ') else .nx ρ μ1 := by
  rw [whileN]
  cases c ρ μ with
  | ok t μ1 =>
    simp only [R.to_ok]
    cases t with
    | false => rfl
    | true =>
      simp only [if_true]
      cases b ρ μ1 <;> rfl
  | ex _ _ _ => rfl
  | bad => rfl
section
variable {X : Cx} {E : WX} {pos : Pos}
theorem ds_while (n : Nat) {c : Expr} {body : List Stmt} {fc : FT} {b : FS} (hp : PassesOwn (model X.prog X.w) X.A X.env X.xe) (hc : DT X E c fc) (hb : DSs X E body b) : DS X E (.While c body [] pos) (gwhile n fc b) := by
  refine ps_imp (ps_while hp hc hb) fun Z σ H ⟨W, ρ, μ, ok, en, p⟩ => ?_
  refine ⟨fun m σ H => ∃ W ρ μ, Ok X.K W H μ ∧ Envs X.K W σ ρ ∧ postS X.K E W H (whileN fc b m ρ μ) Z, ⟨n, W, ρ, μ, ok, en, p⟩, ?_⟩
  rintro m σ2 H2 ⟨W2, ρ2, μ2, ok2, en2, p2⟩
  cases m with
  | zero => exact p2.elim
  | succ m =>
    rw [whileN] at p2
    refine seqST p2 ok2 en2 fun t μ3 W3 H3 g3 o3 en3 p3 => ?_
    cases t with
    | false =>
      rw [if_neg Bool.false_ne_true] at p3 ⊢
      exact p3 W3 σ2 H3 (Go.refl _ _) o3 en3
    | true =>
      rw [if_pos rfl] at p3 ⊢
      refine ⟨fun σ' H' => ∃ W ρ μ, Ok X.K W H' μ ∧ Envs X.K W σ' ρ ∧ postS X.K E W H' (whileN fc b m ρ μ) Z, fun σ' H' h => ⟨m, Nat.lt_succ_self m, h⟩, W3, ρ2, μ3, o3, en3, ?_⟩
      revert p3
      cases b ρ2 μ3 with
      | nx ρ4 μ4 => exact fun p W5 σ5 H5 g5 o5 e5 => ⟨W5, ρ4, μ4, o5, e5, postS.mono g5 p⟩
      | ct ρ4 μ4 => exact fun p W5 σ5 H5 g5 o5 e5 => ⟨W5, ρ4, μ4, o5, e5, postS.mono g5 p⟩
      | bk ρ4 μ4 => exact fun p => p
      | rt d μ4 => exact fun p => p
      | ex c fs μ4 => exact fun p => p
      | bad => exact fun p => p
end
/-! ### d.pop(k), d.pop(k, x) -/
def dropD : List Key → List D → Key → List Key × List D
  | k :: ks, x :: xs, j => if k = j then dropD ks xs j else (k :: (dropD ks xs j).1, x :: (dropD ks xs j).2)
  | _, _, _ => ([], [])
def dropVs : List Key → List V → Key → List V
  | k :: ks, x :: xs, j => if k = j then dropVs ks xs j else x :: dropVs ks xs j
  | _, _, _ => []
theorem drop_zip {j : Key} : ∀ {ks : List Key} {vs : List V} {xs : List D}, ks.length = vs.length → ks.length = xs.length → dropK (ks.zip vs) j = (dropD ks xs j).1.zip (dropVs ks vs j) ∧ (dropD ks xs j).1.length = (dropVs ks vs j).length
  | [], [], [], _, _ => by simp [dropK, dropD, dropVs]
  | k :: ks, x :: vs, y :: xs, h1, h2 => by
    obtain ⟨ih, il⟩ := drop_zip (j := j) (ks := ks) (vs := vs) (xs := xs) (by simpa using h1) (by simpa using h2)
    by_cases e : k = j
    · rw [List.zip_cons_cons, dropK_pos (p := (k, x)) e]
      simp only [dropD, dropVs, if_pos e]
      exact ⟨ih, il⟩
    · rw [List.zip_cons_cons, dropK_neg (p := (k, x)) e]
      simp only [dropD, dropVs, if_neg e, List.zip_cons_cons, List.length_cons, il, ih]
      exact ⟨trivial, trivial⟩
theorem dropVs_reps {K : PySem.W.Frag} {W : Wd} {j : Key} : ∀ {ks : List Key} {vs : List V} {xs : List D}, ks.length = vs.length → Reps K W vs xs → Reps K W (dropVs ks vs j) (dropD ks xs j).2
  | [], [], xs, _, r0 => by
    cases r0
    simp [dropVs, dropD]
    exact .nil
  | k :: ks, x :: vs, xs, h, r0 => by
    cases r0 with
    | cons r1 rs =>
      have ih := dropVs_reps (j := j) (ks := ks) (by simpa using h) rs
      by_cases e : k = j
      · simp only [dropVs, dropD, if_pos e]
        exact ih
      · simp only [dropVs, dropD, if_neg e]
        exact .cons r1 ih
  | [], _ :: _, _, h, _ => by simp at h
  | _ :: _, [], _, h, _ => by simp at h
def popD (l : Nat) (ks : List Key) (xs : List D) (k : Key) (e : R D) (μ : Mu) : R D := if ks.length = xs.length then (match lookK ks xs k with
    | some d => .ok d (μ.set l (.dct (dropD ks xs k).1 (dropD ks xs k).2))
    | none => e) else .bad
def mPop : D → List D → Mu → R D := fun x ds μ => match x with
  | .hdl l => match μ[l]? with
    | some (.dct ks xs) => match ds with
      | [i] => match keyD i with
        | some k => popD l ks xs k .bad μ
        | none => .bad
      | [i, d] => match keyD i with
        | some k => popD l ks xs k (.ok d μ) μ
        | none => .bad
      | _ => .bad
    | _ => .bad
  | _ => .bad
section
variable {X : Cx} {E : WX}
theorem pop_there {E' : XK} {W : Wd} {H : Hp} {μ : Mu} {l : Nat} {a : Addr} {ks : List Key} {xs : List D} {k : Key} {d : D} (ok : Ok X.K W H μ) (ha : W.io[l]? = some a) (hm : μ[l]? = some (.dct ks xs)) (hl : ks.length = xs.length) (hd : lookK ks xs k = some d) :
    ∃ vs v, H a = some (.dK (ks.zip vs)) ∧ valV (ks.zip vs) k = some v ∧ ∀ (Q : VK), postE X.K E' W H (.ok d (μ.set l (.dct (dropD ks xs k).1 (dropD ks xs k).2))) Q → Q v (upd H a (.dK (dropK (ks.zip vs) k))) := by
  obtain ⟨ob, ho, vs, rfl, hv, q⟩ := ok.cell l a _ ha hm
  have lr := look_rep (j := k) (ks := ks) q
  rw [hd] at lr
  obtain ⟨v, e1, r1⟩ := lr
  obtain ⟨pz, pl⟩ := drop_zip (j := k) (xs := xs) hv hl
  obtain ⟨ok4, g4⟩ := ok.setcell (m' := .dct (dropD ks xs k).1 (dropD ks xs k).2) (o' := .dK (dropK (ks.zip vs) k)) ha hm (fun z => nomatch z) ⟨dropVs ks vs k, by rw [pz], pl, dropVs_reps hv q⟩
  exact ⟨vs, v, ho, e1, fun Q p => p W v _ g4 ok4 r1⟩
theorem mx_dpop : MtX X E "dict.pop" mPop := by
  intro pins s σ H x xs v us Q I rx rs q
  obtain ⟨E', W, μ, d, ds, ok, r1, r2, p⟩ := q
  unfold mPop at p
  split at p
  · rename_i l
    split at p
    · rename_i ks ys hm
      cases r1 with
      | @hdl a _ ha =>
        cases rx
        split at p
        · rename_i i
          cases r2 with
          | cons ri r3 =>
            cases r3
            obtain ⟨u, rfl, ru⟩ := rs.one
            split at p
            · rename_i k hk
              have e := key_rep ri hk
              subst e
              unfold popD at p
              split at p
              · rename_i hl
                split at p
                · rename_i d hd
                  obtain ⟨vs, w, ho, e1, fin⟩ := pop_there (E' := E') ok ha hm hl hd
                  exact d_pop I ho ru e1 (.inl rfl) fun w' s' I' rw' => ⟨w, _, I', rw', fin Q p⟩
                · exact p.elim
              · exact p.elim
            · exact p.elim
        · rename_i i d2
          cases r2 with
          | cons ri r3 =>
            cases r3 with
            | cons rd r4 =>
              cases r4
              cases rs with
              | cons ru rs2 =>
                cases rs2 with
                | cons ru2 rs3 =>
                  cases rs3
                  split at p
                  · rename_i k hk
                    have e := key_rep ri hk
                    subst e
                    unfold popD at p
                    split at p
                    · rename_i hl
                      split at p
                      · rename_i d hd
                        obtain ⟨vs, w, ho, e1, fin⟩ := pop_there (E' := E') ok ha hm hl hd
                        exact d_pop I ho ru e1 (.inr ⟨_, rfl⟩) fun w' s' I' rw' => ⟨w, _, I', rw', fin Q p⟩
                      · rename_i hd
                        obtain ⟨ob, ho, vs, rfl, hv, q⟩ := ok.cell l a _ ha hm
                        have lr := look_rep (j := k) (ks := ks) q
                        rw [hd] at lr
                        exact d_popD I ho ru lr fun s' I' => ⟨_, H, I', ru2, post_pure ok p rd⟩
                    · exact p.elim
                  · exact p.elim
        · exact p.elim
    · exact p.elim
  · exact p.elim
end
end DL
/-! DL35: dict displays, dict(pairs). -/
namespace DL
open PySem L2 PySem.Spec PyProof.Rows
/-- pairs put one behind the other -/
def mergeD : List (Key × D) → List Key × List D → List Key × List D
  | [], q => q
  | p :: ps, q => mergeD ps (putD q.1 q.2 p.1 p.2)
theorem putD_mem {j x : Key} {d : D} : ∀ {ks : List Key} {xs : List D}, x ∈ (putD ks xs j d).1 → x ∈ ks ∨ x = j
  | [], xs, h => by
    simp [putD] at h
    exact .inr h
  | k :: ks, [], h => by
    simp [putD] at h
    exact .inr h
  | k :: ks, y :: xs, h => by
    by_cases e : k = j
    · simp [putD, e] at h
      rcases h with h | h
      · exact .inr h
      · exact .inl (List.mem_cons_of_mem _ h)
    · simp only [putD, if_neg e, List.mem_cons] at h
      rcases h with h | h
      · exact .inl (by simp [h])
      · rcases putD_mem h with h | h
        · exact .inl (List.mem_cons_of_mem _ h)
        · exact .inr h
theorem putD_nodup {j : Key} {d : D} : ∀ {ks : List Key} {xs : List D}, ks.Nodup → (putD ks xs j d).1.Nodup
  | [], xs, _ => by simp [putD]
  | k :: ks, [], _ => by simp [putD]
  | k :: ks, y :: xs, h => by
    have hk := List.nodup_cons.mp h
    by_cases e : k = j
    · simp only [putD, if_pos e]
      exact h
    · simp only [putD, if_neg e]
      refine List.nodup_cons.mpr ⟨fun z => ?_, putD_nodup hk.2⟩
      rcases putD_mem z with z | z
      · exact hk.1 z
      · exact e z
theorem putD_len {j : Key} {d : D} : ∀ {ks : List Key} {xs : List D}, ks.length = xs.length → (putD ks xs j d).1.length = (putD ks xs j d).2.length
  | [], [], _ => by simp [putD]
  | [], _ :: _, h => by simp at h
  | _ :: _, [], h => by simp at h
  | k :: ks, y :: xs, h => by
    by_cases e : k = j
    · simpa [putD, e] using h
    · simp only [putD, if_neg e, List.length_cons]
      rw [putD_len (by simpa using h)]
theorem merge_rep {K : PySem.W.Frag} {W : Wd} : ∀ {ps : List (Key × D)} {us : List V} {ks : List Key} {xs : List D} {vs : List V}, Reps K W us (ps.map (·.2)) → ks.Nodup → ks.length = xs.length → ks.length = vs.length → Reps K W vs xs →
    ∃ ws, mergeK (ks.zip vs) ((ps.map (·.1)).zip us) = (mergeD ps (ks, xs)).1.zip ws ∧ (mergeD ps (ks, xs)).1.length = ws.length ∧ Reps K W ws (mergeD ps (ks, xs)).2
  | [], us, ks, xs, vs, r, hn, h1, h2, rs => by
    cases r
    exact ⟨vs, rfl, h2, rs⟩
  | p :: ps, us, ks, xs, vs, r, hn, h1, h2, rs => by
    cases r with
    | @cons u us _ _ r1 r2 =>
      obtain ⟨pz, pl⟩ := put_zip (j := p.1) (d := p.2) (v := u) (xs := xs) hn h2 h1
      have rr := putVs_reps (j := p.1) r1 h2 rs
      obtain ⟨ws, e1, e2, e3⟩ := merge_rep (ps := ps) (us := us) (ks := (putD ks xs p.1 p.2).1) (xs := (putD ks xs p.1 p.2).2) (vs := putVs ks vs p.1 u) r2 (putD_nodup hn) (putD_len h1) pl rr
      refine ⟨ws, ?_, e2, e3⟩
      rw [← pz] at e1
      exact e1
/-- what a display's pairs are worth -/
def pairsF : List (FE × FE) → En → Mu → R (List (D × D))
  | [], _, μ => .ok [] μ
  | q :: qs, ρ, μ => (q.1 ρ μ).bind fun k μ1 => (q.2 ρ μ1).bind fun d μ2 => (pairsF qs ρ μ2).bind fun ps μ3 => .ok ((k, d) :: ps) μ3
def keyPairs : List (D × D) → Option (List (Key × D))
  | [] => some []
  | q :: qs => match keyD q.1, keyPairs qs with
    | some k, some ps => some ((k, q.2) :: ps)
    | _, _ => none
inductive RepP (K : PySem.W.Frag) (W : Wd) : List (V × V) → List (D × D) → Prop
  | nil : RepP K W [] []
  | cons {x y : V} {k d : D} {vs : List (V × V)} {ds : List (D × D)} : Rep K W x k → Rep K W y d → RepP K W vs ds → RepP K W ((x, y) :: vs) ((k, d) :: ds)
theorem RepP.keys {K : PySem.W.Frag} {W : Wd} : ∀ {vs : List (V × V)} {ds : List (D × D)} {ps : List (Key × D)}, RepP K W vs ds → keyPairs ds = some ps → ∃ us, vs = ((ps.map (·.1)).zip us).map (fun kv => (kV kv.1, kv.2)) ∧ Reps K W us (ps.map (·.2))
  | _, _, ps, .nil, h => by
    simp [keyPairs] at h
    subst h
    exact ⟨[], rfl, .nil⟩
  | _, _, ps, .cons (x := x) (y := y) (k := k) (d := d) r1 r2 r3, h => by
    unfold keyPairs at h
    split at h
    · rename_i j qs hj hq
      cases h
      obtain ⟨us, e, r⟩ := r3.keys hq
      have ex := key_rep r1 hj
      exact ⟨y :: us, by simp [ex, e], .cons r2 r⟩
    · cases h
def postP (K : PySem.W.Frag) (E : XK) (W : Wd) (H : Hp) (r : R (List (D × D))) (Q : List (V × V) → Hp → Prop) : Prop := match r with
  | .ok ds μ => ∀ W' vs H', Go W H W' H' → Ok K W' H' μ → RepP K W' vs ds → Q vs H'
  | .ex c fs μ => ∀ W' H' d, Go W H W' H' → Ok K W' H' μ → ExcIs K W' H' fs d → E (.ref (cl K c)) d H'
  | .bad => False
theorem RepP.mono {K : PySem.W.Frag} {W W' : Wd} (l : Le W W') : ∀ {vs : List (V × V)} {ds : List (D × D)}, RepP K W vs ds → RepP K W' vs ds
  | _, _, .nil => .nil
  | _, _, .cons a b c => .cons (a.mono l) (b.mono l) (c.mono l)
theorem postP.mono {K : PySem.W.Frag} {E : XK} {W W1 : Wd} {H H1 : Hp} {r : R (List (D × D))} {Q : List (V × V) → Hp → Prop} (g : Go W H W1 H1) (h : postP K E W H r Q) : postP K E W1 H1 r Q := by
  cases r with
  | ok d μ => exact fun W' v H' g' o r => h W' v H' (g.trans g') o r
  | ex c fs μ => exact fun W' H' d g' o r => h W' H' d (g.trans g') o r
  | bad => exact h
theorem tPairs_of {K : PySem.W.Frag} {E : WX} : ∀ {qs : List (FE × FE)} {σ : L2.St} {H : Hp} {Q : List (V × V) → Hp → Prop} {W : Wd} {ρ : En} {μ : Mu}, Ok K W H μ → Envs K W σ ρ → postP K (WE E σ) W H (pairsF qs ρ μ) Q → tPairs (qs.map fun q => (rE K E q.1, rE K E q.2)) σ H Q
  | [], σ, H, Q, W, ρ, μ, ok, en, p => p W [] H (Go.refl _ _) ok .nil
  | q :: qs, σ, H, Q, W, ρ, μ, ok, en, p => by
    simp only [pairsF] at p
    refine ⟨W, ρ, μ, ok, en, ?_⟩
    revert p
    cases q.1 ρ μ with
    | ex c fs μ1 => exact fun p => p
    | bad => exact fun p => p
    | ok k μ1 =>
      intro p W1 x H1 g1 o1 r1
      refine ⟨W1, ρ, μ1, o1, en.mono g1.le, ?_⟩
      have p := postP.mono g1 p
      revert p
      rw [R.bind_ok]
      cases q.2 ρ μ1 with
      | ex c fs μ2 => exact fun p => p
      | bad => exact fun p => p
      | ok d μ2 =>
        intro p W2 y H2 g2 o2 r2
        refine tPairs_of (qs := qs) (W := W2) (ρ := ρ) (μ := μ2) o2 ((en.mono g1.le).mono g2.le) ?_
        have p := postP.mono g2 p
        revert p
        rw [R.bind_ok]
        cases pairsF qs ρ μ2 with
        | ex c fs μ3 => exact fun p => p
        | bad => exact fun p => p
        | ok ps μ3 => exact fun p W3 vs H3 g3 o3 r3 => p W3 ((x, y) :: vs) H3 g3 o3 (.cons (r1.mono (g2.le.trans g3.le)) (r2.mono g3.le) r3)
def dDisp (qs : List (FE × FE)) : FE := fun ρ μ => (pairsF qs ρ (μ ++ [.dct [] []])).bind fun ps μ1 => match μ1[μ.length]? with
  | some (.dct [] []) => match keyPairs ps with
    | some kvs => if kvs.length ≤ 15 then .ok (.hdl μ.length) (μ1.set μ.length (.dct (mergeD kvs ([], [])).1 (mergeD kvs ([], [])).2)) else .bad
    | none => .bad
  | _ => .bad
@[simp] theorem ap_disp (qs : List (FE × FE)) (ρ : En) (μ : Mu) : dDisp qs ρ μ = (pairsF qs ρ (μ ++ [.dct [] []])).bind fun ps μ1 => match μ1[μ.length]? with
  | some (.dct [] []) => match keyPairs ps with
    | some kvs => if kvs.length ≤ 15 then .ok (.hdl μ.length) (μ1.set μ.length (.dct (mergeD kvs ([], [])).1 (mergeD kvs ([], [])).2)) else .bad
    | none => .bad
  | _ => .bad := of_eq_true (eq_self _)
section
variable {X : Cx} {E : WX} {pos : Pos} {keys : List (Option Expr)} {values : List Expr}
abbrev DPs (X : Cx) (E : WX) (pos : Pos) (keys : List (Option Expr)) (values : List Expr) (qs : List (FE × FE)) : Prop := PPs X pos keys values (qs.map fun q => (rE X.K E q.1, rE X.K E q.2))
theorem dp_nil : DPs X E pos [] [] [] := pps_nil
theorem dp_cons {k v : Expr} {fk fv : FE} {qs : List (FE × FE)} (hk : DE X E k fk) (hv : DE X E v fv) (hr : DPs X E pos keys values qs) : DPs X E pos (some k :: keys) (v :: values) ((fk, fv) :: qs) := pps_cons hk hv hr
theorem de_disp {qs : List (FE × FE)} (h : DPs X E pos keys values qs) (hall : keys.all (·.isSome) = true := by rfl) (hl : keys.length = values.length := by rfl) (h0 : keys ≠ [] := by simp) (h15 : keys.length ≤ 15 := by decide) : DE X E (.Dict keys values pos) (dDisp qs) := by
  refine pe_imp (pe_disp h hall hl h0 h15) fun σ H Q ⟨W, ρ, μ, ok, en, p⟩ => fun a ha => ?_
  have ok1 : Ok X.K (W.cell a) (upd H a (.dK [])) (μ ++ [.dct [] []]) := ok.newcell ha (m := .dct [] []) ⟨[], rfl, rfl, .nil⟩
  have g1 : Go W H (W.cell a) (upd H a (.dK [])) := Go.cell ok ha
  have hio : (W.cell a).io[μ.length]? = some a := by
    show (W.io ++ [a])[μ.length]? = some a
    rw [← ok.len]
    simp
  refine tPairs_of (W := W.cell a) ok1 (en.mono g1.le) ?_
  unfold dDisp at p
  revert p
  cases pairsF qs ρ (μ ++ [.dct [] []]) with
  | ex c fs μ1 => exact fun p W' H' d g o x => p W' H' d (g1.trans g) o x
  | bad => exact fun p => p
  | ok ps μ1 =>
    rw [R.bind_ok]
    intro p W2 vs H2 g2 o2 r2
    split at p
    · rename_i hm
      have hio2 := prefix_get g2.le.io hio
      obtain ⟨ob, hob, vs0, rfl, h00, r00⟩ := o2.cell _ _ _ hio2 hm
      cases r00
      split at p
      · rename_i kvs hk
        split at p
        · rename_i h15'
          obtain ⟨us, e, rr⟩ := r2.keys hk
          obtain ⟨ws, e1, e2, e3⟩ := merge_rep (ks := []) (xs := []) (vs := []) rr List.nodup_nil rfl rfl .nil
          obtain ⟨ok4, g4⟩ := o2.setcell (m' := .dct (mergeD kvs ([], [])).1 (mergeD kvs ([], [])).2) (o' := .dK (mergeK [] ((kvs.map (·.1)).zip us))) hio2 hm (fun z => nomatch z) ⟨ws, by rw [← e1]; rfl, e2, e3⟩
          refine ⟨hob, (kvs.map (·.1)).zip us, e, ?_, p W2 _ _ ((g1.trans g2).trans g4) ok4 (.hdl hio2)⟩
          rw [List.length_zip, List.length_map]
          omega
        · exact p.elim
      · exact p.elim
    · exact p.elim
end
end DL
/-! DL36: own exceptions over ValueError, KeyError, RuntimeError: how they are made. -/
namespace DL
open PySem L2 PySem.Spec PyProof.Rows PySem.HandSPX
abbrev keTail : List Value := [.type "KeyError", .type "LookupError", .type "Exception", .type "BaseException", .type "object"]
theorem store_KeyError : StoreFacts "KeyError" keTail "object.__setattr__" "object" where
  mro := by kernel_rfl
  slot := .of (owner := "object") (n := "__setattr__") (by rw [typeLookup_type, builtinLookup_eq_fast]; kernel_rfl) (by decide +kernel) (by decide +kernel) (by decide +kernel)
    (by first | exact .inl (by decide +kernel) | exact .inr (by decide +kernel)) (by rw [isSubtype_type]; kernel_rfl)
  entry := PySem.F.store_object.entry
  kind := by decide +kernel
  split := by decide +kernel
  hasOwner := by decide +kernel
  args := fun a b c => by unfold argsOk; kernel_rfl
  passes := fun self => by kernel_rfl
/-! ### a class over KeyError: its __new__ is LookupError's -/
section
variable {prog : Program} {w : World} {A : Around} {E : Value → Shared → Prop} {R : Result → Shared → Prop} {h : Heap} {g : Array GenState} {d : Drawn} {t : Nat} {os : OsState}
variable {nm q : Str} {C N : Addr} {bs bm bmB : List Value} {hdct : Bool} {sn : List Str} {sub : List Value} {ab : Bool} {col : Option Bool} {dd : Option Addr} {k0 k1 k2 k3 k5 : Option Value} {B newId initId : String}
theorem new2 (F : ExcBaseFacts B newId initId bmB) (cB : (Value.ref C :: bm).contains (.type B) = true) (cA : (Value.ref C :: bm).contains (.type "AttributeError") = false) (cN : (Value.ref C :: bm).contains (.type "NameError") = false) {rest : List Value} {kw : List (Str × Value)}
    (hC : h.get? C = some (excClassObj nm q C N bs bm hdct sn sub ab col dd k0 k1 k2 k3 k5 newId)) (hrest : rest.length ≤ sizeLine)
    (hq : R (.ok (.ret (.ref (h.objs.size + 1)))) ⟨(h.push (W.kdv_tup rest)).push (excO C h.objs.size), g, d, t, os⟩) :
    codeAny (model prog w) A (.builtin newId ⟨.ref C :: rest, kw⟩) R ⟨h, g, d, t, os⟩ := by
  have hends := F.ends
  refine codeAny_builtinAt F.entry ?_
  unfold Builtin.«BaseException.__new__»
  refine PySem.wpAt_bind ?_
  show PySem.wpAt _ _ _ (stack >>= _) _ _ _
  refine PySem.wpAt_bind (PySem.wpAt_stack fun p below => PySem.wpAt_of_wpAny ?_)
  wp_walk
  refine PySem.wpAt_of_wpAny ?_
  rw [F.owner]
  repeat (first | with_reducible refine wpAny_madeHere_exc F.canon hC ?_ | with_reducible refine wpAny_loadPart_at hC ?_ | (with_reducible refine wpAny_isSubtype_exc hC ?_; first | rw [cB] | rw [cA] | rw [cN]) | wp_step)
  show R _ _
  rw [Heap.size_push]
  exact hq
theorem check2 {M : Model} (F : ExcBaseFacts B newId initId bmB) (cB : (Value.ref C :: bm).contains (.type B) = true) {rest : List Value} {kw : List (Str × Value)} {Q : Unit → Shared → Prop}
    (hC : h.get? C = some (excClassObj nm q C N bs bm hdct sn sub ab col dd k0 k1 k2 k3 k5 newId)) (hq : Q () ⟨h, g, d, t, os⟩) : wpAny M A (checkBuiltinCall newId ⟨.ref C :: rest, kw⟩) Q E ⟨h, g, d, t, os⟩ := by
  have hstar := F.noStar
  simp only [checkBuiltinCall, F.newKind, F.newSplit, F.newRow]
  repeat (first | refine wpAny_loadPart_at hC ?_ | (refine wpAny_isSubtype_exc hC ?_; rw [cB]) | refine wpAny_staticBase_exc hC ?_ | refine wpAny_madeBy_exc hC ?_ | simp only [bne_self_eq_false, Bool.false_eq_true, if_false] | wp_step)
  exact hq
theorem check_tcK {M : Model} {A : Around} {rest : List Value} {kw : List (Str × Value)} {Q : Unit → Shared → Prop} (hC : h.get? C = some (excClassObj nm q C N bs bm hdct sn sub ab col dd k0 k1 k2 k3 k5 newId))
    (hq : Q () ⟨h, g, d, t, os⟩) : wpAny M A (checkBuiltinCall "type.__call__" ⟨.ref C :: rest, kw⟩) Q E ⟨h, g, d, t, os⟩ := by
  refine PySem.W.check_slot tc_kind tc_split ?_ (PySem.W.tc_args _ _ _) hq
  have t1 : PySem.W.Looks M h (typeOf (.ref C)) (.type "type") := (PySem.W.Looks.ld hC).andThen .now
  unfold isInstance
  exact t1.andThen (PySem.W.Looks.of_pure tc_sub)
theorem tcall2 (F : ExcBaseFacts B newId initId bmB) (cB : (Value.ref C :: bm).contains (.type B) = true) (cA : (Value.ref C :: bm).contains (.type "AttributeError") = false) (cN : (Value.ref C :: bm).contains (.type "NameError") = false) {rest : List Value} {kw : List (Str × Value)} {fI : Addr} {Q : Fin → Shared → Prop}
    (hC : h.get? C = some (excClassObj nm q C N bs bm hdct sn sub ab col dd k0 k1 k2 k3 k5 newId))
    (hi : W.Looks (model prog w) h (typeLookup (.ref C) "__init__") (some (.ref fI))) (hb : ∀ self, W.Looks (model prog w) h (bindSpecial (.ref fI) self) (.ref fI, [self])) (hrest : rest.length ≤ sizeLine)
    (hq : codeAny (model prog w) A (.call (.ref fI) ⟨.ref (h.objs.size + 1) :: rest, kw⟩)
      (fun r s' => match r with | .ok (.ret v) => v = .none ∧ Q (.done (.ret (.ref (h.objs.size + 1)))) s' | .ok _ => False | .error e => E e s')
      ⟨(h.push (W.kdv_tup rest)).push (excO C h.objs.size), g, d, t, os⟩) :
    wpAny (model prog w) A (Builtin.«type.__call__» ⟨.ref C :: rest, kw⟩) Q E ⟨h, g, d, t, os⟩ := by
  repeat (first | with_reducible refine wpAny_loadPart_at hC ?_ | with_reducible refine wpAny_madeBy_exc hC ?_ | wp_step)
  refine codeAny_call_builtin_code (Code.quiet_builtin _ F.quiet) (check2 F cB hC ?_)
  refine new2 F cB cA cN hC hrest ?_
  show wpAny _ _ _ _ _ _
  have k : ∀ b o, h.get? b = some o → ((h.push (W.kdv_tup rest)).push (excO C h.objs.size)).get? b = some o := fun b o e => Heap.get?_push_of_some _ (Heap.get?_push_of_some _ e)
  have hC₁ := k _ _ hC
  have hget : ((h.push (W.kdv_tup rest)).push (excO C h.objs.size)).get? (h.objs.size + 1) = some (excO C h.objs.size) := by heap_get
  have hcC : (Value.ref C :: bm).contains (.ref C) = true := by simp
  have i1 := hi.keeps k
  have b1 := (hb (.ref (h.objs.size + 1))).keeps k
  unfold isInstance
  repeat (first | with_reducible refine wpAny_loadPart_at hget ?_ | (with_reducible refine wpAny_isSubtype_exc hC₁ ?_; rw [hcC]) | wp_step)
  show wpAny _ _ (typeLookup (.ref C) _) _ _ _
  refine i1.at ?_
  refine wpAny_holding (wpAny_bind (b1.at ?_))
  refine wpAny_bind (wpAny_call (codeAny_mono hq fun r s' z => ?_))
  rcases r with e | (v | _ | _ | _) <;> first | exact z | exact z.elim | skip
  obtain ⟨rfl, z⟩ := z
  first
    | exact wpAny_pure (wpAny_pure z)
    | (wp_walk; exact z)
theorem call2 (F : ExcBaseFacts B newId initId bmB) (cB : (Value.ref C :: bm).contains (.type B) = true) (cA : (Value.ref C :: bm).contains (.type "AttributeError") = false) (cN : (Value.ref C :: bm).contains (.type "NameError") = false) {rest : List Value} {kw : List (Str × Value)} {fI : Addr}
    (hC : h.get? C = some (excClassObj nm q C N bs bm hdct sn sub ab col dd k0 k1 k2 k3 k5 newId))
    (hi : W.Looks (model prog w) h (typeLookup (.ref C) "__init__") (some (.ref fI))) (hb : ∀ self, W.Looks (model prog w) h (bindSpecial (.ref fI) self) (.ref fI, [self])) (hrest : rest.length ≤ sizeLine)
    (hq : codeAny (model prog w) (A.under (.builtin "type.__call__" ⟨.ref C :: rest, kw⟩)) (.call (.ref fI) ⟨.ref (h.objs.size + 1) :: rest, kw⟩) (W.InitBack (h.objs.size + 1) R)
      ⟨(h.push (W.kdv_tup rest)).push (excO C h.objs.size), g, d, t, os⟩) :
    codeAny (model prog w) A (.call (.ref C) ⟨rest, kw⟩) R ⟨h, g, d, t, os⟩ := by
  have f1 := tc_lookup
  have f2 := tc_bind (.ref C)
  have hTy : (⟨h, g, d, t, os⟩ : Shared).TypeIs (.ref C) "type" := ⟨_, hC, rfl⟩
  refine codeAny_of_tree ?_
  show wpAny _ _ (callAny (.ref C) _) _ _ _
  repeat (any_goals (first | assumption | with_reducible refine wpAny_loadPart_at hC ?_ | wp_step))
  refine ⟨rfl, ?_⟩
  refine codeAny_call_builtin_at (Code.quiet_builtin _ (by decide +kernel)) entry_typeCall (check_tcK hC (tcall2 F cB cA cN hC hi hb hrest ?_))
  refine codeAny_mono hq fun r s' z => ?_
  rcases r with e | (v | _ | _ | _) <;> exact z
end
theorem slot_ke : Slot "KeyError" "__init__" "KeyError.__init__" := .of (owner := "KeyError") (n := "__init__") (by rw [typeLookup_type, builtinLookup_eq_fast]; kernel_rfl) (by decide +kernel) (by decide +kernel) (by decide +kernel)
    (by first | exact .inl (by decide +kernel) | exact .inr (by decide +kernel)) (by rw [isSubtype_type]; kernel_rfl)
theorem entry_ke : entryFor table "KeyError.__init__" = some Builtin.«BaseException.__init__» := entryFor_alias (id' := "BaseException.__init__") (by rw [fastTable_eq_tree]; kernel_rfl) (by first | rfl | decide +kernel) (by decide +kernel) (by rw [fastTable_eq_tree]; kernel_rfl)
theorem split_ke : splitId "KeyError.__init__" = some ("KeyError", "__init__") := by kernel_rfl
theorem kind_ke : builtinKind "KeyError.__init__" = some .slot := by kernel_rfl
theorem row_ke : Manifest.signature? "KeyError.__init__" = some ⟨.positional, "*", "KeyError", .self, [⟨"args", .varPos, false⟩]⟩ := by kernel_rfl
section
variable {prog : Program} {w : World} {A : Around} {E : Value → Shared → Prop} {R : Result → Shared → Prop} {h : Heap} {g : Array GenState} {d : Drawn} {t : Nat} {os : OsState}
variable {nm q : Str} {C N : Addr} {bs bm bmB : List Value} {hdct : Bool} {sn : List Str} {sub : List Value} {ab : Bool} {col : Option Bool} {dd : Option Addr} {k0 k1 k2 k3 k5 : Option Value} {B newId initId : String}
theorem init_ke (cB : (Value.ref C :: bm).contains (.type "KeyError") = true) {e t0 : Addr} {rest : List Value}
    (hC : h.get? C = some (excClassObj nm q C N bs bm hdct sn sub ab col dd k0 k1 k2 k3 k5 newId)) (he : h.get? e = some (excO C t0)) (hrest : rest.length ≤ sizeLine)
    (hq : ∀ h' t1, (∀ b o, b ≠ e → h.get? b = some o → h'.get? b = some o) → h'.get? e = some (excO C t1) → R (.ok (.ret .none)) ⟨h', g, d, t, os⟩) :
    codeAny (model prog w) A (.call (.builtin "KeyError.__init__") ⟨.ref e :: rest, []⟩) R ⟨h, g, d, t, os⟩ := by
  have chk : ∀ {Q : Unit → Shared → Prop} {E : Value → Shared → Prop} {A : Around}, Q () ⟨h, g, d, t, os⟩ → wpAny (model prog w) A (checkBuiltinCall "KeyError.__init__" ⟨.ref e :: rest, []⟩) Q E ⟨h, g, d, t, os⟩ := by
    intro Q E A hq
    have hshort : ("KeyError" != "*") = true := by decide +kernel
    simp only [checkBuiltinCall, kind_ke, split_ke, row_ke]
    repeat (first | with_reducible refine wpAny_loadPart_at he ?_ | with_reducible refine wpAny_loadPart_at hC ?_ | (with_reducible refine wpAny_isSubtype_exc hC ?_; rw [cB]) | wp_step)
    refine wpAny_onRaise ?_
    rw [show ∀ (a b : String) (n : Nat), Bind.check ⟨.positional, "*", "KeyError", .self, [⟨"args", .varPos, false⟩]⟩ a b n (List.map (fun x => x.fst) ({ pos := Value.ref e :: rest } : Args).kw) = pure () from
      fun a b n => check_star_args _ _ _ _ _ _]
    exact wpAny_pure hq
  refine codeAny_call_builtin slot_ke.plain entry_ke (chk ?_)
  wp_walk
  refine hq _ h.objs.size (fun b o hb ho => ?_) ?_
  · rw [Heap.get?_update_other _ _ (Ne.symm hb)]
    exact Heap.get?_push_of_some _ ho
  · rw [Heap.get?_update_self _ (Heap.get?_push_of_some _ he) rfl]
    rfl
end
end DL
/-! DL37: own exceptions: __init__ of the base, fields, the call of the class. -/
namespace DL
open PySem L2 PySem.Spec PyProof.Rows PySem.HandSPX
/-- what is known of a built-in exception class under own ones -/
structure Bas (newId initId : String) (bmB : List Value) : Prop where
  call : ∀ {prog : Program} {w : World} {A : Around} {R : Result → Shared → Prop} {h : Heap} {g : Array GenState} {d : Drawn} {t : Nat} {os : OsState} {nm q : Str} {C N : Addr} {bs bm : List Value} {hdct : Bool} {sn : List Str} {sub : List Value} {ab : Bool} {col : Option Bool} {dd : Option Addr} {k0 k1 k2 k3 k5 : Option Value} {rest : List Value} {kw : List (Str × Value)} {fI : Addr},
    (∀ X : String, bm.contains (.type X) = bmB.contains (.type X)) → h.get? C = some (excClassObj nm q C N bs bm hdct sn sub ab col dd k0 k1 k2 k3 k5 newId) →
    PySem.W.Looks (model prog w) h (typeLookup (.ref C) "__init__") (some (.ref fI)) → (∀ self, PySem.W.Looks (model prog w) h (bindSpecial (.ref fI) self) (.ref fI, [self])) → rest.length ≤ sizeLine →
    codeAny (model prog w) (A.under (.builtin "type.__call__" ⟨.ref C :: rest, kw⟩)) (.call (.ref fI) ⟨.ref (h.objs.size + 1) :: rest, kw⟩) (PySem.W.InitBack (h.objs.size + 1) R) ⟨(h.push (PySem.W.kdv_tup rest)).push (excO C h.objs.size), g, d, t, os⟩ →
    codeAny (model prog w) A (.call (.ref C) ⟨rest, kw⟩) R ⟨h, g, d, t, os⟩
  init : ∀ {prog : Program} {w : World} {A : Around} {R : Result → Shared → Prop} {h : Heap} {g : Array GenState} {d : Drawn} {t : Nat} {os : OsState} {nm q : Str} {C N : Addr} {bs bm : List Value} {hdct : Bool} {sn : List Str} {sub : List Value} {ab : Bool} {col : Option Bool} {dd : Option Addr} {k0 k1 k2 k3 k5 : Option Value} {rest : List Value} {e t0 : Addr},
    (∀ X : String, bm.contains (.type X) = bmB.contains (.type X)) → h.get? C = some (excClassObj nm q C N bs bm hdct sn sub ab col dd k0 k1 k2 k3 k5 newId) → h.get? e = some (excO C t0) → rest.length ≤ sizeLine →
    (∀ h' t1, (∀ b o, b ≠ e → h.get? b = some o → h'.get? b = some o) → h'.get? e = some (excO C t1) → R (.ok (.ret .none)) ⟨h', g, d, t, os⟩) →
    codeAny (model prog w) A (.call (.builtin initId) ⟨.ref e :: rest, []⟩) R ⟨h, g, d, t, os⟩
  st : ∃ B, StoreFacts B bmB "object.__setattr__" "object"
abbrev rtTail : List Value := [.type "RuntimeError", .type "Exception", .type "BaseException", .type "object"]
theorem has_of {C : Addr} {bm bmB : List Value} {x : String} {b : Bool} (e : bmB.contains (.type x) = b) (hT : ∀ X : String, bm.contains (.type X) = bmB.contains (.type X)) : (Value.ref C :: bm).contains (.type x) = b := by
  rw [List.contains_cons, hT, e]
  cases b <;> rfl
theorem bas_VE : Bas "ValueError.__new__" "ValueError.__init__" veTail := ⟨fun hT hC hi hb hr hq => call2 F.excBase_ValueError (has_of F.excBase_ValueError.hasB hT) (has_of F.excBase_ValueError.noAttr hT) (has_of F.excBase_ValueError.noName hT) hC hi hb hr hq, fun hT hC he hr hq => init_base F.excBase_ValueError hT hC he hr hq, _, F.store_ValueError⟩
theorem bas_RT : Bas "RuntimeError.__new__" "RuntimeError.__init__" rtTail := ⟨fun hT hC hi hb hr hq => call2 F.excBase_RuntimeError (has_of F.excBase_RuntimeError.hasB hT) (has_of F.excBase_RuntimeError.noAttr hT) (has_of F.excBase_RuntimeError.noName hT) hC hi hb hr hq, fun hT hC he hr hq => init_base F.excBase_RuntimeError hT hC he hr hq, _, F.store_RuntimeError⟩
theorem bas_KE : Bas "LookupError.__new__" "KeyError.__init__" keTail :=
  ⟨fun hT hC hi hb hr hq => call2 F.excBase_LookupError (has_of (by decide +kernel) hT) (has_of (by decide +kernel) hT) (has_of (by decide +kernel) hT) hC hi hb hr hq,
   fun hT hC he hr hq => init_ke (has_of (by decide +kernel) hT) hC he hr hq, _, store_KeyError⟩
/-- an own exception class over a built-in one whose __init__ is initId -/
structure OexG (K : PySem.W.Frag) (C : Addr) (initId : String) : Prop where
  ex : ∃ newId bmB, Bas newId initId bmB ∧ PySem.W.excInitIn K C bmB newId = true ∧ PySem.W.excOver K C bmB = true
  hd : PySem.W.hasDictIn K C = true
  sa : PySem.W.findIn K (.ref C) "__setattr__" = some (some (.builtin "object.__setattr__"))
  exC : PySem.W.subIn K (.ref C) (.type "BaseException") = some true
  tyC : PySem.W.typeIn K (.ref C) = some (.type "type")
  kC : PySem.W.keepIn K (.ref C) = true
section
open Builtin Builtin.ObjectAttr
variable {prog : Program} {w : World} {A : Around} {E : Value → Shared → Prop} {R : Result → Shared → Prop} {hp : Heap} {g : Array GenState} {d : Drawn} {t : Nat} {os : OsState} {K : PySem.W.Frag} {name : Str} {tk : Tok} {v : Value} {x C dx : Addr} {fv : Array Value} {i : String}
theorem osaG_new (T : OexG K C i) (X : K.In hp) (hx : hp.get? x = some { cls := .ref C, data := .fields fv }) (ha : PySem.W.findIn K (.ref C) name = some none)
    (hq : ∀ h' tk' dx, (∀ b o, b ≠ x → hp.get? b = some o → h'.get? b = some o) → hp.objs.size ≤ dx → dx ≠ x → h'.get? x = some { cls := .ref C, dict := some dx, data := .fields fv } →
      h'.Ns1 dx (fun y => if y = name then some v else none) → R (.ok (.ret .none)) ⟨h', g, d, tk', os⟩) :
    codeAny (model prog w) A (.call (.builtin "object.__setattr__") ⟨[.ref x, .str name tk, v], []⟩) R ⟨hp, g, d, t, os⟩ := by
  obtain ⟨newId, bmB, B, qi, qo⟩ := T.ex
  obtain ⟨Bn, SF⟩ := B.st
  obtain ⟨cd, hcd, hh⟩ := PySem.W.any_some T.hd
  have hxs : x ≠ hp.objs.size := Nat.ne_of_lt (Heap.lt_size hx)
  have I : PySem.W.InstAt hp x { cls := .ref C, data := .fields fv } C none := ⟨hx, rfl, rfl, trivial⟩
  have hcls : PySem.W.Looks (model prog w) hp (classData C) cd := PySem.W.looks_clsIn X hcd
  refine PySem.W.osa_openX (s := ⟨hp, g, d, t, os⟩) SF X I qo (r := none) (by unfold PySem.W.takerIn; rw [ha]; rfl) fun b => ?_
  show wpAny _ _ (storeInOwnDict (.ref x) (.ref C) (.str name tk) name v b) _ _ _
  obtain ⟨nm, bs, mro, ns, qn, hd, sn, sb, ab, col, del⟩ := cd
  dsimp only at hh
  subst hh
  unfold storeInOwnDict ownDictForStores
  repeat (first | with_reducible refine store_in_new ?_ ?_ | with_reducible refine wpAny_loadPart_at hx ?_ | with_reducible refine hcls.at ?_ | wp_step)
  · exact ⟨_, #[], _, (Heap.get?_update_ne _ _ _ _ hxs.symm).trans (Heap.get?_push_at rfl rfl), rfl, fun e he => absurd he (by simp), fun _ => rfl⟩
  · intro h' tk' hn' hs
    have hx₁ : (hp.push { cls := .type "dict", data := .dict #[] }).get? x = some { cls := .ref C, data := .fields fv } := Heap.get?_push_of_some _ hx
    refine hq h' tk' hp.objs.size (fun b o hb ho => ?_) (Nat.le_refl _) hxs.symm ?_ hn'
    · exact (hs.2 b (Nat.ne_of_lt (Heap.lt_size ho))).trans ((Heap.get?_update_ne _ _ _ _ hb).trans (Heap.get?_push_of_some _ ho))
    · exact (hs.2 x hxs).trans (Heap.get?_update_self _ hx₁ rfl)
theorem osaG_old {m0 : Str → Option Value} {nl : List Str} (T : OexG K C i) (X : K.In hp) (hx : hp.get? x = some { cls := .ref C, dict := some dx, data := .fields fv }) (hns : hp.Ns1 dx m0) (hw : Within m0 nl) (hz : nl.length ≤ 1000) (ha : PySem.W.findIn K (.ref C) name = some none)
    (hq : ∀ h' tk', (∀ b o, b ≠ dx → hp.get? b = some o → h'.get? b = some o) → h'.Ns1 dx (fun y => if y = name then some v else m0 y) → R (.ok (.ret .none)) ⟨h', g, d, tk', os⟩) :
    codeAny (model prog w) A (.call (.builtin "object.__setattr__") ⟨[.ref x, .str name tk, v], []⟩) R ⟨hp, g, d, t, os⟩ := by
  obtain ⟨newId, bmB, B, qi, qo⟩ := T.ex
  obtain ⟨Bn, SF⟩ := B.st
  obtain ⟨cd, hcd, hh⟩ := PySem.W.any_some T.hd
  obtain ⟨oD, esD, epD, hoD, hdD, _⟩ := hns.count hw
  have I : PySem.W.InstAt hp x { cls := .ref C, dict := some dx, data := .fields fv } C (some oD) := ⟨hx, rfl, rfl, hoD⟩
  have hcls : PySem.W.Looks (model prog w) hp (classData C) cd := PySem.W.looks_clsIn X hcd
  refine PySem.W.osa_openX (s := ⟨hp, g, d, t, os⟩) SF X I qo (r := none) (by unfold PySem.W.takerIn; rw [ha]; rfl) fun b => ?_
  show wpAny _ _ (storeInOwnDict (.ref x) (.ref C) (.str name tk) name v b) _ _ _
  obtain ⟨nm, bs, mro, ns, qn, hd, sn, sb, ab, col, del⟩ := cd
  dsimp only at hh
  subst hh
  unfold storeInOwnDict ownDictForStores
  repeat (first | with_reducible refine PySem.OEX.store_in_old hns hw hz ?_ | with_reducible refine wpAny_loadPart_at hx ?_ | with_reducible refine hcls.at ?_ | wp_step)
  intro h' tk' hn' hs
  exact hq h' tk' (fun b o hb ho => (hs.2 b hb).trans ho) hn'
end
section
variable {X : Cx} {pins : List (Addr × Obj)} {σ : L2.St} {H : Hp} {s : Shared} {a C dx : Addr} {f : Str} {y : V} {u : Value} {fs : List (Str × V)} {Q : Unit → Shared → Prop} {E : Value → Shared → Prop} {A : Around} {i : String}
theorem ostG_new (T : OexG X.K C i) (I : Inv X pins σ H s) (e : H a = some (exo a C none)) (hno : PySem.W.findIn X.K (.ref C) f = some none) (ry : RelV y u)
    (h : ∀ dx s', H dx = none → dx ≠ a → Inv X pins σ (upd (upd H dx (exd dx [(f, y)])) a (exo a C (some dx))) s' → Q () s') : wpAny (model X.prog X.w) A (setAttr (.ref a) f u) Q E s := by
  obtain ⟨t1, ho⟩ := exo_at I.hok e
  obtain ⟨hp, g, d, t, os⟩ := s
  refine PySem.W.set_plain I.kIn (ox := { cls := .ref C, dict := none, data := .fields #[.ref t1, .none, .none, .none, .bool false, .none] }) (od := none) ⟨ho, rfl, rfl, trivial⟩ T.sa ?_
  refine osaG_new T I.kIn ho hno (fun h' tk' dx k dn dne hx hn => ?_)
  have hnd : H dx = none := I.hok.fresh dn
  have nd : ∀ {b : Addr} {o : Obj}, hp.get? b = some o → b ≠ dx := fun {b o} q => Nat.ne_of_lt (Nat.lt_of_lt_of_le (Heap.lt_size q) dn)
  have na : ∀ {b : Addr}, H b = none → b ≠ a := fun {b} n z => by
    rw [z, e] at n
    cases n
  have Un1 : Un X.fs [] H (upd (upd H dx (exd dx [(f, y)])) a (exo a C (some dx))) hp h' := {
    keep := fun b o q n _ _ => k b o (na n) q
    slot := fun b o q n _ _ => ⟨o.slots, k b o (na n) q⟩
    free := fun b o q n _ => by rw [upd_ne (na n), upd_ne (nd q)]; exact n
    there := fun b o q _ => by
      by_cases hb : b = a
      · exact ⟨_, by rw [hb]; exact hx⟩
      · exact ⟨o, k b o hb q⟩
    tups := fun b xs q => by rw [upd_ne (at_ne e q exo_tup), upd_ne (ne_of_none q hnd)]; exact q
    frzs := fun b o v q => by rw [upd_ne (at_ne e q exo_frz), upd_ne (ne_of_none q hnd)]; exact q
    tbls := fun b ps q => ⟨#[], by rw [upd_ne (at_ne e q exo_tbl), upd_ne (ne_of_none q hnd), q]; simp⟩ }
  refine h dx _ hnd dne (I.un (t' := tk') Un1 fun b o q => ?_)
  by_cases hb : b = a
  · subst hb
    rw [upd_same] at q
    cases q
    exact exo_ok hx
  · rw [upd_ne hb] at q
    by_cases hd : b = dx
    · subst hd
      rw [upd_same] at q
      cases q
      exact exd_ok hn (relO_put (fs := []) ry fun g => True.intro)
    · rw [upd_ne hd] at q
      exact (I.hok b o q).stay (fun c v hc z => k c v (by
          rcases hc with hc | hc
          · rw [hc]
            exact hb
          · exact at_ne e hc exo_own) z)
        (fun c hc => by rw [upd_ne (at_ne e hc exo_own), upd_ne (ne_of_none hc hnd)]; exact hc) (fun c xs hc => by rw [upd_ne (at_ne e hc exo_tup), upd_ne (ne_of_none hc hnd)]; exact hc)
theorem ostG_old (T : OexG X.K C i) (I : Inv X pins σ H s) (e : H a = some (exo a C (some dx))) (ed : H dx = some (exd dx fs)) (hl : fs.length ≤ 900) (hno : PySem.W.findIn X.K (.ref C) f = some none) (ry : RelV y u)
    (h : ∀ s', Inv X pins σ (upd H dx (exd dx ((f, y) :: fs))) s' → Q () s') : wpAny (model X.prog X.w) A (setAttr (.ref a) f u) Q E s := by
  obtain ⟨t1, ho⟩ := exo_at I.hok e
  obtain ⟨mA, hns, rel⟩ := exd_at I.hok ed
  have hw := within_of rel
  obtain ⟨hp, g, d, t, os⟩ := s
  obtain ⟨oD, _, _, hoD, _, _⟩ := hns.count hw
  refine PySem.W.set_plain I.kIn (ox := { cls := .ref C, dict := some dx, data := .fields #[.ref t1, .none, .none, .none, .bool false, .none] }) (od := some oD) ⟨ho, rfl, rfl, hoD⟩ T.sa ?_
  refine osaG_old T I.kIn ho hns hw (by rw [List.length_map]; omega) hno (fun h' tk' k hn => ?_)
  have hd : ∃ o, h'.get? dx = some o := by
    obtain ⟨o, _, _, e', _⟩ := hn
    exact ⟨o, e'⟩
  exact h _ (I.write (t' := tk') (x := dx) (e := dx) (o := exd dx ((f, y) :: fs)) (by rw [ed]; exact True.intro) (.inl rfl) k hd (exd_ok hn (relO_put ry rel)))
theorem oinitG {us : List Value} {Q : Value → Shared → Prop} (T : OexG X.K C i) (I : Inv X pins σ H s) (e : H a = some (exo a C none)) (hl : us.length ≤ sizeLine) (h : ∀ s', Inv X pins σ H s' → Q .none s') :
    wpAny (model X.prog X.w) A (call (.builtin i) (.ref a :: us)) Q E s := by
  obtain ⟨newId, bmB, B, qi, qo⟩ := T.ex
  obtain ⟨nm, N, q, bs, bm, hdct, sn, sub, ab, col, dd, k0, k1, k2, k3, k5, hC, hT⟩ := PySem.W.excInit_of I.kIn qi
  obtain ⟨t1, ho⟩ := exo_at I.hok e
  obtain ⟨hp, g, d, t, os⟩ := s
  refine wpAny_call (B.init hT hC ho hl fun h' t2 k hx => ?_)
  have J := I.write (t' := t) (x := a) (e := a) (o := exo a C none) (by rw [e]; exact True.intro) (.inl rfl) k ⟨_, hx⟩ (exo_ok hx)
  have eu : upd H a (exo a C none) = H := by
    funext b
    by_cases hb : b = a
    · rw [hb, upd_same, e]
    · rw [upd_ne hb]
  rw [eu] at J
  exact h _ J
end
end DL
/-! DL38: the __init__ of an own exception class, and the class called. -/
namespace DL
open PySem L2 PySem.Spec PyProof.Rows PySem.HandSPX
/-- bv.__init__ is the built-in i -/
def GMi (X : Cx) (bv : Value) (i : String) : Prop := ∀ (pins : List (Addr × Obj)) (σ : L2.St) (H : Hp) (s : Shared) (pl : Sem Bool) (A : Around) (Q : Value × List Value → Shared → Prop) (E : Value → Shared → Prop), Inv X pins σ H s → Q (.builtin i, []) { s with toks := s.toks + 1 } → wpAny (model X.prog X.w) A (getMethod bv "__init__" pl) Q E s
theorem gm_type {X : Cx} {T i : String} (e : PySem.W.findCls X.K (.type T) (.type "type") "__init__" = some (.val (.builtin i))) (ht : typeOf (.type T) = pure (.type "type") := by kernel_rfl) (hs : Manifest.isStub T = false := by decide +kernel) (hh : PySem.W.handedIn (.builtin i) = true := by decide +kernel) : GMi X (.type T) i := by
  intro pins σ H s pl A Q E I h
  obtain ⟨m, fr⟩ := I.fr
  exact PySem.W.method_type fr I.ok.mod.kin ht hs e hh h
theorem gm_own {X : Cx} {B : Addr} {i : String} (hg : PySem.W.specialIn X.K (.ref B) "__getattribute__" = some (some (.builtin "type.__getattribute__"))) (hr : PySem.W.readsIn X.K B (.type "type") = true) (e : PySem.W.findCls X.K (.ref B) (.type "type") "__init__" = some (.val (.builtin i))) (hh : PySem.W.handedIn (.builtin i) = true := by decide +kernel) : GMi X (.ref B) i := by
  intro pins σ H s pl A Q E I h
  exact PySem.W.method_cls I.kIn hg (PySem.W.cls_value I.kIn hr e hh h)
def tInit (K : PySem.W.Frag) (i : String) (ta : TA) : TE := fun σ H Q => ta σ H fun vs H1 => ∃ (a C : Addr) (ws : List V), vs = .ref a :: ws ∧ ws.length ≤ 1000 ∧ OexG K C i ∧ H1 a = some (exo a C none) ∧ Q .non H1
def tOstG (K : PySem.W.Frag) (i : String) (f : Str) (to te : TE) : TS := fun D σ H => te σ H fun y H1 => to σ H1 fun x H2 => ∃ a C : Addr, x = .ref a ∧ OexG K C i ∧ PySem.W.findIn K (.ref C) f = some none ∧
  ((H2 a = some (exo a C none) ∧ ∀ dx, H2 dx = none → dx ≠ a → D.nx σ (upd (upd H2 dx (exd dx [(f, y)])) a (exo a C (some dx)))) ∨
    ∃ (dx : Addr) (fs : List (Str × V)), H2 a = some (exo a C (some dx)) ∧ H2 dx = some (exd dx fs) ∧ fs.length ≤ 900 ∧ D.nx σ (upd H2 dx (exd dx ((f, y) :: fs))))
section
variable {X : Cx} {o e : Expr} {es : List Expr} {to te : TE} {ta : TA} {f x : Str} {p p' p1 p2 pos : Pos} {i : String} {bv : Value}
theorem pe_initG {pl : Sem Bool} (hn : Names X x bv) (gm : GMi X bv i) (ha : PA X (e :: es) ta)
    (hc : eval (.Call (.Attribute (.Name x p1) "__init__" p2) (e :: es) [] pos) X.env = (do
      let ov ← eval (.Name x p1) X.env
      standAt p2.atName
      let (f, first) ← holding [ov] (getMethod ov "__init__" pl)
      callWith pos f first (backTo pos (starEach (e :: es) X.env)) (backToKw pos (keywordEach [] X.env))) := by rfl)
    (he : starEach (e :: es) X.env = (false, eval e X.env) :: starEach es X.env := by rfl) (hpl : (backTo pos (starEach es X.env)).any (·.1) = false := by rfl) :
    PE X (.Call (.Attribute (.Name x p1) "__init__" p2) (e :: es) [] pos) (tInit X.K i ta) := by
  refine ⟨fun pins s σ H Q I h => ?_⟩
  have go : wpAny (model X.prog X.w) X.A (getMethod bv "__init__" pl) (fun fx s₂ => wpAny (model X.prog X.w) X.A (callWith pos fx.1 fx.2 (backTo pos (starEach (e :: es) X.env)) (backToKw pos (keywordEach [] X.env))) (EP X pins σ Q) X.xe s₂) X.xe s := by
    refine gm pins σ H s pl X.A _ X.xe I ?_
    show wpAny _ _ (callWith pos (Value.builtin i) [] (backTo pos (starEach (e :: es) X.env)) []) _ _ _
    refine PyProof.Rows.callWith_method1 (thn (ha.run pos pins _ σ H _ (I.tok _) h) fun us s1 ⟨vs, H1, I1, r1, a, C, ws, ev, hl, T, ea, q⟩ => ?_) he hpl
    subst ev
    cases r1 with
    | @cons _ u0 _ ur ra rw' =>
      obtain rfl : u0 = Value.ref a := ra
      have hlen : ur.length ≤ sizeLine := by
        rw [← Paired.length rw', sizeLine_eq]
        omega
      exact oinitG T I1 ea hlen fun s' J => ⟨.non, H1, J, rfl, q⟩
  obtain ⟨hg, hdb, hm | ⟨hm, hv, hnn⟩⟩ := hn
  · exact PySem.W.methodCall_KW (ld_glob I hg hm go hdb) hc
  · exact PySem.W.methodCall_KW (ld_blt I hg hm hv go hnn hdb) hc
theorem ps_ostG (ho : PE X o to) (he : PE X e te) (hs : swapsWith e (some (.Attribute o f p')) pos.line X.env = pure false := by rfl) : PS X (.Assign [.Attribute o f p'] e pos) (tOstG X.K i f to te) := by
  refine ⟨fun pins s σ H D I h => ?_⟩
  refine plainObj_wpAny_Assign_Attribute (thn (he.run pins s σ H _ I h) fun v s1 ⟨y, H1, I1, r1, q1⟩ => thn (ho.run pins s1 σ H1 _ I1 q1) fun u s2 ⟨x, H2, I2, r2, a, C, ex, T, hno, q⟩ => ?_) hs
  subst ex
  obtain rfl : u = Value.ref a := r2
  rcases q with ⟨ea, q⟩ | ⟨dx, fs, ea, ed, hl, q⟩
  · exact ostG_new T I2 ea hno r1 fun dx s' n ne J => ⟨σ, _, J, q dx n ne⟩
  · exact ostG_old T I2 ea ed hl hno r1 fun s' J => ⟨σ, _, J, q⟩
end
/-! ### what such an __init__ keeps -/
/-- no field; one; two -/
def sp0 (C : Addr) : Sp := fun vs H Q _ => ∃ a, vs = [.ref a] ∧ H a = some (exo a C none) ∧ Q .non H
def sp1 (C : Addr) (f : Str) : Sp := fun vs H Q _ => ∃ a y, vs = [.ref a, y] ∧ H a = some (exo a C none) ∧ ∀ dx, H dx = none → dx ≠ a → Q .non (upd (upd H dx (exd dx [(f, y)])) a (exo a C (some dx)))
def sp2 (C : Addr) (f g : Str) : Sp := fun vs H Q _ => ∃ a y z, vs = [.ref a, y, z] ∧ H a = some (exo a C none) ∧ ∀ dx, H dx = none → dx ≠ a → Q .non (upd (upd (upd H dx (exd dx [(f, y)])) a (exo a C (some dx))) dx (exd dx [(g, z), (f, y)]))
theorem sp0_len {C : Addr} : ∀ vs H Q E, sp0 C vs H Q E → vs.length = 1 := fun _ _ _ _ ⟨_, e, _⟩ => by rw [e]; rfl
theorem sp1_len {C : Addr} {f : Str} : ∀ vs H Q E, sp1 C f vs H Q E → vs.length = 2 := fun _ _ _ _ ⟨_, _, e, _⟩ => by rw [e]; rfl
theorem sp2_len {C : Addr} {f g : Str} : ∀ vs H Q E, sp2 C f g vs H Q E → vs.length = 3 := fun _ _ _ _ ⟨_, _, _, e, _⟩ => by rw [e]; rfl
section
variable {P : Program} {w : World} {K : PySem.W.Frag} {mg : Str → Option Value} {base : Heap} {CX : CXT}
variable {B m f g p1 p2 : Str} {bv : Value} {i : String} {C : Addr} {j : Nat} {a1 a2 a3 a4 a5 a6 a7 a8 a9 b5 b6 b7 b8 : Pos}
/-- the call of the base's __init__ -/
abbrev bodyI (B m : Str) (j : Nat) (a1 a2 a3 a4 a5 a6 : Pos) : Stmt := .Expr (.Call (.Attribute (.Name B a1) "__init__" a2) [.Name "self" a3, .Constant (.str m) j a4] [] a5) a6
abbrev bodyF (f p : Str) (a1 a2 a3 a4 : Pos) : Stmt := .Assign [.Attribute (.Name "self" a1) f a2] (.Name p a3) a4
end
end DL
/-! DL39: an own exception class called. -/
namespace DL
open PySem L2 PySem.Spec PyProof.Rows PySem.HandSPX
/-- where the making ends -/
def EndG (C a : Addr) (H1 H2 : Hp) (Q : XK) : Prop := (H2 = upd H1 a (exo a C none) ∧ Q (.ref C) none H1) ∨
  ∃ (d : Addr) (fs : List (Str × V)), H2 a = some (exo a C (some d)) ∧ H2 d = some (exd d fs) ∧ H1 d = none ∧ Q (.ref C) (some d) (upd (del H2 a) d (.xd fs))
section
variable {X : Cx} {pins : List (Addr × Obj)} {σ : L2.St} {H1 H2 : Hp}
/-- one without fields is let go -/
theorem mk_none {hp hp2 h2 : Heap} {g1 g2 : Array GenState} {d1 d2 : Drawn} {t1 t2 : Nat} {os1 os2 : OsState} {a C : Addr} (I1 : Inv X pins σ H1 ⟨hp, g1, d1, t1, os1⟩)
    (ha : hp.objs.size ≤ a) (k : ∀ b o, hp.get? b = some o → hp2.get? b = some o) (un : Un (frs X.stack) [] (upd H1 a (exo a C none)) (upd H1 a (exo a C none)) hp2 h2) (hok : HOk X.prog X.w (upd H1 a (exo a C none)) h2) (ho : os2 = os1) (hb : AllBare g2) :
    ∃ (t0 : Addr) (G : Heap), Inv X pins σ H1 ⟨G, g2, d2, t2, os2⟩ ∧ (∀ b o, G.get? b = some o → h2.get? b = some o) ∧ G.get? a = none ∧
      h2.get? a = some ({ cls := .ref C, dict := none, data := .fields #[.ref t0, .none, .none, .none, .bool false, .none] } : Obj) ∧ H1 a = none := by
  have ea : upd H1 a (exo a C none) a = some (exo a C none) := upd_same
  obtain ⟨t0, hoe⟩ := exo_at hok ea
  have hn : H1 a = none := I1.hok.fresh ha
  obtain ⟨G, g1', g2'⟩ := restrict h2 fun b => decide (b ≠ a)
  have gk : ∀ b, b ≠ a → G.get? b = h2.get? b := fun b hb => g1' b (decide_eq_true hb)
  have ge : G.get? a = none := g2' a (by simp)
  have nha : ∀ {b : Addr} {o : Obj}, hp.get? b = some o → b ≠ a := fun {b o} z => Nat.ne_of_lt (Nat.lt_of_lt_of_le (Heap.lt_size z) ha)
  have up : ∀ {b : Addr}, b ≠ a → H1 b = none → upd H1 a (exo a C none) b = none := fun {b} hb n => by rw [upd_ne hb]; exact n
  have U : Un (frs X.stack) [] H1 H1 hp G := {
    keep := fun b o z n hf hx => by
      rw [gk b (nha z)]
      exact un.keep b o (k b o z) (up (nha z) n) hf hx
    slot := fun b o z n hf hx => by
      rw [gk b (nha z)]
      exact un.slot b o (k b o z) (up (nha z) n) hf hx
    free := fun b o z n hx => n
    there := fun b o z hx => by
      rw [gk b (nha z)]
      exact un.there b o (k b o z) hx
    tups := fun b xs z => z
    frzs := fun b o v z => z
    tbls := fun b ps z => ⟨#[], by rw [z]; simp⟩ }
  have hok3 : HOk X.prog X.w H1 G := fun b o z => by
    have hba : b ≠ a := ne_of_none z hn
    have noa : ∀ {c : Addr} {o : HO}, H1 c = some o → c ≠ a := fun {c o} hc => ne_of_none hc hn
    refine (hok b o (by rw [upd_ne hba]; exact z)).stay (fun c v hc y => ?_) (fun c hc => ?_) (fun c xs hc => ?_)
    · have hca : c ≠ a := by
        rcases hc with hc | hc
        · rw [hc]
          exact hba
        · exact at_ne ea hc exo_own
      rw [gk c hca]
      exact y
    · rw [upd_ne (at_ne ea hc exo_own)] at hc
      exact hc
    · rw [upd_ne (at_ne ea hc exo_tup)] at hc
      exact hc
  have J : Inv X pins σ H1 ⟨G, g2, d2, t2, os2⟩ := I1.call' (ch := []) ho U hok3 hb (fun b z => absurd z (by simp))
  refine ⟨t0, G, J, fun b o z => ?_, ge, hoe, hn⟩
  by_cases hba : b = a
  · rw [hba, ge] at z
    cases z
  · exact (gk b hba).symm.trans z
theorem run_oex {k : Nat} {C fI : Addr} {fd : FuncData} {ps : List Str} {sp : Sp} {i : String} {s1 : Shared} {us : List Value} {vs : List V} {Q : XK} (T : OexG X.K C i) (iC : PySem.W.findIn X.K (.ref C) "__init__" = some (some (.ref fI))) (tI : PySem.W.typeIn X.K (.ref fI) = some (.type "function"))
    (F1 : FnOk X.prog X.w X.K X.mg X.base (L2.CX X.prog X.w) k fI fd ps sp) (hr : Room (k + 1) X.A) (hb : Binds X.K fd ps []) (I1 : Inv X pins σ H1 s1) (r1 : Vals vs us) (hz : vs.length ≤ 1000)
    (q1 : ∀ a, H1 a = none → sp (.ref a :: vs) (upd H1 a (exo a C none)) (fun v H2 => v = .non ∧ EndG C a H1 H2 Q) (fun _ _ _ => False)) : wpAny (model X.prog X.w) X.A (call (.ref C) us) (MkP X pins σ Q) X.xe s1 := by
  obtain ⟨newId, bmB, B, qi, qo⟩ := T.ex
  obtain ⟨nm, N, q, bs, bm, hdct, sn, sub, ab, col, dd, k0, k1, k2, k3, k5, hC, hT⟩ := PySem.W.excInit_of I1.kIn qi
  obtain ⟨hp, g, dr, tk, os⟩ := s1
  have hsz : hp.objs.size ≤ hp.objs.size + 1 := Nat.le_succ _
  have hn : H1 (hp.objs.size + 1) = none := I1.hok.fresh hsz
  have hq := q1 (hp.objs.size + 1) hn
  have kk : ∀ b o, hp.get? b = some o → ((hp.push (PySem.W.kdv_tup us)).push (excO C hp.objs.size)).get? b = some o := fun b o e => Heap.get?_push_of_some _ (Heap.get?_push_of_some _ e)
  have hget : ((hp.push (PySem.W.kdv_tup us)).push (excO C hp.objs.size)).get? (hp.objs.size + 1) = some (excO C hp.objs.size) := by heap_get
  have I2 : Inv X pins σ (upd H1 (hp.objs.size + 1) (exo (hp.objs.size + 1) C none)) ⟨(hp.push (PySem.W.kdv_tup us)).push (excO C hp.objs.size), g, dr, tk, os⟩ :=
    I1.laid (t' := tk) (a := hp.objs.size + 1) (o := exo (hp.objs.size + 1) C none) (h' := (hp.push (PySem.W.kdv_tup us)).push (excO C hp.objs.size)) kk hsz (exo_ok hget)
  have r2 : Vals (V.ref (hp.objs.size + 1) :: vs) (Value.ref (hp.objs.size + 1) :: us) := .cons rfl r1
  have hl : (Value.ref (hp.objs.size + 1) :: us ++ []).length = ps.length := by
    have e := r2.length
    rw [F1.len _ _ _ _ hq] at e
    rw [List.append_nil]
    exact e.symm
  have hus : us.length ≤ sizeLine := by
    rw [← Paired.length r1, sizeLine_eq]
    omega
  have b := hb ⟨(hp.push (PySem.W.kdv_tup us)).push (excO C hp.objs.size), g, dr, tk, os⟩ (Value.ref (hp.objs.size + 1) :: us) I2.kIn hl
  rw [List.append_nil] at b
  refine wpAny_call (B.call hT hC (PySem.W.looks_findIn I1.kIn iC) (fun self => PySem.W.bind_fn I1.kIn self tI) hus
    (codeAny_mono (F1.run _ X.stack _ _ ⟨Value.ref (hp.objs.size + 1) :: us, []⟩ (Value.ref (hp.objs.size + 1) :: us) _ _ (fun _ _ _ => False) (hr.make C us []) (I2.env0.make C us []) b r2 hq) fun r s' hq' => ?_))
  cases r with
  | error er =>
    obtain ⟨_, _, _, _, _, _, _, _, _, _, _, _, z⟩ := hq'
    exact z.elim
  | ok fl =>
    cases fl with
    | ret u =>
      obtain ⟨v, H2, os2, bare2, un2, hok2, rv, ev, en⟩ := hq'
      subst ev
      obtain ⟨h2, g2, d2, t2, os'⟩ := s'
      rcases en with ⟨rfl, q2⟩ | ⟨d, fs, ea, ed, hd1, q2⟩
      · obtain ⟨t0, G, J, kG, ge, hoe, na⟩ := mk_none (d2 := d2) (t2 := t2) I1 hsz kk un2 hok2 os2 bare2
        exact ⟨rv, _, _, _, ⟨G, g2, d2, t2, os'⟩, H1, .ref C, none, rfl, J, kG, ge, hoe, ⟨rfl, rfl⟩, rfl, rfl, na, rfl, bare2, raises_own T.exC T.tyC, q2⟩
      · exact ⟨rv, mk_end (raises_own T.exC T.tyC) I1 hsz kk un2 hok2 os2 bare2 ea ed hd1 q2⟩
    | next => exact False.elim hq'
    | brk => exact False.elim hq'
    | cont => exact False.elim hq'
theorem run_oexK {k : Nat} {C fI : Addr} {fd : FuncData} {ps : List Str} {sp : Sp} {i : String} {s1 : Shared} {us : List Value} {kw : List (Str × Value)} {Q : XK} (uz : Value → List Value) (vz : V → List V) (T : OexG X.K C i) (iC : PySem.W.findIn X.K (.ref C) "__init__" = some (some (.ref fI))) (tI : PySem.W.typeIn X.K (.ref fI) = some (.type "function"))
    (F1 : FnOk X.prog X.w X.K X.mg X.base (L2.CX X.prog X.w) k fI fd ps sp) (hr : Room (k + 1) X.A) (hb : ∀ (s' : Shared) (a : Addr), X.K.In s'.heap → BindsTo s' fd ⟨.ref a :: us, kw⟩ (ps.zip (uz (.ref a)))) (I1 : Inv X pins σ H1 s1) (r1 : ∀ a : Addr, Vals (vz (.ref a)) (uz (.ref a))) (hz : us.length ≤ sizeLine)
    (q1 : ∀ a, H1 a = none → sp (vz (.ref a)) (upd H1 a (exo a C none)) (fun v H2 => v = .non ∧ EndG C a H1 H2 Q) (fun _ _ _ => False)) : wpAny (model X.prog X.w) X.A (call (.ref C) us kw) (MkP X pins σ Q) X.xe s1 := by
  obtain ⟨newId, bmB, B, qi, qo⟩ := T.ex
  obtain ⟨nm, N, q, bs, bm, hdct, sn, sub, ab, col, dd, k0, k1, k2, k3, k5, hC, hT⟩ := PySem.W.excInit_of I1.kIn qi
  obtain ⟨hp, g, dr, tk, os⟩ := s1
  have hsz : hp.objs.size ≤ hp.objs.size + 1 := Nat.le_succ _
  have hn : H1 (hp.objs.size + 1) = none := I1.hok.fresh hsz
  have hq := q1 (hp.objs.size + 1) hn
  have kk : ∀ b o, hp.get? b = some o → ((hp.push (PySem.W.kdv_tup us)).push (excO C hp.objs.size)).get? b = some o := fun b o e => Heap.get?_push_of_some _ (Heap.get?_push_of_some _ e)
  have hget : ((hp.push (PySem.W.kdv_tup us)).push (excO C hp.objs.size)).get? (hp.objs.size + 1) = some (excO C hp.objs.size) := by heap_get
  have I2 : Inv X pins σ (upd H1 (hp.objs.size + 1) (exo (hp.objs.size + 1) C none)) ⟨(hp.push (PySem.W.kdv_tup us)).push (excO C hp.objs.size), g, dr, tk, os⟩ :=
    I1.laid (t' := tk) (a := hp.objs.size + 1) (o := exo (hp.objs.size + 1) C none) (h' := (hp.push (PySem.W.kdv_tup us)).push (excO C hp.objs.size)) kk hsz (exo_ok hget)
  have b := hb ⟨(hp.push (PySem.W.kdv_tup us)).push (excO C hp.objs.size), g, dr, tk, os⟩ (hp.objs.size + 1) I2.kIn
  refine wpAny_call (B.call hT hC (PySem.W.looks_findIn I1.kIn iC) (fun self => PySem.W.bind_fn I1.kIn self tI) hz
    (codeAny_mono (F1.run _ X.stack _ _ ⟨Value.ref (hp.objs.size + 1) :: us, kw⟩ (uz (.ref (hp.objs.size + 1))) _ _ (fun _ _ _ => False) (hr.make C us kw) (I2.env0.make C us kw) b (r1 _) hq) fun r s' hq' => ?_))
  cases r with
  | error er =>
    obtain ⟨_, _, _, _, _, _, _, _, _, _, _, _, z⟩ := hq'
    exact z.elim
  | ok fl =>
    cases fl with
    | ret u =>
      obtain ⟨v, H2, os2, bare2, un2, hok2, rv, ev, en⟩ := hq'
      subst ev
      obtain ⟨h2, g2, d2, t2, os'⟩ := s'
      rcases en with ⟨rfl, q2⟩ | ⟨d, fs, ea, ed, hd1, q2⟩
      · obtain ⟨t0, G, J, kG, ge, hoe, na⟩ := mk_none (d2 := d2) (t2 := t2) I1 hsz kk un2 hok2 os2 bare2
        exact ⟨rv, _, _, _, ⟨G, g2, d2, t2, os'⟩, H1, .ref C, none, rfl, J, kG, ge, hoe, ⟨rfl, rfl⟩, rfl, rfl, na, rfl, bare2, raises_own T.exC T.tyC, q2⟩
      · exact ⟨rv, mk_end (raises_own T.exC T.tyC) I1 hsz kk un2 hok2 os2 bare2 ea ed hd1 q2⟩
    | next => exact False.elim hq'
    | brk => exact False.elim hq'
    | cont => exact False.elim hq'
end
end DL
/-! DL40: raise C(e, ..). -/
namespace DL
open PySem L2 PySem.Spec PyProof.Rows PySem.HandSPX
def tI0 (K : PySem.W.Frag) (i : String) : TS := fun D σ H => ∃ a C, σ[0]? = some (some (.ref a)) ∧ OexG K C i ∧ H a = some (exo a C none) ∧ D.nx σ H
def tI1 (K : PySem.W.Frag) (i : String) (f : Str) : TS := fun D σ H => ∃ a C y, σ[0]? = some (some (.ref a)) ∧ σ[1]? = some (some y) ∧ OexG K C i ∧ PySem.W.findIn K (.ref C) f = some none ∧ H a = some (exo a C none) ∧ ∀ dx, H dx = none → dx ≠ a → D.nx σ (upd (upd H dx (exd dx [(f, y)])) a (exo a C (some dx)))
def tI2 (K : PySem.W.Frag) (i : String) (f g : Str) : TS := fun D σ H => ∃ a C y z, σ[0]? = some (some (.ref a)) ∧ σ[1]? = some (some y) ∧ σ[2]? = some (some z) ∧ OexG K C i ∧ PySem.W.findIn K (.ref C) f = some none ∧ PySem.W.findIn K (.ref C) g = some none ∧ H a = some (exo a C none) ∧ ∀ dx, H dx = none → dx ≠ a → D.nx σ (upd (upd (upd H dx (exd dx [(f, y)])) a (exo a C (some dx))) dx (exd dx [(g, z), (f, y)]))
section
variable {X : Cx} {B m f g p q : Str} {bv : Value} {i : String} {j : Nat} {a1 a2 a3 a4 a5 a6 b1 b2 b3 b4 c1 c2 c3 c4 : Pos}
theorem pss_init0 {pl : Sem Bool} (hc : eval (.Call (.Attribute (.Name B a1) "__init__" a2) [.Name "self" a3, .Constant (.str m) j a4] [] a5) X.env = (do
      let ov ← eval (.Name B a1) X.env
      standAt a2.atName
      let (f, first) ← holding [ov] (getMethod ov "__init__" pl)
      callWith a5 f first (backTo a5 (starEach [.Name "self" a3, .Constant (.str m) j a4] X.env)) (backToKw a5 (keywordEach [] X.env))) := by rfl) (hn : Names X B bv) (gm : GMi X bv i) (h0 : X.N[0]? = some ("self" : Str)) (v0 : Vis X.env.scope "self") : PSs X [bodyI B m j a1 a2 a3 a4 a5 a6] (tI0 X.K i) :=
  pss_imp (pss_one (ps_expr (pe_initG (i := i) hn gm (pa_cons (pe_var h0 v0) (pa_cons pe_str pa_nil)) hc))) fun D σ H ⟨a, C, e0, T, ea, q⟩ => ⟨.ref a, e0, a, C, [.str m], rfl, by show 1 ≤ 1000; decide, T, ea, q⟩
theorem pss_init1 {pl : Sem Bool} (hc : eval (.Call (.Attribute (.Name B a1) "__init__" a2) [.Name "self" a3, .Constant (.str m) j a4] [] a5) X.env = (do
      let ov ← eval (.Name B a1) X.env
      standAt a2.atName
      let (f, first) ← holding [ov] (getMethod ov "__init__" pl)
      callWith a5 f first (backTo a5 (starEach [.Name "self" a3, .Constant (.str m) j a4] X.env)) (backToKw a5 (keywordEach [] X.env))) := by rfl) (hn : Names X B bv) (gm : GMi X bv i) (h0 : X.N[0]? = some ("self" : Str)) (v0 : Vis X.env.scope "self") (h1 : X.N[1]? = some p) (v1 : Vis X.env.scope p) (d1 : (p == ("__debug__" : Str)) = false) (e1 : (p == ("__classdict__" : Str)) = false) :
    PSs X [bodyI B m j a1 a2 a3 a4 a5 a6, bodyF f p b1 b2 b3 b4] (tI1 X.K i f) :=
  pss_imp (pss_cons (ps_expr (pe_initG (i := i) hn gm (pa_cons (pe_var h0 v0) (pa_cons pe_str pa_nil)) hc)) (pss_one (ps_ostG (i := i) (pe_var h0 v0) (pe_var h1 v1 d1 e1)))) fun D σ H ⟨a, C, y, e0, e1, T, hf, ea, q⟩ =>
    ⟨.ref a, e0, a, C, [.str m], rfl, by show 1 ≤ 1000; decide, T, ea, y, e1, .ref a, e0, a, C, rfl, T, hf, .inl ⟨ea, q⟩⟩
theorem pss_init2 {pl : Sem Bool} (hc : eval (.Call (.Attribute (.Name B a1) "__init__" a2) [.Name "self" a3, .Constant (.str m) j a4] [] a5) X.env = (do
      let ov ← eval (.Name B a1) X.env
      standAt a2.atName
      let (f, first) ← holding [ov] (getMethod ov "__init__" pl)
      callWith a5 f first (backTo a5 (starEach [.Name "self" a3, .Constant (.str m) j a4] X.env)) (backToKw a5 (keywordEach [] X.env))) := by rfl) (hn : Names X B bv) (gm : GMi X bv i) (h0 : X.N[0]? = some ("self" : Str)) (v0 : Vis X.env.scope "self") (h1 : X.N[1]? = some p) (v1 : Vis X.env.scope p) (d1 : (p == ("__debug__" : Str)) = false) (e1 : (p == ("__classdict__" : Str)) = false)
    (h2 : X.N[2]? = some q) (v2 : Vis X.env.scope q) (d2 : (q == ("__debug__" : Str)) = false) (e2 : (q == ("__classdict__" : Str)) = false) :
    PSs X [bodyI B m j a1 a2 a3 a4 a5 a6, bodyF f p b1 b2 b3 b4, bodyF g q c1 c2 c3 c4] (tI2 X.K i f g) :=
  pss_imp (pss_cons (ps_expr (pe_initG (i := i) hn gm (pa_cons (pe_var h0 v0) (pa_cons pe_str pa_nil)) hc)) (pss_cons (ps_ostG (i := i) (pe_var h0 v0) (pe_var h1 v1 d1 e1)) (pss_one (ps_ostG (i := i) (pe_var h0 v0) (pe_var h2 v2 d2 e2)))))
    fun D σ H ⟨a, C, y, z, e0, e1, e2, T, hf, hg, ea, q⟩ =>
    ⟨.ref a, e0, a, C, [.str m], rfl, by show 1 ≤ 1000; decide, T, ea, y, e1, .ref a, e0, a, C, rfl, T, hf, .inl ⟨ea, fun dx hd ne =>
      ⟨z, e2, .ref a, e0, a, C, rfl, T, hg, .inr ⟨dx, [(f, y)], upd_same, by rw [upd_ne ne, upd_same], by show 1 ≤ 900; decide, q dx hd ne⟩⟩⟩⟩
end
/-! ### raise C(e, ..) over data -/
section
variable {K : PySem.W.Frag} {W : Wd} {H : Hp} {μ : Mu} {p : Addr} {o : HO}
theorem beside (ok : Ok K W H μ) (h : H p = none) : Ok K W (upd H p o) μ ∧ Go W H W (upd H p o) := by
  have hp := ok.notio h
  refine ⟨⟨fun a u e => ?_, ok.len, ok.nd, ok.apart, fun l a m e1 e2 => ?_, ⟨tabs_new ok.tab.all h, ok.tab.no⟩⟩, ⟨Le.refl _, fun a u e _ _ => ?_, fun a e => ?_, fun a e => .inl e, fun a u e => .inl e⟩⟩
  · rw [upd_ne (ne_of_none (ok.sub _ _ e) h)]
    exact ok.sub _ _ e
  · exact (ok.cell l a m e1 e2).mono (Le.refl _) fun u e => by
      rw [upd_ne (ne_of_none e h)]
      exact e
  · rw [upd_ne (ne_of_none e h)]
    exact e
  · by_cases z : a = p
    · rw [z]; exact h
    · rw [upd_ne z] at e; exact e
end
def graise (c : Nat) (ns : List Str) (fa : FA) : FS := fun ρ μ => (fa ρ μ).to ρ fun ds μ1 => if ds.length = ns.length then .ex ρ c (ns.zip ds) μ1 else .bad
@[simp] theorem ap_raise (c : Nat) (ns : List Str) (fa : FA) (ρ : En) (μ : Mu) : graise c ns fa ρ μ = (fa ρ μ).to ρ fun ds μ1 => if ds.length = ns.length then .ex ρ c (ns.zip ds) μ1 else .bad := of_eq_true (eq_self _)
theorem seqSA {K : PySem.W.Frag} {E : WX} {fa : FA} {k : List D → Mu → O} {σ : L2.St} {H : Hp} {W : Wd} {ρ : En} {μ : Mu} {Z : Ends} {Q1 : List V → Hp → Prop} (p : postS K E W H ((fa ρ μ).to ρ k) Z) (ok : Ok K W H μ) (en : Envs K W σ ρ)
    (hk : ∀ ds μ1 W1 xs H1, Go W H W1 H1 → Ok K W1 H1 μ1 → Envs K W1 σ ρ → Reps K W1 xs ds → postS K E W1 H1 (k ds μ1) Z → Q1 xs H1) : rA K E fa σ H Q1 := by
  refine ⟨W, ρ, μ, ok, en, ?_⟩
  revert p
  cases h : fa ρ μ with
  | ok ds μ1 => exact fun p W1 x H1 g o r => hk ds μ1 W1 x H1 g o (en.mono g.le) r (postS.mono g p)
  | ex c fs μ1 => exact fun p W' H' d g o r => p W' σ H' d g o (en.mono g.le) r
  | bad => exact fun p => p
section
variable {X : Cx} {E : WX} {k c : Nat} {fI : Addr} {fd : FuncData} {ps : List Str} {i : String} {x f g : Str} {p pos pos' : Pos} {e : Expr} {es : List Expr} {fa : FA}
theorem ds_raise0 (T : OexG X.K (cl X.K c) i) (iC : PySem.W.findIn X.K (.ref (cl X.K c)) "__init__" = some (some (.ref fI))) (tI : PySem.W.typeIn X.K (.ref fI) = some (.type "function"))
    (F1 : FnOk X.prog X.w X.K X.mg X.base (L2.CX X.prog X.w) k fI fd ps (sp0 (cl X.K c))) (hb : Binds X.K fd ps []) (C : Cal X E (k + 1)) (hm : X.mg x = some (.ref (cl X.K c))) (hc : X.calm = true := by rfl) (hg : Gl X x := by rfl) (hdb : (x == ("__debug__" : Str)) = false := by decide) :
    DS X E (.Raise (some (.Call (.Name x p) [] [] pos)) none pos') (graise c [] aNil) := by
  have pm : PMk X (.Call (.Name x p) [] [] pos) (fun σ H Q => Q (.ref (cl X.K c)) none H) := fun pins s σ H Q I q => by
    refine wpAny_Call_Name_kw (ld_glob I hg hm ?_ hdb)
    exact PySem.W.callWith_K0 I.kIn T.kC (run_oex (us := []) (vs := []) T iC tI F1 C.room hb I .nil (by show 0 ≤ 1000; decide) fun a ha => ⟨a, rfl, upd_same, rfl, .inl ⟨rfl, q⟩⟩)
  refine ps_imp (ps_raise hc C.take pm) fun Z σ H ⟨W, ρ, μ, ok, en, p⟩ => ?_
  exact p W σ H none (Go.refl _ _) ok en (.inl ⟨rfl, rfl⟩)
theorem ds_raise1 (T : OexG X.K (cl X.K c) i) (iC : PySem.W.findIn X.K (.ref (cl X.K c)) "__init__" = some (some (.ref fI))) (tI : PySem.W.typeIn X.K (.ref fI) = some (.type "function"))
    (F1 : FnOk X.prog X.w X.K X.mg X.base (L2.CX X.prog X.w) k fI fd ps (sp1 (cl X.K c) f)) (hb : Binds X.K fd ps []) (C : Cal X E (k + 1)) (hm : X.mg x = some (.ref (cl X.K c))) (ha : DA X E [e] fa) (hc : X.calm = true := by rfl) (hg : Gl X x := by rfl) (hdb : (x == ("__debug__" : Str)) = false := by decide)
    (he : starEach [e] X.env = (false, eval e X.env) :: starEach [] X.env := by rfl) :
    DS X E (.Raise (some (.Call (.Name x p) [e] [] pos)) none pos') (graise c [f] fa) := by
  have pm : PMk X (.Call (.Name x p) [e] [] pos) (fun σ H Q => rA X.K E fa σ H fun vs H1 => ∃ y, vs = [y] ∧ ∀ d, H1 d = none → Q (.ref (cl X.K c)) (some d) (upd H1 d (.xd [(f, y)]))) := fun pins s σ H Q I q => by
    refine wpAny_Call_Name_kw (ld_glob I hg hm ?_ hdb)
    refine PySem.W.callWith_K (h₀ := X.base) I.ok.mod.kin T.kC (thn (ha.run pos pins s σ H _ I q) fun us s1 ⟨vs, H1, I1, r1, y, ev, q1⟩ => ⟨I1.kIn, ?_⟩) he (by rfl)
    subst ev
    refine run_oex T iC tI F1 C.room hb I1 r1 (by show 1 ≤ 1000; decide) fun a ha => ⟨a, y, rfl, upd_same, fun dx hd ne => ⟨rfl, .inr ⟨dx, [(f, y)], upd_same, by rw [upd_ne ne, upd_same], by rw [upd_ne ne] at hd; exact hd, ?_⟩⟩⟩
    have hd1 : H1 dx = none := by rw [upd_ne ne] at hd; exact hd
    have eq : upd (del (upd (upd (upd H1 a (exo a (cl X.K c) none)) dx (exd dx [(f, y)])) a (exo a (cl X.K c) (some dx))) a) dx (.xd [(f, y)]) = upd H1 dx (.xd [(f, y)]) := by
      funext b
      by_cases h1 : b = dx
      · rw [h1, upd_same, upd_same]
      · rw [upd_ne h1, upd_ne h1]
        by_cases h2 : b = a
        · rw [h2, del_same, ha]
        · rw [del_ne h2, upd_ne h2, upd_ne h1, upd_ne h2]
    rw [eq]
    exact q1 dx hd1
  refine ps_imp (ps_raise hc C.take pm) fun Z σ H ⟨W, ρ, μ, ok, en, p⟩ => ?_
  refine seqSA p ok en fun ds μ1 W1 xs H1 g1 o1 en1 r p1 => ?_
  match ds, r, p1 with
  | [d], .cons (v := v) r .nil, p1 =>
    refine ⟨v, rfl, fun a ha => ?_⟩
    obtain ⟨o2, g2⟩ := beside (o := .xd [(f, v)]) o1 ha
    exact p1 W1 σ _ (some a) g2 o2 en1 (.inr ⟨a, [f], [v], [d], rfl, upd_same, rfl, rfl, .cons r .nil, o1.snone ha, o1.notio ha⟩)
  | [], .nil, p1 => exact p1.elim
  | _ :: _ :: _, .cons _ (.cons _ _), p1 =>
    have p1 : postS X.K E W1 H1 (if _ then _ else .bad) Z := p1
    rw [if_neg (by simp)] at p1
    exact p1.elim
end
end DL
/-! DL41: try, with clauses `except X as e:` and `except X:` in any row. -/
namespace DL
open PySem L2 PySem.Spec PyProof.Rows PySem.HandSPX
abbrev Hd := Value × Option Nat × (Addr → Value → Option Addr → TS)
/-- behind the suite of a clause that binds slot i -/
def offE (D : Ends) (i : Nat) : Ends := { nx := fun σ' H' => D.nx (σ'.set i none) H', rt := D.rt, bk := fun σ' H' => D.bk (σ'.set i none) H', ct := fun σ' H' => D.ct (σ'.set i none) H' }
def inH (ts : Addr → Value → Option Addr → TS) (oi : Option Nat) (a : Addr) (cls : Value) (d : Option Addr) : TS := fun D σ H => match oi with
  | none => ts a cls d D σ H
  | some i => ts a cls d (offE D i) (σ.set i (some (.ref a))) H
def wG (K : PySem.W.Frag) (Wout : WX) (D : Ends) : List Hd → WX
  | [] => Wout
  | (c, oi, ts) :: r => fun cls d σ H => ∃ b, PySem.W.exmOne K cls c = some b ∧ (b = true → ∀ a, H a = none → inH ts oi a cls d D σ H) ∧ (b = false → wG K Wout D r cls d σ H)
inductive HdG (X : Cx) : List ExceptHandler → List Hd → Prop
  | nil : HdG X [] []
  | one {x : Str} {c : Value} {ts : Addr → Value → Option Addr → TS} {b₀ : Stmt} {suite : List Stmt} {np pos' : Pos} {hds : List ExceptHandler} {l : List Hd} (hc : Names X x c)
      (hsu : ∀ (a : Addr) (oe : Obj) (cls : Value) (d : Option Addr) (pn : List (Addr × Obj)), Zc cls d oe → (∃ vs, oe.data = .fields vs) → PSs (X.suite a ((a, oe) :: pn)) (b₀ :: suite) (ts a cls d)) (r : HdG X hds l) :
      HdG X (.ExceptHandler (some (.Name x np)) none (b₀ :: suite) pos' :: hds) ((c, none, ts) :: l)
  | as {x n : Str} {i : Nat} {c : Value} {ts : Addr → Value → Option Addr → TS} {b₀ : Stmt} {suite : List Stmt} {np pos' : Pos} {hds : List ExceptHandler} {l : List Hd} (hi : X.N[i]? = some n) (hln : X.env.kindOf n = some .local) (hc : Names X x c)
      (hsu : ∀ (a : Addr) (oe : Obj) (cls : Value) (d : Option Addr) (pn : List (Addr × Obj)), Zc cls d oe → (∃ vs, oe.data = .fields vs) → PSs (X.suite a ((a, oe) :: pn)) (b₀ :: suite) (ts a cls d)) (r : HdG X hds l) :
      HdG X (.ExceptHandler (some (.Name x np)) (some n) (b₀ :: suite) pos' :: hds) ((c, some i, ts) :: l)
section
variable {X : Cx} {body : List Stmt} {h₀ : ExceptHandler} {hds : List ExceptHandler} {l : List Hd} {pos : Pos} {tb : WX → TS} {Wout : WX}
theorem ps_tryG (hs : X.stack = X.env :: X.outer) (hf : X.env.frame = some X.env.locals) (hN : X.N.Nodup) (tk : Takes X Wout)
    (hb : ∀ (W : WX) (pn : List (Addr × Obj)) (xe : Value → Shared → Prop), Takes (X.tr pn xe) W → PassesOwn (model X.prog X.w) X.A X.env xe → PSs (X.tr pn xe) body (tb W))
    (hh : HdG X (h₀ :: hds) l) : PS X (.Try body (h₀ :: hds) [] [] pos) (fun D σ H => tb (wG X.K Wout D l) D σ H) := by
  refine ⟨fun pins s σ H D I h => ?_⟩
  have ok := I.ok
  have hfr : X.A.frames = some (X.env :: X.outer) := by rw [ok.frames, hs]
  refine wpAny_Try_except ?_
  refine wpAny_mono ((hb (wG X.K Wout D l) (X.pn ++ pins) (fun e s₁ => wpAny (model X.prog X.w) X.A (noteFrame e X.env) (fun _ s₂ => wpAny (model X.prog X.w) X.A (setFlight e none) (fun _ s₃ =>
    wpAny (model X.prog X.w) X.A (handleBy e X.env (h₀ :: hds)) (SP X pins D) X.xe s₃) X.xe s₂) X.xe s₁) (fun u s' xx => ?_) PassesOwn.looking).run [] s σ H D (I.toTry _) h) (fun f s1 hsp => ?_) (fun e s1 he => he)
  · obtain ⟨a, B, sI, pins', σ', H', cls, d, rfl, J', nb, up, sky, na, os, ag, w⟩ := xx
    have J : Inv X pins σ' H' sI := J'.ofTry ok
    have sky' : Sky B (X.env :: X.outer) a (Zc cls d) X.env.locals s'.heap := by rw [← hs]; exact sky
    show wpAny (model X.prog X.w) X.A (noteFrame (.ref a) X.env) _ _ _
    refine Sky.land Zc.steady hfr hf sky' fun h3 fl3 up3 => ?_
    have J3 : Inv X pins σ' H' { s' with heap := h3 } := J.landed nb fl3.1 (up.trans up3) os ag
    obtain ⟨oe3, vs3, he3, hz3, hd3⟩ := fl3.there
    have nfr : a ∉ frs (X.env :: X.outer) := fun hm => by
      obtain ⟨_, o', e', hnf⟩ := fl3.2.2.1.mem hm
      rw [he3] at e'; cases e'
      exact hnf _ hd3
    have nL : a ≠ X.env.locals := fun z => nfr (List.mem_filterMap.mpr ⟨X.env, List.mem_cons_self, by rw [hf, z]⟩)
    have nF : a ∉ X.fs := fun hm => by
      obtain ⟨e, he, q⟩ := List.mem_filterMap.mp hm
      exact nfr (List.mem_filterMap.mpr ⟨e, List.mem_cons_of_mem _ he, q⟩)
    have S3 := J3.suite he3 hd3 na nL nF
    have test : ∀ {x : Str} {c : Value} {np : Pos} {Q : Value → Shared → Prop} {E : Value → Shared → Prop}, Names X x c → Q c { s' with heap := h3 } → wpAny (model X.prog X.w) (X.A.mark (some (.ref a))) (eval (.Name x np) X.env) Q E { s' with heap := h3 } := fun {x c np Q E} hc q => by
      obtain ⟨hg, hdbg, hm | ⟨hm, hv, hnn⟩⟩ := hc
      · exact ld_glob (X := X.suite a ((a, oe3) :: (X.pn ++ pins))) S3 hg hm q hdbg
      · exact ld_blt (X := X.suite a ((a, oe3) :: (X.pn ++ pins))) S3 hg hm hv q hnn hdbg
    have LT : PySem.W.Looks (model X.prog X.w) h3 (typeOf (.ref a)) cls := fun A Q E s k q => wpAny_typeOf_ref (k _ _ he3) (by rw [hz3.1]; exact q)
    have go : ∀ {hds' : List ExceptHandler} {l' : List Hd}, HdG X hds' l' → wG X.K Wout D l' cls d σ' H' →
        wpAny (model X.prog X.w) X.A (handleBy (.ref a) X.env hds') (SP X pins D) X.xe { s' with heap := h3 } := by
      intro hds' l' hk
      induction hk with
      | nil =>
        intro w
        refine wpAny_handleBy_nil ?_
        obtain ⟨k1, k2, k3, oe, vs, T, oT, ts', he, hz, hd, h1, hr⟩ := id fl3
        unfold PySem.passOn
        refine wpAny_bind (wpAny_field he hd h1 ?_)
        rw [if_neg (show ¬ ((Value.ref T == Value.none) = true) from by simp)]
        have fin : wpAny (model X.prog X.w) X.A (setFlight (.ref a) X.env.frame) (fun _ s4 => wpAny (model X.prog X.w) X.A (throw (.ref a) : Sem Flow) (SP X pins D) X.xe s4) X.xe { s' with heap := h3 } := by
          rw [hf]
          refine HandSPX.setFlight_upZ fl3 fun h4 hh4 up4 => wpAny_throw (tk _ _ ?_)
          exact ⟨a, B, sI, pins, σ', H', cls, d, rfl, J, nb, (up.trans up3).trans up4, .inr (.inr (by rw [hs]; exact hh4)), na, os, ag, w⟩
        first
          | exact wpAny_bind (wpAny_pure (wpAny_bind fin))
          | exact wpAny_bind fin
      | @one x c ts b₀ suite np pos' hds2 l2 hc hsu r ih =>
        intro w
        obtain ⟨b, hb1, hyes, hno⟩ := w
        refine wpAny_handleBy_cons (codeAny_handlers_test ?_) (by intro q; cases q)
        refine test hc ((PySem.W.exm_one (M := model X.prog X.w) (J3.kIn) LT hb1).here ?_)
        cases b with
        | true =>
          refine codeAny_handlers_suite ?_
          refine HandSPX.lands_againZ fl3 fun h4 fl4 up4 => ?_
          have J4 : Inv X pins σ' H' { s' with heap := h4 } := J.landed nb fl4.1 ((up.trans up3).trans up4) os ag
          obtain ⟨oe4, vs4, he4, hz4, hd4⟩ := fl4.there
          have S4 := J4.suite he4 hd4 na nL nF
          refine wpAny_mono ((hsu a oe4 cls d (X.pn ++ pins) hz4 ⟨_, hd4⟩).run [] _ _ H' _ S4 (hyes rfl a na)) (fun f s6 hsp => ?_) (fun _ _ z => False.elim z)
          cases f with
          | next =>
            obtain ⟨σ6, H6, S6, q6⟩ := hsp
            exact ⟨_, _, S6.unsuite ok, q6⟩
          | brk =>
            obtain ⟨σ6, H6, S6, q6⟩ := hsp
            exact ⟨_, _, S6.unsuite ok, q6⟩
          | cont =>
            obtain ⟨σ6, H6, S6, q6⟩ := hsp
            exact ⟨_, _, S6.unsuite ok, q6⟩
          | ret u =>
            obtain ⟨v6, σ6, H6, S6, r6, q6⟩ := hsp
            exact ⟨_, _, _, S6.unsuite ok, r6, q6⟩
        | false =>
          show wpAny _ X.A (handleBy (.ref a) X.env hds2) _ _ _
          exact ih (hno rfl)
      | @as x n i c ts b₀ suite np pos' hds2 l2 hi hln hc hsu r ih =>
        intro w
        obtain ⟨b, hb1, hyes, hno⟩ := w
        refine wpAny_handleBy_cons (codeAny_handlers_test ?_) (by intro q; cases q)
        refine test hc ((PySem.W.exm_one (M := model X.prog X.w) (J3.kIn) LT hb1).here ?_)
        cases b with
        | true =>
          refine codeAny_handlers_suite_as ?_
          refine HandSPX.lands_againZ fl3 fun h4 fl4 up4 => ?_
          have J4 : Inv X pins σ' H' { s' with heap := h4 } := J.landed nb fl4.1 ((up.trans up3).trans up4) os ag
          obtain ⟨oe4, vs4, he4, hz4, hd4⟩ := fl4.there
          have S4 := J4.suite he4 hd4 na nL nF
          refine store_ok (X := X.suite a ((a, oe4) :: (X.pn ++ pins))) (v := .ref a) S4 hN hi (.inl hln) rfl (fun s5 S5 => ?_) (.inr hln)
          refine wpAny_mono ((hsu a oe4 cls d (X.pn ++ pins) hz4 ⟨_, hd4⟩).run [] s5 _ H' _ S5 (hyes rfl a na)) (fun f s6 hsp => ?_) (fun _ _ z => False.elim z)
          have end_ : ∀ {σ6 : L2.St} {H6 : Hp} {Q : Shared → Prop}, Inv (X.suite a ((a, oe4) :: (X.pn ++ pins))) [] σ6 H6 s6 → (∀ s7, Inv X pins (σ6.set i none) H6 s7 → Q s7) →
              wpAny (model X.prog X.w) X.A (do bindName X.env n .none; unbindBehindTheSuite X.env n pos') (fun _ s7 => Q s7) X.xe s6 := fun {σ6 H6 Q} S6 hq => gone_ok (S6.unsuite ok) hN hi hln hq
          cases f with
          | next =>
            obtain ⟨σ6, H6, S6, q6⟩ := hsp
            exact end_ S6 fun s7 J7 => ⟨_, _, J7, q6⟩
          | brk =>
            obtain ⟨σ6, H6, S6, q6⟩ := hsp
            exact end_ S6 fun s7 J7 => ⟨_, _, J7, q6⟩
          | cont =>
            obtain ⟨σ6, H6, S6, q6⟩ := hsp
            exact end_ S6 fun s7 J7 => ⟨_, _, J7, q6⟩
          | ret u =>
            obtain ⟨v6, σ6, H6, S6, r6, q6⟩ := hsp
            exact end_ S6 fun s7 J7 => ⟨_, _, _, J7, r6, q6⟩
        | false =>
          show wpAny _ X.A (handleBy (.ref a) X.env hds2) _ _ _
          exact ih (hno rfl)
    exact go hh w
  · cases f with
    | next =>
      obtain ⟨σ', H', J', q⟩ := hsp
      exact wpAny_execs_nil ⟨σ', H', J'.ofTry ok, q⟩
    | brk =>
      obtain ⟨σ', H', J', q⟩ := hsp
      exact ⟨σ', H', J'.ofTry ok, q⟩
    | cont =>
      obtain ⟨σ', H', J', q⟩ := hsp
      exact ⟨σ', H', J'.ofTry ok, q⟩
    | ret u =>
      obtain ⟨v, σ', H', J', r, q⟩ := hsp
      exact ⟨v, σ', H', J'.ofTry ok, r, q⟩
end
end DL
/-! DL42: the suite of an except clause: what looks at the exception in hand. -/
namespace DL
open PySem L2 PySem.Spec PyProof.Rows PySem.HandSPX
theorem excIs_go {K : PySem.W.Frag} {W W' : Wd} {H H' : Hp} {fs : List (Str × D)} {d : Option Addr} (g : Go W H W' H') (x : ExcIs K W H fs d) : ExcIs K W' H' fs d := by
  rcases x with x | ⟨a, ns, vs, ds, e1, e2, e3, e4, e5, e6, e7⟩
  · exact .inl x
  · refine .inr ⟨a, ns, vs, ds, e1, g.kept a _ e2 e7 (fun _ z => nomatch z), e3, e4, e5.mono g.le, ?_, fun z => ?_⟩
    · cases hs : W'.S a with
      | none => rfl
      | some o =>
        rcases g.newS a o hs with z | z | z
        · rw [e6] at z; cases z
        · rw [e2] at z; cases z
        · exact absurd z e7
    · rcases g.newio a z with z | z
      · exact e7 z
      · rw [e2] at z; cases z
/-- the exception in hand: slot i holds it, its fields are fs -/
def XIn (K : PySem.W.Frag) (i : Nat) (a : Addr) (d : Option Addr) (fs : List (Str × D)) (W : Wd) (σ : L2.St) (H : Hp) : Prop := σ[i]? = some (some (.ref a)) ∧ ExcIs K W H fs d
theorem XIn.go {K : PySem.W.Frag} {i : Nat} {a : Addr} {d : Option Addr} {fs : List (Str × D)} {W W' : Wd} {σ : L2.St} {H H' : Hp} (g : Go W H W' H') (x : XIn K i a d fs W σ H) : XIn K i a d fs W' σ H' := ⟨x.1, excIs_go g x.2⟩
abbrev PX := Wd → L2.St → Hp → Prop
def Stays (P : PX) : Prop := ∀ W σ H W' H', Go W H W' H' → P W σ H → P W' σ H'
def rEp (K : PySem.W.Frag) (P : PX) (f : FE) : TE := fun σ H Q => ∃ W ρ μ, Ok K W H μ ∧ Envs K W σ ρ ∧ P W σ H ∧ postE K (WE E0 σ) W H (f ρ μ) Q
def rAp (K : PySem.W.Frag) (P : PX) (f : FA) : TA := fun σ H Q => ∃ W ρ μ, Ok K W H μ ∧ Envs K W σ ρ ∧ P W σ H ∧ postA K (WE E0 σ) W H (f ρ μ) Q
def rSp (K : PySem.W.Frag) (P : PX) (g : FS) : TS := fun Z σ H => ∃ W ρ μ, Ok K W H μ ∧ Envs K W σ ρ ∧ P W σ H ∧ postS K E0 W H (g ρ μ) Z
abbrev DEp (X : Cx) (P : PX) (e : Expr) (f : FE) : Prop := PE X e (rEp X.K P f)
abbrev DAp (X : Cx) (P : PX) (e : List Expr) (f : FA) : Prop := PA X e (rAp X.K P f)
abbrev DSp (X : Cx) (P : PX) (st : List Stmt) (g : FS) : Prop := PSs X st (rSp X.K P g)
section
variable {K : PySem.W.Frag} {P : PX} {σ : L2.St} {H : Hp} {W : Wd} {ρ : En} {μ : Mu}
theorem seqp {β : Type} {fa : FE} {k : D → Mu → R β} {Rp : Wd → V → β → Prop} {Q Q1 : VK} (hP : P W σ H) (p : post K (WE E0 σ) W H Rp ((fa ρ μ).bind k) Q) (ok : Ok K W H μ) (en : Envs K W σ ρ)
    (hk : ∀ d μ1 W1 x H1, Go W H W1 H1 → Ok K W1 H1 μ1 → Envs K W1 σ ρ → Rep K W1 x d → post K (WE E0 σ) W1 H1 Rp (k d μ1) Q → Q1 x H1) : rEp K P fa σ H Q1 := by
  obtain ⟨W', ρ', μ', _⟩ := seq p ok en hk
  refine ⟨W, ρ, μ, ok, en, hP, ?_⟩
  revert p
  cases h : fa ρ μ with
  | ok d μ1 => exact fun p W1 x H1 g o r => hk d μ1 W1 x H1 g o (en.mono g.le) r (post.mono g p)
  | ex c fs μ1 => exact fun p => p
  | bad => exact fun p => p
theorem seqAp {β : Type} {fa : FA} {k : List D → Mu → R β} {Rp : Wd → V → β → Prop} {Q : VK} {Q1 : List V → Hp → Prop} (hP : P W σ H) (p : post K (WE E0 σ) W H Rp ((fa ρ μ).bind k) Q) (ok : Ok K W H μ) (en : Envs K W σ ρ)
    (hk : ∀ ds μ1 W1 xs H1, Go W H W1 H1 → Ok K W1 H1 μ1 → Envs K W1 σ ρ → Reps K W1 xs ds → post K (WE E0 σ) W1 H1 Rp (k ds μ1) Q → Q1 xs H1) : rAp K P fa σ H Q1 := by
  refine ⟨W, ρ, μ, ok, en, hP, ?_⟩
  revert p
  cases h : fa ρ μ with
  | ok d μ1 => exact fun p W1 x H1 g o r => hk d μ1 W1 x H1 g o (en.mono g.le) r (post.mono g p)
  | ex c fs μ1 => exact fun p => p
  | bad => exact fun p => p
end
section
variable {X : Cx} {P : PX} {e b : Expr} {es : List Expr} {f fb : FE} {fa : FA} {pos : Pos}
theorem dp_lift (h : DE X E0 e f) : DEp X P e f := pe_imp h fun σ H Q ⟨W, ρ, μ, ok, en, hP, p⟩ => ⟨W, ρ, μ, ok, en, p⟩
theorem dap_nil : DAp X P [] aNil := pa_imp pa_nil fun σ H Q ⟨W, ρ, μ, ok, en, hP, p⟩ => p W [] H (Go.refl W H) ok .nil
theorem dap_cons (st : Stays P) (h : DEp X P e f) (hs : DAp X P es fa) (hst : starEach (e :: es) X.env = (false, eval e X.env) :: starEach es X.env := by rfl) : DAp X P (e :: es) (aCons f fa) := by
  refine pa_imp (pa_cons h hs hst) fun σ H Q ⟨W, ρ, μ, ok, en, hP, p⟩ => ?_
  refine ⟨W, ρ, μ, ok, en, hP, ?_⟩
  unfold aCons at p
  revert p
  cases f ρ μ with
  | ok d μ1 =>
    intro p W1 x H1 g1 o1 r1
    refine ⟨W1, ρ, μ1, o1, en.mono g1.le, st _ _ _ _ _ g1 hP, ?_⟩
    have p := postA.mono g1 p
    revert p
    rw [R.bind_ok]
    cases fa ρ μ1 with
    | ok ds μ2 => exact fun p W2 xs H2 g2 o2 r2 => p W2 (x :: xs) H2 g2 o2 (.cons (r1.mono g2.le) r2)
    | ex c fs μ2 => exact fun p => p
    | bad => exact fun p => p
  | ex c fs μ1 => exact fun p => p
  | bad => exact fun p => p
theorem dp_lst (h : DAp X P es fa) : DEp X P (.List es pos) (dlst fa) := pe_imp (pe_lst h) fun σ H Q ⟨W, ρ, μ, ok, en, hP, p⟩ => by
  refine seqAp hP p ok en fun ds μ1 W1 xs H1 g1 o1 en1 r p1 => ?_
  by_cases hn : ds.length ≤ 1000000
  · rw [if_pos hn] at p1
    exact ⟨by rw [r.length]; exact le_line hn, fun q hq => p1 _ _ _ (Go.new o1 hq) (o1.new hq) (rep_lst o1 hq (le_line hn) r)⟩
  · rw [if_neg hn] at p1
    exact p1.elim
theorem dp_callB {x : Str} {p : Pos} {id : String} {g : List D → Mu → R D} (hc : CallX X E0 (.builtin id) g) (hm : X.mg x = none) (ha : DAp X P (e :: es) fa) (hg : Gl X x := by rfl) (hv : bootBuiltins x = some (.builtin id) := by decide +kernel) (hn : x ≠ "__name__" := by decide) (hdb : (x == ("__debug__" : Str)) = false := by decide)
    (he : starEach (e :: es) X.env = (false, eval e X.env) :: starEach es X.env := by rfl) (hpl : (backTo pos (starEach es X.env)).any (·.1) = false := by rfl) : DEp X P (.Call (.Name x p) (e :: es) [] pos) (dcallB g fa) :=
  pe_imp (pe_callB hc hg hm hv ha hn hdb he hpl) fun σ H Q ⟨W, ρ, μ, ok, en, hP, p⟩ => seqAp hP p ok en fun ds μ1 W1 xs H1 g1 o1 en1 r p1 => ⟨_, W1, μ1, ds, o1, r, p1⟩
theorem dp_cmp {op : CmpOp} {g : D → D → Mu → R D} (st : Stays P) (ho : OpX X E0 (compareOp op) g) (ha : DEp X P e f) (hb : DEp X P b fb) (hm : behindInMarks op b = false := by first | exact nomark _ | rfl) : DEp X P (.Compare e [op] [b] pos) (dbin g f fb) :=
  pe_imp (pe_cmpR ho ha hb hm) fun σ H Q ⟨W, ρ, μ, ok, en, hP, p⟩ =>
    seqp hP p ok en fun x μ1 W1 vx H1 g1 ok1 en1 rx p1 => seqp (st _ _ _ _ _ g1 hP) p1 ok1 en1 fun y μ2 W2 vy H2 g2 ok2 en2 ry p2 => opd_D (E := E0) _ W2 H2 μ2 x y vx vy Q ok2 (rx.mono g2.le) ry p2
theorem dsp_ret (h : DEp X P e f) : DSp X P [.Return (some e) pos] (gret f) := pss_one (ps_imp (ps_ret h) fun Z σ H ⟨W, ρ, μ, ok, en, hP, p⟩ => by
  refine ⟨W, ρ, μ, ok, en, hP, ?_⟩
  unfold gret at p
  revert p
  cases f ρ μ with
  | ok d μ1 => exact fun p => p
  | ex c fs μ1 => exact fun p W' H' d g o r => p W' σ H' d g o (en.mono g.le) r
  | bad => exact fun p => p)
end
/-! ### e.f, isinstance(e, c) -/
section
variable {Y : Cx} {a : Addr} {oe : Obj} {cls : Value} {d : Option Addr} {pn : List (Addr × Obj)} {i c : Nat} {fs : List (Str × D)} {n en : Str} {p pos : Pos}
theorem look_ex {ns : List Str} {vs : List V} {ds : List D} {K : PySem.W.Frag} {W : Wd} {y : D} : ∀ {ns : List Str} {vs : List V} {ds : List D}, Reps K W vs ds → (ns.zip ds).lookup n = some y → ∃ v, (ns.zip vs).lookup n = some v ∧ Rep K W v y
  | [], _, _, _, h => by simp at h
  | m :: ns, _, _, .nil, h => by simp at h
  | m :: ns, _, _, .cons (v := v) (d := d) r rs, h => by
    simp only [List.zip_cons_cons, List.lookup_cons] at h ⊢
    cases e : n == m with
    | true =>
      rw [e] at h
      cases h
      exact ⟨v, rfl, r⟩
    | false =>
      rw [e] at h
      exact look_ex (ns := []) (vs := []) (ds := []) rs h
/-- e.n -/
def dxf (fs : List (Str × D)) (n : Str) : FE := fun _ μ => R.of (fs.lookup n) μ
theorem dp_xf (T : XfC Y.K (cl Y.K c)) (hno : PySem.W.findIn Y.K (.ref (cl Y.K c)) n = some none) (hcl : cls = .ref (cl Y.K c)) (hz : Zc cls d oe) (hf : ∃ vs, oe.data = .fields vs) (hN : Y.N[i]? = some en) (hv : Vis Y.env.scope en := by first | exact Or.inl rfl | exact Or.inr (Or.inl rfl) | exact Or.inr (Or.inr rfl))
    (h1 : (en == ("__debug__" : Str)) = false := by decide) (h2 : (en == ("__classdict__" : Str)) = false := by decide) (hb : attributeBase (.Name en p) n Y.env (eval (.Name en p) Y.env) = eval (.Name en p) Y.env := by rfl) :
    DEp (Y.suite a ((a, oe) :: pn)) (XIn Y.K i a d fs) (.Attribute (.Name en p) n pos) (dxf fs n) := by
  refine pe_imp (pe_xf (X := Y) (C := cl Y.K c) T hno hz hf (pe_var (X := Y.suite a ((a, oe) :: pn)) hN hv h1 h2) hb) fun σ H Q ⟨W, ρ, μ, ok, en, hP, p⟩ => ?_
  unfold dxf at p
  revert p
  cases hl : fs.lookup n with
  | none => exact fun p => p.elim
  | some y =>
    intro p
    rcases hP.2 with ⟨e1, e2⟩ | ⟨dd, ns, vs, ds, e1, e2, e3, e4, e5, e6, e7⟩
    · rw [e1] at hl
      cases hl
    · rw [e3] at hl
      obtain ⟨v, hv1, hv2⟩ := look_ex (ns := []) (vs := []) (ds := []) e5 hl
      exact ⟨.ref a, hP.1, rfl, hcl, dd, ns.zip vs, v, e1, e2, hv1, p W v H (Go.refl _ _) ok hv2⟩
end
end DL
/-! DL43: isinstance(e, c) of the exception in hand; try over data. -/
namespace DL
open PySem L2 PySem.Spec PyProof.Rows PySem.HandSPX
section
variable {Y : Cx} {a C : Addr} {oe : Obj} {cls : Value} {d : Option Addr} {pn : List (Addr × Obj)} {i c : Nat} {fs : List (Str × D)} {n en : Str} {p p1 pos : Pos} {b : Bool} {cval : Value} {cv : V} {ec : Expr}
theorem call_isG (T : ExcC Y.K C) (hcl : cls = .ref C) (hz : Zc cls d oe) (hf : ∃ vs, oe.data = .fields vs) (hk : PySem.W.kitOne Y.K (.ref C) cval = some b) (hcv : ∀ u, RelV cv u → u = cval) :
    CallR (Y.suite a ((a, oe) :: pn)) (.builtin "isinstance") (fun xs H Q => xs = [.ref a, cv] ∧ (d = none ∨ ∃ dd fs, d = some dd ∧ H dd = some (.xd fs)) ∧ Q (.bl b) H) := by
  intro pins s σ H xs us Q I r h
  obtain ⟨rfl, hd, q⟩ := h
  cases r with
  | cons rx rr =>
    cases rr with
    | cons rt rr =>
      cases rr
      cases rx
      have ec := hcv _ rt
      subst ec
      obtain ⟨hget, _⟩ := I.pin (a, oe) (List.mem_append.mpr (.inl List.mem_cons_self))
      obtain ⟨vs, hv⟩ := hf
      have J : ∃ od, PySem.W.InstAt s.heap a oe C od := by
        obtain ⟨oc, od, oda, osl⟩ := oe
        obtain ⟨h1, h2⟩ := hz
        dsimp only at h1 h2 hv
        subst h1 h2 hv
        rcases hd with e | ⟨dd, fs, e, hx⟩
        · subst e
          exact ⟨none, hget, hcl, rfl, trivial⟩
        · subst e
          have hx : ObjOk Y.prog Y.w H s.heap dd (.xd fs) := I.hok dd _ hx
          obtain ⟨mA, hns, hr⟩ := hx
          obtain ⟨od, ho, hl⟩ := lookIn_ns hns
          exact ⟨some od, hget, hcl, rfl, ho⟩
      obtain ⟨od, J⟩ := J
      have hcl : (PySem.W.clsIn Y.K C).isSome = true := by
        obtain ⟨cd, hc, _⟩ := PySem.W.any_some T.hd
        rw [hc]
        rfl
      exact PySem.W.kia_one (PySem.W.kitx_exc hcl T.hg T.hk T.hs T.ha T.hn T.ht T.hm) I.kIn J hk (fun z => nomatch z) fun tk => ⟨.bl b, H, I.kept (t' := tk) fun _ _ z => z, rfl, q⟩
theorem dp_isE (T : ExcC Y.K (cl Y.K c)) (hcl : cls = .ref (cl Y.K c)) (hz : Zc cls d oe) (hf : ∃ vs, oe.data = .fields vs) (hk : PySem.W.kitOne Y.K (.ref (cl Y.K c)) cval = some b) (hcv : ∀ u, RelV cv u → u = cval) (he : PE (Y.suite a ((a, oe) :: pn)) ec (tC cv)) (hm : Y.mg "isinstance" = none)
    (hN : Y.N[i]? = some en) (hv : Vis Y.env.scope en := by first | exact Or.inl rfl | exact Or.inr (Or.inl rfl) | exact Or.inr (Or.inr rfl))
    (h1 : (en == ("__debug__" : Str)) = false := by decide) (h2 : (en == ("__classdict__" : Str)) = false := by decide) (hg : Gl Y "isinstance" := by rfl)
    (hs1 : starEach [.Name en p1, ec] Y.env = (false, eval (.Name en p1) Y.env) :: starEach [ec] Y.env := by rfl) (hs2 : starEach [ec] Y.env = (false, eval ec Y.env) :: starEach [] Y.env := by rfl) (hpl : (backTo pos (starEach [ec] Y.env)).any (·.1) = false := by rfl) :
    DEp (Y.suite a ((a, oe) :: pn)) (XIn Y.K i a d fs) (.Call (.Name "isinstance" p) [.Name en p1, ec] [] pos) (dc (.bl b)) := by
  refine pe_imp (pe_callB (X := Y.suite a ((a, oe) :: pn)) (call_isG T hcl hz hf hk hcv) hg hm (by decide +kernel) (pa_cons (pe_var (X := Y.suite a ((a, oe) :: pn)) hN hv h1 h2) (pa_cons he pa_nil hs2) hs1) (by decide) (by decide) hs1 hpl) fun σ H Q ⟨W, ρ, μ, ok, en, hP, p⟩ => ?_
  refine ⟨.ref a, hP.1, rfl, ?_, p W _ H (Go.refl _ _) ok (.bl b)⟩
  rcases hP.2 with ⟨_, e⟩ | ⟨dd, ns, vs, ds, e1, e2, _⟩
  · exact .inl e
  · exact .inr ⟨dd, _, e1, e2⟩
end
end DL
/-! DL44: try over data. -/
namespace DL
open PySem L2 PySem.Spec PyProof.Rows PySem.HandSPX
/-- a clause: does it catch the class c; the slot that it binds; its suite -/
structure Cl where
  m : Nat → Option Bool
  slot : Option Nat
  h : Nat → List (Str × D) → FS
/-- no exception leaves; slot i is unbound -/
def offO (i : Nat) : O → O
  | .nx ρ μ => .nx (ρ.set i none) μ
  | .bk ρ μ => .bk (ρ.set i none) μ
  | .ct ρ μ => .ct (ρ.set i none) μ
  | .rt d μ => .rt d μ
  | _ => .bad
def noxO : O → O
  | .ex _ _ _ _ => .bad
  | o => o
def hgo : List Cl → En → Nat → List (Str × D) → Mu → O
  | [], ρ, c, fs, μ => .ex ρ c fs μ
  | l :: r, ρ, c, fs, μ => match l.m c with
    | none => .bad
    | some false => hgo r ρ c fs μ
    | some true => match l.slot with
      | none => noxO (l.h c fs ρ μ)
      | some i => if i < ρ.length then offO i (l.h c fs (ρ.set i none) μ) else .bad
def gtry (g : FS) (l : List Cl) : FS := fun ρ μ => match g ρ μ with
  | .ex ρ1 c fs μ1 => hgo l ρ1 c fs μ1
  | o => o
def PE0 (K : PySem.W.Frag) (d : Option Addr) (fs : List (Str × D)) : PX := fun W _ H => ExcIs K W H fs d
def tsOf (K : PySem.W.Frag) (l : Cl) (P : Addr → Option Addr → List (Str × D) → PX) : Addr → Value → Option Addr → TS := fun a cls d D σ H => ∃ c fs, cls = .ref (cl K c) ∧ l.m c = some true ∧ rSp K (P a d fs) (l.h c fs) D σ H
/-- the clauses, with their suites -/
inductive HdD (X : Cx) : List ExceptHandler → List Cl → List Hd → Prop
  | nil : HdD X [] [] []
  | one {x : Str} {cv : Value} {m : Nat → Option Bool} {h : Nat → List (Str × D) → FS} {b₀ : Stmt} {suite : List Stmt} {np pos' : Pos} {hds : List ExceptHandler} {l : List Cl} {q : List Hd} (hc : Names X x cv) (hm : ∀ c b, m c = some b → PySem.W.exmOne X.K (.ref (cl X.K c)) cv = some b)
      (hsu : ∀ c fs, m c = some true → ∀ (a : Addr) (oe : Obj) (cls : Value) (d : Option Addr) (pn : List (Addr × Obj)), cls = .ref (cl X.K c) → Zc cls d oe → (∃ vs, oe.data = .fields vs) → DSp (X.suite a ((a, oe) :: pn)) (PE0 X.K d fs) (b₀ :: suite) (h c fs)) (r : HdD X hds l q) :
      HdD X (.ExceptHandler (some (.Name x np)) none (b₀ :: suite) pos' :: hds) (⟨m, none, h⟩ :: l) ((cv, none, tsOf X.K ⟨m, none, h⟩ (fun _ d fs => PE0 X.K d fs)) :: q)
  | as {x n : Str} (i : Nat) {cv : Value} {m : Nat → Option Bool} {h : Nat → List (Str × D) → FS} {b₀ : Stmt} {suite : List Stmt} {np pos' : Pos} {hds : List ExceptHandler} {l : List Cl} {q : List Hd} (hi : X.N[i]? = some n) (hln : X.env.kindOf n = some .local) (hc : Names X x cv) (hm : ∀ c b, m c = some b → PySem.W.exmOne X.K (.ref (cl X.K c)) cv = some b)
      (hsu : ∀ c fs, m c = some true → ∀ (a : Addr) (oe : Obj) (cls : Value) (d : Option Addr) (pn : List (Addr × Obj)), cls = .ref (cl X.K c) → Zc cls d oe → (∃ vs, oe.data = .fields vs) → DSp (X.suite a ((a, oe) :: pn)) (XIn X.K i a d fs) (b₀ :: suite) (h c fs)) (r : HdD X hds l q) :
      HdD X (.ExceptHandler (some (.Name x np)) (some n) (b₀ :: suite) pos' :: hds) (⟨m, some i, h⟩ :: l) ((cv, some i, tsOf X.K ⟨m, some i, h⟩ (fun a d fs => XIn X.K i a d fs)) :: q)
section
variable {X : Cx} {E : WX}
theorem pss_ex {st : List Stmt} {p : Nat → List (Str × D) → Prop} {t : Nat → List (Str × D) → TS} (h : ∀ c fs, p c fs → PSs X st (t c fs)) : PSs X st (fun D σ H => ∃ c fs, p c fs ∧ t c fs D σ H) := ⟨fun pins s σ H D I ⟨c, fs, hp, q⟩ => (h c fs hp).run pins s σ H D I q⟩
theorem HdD.hdG {hds : List ExceptHandler} {l : List Cl} {q : List Hd} (h : HdD X hds l q) : HdG X hds q := by
  induction h with
  | nil => exact .nil
  | one hc hm hsu r ih =>
    exact .one hc (fun a oe cls d pn hz hf => pss_imp (pss_ex (p := fun c fs => cls = .ref (cl X.K c) ∧ _ = some true) fun c fs hp => hsu c fs hp.2 a oe cls d pn hp.1 hz hf) fun D σ H ⟨c, fs, e1, e2, q⟩ => ⟨c, fs, ⟨e1, e2⟩, q⟩) ih
  | as i hi hln hc hm hsu r ih =>
    exact .as hi hln hc (fun a oe cls d pn hz hf => pss_imp (pss_ex (p := fun c fs => cls = .ref (cl X.K c) ∧ _ = some true) fun c fs hp => hsu c fs hp.2 a oe cls d pn hp.1 hz hf) fun D σ H ⟨c, fs, e1, e2, q⟩ => ⟨c, fs, ⟨e1, e2⟩, q⟩) ih
theorem noxO_post {K : PySem.W.Frag} {W : Wd} {H : Hp} {o : O} {Z : Ends} (p : postS K E W H (noxO o) Z) : postS K E0 W H o Z := by
  cases o with
  | ex ρ c fs μ => exact p.elim
  | _ => exact p
theorem offO_post {K : PySem.W.Frag} {W : Wd} {H : Hp} {o : O} {Z : Ends} {i : Nat} (p : postS K E W H (offO i o) Z) : postS K E0 W H o (offE Z i) := by
  cases o with
  | nx ρ μ => exact fun W' σ' H' g o n => p W' _ H' g o (n.unset _ i)
  | bk ρ μ => exact fun W' σ' H' g o n => p W' _ H' g o (n.unset _ i)
  | ct ρ μ => exact fun W' σ' H' g o n => p W' _ H' g o (n.unset _ i)
  | rt d μ => exact p
  | ex ρ c fs μ => exact p.elim
  | bad => exact p
theorem wG_of {hds : List ExceptHandler} {l : List Cl} {q : List Hd} (h : HdD X hds l q) {W : Wd} {H : Hp} {σ : L2.St} {ρ : En} {μ : Mu} {c : Nat} {fs : List (Str × D)} {d : Option Addr} {Z : Ends} (ok : Ok X.K W H μ) (en : Envs X.K W σ ρ) (ex : ExcIs X.K W H fs d) :
    postS X.K E W H (hgo l ρ c fs μ) Z → wG X.K E Z q (.ref (cl X.K c)) d σ H := by
  induction h with
  | nil => exact fun p => p W σ H d (Go.refl _ _) ok en ex
  | @one x cv m h b₀ suite np pos' hds l q hc hm hsu r ih =>
    intro p
    unfold hgo at p
    dsimp only at p
    cases e : m c with
    | none => rw [e] at p; exact p.elim
    | some b =>
      rw [e] at p
      refine ⟨b, hm c b e, fun hb a ha => ?_, fun hb => ?_⟩
      · subst hb
        exact ⟨c, fs, rfl, e, W, ρ, μ, ok, en, ex, noxO_post p⟩
      · subst hb
        exact ih p
  | @as x n i cv m h b₀ suite np pos' hds l q hi hln hc hm hsu r ih =>
    intro p
    unfold hgo at p
    dsimp only at p
    cases e : m c with
    | none => rw [e] at p; exact p.elim
    | some b =>
      rw [e] at p
      refine ⟨b, hm c b e, fun hb a ha => ?_, fun hb => ?_⟩
      · subst hb
        (try dsimp only at p)
        by_cases hl : i < ρ.length
        · rw [if_pos hl] at p
          refine ⟨c, fs, rfl, e, W, ρ.set i none, μ, ok, en.unset _ i, ⟨?_, ex⟩, offO_post p⟩
          exact List.getElem?_set_self (by rw [← en.len]; exact hl)
        · rw [if_neg hl] at p
          exact p.elim
      · subst hb
        exact ih p
theorem ds_try {k : Nat} {body : List Stmt} {h₀ : ExceptHandler} {hds : List ExceptHandler} {l : List Cl} {q : List Hd} {g : FS} {pos : Pos} (hs : X.stack = X.env :: X.outer) (hf : X.env.frame = some X.env.locals) (hN : X.N.Nodup) (C : Cal X E k)
    (hb : ∀ (W : WX) (pn : List (Addr × Obj)) (xe : Value → Shared → Prop), Cal (X.tr pn xe) W k → PassesOwn (model X.prog X.w) X.A X.env xe → DSs (X.tr pn xe) W body g)
    (hh : HdD X (h₀ :: hds) l q) : DS X E (.Try body (h₀ :: hds) [] [] pos) (gtry g l) := by
  refine ps_imp (ps_tryG (tb := fun W => rS X.K W g) hs hf hN C.take (fun W pn xe tk po => hb W pn xe ⟨C.room, C.guards, tk⟩ po) hh.hdG) fun Z σ H ⟨W, ρ, μ, ok, en, p⟩ => ?_
  refine ⟨W, ρ, μ, ok, en, ?_⟩
  unfold gtry at p
  revert p
  cases g ρ μ with
  | ex ρ1 c fs μ1 => exact fun p W' σ' H' d g o n x => wG_of hh o n x (postS.mono g p)
  | nx _ _ => exact fun p => p
  | bk _ _ => exact fun p => p
  | ct _ _ => exact fun p => p
  | rt _ _ => exact fun p => p
  | bad => exact fun p => p
end
section
variable {X : Cx} {P : PX} {a b : Expr} {rest : List Expr} {f g : FE} {pos : Pos}
theorem dp_one {op : BoolOp} (ha : DEp X P a f) : DEp X P (.BoolOp op [a] pos) f := pe_one ha
theorem dp_and (st : Stays P) (ha : DEp X P a f) (hb : DEp X P (.BoolOp .And (b :: rest) pos) g) : DEp X P (.BoolOp .And (a :: b :: rest) pos) (dand f g) := pe_imp (pe_and ha hb) fun σ H Q ⟨W, ρ, μ, ok, en, hP, p⟩ =>
  seqp hP p ok en fun d μ1 W1 x H1 g1 o1 en1 r p1 => by
    cases d with
    | bl k =>
      cases r
      cases k with
      | true => exact ⟨true, rfl, W1, ρ, μ1, o1, en1, st _ _ _ _ _ g1 hP, p1⟩
      | false => exact ⟨false, rfl, post_pure o1 p1 (.bl _)⟩
    | _ => exact p1.elim
theorem stays_X {K : PySem.W.Frag} {i : Nat} {a : Addr} {d : Option Addr} {fs : List (Str × D)} : Stays (XIn K i a d fs) := fun _ _ _ _ _ g x => x.go g
theorem stays_0 {K : PySem.W.Frag} {d : Option Addr} {fs : List (Str × D)} : Stays (PE0 K d fs) := fun _ _ _ _ _ g x => excIs_go g x
/-- a suite that does not look at the exception -/
theorem dsp_lift {st : List Stmt} {g : FS} (h : DSs X E0 st g) : DSp X P st g := pss_imp h fun Z σ H ⟨W, ρ, μ, ok, en, hP, p⟩ => ⟨W, ρ, μ, ok, en, p⟩
end
end DL
/-! DL45: the facts about own exception classes as Bools, for the head. -/
namespace DL
open PySem L2 PySem.Spec PyProof.Rows PySem.HandSPX
/-- which built-in class stands under it -/
inductive Bk where
  | ve | ke | rt
def Bk.new : Bk → String
  | .ve => "ValueError.__new__"
  | .ke => "LookupError.__new__"
  | .rt => "RuntimeError.__new__"
def Bk.init : Bk → String
  | .ve => "ValueError.__init__"
  | .ke => "KeyError.__init__"
  | .rt => "RuntimeError.__init__"
def Bk.name : Bk → String
  | .ve => "ValueError"
  | .ke => "KeyError"
  | .rt => "RuntimeError"
def Bk.tail : Bk → List Value
  | .ve => veTail
  | .ke => keTail
  | .rt => rtTail
theorem Bk.bas : (k : Bk) → Bas k.new k.init k.tail
  | .ve => bas_VE
  | .ke => bas_KE
  | .rt => bas_RT
def oexB (K : PySem.W.Frag) (c : Nat) (k : Bk) : Bool := PySem.W.excInitIn K (cl K c) k.tail k.new && (PySem.W.excOver K (cl K c) k.tail && (PySem.W.hasDictIn K (cl K c) &&
  (decide (PySem.W.findIn K (.ref (cl K c)) "__setattr__" = some (some (.builtin "object.__setattr__"))) && (decide (PySem.W.subIn K (.ref (cl K c)) (.type "BaseException") = some true) &&
    (decide (PySem.W.typeIn K (.ref (cl K c)) = some (.type "type")) && PySem.W.keepIn K (.ref (cl K c)))))))
theorem oexB_ok {K : PySem.W.Frag} {c : Nat} {k : Bk} (h : oexB K c k = true) : OexG K (cl K c) k.init := by
  unfold oexB at h
  simp only [Bool.and_eq_true, decide_eq_true_eq] at h
  obtain ⟨h1, h2, h3, h4, h5, h6, h7⟩ := h
  exact ⟨⟨_, _, k.bas, h1, h2⟩, h3, h4, h5, h6, h7⟩
/-- the class's own __init__ is the def at f -/
def oiniB (K : PySem.W.Frag) (c : Nat) : Bool := decide (PySem.W.findIn K (.ref (cl K c)) "__init__" = some (some (.ref (He.fAd K (nmC c, some "__init__"))))) && decide (PySem.W.typeIn K (.ref (He.fAd K (nmC c, some "__init__"))) = some (.type "function"))
theorem oiniB_ok {K : PySem.W.Frag} {c : Nat} (h : oiniB K c = true) : PySem.W.findIn K (.ref (cl K c)) "__init__" = some (some (.ref (He.fAd K (nmC c, some "__init__")))) ∧ PySem.W.typeIn K (.ref (He.fAd K (nmC c, some "__init__"))) = some (.type "function") := by
  unfold oiniB at h
  simp only [Bool.and_eq_true, decide_eq_true_eq] at h
  exact h
/-- base.__init__, the base an own class; a built-in one -/
def isVal (r : Option PySem.W.CFound) (i : String) : Bool := match r with
  | some (.val (.builtin j)) => j == i
  | _ => false
theorem isVal_ok {r : Option PySem.W.CFound} {i : String} (h : isVal r i = true) : r = some (.val (.builtin i)) := by
  unfold isVal at h
  split at h
  · rw [eq_of_beq h]
  · cases h
def gmB (K : PySem.W.Frag) (b : Nat) (i : String) : Bool := decide (PySem.W.specialIn K (.ref (cl K b)) "__getattribute__" = some (some (.builtin "type.__getattribute__"))) && (PySem.W.readsIn K (cl K b) (.type "type") && isVal (PySem.W.findCls K (.ref (cl K b)) (.type "type") "__init__") i)
theorem gmB_ok {X : Cx} {b : Nat} {k : Bk} (h : gmB X.K b k.init = true) : GMi X (.ref (cl X.K b)) k.init := by
  unfold gmB at h
  simp only [Bool.and_eq_true, decide_eq_true_eq] at h
  exact gm_own h.1 h.2.1 (isVal_ok h.2.2) (by cases k <;> decide +kernel)
def gmTB (K : PySem.W.Frag) (k : Bk) : Bool := isVal (PySem.W.findCls K (.type k.name) (.type "type") "__init__") k.init
theorem gmTB_ok {X : Cx} {k : Bk} (h : gmTB X.K k = true) : GMi X (.type k.name) k.init := gm_type (isVal_ok h) (by cases k <;> kernel_rfl) (by cases k <;> decide +kernel) (by cases k <;> decide +kernel)
/-- what is asked of a class whose exceptions are looked at -/
def excB (K : PySem.W.Frag) (c : Nat) : Bool := decide (PySem.W.findIn K (.ref (cl K c)) "__getattribute__" = some (some (.builtin "BaseException.__getattribute__"))) && (decide (PySem.W.findIn K (.ref (cl K c)) "__getattr__" = some none) && (decide (PySem.W.subIn K (.ref (cl K c)) (.type "BaseException") = some true) && (PySem.W.hasDictIn K (cl K c) &&
  (decide (PySem.W.findIn K (.ref (cl K c)) "__class__" = some (some (.builtin "object.__class__"))) && (decide (PySem.W.specialIn K (.builtin "object.__class__") "__get__" = some (some (.builtin "getset_descriptor.__get__"))) && (decide (PySem.W.takesIn K (.builtin "object.__class__") = some true) && decide (PySem.W.mroIn K (cl K c) (.type "object") = some true)))))))
theorem excB_ok {K : PySem.W.Frag} {c : Nat} (h : excB K c = true) : ExcC K (cl K c) ∧ XfC K (cl K c) := by
  unfold excB at h
  simp only [Bool.and_eq_true, decide_eq_true_eq] at h
  obtain ⟨h1, h2, h3, h4, h5, h6, h7, h8⟩ := h
  exact ⟨⟨h1, h2, h3, h4, h5, h6, h7, h8⟩, ⟨h1, h2, h3, h4⟩⟩
/-- which classes a clause catches -/
def mL (yes no : List Nat) : Nat → Option Bool := fun c => if c ∈ yes then some true else if c ∈ no then some false else none
def exmB (K : PySem.W.Frag) (cv : Value) (yes no : List Nat) : Bool := yes.all (fun c => decide (PySem.W.exmOne K (.ref (cl K c)) cv = some true)) && no.all fun c => decide (PySem.W.exmOne K (.ref (cl K c)) cv = some false)
theorem exmB_ok {K : PySem.W.Frag} {cv : Value} {yes no : List Nat} (h : exmB K cv yes no = true) : ∀ c b, mL yes no c = some b → PySem.W.exmOne K (.ref (cl K c)) cv = some b := by
  unfold exmB at h
  simp only [Bool.and_eq_true, decide_eq_true_eq, List.all_eq_true] at h
  obtain ⟨h1, h2⟩ := h
  intro c b e
  unfold mL at e
  split at e
  · rename_i m
    cases e
    exact h1 c m
  · split at e
    · rename_i m
      cases e
      exact h2 c m
    · cases e
end DL
/-! DL46: as He.hookX, the fragment reaching the statics too. -/
namespace DL
open PySem L2 He
def asY (g : Addr → Option Obj) (n : Nat) : List Addr := cStatics :: asD g n
abbrev lamTf : List Defn := lamDefs.map (·.1)
def obsY (n : Nat) (fa : List Fa) (fn : List DefD) (ex : PySem.W.Frag → Bool) (g : Addr → Option Obj) : AlX := (obsT fa fn [] (frT g (asY g n)), ex (frT g (asY g n)) && tabsB g lamTf (frT g (asY g n)))
theorem saysY_of {n : Nat} {fa : List Fa} {fn : List DefD} {ex : PySem.W.Frag → Bool} {w : World} {h : Heap} (e : obsY n fa fn ex h.get? = valX fn [] w) : SaysX fa fn [] lamTf ex w h (frT h.get? (asY h.get? n)) := by
  have e1 : obsT fa fn [] (frT h.get? (asY h.get? n)) = valT fn [] w := congrArg (fun z : AlX => z.1) e
  have e2 : (ex (frT h.get? (asY h.get? n)) && tabsB h.get? lamTf (frT h.get? (asY h.get? n))) = true := congrArg (fun z : AlX => z.2) e
  rw [Bool.and_eq_true] at e2
  have key : ∀ p ∈ lamTf, PySem.W.codeHdIn (frT h.get? (asY h.get? n)) (cT (frT h.get? (asY h.get? n)) p).1 (cT (frT h.get? (asY h.get? n)) p).2 = true ∧ ∃ o, h.get? (cT (frT h.get? (asY h.get? n)) p).2 = some o ∧ emptyTab o = true := fun p hp => by
    have e3 := List.all_eq_true.mp e2.2 p hp
    rw [Bool.and_eq_true] at e3
    refine ⟨e3.1, ?_⟩
    have e4 := e3.2
    cases q : h.get? (cT (frT h.get? (asY h.get? n)) p).2 with
    | none => rw [q] at e4; cases e4
    | some o => rw [q] at e4; exact ⟨o, rfl, e4⟩
  refine ⟨e1, e2.1, fun p hp => (key p hp).1, fun p hp => ?_, fun p hp => ?_⟩
  · obtain ⟨_, o, q, z⟩ := key p hp
    exact frT_none q z
  · obtain ⟨_, o, q, z⟩ := key p hp
    rw [q, emptyTab_eq z]
def hookY (n : Nat) (fa : List Fa) (fn : List DefD) (ex : PySem.W.Frag → Bool) : PySem.W.Hook where
  α := AlX
  obs := fun s => obsY n fa fn ex s.heap.get?
  val := fun w => valX fn [] w
  says := fun w h => ∃ K : PySem.W.Frag, K.In h ∧ SaysX fa fn [] lamTf ex w h K
  of := fun _ _ e => ⟨_, frT_in, saysY_of e⟩
  keeps := fun _ _ _ ⟨K, hK, c⟩ k => ⟨K, PySem.W.Frag.In.keeps hK k, ⟨c.t, c.more, c.hd, c.out, fun p hp => k _ _ (c.empty p hp)⟩⟩
theorem obsY_eq {n : Nat} {fa : List Fa} {fn : List DefD} {ex : PySem.W.Frag → Bool} {g : Addr → Option Obj} {s : Shared} (h : ∀ a, g a = s.heap.get? a) : obsY n fa fn ex g = (hookY n fa fn ex).obs s := by
  have e : g = s.heap.get? := funext h
  rw [e]
  rfl
theorem tabHead_of {fa : List Fa} {fn : List DefD} {ex : PySem.W.Frag → Bool} {w : World} {h : Heap} {K : PySem.W.Frag} (c : SaysX fa fn [] lamTf ex w h K) : TabHead K h :=
  ⟨fun p hp => c.hd p.1 (List.mem_map.mpr ⟨p, hp, rfl⟩), fun p hp => c.out p.1 (List.mem_map.mpr ⟨p, hp, rfl⟩), fun p hp => c.empty p.1 (List.mem_map.mpr ⟨p, hp, rfl⟩)⟩
end DL
/-! DL47: == and != of data with cells in it. -/
namespace DL
open PySem L2 PySem.Spec PyProof.Rows
def dctEq (e : D → D → Option Bool) (ls : List Key) (ys : List D) : List Key → List D → Option Bool
  | k :: ks, x :: xs => match dctEq e ls ys ks xs with
    | some b => (match lookK ls ys k with
      | none => some false
      | some y => match e x y with
        | some a => some (a && b)
        | none => none)
    | none => none
  | _, _ => some true
/-- == of data, cells looked into; of less than that depth -/
def eqM : Nat → Mu → D → D → Option Bool
  | 0, _, _, _ => none
  | n + 1, μ, x, y => match x, y with
    | .hdl l, .hdl m => if l = m then some true else (match μ[l]?, μ[m]? with
      | some (.dct ks xs), some (.dct ls ys) => if ks.length = xs.length ∧ ls.length = ys.length then (match dctEq (eqM n μ) ls ys ks xs with
          | some b => some (decide (ks.length = ls.length) && b)
          | none => none) else none
      | some (.lst xs), some (.lst ys) => eqL (eqM n μ) xs ys
      | _, _ => none)
    | x, y => match x.kd, y.kd with
      | .flat u, .flat v => some (eqV u v)
      | .tup xs, .tup ys => eqL (eqM n μ) xs ys
      | .lst xs, .lst ys => eqL (eqM n μ) xs ys
      | .none, _ => none
      | _, .none => none
      | _, _ => some false
def kdM (n : Nat) (μ : Mu) (x y : D) : Option Bool := match x.kd, y.kd with
  | .flat u, .flat v => some (eqV u v)
  | .tup xs, .tup ys => eqL (eqM n μ) xs ys
  | .lst xs, .lst ys => eqL (eqM n μ) xs ys
  | .none, _ => none
  | _, .none => none
  | _, _ => some false
def hdM (n : Nat) (μ : Mu) (l m : Nat) : Option Bool := match μ[l]?, μ[m]? with
  | some (.dct ks xs), some (.dct ls ys) => if ks.length = xs.length ∧ ls.length = ys.length then (match dctEq (eqM n μ) ls ys ks xs with
      | some b => some (decide (ks.length = ls.length) && b)
      | none => none) else none
  | some (.lst xs), some (.lst ys) => eqL (eqM n μ) xs ys
  | _, _ => none
theorem eqM_cases {n : Nat} {μ : Mu} {x y : D} {b : Bool} (h : eqM (n + 1) μ x y = some b) : (∃ l, x = .hdl l ∧ y = .hdl l ∧ b = true) ∨ (∃ l m, x = .hdl l ∧ y = .hdl m ∧ l ≠ m ∧ hdM n μ l m = some b) ∨ kdM n μ x y = some b := by
  unfold eqM at h
  split at h
  · rename_i l m
    split at h
    · rename_i e
      subst e
      cases h
      exact .inl ⟨l, rfl, rfl, rfl⟩
    · rename_i e
      exact .inr (.inl ⟨l, m, rfl, rfl, e, h⟩)
  · exact .inr (.inr h)
section
variable {X : Cx} {pins : List (Addr × Obj)} {σ : L2.St} {H : Hp} {s : Shared} {W : Wd} {μ : Mu}
theorem eqM_same (I : Inv X pins σ H s) (ok : Ok X.K W H μ) : ∀ (n : Nat) (v : V) (d e : D) (b : Bool), Rep X.K W v d → Rep X.K W v e → eqM n μ d e = some b → b = true
  | 0, _, _, _, _, _, _, h => by simp [eqM] at h
  | n + 1, v, d, e, b, r1, r2, h => by
    rcases eqM_cases h with ⟨l, _, _, hb⟩ | ⟨l, m, rfl, rfl, hne, h⟩ | h
    · exact hb
    · cases r1 with
      | hdl h1 => cases r2 with
        | hdl h2 => exact absurd rfl (ok.io_ne h2 h1 hne)
    · unfold kdM at h
      cases k1 : d.kd with
      | none => rw [k1] at h; cases h
      | flat u1 =>
        obtain ⟨rfl, f1⟩ := kd_flat r1 k1
        cases k2 : e.kd with
        | none => rw [k1, k2] at h; cases h
        | flat u2 =>
          obtain ⟨rfl, _⟩ := kd_flat r2 k2
          rw [k1, k2] at h
          cases h
          exact eqV_refl f1
        | tup ys =>
          obtain ⟨a, vs, rfl, _⟩ := kd_tup r2 k2
          simp [flatV] at f1
        | lst ys =>
          obtain ⟨a, vs, rfl, _⟩ := kd_lst r2 k2
          simp [flatV] at f1
      | tup xs =>
        obtain ⟨a, vs, rfl, h1, q1⟩ := kd_tup r1 k1
        cases k2 : e.kd with
        | none => rw [k1, k2] at h; cases h
        | flat u2 =>
          obtain ⟨rfl, f⟩ := kd_flat r2 k2
          simp [flatV] at f
        | tup ys =>
          obtain ⟨a', us, e', h2, q2⟩ := kd_tup r2 k2
          cases e'
          have ev := I.tuple_inj (same_t ok.sub h1) (same_t ok.sub h2)
          subst ev
          rw [k1, k2] at h
          exact eqL_same (fun v x y c a b z => eqM_same I ok n v x y c a b z) q1 q2 h
        | lst ys =>
          obtain ⟨a', us, e', h2, q2⟩ := kd_lst r2 k2
          cases e'
          obtain ⟨its, _, ⟨o, e1, c1, _⟩, _⟩ := I.tuple (same_t ok.sub h1)
          obtain ⟨its', _, ⟨o', n', e2, c2, _⟩, _⟩ := I.list (same_lq ok.sub h2).sq
          rw [e1] at e2
          cases e2
          rw [c1] at c2
          exact absurd c2 (by decide)
      | lst xs =>
        obtain ⟨a, vs, rfl, h1, q1⟩ := kd_lst r1 k1
        cases k2 : e.kd with
        | none => rw [k1, k2] at h; cases h
        | flat u2 =>
          obtain ⟨rfl, f⟩ := kd_flat r2 k2
          simp [flatV] at f
        | lst ys =>
          obtain ⟨a', us, e', h2, q2⟩ := kd_lst r2 k2
          cases e'
          have ev := I.list_inj (same_lq ok.sub h1).sq (same_lq ok.sub h2).sq
          subst ev
          rw [k1, k2] at h
          exact eqL_same (fun v x y c a b z => eqM_same I ok n v x y c a b z) q1 q2 h
        | tup ys =>
          obtain ⟨a', us, e', h2, q2⟩ := kd_tup r2 k2
          cases e'
          obtain ⟨its, _, ⟨o, e1, c1, _⟩, _⟩ := I.tuple (same_t ok.sub h2)
          obtain ⟨its', _, ⟨o', n', e2, c2, _⟩, _⟩ := I.list (same_lq ok.sub h1).sq
          rw [e1] at e2
          cases e2
          rw [c1] at c2
          exact absurd c2 (by decide)
def RcIn (prog : Program) (w : World) (op : CmpOp) (A : Around) (s : Shared) (y x : Value) (b : Bool) : Prop :=
  ∀ (E : Value → Shared → Prop) (Q : Value → Shared → Prop), Q (.bool b) s → wpAny (model prog w) A (richCompare op y x) Q E s
open PySem.SeqAt in
/-- the items of two lists, two tuples, as they lie there -/
theorem items_eq {A : Around} {P : Program} {w : World} {e : D → D → Option Bool} {xs ys : List D} {b : Bool} {vs us : List V} {its its' : List Value} {K : PySem.W.Frag} (q1 : Reps K W vs xs) (q2 : Reps K W us ys) (v1 : Vals vs its) (v2 : Vals us its') (h : eqL e xs ys = some b)
    (ih : ∀ x y c u v p q, Rep K W u x → Rep K W v y → RelV u p → RelV v q → e x y = some c → EqIn P w A s p q c) : ∀ j (h1 : j < its.toArray.size) (h2 : j < its'.toArray.size), EqIn P w A s its.toArray[j] its'.toArray[j] (atF e xs ys j) := fun j h3 h4 => by
  have l1 : its.toArray.size = xs.length := by rw [List.size_toArray, ← v1.length, q1.length]
  have l2 : its'.toArray.size = ys.length := by rw [List.size_toArray, ← v2.length, q2.length]
  obtain ⟨xd, ex⟩ : ∃ xd, xs[j]? = some xd := ⟨_, List.getElem?_eq_getElem (by rw [← l1]; exact h3)⟩
  obtain ⟨yd, ey⟩ : ∃ yd, ys[j]? = some yd := ⟨_, List.getElem?_eq_getElem (by rw [← l2]; exact h4)⟩
  obtain ⟨xv, e3, r3⟩ := q1.get ex
  obtain ⟨yv, e4, r4⟩ := q2.get ey
  obtain ⟨xu, e5, w5⟩ := v1.get e3
  obtain ⟨yu, e6, w6⟩ := v2.get e4
  have g1 : its.toArray[j] = xu := by
    have := List.getElem?_eq_some_iff.mp e5
    simpa using this.2
  have g2 : its'.toArray[j] = yu := by
    have := List.getElem?_eq_some_iff.mp e6
    simpa using this.2
  rw [g1, g2]
  exact ih xd yd _ xv yv xu yu r3 r4 w5 w6 (eqL_at h j xd yd ex ey)
open PySem.SeqAt in
theorem hits_in {A : Around} {P : Program} {w : World} {K : PySem.W.Frag} {e : D → D → Option Bool} {ls : List Key} {ys : List D} {us : List V} {vb : List (Key × Value)} (ry : Reps K W us ys) (rb : KV (ls.zip us) vb)
    (ih : ∀ x y c u v p q, Rep K W u x → Rep K W v y → RelV u p → RelV v q → e x y = some c → EqIn P w A s p q c) :
    ∀ {ks : List Key} {xs : List D} {vs : List V} {va : List (Key × Value)} {b : Bool}, Reps K W vs xs → KV (ks.zip vs) va → ks.length = xs.length → dctEq e ls ys ks xs = some b → PySem.W.KeqHitsIn P w A s vb va b
  | [], [], _, va, b, .nil, ra, _, h => by
    simp [dctEq] at h
    subst h
    unfold KV at ra
    cases ra
    exact .nil
  | k :: ks, x :: xs, _, va, b, .cons (v := v) (vs := vs) r rs, ra, hl, h => by
    unfold dctEq at h
    cases hr : dctEq e ls ys ks xs with
    | none => rw [hr] at h; cases h
    | some c =>
      rw [hr] at h
      unfold KV at ra
      rw [List.zip_cons_cons] at ra
      cases ra with
      | @cons p q ps qs hh tt =>
        obtain ⟨k', u⟩ := q
        obtain ⟨h1, h2⟩ := hh
        have h1 : k = k' := h1
        subst h1
        have h2 : RelV v u := h2
        have lr := look_rep (j := k) (ks := ls) ry
        have tl := hits_in ry rb ih rs tt (by simpa using hl) hr
        cases hk : lookK ls ys k with
        | none =>
          rw [hk] at lr h
          cases h
          exact .miss (RelO.none_of (by rw [← lr]; exact rb.val k))
        | some y =>
          rw [hk] at lr h
          obtain ⟨yv, e1, r1⟩ := lr
          obtain ⟨yu, e2, w2⟩ := RelO.some_of (v := yv) (o := valueAt vb k) (by rw [← e1]; exact rb.val k)
          cases he : e x y with
          | none => simp [he] at h
          | some a =>
            simp [he] at h
            rw [← h]
            exact .hit e2 (ih x y a v yv u yu r r1 h2 w2 he) tl
  | [], _ :: _, _, _, _, _, _, h, _ => by cases h
  | _ :: _, [], _, _, _, _, _, h, _ => by cases h
open PySem.SeqAt in
theorem eqM_in (I : Inv X pins σ H s) (ok : Ok X.K W H μ) : ∀ (n : Nat) (A : Around) (d e : D) (b : Bool) (u v : V) (p q : Value), A.units + n < cLine → Rep X.K W u d → Rep X.K W v e → RelV u p → RelV v q → eqM n μ d e = some b → EqIn X.prog X.w A s p q b ∧ ((∀ l, d ≠ .hdl l ∨ e ≠ .hdl l) → RcIn X.prog X.w .Eq A s p q b)
  | 0, _, _, _, _, _, _, _, _, _, _, _, _, _, h => by simp [eqM] at h
  | n + 1, A, d, e, b, u, v, p, q, hu, r1, r2, w1, w2, h => by
    have hu0 : A.units < cLine := by omega
    have ih : ∀ x y c u v p q, Rep X.K W u x → Rep X.K W v y → RelV u p → RelV v q → eqM n μ x y = some c → EqIn X.prog X.w A.in1 s p q c := fun x y c u v p q a1 a2 a3 a4 a5 => (eqM_in I ok n A.in1 x y c u v p q (by show A.units + 1 + n < cLine; omega) a1 a2 a3 a4 a5).1
    have both : ∀ {k : Bool}, (RcIn X.prog X.w .Eq A s p q b) → (∀ a, p = .ref a → q = .ref a → b = true) → (∃ a a', p = .ref a ∧ q = .ref a') → EqIn X.prog X.w A s p q b ∧ ((∀ l, d ≠ .hdl l ∨ e ≠ .hdl l) → RcIn X.prog X.w .Eq A s p q b) := fun {k} rc hs ⟨a, a', e1, e2⟩ => by
      refine ⟨?_, fun _ => rc⟩
      by_cases hne : a = a'
      · subst hne
        rw [hs a e1 e2, e1, e2]
        exact (EqAt.same _).inModel _ _
      · rw [e1, e2] at rc ⊢
        exact EqIn.of_refs hne rc
    rcases eqM_cases h with ⟨l, rfl, rfl, hb⟩ | ⟨l, m, rfl, rfl, hne, h⟩ | hk
    · subst hb
      refine ⟨?_, fun z => ?_⟩
      · cases r1 with
        | hdl h1 => cases r2 with
          | hdl h2 =>
            rw [h1] at h2
            cases h2
            cases w1
            cases w2
            exact (EqAt.same _).inModel _ _
      · rcases z l with z | z <;> exact absurd rfl z
    · cases r1 with
      | @hdl a _ h1 => cases r2 with
        | @hdl a' _ h2 =>
          have na : a ≠ a' := fun z => absurd z.symm (ok.io_ne h1 h2 (fun z => hne z.symm))
          cases w1
          cases w2
          have rc : RcIn X.prog X.w .Eq A s (.ref a) (.ref a') b := by
            unfold hdM at h
            split at h
            · rename_i ks xs ls ys m1 m2
              split at h
              · rename_i hl
                obtain ⟨o1, g1, vs, rfl, l1, q1⟩ := ok.cell l a _ h1 m1
                obtain ⟨o2, g2, us, rfl, l2, q2⟩ := ok.cell m a' _ h2 m2
                obtain ⟨_, ya, va, ra, da⟩ := (show ObjOk X.prog X.w H s.heap a (.dK (ks.zip vs)) from I.hok a _ g1)
                obtain ⟨_, yb, vb, rb, db⟩ := (show ObjOk X.prog X.w H s.heap a' (.dK (ls.zip us)) from I.hok a' _ g2)
                cases hd : dctEq (eqM n μ) ls ys ks xs with
                | none => rw [hd] at h; cases h
                | some c =>
                  rw [hd] at h
                  cases h
                  have hz := hits_in q2 rb ih q1 ra hl.1 hd
                  have e1 : va.length = ks.length := by rw [← ra.length, List.length_zip, ← l1, Nat.min_self]
                  have e2 : vb.length = ls.length := by rw [← rb.length, List.length_zip, ← l2, Nat.min_self]
                  intro E Q hq
                  refine PySem.W.keq_eqIn (knd := mixKind X.prog X.w) ya yb da db hu0 (fun _ => hz) ?_
                  rw [e1, e2]
                  exact hq
              · cases h
            · rename_i xs ys m1 m2
              obtain ⟨o1, g1, vs, rfl, q1⟩ := ok.cell l a _ h1 m1
              obtain ⟨o2, g2, us, rfl, q2⟩ := ok.cell m a' _ h2 m2
              obtain ⟨its, v1, ht, _⟩ := I.list (xs := vs) (.inl (.inl g1))
              obtain ⟨its', v2, ht', _⟩ := I.list (xs := us) (.inl (.inl g2))
              have z1 : its.toArray.size = xs.length := by rw [List.size_toArray, ← v1.length, q1.length]
              have z2 : its'.toArray.size = ys.length := by rw [List.size_toArray, ← v2.length, q2.length]
              have hv := eqL_val h
              intro E Q hq
              by_cases hl : xs.length = ys.length
              · refine rcIn_lists ht.isList ht'.isList (by rw [z1, z2]; exact hl) hu0 (items_eq q1 q2 v1 v2 h ih) ?_
                rw [hl, Nat.min_self, beq_self_eq_true, Bool.and_true] at hv
                rw [z1, hl, ← hv]
                exact hq
              · rw [show (xs.length == ys.length) = false from beq_eq_false_iff_ne.mpr hl, Bool.and_false] at hv
                rw [hv] at hq
                exact RcAt.lists_lengths ht.isList ht'.isList (by rw [z1, z2]; simpa using hl) hu0 X.prog X.w E Q hq
            · cases h
          exact ⟨EqIn.of_refs na rc, fun _ => rc⟩
    · have same : ∀ a, p = .ref a → q = .ref a → u = .ref a → v = .ref a → b = true := fun a _ _ e1 e2 => by
        subst e1
        subst e2
        exact eqM_same I ok (n + 1) _ d e b r1 r2 h
      have hk0 := hk
      unfold kdM at hk
      cases k1 : d.kd with
      | none => rw [k1] at hk; cases hk
      | flat u1 =>
        obtain ⟨rfl, f1⟩ := kd_flat r1 k1
        cases k2 : e.kd with
        | none => rw [k1, k2] at hk; cases hk
        | flat u2 =>
          obtain ⟨rfl, f2⟩ := kd_flat r2 k2
          rw [k1, k2] at hk
          cases hk
          exact ⟨(eqAt_V w1 w2 f1 f2).inModel _ _, fun _ => rc_flat w1 w2 f1 f2 _ _⟩
        | tup ys =>
          obtain ⟨a, vs, rfl, h2, _⟩ := kd_tup r2 k2
          cases w2
          obtain ⟨its, _, ht, _⟩ := I.tuple (same_t ok.sub h2)
          rw [k1, k2] at hk
          cases hk
          have z := flat_tuple (s := s) (A := A) w1 f1 (show s.heap.IsTuple a its.toArray from ht) hu0
          exact ⟨z.2.1.inModel _ _, fun _ => z.1 _ _⟩
        | lst ys =>
          obtain ⟨a, vs, rfl, h2, _⟩ := kd_lst r2 k2
          cases w2
          obtain ⟨its, _, ht, _⟩ := I.list (same_lq ok.sub h2).sq
          rw [k1, k2] at hk
          cases hk
          have z := flat_list (s := s) (A := A) w1 f1 ht.isList hu0
          exact ⟨z.2.1.inModel _ _, fun _ => z.1 _ _⟩
      | tup xs =>
        obtain ⟨a, vs, rfl, h1, q1⟩ := kd_tup r1 k1
        cases w1
        obtain ⟨its, v1, ht, _⟩ := I.tuple (same_t ok.sub h1)
        cases k2 : e.kd with
        | none => rw [k1, k2] at hk; cases hk
        | flat u2 =>
          obtain ⟨rfl, f2⟩ := kd_flat r2 k2
          rw [k1, k2] at hk
          cases hk
          have z := flat_tuple (s := s) (A := A) w2 f2 (show s.heap.IsTuple a its.toArray from ht) hu0
          exact ⟨z.2.2.2.inModel _ _, fun _ => z.2.2.1 _ _⟩
        | lst ys =>
          obtain ⟨a', us, rfl, h2, q2⟩ := kd_lst r2 k2
          cases w2
          obtain ⟨its', _, ht', _⟩ := I.list (same_lq ok.sub h2).sq
          rw [k1, k2] at hk
          cases hk
          exact ⟨(EqAt.tuple_list (show s.heap.IsTuple a its.toArray from ht) ht'.isList hu0).inModel _ _, fun _ => RcAt.tuple_list (show s.heap.IsTuple a its.toArray from ht) ht'.isList hu0 _ _⟩
        | tup ys =>
          obtain ⟨a', us, rfl, h2, q2⟩ := kd_tup r2 k2
          cases w2
          obtain ⟨its', v2, ht', _⟩ := I.tuple (same_t ok.sub h2)
          rw [k1, k2] at hk
          have l1 : its.toArray.size = xs.length := by rw [List.size_toArray, ← v1.length, q1.length]
          have l2 : its'.toArray.size = ys.length := by rw [List.size_toArray, ← v2.length, q2.length]
          refine both (k := b) (fun E Q hq => ?_) (fun z e1 e2 => same z e1 e2 (by cases e1; rfl) (by cases e2; rfl)) ⟨_, _, rfl, rfl⟩
          refine rcIn_tuples (show s.heap.IsTuple a its.toArray from ht) (show s.heap.IsTuple a' its'.toArray from ht') hu0 (items_eq q1 q2 v1 v2 hk ih) ?_
          rw [l1, l2, ← eqL_val hk]
          exact hq
      | lst xs =>
        obtain ⟨a, vs, rfl, h1, q1⟩ := kd_lst r1 k1
        cases w1
        obtain ⟨its, v1, ht, _⟩ := I.list (same_lq ok.sub h1).sq
        cases k2 : e.kd with
        | none => rw [k1, k2] at hk; cases hk
        | flat u2 =>
          obtain ⟨rfl, f2⟩ := kd_flat r2 k2
          rw [k1, k2] at hk
          cases hk
          have z := flat_list (s := s) (A := A) w2 f2 ht.isList hu0
          exact ⟨z.2.2.2.inModel _ _, fun _ => z.2.2.1 _ _⟩
        | tup ys =>
          obtain ⟨a', us, rfl, h2, q2⟩ := kd_tup r2 k2
          cases w2
          obtain ⟨its', _, ht', _⟩ := I.tuple (same_t ok.sub h2)
          rw [k1, k2] at hk
          cases hk
          exact ⟨(EqAt.list_tuple ht.isList (show s.heap.IsTuple a' its'.toArray from ht') hu0).inModel _ _, fun _ => RcAt.list_tuple ht.isList (show s.heap.IsTuple a' its'.toArray from ht') hu0 _ _⟩
        | lst ys =>
          obtain ⟨a', us, rfl, h2, q2⟩ := kd_lst r2 k2
          cases w2
          obtain ⟨its', v2, ht', _⟩ := I.list (same_lq ok.sub h2).sq
          rw [k1, k2] at hk
          have l1 : its.toArray.size = xs.length := by rw [List.size_toArray, ← v1.length, q1.length]
          have l2 : its'.toArray.size = ys.length := by rw [List.size_toArray, ← v2.length, q2.length]
          have hv := eqL_val hk
          refine both (k := b) (fun E Q hq => ?_) (fun z e1 e2 => same z e1 e2 (by cases e1; rfl) (by cases e2; rfl)) ⟨_, _, rfl, rfl⟩
          by_cases hl : xs.length = ys.length
          · refine rcIn_lists ht.isList ht'.isList (by rw [l1, l2]; exact hl) hu0 (items_eq q1 q2 v1 v2 hk ih) ?_
            rw [hl, Nat.min_self, beq_self_eq_true, Bool.and_true] at hv
            rw [l1, hl, ← hv]
            exact hq
          · rw [show (xs.length == ys.length) = false from beq_eq_false_iff_ne.mpr hl, Bool.and_false] at hv
            rw [hv] at hq
            exact RcAt.lists_lengths ht.isList ht'.isList (by rw [l1, l2]; simpa using hl) hu0 X.prog X.w E Q hq
end
end DL
/-! DL48: != of lists, tuples and dicts with cells in them. -/
namespace DL
open PySem L2 PySem.Spec PyProof.Rows
open PySem.SeqAt
open AutoSeq1 (wpAny_loadPart')
open MeetsSeq MeetsSeq2 MeetsSeq3 SeqRoads2
section
variable {P : Program} {w : World}
theorem neLoop (a b : Addr) (xs ys : Array Value) (n m : Nat) (da db : Option Addr) (sa sb : Array (Option Value)) (hz : xs.size = ys.size) (f : Nat → Bool) (k : Nat) :
    ∀ i : Nat, xs.size - i = k → MeetsIn P w (Builtin.«list.__eq__.loop» ⟨[.ref a, .ref b, rawInt i, rawInt 3], []⟩)
      (fun A R s => s.heap.get? a = some { cls := .type "list", dict := da, data := .seq xs n, slots := sa } ∧ s.heap.get? b = some { cls := .type "list", dict := db, data := .seq ys m, slots := sb } ∧
        (∀ j (h1 : j < xs.size) (h2 : j < ys.size), EqIn P w A.in1 s xs[j] ys[j] (f j)) ∧ R (.ok (.ret (.bool (!((List.range xs.size).drop i).all f)))) s) := by
  induction k with
  | zero =>
    intro i hk A R s z
    obtain ⟨hp, g, d, tk, os⟩ := s
    obtain ⟨ha, hb, he, z⟩ := z
    wp_walk using wpAny_loadPart' ha, wpAny_loadPart' hb
    have i1 : xs[((i : Nat) : Int).toNat]? = none := by simp; omega
    have i2 : ys[((i : Nat) : Int).toNat]? = none := by simp; omega
    have hd : (List.range xs.size).drop i = [] := by simp; omega
    rw [hd] at z
    rw [i1, i2]
    wp_walk using wpAny_loadPart' ha, wpAny_loadPart' hb
    show R (.ok (.ret (.bool (xs.size != ys.size)))) _
    rw [hz]
    simpa using z
  | succ k ih =>
    intro i hk A R s z
    obtain ⟨hp, g, d, tk, os⟩ := s
    obtain ⟨ha, hb, he, z⟩ := z
    wp_walk using wpAny_loadPart' ha, wpAny_loadPart' hb
    have q1 : i < xs.size := by omega
    have q2 : i < ys.size := by omega
    have i1 : xs[((i : Nat) : Int).toNat]? = some xs[i] := by simp [q1]
    have i2 : ys[((i : Nat) : Int).toNat]? = some ys[i] := by simp [q2]
    have hd : (List.range xs.size).drop i = i :: (List.range xs.size).drop (i + 1) := by simp [List.drop_eq_getElem_cons, q1]
    have hc : ((i : Int) + 1) = ((i + 1 : Nat) : Int) := by push_cast; rfl
    rw [hd, List.all_cons] at z
    rw [i1, i2]
    refine wpAny_bind (he i q1 q2 _ _ ?_)
    cases hf : f i with
    | true =>
      rw [hf] at z
      wp_walk
      rw [hc]
      refine ⟨plainId_quiet plain_eq_loop _, codeAny_builtin entry_eq_loop ?_⟩
      rw [Around.under_plainId plain_eq_loop _]
      exact ih (i + 1) (by omega) A R _ ⟨ha, hb, he, by simpa using z⟩
    | false =>
      rw [hf] at z
      wp_walk using wpAny_loadPart' ha, wpAny_loadPart' hb
      rw [i1, i2]
      wp_walk
      simpa using z
theorem listNe (a b : Addr) (xs ys : Array Value) (n m : Nat) (da db : Option Addr) (sa sb : Array (Option Value)) (hz : xs.size = ys.size) (f : Nat → Bool) :
    MeetsIn P w (Builtin.«list.__ne__» ⟨[.ref a, .ref b], []⟩)
      (fun A R s => s.heap.get? a = some { cls := .type "list", dict := da, data := .seq xs n, slots := sa } ∧ s.heap.get? b = some { cls := .type "list", dict := db, data := .seq ys m, slots := sb } ∧
        (∀ j (h1 : j < xs.size) (h2 : j < ys.size), EqIn P w A.in1 s xs[j] ys[j] (f j)) ∧ R (.ok (.ret (.bool (!(List.range xs.size).all f)))) s) := by
  intro A R s z
  obtain ⟨hp, g, d, tk, os⟩ := s
  obtain ⟨ha, hb, he, z⟩ := z
  have f3 := AutoSeq1.sub_list_list
  have hn : ¬ (xs.size != ys.size) = true := by simp [hz]
  wp_walk using wpAny_loadPart' ha, wpAny_loadPart' hb
  refine ⟨plainId_quiet plain_eq_loop _, codeAny_builtin entry_eq_loop ?_⟩
  rw [Around.under_plainId plain_eq_loop _]
  exact neLoop a b xs ys n m da db sa sb hz f _ 0 rfl A R _ ⟨ha, hb, he, by simpa using z⟩
theorem rcNe_lists {A : Around} {s : Shared} {E : Value → Shared → Prop} {a b : Addr} {xs ys : Array Value} {f : Nat → Bool} {Q : Value → Shared → Prop} (ha : s.heap.IsList a xs) (hb : s.heap.IsList b ys) (hz : xs.size = ys.size) (hu : A.units < cLine)
    (he : ∀ j (h1 : j < xs.size) (h2 : j < ys.size), EqIn P w A.in1 s xs[j] ys[j] (f j)) (q : Q (.bool (!(List.range xs.size).all f)) s) : wpAny (model P w) A (richCompare .NotEq (.ref a) (.ref b)) Q E s := by
  obtain ⟨⟨c1, dd, dt, sl⟩, ho, hc, n, hd⟩ := id ha
  obtain ⟨⟨c2, dd2, dt2, sl2⟩, ho2, hc2, n2, hd2⟩ := id hb
  simp only at hc hd hc2 hd2
  subst hc hd hc2 hd2
  have fin : Value.bool (!(List.range xs.size).all f) ≠ Value.notImplemented ∧ Q (.bool (!(List.range xs.size).all f)) s := ⟨(fun x => nomatch x), q⟩
  exact wpAny_richCompare_same_room (T := "list") (op := .NotEq) ⟨_, ho, rfl⟩ ⟨_, ho2, rfl⟩ F.slot_list_ne (call_meetsIn F.slot_list_ne ⟨_, ho, rfl⟩ F.entry_list_ne (F.args_list_ne_2 _ _) (listNe a b xs ys n n2 dd dd2 sl sl2 hz f) ⟨ho, ho2, he, fin⟩) hu
theorem rcNe_len {A : Around} {s : Shared} {E : Value → Shared → Prop} {a b : Addr} {xs ys : Array Value} {Q : Value → Shared → Prop} (ha : s.heap.IsList a xs) (hb : s.heap.IsList b ys) (hz : (xs.size != ys.size) = true) (hu : A.units < cLine)
    (q : Q (.bool true) s) : wpAny (model P w) A (richCompare .NotEq (.ref a) (.ref b)) Q E s := by
  obtain ⟨⟨c1, dd, dt, sl⟩, ho, hc, n, hd⟩ := id ha
  obtain ⟨⟨c2, dd2, dt2, sl2⟩, ho2, hc2, n2, hd2⟩ := id hb
  simp only at hc hd hc2 hd2
  subst hc hd hc2 hd2
  have fin : Value.bool true ≠ Value.notImplemented ∧ Q (.bool true) s := ⟨(fun x => nomatch x), q⟩
  exact wpAny_richCompare_same_room (T := "list") (op := .NotEq) ⟨_, ho, rfl⟩ ⟨_, ho2, rfl⟩ F.slot_list_ne (call_meets F.slot_list_ne ⟨_, ho, rfl⟩ F.entry_list_ne (F.args_list_ne_2 _ _) (list_ne_lengthsAt a b xs ys n n2 dd dd2 sl sl2 hz) ⟨ho, ho2, fin⟩) hu
end
section
variable {P : Program} {w : World} {κ : Type} [DecidableEq κ] {knd : KeyKind P w κ} {A : Around} {E : Value → Shared → Prop} {s : Shared}
theorem rcNe_dicts {a b : Addr} {ka kb : List (κ × Value)} {r : Bool} {Q : Value → Shared → Prop} (ha : (a == sysModules) = false) (hb : (b == sysModules) = false)
    (da : s.heap.DictOf knd a ka) (db : s.heap.DictOf knd b kb) (hu : A.units < cLine) (hits : ka.length = kb.length → PySem.W.KeqHitsIn P w A.in1 s kb ka r) (q : Q (.bool (!(ka.length == kb.length && r))) s) :
    wpAny (model P w) A (compareOp .NotEq (.ref a) (.ref b)) Q E s := by
  refine wpAny_richCompare_same_room (op := .NotEq) da.typeIs db.typeIs PySem.F.slot_dict_ne (wpAny_call_entry PySem.F.slot_dict_ne da.typeIs PySem.F.entry_dict_ne ?_ (PySem.F.args_dict_ne_2 _ _)) hu
  show wpAny _ _ (Builtin.Dict.dictSlotArgs "__ne__" ⟨[.ref a, .ref b], []⟩ >>= fun _ => _) _ _ s
  refine wpAny_bind ?_
  unfold Builtin.Dict.dictSlotArgs
  refine wpAny_bind (wpAny_notOrdered_dict da.typeIs ?_)
  show wpAny _ _ (pure (Value.ref a, Value.ref b)) (fun _ _ => _) _ s
  refine wpAny_pure ?_
  refine wpAny_bind (wpAny_isInstance (T := "dict") db.typeIs PySem.F.sub_dict_dict ?_)
  simp only [Bool.not_true, Bool.false_eq_true, if_false]
  refine wpAny_bind (wpAny_pure (wpAny_bind (wpAny_pure ?_)))
  refine wpAny_bind (PySem.W.keq_samePairsIn ha hb da db hits ?_)
  refine wpAny_pure ⟨_, rfl, (fun x => nomatch x), ?_⟩
  simpa using q
end
section
variable {X : Cx} {pins : List (Addr × Obj)} {σ : L2.St} {H : Hp} {s : Shared} {W : Wd} {μ : Mu}
def neOk : D → D → Bool
  | .hdl l, .hdl m => decide (l ≠ m)
  | .lst _, .lst _ => true
  | _, _ => false
theorem neM_in (I : Inv X pins σ H s) (ok : Ok X.K W H μ) (n : Nat) (A : Around) (d e : D) (b : Bool) (u v : V) (p q : Value) (hu : A.units + (n + 1) < cLine) (r1 : Rep X.K W u d) (r2 : Rep X.K W v e) (w1 : RelV u p) (w2 : RelV v q) (hn : neOk d e = true) (h : eqM (n + 1) μ d e = some b) : RcIn X.prog X.w .NotEq A s p q (!b) := by
  have hu0 : A.units < cLine := by omega
  have ih : ∀ x y c u v p q, Rep X.K W u x → Rep X.K W v y → RelV u p → RelV v q → eqM n μ x y = some c → EqIn X.prog X.w A.in1 s p q c := fun x y c u v p q a1 a2 a3 a4 a5 => (eqM_in I ok n A.in1 x y c u v p q (by show A.units + 1 + n < cLine; omega) a1 a2 a3 a4 a5).1
  have lists : ∀ {a a' : Addr} {xs ys : List D} {vs us : List V}, SqL X.K H a vs → SqL X.K H a' us → Reps X.K W vs xs → Reps X.K W us ys → eqL (eqM n μ) xs ys = some b → RcIn X.prog X.w .NotEq A s (.ref a) (.ref a') (!b) := fun {a a' xs ys vs us} h1 h2 q1 q2 h => by
    obtain ⟨its, v1, ht, _⟩ := I.list h1
    obtain ⟨its', v2, ht', _⟩ := I.list h2
    have z1 : its.toArray.size = xs.length := by rw [List.size_toArray, ← v1.length, q1.length]
    have z2 : its'.toArray.size = ys.length := by rw [List.size_toArray, ← v2.length, q2.length]
    have hv := eqL_val h
    intro E Q hq
    by_cases hl : xs.length = ys.length
    · refine rcNe_lists ht.isList ht'.isList (by rw [z1, z2]; exact hl) hu0 (items_eq q1 q2 v1 v2 h ih) ?_
      rw [hl, Nat.min_self, beq_self_eq_true, Bool.and_true] at hv
      rw [z1, hl, ← hv]
      exact hq
    · rw [show (xs.length == ys.length) = false from beq_eq_false_iff_ne.mpr hl, Bool.and_false] at hv
      rw [hv] at hq
      exact rcNe_len ht.isList ht'.isList (by rw [z1, z2]; simpa using hl) hu0 hq
  unfold neOk at hn
  split at hn
  · rename_i l m
    have hne : l ≠ m := of_decide_eq_true hn
    rcases eqM_cases h with ⟨k, e1, e2, _⟩ | ⟨l', m', e1, e2, _, h⟩ | hk
    · cases e1; cases e2; exact absurd rfl hne
    · cases e1
      cases e2
      cases r1 with
      | @hdl a _ h1 => cases r2 with
        | @hdl a' _ h2 =>
          cases w1
          cases w2
          unfold hdM at h
          split at h
          · rename_i ks xs ls ys m1 m2
            split at h
            · rename_i hl
              obtain ⟨o1, g1, vs, rfl, l1, q1⟩ := ok.cell l a _ h1 m1
              obtain ⟨o2, g2, us, rfl, l2, q2⟩ := ok.cell m a' _ h2 m2
              obtain ⟨_, ya, va, ra, da⟩ := (show ObjOk X.prog X.w H s.heap a (.dK (ks.zip vs)) from I.hok a _ g1)
              obtain ⟨_, yb, vb, rb, db⟩ := (show ObjOk X.prog X.w H s.heap a' (.dK (ls.zip us)) from I.hok a' _ g2)
              cases hd : dctEq (eqM n μ) ls ys ks xs with
              | none => rw [hd] at h; cases h
              | some c =>
                rw [hd] at h
                cases h
                have hz := hits_in q2 rb ih q1 ra hl.1 hd
                have e1 : va.length = ks.length := by rw [← ra.length, List.length_zip, ← l1, Nat.min_self]
                have e2 : vb.length = ls.length := by rw [← rb.length, List.length_zip, ← l2, Nat.min_self]
                intro E Q hq
                refine rcNe_dicts (knd := mixKind X.prog X.w) ya yb da db hu0 (fun _ => hz) ?_
                rw [e1, e2]
                exact hq
            · cases h
          · rename_i xs ys m1 m2
            obtain ⟨o1, g1, vs, rfl, q1⟩ := ok.cell l a _ h1 m1
            obtain ⟨o2, g2, us, rfl, q2⟩ := ok.cell m a' _ h2 m2
            exact lists (.inl (.inl g1)) (.inl (.inl g2)) q1 q2 h
          · cases h
    · simp [kdM, D.kd] at hk
  · rename_i xs ys
    rcases eqM_cases h with ⟨k, e1, _⟩ | ⟨l', m', e1, _⟩ | hk
    · cases e1
    · cases e1
    · cases r1 with
      | lst z1 h1 q1 => cases r2 with
        | lst z2 h2 q2 =>
          cases w1
          cases w2
          exact lists (same_lq ok.sub h1).sq (same_lq ok.sub h2).sq q1 q2 hk
  · cases hn
end
/-- one and the same cell on both sides -/
def oneCell : D → D → Bool
  | .hdl l, .hdl m => decide (l = m)
  | _, _ => false
def dEqM : D → D → Mu → R D := fun x y μ => if oneCell x y = true then .bad else R.of ((eqM 20 μ x y).map .bl) μ
def dNeM : D → D → Mu → R D := fun x y μ => if neOk x y = true then R.of ((eqM 20 μ x y).map fun b => .bl (!b)) μ else dNeX x y μ
section
variable {X : Cx} {E : WX}
theorem opx_eqM (hu : X.A.units + 64 < cLine) : OpX X E (compareOp .Eq) dEqM := by
  intro pins s σ H x y v u Q I rx ry q
  obtain ⟨E', W, μ, dx, dy, ok, r1, r2, p⟩ := q
  unfold dEqM at p
  split at p
  · exact p.elim
  · rename_i ho
    revert p
    cases h : eqM 20 μ dx dy with
    | none => exact fun p => p.elim
    | some b =>
      intro p
      have z := (eqM_in I ok 20 X.A dx dy b x y v u (by omega) r1 r2 rx ry h).2 (fun l => by
        by_cases e1 : dx = .hdl l
        · by_cases e2 : dy = .hdl l
          · subst e1
            subst e2
            simp [oneCell] at ho
          · exact .inr e2
        · exact .inl e1)
      exact z X.xe _ ⟨.bl b, H, I, rfl, post_pure ok p (.bl b)⟩
theorem opx_neM (hu : X.A.units + 64 < cLine) : OpX X E (compareOp .NotEq) dNeM := by
  intro pins s σ H x y v u Q I rx ry q
  obtain ⟨E', W, μ, dx, dy, ok, r1, r2, p⟩ := q
  unfold dNeM at p
  split at p
  · rename_i hn
    revert p
    cases h : eqM 20 μ dx dy with
    | none => exact fun p => p.elim
    | some b =>
      intro p
      exact neM_in I ok 19 X.A dx dy b x y v u (by omega) r1 r2 rx ry hn h X.xe _ ⟨.bl (!b), H, I, rfl, post_pure ok p (.bl _)⟩
  · exact opx_neX (E := E) hu pins s σ H x y v u Q I rx ry ⟨E', W, μ, dx, dy, ok, r1, r2, p⟩
end
end DL
/-! DL49: dict comprehensions. -/
namespace DL
open PySem L2 PySem.Spec PyProof.Rows
def dcD (t : Tg) (ft : FT) (fk fe : FE) (ρ : En) : List D → Mu → List Key × List D → R (List Key × List D)
  | [], μ, q => .ok q μ
  | x :: xs, μ, q => match asg t x ρ with
    | none => .bad
    | some ρ1 => (ft ρ1 μ).nox.bind fun b μ1 => if b = true then (fk ρ1 μ1).nox.bind fun k μ2 => (fe ρ1 μ2).nox.bind fun y μ3 => (match keyD k with
        | some j => dcD t ft fk fe ρ xs μ3 (putD q.1 q.2 j y)
        | none => .bad) else dcD t ft fk fe ρ xs μ1 q
def ddc (fi : FA) (vs : List Nat) (t : Tg) (ft : FT) (fk fe : FE) : FE := fun ρ μ => (fi ρ μ).bind fun xs μ1 => (dcD t ft fk fe (wipeD ρ vs) xs μ1 ([], [])).bind fun q μ2 => .ok (.hdl μ2.length) (μ2 ++ [.dct q.1 q.2])
/-- an object that stands outside becomes a cell -/
theorem okAdopt {K : PySem.W.Frag} {W : Wd} {H : Hp} {μ : Mu} {p : Addr} {m : MO} {o : HO} (ok : Ok K W H μ) (h : H p = some o) (h1 : W.S p = none) (h2 : p ∉ W.io) (c : CellO K W m o) : Ok K (W.cell p) H (μ ++ [m]) := by
  have le : Le W (W.cell p) := ⟨Same.refl _, List.prefix_append _ _⟩
  have get : ∀ (l : Nat) a k, (W.io ++ [p])[l]? = some a → (μ ++ [m])[l]? = some k → (W.io[l]? = some a ∧ μ[l]? = some k) ∨ (a = p ∧ k = m) := fun l a k e1 e2 => by
    by_cases hl : l < W.io.length
    · rw [List.getElem?_append_left hl] at e1
      rw [List.getElem?_append_left (by rw [← ok.len]; exact hl)] at e2
      exact .inl ⟨e1, e2⟩
    · rw [List.getElem?_append_right (by omega)] at e1
      rw [List.getElem?_append_right (by rw [← ok.len]; omega), ← ok.len] at e2
      cases hz : l - W.io.length with
      | zero =>
        rw [hz] at e1 e2
        simp at e1 e2
        exact .inr ⟨e1.symm, e2.symm⟩
      | succ n =>
        rw [hz] at e1
        simp at e1
  refine ⟨ok.sub, by simp [Wd.cell, ok.len], ?_, fun l a k e1 e2 n => ?_, fun l a k e1 e2 => ?_, ⟨ok.tab.all, ok.tab.no⟩⟩
  · show (W.io ++ [p]).Nodup
    rw [List.nodup_append]
    exact ⟨ok.nd, by simp, fun x hx y hy z => h2 (by
      have e : y = p := by simpa using hy
      rw [← e, ← z]; exact hx)⟩
  · show W.S a = none
    rcases get l a k e1 e2 with ⟨e1, e2⟩ | ⟨rfl, rfl⟩
    · exact ok.apart l a k e1 e2 n
    · exact h1
  · rcases get l a k e1 e2 with ⟨e1, e2⟩ | ⟨rfl, rfl⟩
    · exact (ok.cell l a k e1 e2).mono le fun u e => e
    · exact ⟨o, h, c.mono le⟩
section
variable {X : Cx} {E : WX} {pos : Pos}
theorem tDc_of {fi : FA} {vs : List Nat} {t : Tg} {ft : FT} {fk fe : FE} (hsub : ∀ i ∈ t.slots, i ∈ vs) : ∀ σ H Q, rE X.K E (ddc fi vs t ft fk fe) σ H Q → tDc (rI X.K E fi) (rG X.K t) (rT X.K E0 ft) (rE X.K E0 fk) (rE X.K E0 fe) vs σ H Q := fun σ H Q ⟨W, ρ, μ, ok, en, p⟩ => by
  refine ⟨W, ρ, μ, ok, en, ?_⟩
  unfold ddc at p
  revert p
  cases fi ρ μ with
  | ex c fs μ1 => exact fun p => p
  | bad => exact fun p => p
  | ok xs μ1 =>
    rw [R.bind_ok]
    intro p W1 J H1 g1 o1 wk Dn hD
    have hz := wk.len
    have en1 := (en.mono g1.le).wipe vs
    refine ⟨fun i m H2 => m = xs.length - i ∧ i ≤ xs.length ∧ ∃ W2 μ2 ks acc ds, Go W1 H1 W2 H2 ∧ Ok X.K W2 H2 μ2 ∧ H2 Dn = some (.dK (ks.zip acc)) ∧ Dn ∉ W2.io ∧ W2.S Dn = none ∧ Reps X.K W2 acc ds ∧ ks.Nodup ∧ ks.length = acc.length ∧ acc.length ≤ i ∧ postE X.K (WE E σ) W1 H1 ((dcD t ft fk fe (wipeD ρ vs) (xs.drop i) μ2 (ks, ds)).bind fun q μ3 => .ok (.hdl μ3.length) (μ3 ++ [.dct q.1 q.2])) Q,
      ⟨xs.length, by simp, Nat.zero_le _, W1, μ1, [], [], [], (Go.refl _ _).other hD, o1.other (o1.snone hD) (o1.notio hD) (.inl hD), upd_same, o1.notio hD, o1.snone hD, .nil, List.nodup_nil, rfl, Nat.le_refl _, ?_⟩, ?_⟩
    · exact post.mono g1 p
    rintro i m H2 ⟨rfl, hi, W2, μ2, ks, acc, ds, g2, o2, hacc, n2, s2, r2, nd2, kl2, l2, p2⟩
    have sm : Same W1.S H2 := g2.le.s.trans o2.sub
    by_cases hlt : i < xs.length
    · rw [List.drop_eq_getElem_cons hlt] at p2
      unfold dcD at p2
      refine .inr ⟨wk.go H2 i sm hlt, fun H3 => ∃ W3 μ3 ks acc ds, Go W1 H1 W3 H3 ∧ Ok X.K W3 H3 μ3 ∧ H3 Dn = some (.dK (ks.zip acc)) ∧ Dn ∉ W3.io ∧ W3.S Dn = none ∧ Reps X.K W3 acc ds ∧ ks.Nodup ∧ ks.length = acc.length ∧ acc.length ≤ i + 1 ∧ postE X.K (WE E σ) W1 H1 ((dcD t ft fk fe (wipeD ρ vs) (xs.drop (i + 1)) μ3 (ks, ds)).bind fun q μ3 => .ok (.hdl μ3.length) (μ3 ++ [.dct q.1 q.2])) Q,
        fun H3 ⟨W3, μ3, ks, acc, ds, q⟩ => ⟨xs.length - (i + 1), by omega, rfl, hlt, W3, μ3, ks, acc, ds, q⟩, fun x H3 y => ?_⟩
      obtain ⟨W3, g3, o3, r3⟩ := wk.yld H2 i x H3 sm y xs[i] (List.getElem?_eq_getElem hlt) W2 μ2 g2.le o2
      obtain ⟨a3, s3, n3⟩ := g3.out hacc s2 n2
      revert p2
      cases e : asg t xs[i] (wipeD ρ vs) with
      | none => exact fun p => p.elim
      | some ρ3 =>
        dsimp only
        intro p2
        refine ⟨W3, wipeD ρ vs, ρ3, xs[i], μ2, o3, en1.mono (g2.le.trans g3.le), r3, e, fun σ4 en4 b4 => ⟨wipe_but hsub b4, ?_⟩⟩
        refine ⟨W3, ρ3, μ2, o3, en4, ?_⟩
        revert p2
        cases ft ρ3 μ2 with
        | ex c fs μ4 => exact fun p => p.elim
        | bad => exact fun p => p.elim
        | ok b μ4 =>
          rw [R.nox_ok, R.bind_ok]
          intro p2 W4 H4 g4 o4
          obtain ⟨a4, s4, n4⟩ := g4.out a3 s3 n3
          cases b with
          | false =>
            rw [if_neg Bool.false_ne_true] at p2 ⊢
            exact ⟨W4, μ4, ks, acc, ds, (g2.trans g3).trans g4, o4, a4, n4, s4, r2.mono (g3.le.trans g4.le), nd2, kl2, by omega, p2⟩
          | true =>
            rw [if_pos rfl] at p2 ⊢
            refine ⟨W4, ρ3, μ4, o4, en4.mono g4.le, ?_⟩
            revert p2
            cases fk ρ3 μ4 with
            | ex c fs μ5 => exact fun p => p.elim
            | bad => exact fun p => p.elim
            | ok kd μ5 =>
              rw [R.nox_ok, R.bind_ok]
              intro p2 W5 kv H5 g5 o5 r5
              obtain ⟨a5, s5, n5⟩ := g5.out a4 s4 n4
              refine ⟨W5, ρ3, μ5, o5, (en4.mono g4.le).mono g5.le, ?_⟩
              revert p2
              cases fe ρ3 μ5 with
              | ex c fs μ6 => exact fun p => p.elim
              | bad => exact fun p => p.elim
              | ok yd μ6 =>
                rw [R.nox_ok, R.bind_ok]
                cases hk : keyD kd with
                | none => exact fun p => p.elim
                | some j =>
                  dsimp only
                  intro p2 W6 yv H6 g6 o6 r6
                  obtain ⟨a6, s6, n6⟩ := g6.out a5 s5 n5
                  have ek := key_rep r5 hk
                  have dl : ks.length = ds.length := by rw [kl2, r2.length]
                  obtain ⟨pz, pl⟩ := put_zip (j := j) (d := yd) (v := yv) (xs := ds) nd2 kl2 dl
                  have rr := putVs_reps (j := j) r6 kl2 (r2.mono (((g3.le.trans g4.le).trans g5.le).trans g6.le))
                  have lp := length_putK (ks.zip acc) j yv
                  have lz : (ks.zip acc).length = acc.length := by rw [List.length_zip, kl2, Nat.min_self]
                  refine ⟨_, j, ek, a6, ?_, W6, μ6, (putD ks ds j yd).1, putVs ks acc j yv, (putD ks ds j yd).2, ((((g2.trans g3).trans g4).trans g5).trans g6).other hD, o6.other s6 n6 (.inr ⟨_, a6, (fun _ z => nomatch z), (fun _ z => nomatch z)⟩), by rw [← pz]; exact upd_same, n6, s6, rr, putD_nodup nd2, pl, ?_, p2⟩
                  · rw [lz]; omega
                  · rw [pz, List.length_zip, pl, Nat.min_self] at lp
                    omega
    · have ei : i = xs.length := by omega
      subst ei
      rw [List.drop_length] at p2
      unfold dcD at p2
      rw [R.bind_ok] at p2
      refine .inl ⟨wk.stop H2 _ sm (Nat.le_refl _), ?_⟩
      have ok3 := okAdopt (m := .dct ks ds) o2 hacc s2 n2 ⟨acc, rfl, kl2, r2⟩
      refine p2 (W2.cell Dn) (.ref Dn) H2 ⟨g2.le.trans ⟨Same.refl _, List.prefix_append _ _⟩, g2.kept, g2.grow, fun a e => ?_, g2.newS⟩ ok3 (.hdl ?_)
      · have e : a ∈ W2.io ++ [Dn] := e
        rcases List.mem_append.mp e with e | e
        · exact g2.newio a e
        · have e : a = Dn := by simpa using e
          rw [e]; exact .inr hD
      · show (W2.io ++ [Dn])[μ2.length]? = some Dn
        rw [← o2.len]
        simp
theorem de_dc {kx vx tg iter : Expr} {ifs : List Expr} {scope : Scope} {fi : FA} {t : Tg} {ft : FT} {fk fe : FE} (own : List (Str × Nat)) (hc : X.calm = true) (hN : X.N.Nodup) (hi : DI X E tg iter fi) (ok : BlkOk X.N X.env.scope scope own)
    (hg : ∀ (s : Shared) (H : Hp) (C : Addr) (cl : List (Str × Addr)) (fp : List Addr), DG (X.blk s H scope (compEnvC scope cl C X.env) fp) tg t) (ht : ∀ (s : Shared) (H : Hp) (C : Addr) (cl : List (Str × Addr)) (fp : List Addr), DTs (X.blk s H scope (compEnvC scope cl C X.env) fp) ifs ft)
    (hk : ∀ (s : Shared) (H : Hp) (C : Addr) (cl : List (Str × Addr)) (fp : List Addr), DE (X.blk s H scope (compEnvC scope cl C X.env) fp) E0 kx fk)
    (he : ∀ (s : Shared) (H : Hp) (C : Addr) (cl : List (Str × Addr)) (fp : List Addr), DE (X.blk s H scope (compEnvC scope cl C X.env) fp) E0 vx fe) (hsub : ∀ i ∈ t.slots, i ∈ own.map (·.2) := by decide) (hs : ∀ x, foldedSetIterable iter X.env x = pure x := by intro _; rfl) :
    DE X E (.DictComp kx vx [⟨tg, iter, ifs, 0⟩] scope pos) (ddc fi (own.map (·.2)) t ft fk fe) := pe_imp (pe_dc (tk := rE X.K E0 fk) (tv := rE X.K E0 fe) (g := rG X.K t) (tt := rT X.K E0 ft) hc hN hi ok hg ht hk he hs) (tDc_of hsub)
end
end DL
/-! DL50: walks over d.items(), the dict locked meanwhile. -/
namespace DL
open PySem L2 PySem.Spec PyProof.Rows
section
variable {K : PySem.W.Frag} {W W2 : Wd} {H H2 : Hp} {μ μ2 : Mu} {a : Addr} {l : Nat} {m : MO} {od : Obj} {u : HO}
theorem lock_ok (ok : Ok K W H μ) (h1 : W.io[l]? = some a) (h2 : μ[l]? = some m) (hg : m ≠ .gone) : Ok K (W.new a (.frz od u)) (upd H a (.frz od u)) (μ.set l .gone) ∧ Le W (W.new a (.frz od u)) := by
  have ha : W.S a = none := ok.apart l a m h1 h2 hg
  have le : Le W (W.new a (.frz od u)) := ⟨same_new ha, List.prefix_refl _⟩
  obtain ⟨o3, ho3, hc3⟩ := ok.cell l a m h1 h2
  refine ⟨⟨fun b x e => ?_, by rw [List.length_set]; exact ok.len, ok.nd, fun l2 b k e1 e2 n => ?_, fun l2 b k e1 e2 => ?_, ⟨tabs_upd ok.tab.all ho3 hc3.plain, fun q hq => (upd_ne (ok.tab.ne ho3 hc3.plain.1 q hq)).trans (ok.tab.no q hq)⟩⟩, le⟩
  · have e : upd W.S a (.frz od u) b = some x := e
    by_cases z : b = a
    · rw [z] at e ⊢
      rw [upd_same] at e ⊢
      exact e
    · rw [upd_ne z] at e ⊢
      exact ok.sub _ _ e
  · show upd W.S a (.frz od u) b = none
    by_cases z : l2 = l
    · subst z
      rw [List.getElem?_set_self (List.getElem?_eq_some_iff.mp h2).1] at e2
      cases e2
      exact absurd rfl n
    · rw [List.getElem?_set_ne (Ne.symm z)] at e2
      rw [upd_ne (ok.io_ne h1 e1 z)]
      exact ok.apart l2 b k e1 e2 n
  · by_cases z : l2 = l
    · subst z
      rw [List.getElem?_set_self (List.getElem?_eq_some_iff.mp h2).1] at e2
      cases e2
      have e1 : W.io[l2]? = some b := e1
      rw [h1] at e1
      cases e1
      exact ⟨_, upd_same, (fun fs z => nomatch z), (fun fs z => nomatch z), (fun fs z => nomatch z)⟩
    · rw [List.getElem?_set_ne (Ne.symm z)] at e2
      exact (ok.cell l2 b k e1 e2).mono le fun x e => by
        rw [upd_ne (ok.io_ne h1 e1 z)]
        exact e
/-- what is locked is no list, no tuple, no object -/
def Aside (u : HO) : Prop := (∀ xs, u ≠ .lst xs) ∧ ∀ xs, u ≠ .tup xs
def Wd.less (W : Wd) (a : Addr) : Wd := ⟨del W.S a, W.io⟩
theorem less_rd {b : Addr} {x : HO} (h : W.S a = some (.frz od u)) (hx : x ≠ u) (hx2 : x ≠ .frz od u) (r : Rd W.S b x) : Rd (W.less a).S b x := by
  have ne : b ≠ a := fun z => by
    subst z
    rcases r with r | ⟨o, r⟩
    · rw [h] at r; cases r; exact hx2 rfl
    · rw [h] at r; cases r; exact hx rfl
  rcases r with r | ⟨o, r⟩
  · exact .inl (by show del W.S a b = _; rw [del_ne ne]; exact r)
  · exact .inr ⟨o, by show del W.S a b = _; rw [del_ne ne]; exact r⟩
theorem less_sqt {b : Addr} {xs : List V} (h : W.S a = some (.frz od u)) (hn : Aside u) (r : SqT K W.S b xs) : SqT K (W.less a).S b xs := by
  rcases r with r | r
  · exact .inl (less_rd h (fun z => hn.2 xs z.symm) (fun z => nomatch z) r)
  · exact .inr r
theorem less_lq {b : Addr} {xs : List V} (h : W.S a = some (.frz od u)) (hn : Aside u) (r : Lq K W.S b xs) : Lq K (W.less a).S b xs := by
  rcases r with r | r
  · exact .inl (less_rd h (fun z => hn.1 xs z.symm) (fun z => nomatch z) r)
  · exact .inr r
theorem ExAt.less {b C : Addr} {ns : List Str} {vs : List V} (h : W.S a = some (.frz od u)) (q : ExAt W.S b C ns vs) : ExAt (W.less a).S b C ns vs := by
  rcases q with ⟨q, z⟩ | ⟨dx, q1, q2, q3⟩
  · refine .inl ⟨?_, z⟩
    show del W.S a _ = _
    rw [del_ne (fun z => by rw [z, h] at q; cases q)]
    exact q
  · refine .inr ⟨dx, ?_, ?_, q3⟩
    · show del W.S a _ = _
      rw [del_ne (fun z => by rw [z, h] at q1; cases q1)]
      exact q1
    · show del W.S a _ = _
      rw [del_ne (fun z => by rw [z, h] at q2; cases q2)]
      exact q2
mutual
theorem Rep.less (h : W.S a = some (.frz od u)) (hn : Aside u) : ∀ {v : V} {d : D}, Rep K W v d → Rep K (W.less a) v d
  | _, _, .non => .non
  | _, _, .bl b => .bl b
  | _, _, .int i => .int i
  | _, _, .str x z => .str x z
  | _, _, .tup z q r => .tup z (less_sqt h hn q) (Reps.less h hn r)
  | _, _, .lst z q r => .lst z (less_lq h hn q) (Reps.less h hn r)
  | _, _, .hdl q => .hdl q
  | _, _, .cst v => .cst v
  | _, _, .glo c => .glo c
  | _, _, .obj q n r => .obj (by
      show del W.S a _ = _
      rw [del_ne (fun z => by rw [z, h] at q; cases q)]
      exact q) n (Reps.less h hn r)
  | _, _, .exc q r => .exc (q.less h) (Reps.less h hn r)
theorem Reps.less (h : W.S a = some (.frz od u)) (hn : Aside u) : ∀ {vs : List V} {ds : List D}, Reps K W vs ds → Reps K (W.less a) vs ds
  | _, _, .nil => .nil
  | _, _, .cons r t => .cons (Rep.less h hn r) (Reps.less h hn t)
end
theorem CellO.less (h : W.S a = some (.frz od u)) (hn : Aside u) : ∀ {m : MO} {o : HO}, CellO K W m o → CellO K (W.less a) m o
  | .lst ds, _, ⟨vs, e, r⟩ => ⟨vs, e, r.less h hn⟩
  | .dct ks ds, _, ⟨vs, e, n, r⟩ => ⟨vs, e, n, r.less h hn⟩
  | .dtt ks ds, _, ⟨vs, e, n, r⟩ => ⟨vs, e, n, r.less h hn⟩
  | .ins C ns ds, _, ⟨dx, vs, e, n, r⟩ => ⟨dx, vs, e, n, r.less h hn⟩
  | .gone, _, h => h
theorem unlock_ok (ok : Ok K W H μ) (h1 : W.io[l]? = some a) (h2 : μ[l]? = some m) (hg : m ≠ .gone) (hu : H a = some u) (hn : Aside u) (c : CellO K W m u) (g : Go (W.new a (.frz od u)) (upd H a (.frz od u)) W2 H2) (ok2 : Ok K W2 H2 μ2) :
    H2 a = some (.frz od u) ∧ W2.S a = some (.frz od u) ∧ Ok K (W2.less a) (upd H2 a u) (μ2.set l m) ∧ Go W H (W2.less a) (upd H2 a u) := by
  have ha : W.S a = none := ok.apart l a m h1 h2 hg
  have hm : a ∈ W.io := List.mem_of_getElem? h1
  have hS : W2.S a = some (.frz od u) := g.le.s a _ (show upd W.S a (.frz od u) a = _ from upd_same)
  have hH : H2 a = some (.frz od u) := ok2.sub a _ hS
  have i2 : W2.io[l]? = some a := prefix_get g.le.io h1
  have l2 : l < μ2.length := by rw [← ok2.len]; exact (List.getElem?_eq_some_iff.mp i2).1
  have leW : Le W (W.new a (.frz od u)) := ⟨same_new ha, List.prefix_refl _⟩
  have c2 : CellO K (W2.less a) m u := (c.mono (leW.trans g.le)).less hS hn
  have le3 : Le W (W2.less a) := ⟨fun b x e => by
    show del W2.S a b = _
    rw [del_ne (ne_of_none e ha)]
    exact (leW.trans g.le).s b x e, g.le.io⟩
  refine ⟨hH, hS, ⟨fun b x e => ?_, by rw [List.length_set]; exact ok2.len, ok2.nd, fun k b y e1 e2 n => ?_, fun k b y e1 e2 => ?_, ⟨tabs_upd ok2.tab.all hH ⟨(fun _ z => nomatch z), (fun _ z => nomatch z)⟩, fun q hq => ?_⟩⟩, ⟨le3, fun b x e n nt => ?_, fun b e => ?_, fun b e => ?_, fun b x e => ?_⟩⟩
  · have e : del W2.S a b = some x := e
    have z : b ≠ a := fun z => by rw [z, del_same] at e; cases e
    rw [del_ne z] at e
    rw [upd_ne z]
    exact ok2.sub b x e
  · show del W2.S a b = none
    by_cases z : b = a
    · rw [z, del_same]
    · have zl : k ≠ l := fun q => z (by
        subst q
        have e1 : W2.io[k]? = some b := e1
        rw [i2] at e1
        cases e1
        rfl)
      rw [List.getElem?_set_ne (Ne.symm zl)] at e2
      rw [del_ne z]
      exact ok2.apart k b y e1 e2 n
  · by_cases zl : k = l
    · subst zl
      have e1 : W2.io[k]? = some b := e1
      rw [i2] at e1
      cases e1
      rw [List.getElem?_set_self l2] at e2
      cases e2
      exact ⟨u, upd_same, c2⟩
    · rw [List.getElem?_set_ne (Ne.symm zl)] at e2
      obtain ⟨o, ho, co⟩ := ok2.cell k b y e1 e2
      have z : b ≠ a := ok2.io_ne i2 e1 zl
      exact ⟨o, by rw [upd_ne z]; exact ho, co.less hS hn⟩
  · show del W2.S a q.1 = none
    by_cases z : q.1 = a
    · rw [z, del_same]
    · rw [del_ne z]
      exact ok2.tab.no q hq
  · have z : b ≠ a := fun z => n (by rw [z]; exact hm)
    rw [upd_ne z]
    exact g.kept b x (by rw [upd_ne z]; exact e) n nt
  · by_cases z : b = a
    · rw [z, upd_same] at e
      cases e
    · rw [upd_ne z] at e
      have q := g.grow b e
      rw [upd_ne z] at q
      exact q
  · rcases g.newio b e with q | q
    · exact .inl q
    · by_cases z : b = a
      · rw [z]; exact .inl hm
      · rw [upd_ne z] at q
        exact .inr q
  · have e : del W2.S a b = some x := e
    have z : b ≠ a := fun z => by rw [z, del_same] at e; cases e
    rw [del_ne z] at e
    rcases g.newS b x e with q | q | q
    · have q : upd W.S a (.frz od u) b = some x := q
      rw [upd_ne z] at q
      exact .inl q
    · rw [upd_ne z] at q
      exact .inr (.inl q)
    · exact .inr (.inr q)
end
/-- a key as a datum -/
def kD : Key → D
  | .inl i => .int i
  | .inr x => .str x
def keyOk : Key → Bool
  | .inl _ => true
  | .inr x => decide (x.length ≤ 1000000)
theorem kD_rep {K : PySem.W.Frag} {W : Wd} {k : Key} (h : keyOk k = true) : Rep K W (kV k) (kD k) := by
  cases k with
  | inl i => exact .int i
  | inr x => exact .str x (le_line (of_decide_eq_true h))
def pairsD : List Key → List D → List D
  | k :: ks, x :: xs => .tup [kD k, x] :: pairsD ks xs
  | _, _ => []
theorem pairsD_len : ∀ {ks : List Key} {xs : List D}, ks.length = xs.length → (pairsD ks xs).length = ks.length
  | [], [], _ => rfl
  | _ :: _, _ :: _, h => by rw [pairsD, List.length_cons, List.length_cons, pairsD_len (by simpa using h)]
theorem pairsD_get : ∀ {ks : List Key} {xs : List D} {i : Nat} {d : D}, (pairsD ks xs)[i]? = some d → ∃ k x, ks[i]? = some k ∧ xs[i]? = some x ∧ d = .tup [kD k, x]
  | [], _, _, _, h => by simp [pairsD] at h
  | _ :: _, [], _, _, h => by simp [pairsD] at h
  | k :: ks, x :: xs, 0, d, h => by
    simp [pairsD] at h
    exact ⟨k, x, rfl, rfl, h.symm⟩
  | k :: ks, x :: xs, i + 1, d, h => by
    obtain ⟨k', x', e1, e2, e3⟩ := pairsD_get (ks := ks) (xs := xs) (i := i) (d := d) (by simpa [pairsD] using h)
    exact ⟨k', x', by simpa using e1, by simpa using e2, e3⟩
theorem zip_get {ks : List Key} {vs : List V} {i : Nat} {k : Key} {v : V} (h1 : ks[i]? = some k) (h2 : vs[i]? = some v) : (ks.zip vs)[i]? = some (k, v) := by
  rw [List.getElem?_zip_eq_some]
  exact ⟨h1, h2⟩
/-- may be walked -/
def walkable (ks : List Key) (xs : List D) : Bool := decide (ks.length = xs.length) && (decide (ks.length ≤ 1000000) && ks.all keyOk)
theorem walk_items {K : PySem.W.Frag} {W : Wd} {a : Addr} {od : Obj} {ks : List Key} {vs : List V} {xs : List D} (h : W.S a = some (.frz od (.dK (ks.zip vs)))) (hl : ks.length = vs.length) (r : Reps K W vs xs) (hw : walkable ks xs = true) : Walk K W (Iti a od (ks.zip vs)) (pairsD ks xs) := by
  unfold walkable at hw
  simp only [Bool.and_eq_true, decide_eq_true_eq] at hw
  obtain ⟨w1, w2, w3⟩ := hw
  have zl : (ks.zip vs).length = ks.length := by rw [List.length_zip, hl, Nat.min_self]
  have pl := pairsD_len w1
  refine ⟨by rw [pl]; exact le_line w2, fun H i s hi => ⟨s _ _ h, by rw [zl]; rw [pl] at hi; exact hi⟩, fun H i s hi => ⟨s _ _ h, by rw [zl]; rw [pl] at hi; exact hi⟩, fun H i x H' s y d e W1 μ l1 ok => ?_⟩
  obtain ⟨T, k, v, e1, rfl, hT, rfl⟩ := y
  obtain ⟨k', x', e2, e3, rfl⟩ := pairsD_get e
  obtain ⟨v', e4, r4⟩ := r.get e3
  have e5 := zip_get e2 e4
  rw [e1] at e5
  cases e5
  have hk : keyOk k = true := List.all_eq_true.mp w3 k (List.mem_of_getElem? e2)
  exact ⟨W1.new T (.tup [kV k, v]), Go.new ok hT, ok.new hT, rep_tup ok hT (by show 2 ≤ sizeLine; decide) (.cons (kD_rep hk) (.cons (r4.mono l1) .nil))⟩
end DL
/-! DL51: comprehensions and for over a dict that is locked meanwhile. -/
namespace DL
open PySem L2 PySem.Spec PyProof.Rows
section
variable {X : Cx} {E : WX} {pos : Pos}
abbrev here (J : It) : TI := fun _ H R => R J H
abbrev bDc (g : TG) (tt : TT) (tk tv : TE) (vs : List Nat) : L2.St → It → Hp → VK → Prop := fun σ J H1 Q => tDc (here J) g tt tk tv vs σ H1 Q
abbrev bLc (g : TG) (tt : TT) (te : TE) (vs : List Nat) : L2.St → It → Hp → VK → Prop := fun σ J H1 Q => tLc (here J) g tt te vs σ H1 Q
abbrev bFor (g : TG) (tb : TS) : Ends → L2.St → It → Hp → Prop := fun D σ J H1 => tFor (here J) g tb D σ H1
theorem dc_run {vs : List Nat} {t : Tg} {ft : FT} {fk fe : FE} (hsub : ∀ i ∈ t.slots, i ∈ vs) {σ : L2.St} {W1 : Wd} {H1 : Hp} {μ1 : Mu} {ρ : En} {J : It} {xs : List D} {Q : VK} {E' : XK} (o1 : Ok X.K W1 H1 μ1) (en : Envs X.K W1 σ ρ) (wk : Walk X.K W1 J xs)
    (p : postE X.K E' W1 H1 ((dcD t ft fk fe (wipeD ρ vs) xs μ1 ([], [])).bind fun q μ2 => .ok (.hdl μ2.length) (μ2 ++ [.dct q.1 q.2])) Q) : bDc (rG X.K t) (rT X.K E0 ft) (rE X.K E0 fk) (rE X.K E0 fe) vs σ J H1 Q := by
  intro Dn hD
  have hz := wk.len
  have en1 := en.wipe vs
  refine ⟨fun i m H2 => m = xs.length - i ∧ i ≤ xs.length ∧ ∃ W2 μ2 ks acc ds, Go W1 H1 W2 H2 ∧ Ok X.K W2 H2 μ2 ∧ H2 Dn = some (.dK (ks.zip acc)) ∧ Dn ∉ W2.io ∧ W2.S Dn = none ∧ Reps X.K W2 acc ds ∧ ks.Nodup ∧ ks.length = acc.length ∧ acc.length ≤ i ∧ postE X.K E' W1 H1 ((dcD t ft fk fe (wipeD ρ vs) (xs.drop i) μ2 (ks, ds)).bind fun q μ3 => .ok (.hdl μ3.length) (μ3 ++ [.dct q.1 q.2])) Q,
    ⟨xs.length, by simp, Nat.zero_le _, W1, μ1, [], [], [], (Go.refl _ _).other hD, o1.other (o1.snone hD) (o1.notio hD) (.inl hD), upd_same, o1.notio hD, o1.snone hD, .nil, List.nodup_nil, rfl, Nat.le_refl _, ?_⟩, ?_⟩
  · exact p
  rintro i m H2 ⟨rfl, hi, W2, μ2, ks, acc, ds, g2, o2, hacc, n2, s2, r2, nd2, kl2, l2, p2⟩
  have sm : Same W1.S H2 := g2.le.s.trans o2.sub
  by_cases hlt : i < xs.length
  · rw [List.drop_eq_getElem_cons hlt] at p2
    unfold dcD at p2
    refine .inr ⟨wk.go H2 i sm hlt, fun H3 => ∃ W3 μ3 ks acc ds, Go W1 H1 W3 H3 ∧ Ok X.K W3 H3 μ3 ∧ H3 Dn = some (.dK (ks.zip acc)) ∧ Dn ∉ W3.io ∧ W3.S Dn = none ∧ Reps X.K W3 acc ds ∧ ks.Nodup ∧ ks.length = acc.length ∧ acc.length ≤ i + 1 ∧ postE X.K E' W1 H1 ((dcD t ft fk fe (wipeD ρ vs) (xs.drop (i + 1)) μ3 (ks, ds)).bind fun q μ3 => .ok (.hdl μ3.length) (μ3 ++ [.dct q.1 q.2])) Q,
      fun H3 ⟨W3, μ3, ks, acc, ds, q⟩ => ⟨xs.length - (i + 1), by omega, rfl, hlt, W3, μ3, ks, acc, ds, q⟩, fun x H3 y => ?_⟩
    obtain ⟨W3, g3, o3, r3⟩ := wk.yld H2 i x H3 sm y xs[i] (List.getElem?_eq_getElem hlt) W2 μ2 g2.le o2
    obtain ⟨a3, s3, n3⟩ := g3.out hacc s2 n2
    revert p2
    cases e : asg t xs[i] (wipeD ρ vs) with
    | none => exact fun p => p.elim
    | some ρ3 =>
      dsimp only
      intro p2
      refine ⟨W3, wipeD ρ vs, ρ3, xs[i], μ2, o3, en1.mono (g2.le.trans g3.le), r3, e, fun σ4 en4 b4 => ⟨wipe_but hsub b4, ?_⟩⟩
      refine ⟨W3, ρ3, μ2, o3, en4, ?_⟩
      revert p2
      cases ft ρ3 μ2 with
      | ex c fs μ4 => exact fun p => p.elim
      | bad => exact fun p => p.elim
      | ok b μ4 =>
        rw [R.nox_ok, R.bind_ok]
        intro p2 W4 H4 g4 o4
        obtain ⟨a4, s4, n4⟩ := g4.out a3 s3 n3
        cases b with
        | false =>
          rw [if_neg Bool.false_ne_true] at p2 ⊢
          exact ⟨W4, μ4, ks, acc, ds, (g2.trans g3).trans g4, o4, a4, n4, s4, r2.mono (g3.le.trans g4.le), nd2, kl2, by omega, p2⟩
        | true =>
          rw [if_pos rfl] at p2 ⊢
          refine ⟨W4, ρ3, μ4, o4, en4.mono g4.le, ?_⟩
          revert p2
          cases fk ρ3 μ4 with
          | ex c fs μ5 => exact fun p => p.elim
          | bad => exact fun p => p.elim
          | ok kd μ5 =>
            rw [R.nox_ok, R.bind_ok]
            intro p2 W5 kv H5 g5 o5 r5
            obtain ⟨a5, s5, n5⟩ := g5.out a4 s4 n4
            refine ⟨W5, ρ3, μ5, o5, (en4.mono g4.le).mono g5.le, ?_⟩
            revert p2
            cases fe ρ3 μ5 with
            | ex c fs μ6 => exact fun p => p.elim
            | bad => exact fun p => p.elim
            | ok yd μ6 =>
              rw [R.nox_ok, R.bind_ok]
              cases hk : keyD kd with
              | none => exact fun p => p.elim
              | some j =>
                dsimp only
                intro p2 W6 yv H6 g6 o6 r6
                obtain ⟨a6, s6, n6⟩ := g6.out a5 s5 n5
                have ek := key_rep r5 hk
                have dl : ks.length = ds.length := by rw [kl2, r2.length]
                obtain ⟨pz, pl⟩ := put_zip (j := j) (d := yd) (v := yv) (xs := ds) nd2 kl2 dl
                have rr := putVs_reps (j := j) r6 kl2 (r2.mono (((g3.le.trans g4.le).trans g5.le).trans g6.le))
                have lp := length_putK (ks.zip acc) j yv
                have lz : (ks.zip acc).length = acc.length := by rw [List.length_zip, kl2, Nat.min_self]
                refine ⟨_, j, ek, a6, ?_, W6, μ6, (putD ks ds j yd).1, putVs ks acc j yv, (putD ks ds j yd).2, ((((g2.trans g3).trans g4).trans g5).trans g6).other hD, o6.other s6 n6 (.inr ⟨_, a6, (fun _ z => nomatch z), (fun _ z => nomatch z)⟩), by rw [← pz]; exact upd_same, n6, s6, rr, putD_nodup nd2, pl, ?_, p2⟩
                · rw [lz]; omega
                · rw [pz, List.length_zip, pl, Nat.min_self] at lp
                  omega
  · have ei : i = xs.length := by omega
    subst ei
    rw [List.drop_length] at p2
    unfold dcD at p2
    rw [R.bind_ok] at p2
    refine .inl ⟨wk.stop H2 _ sm (Nat.le_refl _), ?_⟩
    have ok3 := okAdopt (m := .dct ks ds) o2 hacc s2 n2 ⟨acc, rfl, kl2, r2⟩
    refine p2 (W2.cell Dn) (.ref Dn) H2 ⟨g2.le.trans ⟨Same.refl _, List.prefix_append _ _⟩, g2.kept, g2.grow, fun a e => ?_, g2.newS⟩ ok3 (.hdl ?_)
    · have e : a ∈ W2.io ++ [Dn] := e
      rcases List.mem_append.mp e with e | e
      · exact g2.newio a e
      · have e : a = Dn := by simpa using e
        rw [e]; exact .inr hD
    · show (W2.io ++ [Dn])[μ2.length]? = some Dn
      rw [← o2.len]
      simp
theorem lc_run {vs : List Nat} {t : Tg} {ft : FT} {fe : FE} (hsub : ∀ i ∈ t.slots, i ∈ vs) {σ : L2.St} {W1 : Wd} {H1 : Hp} {μ1 : Mu} {ρ : En} {J : It} {xs : List D} {Q : VK} {E' : XK} (o1 : Ok X.K W1 H1 μ1) (en : Envs X.K W1 σ ρ) (wk : Walk X.K W1 J xs)
    (p : postE X.K E' W1 H1 ((lcD t ft fe (wipeD ρ vs) xs μ1).bind fun ys μ2 => .ok (.lst ys) μ2) Q) : bLc (rG X.K t) (rT X.K E0 ft) (rE X.K E0 fe) vs σ J H1 Q := by
  intro Dn hD
  have hz := wk.len
  have en1 := en.wipe vs
  refine ⟨fun i m H2 => m = xs.length - i ∧ i ≤ xs.length ∧ ∃ W2 μ2 acc ds, Go W1 H1 W2 H2 ∧ Ok X.K W2 H2 μ2 ∧ H2 Dn = some (.lst acc) ∧ Dn ∉ W2.io ∧ W2.S Dn = none ∧ Reps X.K W2 acc ds ∧ acc.length ≤ i ∧ postE X.K E' W1 H1 ((lcD t ft fe (wipeD ρ vs) (xs.drop i) μ2).bind fun ys μ3 => .ok (.lst (ds ++ ys)) μ3) Q,
    ⟨xs.length, by simp, Nat.zero_le _, W1, μ1, [], [], (Go.refl _ _).other hD, o1.other (o1.snone hD) (o1.notio hD) (.inl hD), upd_same, o1.notio hD, o1.snone hD, .nil, Nat.le_refl _, ?_⟩, ?_⟩
  · exact p
  rintro i m H2 ⟨rfl, hi, W2, μ2, acc, ds, g2, o2, hacc, n2, s2, r2, l2, p2⟩
  have sm : Same W1.S H2 := g2.le.s.trans o2.sub
  by_cases hlt : i < xs.length
  · rw [List.drop_eq_getElem_cons hlt] at p2
    unfold lcD at p2
    refine .inr ⟨wk.go H2 i sm hlt, fun H3 => ∃ W3 μ3 acc ds, Go W1 H1 W3 H3 ∧ Ok X.K W3 H3 μ3 ∧ H3 Dn = some (.lst acc) ∧ Dn ∉ W3.io ∧ W3.S Dn = none ∧ Reps X.K W3 acc ds ∧ acc.length ≤ i + 1 ∧ postE X.K E' W1 H1 ((lcD t ft fe (wipeD ρ vs) (xs.drop (i + 1)) μ3).bind fun ys μ3 => .ok (.lst (ds ++ ys)) μ3) Q,
      fun H3 ⟨W3, μ3, acc, ds, q⟩ => ⟨xs.length - (i + 1), by omega, rfl, hlt, W3, μ3, acc, ds, q⟩, fun x H3 y => ?_⟩
    obtain ⟨W3, g3, o3, r3⟩ := wk.yld H2 i x H3 sm y xs[i] (List.getElem?_eq_getElem hlt) W2 μ2 g2.le o2
    obtain ⟨a3, s3, n3⟩ := g3.out hacc s2 n2
    revert p2
    cases e : asg t xs[i] (wipeD ρ vs) with
    | none => exact fun p => p.elim
    | some ρ3 =>
      dsimp only
      intro p2
      refine ⟨W3, wipeD ρ vs, ρ3, xs[i], μ2, o3, en1.mono (g2.le.trans g3.le), r3, e, fun σ4 en4 b4 => ⟨wipe_but hsub b4, ?_⟩⟩
      refine ⟨W3, ρ3, μ2, o3, en4, ?_⟩
      revert p2
      cases ft ρ3 μ2 with
      | ex c fs μ4 => exact fun p => p.elim
      | bad => exact fun p => p.elim
      | ok b μ4 =>
        rw [R.nox_ok, R.bind_ok]
        intro p2 W4 H4 g4 o4
        obtain ⟨a4, s4, n4⟩ := g4.out a3 s3 n3
        cases b with
        | false =>
          rw [if_neg Bool.false_ne_true] at p2 ⊢
          exact ⟨W4, μ4, acc, ds, (g2.trans g3).trans g4, o4, a4, n4, s4, r2.mono (g3.le.trans g4.le), by omega, p2⟩
        | true =>
          rw [if_pos rfl] at p2 ⊢
          refine ⟨W4, ρ3, μ4, o4, en4.mono g4.le, ?_⟩
          revert p2
          cases fe ρ3 μ4 with
          | ex c fs μ5 => exact fun p => p.elim
          | bad => exact fun p => p.elim
          | ok yd μ5 =>
            rw [R.nox_ok, R.bind_ok]
            intro p2 W5 yv H5 g5 o5 r5
            obtain ⟨a5, s5, n5⟩ := g5.out a4 s4 n4
            refine ⟨acc, a5, by omega, W5, μ5, acc ++ [yv], ds ++ [yd], (((g2.trans g3).trans g4).trans g5).other hD, o5.other s5 n5 (.inr ⟨_, a5, (fun _ z => nomatch z), (fun _ z => nomatch z)⟩), upd_same, n5, s5, (r2.mono ((g3.le.trans g4.le).trans g5.le)).app (.cons r5 .nil), by simp; omega, ?_⟩
            revert p2
            cases lcD t ft fe (wipeD ρ vs) (xs.drop (i + 1)) μ5 with
            | ex c fs μ6 => exact fun p => p
            | bad => exact fun p => p
            | ok ys μ6 =>
              rw [R.bind_ok, R.bind_ok, R.bind_ok, List.append_assoc]
              exact fun p => p
  · have ei : i = xs.length := by omega
    subst ei
    rw [List.drop_length] at p2
    unfold lcD at p2
    rw [R.bind_ok, List.append_nil] at p2
    refine .inl ⟨wk.stop H2 _ sm (Nat.le_refl _), ?_⟩
    have lD : Le W2 (W2.new Dn (.lst acc)) := ⟨same_new s2, List.prefix_refl _⟩
    refine p2 (W2.new Dn (.lst acc)) (.ref Dn) H2 ⟨g2.le.trans lD, g2.kept, g2.grow, g2.newio, fun a u e => ?_⟩ ?_ ?_
    · by_cases z : a = Dn
      · rw [z]; exact .inr (.inl hD)
      · exact g2.newS a u (by rw [← e]; exact (upd_ne z).symm)
    · refine ⟨fun a u e => ?_, o2.len, o2.nd, fun l a m e1 e2 n => ?_, fun l a m e1 e2 => (o2.cell l a m e1 e2).mono lD fun u e => e, ⟨o2.tab.all, fun q hq => (upd_ne (o2.tab.ne hacc (fun _ z => nomatch z) q hq)).trans (o2.tab.no q hq)⟩⟩
      · by_cases z : a = Dn
        · have e : upd W2.S Dn (.lst acc) a = some u := e
          rw [z, upd_same] at e
          rw [z, hacc, e]
        · have e : upd W2.S Dn (.lst acc) a = some u := e
          rw [upd_ne z] at e
          exact o2.sub a u e
      · show upd W2.S Dn (.lst acc) a = none
        have z : a ≠ Dn := fun z => n2 (by rw [← z]; exact List.mem_of_getElem? e1)
        rw [upd_ne z]
        exact o2.apart l a m e1 e2 n
    · refine .lst ?_ (.inl (.inl (show upd W2.S Dn (.lst acc) Dn = _ from upd_same))) (r2.mono lD)
      rw [← r2.length]
      omega
theorem for_run {t : Tg} {b : FS} {σ : L2.St} {W1 : Wd} {H1 : Hp} {μ1 : Mu} {ρ : En} {J : It} {xs : List D} {Z : Ends} (o1 : Ok X.K W1 H1 μ1) (en : Envs X.K W1 σ ρ) (wk : Walk X.K W1 J xs)
    (p : postS X.K E W1 H1 (forD t b xs ρ μ1) Z) : bFor (rG X.K t) (rS X.K E b) Z σ J H1 := by
  refine ⟨fun i m σ H => m = xs.length - i ∧ i ≤ xs.length ∧ ∃ W2 ρ μ, Le W1 W2 ∧ Ok X.K W2 H μ ∧ Envs X.K W2 σ ρ ∧ postS X.K E W2 H (forD t b (xs.drop i) ρ μ) Z, ⟨xs.length, by simp, Nat.zero_le _, W1, ρ, μ1, Le.refl _, o1, en, p⟩, ?_⟩
  rintro i m σ2 H2 ⟨rfl, hi, W2, ρ2, μ2, l2, o2, en2, p2⟩
  have s2 : Same W1.S H2 := l2.s.trans o2.sub
  by_cases hlt : i < xs.length
  · rw [List.drop_eq_getElem_cons hlt] at p2
    unfold forD at p2
    refine .inr ⟨wk.go H2 i s2 hlt, fun σ3 H3 => ∃ W3 ρ3 μ3, Le W1 W3 ∧ Ok X.K W3 H3 μ3 ∧ Envs X.K W3 σ3 ρ3 ∧ postS X.K E W3 H3 (forD t b (xs.drop (i + 1)) ρ3 μ3) Z, fun σ3 H3 ⟨W3, ρ3, μ3, l3, o3, en3, p3⟩ => ⟨xs.length - (i + 1), by omega, rfl, hlt, W3, ρ3, μ3, l3, o3, en3, p3⟩, fun x H3 y => ?_⟩
    obtain ⟨W3, g3, o3, r3⟩ := wk.yld H2 i x H3 s2 y xs[i] (List.getElem?_eq_getElem hlt) W2 μ2 l2 o2
    revert p2
    cases e : asg t xs[i] ρ2 with
    | none => exact fun p => p.elim
    | some ρ3 =>
      intro p2
      refine ⟨W3, ρ2, ρ3, xs[i], μ2, o3, en2.mono g3.le, r3, e, fun σ4 en4 _ => ⟨W3, ρ3, μ2, o3, en4, ?_⟩⟩
      have p3 := postS.mono g3 p2
      revert p3
      dsimp only
      cases b ρ3 μ2 with
      | nx ρ5 μ5 => exact fun p W5 σ5 H5 g5 o5 e5 => ⟨W5, ρ5, μ5, (l2.trans g3.le).trans g5.le, o5, e5, postS.mono g5 p⟩
      | ct ρ5 μ5 => exact fun p W5 σ5 H5 g5 o5 e5 => ⟨W5, ρ5, μ5, (l2.trans g3.le).trans g5.le, o5, e5, postS.mono g5 p⟩
      | bk ρ5 μ5 => exact fun p => p
      | rt d μ5 => exact fun p => p
      | ex c fs μ5 => exact fun p => p
      | bad => exact fun p => p
  · have ei : i = xs.length := by omega
    subst ei
    rw [List.drop_length] at p2
    exact .inl ⟨wk.stop H2 _ s2 (Nat.le_refl _), p2 W2 σ2 H2 (Go.refl _ _) o2 en2⟩
/-! ### locked -/
abbrev JK := Addr → Obj → List (Key × V) → It
/-- a walk of the locked dict -/
def iAny (J : JK) (td : TE) : TI := fun σ H R => td σ H fun x H1 => ∃ d o kvs, x = .ref d ∧ H1 d = some (.frz o (.dK kvs)) ∧ R (J d o kvs) H1
def LkW (K : PySem.W.Frag) (J : JK) (its : List Key → List D → List D) : Prop := ∀ (W : Wd) (a : Addr) (od : Obj) (ks : List Key) (vs : List V) (xs : List D), W.S a = some (.frz od (.dK (ks.zip vs))) → ks.length = vs.length → Reps K W vs xs → walkable ks xs = true → Walk K W (J a od (ks.zip vs)) (its ks xs)
theorem lkw_items {K : PySem.W.Frag} : LkW K Iti pairsD := fun W a od ks vs xs h hl r hw => walk_items h hl r hw
def isHdl (l : Nat) : R D → Bool
  | .ok (.hdl m) _ => decide (m = l)
  | _ => false
def R.mu {α : Type} : R α → Mu
  | .ok _ μ => μ
  | _ => []
theorem isHdl_eq {l : Nat} {r : R D} (h : isHdl l r = true) : r = .ok (.hdl l) r.mu := by
  unfold isHdl at h
  split at h
  · rename_i m μ
    rw [of_decide_eq_true h]
    rfl
  · cases h
def dlockE (its : List Key → List D → List D) (fd : FE) (k : List D → FE) : FE := fun ρ μ => match fd ρ μ with
  | .ok (.hdl l) _ => (match μ[l]? with
    | some (.dct ks xs) => if (walkable ks xs && isHdl l (fd ρ (μ.set l .gone))) = true then (match k (its ks xs) ρ (fd ρ (μ.set l .gone)).mu with
        | .ok d μ2 => .ok d (μ2.set l (.dct ks xs))
        | _ => .bad) else .bad
    | _ => .bad)
  | _ => .bad
def lockO (l : Nat) (m : MO) : O → O
  | .nx ρ μ => .nx ρ (μ.set l m)
  | .bk ρ μ => .bk ρ (μ.set l m)
  | .ct ρ μ => .ct ρ (μ.set l m)
  | .rt d μ => .rt d (μ.set l m)
  | _ => .bad
def glock (its : List Key → List D → List D) (fd : FE) (k : List D → FS) : FS := fun ρ μ => match fd ρ μ with
  | .ok (.hdl l) _ => (match μ[l]? with
    | some (.dct ks xs) => if (walkable ks xs && isHdl l (fd ρ (μ.set l .gone))) = true then lockO l (.dct ks xs) (k (its ks xs) ρ (fd ρ (μ.set l .gone)).mu) else .bad
    | _ => .bad)
  | _ => .bad
theorem aside_dK {kvs : List (Key × V)} : Aside (.dK kvs) := ⟨(fun _ z => nomatch z), (fun _ z => nomatch z)⟩
theorem lockE_of {J : JK} {its : List Key → List D → List D} (hw : LkW X.K J its) {fd : FE} {k : List D → FE} {B : L2.St → It → Hp → VK → Prop}
    (hk : ∀ {σ : L2.St} {W1 : Wd} {H1 : Hp} {μ1 : Mu} {ρ : En} {Jx : It} {xs : List D} {Q : VK} {E' : XK}, Ok X.K W1 H1 μ1 → Envs X.K W1 σ ρ → Walk X.K W1 Jx xs → postE X.K E' W1 H1 (k xs ρ μ1) Q → B σ Jx H1 Q) :
    ∀ σ H Q, rE X.K E (dlockE its fd k) σ H Q → tLockE (fun σ H Q => iAny J (rE X.K E0 fd) σ H fun Jx H1 => B σ Jx H1 Q) σ H Q := fun σ H Q ⟨W, ρ, μ, ok, en, p⟩ => by
  unfold dlockE at p
  split at p
  · rename_i l μx hf
    split at p
    · rename_i ks xs hm
      split at p
      · rename_i hc
        simp only [Bool.and_eq_true] at hc
        obtain ⟨a, ha⟩ : ∃ a, W.io[l]? = some a := ⟨_, List.getElem?_eq_getElem (by rw [ok.len]; exact (List.getElem?_eq_some_iff.mp hm).1)⟩
        obtain ⟨o, ho, vs, rfl, hl, rs⟩ := ok.cell l a _ ha hm
        refine ⟨a, _, ho, trivial, fun od => ?_⟩
        obtain ⟨ok1, le1⟩ := lock_ok (od := od) (u := .dK (ks.zip vs)) ok ha hm (fun z => nomatch z)
        refine ⟨_, ρ, _, ok1, en.mono le1, ?_⟩
        rw [isHdl_eq hc.2]
        intro W' v H' g o' r
        cases r with
        | @hdl a' _ hb =>
          have e := prefix_get g.le.io ha
          rw [e] at hb
          cases hb
          have hS : W'.S a = some (.frz od (.dK (ks.zip vs))) := g.le.s a _ (show upd W.S a (.frz od (.dK (ks.zip vs))) a = _ from upd_same)
          refine ⟨a, od, ks.zip vs, rfl, o'.sub _ _ hS, ?_⟩
          refine hk (E' := WE E σ) o' (en.mono (le1.trans g.le)) (hw W' a od ks vs xs hS hl (rs.mono (le1.trans g.le)) hc.1) ?_
          revert p
          cases k (its ks xs) ρ (fd ρ (μ.set l .gone)).mu with
          | ex c fs μ2 => exact fun p => p.elim
          | bad => exact fun p => p.elim
          | ok d μ2 =>
            intro p W2 v2 H2 g2 o2 r2
            obtain ⟨e1, e2, e3, e4⟩ := unlock_ok ok ha hm (fun z => nomatch z) ho aside_dK ⟨vs, rfl, hl, rs⟩ (g.trans g2) o2
            exact ⟨e1, p _ v2 _ e4 e3 (r2.less e2 aside_dK)⟩
      · exact p.elim
    · exact p.elim
  · exact p.elim
theorem Envs.less {K : PySem.W.Frag} {W : Wd} {a : Addr} {od : Obj} {u : HO} {σ : L2.St} {ρ : En} (h : W.S a = some (.frz od u)) (hn : Aside u) (e : Envs K W σ ρ) : Envs K (W.less a) σ ρ := ⟨e.len, fun i d q => by
  obtain ⟨v, h1, h2⟩ := e.at_ i d q
  exact ⟨v, h1, h2.less h hn⟩⟩
theorem lock_of {J : JK} {its : List Key → List D → List D} (hw : LkW X.K J its) {fd : FE} {k : List D → FS} {B : Ends → L2.St → It → Hp → Prop}
    (hk : ∀ {σ : L2.St} {W1 : Wd} {H1 : Hp} {μ1 : Mu} {ρ : En} {Jx : It} {xs : List D} {Z : Ends}, Ok X.K W1 H1 μ1 → Envs X.K W1 σ ρ → Walk X.K W1 Jx xs → postS X.K E0 W1 H1 (k xs ρ μ1) Z → B Z σ Jx H1) :
    ∀ Z σ H, rS X.K E (glock its fd k) Z σ H → tLock (fun Z σ H => iAny J (rE X.K E0 fd) σ H fun Jx H1 => B Z σ Jx H1) Z σ H := fun Z σ H ⟨W, ρ, μ, ok, en, p⟩ => by
  unfold glock at p
  split at p
  · rename_i l μx hf
    split at p
    · rename_i ks xs hm
      split at p
      · rename_i hc
        simp only [Bool.and_eq_true] at hc
        obtain ⟨a, ha⟩ : ∃ a, W.io[l]? = some a := ⟨_, List.getElem?_eq_getElem (by rw [ok.len]; exact (List.getElem?_eq_some_iff.mp hm).1)⟩
        obtain ⟨o, ho, vs, rfl, hl, rs⟩ := ok.cell l a _ ha hm
        refine ⟨a, _, ho, trivial, fun od => ?_⟩
        obtain ⟨ok1, le1⟩ := lock_ok (od := od) (u := .dK (ks.zip vs)) ok ha hm (fun z => nomatch z)
        refine ⟨_, ρ, _, ok1, en.mono le1, ?_⟩
        rw [isHdl_eq hc.2]
        intro W' v H' g o' r
        cases r with
        | @hdl a' _ hb =>
          have e := prefix_get g.le.io ha
          rw [e] at hb
          cases hb
          have hS : W'.S a = some (.frz od (.dK (ks.zip vs))) := g.le.s a _ (show upd W.S a (.frz od (.dK (ks.zip vs))) a = _ from upd_same)
          refine ⟨a, od, ks.zip vs, rfl, o'.sub _ _ hS, ?_⟩
          refine hk o' (en.mono (le1.trans g.le)) (hw W' a od ks vs xs hS hl (rs.mono (le1.trans g.le)) hc.1) ?_
          have un : ∀ {W2 : Wd} {H2 : Hp} {μ2 : Mu}, Go W' H' W2 H2 → Ok X.K W2 H2 μ2 → _ := fun {W2 H2 μ2} g2 o2 => unlock_ok ok ha hm (fun z => nomatch z) ho aside_dK ⟨vs, rfl, hl, rs⟩ (g.trans g2) o2
          revert p
          cases k (its ks xs) ρ (fd ρ (μ.set l .gone)).mu with
          | ex ρ2 c fs μ2 => exact fun p => p.elim
          | bad => exact fun p => p.elim
          | nx ρ2 μ2 =>
            intro p W2 v2 H2 g2 o2 r2
            obtain ⟨e1, e2, e3, e4⟩ := un g2 o2
            exact ⟨e1, p _ v2 _ e4 e3 (r2.less e2 aside_dK)⟩
          | bk ρ2 μ2 =>
            intro p W2 v2 H2 g2 o2 r2
            obtain ⟨e1, e2, e3, e4⟩ := un g2 o2
            exact ⟨e1, p _ v2 _ e4 e3 (r2.less e2 aside_dK)⟩
          | ct ρ2 μ2 =>
            intro p W2 v2 H2 g2 o2 r2
            obtain ⟨e1, e2, e3, e4⟩ := un g2 o2
            exact ⟨e1, p _ v2 _ e4 e3 (r2.less e2 aside_dK)⟩
          | rt d μ2 =>
            intro p W2 v2 H2 g2 o2 r2
            obtain ⟨e1, e2, e3, e4⟩ := un g2 o2
            exact ⟨e1, p _ v2 _ e4 e3 (r2.less e2 aside_dK)⟩
      · exact p.elim
    · exact p.elim
  · exact p.elim
end
end DL
/-! DL52: comprehensions and for over d.items(), d.values(), d.keys(), d. -/
namespace DL
open PySem L2 PySem.Spec PyProof.Rows
def keysD (ks : List Key) (_ : List D) : List D := ks.map kD
def valsD (_ : List Key) (xs : List D) : List D := xs
theorem lkw_keys {K : PySem.W.Frag} : LkW K Itk keysD := fun W a od ks vs xs h hl r hw => by
  unfold walkable at hw
  simp only [Bool.and_eq_true, decide_eq_true_eq] at hw
  obtain ⟨w1, w2, w3⟩ := hw
  have zl : (ks.zip vs).length = ks.length := by rw [List.length_zip, hl, Nat.min_self]
  have pl : (keysD ks xs).length = ks.length := by simp [keysD]
  refine ⟨by rw [pl]; exact le_line w2, fun H i s hi => ⟨s _ _ h, by rw [zl]; rw [pl] at hi; exact hi⟩, fun H i s hi => ⟨s _ _ h, by rw [zl]; rw [pl] at hi; exact hi⟩, fun H i x H' s y d e W1 μ l1 ok => ?_⟩
  obtain ⟨rfl, k, v, e1, rfl⟩ := y
  rw [List.getElem?_zip_eq_some] at e1
  unfold keysD at e
  rw [List.getElem?_map, e1.1] at e
  cases e
  have hk : keyOk k = true := List.all_eq_true.mp w3 k (List.mem_of_getElem? e1.1)
  exact ⟨W1, Go.refl _ _, ok, kD_rep hk⟩
theorem lkw_vals {K : PySem.W.Frag} : LkW K Itd valsD := fun W a od ks vs xs h hl r hw => by
  unfold walkable at hw
  simp only [Bool.and_eq_true, decide_eq_true_eq] at hw
  obtain ⟨w1, w2, w3⟩ := hw
  have zl : (ks.zip vs).length = ks.length := by rw [List.length_zip, hl, Nat.min_self]
  have pl : (valsD ks xs).length = ks.length := w1.symm
  refine ⟨by rw [pl]; exact le_line w2, fun H i s hi => ⟨s _ _ h, by rw [zl]; rw [pl] at hi; exact hi⟩, fun H i s hi => ⟨s _ _ h, by rw [zl]; rw [pl] at hi; exact hi⟩, fun H i x H' s y d e W1 μ l1 ok => ?_⟩
  obtain ⟨rfl, k, e1⟩ := y
  rw [List.getElem?_zip_eq_some] at e1
  obtain ⟨v', e4, r4⟩ := r.get e
  rw [e1.2] at e4
  cases e4
  exact ⟨W1, Go.refl _ _, ok, r4.mono l1⟩
/-- what is walked, locked -/
structure DIL (X : Cx) (tg iter : Expr) (J : JK) (its : List Key → List D → List D) (fd : FE) : Prop where
  pi : PI X tg iter (iAny J (rE X.K E0 fd))
  wk : LkW X.K J its
def kdc (vs : List Nat) (t : Tg) (ft : FT) (fk fe : FE) (xs : List D) : FE := fun ρ μ => (dcD t ft fk fe (wipeD ρ vs) xs μ ([], [])).bind fun q μ2 => .ok (.hdl μ2.length) (μ2 ++ [.dct q.1 q.2])
def klc (vs : List Nat) (t : Tg) (ft : FT) (fe : FE) (xs : List D) : FE := fun ρ μ => (lcD t ft fe (wipeD ρ vs) xs μ).bind fun ys μ2 => .ok (.lst ys) μ2
def kfor (t : Tg) (b : FS) (xs : List D) : FS := fun ρ μ => forD t b xs ρ μ
section
variable {X : Cx} {E : WX} {tg e : Expr} {fd : FE} {apos cpos pos : Pos}
theorem dil_items {elts : List Expr} {kk : Nat} {tpos : Pos} (he : DE X E0 e fd) (hbase : attributeBase e "items" X.env (eval e X.env) = eval e X.env := by rfl) (hline : (apos.endLine == cpos.line) = true := by rfl) : DIL X (.Tuple elts kk tpos) (.Call (.Attribute e "items" apos) [] [] cpos) Iti pairsD fd := ⟨pi_items he hbase hline, lkw_items⟩
theorem dil_values (he : DE X E0 e fd) (hbase : attributeBase e "values" X.env (eval e X.env) = eval e X.env := by rfl) (hline : (apos.endLine == cpos.line) = true := by rfl) : DIL X tg (.Call (.Attribute e "values" apos) [] [] cpos) Itd valsD fd := ⟨pi_values he hbase hline, lkw_vals⟩
theorem dil_keysM (he : DE X E0 e fd) (hbase : attributeBase e "keys" X.env (eval e X.env) = eval e X.env := by rfl) (hline : (apos.endLine == cpos.line) = true := by rfl) : DIL X tg (.Call (.Attribute e "keys" apos) [] [] cpos) Itk keysD fd := ⟨pi_keysM he hbase hline, lkw_keys⟩
theorem dil_keys (he : DE X E0 e fd) : DIL X tg e Itk keysD fd := ⟨pi_imp (pi_keys he) fun σ H Q ⟨W, ρ, μ, ok, en, p⟩ => ⟨W, ρ, μ, ok, en, by
  revert p
  cases fd ρ μ with
  | ex c fs μ1 => exact fun p => p
  | bad => exact fun p => p
  | ok d μ1 =>
    intro p W1 v H1 g o r
    obtain ⟨d, o, kvs, h1, h2, h3⟩ := p W1 v H1 g o r
    exact ⟨d, o, h1, .inl ⟨kvs, h2, h3⟩⟩⟩, lkw_keys⟩
theorem de_dcL {J : JK} {its : List Key → List D → List D} {kx vx iter : Expr} {ifs : List Expr} {scope : Scope} {t : Tg} {ft : FT} {fk fe : FE} (own : List (Str × Nat)) (hc : X.calm = true) (hN : X.N.Nodup) (hi : DIL X tg iter J its fd) (ok : BlkOk X.N X.env.scope scope own)
    (hg : ∀ (s : Shared) (H : Hp) (C : Addr) (cl : List (Str × Addr)) (fp : List Addr), DG (X.blk s H scope (compEnvC scope cl C X.env) fp) tg t) (ht : ∀ (s : Shared) (H : Hp) (C : Addr) (cl : List (Str × Addr)) (fp : List Addr), DTs (X.blk s H scope (compEnvC scope cl C X.env) fp) ifs ft)
    (hk : ∀ (s : Shared) (H : Hp) (C : Addr) (cl : List (Str × Addr)) (fp : List Addr), DE (X.blk s H scope (compEnvC scope cl C X.env) fp) E0 kx fk)
    (he : ∀ (s : Shared) (H : Hp) (C : Addr) (cl : List (Str × Addr)) (fp : List Addr), DE (X.blk s H scope (compEnvC scope cl C X.env) fp) E0 vx fe) (hsub : ∀ i ∈ t.slots, i ∈ own.map (·.2) := by decide) (hs : ∀ x, foldedSetIterable iter X.env x = pure x := by intro _; rfl) :
    DE X E (.DictComp kx vx [⟨tg, iter, ifs, 0⟩] scope pos) (dlockE its fd (kdc (own.map (·.2)) t ft fk fe)) :=
  pe_imp (pe_lock (pe_dc (tk := rE X.K E0 fk) (tv := rE X.K E0 fe) (g := rG X.K t) (tt := rT X.K E0 ft) hc hN hi.pi ok hg ht hk he hs)) (lockE_of hi.wk (k := kdc (own.map (·.2)) t ft fk fe) (B := bDc (rG X.K t) (rT X.K E0 ft) (rE X.K E0 fk) (rE X.K E0 fe) (own.map (·.2))) fun o1 en wk p => dc_run hsub o1 en wk p)
theorem de_lcL {J : JK} {its : List Key → List D → List D} {elt iter : Expr} {ifs : List Expr} {scope : Scope} {t : Tg} {ft : FT} {fe : FE} (own : List (Str × Nat)) (hc : X.calm = true) (hN : X.N.Nodup) (hi : DIL X tg iter J its fd) (ok : BlkOk X.N X.env.scope scope own)
    (hg : ∀ (s : Shared) (H : Hp) (C : Addr) (cl : List (Str × Addr)) (fp : List Addr), DG (X.blk s H scope (compEnvC scope cl C X.env) fp) tg t) (ht : ∀ (s : Shared) (H : Hp) (C : Addr) (cl : List (Str × Addr)) (fp : List Addr), DTs (X.blk s H scope (compEnvC scope cl C X.env) fp) ifs ft)
    (he : ∀ (s : Shared) (H : Hp) (C : Addr) (cl : List (Str × Addr)) (fp : List Addr), DE (X.blk s H scope (compEnvC scope cl C X.env) fp) E0 elt fe) (hsub : ∀ i ∈ t.slots, i ∈ own.map (·.2) := by decide) (hs : ∀ x, foldedSetIterable iter X.env x = pure x := by intro _; rfl) :
    DE X E (.ListComp elt [⟨tg, iter, ifs, 0⟩] scope pos) (dlockE its fd (klc (own.map (·.2)) t ft fe)) :=
  pe_imp (pe_lock (pe_lc (te := rE X.K E0 fe) (g := rG X.K t) (tt := rT X.K E0 ft) hc hN hi.pi ok hg ht he hs)) (lockE_of hi.wk (k := klc (own.map (·.2)) t ft fe) (B := bLc (rG X.K t) (rT X.K E0 ft) (rE X.K E0 fe) (own.map (·.2))) fun o1 en wk p => lc_run hsub o1 en wk p)
theorem ds_forL {J : JK} {its : List Key → List D → List D} {iter : Expr} {body : List Stmt} {t : Tg} {b : FS} (hp : PassesOwn (model X.prog X.w) X.A X.env X.xe) (hc : X.calm = true) (hi : DIL X tg iter J its fd) (hg : DG X tg t) (hb : DSs X E0 body b)
    (hs : ∀ x, foldedSetIterable iter X.env x = pure x := by intro _; rfl) : DS X E (.For tg iter body [] pos) (glock its fd (kfor t b)) :=
  ps_imp (ps_lock (ps_for hp hc hi.pi hg hb hs)) (lock_of hi.wk (k := kfor t b) (B := bFor (rG X.K t) (rS X.K E0 b)) fun o1 en wk p => for_run o1 en wk p)
end
theorem Cal.z {X : Cx} {E : WX} {k : Nat} (c : Cal X E k) : Cal X E0 k := ⟨c.room, c.guards, take0⟩
end DL
/-! DL53: methods by keywords, o.f op= e, repr of an empty dict, recursion's start. -/
namespace DL
open PySem L2 PySem.Spec PyProof.Rows
theorem fng_bad {P : Program} {w : World} {K : PySem.W.Frag} {mg : Str → Option Value} {base : Heap} {k : Nat} {f : Addr} {fd : FuncData} {ps : List Str} : FnG P w K mg base k f fd ps (fun _ _ => .bad) :=
  ⟨fun A outer s H args us vs Q E W ds μ hr hg e0 hl hb rv ok r p => False.elim p⟩
def dmethK (C : Nat) (m : Str) (F : List D → Mu → R D) (gD : List D → List D → List D) (fo : FE) (fa fk : FA) : FE := fun ρ μ => (fo ρ μ).bind fun o μ1 => match insD μ1 o with
  | some (C', fs) => if C' = C ∧ (fs.lookup m).isNone = true then (fa ρ μ1).bind fun ds μ2 => (fk ρ μ2).bind fun es μ3 => F (gD (o :: ds) es) μ3 else .bad
  | none => .bad
section
variable {X : Cx} {E : WX} {k C : Nat} {f : Addr} {fd : FuncData} {ps ks : List Str} {F : List D → Mu → R D} {gD : List D → List D → List D} {m : Str} {p pos apos : Pos} {o e : Expr} {es : List Expr} {kws : List Keyword} {fo : FE} {fa fk : FA}
theorem de_methK0 {pl : Sem Bool} (G : FnG X.prog X.w X.K X.mg X.base k f fd ps F) (c : Cal X E k) (hC : Cls X.K (cl X.K C)) (hm : Meth X.K (cl X.K C) m f) (b : KDfl X.K fd ps 1 ks gD) (ho : DE X E o fo) (hkw : DK X E kws fk)
    (hf2 : HasLen fk ks.length := by repeat (first | exact aNil_len | refine aCons_len ?_))
    (hall : (backToKw pos (keywordEach kws X.env)).all (·.1.isSome) = true := by rfl) (hks : (backToKw pos (keywordEach kws X.env)).filterMap (·.1) = ks := by rfl)
    (hpl : ((backTo pos (starEach [] X.env)).any (·.1) || (backToKw pos (keywordEach kws X.env)).any (·.1.isNone)) = false := by rfl)
    (ht : eval (.Call (.Attribute o m apos) [] kws pos) X.env = (do
      let ov ← eval o X.env
      standAt apos.atName
      let (f, first) ← holding [ov] (getMethod ov m pl)
      callWith pos f first (backTo pos (starEach [] X.env)) (backToKw pos (keywordEach kws X.env))) := by rfl) :
    DE X E (.Call (.Attribute o m apos) [] kws pos) (dmethK C m F gD fo aNil fk) := by
  refine ⟨fun pins s σ H Q I q => ?_⟩
  obtain ⟨W, ρ, μ, ok, en, pq⟩ := q
  unfold dmethK at pq
  have rd : rE X.K E fo σ H (fun x H1 => ∃ W1 d μ1 a dx fs, x = .ref a ∧ H1 a = some (.ins (cl X.K C) dx fs) ∧ fs.lookup m = none ∧ Ok X.K W1 H1 μ1 ∧ Envs X.K W1 σ ρ ∧ Rep X.K W1 x d ∧ postE X.K (WE E σ) W1 H1 ((fk ρ μ1).bind fun es μ3 => F (gD [d] es) μ3) Q) := by
    refine seq pq ok en fun d μ1 W1 v H1 g1 o1 en1 r p1 => ?_
    cases hi : insD μ1 d with
    | none => rw [hi] at p1; exact p1.elim
    | some z =>
      obtain ⟨C', fs⟩ := z
      rw [hi] at p1
      dsimp only at p1
      by_cases hq : C' = C ∧ (fs.lookup m).isNone = true
      · rw [if_pos hq] at p1
        obtain ⟨rfl, hn⟩ := hq
        obtain ⟨a, dx, ns, vs, ds, rfl, ha, rfl, rs⟩ := ins_rep o1 r hi
        unfold aNil at p1
        rw [R.bind_ok] at p1
        exact ⟨W1, d, μ1, a, dx, _, rfl, ha, lookup_none rs (Option.isNone_iff_eq_none.mp hn), o1, en1, r, p1⟩
      · rw [if_neg hq] at p1
        exact p1.elim
  refine PySem.W.methodCall_KW (pl := pl) (thn (ho.run pins s σ H _ I rd) fun u s1 ⟨x, H1, I1, rx, W1, d, μ1, a, dx, fs, ex, ea, l, o1, en1, r1, q1⟩ => ?_) ht
  subst ex
  obtain rfl : u = Value.ref a := rx
  refine getmeth_ok I1 ea hC hm l ?_
  have rd2 : rA X.K E fk σ H1 (fun zs H2 => ∃ W2 es μ2, zs.length = ks.length ∧ Ok X.K W2 H2 μ2 ∧ Le W1 W2 ∧ Reps X.K W2 zs es ∧ postE X.K (WE E σ) W2 H2 (F (gD [d] es) μ2) Q) := by
    refine ⟨W1, ρ, μ1, o1, en1, ?_⟩
    revert q1
    cases hq : fk ρ μ1 with
    | ok es μ2 => exact fun p W2 xs H2 g o r => ⟨W2, es, μ2, by rw [r.length]; exact hf2 ρ μ1 es μ2 hq, o, g.le, r, post.mono g p⟩
    | ex c fs μ1 => exact fun p => p
    | bad => exact fun p => p
  refine PySem.W.callWith_KW0 (first := [.ref a]) (h₀ := X.base) I.ok.mod.kin hm.kp hall (thn (hkw.run pos pins s1 σ H1 _ I1 rd2) fun ws s2 ⟨zs, H2, I2, rz, W2, es, μ2, hz, o2, l2, r2, q2⟩ => ⟨I2.kIn, ?_⟩) hpl
  rw [hks]
  exact callF_kw (us := [.ref a]) (vs := [.ref a]) G c b I2 rfl hz (.cons rfl .nil) rz o2 (.cons (r1.mono l2) .nil) r2 q2
theorem de_methK {pl : Sem Bool} (G : FnG X.prog X.w X.K X.mg X.base k f fd ps F) (c : Cal X E k) (hC : Cls X.K (cl X.K C)) (hm : Meth X.K (cl X.K C) m f) (b : KDfl X.K fd ps ((e :: es).length + 1) ks gD) (ho : DE X E o fo) (ha : DA X E (e :: es) fa) (hkw : DK X E kws fk)
    (hf : HasLen fa (e :: es).length := by repeat (first | exact aNil_len | refine aCons_len ?_)) (hf2 : HasLen fk ks.length := by repeat (first | exact aNil_len | refine aCons_len ?_))
    (hall : (backToKw pos (keywordEach kws X.env)).all (·.1.isSome) = true := by rfl) (hks : (backToKw pos (keywordEach kws X.env)).filterMap (·.1) = ks := by rfl)
    (hst : starEach (e :: es) X.env = (false, eval e X.env) :: starEach es X.env := by rfl)
    (hpl : ((backTo pos (starEach (e :: es) X.env)).any (·.1) || (backToKw pos (keywordEach kws X.env)).any (·.1.isNone)) = false := by rfl)
    (ht : eval (.Call (.Attribute o m apos) (e :: es) kws pos) X.env = (do
      let ov ← eval o X.env
      standAt apos.atName
      let (f, first) ← holding [ov] (getMethod ov m pl)
      callWith pos f first (backTo pos (starEach (e :: es) X.env)) (backToKw pos (keywordEach kws X.env))) := by rfl) :
    DE X E (.Call (.Attribute o m apos) (e :: es) kws pos) (dmethK C m F gD fo fa fk) := by
  refine ⟨fun pins s σ H Q I q => ?_⟩
  obtain ⟨W, ρ, μ, ok, en, pq⟩ := q
  unfold dmethK at pq
  have rd : rE X.K E fo σ H (fun x H1 => ∃ W1 d μ1 a dx fs, x = .ref a ∧ H1 a = some (.ins (cl X.K C) dx fs) ∧ fs.lookup m = none ∧ Ok X.K W1 H1 μ1 ∧ Envs X.K W1 σ ρ ∧ Rep X.K W1 x d ∧ postE X.K (WE E σ) W1 H1 ((fa ρ μ1).bind fun ds μ2 => (fk ρ μ2).bind fun es μ3 => F (gD (d :: ds) es) μ3) Q) := by
    refine seq pq ok en fun d μ1 W1 v H1 g1 o1 en1 r p1 => ?_
    cases hi : insD μ1 d with
    | none => rw [hi] at p1; exact p1.elim
    | some z =>
      obtain ⟨C', fs⟩ := z
      rw [hi] at p1
      dsimp only at p1
      by_cases hq : C' = C ∧ (fs.lookup m).isNone = true
      · rw [if_pos hq] at p1
        obtain ⟨rfl, hn⟩ := hq
        obtain ⟨a, dx, ns, vs, ds, rfl, ha, rfl, rs⟩ := ins_rep o1 r hi
        exact ⟨W1, d, μ1, a, dx, _, rfl, ha, lookup_none rs (Option.isNone_iff_eq_none.mp hn), o1, en1, r, p1⟩
      · rw [if_neg hq] at p1
        exact p1.elim
  refine PySem.W.methodCall_KW (pl := pl) (thn (ho.run pins s σ H _ I rd) fun u s1 ⟨x, H1, I1, rx, W1, d, μ1, a, dx, fs, ex, ea, l, o1, en1, r1, q1⟩ => ?_) ht
  subst ex
  obtain rfl : u = Value.ref a := rx
  refine getmeth_ok I1 ea hC hm l ?_
  have rd1 : rA X.K E fa σ H1 (fun vs H2 => ∃ W2 ds μ2, vs.length = (e :: es).length ∧ Ok X.K W2 H2 μ2 ∧ Le W1 W2 ∧ Envs X.K W2 σ ρ ∧ Reps X.K W2 vs ds ∧ postE X.K (WE E σ) W2 H2 ((fk ρ μ2).bind fun es μ3 => F (gD (d :: ds) es) μ3) Q) := by
    refine ⟨W1, ρ, μ1, o1, en1, ?_⟩
    revert q1
    cases hq : fa ρ μ1 with
    | ok ds μ2 => exact fun p W2 xs H2 g o r => ⟨W2, ds, μ2, by rw [r.length]; exact hf ρ μ1 ds μ2 hq, o, g.le, en1.mono g.le, r, post.mono g p⟩
    | ex c fs μ1 => exact fun p => p
    | bad => exact fun p => p
  refine PySem.W.callWith_KW (first := [.ref a]) (h₀ := X.base) I.ok.mod.kin hm.kp hall (thn (ha.run pos pins s1 σ H1 _ I1 rd1) fun us s2 ⟨vs, H2, I2, r, W2, ds, μ2, hn, o2, l2, en2, r2, q2⟩ => ?_) hpl hst
  have rd2 : rA X.K E fk σ H2 (fun zs H3 => ∃ W3 es μ3, zs.length = ks.length ∧ Ok X.K W3 H3 μ3 ∧ Le W2 W3 ∧ Reps X.K W3 zs es ∧ postE X.K (WE E σ) W3 H3 (F (gD (d :: ds) es) μ3) Q) := by
    refine ⟨W2, ρ, μ2, o2, en2, ?_⟩
    revert q2
    cases hq : fk ρ μ2 with
    | ok es μ3 => exact fun p W3 xs H3 g o r => ⟨W3, es, μ3, by rw [r.length]; exact hf2 ρ μ2 es μ3 hq, o, g.le, r, post.mono g p⟩
    | ex c fs μ1 => exact fun p => p
    | bad => exact fun p => p
  refine thn (hkw.run pos pins s2 σ H2 _ I2 rd2) fun ws s3 ⟨zs, H3, I3, rz, W3, es', μ3, hz, o3, l3, r3, q3⟩ => ⟨I3.kIn, ?_⟩
  rw [hks]
  exact callF_kw (us := .ref a :: us) (vs := .ref a :: vs) G c b I3 (by simp only [List.length_cons] at hn ⊢; omega) hz (.cons rfl r) rz o3 (.cons ((r1.mono l2).mono l3) (r2.mono l3)) r3 q3
end
/-! ### o.f op= e, of numbers -/
def addI : D → D → Option D
  | .int a, .int b => some (.int (a + b))
  | _, _ => none
def subI : D → D → Option D
  | .int a, .int b => some (.int (a - b))
  | _, _ => none
def InD (X : Cx) (op : Operator) (g : D → D → Option D) : Prop := ∃ rd : V → V → Hp → VK → Prop, InOp X op rd ∧ ∀ W x y z vx vy H Q, Rep X.K W vx x → Rep X.K W vy y → g x y = some z → (∀ v, Rep X.K W v z → Q v H) → rd vx vy H Q
theorem ind_add {X : Cx} : InD X .Add addI := ⟨rAdd, in_add, fun W x y z vx vy H Q r1 r2 h q => by
  unfold addI at h
  split at h
  · cases r1; cases r2; cases h
    exact ⟨_, _, rfl, rfl, q _ (.int _)⟩
  · cases h⟩
theorem ind_sub {X : Cx} : InD X .Sub subI := ⟨rSub, in_sub, fun W x y z vx vy H Q r1 r2 h q => by
  unfold subI at h
  split at h
  · cases r1; cases r2; cases h
    exact ⟨_, _, rfl, rfl, q _ (.int _)⟩
  · cases h⟩
def insAt (μ : Mu) : D → Option (Nat × Nat × List Str × List D)
  | .hdl l => match μ[l]? with
    | some (.ins C ns xs) => some (l, C, ns, xs)
    | _ => none
  | _ => none
def gaugat (cs : List Nat) (f : Str) (g : D → D → Option D) (fo fe : FE) : FS := fun ρ μ => (fo ρ μ).to ρ fun x μ1 => match insAt μ1 x with
  | some (_, C, ns, xs) => (match (ns.zip xs).lookup f with
    | some d => if C ∈ cs then (fe ρ μ1).to ρ fun y μ2 => (match g d y, insAt μ2 x with
      | some z, some (l, C', ns', xs') => if C' = C ∧ ns'.length < 900 ∧ ns'.length = xs'.length then .nx ρ (μ2.set l (.ins C (putP f z ns' xs').1 (putP f z ns' xs').2)) else .bad
      | _, _ => .bad) else .bad
    | none => .bad)
  | none => .bad
theorem insAt_rep {K : PySem.W.Frag} {W : Wd} {H : Hp} {μ : Mu} {v : V} {d : D} {l C : Nat} {ns : List Str} {xs : List D} (ok : Ok K W H μ) (r : Rep K W v d) (h : insAt μ d = some (l, C, ns, xs)) : ∃ a dx vs, d = .hdl l ∧ W.io[l]? = some a ∧ μ[l]? = some (.ins C ns xs) ∧ v = .ref a ∧ H a = some (.ins (cl K C) dx (ns.zip vs)) ∧ ns.length = vs.length ∧ Reps K W vs xs := by
  unfold insAt at h
  split at h
  · rename_i l'
    split at h
    · rename_i C' ns' xs' hm
      cases h
      cases r with
      | @hdl a _ ha =>
        obtain ⟨o, ho, dx, vs, rfl, hl, rs⟩ := ok.cell _ a _ ha hm
        exact ⟨a, dx, vs, rfl, ha, hm, rfl, ho, hl, rs⟩
    · cases h
  · cases h
section
variable {X : Cx} {E : WX} {cs : List Nat} {f : Str} {o e : Expr} {fo fe : FE} {pos tpos : Pos} {g : D → D → Option D} {op : Operator}
theorem ds_augat (hc : ∀ C ∈ cs, Cls X.K (cl X.K C) ∧ NoAttr X.K (cl X.K C) f) (hi : InD X op g) (ho : DE X E o fo) (he : DE X E e fe) : DS X E (.AugAssign (.Attribute o f tpos) op e pos) (gaugat cs f g fo fe) := by
  obtain ⟨rd, hop, hrd⟩ := hi
  refine ps_imp (ps_fldaug ho he hop) fun Z σ H ⟨W, ρ, μ, ok, en, p⟩ => ?_
  refine seqS p ok en fun x μ1 W1 xv H1 g1 o1 en1 r p1 => ?_
  split at p1
  · rename_i l C ns xs h1
    split at p1
    · rename_i d hd
      split at p1
      · rename_i hC
        obtain ⟨a, dx, vs, ex, ha, hm, rfl, hH, hl, rs⟩ := insAt_rep o1 r h1
        obtain ⟨v, hv, rv⟩ := lookup_rep rs hd
        refine ⟨a, _, dx, _, v, rfl, hH, (hc C hC).1, (hc C hC).2, hv, ?_⟩
        refine seqS p1 o1 en1 fun y μ2 W2 yv H2 g2 o2 en2 r2 p2 => ?_
        split at p2
        · rename_i z l' C' ns' xs' hz h2
          split at p2
          · rename_i hq
            obtain ⟨rfl, hn, hl'⟩ := hq
            refine hrd W2 d y z v yv H2 _ (rv.mono g2.le) r2 hz fun zv rz => ?_
            obtain ⟨a2, dx2, vs2, ex2, ha2, hm2, e2, hH2, hlv, rs2⟩ := insAt_rep o2 (r.mono g2.le) h2
            cases e2
            obtain ⟨ok4, g4⟩ := o2.setcell (m' := .ins C' (putP f z ns' xs').1 (putP f z ns' xs').2) (o' := .ins (cl X.K C') dx2 (putF f zv (ns'.zip vs2))) ha2 hm2 (fun z => nomatch z) ⟨dx2, (putP f zv ns' vs2).2, by rw [putP_zip f zv hlv, putP_names f zv z hlv hl'], by rw [← putP_names f zv z hlv hl']; exact putP_len f zv hlv, putP_reps f rz hlv rs2⟩
            refine ⟨dx2, _, hH2, ?_, p2 _ _ _ g4 ok4 en2⟩
            rw [List.length_zip]
            omega
          · exact p2.elim
        · exact p2.elim
      · exact p1.elim
    · exact p1.elim
  · exact p1.elim
end
/-! ### repr({}) -/
def bReprM : List D → Mu → R D
  | [.hdl l], μ => match μ[l]? with
    | some (.dct [] []) => .ok (.str "{}") μ
    | _ => .bad
  | ds, μ => bRepr ds μ
theorem cx_reprM {X : Cx} {E : WX} (hg : X.A.guards = some []) (hu : X.A.units + 64 < cLine) : CallX X E (.builtin "repr") bReprM := by
  intro pins s σ H xs us Q I rx q
  obtain ⟨E', W, μ, ds, ok, r1, p⟩ := q
  unfold bReprM at p
  split at p
  · rename_i l
    split at p
    · rename_i hm
      cases r1 with
      | cons r1 r2 =>
        cases r2
        cases rx with
        | cons w1 w2 =>
          cases w2
          cases r1 with
          | @hdl a _ ha =>
            cases w1
            obtain ⟨o, ho, vs, rfl, hl, rs⟩ := ok.cell l a _ ha hm
            cases rs
            obtain ⟨_, ya, va, ra, oo, es, ep, go, ex, od, _, pr, _⟩ := dk_of I.hok ho
            have ra : KV ([] : List (Key × V)) va := ra
            unfold KV at ra
            cases ra
            have he : es.toList = [] := by
              have := pr.length
              exact List.eq_nil_of_length_eq_zero (by simpa using this)
            have rd : Reads s.heap (.ref a) (.dict []) (a :: [] ++ []) := Reads.dict go ex.1 od (by rw [he]; exact .nil) (by rw [he]; exact .nil)
            have hs : (PyData.dict []).shown = ("{}" : Str) := by decide +kernel
            refine repr_of_reads' rd (by decide) (fun _ z => ?_) hg (by show _ + (PyData.depth _ + 1) < cLine; simp [PyData.depth, PyData.depthKv]; omega) (fun _ _ e => e) (fun h' tk tk' hk => ?_) (by rw [hs]; decide)
            · have z : sysModules = a := by simpa using z
              rw [← z] at ya
              simp at ya
            · rw [hs]
              exact ⟨.str "{}", H, I.kept hk, ⟨_, rfl⟩, post_pure ok p (.str _ (by decide))⟩
    · exact p.elim
  · exact cx_repr (E := E) hg hu pins s σ H xs us Q I rx ⟨E', W, μ, _, ok, r1, p⟩
end DL
/-! DL54: names forgotten; a for whose turns leave nothing behind. -/
namespace DL
open PySem L2 PySem.Spec PyProof.Rows
/-- slots that are known no more -/
def blank (vs : List Nat) (ρ : En) : En := go 0 ρ where
  go (i : Nat) : En → En
  | [] => []
  | x :: xs => (if i ∈ vs then none else x) :: go (i + 1) xs
theorem blank_go {vs : List Nat} : ∀ {ρ : En} {i : Nat}, (blank.go vs i ρ).length = ρ.length ∧ ∀ (j : Nat) d, (blank.go vs i ρ)[j]? = some (some d) → ρ[j]? = some (some d)
  | [], i => ⟨rfl, fun j d h => by simp [blank.go] at h⟩
  | x :: xs, i => by
    obtain ⟨h1, h2⟩ := blank_go (vs := vs) (ρ := xs) (i := i + 1)
    refine ⟨by simp [blank.go, h1], fun j d h => ?_⟩
    cases j with
    | zero =>
      simp only [blank.go, List.getElem?_cons_zero] at h ⊢
      split at h
      · cases h
      · exact h
    | succ j =>
      simp only [blank.go, List.getElem?_cons_succ] at h ⊢
      exact h2 j d h
theorem Envs.blank {K : PySem.W.Frag} {W : Wd} {σ : L2.St} {ρ : En} (h : Envs K W σ ρ) (vs : List Nat) : Envs K W σ (DL.blank vs ρ) := by
  obtain ⟨h1, h2⟩ := blank_go (vs := vs) (ρ := ρ) (i := 0)
  exact ⟨h1.trans h.len, fun i d e => h.at_ i d (h2 i d e)⟩
def gforget (vs : List Nat) (g : FS) : FS := fun ρ μ => g (blank vs ρ) μ
/-- nothing points to a cell from n on -/
def closedEn (n : Nat) : En → Bool
  | [] => true
  | none :: r => closedEn n r
  | some d :: r => d.closed n && closedEn n r
theorem closedEn_at {n : Nat} : ∀ {ρ : En} {i : Nat} {d : D}, closedEn n ρ = true → ρ[i]? = some (some d) → d.closed n = true
  | [], _, _, _, h => by simp at h
  | none :: r, 0, _, _, h => by simp at h
  | none :: r, i + 1, d, c, h => closedEn_at (ρ := r) (i := i) (by simpa [closedEn] using c) (by simpa using h)
  | some x :: r, 0, d, c, h => by
    simp at h
    subst h
    simp [closedEn] at c
    exact c.1
  | some x :: r, i + 1, d, c, h => by
    simp [closedEn] at c
    exact closedEn_at (ρ := r) (i := i) c.2 (by simpa using h)
def okCut (n : Nat) (ρ : En) (μ : Mu) : Bool := closedEn n ρ && closedMu n μ
def forT (t : Tg) (b : FS) (vs : List Nat) : List D → En → Mu → O
  | [], ρ, μ => .nx ρ μ
  | x :: xs, ρ, μ => match asg t x ρ with
    | none => .bad
    | some ρ1 => match b ρ1 μ with
      | .nx ρ2 μ2 => if okCut μ.length (blank vs ρ2) μ2 = true then forT t b vs xs (blank vs ρ2) (μ2.take μ.length) else .bad
      | .ct ρ2 μ2 => if okCut μ.length (blank vs ρ2) μ2 = true then forT t b vs xs (blank vs ρ2) (μ2.take μ.length) else .bad
      | .bk ρ2 μ2 => .nx ρ2 μ2
      | o => o
def gforT (fi : FA) (t : Tg) (b : FS) (vs : List Nat) : FS := fun ρ μ => (fi ρ μ).to ρ fun xs μ1 => forT t b vs xs (blank vs ρ) μ1
theorem Envs.cut {K : PySem.W.Frag} {W : Wd} {σ : L2.St} {ρ : En} {n : Nat} (h : Envs K W σ ρ) (c : closedEn n ρ = true) : Envs K ⟨W.S, W.io.take n⟩ σ ρ := ⟨h.len, fun i d e => by
  obtain ⟨v, h1, h2⟩ := h.at_ i d e
  exact ⟨v, h1, h2.cut (closedEn_at c e)⟩⟩
section
variable {X : Cx} {E : WX} {pos : Pos}
theorem ds_forget (vs : List Nat) {g : FS} {sts : List Stmt} (h : DSs X E sts g) : DSs X E sts (gforget vs g) := pss_imp h fun Z σ H ⟨W, ρ, μ, ok, en, p⟩ => ⟨W, blank vs ρ, μ, ok, en.blank vs, p⟩
theorem ds_forT {tg iter : Expr} {body : List Stmt} {fi : FA} {t : Tg} {b : FS} (vs : List Nat) (hp : PassesOwn (model X.prog X.w) X.A X.env X.xe) (hc : X.calm = true) (hi : DI X E tg iter fi) (hg : DG X tg t) (hb : DSs X E body b)
    (hs : ∀ x, foldedSetIterable iter X.env x = pure x := by intro _; rfl) : DS X E (.For tg iter body [] pos) (gforT fi t b vs) := by
  refine ps_imp (ps_for hp hc hi hg hb hs) fun Z σ H ⟨W, ρ, μ, ok, en, p⟩ => ?_
  refine ⟨W, ρ, μ, ok, en, ?_⟩
  unfold gforT at p
  revert p
  cases fi ρ μ with
  | ex c fs μ1 => exact fun p W' H' d g o r => p W' σ H' d g o (en.mono g.le) r
  | bad => exact fun p => p
  | ok xs μ1 =>
    rw [R.to_ok]
    intro p W1 J H1 g1 o1 wk
    refine ⟨fun i m σ H => m = xs.length - i ∧ i ≤ xs.length ∧ ∃ W2 ρ μ, Le W1 W2 ∧ Ok X.K W2 H μ ∧ Envs X.K W2 σ ρ ∧ postS X.K E W2 H (forT t b vs (xs.drop i) ρ μ) Z, ⟨xs.length, by simp, Nat.zero_le _, W1, _, μ1, Le.refl _, o1, (en.mono g1.le).blank vs, postS.mono g1 p⟩, ?_⟩
    rintro i m σ2 H2 ⟨rfl, hi, W2, ρ2, μ2, l2, o2, en2, p2⟩
    have s2 : Same W1.S H2 := l2.s.trans o2.sub
    by_cases hlt : i < xs.length
    · rw [List.drop_eq_getElem_cons hlt] at p2
      unfold forT at p2
      refine .inr ⟨wk.go H2 i s2 hlt, fun σ3 H3 => ∃ W3 ρ3 μ3, Le W1 W3 ∧ Ok X.K W3 H3 μ3 ∧ Envs X.K W3 σ3 ρ3 ∧ postS X.K E W3 H3 (forT t b vs (xs.drop (i + 1)) ρ3 μ3) Z, fun σ3 H3 ⟨W3, ρ3, μ3, l3, o3, en3, p3⟩ => ⟨xs.length - (i + 1), by omega, rfl, hlt, W3, ρ3, μ3, l3, o3, en3, p3⟩, fun x H3 y => ?_⟩
      obtain ⟨W3, g3, o3, r3⟩ := wk.yld H2 i x H3 s2 y xs[i] (List.getElem?_eq_getElem hlt) W2 μ2 l2 o2
      revert p2
      cases e : asg t xs[i] ρ2 with
      | none => exact fun p => p.elim
      | some ρ3 =>
        intro p2
        refine ⟨W3, ρ2, ρ3, xs[i], μ2, o3, en2.mono g3.le, r3, e, fun σ4 en4 _ => ⟨W3, ρ3, μ2, o3, en4, ?_⟩⟩
        have turn : ∀ {ρ5 : En} {μ5 : Mu}, postS X.K E W2 H2 (if okCut μ2.length (blank vs ρ5) μ5 = true then forT t b vs (xs.drop (i + 1)) (blank vs ρ5) (μ5.take μ2.length) else .bad) Z →
            ∀ W5 σ5 H5, Go W3 H3 W5 H5 → Ok X.K W5 H5 μ5 → Envs X.K W5 σ5 ρ5 → ∃ W3 ρ3 μ3, Le W1 W3 ∧ Ok X.K W3 H5 μ3 ∧ Envs X.K W3 σ5 ρ3 ∧ postS X.K E W3 H5 (forT t b vs (xs.drop (i + 1)) ρ3 μ3) Z := fun {ρ5 μ5} p W5 σ5 H5 g5 o5 e5 => by
          by_cases hk : okCut μ2.length (blank vs ρ5) μ5 = true
          · rw [if_pos hk] at p
            unfold okCut at hk
            simp only [Bool.and_eq_true] at hk
            have gc := (g3.trans g5).cut
            rw [o2.len] at gc
            exact ⟨_, _, _, l2.trans gc.le, o5.cut hk.2, (e5.blank vs).cut hk.1, postS.mono gc p⟩
          · rw [if_neg hk] at p
            exact p.elim
        revert p2
        dsimp only
        cases b ρ3 μ2 with
        | nx ρ5 μ5 => exact fun p W5 σ5 H5 g5 o5 e5 => turn p W5 σ5 H5 g5 o5 e5
        | ct ρ5 μ5 => exact fun p W5 σ5 H5 g5 o5 e5 => turn p W5 σ5 H5 g5 o5 e5
        | bk ρ5 μ5 => exact fun p => postS.mono g3 p
        | rt d μ5 => exact fun p => postS.mono g3 p
        | ex c fs μ5 => exact fun p => postS.mono g3 p
        | bad => exact fun p => p
    · have ei : i = xs.length := by omega
      subst ei
      rw [List.drop_length] at p2
      exact .inl ⟨wk.stop H2 _ s2 (Nat.le_refl _), p2 W2 σ2 H2 (Go.refl _ _) o2 en2⟩
end
/-- the names all unknown -/
def blankB : En → Bool
  | [] => true
  | none :: r => blankB r
  | some _ :: _ => false
/-- a turn leaves nothing behind: by its outcome -/
def turnB (vs : List Nat) (n : Nat) : O → Bool
  | .nx ρ μ => closedMu 0 μ && (blankB (blank vs ρ) && decide (ρ.length = n))
  | _ => false
theorem blankB_eq : ∀ {ρ : En}, blankB ρ = true → ρ = List.replicate ρ.length none
  | [], _ => rfl
  | none :: r, h => by
    rw [List.length_cons, List.replicate_succ, ← blankB_eq (by simpa [blankB] using h)]
  | some _ :: _, h => by simp [blankB] at h
theorem closedEn_blank {n : Nat} : ∀ {ρ : En}, blankB ρ = true → closedEn n ρ = true
  | [], _ => rfl
  | none :: r, h => by simpa [closedEn] using closedEn_blank (n := n) (by simpa [blankB] using h)
  | some _ :: _, h => by simp [blankB] at h
/-- all turns leave nothing behind -/
theorem forT_all {t : Tg} {b : FS} {vs : List Nat} {n : Nat} : ∀ {xs : List D}, (∀ x ∈ xs, ∃ ρ1, asg t x (List.replicate n none) = some ρ1 ∧ turnB vs n (b ρ1 []) = true) → forT t b vs xs (List.replicate n none) [] = .nx (List.replicate n none) []
  | [], _ => rfl
  | x :: xs, h => by
    obtain ⟨ρ1, e1, e2⟩ := h x List.mem_cons_self
    unfold forT
    rw [e1]
    dsimp only
    revert e2
    cases hb : b ρ1 [] with
    | nx ρ2 μ2 =>
      intro e2
      simp only [turnB, Bool.and_eq_true, decide_eq_true_eq] at e2
      obtain ⟨c1, c2, c3⟩ := e2
      have e3 : blank vs ρ2 = List.replicate n none := by
        have := blankB_eq c2
        rw [(blank_go (vs := vs) (ρ := ρ2) (i := 0)).1 |> fun z => (show (blank vs ρ2).length = ρ2.length from z), c3] at this
        exact this
      have hk : okCut ([] : Mu).length (blank vs ρ2) μ2 = true := by
        unfold okCut
        rw [closedEn_blank c2]
        exact c1
      dsimp only
      rw [if_pos hk, e3]
      exact forT_all fun y hy => h y (List.mem_cons_of_mem _ hy)
    | _ => intro e2; simp [turnB] at e2
end DL
/-! DL55: the laws' own digits (with addX, mulX); small things. -/
namespace DL
open PySem L2
section
variable {K : PySem.W.Frag} {x qual : Str} {params : Arguments} {body : List Stmt} {scope : Scope} {f : Addr} {fd : FuncData} {ps : List Str}
/-- a call by keywords where nothing is lacking -/
theorem kdfl_none {kws : List (Str × V)} (F : FunD K x qual params body scope [] kws f fd) (n : Nat) (ks : List Str) (ms : List (Str × V)) (md : List D) (g : {α : Type} → List α → List α → List α → List α) (h0 : ms = []) (h00 : md = [])
    (hrel : ∀ {vs mz zs : List V} {us mv ws : List Value}, Vals vs us → Vals mz mv → Vals zs ws → Vals (g vs mz zs) (g us mv ws))
    (hrep : ∀ W vs ds zs es, vs.length = n → zs.length = ks.length → Reps K W vs ds → Reps K W zs es → Reps K W (g vs (ms.map (·.2)) zs) (g ds md es))
    (hlen : ∀ us mv ws : List Value, us.length = n → mv.length = ms.length → ws.length = ks.length → (g us mv ws).length = ps.length)
    (h : ∀ (kV doc pm : Value) (an : Option Addr) (cdv ct : Value) (us mv ws : List Value), us.length = n → mv.length = ms.length → ws.length = ks.length →
      bindArgs (PySem.W.fnOf x qual params body scope .none kV doc pm an cdv ct) ⟨us, ks.zip ws⟩ = pure (ps.zip (g us mv ws))) : KDfl K fd ps n ks (fun ds es => g ds md es) := by
  subst h0
  obtain ⟨oc, od, dV, kV, doc, pm, an, cdv, ct, osl, rfl, lk, hcd, hD, hK⟩ := F.ex
  rcases hD with ⟨_, rfl⟩ | ⟨e, _⟩
  · exact ⟨fun us ws => g us [] ws, fun vs zs => g vs [] zs, fun us ws h1 h2 => hlen us [] ws h1 rfl h2,
      ⟨fun s us ws X l1 l2 => BindsTo.of_eq (h kV doc pm an cdv ct us [] ws l1 rfl l2), fun r1 r2 => hrel r1 .nil r2⟩, hrep⟩
  · exact absurd rfl e
end
theorem names_blt {X : Cx} {x : Str} {c : Value} (hg : Gl X x) (hm : X.mg x = none) (hv : bootBuiltins x = some c) (hn : x ≠ "__name__" := by decide) (hdb : (x == ("__debug__" : Str)) = false := by decide) : L2.Names X x c := ⟨hg, hdb, .inr ⟨hm, hv, hn⟩⟩
theorem mL_one {a c : Nat} {no : List Nat} (h : mL [a] no c = some true) : c = a := by
  unfold mL at h
  split at h
  · rename_i m
    simpa using m
  · split at h
    · cases h
    · cases h
def bDigX : FS := gif (tand (dtest (dvar 4)) (dtest (dbin gtD (dvar 3) (dc (.int 0))))) (gseq (gexpr (dbm "list" mAppend (dvar 6) (aCons (dbin modD (dvar 3) (dvar 8)) aNil)))
    (gasg (.nm 3) (dbin fdivD (dvar 3) (dvar 8)))) (gseq (gasg (.nm 5) (dbin modD (dbin powD (dbin addX (dvar 5) (dbin mulX (dc (.int 104729)) (dbin addX (dvar 7) (dc (.int 1))))) (dc (.int 2))) (dc (.int 2147483587))))
    (gexpr (dbm "list" mAppend (dvar 6) (aCons (dbin modD (dbin fdivD (dvar 5) (dc (.int 16))) (dvar 8)) aNil))))
def gDigX : FS := (gseq (gasg (.nm 3) (dcallB bAbs (aCons (dvar 0) aNil)))
    (gseq (gasg (.nm 4) (dbin geD (dvar 3) (dbin powD (dc (.int 10)) (dc (.int 18)))))
    (gseq (gasg (.nm 5) (dbin addX (dbin modD (dvar 3) (dc (.int 2147483647))) (dbin mulX (dc (.int 7919)) (dvar 1))))
    (gseq (gasg (.nm 6) (dcel aNil))
    (gseq (gfor (itE (aCons (dvar 2) aNil)) (.tp [(.nm 7), (.nm 8)]) bDigX)
    (gret (dfrz (dvar 6))))))))
structure DigIX (c t : Int) (ss : List Int) (μ : Mu) (k : Nat) (ρ : En) (μ' : Mu) : Prop where
  ex : ∃ (num seed : Int) (w : Bool) (a7 a8 : Option D) (ns : List Int), ρ = [some (.int c), some (.int t), some (.lst (ss.map .int)), some (.int num), some (.bl w), some (.int seed), some (.hdl μ.length), a7, a8] ∧ μ' = μ ++ [.lst (ns.map .int)] ∧ ns.length = k ∧
    (∀ (i : Nat) n s, ns[i]? = some n → ss[i]? = some s → 0 ≤ n ∧ n < s) ∧ 0 ≤ seed ∧ seed ≤ 2 ^ 40
theorem digX_step {c t : Int} {ss : List Int} {μ : Mu} (hs : ∀ s ∈ ss, 0 < s ∧ s < 1073741824) (hl : ss.length ≤ 1000) (i : Nat) (s : Int) (hi : ss[i]? = some s) (ρ : En) (μ' : Mu) (h : DigIX c t ss μ i ρ μ') :
    ∃ ρ1 ρ2 μ2, asg (.tp [(.nm 7), (.nm 8)]) (.tup [.int i, .int s]) ρ = some ρ1 ∧ bDigX ρ1 μ' = .nx ρ2 μ2 ∧ DigIX c t ss μ (i + 1) ρ2 μ2 := by
  obtain ⟨num, seed, w, a7, a8, ns, rfl, rfl, hn, hb, h0, h1⟩ := h.ex
  obtain ⟨s0, s1⟩ := hs s (List.mem_of_getElem? hi)
  have hil : i < 1000 := Nat.lt_of_lt_of_le (List.getElem?_eq_some_iff.mp hi).1 hl
  have nl : (ns.map D.int).length < 1000000 := by rw [List.length_map]; omega
  by_cases hw : w = true ∧ 0 < num
  · obtain ⟨rfl, hw⟩ := hw
    refine ⟨[some (.int c), some (.int t), some (.lst (ss.map .int)), some (.int num), some (.bl true), some (.int seed), some (.hdl μ.length), some (.int i), some (.int s)], [some (.int c), some (.int t), some (.lst (ss.map .int)), some (.int (num / s)), some (.bl true), some (.int seed), some (.hdl μ.length), some (.int i), some (.int s)], μ ++ [.lst ((ns ++ [num % s]).map .int)], by simp, by simp [bDigX, hw, tyD, s0, s1, hn, show i < 1000000 by omega], ⟨num / s, seed, true, _, _, ns ++ [num % s], rfl, by simp, by simp [hn], fun j n s' e1 e2 => ?_, h0, h1⟩⟩
    rcases app_at e1 with e | ⟨rfl, rfl⟩
    · exact hb j n s' e e2
    · rw [hn] at e2
      rw [hi] at e2
      cases e2
      exact ⟨Int.emod_nonneg _ (by omega), Int.emod_lt_of_pos _ s0⟩
  · have hw' : w = false ∨ ¬ 0 < num := by
      cases w
      · exact .inl rfl
      · exact .inr fun z => hw ⟨rfl, z⟩
    have m0 := Int.emod_nonneg ((seed + 104729 * (((i : Nat) : Int) + 1)) ^ 2) (b := 2147483587) (by omega)
    have m1 := Int.emod_lt_of_pos ((seed + 104729 * (((i : Nat) : Int) + 1)) ^ 2) (b := 2147483587) (by omega)
    have hp : (seed + 104729 * (((i : Nat) : Int) + 1)).natAbs < 18446744073709551616 := by omega
    refine ⟨[some (.int c), some (.int t), some (.lst (ss.map .int)), some (.int num), some (.bl w), some (.int seed), some (.hdl μ.length), some (.int i), some (.int s)], _, _, by simp, ?_, ⟨num, (seed + 104729 * (((i : Nat) : Int) + 1)) ^ 2 % 2147483587, w, some (.int i), some (.int s), ns ++ [(seed + 104729 * (((i : Nat) : Int) + 1)) ^ 2 % 2147483587 / 16 % s], rfl, rfl, by simp [hn], fun j n s' e1 e2 => ?_, m0, by omega⟩⟩
    · rcases hw' with rfl | hw'
      · simp [bDigX, tyD, s0, s1, hn, show i < 1000000 by omega, hp]
      · cases w <;> simp [bDigX, hw', tyD, s0, s1, hn, show i < 1000000 by omega, hp]
    · rcases app_at e1 with e | ⟨rfl, rfl⟩
      · exact hb j n s' e e2
      · rw [hn] at e2
        rw [hi] at e2
        cases e2
        exact ⟨Int.emod_nonneg _ (by omega), Int.emod_lt_of_pos _ s0⟩
theorem digX_ok (c t : Int) (ht : 0 ≤ t ∧ t ≤ 1000000) (ss : List Int) (hs : ∀ s ∈ ss, 0 < s ∧ s < 1073741824) (hl : ss.length ≤ 1000) (μ : Mu) (hμ : closedMu μ.length μ = true) :
    ∃ ns : List Int, ns.length = ss.length ∧ (∀ (i : Nat) n s, ns[i]? = some n → ss[i]? = some s → 0 ≤ n ∧ n < s) ∧ callF 9 gDigX [.int c, .int t, .lst (ss.map .int)] μ = .ok (.lst (ns.map .int)) μ := by
  have m0 := Int.emod_nonneg (if c < 0 then -c else c) (b := 2147483647) (by omega)
  have m1 := Int.emod_lt_of_pos (if c < 0 then -c else c) (b := 2147483647) (by omega)
  have run := for_enum (t := .tp [(.nm 7), (.nm 8)]) (b := bDigX) (xs := ss.map D.int) (k := 0) (DigIX c t ss μ) (ρ := [some (.int c), some (.int t), some (.lst (ss.map .int)), some (.int (if c < 0 then -c else c)), some (.bl (decide (10 ^ 18 ≤ (if c < 0 then -c else c)))), some (.int ((if c < 0 then -c else c) % 2147483647 + 7919 * t)), some (.hdl μ.length), none, none]) (μ := μ ++ [.lst []])
    (fun i x hx ρ μ' h => by
      rw [List.getElem?_map] at hx
      cases hq : ss[i]? with
      | none => rw [hq] at hx; cases hx
      | some s =>
        rw [hq] at hx
        cases hx
        rw [Nat.zero_add] at h ⊢
        exact digX_step hs hl i s hq ρ μ' h)
    ⟨_, _, _, _, _, [], rfl, rfl, rfl, fun i n s e _ => (by simp at e), by omega, by omega⟩
  obtain ⟨ρ', μ', e, h⟩ := run
  obtain ⟨num, seed, w, a7, a8, ns, rfl, rfl, hn, hb, _, _⟩ := h.ex
  rw [List.length_map, Nat.zero_add] at hn
  refine ⟨ns, hn, hb, ?_⟩
  have body : gDigX (startD 9 [.int c, .int t, .lst (ss.map .int)]) μ = .rt (.lst (ns.map .int)) (μ ++ [.gone]) := by
    simp [gDigX, startD]
    simp at e
    rw [e]
    simp [show ns.length ≤ 1000000 by omega]
  rw [callF_eq _ _ _ _ _ _ body]
  exact trunc_app (by simp [D.closed, closed_ints]) hμ
end DL
/-! DL56: a law that goes through its script's cells by digits, each turn by itself. -/
namespace DL
open PySem L2
theorem enum_mem {xs : List D} {x : D} {k : Int} (h : x ∈ enumD k xs) : ∃ (i : Nat) (y : D), i < xs.length ∧ xs[i]? = some y ∧ x = .tup [.int (k + i), y] := by
  obtain ⟨i, hi⟩ := List.getElem?_of_mem h
  have hl := (List.getElem?_eq_some_iff.mp hi).1
  rw [enumD_len] at hl
  have e := enumD_get k xs i xs[i] (List.getElem?_eq_getElem hl)
  rw [hi] at e
  exact ⟨i, xs[i], hl, List.getElem?_eq_getElem hl, Option.some.inj e⟩
theorem turn_law {body : FS} {n : Nat} {al : List Nat} {k : Int} {sc : D}
    (hb : blank al (startD n [sc]) = List.replicate n none) (ha : ∀ a b, asg (.tp [.nm 1, .nm 2]) (.tup [a, b]) (List.replicate n none) = some (none :: some a :: some b :: List.replicate (n - 3) none))
    (hv : startD n [sc] = some sc :: List.replicate (n - 1) none)
    (ht : ∀ (i : Nat) (c : Int), i < 100 → turnB al n (body (none :: some (.int i) :: some (.int c) :: List.replicate (n - 3) none) []) = true) (ns : List Int) (hns : ns.length ≤ 63) (hs : sc = .lst (ns.map D.int)) :
    ∃ μ', callF n (gseq (gforT (itE (aCons (dsl (dbin addX (dvar 0) (dlst (aCons (dc (.int 1)) aNil))) onone (osome (dc (.int k)))) aNil)) (.tp [.nm 1, .nm 2]) body al) (gret (dc (.bl true)))) [sc] [] = .ok (.bl true) μ' := by
  obtain ⟨cs, hc⟩ : ∃ cs : List Int, DL.cutD ((ns ++ [1]).map D.int) none (some k) = cs.map D.int := ⟨_, by unfold DL.cutD; rw [← List.map_drop, ← List.map_take]⟩
  have hcl : cs.length ≤ 64 := by
    have := cutD_len ((ns ++ [1]).map D.int) none (some k)
    rw [hc] at this
    simp at this
    omega
  have e0 : DL.cutD (ns.map D.int ++ [D.int 1]) none (some k) = cs.map D.int := by
    rw [← hc]
    simp
  have run : forT (.tp [.nm 1, .nm 2]) body al (enumD 0 (cs.map D.int)) (List.replicate n none) [] = .nx (List.replicate n none) [] := by
    refine forT_all fun x hx => ?_
    obtain ⟨i, y, hi, hy, rfl⟩ := enum_mem hx
    rw [List.getElem?_map] at hy
    cases hq : cs[i]? with
    | none => rw [hq] at hy; cases hy
    | some c =>
      rw [hq] at hy
      cases hy
      refine ⟨_, ha _ _, ?_⟩
      rw [Int.zero_add]
      exact ht i c (by rw [List.length_map] at hi; omega)
  have it : itE (aCons (dsl (dbin addX (dvar 0) (dlst (aCons (dc (.int 1)) aNil))) onone (osome (dc (.int k)))) aNil) (startD n [sc]) [] = .ok (enumD 0 (cs.map D.int)) [] := by
    rw [hv, hs]
    simp [slD, show ns.length + 1 ≤ 1000000 by omega, e0]
  have go : gforT (itE (aCons (dsl (dbin addX (dvar 0) (dlst (aCons (dc (.int 1)) aNil))) onone (osome (dc (.int k)))) aNil)) (.tp [.nm 1, .nm 2]) body al (startD n [sc]) [] = .nx (List.replicate n none) [] := by
    unfold gforT
    rw [it, R.to_ok, hb]
    exact run
  have all : (gseq (gforT (itE (aCons (dsl (dbin addX (dvar 0) (dlst (aCons (dc (.int 1)) aNil))) onone (osome (dc (.int k)))) aNil)) (.tp [.nm 1, .nm 2]) body al) (gret (dc (.bl true)))) (startD n [sc]) [] = .rt (.bl true) [] := by
    rw [ap_seq, go]
    simp
  rw [callF_eq _ _ _ _ _ _ all]
  exact ⟨_, by simp [trunc, closedMu, D.closed]; rfl⟩
end DL
/-! DL57: alternatives; a lambda, made and called. -/
namespace DL
open PySem PySem.Spec PyProof.Rows L2
/-! ### the first of two readings that is no bad one -/
def dalt (f g : FE) : FE := fun ρ μ => match f ρ μ with
  | .bad => g ρ μ
  | r => r
def galt (f g : FS) : FS := fun ρ μ => match f ρ μ with
  | .bad => g ρ μ
  | r => r
section
variable {X : Cx} {E : WX}
theorem de_alt {e : Expr} {f g : FE} (h1 : DE X E e f) (h2 : DE X E e g) : DE X E e (dalt f g) := ⟨fun pins s σ H Q I ⟨W, ρ, μ, ok, en, p⟩ => by
  unfold dalt at p
  cases h : f ρ μ with
  | bad =>
    rw [h] at p
    exact h2.run pins s σ H Q I ⟨W, ρ, μ, ok, en, p⟩
  | ok d μ1 =>
    rw [h] at p
    exact h1.run pins s σ H Q I ⟨W, ρ, μ, ok, en, by rw [h]; exact p⟩
  | ex c fs μ1 =>
    rw [h] at p
    exact h1.run pins s σ H Q I ⟨W, ρ, μ, ok, en, by rw [h]; exact p⟩⟩
theorem ds_alt {e : Stmt} {f g : FS} (h1 : DS X E e f) (h2 : DS X E e g) : DS X E e (galt f g) := ⟨fun pins s σ H Z I ⟨W, ρ, μ, ok, en, p⟩ => by
  unfold galt at p
  by_cases h : f ρ μ = .bad
  · rw [h] at p
    exact h2.run pins s σ H Z I ⟨W, ρ, μ, ok, en, p⟩
  · have e2 : (match f ρ μ with | .bad => g ρ μ | r => r) = f ρ μ := by
      cases q : f ρ μ with
      | bad => exact absurd q h
      | _ => rfl
    rw [e2] at p
    exact h1.run pins s σ H Z I ⟨W, ρ, μ, ok, en, p⟩⟩
end
/-! ### a lambda is made -/
/-- what is known of a def that makes functions of the name q -/
structure LamAt (X : Cx) (q : Str) : Prop where
  at_ : ∃ p ∈ lamDefs, p.2 = q ∧ X.env.code = .ref (He.cT X.K p.1).1
  tin : TabIn X.K X.base X.mg
  one : ∀ p ∈ tabsOf X.K, ∀ p' ∈ tabsOf X.K, p.1 = p'.1 → p.2 = p'.2
/-- a table has one more, its code object is new -/
theorem tab_more {K : PySem.W.Frag} {W : Wd} {H : Hp} {μ : Mu} {P c : Addr} {q : Str} {ps : Array Value} {pos : Pos} (ok : Ok K W H μ) (hP : H P = some (.tbl ps)) (tk : TriplesOk ps.toList) (ht : (P, q) ∈ tabsOf K) (one : ∀ p ∈ tabsOf K, p.1 = P → p.2 = q) (hc : H c = none) :
    Ok K W (upd (upd H P (.tbl (ps ++ #[rawInt pos.line, rawInt pos.col, .ref c]))) c (LamX.CodeO c q)) μ ∧ Go W H W (upd (upd H P (.tbl (ps ++ #[rawInt pos.line, rawInt pos.col, .ref c]))) c (LamX.CodeO c q)) := by
  have nPc : P ≠ c := ne_of_none hP hc
  have ch : ∀ b, b ≠ P → b ≠ c → upd (upd H P (.tbl (ps ++ #[rawInt pos.line, rawInt pos.col, .ref c]))) c (LamX.CodeO c q) b = H b := fun b h1 h2 => (upd_ne h2).trans (upd_ne h1)
  have st : ∀ b o, H b = some o → (∀ ps, o ≠ .tbl ps) → upd (upd H P (.tbl (ps ++ #[rawInt pos.line, rawInt pos.col, .ref c]))) c (LamX.CodeO c q) b = some o := fun b o e n => by
    rw [ch b (fun z => n ps (Option.some.inj (e.symm.trans (by rw [z]; exact hP)))) (ne_of_none e hc)]
    exact e
  have sP : W.S P = none := ok.tab.no _ ht
  refine ⟨⟨fun b o e => ?_, ok.len, ok.nd, ok.apart, fun l b m e1 e2 => ?_, ⟨fun p hp => ?_, ok.tab.no⟩⟩, ⟨Le.refl _, fun b o e _ n => st b o e n, fun b e => ?_, fun b e => .inl e, fun b o e => .inl e⟩⟩
  · have e' := ok.sub b o e
    rw [ch b (ne_of_none e sP) (ne_of_none e' hc)]
    exact e'
  · obtain ⟨o, ho, co⟩ := ok.cell l b m e1 e2
    exact ⟨o, st b o ho co.notbl, co⟩
  · obtain ⟨qs, a1, a2, a3⟩ := ok.tab.all p hp
    by_cases hb : p.1 = P
    · have e2 := one p hp hb
      have e3 : qs = ps := by
        rw [hb, hP] at a1
        exact (HO.tbl.inj (Option.some.inj a1)).symm
      subst e3
      refine ⟨qs ++ #[rawInt pos.line, rawInt pos.col, .ref c], ?_, ?_, fun p' cv hcv => ?_⟩
      · rw [hb, upd_ne nPc, upd_same]
      · rw [Array.toList_append]
        exact PySem.TriplesOk_snoc _ _ _ _ tk
      · rw [Array.toList_append] at hcv
        rcases LamX.among_app (pos := pos) _ tk hcv with z | z
        · obtain ⟨c0, e4, e5⟩ := a3 p' cv z
          exact ⟨c0, e4, st _ _ e5 (LamX.codeO_ne)⟩
        · exact ⟨c, z, by rw [e2]; exact upd_same⟩
    · refine ⟨qs, ?_, a2, fun p' cv hcv => ?_⟩
      · rw [ch p.1 hb (ne_of_none a1 hc)]
        exact a1
      · obtain ⟨c0, e4, e5⟩ := a3 p' cv hcv
        exact ⟨c0, e4, st _ _ e5 (LamX.codeO_ne)⟩
  · by_cases z1 : b = c
    · rw [z1]; exact hc
    · by_cases z2 : b = P
      · rw [z2, upd_ne nPc, upd_same] at e
        cases e
      · rw [ch b z2 z1] at e
        exact e
theorem Ok.codeOut {K : PySem.W.Frag} {W : Wd} {H : Hp} {μ : Mu} {c : Addr} {φ : Heap → Prop} (ok : Ok K W H μ) (h : H c = some (.ext φ)) : c ∉ W.io := fun z => by
  obtain ⟨l, hl, e⟩ := List.mem_iff_getElem.mp z
  have hm : l < μ.length := by rw [← ok.len]; exact hl
  obtain ⟨u, q, co⟩ := ok.cell l c μ[l] (by rw [List.getElem?_eq_getElem hl, e]) (List.getElem?_eq_getElem hm)
  rw [h] at q
  exact co.plain.2 _ (Option.some.inj q).symm
section
variable {X : Cx} {pins : List (Addr × Obj)} {σ : L2.St} {H : Hp} {s : Shared} {W : Wd} {μ : Mu}
/-- the lambda's object stands at f; its code object at c' -/
theorem lam_new {q : Str} {params : Arguments} {body : Expr} {scope : Scope} {pos : Pos} {E' : Value → Shared → Prop} {Q : Value → Shared → Prop} (L : LamAt X q) (hq : X.env.qual ++ "<lambda>" = q) (I : Inv X pins σ H s) (ok : Ok X.K W H μ) (hdef : defaultsOf params X.env = ([], [])) (hfree : scope.names.all (fun y => !decide (y.2 = .free)) = true)
    (h : ∀ (f c' : Addr) (pm ctv : Value) (H1 : Hp) (s' : Shared), Inv X pins σ H1 s' → Ok X.K W H1 μ → Go W H W H1 →
      s'.heap.get? f = some (PySem.W.kla_obj "<lambda>" q params body scope (cloFrom X.env.cells scope.names []) pm c' ctv) → H1 f = none → f ∉ frs X.stack → H1 c' = some (LamX.CodeO c' q) → Q (.ref f) s') :
    wpAny (model X.prog X.w) X.A (eval (.Lambda params body scope pos) X.env) Q E' s := by
  obtain ⟨p, hp, ep, hcode⟩ := L.at_
  have TB := L.tin p hp
  have inT : ((He.cT X.K p.1).2, q) ∈ tabsOf X.K := by rw [← ep]; exact tabs_mem hp
  obtain ⟨ps, tP, tk, all⟩ := ok.tab.all _ inT
  have noFree : ∀ y ∈ scope.names, y.2 = .free → ∃ c, X.env.cells.lookup y.1 = some c := fun y hy e => by
    have z := List.all_eq_true.mp hfree y hy
    rw [e] at z
    exact absurd z (by decide)
  refine PySem.W.kla_eval hdef ?_
  rw [hq]
  have bAt := TB.bm.keeps I.bk
  have pAt : s.heap.get? (He.cT X.K p.1).2 = some { cls := .none, data := .fields ps } := I.hok _ _ tP
  have out : ∀ f, s.heap.objs.size ≤ f → f ∉ frs X.stack := fun f hf z => by
    rcases List.mem_cons.mp (I.stkSub _ z) with e | e
    · have z2 := I.lt
      rw [← e] at z2
      exact absurd z2 (Nat.not_lt.mpr hf)
    · exact I.nofs hf e
  cases found : codeAmong pos ps.toList with
  | none =>
    refine PySem.W.kla_makeFunction (mg := X.mg) (P := (He.cT X.K p.1).2) (closure_ok noFree) I.ok.glob (I.mod.glob.keeps I.bk) hcode (TB.code.keeps I.bk) pAt tk found TB.gP bAt fun c' ctv h' t' keep ge lt cr tb => ?_
    obtain ⟨c2, oc, vs, t, e2, o1, o2, o3⟩ := cr
    cases e2
    have fresh : H c' = none := I.hok.fresh ge
    have big : s.heap.objs.size ≤ h'.objs.size := by omega
    obtain ⟨okN, goN⟩ := tab_more (pos := pos) ok tP tk inT (fun r hr e => (L.one r hr _ inT e)) fresh
    have IN := LamX.inv_table (q := q) (t' := t') (more := #[rawInt pos.line, rawInt pos.col, .ref c']) (h' := h'.push (PySem.W.kla_obj "<lambda>" q params body scope (cloFrom X.env.cells scope.names []) ((X.mg "__name__").getD .none) c' ctv)) I tP
      (fun b o nb e => Heap.get?_push_of_some _ (keep b o nb e)) (Heap.get?_push_of_some _ tb) ge ⟨oc, vs, t, Heap.get?_push_of_some _ o1, o2, o3⟩
    refine h h'.objs.size c' _ ctv _ _ IN okN goN (Heap.get?_push_size _ rfl) ?_ (out _ big) upd_same
    have z := I.hok.fresh big
    have z2 : h'.objs.size ≠ (He.cT X.K p.1).2 := fun e => by rw [e, tP] at z; cases z
    rw [upd_ne (Nat.ne_of_gt lt), upd_ne z2]
    exact z
  | some cv =>
    obtain ⟨c', e, co⟩ := all pos cv found
    subst e
    refine PySem.W.kla_makeFunctionHit (mg := X.mg) (P := (He.cT X.K p.1).2) (closure_ok noFree) I.ok.glob (I.mod.glob.keeps I.bk) hcode (TB.code.keeps I.bk) pAt tk found bAt fun ctv h' t' keep big => ?_
    exact h h'.objs.size c' _ ctv H _ (I.kept fun b o e => Heap.get?_push_of_some _ (keep b o e)) ok (Go.refl _ _) (Heap.get?_push_size _ rfl) (I.hok.fresh big) (out _ big) co
end
end DL
/-! DL58: a lambda called; sorted by a key. -/
namespace DL
open PySem PySem.Spec PyProof.Rows PySem.W L2
section
variable {X : Cx} {pins : List (Addr × Obj)} {σ : L2.St} {H : Hp} {s : Shared} {W : Wd} {μ : Mu} {Q : VK}
/-- f(us), f a lambda without captured names -/
theorem lam_at {A : Around} {E2 : Value → Shared → Prop} {k : Nat} {f c' : Addr} {name qual : Str} {params : Arguments} {body : Expr} {scope : Scope} {N ps : List Str} {pm ctv : Value} {fe : FE} {us : List Value} {vs : List V} {ds : List D}
    (hA : Room (k + 1) A) (hg : A.guards = some []) (he : Env0 X.prog X.w X.K X.mg X.base A X.stack s H) (sc : FnScope N ps scope)
    (hf : s.heap.get? f = some (kla_obj name qual params body scope [] pm c' ctv)) (hc : H c' = some (LamX.CodeO c' qual))
    (hbind : bindArgs (kla_fn name qual params body scope [] pm (.ref c') ctv) ⟨us, []⟩ = pure (ps.zip us))
    (hb : ∀ (A : Around) (outer : List Env) (s : Shared) (H : Hp) (E : XK), Cal (cxOf (L2.CX X.prog X.w) X.prog X.w X.K X.mg X.base N qual scope f (.ref c') A outer s H E) (lift E) k → DE (cxOf (L2.CX X.prog X.w) X.prog X.w X.K X.mg X.base N qual scope f (.ref c') A outer s H E) (lift E) body fe)
    (I : Inv X pins σ H s) (hn : us.length = ps.length) (rv : Vals vs us) (ok : Ok X.K W H μ) (r : Reps X.K W vs ds) (q : postE X.K (fun _ _ _ => False) W H (fe (startD N.length ds) μ) Q) :
    wpAny (model X.prog X.w) A (call (.ref f) us) (fun u s2 => ∃ v H2, Inv X pins σ H2 s2 ∧ Un (frs X.stack) [] H H2 s.heap s2.heap ∧ RelV v u ∧ Q v H2) E2 s := by
  have hvl : vs.length = ps.length := by rw [rv.length, hn]
  have nl : s.heap.NoLimit := he.mod.nolimit.keeps fun b o e => (he.bs b o e).1
  have kinds : ∀ y ∈ ps.zip us, scope.names.lookup y.1 = some .local ∨ (scope.names.lookup y.1 = some .cell ∧ ((cellsFrom (s.heap.objs.size + 1) scope.names []).lookup y.1).isSome = true) := by
    rintro ⟨n, v⟩ hy
    rcases sc.par n (List.of_mem_zip hy).1 with q | q
    · exact .inl q
    · exact .inr ⟨q, PySem.W.cellsFrom_some _ _ _ (.inl q)⟩
  obtain ⟨⟨oc, ws, t, o1, o2, o3⟩, _, _⟩ := I.hok c' _ hc
  have run : codeAny (model X.prog X.w) A (.call (.ref f) ⟨us, []⟩) (CR (L2.CX X.prog X.w) X.stack X.prog X.w H s Q (fun _ _ _ => False)) s := by
    refine kla_callFunE hA.depth hf rfl sc.co sc.gen rfl ⟨c', oc, ws, t, rfl, o1, o2, o3⟩ ?_
    rw [hbind]
    refine wpAny_pure ?_
    refine wpAny_newFunctionEnv_cells sc.kind kinds fun env hev s1 x => ?_
    subst hev
    have I0 : Inv (cxOf (L2.CX X.prog X.w) X.prog X.w X.K X.mg X.base N qual scope f (.ref c') A X.stack s H (fun _ _ _ => False)) [] (start N vs) H s1 := inv_start sc hA.hd he hvl rv x
    refine ⟨nl.keeps x.toInCall.keep, kla_codeExpr (wpAny_mono ((hb A X.stack s H _ ⟨hA.deeper _, hg, takes_of rfl rfl rfl rfl⟩).run [] s1 (start N vs) H Q I0 ⟨W, startD N.length ds, μ, ok, envs_start r, q⟩) (fun u s2 hs => ?_) fun e s2 hs => hs)⟩
    obtain ⟨v, H2, J, rr, qq⟩ := hs
    exact ⟨v, H2, J.os, J.bare, J.base, J.hok, rr, qq⟩
  refine wpAny_call (codeAny_mono run fun z s2 hz => ?_)
  match z, hz with
  | .error e, hz =>
    obtain ⟨_, _, _, _, _, _, _, _, _, _, _, _, zz⟩ := hz
    exact zz.elim
  | .ok (.ret u), ⟨v, H2, a1, a2, a3, a4, a5, a6⟩ => exact ⟨v, H2, I.call' a1 a3 a4 a2 (fun _ z => nomatch z), a3, a5, a6⟩
end
/-! ### the order of keys -/
def insP (p : PyData × D) : List (PyData × D) → List (PyData × D)
  | [] => [p]
  | q :: qs => if dataLt q.1 p.1 = true then q :: insP p qs else p :: q :: qs
def srtP : List (PyData × D) → List (PyData × D)
  | [] => []
  | p :: ps => insP p (srtP ps)
abbrev leP : PyData × D → PyData × D → Bool := dataLe false Prod.fst
theorem leP_total : TotalLe leP := sortLe_total (listOrd itemOrd) false fun b : PyData × D => keyToks b.1
theorem leP_is (a b : PyData × D) : leP a b = !dataLt b.1 a.1 := rfl
theorem insP_mem {p x : PyData × D} : ∀ {l : List (PyData × D)}, x ∈ insP p l ↔ x = p ∨ x ∈ l
  | [] => by simp [insP]
  | q :: qs => by
    unfold insP
    split
    · rw [List.mem_cons, insP_mem, List.mem_cons]
      constructor
      · rintro (h | h | h)
        · exact .inr (.inl h)
        · exact .inl h
        · exact .inr (.inr h)
      · rintro (h | h | h)
        · exact .inr (.inl h)
        · exact .inl h
        · exact .inr (.inr h)
    · simp
theorem insP_pw {p : PyData × D} : ∀ {l : List (PyData × D)}, l.Pairwise (fun a b => leP a b = true) → (insP p l).Pairwise (fun a b => leP a b = true)
  | [], _ => by simp [insP]
  | q :: qs, h => by
    obtain ⟨h1, h2⟩ := List.pairwise_cons.mp h
    unfold insP
    split
    · rename_i hlt
      refine List.pairwise_cons.mpr ⟨fun z hz => ?_, insP_pw h2⟩
      rcases insP_mem.mp hz with e | hz
      · rw [e]
        rcases leP_total.total q p with z | z
        · exact z
        · rw [leP_is, hlt] at z
          cases z
      · exact h1 z hz
    · rename_i hlt
      have pq : leP p q = true := by rw [leP_is]; simp at hlt; simp [hlt]
      refine List.pairwise_cons.mpr ⟨fun z hz => ?_, h⟩
      rcases List.mem_cons.mp hz with e | hz
      · rw [e]; exact pq
      · exact leP_total.trans _ _ _ pq (h1 z hz)
theorem srtP_pw : ∀ l : List (PyData × D), (srtP l).Pairwise (fun a b => leP a b = true)
  | [] => .nil
  | _ :: ps => insP_pw (srtP_pw ps)
theorem insP_rank {p c : PyData × D} : ∀ {l : List (PyData × D)}, (insP p l).filter (sameRank leP c) = (p :: l).filter (sameRank leP c)
  | [] => rfl
  | q :: qs => by
    unfold insP
    split
    · rename_i hlt
      rw [List.filter_cons, insP_rank]
      by_cases hp : sameRank leP c p = true
      · have hq : sameRank leP c q = false := by
          cases hq : sameRank leP c q with
          | false => rfl
          | true =>
            unfold sameRank at hp hq
            simp only [Bool.and_eq_true] at hp hq
            have z := leP_total.trans _ _ _ hp.2 hq.1
            rw [leP_is, hlt] at z
            cases z
        rw [if_neg (by rw [hq]; decide), List.filter_cons, if_pos hp, List.filter_cons, if_pos hp, List.filter_cons, if_neg (by rw [hq]; decide)]
      · rw [List.filter_cons (x := p), if_neg hp, List.filter_cons (x := p), if_neg hp, List.filter_cons (x := q)]
    · rfl
theorem srtP_rank (c : PyData × D) : ∀ l : List (PyData × D), (srtP l).filter (sameRank leP c) = l.filter (sameRank leP c)
  | [] => rfl
  | p :: ps => by
    show (insP p (srtP ps)).filter _ = _
    rw [insP_rank, List.filter_cons, List.filter_cons, srtP_rank c ps]
theorem srtP_eq (l : List (PyData × D)) : srtP l = l.mergeSort leP := sort_unique leP_total (srtP_pw l) fun c => srtP_rank c l
/-! ### keys, one behind the other -/
def keysL (n : Nat) (fk : FE) : List D → Mu → R (List D)
  | [], μ => .ok [] μ
  | d :: ds, μ => (fk (startD n [d]) μ).nox.bind fun k μ1 => (keysL n fk ds μ1).bind fun ks μ2 => .ok (k :: ks) μ2
def isTupP : PyData → Bool
  | .tuple (_ :: _) => true
  | _ => false
def noTupP : PyData → Bool
  | .none => false
  | .tuple _ => false
  | _ => true
/-- may be sorted by these keys -/
def keysOk (ps : List PyData) : Bool := (ps.all fun a => ps.all fun b => alike a b) && ((ps.all isTupP || ps.all noTupP) && ps.all fun p => decide (p.depth ≤ 40))
theorem keysOk_alike {ps : List PyData} (h : keysOk ps = true) : AllAlike ps := by
  unfold keysOk at h
  rw [Bool.and_eq_true] at h
  exact fun d hd d' hd' => List.all_eq_true.mp (List.all_eq_true.mp h.1 d hd) d' hd'
theorem keysOk_sort {ps : List PyData} (h : keysOk ps = true) : Sortable ps := by
  unfold keysOk at h
  rw [Bool.and_eq_true, Bool.and_eq_true, Bool.or_eq_true] at h
  rcases h.2.1 with z | z
  · refine .inl fun d hd => ?_
    have q := List.all_eq_true.mp z d hd
    unfold isTupP at q
    split at q
    · exact ⟨_, _, rfl⟩
    · cases q
  · refine .inr fun d hd => ?_
    have q := List.all_eq_true.mp z d hd
    unfold noTupP at q
    split at q
    · cases q
    · cases q
    · rename_i h1 h2
      exact ⟨fun e => h1 (by rw [e]), fun xs e => h2 xs (by rw [e])⟩
theorem keysOk_depth {ps : List PyData} (h : keysOk ps = true) : ∀ d ∈ ps, d.depth ≤ 40 := by
  unfold keysOk at h
  rw [Bool.and_eq_true, Bool.and_eq_true] at h
  exact fun d hd => of_decide_eq_true (List.all_eq_true.mp h.2.2 d hd)
/-- items sorted by their keys -/
def sortBy (ds ks : List D) (μ : Mu) : R D := match D.pys ks with
  | some ps => if (keysOk ps && decide (ps.length = ds.length)) = true then .ok (.lst ((srtP (ps.zip ds)).map (·.2))) μ else .bad
  | none => .bad
/-- a thing of ours that is untracked becomes tracked; others of ours have turned -/
theorem inv_adopt {X : Cx} {pins : List (Addr × Obj)} {σ : L2.St} {H : Hp} {s : Shared} {h' : Heap} {t' : Nat} {ch : List Addr} {T : Addr} {ob : HO} (I : Inv X pins σ H s) (k : ∀ b o, b ∉ ch → s.heap.get? b = some o → h'.get? b = some o) (hf : ∀ b ∈ ch, FpOk X pins H b) (hT : T ∈ ch)
    (new : ObjOk X.prog X.w (upd H T ob) h' T ob) : Inv X pins σ (upd H T ob) { s with heap := h', toks := t' } := by
  have hn : H T = none := (hf T hT).1
  have out : ∀ b u, H b = some u → b ∉ ch := fun b u e z => nomatch (e.symm.trans (hf b z).1)
  have ne : ∀ b, b ∉ ch → b ≠ T := fun b h z => h (by rw [z]; exact hT)
  have at_ : ∀ b u, H b = some u → upd H T ob b = some u := fun b u e => (upd_ne (ne_of_none e hn)).trans e
  refine I.step (g' := s.gens) (d' := s.drawn) (ch := ch) (fun b hb => ?_) (fun b o _ _ hc e _ => k b o hc e) (fun b o _ _ hc e _ => ⟨o.slots, k b o hc e⟩) (fun b o hc e n => (upd_ne (ne b hc)).trans n) (fun b o hc e => ⟨o, k b o hc e⟩)
    (fun b xs e => at_ b _ e) (fun b o u e => at_ b _ e) (fun b ps e => ⟨#[], by rw [at_ b _ e]; simp⟩) (fun m hm => ?_) (fun b u e => ?_) I.bare
  · obtain ⟨_, a2, _, a4, a5, a6⟩ := hf b hb
    exact ⟨a4, a2, a5, a6⟩
  · obtain ⟨o, es, ep, ho, r⟩ := hm
    exact ⟨o, es, ep, k _ o (fun z => (hf _ z).2.1 rfl) ho, r⟩
  · by_cases hb : b = T
    · subst hb
      have e' := Option.some.inj ((upd_same (H := H) (a := b) (o := ob)).symm.trans e)
      subst e'
      exact new
    · rw [upd_ne hb] at e
      exact (I.hok b u e).stay (fun c v hc q => k c v (by
        rcases hc with z | z
        · rw [z]; exact out b u e
        · exact out c _ z) q) (fun c q => at_ c _ q) fun c xs q => at_ c _ q
theorem each_reads {X : Cx} {pins : List (Addr × Obj)} {σ : L2.St} {H : Hp} {s : Shared} (I : Inv X pins σ H s) : ∀ {vs : List V} {us : List Value} {ps : List PyData}, DpAll X.K H vs ps → Vals vs us → EachIs (fun v d => ∃ as, Reads s.heap v d as) us ps
  | _, _, _, .nil, .nil => .nil
  | _, _, _, .cons h t, .cons r rs => .cons (Dp.reads I _ _ _ h r) (each_reads I t rs)
/-- a value that stands for the datum -/
def Stands (K : PySem.W.Frag) (W : Wd) (u : Value) (d : D) : Prop := ∃ v, RelV v u ∧ Rep K W v d
theorem each_stands {K : PySem.W.Frag} {W : Wd} : ∀ {vs : List V} {us : List Value} {ds : List D} {ps : List PyData}, Vals vs us → Reps K W vs ds → ps.length = ds.length → EachIs (fun u (b : PyData × D) => Stands K W u b.2) us (ps.zip ds)
  | _, _, _, [], .nil, .nil, _ => .nil
  | _, _, _, _ :: _, .nil, .nil, h => nomatch h
  | _, _, _, [], .cons _ _, .cons _ _, h => nomatch h
  | _, _, _, p :: ps, .cons r rs, .cons q qs, h => .cons ⟨_, r, q⟩ (each_stands rs qs (by simpa using h))
theorem stands_vals {K : PySem.W.Frag} {W : Wd} : ∀ {us : List Value} {bs : List (PyData × D)}, EachIs (fun u (b : PyData × D) => Stands K W u b.2) us bs → ∃ vs, Vals vs us ∧ Reps K W vs (bs.map (·.2))
  | _, _, .nil => ⟨[], .nil, .nil⟩
  | _, _, .cons ⟨v, r, q⟩ t => by
    obtain ⟨vs, h1, h2⟩ := stands_vals t
    exact ⟨v :: vs, .cons r h1, .cons q h2⟩
section
variable {X : Cx} {E : WX} {pins : List (Addr × Obj)} {σ : L2.St} {H : Hp} {s : Shared} {W : Wd} {μ : Mu} {Q : VK}
theorem vals_snoc {vs : List V} {us : List Value} {v : V} {u : Value} (h : Vals vs us) (r : RelV v u) : Vals (vs ++ [v]) (us ++ [u]) := h.append (.cons r .nil)
theorem fp_go {b : Addr} {H2 : Hp} (h : FpOk X pins H b) (n : H2 b = none) : FpOk X pins H2 b := ⟨n, h.2⟩
theorem fp_stk {b : Addr} (I : Inv X pins σ H s) (h : FpOk X pins H b) : b ∉ frs X.stack := fun z => by
  rcases List.mem_cons.mp (I.stkSub _ z) with e | e
  · exact h.2.1 e
  · exact h.2.2.1 e
theorem keys_rest {A : Around} {E' : Value → Shared → Prop} {k : Nat} {f c' a kS : Addr} {e1 : Nat} {name qual : Str} {params : Arguments} {body : Expr} {scope : Scope} {N : List Str} {x : Str} {pm ctv : Value} {fe : FE} {xs : List V} {its : List Value} {ds : List D}
    (rm : Room (k + 1) A) (hg : A.guards = some []) (hA : ∀ H s, Inv X pins σ H s → Env0 X.prog X.w X.K X.mg X.base A X.stack s H) (sc : FnScope N [x] scope) (hf : s.heap.get? f = some (kla_obj name qual params body scope [] pm c' ctv)) (hfn : H f = none) (hfr : f ∉ frs X.stack) (hc : H c' = some (LamX.CodeO c' qual))
    (hbind : ∀ u : Value, bindArgs (kla_fn name qual params body scope [] pm (.ref c') ctv) ⟨[u], []⟩ = pure [(x, u)])
    (hb : ∀ (A : Around) (outer : List Env) (s : Shared) (H : Hp) (E : XK), Cal (cxOf (L2.CX X.prog X.w) X.prog X.w X.K X.mg X.base N qual scope f (.ref c') A outer s H E) (lift E) k → DE (cxOf (L2.CX X.prog X.w) X.prog X.w X.K X.mg X.base N qual scope f (.ref c') A outer s H E) (lift E) body fe)
    (I : Inv X pins σ H s) (ok : Ok X.K W H μ) (fa : FpOk X pins H a) (fk : FpOk X pins H kS) (hka : kS ≠ a) (nk : s.heap.get? kS = some (seqObj "list" #[] 0)) (na : s.heap.get? a = some (seqObj "list" #[] e1))
    (rv : Vals xs its) (r : Reps X.K W xs ds) (hz : ds.length ≤ sizeLine) (p : postE X.K (WE E σ) W H ((keysL N.length fe ds μ).bind fun ks μ2 => sortBy ds ks μ2) Q) :
    wpAny (model X.prog X.w) A (ksk_rest a (.ref f) false its.toArray e1 (.ref kS)) (fun fn s' => fn = .done (.ret .none) ∧ EP X pins σ Q (.ref a) s') E' s := by
  have li : its.length = ds.length := by rw [← rv.length, r.length]
  unfold ksk_rest
  refine wpAny_bind (wpAny_rule ?_)
  rw [List.forIn_toArray]
  refine wpAny_bind (ksk_fold (fun i s' => ∃ (H' : Hp) (W' : Wd) (μ' : Mu) (kA : Array Value) (e : Nat) (kvs : List V) (ks : List D), Inv X pins σ H' s' ∧ Ok X.K W' H' μ' ∧ Go W H W' H' ∧ H' f = none ∧ s'.heap.get? f = some (kla_obj name qual params body scope [] pm c' ctv) ∧
      H' c' = some (LamX.CodeO c' qual) ∧ H' a = none ∧ H' kS = none ∧ s'.heap.get? kS = some (seqObj "list" kA e) ∧ s'.heap.get? a = some (seqObj "list" #[] e1) ∧ Vals kvs kA.toList ∧ Reps X.K W' kvs ks ∧ ks.length = i ∧
      postE X.K (WE E σ) W' H' ((keysL N.length fe (ds.drop i) μ').bind fun ks' μ2 => sortBy ds (ks ++ ks') μ2) Q) its 0 s
    ⟨H, W, μ, #[], 0, [], [], I, ok, Go.refl _ _, hfn, hf, hc, fa.1, fk.1, nk, na, .nil, .nil, rfl, p⟩ ?step ?done)
  case step =>
    rintro j u s' hu ⟨H1, W1, μ1, kA, e, kvs, ks, I1, ok1, g1, n1, f1, c1, a1, k1, ok2, oa2, v1, r1, l1, p1⟩
    rw [Nat.zero_add] at l1 p1 ⊢
    have hj : j < ds.length := by rw [← li]; exact (List.getElem?_eq_some_iff.mp hu).1
    have ed : ds.drop j = ds[j] :: ds.drop (j + 1) := List.drop_eq_getElem_cons hj
    obtain ⟨v, hv, rd⟩ := (r.mono g1.le).get (List.getElem?_eq_getElem hj)
    have ru : RelV v u := by
      obtain ⟨u2, h1, h2⟩ := rv.get hv
      rw [hu] at h1
      cases h1
      exact h2
    have sz : kA.size ≤ sizeLine := by
      have h1 := v1.length
      rw [r1.length, l1, Array.length_toList] at h1
      omega
    rw [ed] at p1
    unfold keysL at p1
    revert p1
    cases hfe : fe (startD N.length [ds[j]]) μ1 with
    | bad => exact fun z => z.elim
    | ex _ _ _ => exact fun z => z.elim
    | ok kd μ2 =>
      rw [R.nox_ok, R.bind_ok]
      intro p1
      refine wpAny_bind (wpAny_attempt (wpAny_mono (lam_at (us := [u]) (vs := [v]) (ds := [ds[j]]) (W := W1) (μ := μ1) (Q := fun z H2 => ∃ W2, Go W1 H1 W2 H2 ∧ Ok X.K W2 H2 μ2 ∧ Rep X.K W2 z kd) rm hg (hA _ _ I1) sc f1 c1 (hbind u) hb I1 rfl (.cons ru .nil) ok1 (.cons rd .nil) ?_) (fun w s2 hw => ?_) fun _ _ z => z))
      · rw [hfe]
        exact fun W2 z H2 g o q => ⟨W2, g, o, q⟩
      · obtain ⟨z, H2, I2, un, rz, W2, g2, o2, q2⟩ := hw
        dsimp only
        have fk1 : FpOk X pins H1 kS := fp_go fk k1
        have fa1 : FpOk X pins H1 a := fp_go fa a1
        have ne0 : ∀ b : Addr, b ∉ ([] : List Addr) := fun b z => nomatch z
        have nk2 := un.keep _ _ ok2 k1 (fp_stk I1 fk1) (ne0 _)
        have na2 := un.keep _ _ oa2 a1 (fp_stk I1 fa1) (ne0 _)
        have nf2 := un.keep _ _ f1 n1 hfr (ne0 _)
        have k2 := un.free _ _ ok2 k1 (ne0 _)
        have a2 := un.free _ _ oa2 a1 (ne0 _)
        have n2 := un.free _ _ f1 n1 (ne0 _)
        have sb := Heap.SameBut.update s2.heap kS (Obj.mapSeq (·.push w))
        obtain ⟨e2, he2⟩ : ∃ e2, (s2.heap.update kS (Obj.mapSeq (·.push w))).get? kS = some (seqObj "list" (kA.push w) e2) := ⟨_, get?_update_seq nk2 (·.push w)⟩
        refine wpAny_bind (listUpdate_at nk2 rfl ?_ sz (by rw [Array.size_push]; omega))
        have hfk : f ≠ kS := fun z => by
          rw [z, ok2] at f1
          exact nomatch (congrArg Obj.data (Option.some.inj f1))
        refine wpAny_pure ⟨rfl, H2, W2, μ2, kA.push w, e2, kvs ++ [z], ks ++ [kd], I2.turnedL (ch := [kS]) (fun b o hb eb => (sb.2 b (fun z => hb (by rw [z]; exact List.mem_cons_self ..))).trans eb) (fun b hb => ?_), o2, g1.trans g2, n2, (sb.2 f hfk).trans nf2, ?_, a2, k2, he2, (sb.2 a hka.symm).trans na2, ?_, (r1.mono g2.le).app (.cons q2 .nil), by simp [l1], ?_⟩
        · have eb : b = kS := by simpa using hb
          rw [eb]
          exact fp_go fk k2
        · exact g2.kept _ _ c1 (ok1.codeOut c1) LamX.codeO_ne
        · rw [Array.toList_push]
          exact vals_snoc v1 rz
        · have p2 := post.mono g2 p1
          revert p2
          cases keysL N.length fe (ds.drop (j + 1)) μ2 with
          | ok ks' μ3 =>
            rw [R.bind_ok, R.bind_ok, R.bind_ok, List.append_assoc]
            exact fun z => z
          | ex _ _ _ => exact fun z => z
          | bad => exact fun z => z
  case done =>
    rintro s' ⟨H1, W1, μ1, kA, e, kvs, ks, I1, ok1, g1, n1, f1, c1, a1, k1, ok2, oa2, v1, r1, l1, p1⟩
    rw [Nat.zero_add, li] at l1 p1
    rw [List.drop_length] at p1
    unfold keysL at p1
    rw [R.bind_ok, List.append_nil] at p1
    unfold sortBy at p1
    split at p1
    · rename_i ps hps
      split at p1
      · rename_i hok
        simp only [Bool.and_eq_true, decide_eq_true_eq] at hok
        obtain ⟨kok, lps⟩ := hok
        have dp := pys_dp ok1 r1 hps
        have er : EachIs (fun v d => ∃ as, Reads s'.heap v d as) kA.toList ps := each_reads I1 dp v1
        have hal := keysOk_alike kok
        have ksz : kA.size = its.length := by
          have h1 := v1.length
          have h2 := r1.length
          have h3 : kA.toList.length = kA.size := Array.length_toList
          omega
        refine wpAny_bind (listItems_at ok2 rfl ?_)
        refine keyH_end (κ := dataKind s'.heap ps) (h₁ := hidT s'.heap fun b => if b = kS then some (.lst []) else none) (fun b o _ eb => (of_hidT eb).1) ?_ ok2 oa2 hka (SortsAt.data er hal (keysOk_sort kok) fun d hd => ?_) ksz (by rw [li]; exact hz) fun h3 tk3 c3 kp3 na3 => ⟨rfl, ?_⟩
        · cases q : (hidT s'.heap fun b => if b = kS then some (HO.lst []) else none).get? kS with
          | none => rfl
          | some o =>
            have z := (of_hidT q).2
            rw [if_pos rfl] at z
            cases z
        · have h1 := keysOk_depth kok d hd
          have h2 := rm.un
          omega
        · have est : EachIs (fun u (b : PyData × D) => Stands X.K W1 u b.2) its (ps.zip ds) := each_stands rv (r.mono g1.le) lps
          have kz : (ps.zip ds).map Prod.fst = ps := List.map_fst_zip (by omega)
          have ko : KeyedOut false ((ps.zip ds).map Prod.fst) its (sortVals (dataKind s'.heap ps) false kA.toList its) := by
            rw [kz]
            exact ⟨s'.heap, kA.toList, hal, rfl, er⟩
          have eo := keyedOut_each Prod.fst ko est
          rw [← srtP_eq] at eo
          obtain ⟨ovs, vo, ro⟩ := stands_vals eo
          have lo : ovs.length ≤ sizeLine := by
            have h1 := eo.length
            have h2 : (srtP (ps.zip ds)).length = (ps.zip ds).length := by rw [srtP_eq, List.length_mergeSort]
            rw [vo.length, h1, h2, List.length_zip]
            omega
          have I3 : Inv X pins σ (upd H1 a (.lst ovs)) { s' with heap := h3, toks := tk3 } := by
            refine inv_adopt (ch := [a, kS]) I1 (fun b o hb eb => ?_) (fun b hb => ?_) (List.mem_cons_self ..) ⟨lo, _, c3, vo, na3⟩
            · have nb : b ≠ a ∧ b ≠ kS := ⟨fun z => hb (by rw [z]; simp), fun z => hb (by rw [z]; simp)⟩
              exact kp3 b o nb.1 (hidT_get eb (if_neg nb.2))
            · rcases List.mem_cons.mp hb with e | e
              · rw [e]; exact fp_go fa a1
              · have e : b = kS := by simpa using e
                rw [e]; exact fp_go fk k1
          refine ⟨.ref a, _, I3, rfl, ?_⟩
          exact p1 (W1.new a (.lst ovs)) _ _ (Go.new ok1 a1) (ok1.new a1) (rep_lst ok1 a1 (by rw [← ro.length]; exact lo) ro)
      · exact p1.elim
    · exact p1.elim
theorem tree_lam {A : Around} {E' : Value → Shared → Prop} {g0 : Heap} {k : Nat} {f c' a : Addr} {name qual : Str} {params : Arguments} {body : Expr} {scope : Scope} {N : List Str} {x : Str} {pm ctv : Value} {fe : FE} {xs : List V} {its : List Value} {ds : List D}
    (rm : Room (k + 1) A) (hg : A.guards = some []) (hA : ∀ H s, Inv X pins σ H s → Env0 X.prog X.w X.K X.mg X.base A X.stack s H) (sc : FnScope N [x] scope) (hf : s.heap.get? f = some (kla_obj name qual params body scope [] pm c' ctv)) (hfn : H f = none) (hfr : f ∉ frs X.stack) (hc : H c' = some (LamX.CodeO c' qual))
    (hbind : ∀ u : Value, bindArgs (kla_fn name qual params body scope [] pm (.ref c') ctv) ⟨[u], []⟩ = pure [(x, u)])
    (hb : ∀ (A : Around) (outer : List Env) (s : Shared) (H : Hp) (E : XK), Cal (cxOf (L2.CX X.prog X.w) X.prog X.w X.K X.mg X.base N qual scope f (.ref c') A outer s H E) (lift E) k → DE (cxOf (L2.CX X.prog X.w) X.prog X.w X.K X.mg X.base N qual scope f (.ref c') A outer s H E) (lift E) body fe)
    (I : Inv X pins σ H s) (ok : Ok X.K W H μ) (rv : Vals xs its) (r : Reps X.K W xs ds) (hz : ds.length ≤ sizeLine) (p : postE X.K (WE E σ) W H ((keysL N.length fe ds μ).bind fun ks μ2 => sortBy ds ks μ2) Q)
    (old : ∀ b o, s.heap.get? b = some o → g0.get? b = some o) (ho : g0.get? a = some (seqObj "list" its.toArray 0)) (ha : s.heap.objs.size ≤ a) :
    wpAny (model X.prog X.w) A (ksk_tree a (.ref f) false) (fun fn s' => fn = .done (.ret .none) ∧ EP X pins σ Q (.ref a) s') E' { s with heap := g0 } := by
  have li : its.length = ds.length := by rw [← rv.length, r.length]
  obtain ⟨e1, ho1⟩ : ∃ e1, (g0.update a (Obj.mapSeq fun _ => (#[] : Array Value))).get? a = some (seqObj "list" #[] e1) := ⟨_, get?_update_seq ho fun _ => #[]⟩
  have old1 : ∀ b o, s.heap.get? b = some o → (g0.update a (Obj.mapSeq fun _ => (#[] : Array Value))).get? b = some o := fun b o e => (Heap.get?_update_other _ _ (Nat.ne_of_gt (Nat.lt_of_lt_of_le (Heap.lt_size e) ha))).trans (old b o e)
  have la : a < g0.objs.size := Heap.lt_size ho
  have lu : (g0.update a (Obj.mapSeq fun _ => (#[] : Array Value))).objs.size = g0.objs.size := Heap.size_update _ _ _
  unfold ksk_tree
  refine wpAny_bind (listItems_at ho rfl ?_)
  refine wpAny_bind (listUpdate_at ho rfl ?_ (by rw [List.size_toArray, li]; exact hz) (Nat.zero_le _))
  refine wpAny_bind (seqEpoch_at ho1 rfl ?_)
  refine wpAny_bind (wpAny_newTuple ?_ (by show its.length ≤ _; rw [li]; exact hz))
  refine wpAny_bind (wpAny_newList ?_ (Nat.zero_le _))
  refine wpAny_holding ?_
  dsimp only
  generalize g0.update a (Obj.mapSeq fun _ => (#[] : Array Value)) = g1 at ho1 old1 lu ⊢
  have fpa : FpOk X pins H a := I.fpOk ha (I.hok.fresh ha)
  have lk : s.heap.objs.size ≤ (g1.push (seqObj "tuple" its.toArray 0)).objs.size := by
    rw [PyProof.Rows.size_push', lu]
    exact Nat.le_succ_of_le (Nat.le_trans ha (Nat.le_of_lt la))
  have lk2 : (g1.push (seqObj "tuple" its.toArray 0)).objs.size ≠ a := by
    rw [PyProof.Rows.size_push', lu]
    exact Nat.ne_of_gt (Nat.lt_succ_of_lt la)
  have fpk : FpOk X pins H (g1.push (seqObj "tuple" its.toArray 0)).objs.size := I.fpOk lk (I.hok.fresh lk)
  have up : ∀ b o, g1.get? b = some o → ((g1.push (seqObj "tuple" its.toArray 0)).push (seqObj "list" #[] 0)).get? b = some o := fun b o e => Heap.get?_push_of_some _ (Heap.get?_push_of_some _ e)
  have I3 : Inv X pins σ H { s with heap := (g1.push (seqObj "tuple" its.toArray 0)).push (seqObj "list" #[] 0) } := I.kept fun b o e => up b o (old1 b o e)
  exact keys_rest (Q := Q) (E := E) (e1 := e1) rm hg hA sc (up _ _ (old1 _ _ hf)) hfn hfr hc hbind hb I3 ok fpa fpk lk2 (Heap.get?_push_size _ rfl) (up _ _ ho1) rv r hz p
theorem sorted_lam {k : Nat} {f c' : Addr} {name qual : Str} {params : Arguments} {body : Expr} {scope : Scope} {N : List Str} {x : Str} {pm ctv : Value} {fe : FE} {l : Addr} {xs : List V} {ds : List D}
    (c : Cal X E (k + 3)) (sc : FnScope N [x] scope) (hf : s.heap.get? f = some (kla_obj name qual params body scope [] pm c' ctv)) (hfn : H f = none) (hfr : f ∉ frs X.stack) (hc : H c' = some (LamX.CodeO c' qual))
    (hbind : ∀ u : Value, bindArgs (kla_fn name qual params body scope [] pm (.ref c') ctv) ⟨[u], []⟩ = pure [(x, u)])
    (hb : ∀ (A : Around) (outer : List Env) (s : Shared) (H : Hp) (E : XK), Cal (cxOf (L2.CX X.prog X.w) X.prog X.w X.K X.mg X.base N qual scope f (.ref c') A outer s H E) (lift E) k → DE (cxOf (L2.CX X.prog X.w) X.prog X.w X.K X.mg X.base N qual scope f (.ref c') A outer s H E) (lift E) body fe)
    (I : Inv X pins σ H s) (ok : Ok X.K W H μ) (hl : Lq X.K H l xs) (r : Reps X.K W xs ds) (hz : ds.length ≤ sizeLine) (p : postE X.K (WE E σ) W H ((keysL N.length fe ds μ).bind fun ks μ2 => sortBy ds ks μ2) Q) :
    wpAny (model X.prog X.w) X.A (call (.builtin "sorted") [.ref l] [(Str.ofString "key", .ref f)]) (EP X pins σ Q) X.xe s := by
  obtain ⟨its, n0, rv, hobj⟩ := hl.isL I
  have li : its.length = ds.length := by rw [← rv.length, r.length]
  have rm : Room (k + 1) X.A.in1.in1 := (show Room (k + 2) X.A.in1 from Room.in1 c.room).in1
  refine sorted_of_sort (vs := its) ⟨_, hobj, rfl, _, rfl⟩ (by rw [li]; exact hz) (ksk_s1 _ _) (fun _ => ksk_l1 _ _) fun E' => ?_
  rw [ksk_t1]
  exact tree_lam (E := E) rm c.guards (fun H s I => I.env0.in1.in1) sc hf hfn hfr hc hbind hb I ok rv r hz p (fun b o e => copyHeap_old e) (copyHeap_at s.heap its) (Nat.le_succ _)
end
end DL
/-! DL59: sorted(xs, key=lambda x: e), sorted of any data. -/
namespace DL
open PySem PySem.Spec PyProof.Rows PySem.W L2
def sortTh (n : Nat) (fk : FE) (d : D) (μ : Mu) : R D := match thaw μ d with
  | .lst ds => (keysL n fk ds μ).bind fun ks μ2 => sortBy ds ks μ2
  | _ => .bad
def dsortK (n : Nat) (fe fk : FE) : FE := fun ρ μ => (fe ρ μ).bind fun d μ1 => sortTh n fk d μ1
section
variable {X : Cx} {E : WX}
theorem de_sortedK {k : Nat} {e body : Expr} {params : Arguments} {scope : Scope} {lpos p pos kpos : Pos} {fe fk : FE} {N : List Str} {x q : Str} (L : LamAt X q) (c : Cal X E (k + 3)) (hm : X.mg "sorted" = none) (he : DE X E e fe) (sc : FnScope N [x] scope)
    (hb : ∀ (f c' : Addr) (A : Around) (outer : List Env) (s : Shared) (H : Hp) (E : XK), Cal (cxOf (L2.CX X.prog X.w) X.prog X.w X.K X.mg X.base N q scope f (.ref c') A outer s H E) (lift E) k → DE (cxOf (L2.CX X.prog X.w) X.prog X.w X.K X.mg X.base N q scope f (.ref c') A outer s H E) (lift E) body fk)
    (hq : X.env.qual ++ "<lambda>" = q := by rfl) (hdef : defaultsOf params X.env = ([], []) := by rfl) (hfree : scope.names.all (fun y => !decide (y.2 = .free)) = true := by rfl) (hclo : cloFrom X.env.cells scope.names [] = [] := by rfl)
    (hbind : ∀ (pm cdv ctv u : Value), bindArgs (kla_fn "<lambda>" q params body scope [] pm cdv ctv) ⟨[u], []⟩ = pure [(x, u)] := by intros; rfl) (hg : Gl X "sorted" := by rfl)
    (hs : backTo pos (starEach [e] X.env) = (false, eval e X.env) :: backTo pos (starEach [] X.env) := by rfl) (hpl : (backTo pos (starEach [e] X.env)).any (·.1) = false := by rfl)
    (hk : backToKw pos (keywordEach [⟨some "key", .Lambda params body scope lpos, kpos⟩] X.env) = [(some (Str.ofString "key"), do let v ← eval (.Lambda params body scope lpos) X.env; standAt pos; pure v)] := by rfl)
    (hst : starEach [e] X.env = [(false, eval e X.env)] := by rfl) :
    DE X E (.Call (.Name "sorted" p) [e] [⟨some "key", .Lambda params body scope lpos, kpos⟩] pos) (dsortK N.length fe fk) := by
  refine ⟨fun pins s σ H Q I ⟨W, ρ, μ, ok, en, pp⟩ => ?_⟩
  refine wpAny_Call_Name_kw (ld_blt I hg hm (u := .builtin "sorted") (by decide +kernel) ?_ (by decide) (by decide))
  have ha : DA X E [e] (aCons fe aNil) := da_cons he da_nil hst
  refine PyProof.Rows.callWith_kw (thn (ha.run pos pins s σ H (fun vs H1 => ∃ v W1 d μ1, vs = [v] ∧ Go W H W1 H1 ∧ Ok X.K W1 H1 μ1 ∧ Rep X.K W1 v d ∧ postE X.K (WE E σ) W1 H1 (sortTh N.length fk d μ1) Q) I ⟨W, ρ, μ, ok, en, ?_⟩) fun us s1 h1 => ?_) hs hpl (by rw [hk]; rfl) (by rw [hk]; rfl)
  · unfold dsortK at pp
    unfold aCons aNil
    revert pp
    cases fe ρ μ with
    | ok d μ1 =>
      rw [R.bind_ok, R.bind_ok]
      intro pp W1 vs H1 g o r
      cases r with
      | cons r1 r2 =>
        cases r2
        exact ⟨_, W1, d, μ1, rfl, g, o, r1, post.mono g pp⟩
    | ex _ _ _ => exact fun z => z
    | bad => exact fun z => z
  · obtain ⟨vs, H1, I1, rv, v, W1, d, μ1, rfl, g1, ok1, r1, p1⟩ := h1
    rw [hk]
    refine wpAny_evalAll_cons (wpAny_bind (lam_new L hq I1 ok1 hdef hfree fun f c' pm ctv H2 s2 I2 ok2 g2 hf hfn hfr hc => ?_))
    refine wpAny_bind (wpAny_standAt (wpAny_pure (wpAny_evalAll_nil ?_)))
    have p2 := post.mono g2 p1
    revert p2
    unfold sortTh
    cases ht : thaw μ1 d with
    | lst ds =>
      intro p2
      obtain ⟨a, xs, rfl, lq, rr, z⟩ := thaw_lq ok2 r1 ht
      cases rv with
      | cons w1 w2 =>
        cases w2
        cases w1
        rw [hclo] at hf
        exact sorted_lam c sc hf hfn hfr hc (fun u => hbind _ _ _ u) (hb f c') I2 ok2 lq rr z p2
    | _ => exact fun z => z.elim
end
end DL
/-! DL60: len({e for x in xs}), e a text. -/
namespace DL
open PySem PySem.Spec PyProof.Rows L2
/-- the set of the texts l at a -/
def SetTO (P : Program) (w : World) (a : Addr) (l : List Str) : HO := .ext fun h => SetAt P w h a l
theorem setTO_new {P : Program} {w : World} {H : Hp} {h : Heap} {a : Addr} {l : List Str} (R : SetAt P w h a l) : ObjOk P w H h a (SetTO P w a l) := by
  obtain ⟨o, es, ep, t, ho, rest⟩ := id R
  refine ⟨R, ⟨o, ho⟩, fun h1 h2 r k => ?_⟩
  obtain ⟨o1, es1, ep1, t1, q1, rest1⟩ := r
  exact ⟨o1, es1, ep1, t1, k _ q1, rest1⟩
theorem setTO_ne {P : Program} {w : World} {a : Addr} {l : List Str} (ps : Array Value) : SetTO P w a l ≠ .tbl ps := fun z => by
  unfold SetTO at z
  cases z
section
variable {Y : Cx} {pins : List (Addr × Obj)} {σ : L2.St} {H : Hp} {s : Shared} {E : Value → Shared → Prop}
theorem addT_ok {D : Addr} {l : List Str} {y : Str} {tk : Tok} {Q : Value → Shared → Prop} (I : Inv Y pins σ H s) (hD : H D = some (SetTO Y.prog Y.w D l)) (room : l.length + 1 < scanBound)
    (h : ∀ s', Inv Y pins σ (upd H D (SetTO Y.prog Y.w D (dd1 l y))) s' → Q .none s') : wpAny (model Y.prog Y.w) Y.A (call (.builtin "set.add") [.ref D, .str y tk]) Q E s := by
  have R : SetAt Y.prog Y.w s.heap D l := (I.hok D _ hD).1
  refine wpAny_call_entry F.slot_set_add (Heap.SetOf.typeIs R) F.entry_set_add ?_ (F.args_set_add_2 _ _)
  unfold Builtin.«set.add» Builtin.Frozenset.oneOther
  simp only [List.isEmpty_nil, bind_assoc]
  unfold Builtin.Frozenset.addrOf setAdd
  refine wpAny_bind (wpAny_pure (wpAny_bind (wpAny_pure (wpAny_bind (wpAny_holding (wpAny_bind ((PySem.strKind Y.prog Y.w).pyHash (k := y) (strKind_is _ _ _ _) ?_)))))))
  refine wpAny_setAddHashed_of (knd := PySem.strKind Y.prog Y.w) (s := { s with toks := s.toks + 1 }) (strKind_is _ _ _ _) rfl R room fun h' sb new => ?_
  have next : SetAt Y.prog Y.w h' D (dd1 l y) := SetOf_congr new (fun k' => by rw [dd1_any]) (by rw [dd1_len])
  have there : ∃ u, h'.get? D = some u := by
    obtain ⟨o, _, _, _, ho, _⟩ := id next
    exact ⟨o, ho⟩
  show wpAny _ _ (ret Value.none) _ _ _
  exact wpAny_pure ⟨_, rfl, h _ (I.write (e := D) (t' := s.toks + 1) (by rw [hD]; trivial) (.inl rfl) (fun b u hb hu => (sb.2 b hb).trans hu) there (setTO_new next))⟩
end
/-- what stands outside is written anew: no table, no code object -/
theorem ok_otherC {K : PySem.W.Frag} {W : Wd} {H : Hp} {μ : Mu} {p : Addr} {o : HO} (ok : Ok K W H μ) (h1 : W.S p = none) (h2 : p ∉ W.io) (nt : ∀ ps, H p ≠ some (.tbl ps)) (nc : ∀ c q, H c = some (LamX.CodeO c q) → c ≠ p) : Ok K W (upd H p o) μ := by
  refine ⟨fun a u e => ?_, ok.len, ok.nd, ok.apart, fun l a m e1 e2 => ?_, ⟨fun q hq => ?_, ok.tab.no⟩⟩
  · rw [upd_ne (ne_of_none e h1)]
    exact ok.sub a u e
  · exact (ok.cell l a m e1 e2).mono (Le.refl _) fun u e => by
      rw [upd_ne (fun z => h2 (by rw [← z]; exact List.mem_of_getElem? e1))]
      exact e
  · obtain ⟨ps, a1, a2, a3⟩ := ok.tab.all q hq
    refine ⟨ps, ?_, a2, fun pos cv hc => ?_⟩
    · rw [upd_ne (fun z => nt ps (by rw [← z]; exact a1))]
      exact a1
    · obtain ⟨c, e1, e2⟩ := a3 pos cv hc
      exact ⟨c, e1, by rw [upd_ne (nc c _ e2)]; exact e2⟩
/-- a set of texts is no code object -/
theorem set_code {P : Program} {w : World} {H : Hp} {h : Heap} {D : Addr} {l : List Str} (hok : HOk P w H h) (hD : H D = some (SetTO P w D l)) : ∀ c q, H c = some (LamX.CodeO c q) → c ≠ D := fun c q e z => by
  obtain ⟨⟨oc, ws, t, o1, o2, _⟩, _, _⟩ := hok c _ e
  obtain ⟨⟨o, es, ep, tt, p1, _, p3, _⟩, _, _⟩ := hok D _ hD
  rw [z, p1] at o1
  cases o1
  rw [p3] at o2
  cases o2
/-! ### the loop -/
/-- how many unlike ones -/
def finSc (ds : List D) (μ : Mu) : R D := match strsD ds with
  | some ss => .ok (.int ((met ss ss.length).length : Nat)) μ
  | none => .bad
def dlensc (fi : FA) (vs : List Nat) (t : Tg) (fe : FE) : FE := fun ρ μ => (fi ρ μ).bind fun xs μ1 => if xs.length ≤ 1000 then (lcD t tyes fe (wipeD ρ vs) xs μ1).nox.bind fun ys μ2 => finSc ys μ2 else .bad
theorem strsD_map : ∀ ss : List Str, strsD (ss.map D.str) = some ss
  | [] => rfl
  | s :: ss => by
    show (strsD (ss.map D.str)).map (s :: ·) = _
    rw [strsD_map ss]
    rfl
theorem strsD_app : ∀ {acc : List Str} {yd : D} {ys : List D} {ss : List Str}, strsD (acc.map D.str ++ yd :: ys) = some ss → ∃ y, yd = .str y
  | [], yd, ys, ss, h => by
    cases yd with
    | str y => exact ⟨y, rfl⟩
    | _ => simp [strsD] at h
  | a :: acc, yd, ys, ss, h => by
    have h : (strsD (acc.map D.str ++ yd :: ys)).map (a :: ·) = some ss := h
    cases e : strsD (acc.map D.str ++ yd :: ys) with
    | none => rw [e] at h; cases h
    | some z => exact strsD_app e
theorem met_snoc (acc : List Str) (y : Str) : met (acc ++ [y]) (acc ++ [y]).length = dd1 (met acc acc.length) y := by
  unfold met
  rw [List.take_length, List.take_length, List.foldl_append]
  rfl
section
variable {Y : Cx} {E : WX} {σ τ : L2.St} {elt tg iter : Expr} {scope : Scope} {pos : Pos} {it Dn : Addr} {fp : List Addr} {tn : Nat → Heap → Prop} {J : It} {vs : List Nat} {t : Tg} {fe : FE} {ρ0 : En} {xs : List D} {W1 : Wd} {H1 : Hp} {Q : VK} {Rr : Result → Shared → Prop} {K0 : XK}
theorem thnX {α : Type} {t : Sem α} {Q Q' : α → Shared → Prop} {M : Model} {A : Around} {E : Value → Shared → Prop} {s : Shared} (hxe : Y.xe = fun _ _ => False) (h : wpAny M A t Q Y.xe s) (hQ : ∀ a s, Q a s → Q' a s) : wpAny M A t Q' E s := wpAny_mono h hQ fun e s z => by
  rw [hxe] at z
  exact z.elim
theorem scT_loop (hxe : Y.xe = fun _ _ => False) (hc : Y.calm = true) (T : Turn Y.prog Y.w Y.K tg J fp it tn) (wk : Walk Y.K W1 J xs) (pg : DG Y tg t) (pe : DE Y E0 elt fe) (hsub : ∀ i ∈ t.slots, i ∈ vs) (few : xs.length ≤ 1000)
    (stat : ∀ {σ' : L2.St} {H' : Hp} {s' : Shared}, Inv Y [] σ' H' s' → (∀ b ∈ fp, H' b = none) → ∀ b ∈ fp, FpOk Y [] H' b) (en : Envs Y.K W1 (L2.wipe τ vs) ρ0)
    (fin : ∀ (H' : Hp) (W' : Wd) (μ' : Mu) (acc : List Str) (s' : Shared), acc.length ≤ 1000 → Inv Y [] (L2.wipe τ vs) H' s' → Go W1 H1 W' H' → Ok Y.K W' H' μ' → H' Dn = some (SetTO Y.prog Y.w Dn (met acc acc.length)) → Dn ∉ W'.io → W'.S Dn = none → postE Y.K K0 W1 H1 (finSc (acc.map D.str) μ') Q → Rr (.ok .next) s')
    (hD1 : H1 Dn = none) {s0 : Shared} {H0 : Hp} {W0 : Wd} {μ0 : Mu} (I0 : Inv Y [] (L2.wipe τ vs) H0 s0) (g0 : Go W1 H1 W0 H0) (o0 : Ok Y.K W0 H0 μ0) (t0 : tn 0 s0.heap) (n0 : ∀ b ∈ fp, H0 b = none) (d0 : H0 Dn = some (SetTO Y.prog Y.w Dn [])) (d1 : Dn ∉ W0.io) (d2 : W0.S Dn = none)
    (p0 : postE Y.K K0 W1 H1 ((lcD t tyes fe ρ0 xs μ0).nox.bind fun ys μ2 => finSc ys μ2) Q) :
    codeAny (model Y.prog Y.w) Y.A (.compLoop (.SetComp elt [⟨tg, iter, [], 0⟩] scope pos) 0 (.ref it) (.ref Dn) Y.env) Rr s0 := by
  refine PpSet.compLoopS_any (fun m s' => ∃ (i : Nat) (H' : Hp) (W' : Wd) (μ' : Mu) (acc : List Str), Inv Y [] (L2.wipe τ vs) H' s' ∧ tn i s'.heap ∧ (∀ b ∈ fp, H' b = none) ∧ m = xs.length - i ∧ i ≤ xs.length ∧ acc.length = i ∧ Go W1 H1 W' H' ∧ Ok Y.K W' H' μ' ∧
      H' Dn = some (SetTO Y.prog Y.w Dn (met acc acc.length)) ∧ Dn ∉ W'.io ∧ W'.S Dn = none ∧ postE Y.K K0 W1 H1 ((lcD t tyes fe ρ0 (xs.drop i) μ').nox.bind fun ys μ2 => finSc (acc.map D.str ++ ys) μ2) Q) ?_ xs.length ⟨0, H0, W0, μ0, [], I0, t0, n0, by simp, Nat.zero_le _, rfl, g0, o0, d0, d1, d2, p0⟩
  rintro m s5 ⟨i, H5, W5, μ5, acc, I5, t5, n5, rfl, hi, la, g5, o5, e5, x5, y5, p5⟩
  have sm : Same W1.S H5 := g5.le.s.trans o5.sub
  by_cases hlt : i < xs.length
  · refine thnF (T.item Y rfl rfl rfl hc i [] s5 _ H5 (fun _ _ => False) I5 (stat I5 n5) t5 (wk.go H5 i sm hlt)) fun r s6 ⟨u, hr, h6⟩ => ?_
    subst hr
    refine thnF h6 fun _ s7 ⟨x, H7, I7, r7, y7, t7, n7⟩ => ?_
    obtain ⟨W7, g7, o7, q7⟩ := wk.yld H5 i x H7 sm y7 xs[i] (List.getElem?_eq_getElem hlt) W5 μ5 g5.le o5
    obtain ⟨e7, y7', x7⟩ := g7.out e5 y5 x5 setTO_ne
    have J7 := I7.pinned (stat I7 n7) (T.obj _ _ t7)
    rw [List.drop_eq_getElem_cons hlt] at p5
    unfold lcD at p5
    revert p5
    cases ea : asg t xs[i] ρ0 with
    | none => exact fun p => p.elim
    | some ρ8 =>
      dsimp only
      intro p5
      refine thnX hxe (pg.run _ s7 _ H7 x u (fun σ8 H8 => H8 = H7 ∧ Envs Y.K W7 σ8 ρ8 ∧ L2.wipe σ8 vs = L2.wipe τ vs) J7 r7 ⟨W7, ρ0, ρ8, xs[i], μ5, o7, en.mono (g5.le.trans g7.le), q7, ea, fun σ8 en8 b8 => ⟨rfl, en8, wipe_but hsub b8⟩⟩) fun _ s8 ⟨σ8, H8, I8, eH, en8, hw8⟩ => ?_
      subst eH
      show wpAny (model Y.prog Y.w) Y.A (pure true) _ _ s8
      refine wpAny_pure ?_
      rw [if_pos rfl]
      have et : tyes ρ8 μ5 = .ok true μ5 := rfl
      rw [et, R.nox_ok, R.bind_ok, if_pos rfl] at p5
      revert p5
      cases hf : fe ρ8 μ5 with
      | ex _ _ _ => exact fun p => p.elim
      | bad => exact fun p => p.elim
      | ok yd μ9 =>
        rw [R.nox_ok, R.bind_ok]
        intro p5
        obtain ⟨y, rfl⟩ : ∃ y, yd = .str y := by
          revert p5
          cases lcD t tyes fe ρ0 (xs.drop (i + 1)) μ9 with
          | ex _ _ _ => exact fun p => p.elim
          | bad => exact fun p => p.elim
          | ok ys μ10 =>
            rw [R.bind_ok, R.nox_ok, R.bind_ok]
            intro p5
            unfold finSc at p5
            split at p5
            · rename_i hs
              exact strsD_app hs
            · exact p5.elim
        refine thnX hxe (pe.run _ s8 σ8 H8 (fun z H9 => ∃ W9, z = .str y ∧ Go W7 H8 W9 H9 ∧ Ok Y.K W9 H9 μ9) I8 ⟨W7, ρ8, μ5, o7, en8, ?_⟩) fun z s9 ⟨zv, H9, I9, r9, W9, ez, g9, o9⟩ => ?_
        · rw [hf]
          intro W9 z H9 g o q
          cases q
          exact ⟨W9, rfl, g, o⟩
        subst ez
        obtain ⟨tk, rfl⟩ := r9
        obtain ⟨e9, y9, x9⟩ := g9.out e7 y7' x7 setTO_ne
        have few2 := met_len acc acc.length (Nat.le_refl _)
        refine addT_ok I9 e9 (by unfold scanBound; omega) fun s10 I10 => ?_
        have pin : ∀ b ∈ fp, ∀ o, s7.heap.get? b = some o → s10.heap.get? b = some o ∧ upd H9 Dn (SetTO Y.prog Y.w Dn (dd1 (met acc acc.length) y)) b = none := fun b hb o e =>
          have z := I10.pin (b, o) (List.mem_append_right _ (List.mem_append_right _ (mem_pinsAt hb e)))
          ⟨z.1, z.2.1⟩
        have hl : (L2.wipe τ vs).length = σ8.length := by rw [← hw8, wipe_length]
        refine ⟨xs.length - (i + 1), by omega, i + 1, _, W9, μ9, acc ++ [y], (I10.unpinned (pins := [])).weak hl (fun j v e => ?_), T.keep _ _ _ t7 fun b hb o e => (pin b hb o e).1, fun b hb => ?_, rfl, hlt, by simp [la], ?_, ?_, ?_, x9, y9, ?_⟩
        · rw [← hw8] at e
          exact (wipe_some e).1
        · obtain ⟨o, e, _⟩ := T.obj _ _ t7 b hb
          exact (pin b hb o e).2
        · have gg := (g5.trans g7).trans g9
          refine ⟨gg.le, fun b u e n nt => ?_, fun b e => ?_, gg.newio, gg.newS⟩
          · have hb : b ≠ Dn := ne_of_none e hD1
            rw [upd_ne hb]
            exact gg.kept b u e n nt
          · by_cases z : b = Dn
            · rw [z, upd_same] at e; cases e
            · rw [upd_ne z] at e
              exact gg.grow b e
        · exact ok_otherC o9 y9 x9 (fun ps z => setTO_ne ps (Option.some.inj (e9.symm.trans z))) (set_code I9.hok e9)
        · rw [met_snoc]
          exact upd_same
        · rw [List.map_append, List.map_cons, List.map_nil]
          revert p5
          cases lcD t tyes fe ρ0 (xs.drop (i + 1)) μ9 with
          | ex _ _ _ => exact fun p => p
          | bad => exact fun p => p
          | ok ys μ10 =>
            rw [R.bind_ok, R.nox_ok, R.bind_ok, R.nox_ok, R.bind_ok, List.append_assoc]
            exact fun p => p
  · have ei : i = xs.length := by omega
    refine thnF (T.done Y rfl rfl rfl hc i [] s5 _ H5 (fun _ _ => False) I5 (stat I5 n5) t5 (wk.stop H5 i sm (by omega))) fun r s6 ⟨hr, I6⟩ => ?_
    subst hr
    subst ei
    rw [List.drop_length] at p5
    unfold lcD at p5
    rw [R.nox_ok, R.bind_ok, List.append_nil] at p5
    exact fin H5 W5 μ5 acc s6 (by omega) I6 g5 o5 e5 x5 y5 p5
end
section
variable {X : Cx} {E : WX}
theorem de_lensc {elt tg iter : Expr} {scope : Scope} {fi : FA} {t : Tg} {fe : FE} {p pos cpos : Pos} (hm : X.mg "len" = none) (own : List (Str × Nat)) (hc : X.calm = true) (hN : X.N.Nodup) (hi : DI X E tg iter fi) (bok : BlkOk X.N X.env.scope scope own)
    (hg : ∀ (s : Shared) (H : Hp) (C : Addr) (cl : List (Str × Addr)) (fp : List Addr), DG (X.blk s H scope (compEnvC scope cl C X.env) fp) tg t)
    (he : ∀ (s : Shared) (H : Hp) (C : Addr) (cl : List (Str × Addr)) (fp : List Addr), DE (X.blk s H scope (compEnvC scope cl C X.env) fp) E0 elt fe) (hsub : ∀ i ∈ t.slots, i ∈ own.map (·.2) := by decide) (hs : ∀ x, foldedSetIterable iter X.env x = pure x := by intro _; rfl) (hgl : Gl X "len" := by rfl)
    (na : starEach [.SetComp elt [⟨tg, iter, [], 0⟩] scope pos] X.env = (false, eval (.SetComp elt [⟨tg, iter, [], 0⟩] scope pos) X.env) :: starEach [] X.env := by rfl) :
    DE X E (.Call (.Name "len" p) [.SetComp elt [⟨tg, iter, [], 0⟩] scope pos] [] cpos) (dlensc fi (own.map (·.2)) t fe) := by
  refine ⟨fun pins s σ H Q I ⟨W, ρ, μ, ok, en, z⟩ => ?_⟩
  refine PyProof.Rows.Call_ (ld_blt I hgl hm PySem.boot_len (PyProof.Rows.callWith_builtin1 (PyProof.Rows.args_cons ?_ na) rfl rfl))
  rw [PpSet.eval_SetComp]
  have fr : ∀ y ∈ scope.names, y.2 = .free → ∃ c, X.env.cells.lookup y.1 = some c := fun y hy e => (bok.free y hy e).elim (fun k => I.ok.has _ (.inl k)) (fun k => I.ok.has _ (.inr k))
  refine wpAny_comprehension_free (use := none) rfl hs (closure_ok fr) bok.kind (fun y hy e => (bok.uniq y hy).trans (congrArg some e)) (thn (hi.run pins s σ H (fun J H1 => ∃ W1 xs μ1, xs.length ≤ 1000 ∧ Go W H W1 H1 ∧ Ok X.K W1 H1 μ1 ∧ Walk X.K W1 J xs ∧
    postE X.K (WE E σ) W1 H1 ((lcD t tyes fe (wipeD ρ (own.map (·.2))) xs μ1).nox.bind fun ys μ2 => finSc ys μ2) Q) I ⟨W, ρ, μ, ok, en, ?_⟩) fun xv s1 hx => thn hx fun itv s2 h2 => ?_)
  · unfold dlensc at z
    revert z
    cases fi ρ μ with
    | ok xs μ1 =>
      rw [R.bind_ok]
      intro z
      split at z
      · rename_i few
        exact fun W1 J H1 g o wk => ⟨W1, xs, μ1, few, g, o, wk, post.mono g z⟩
      · exact z.elim
    | ex _ _ _ => exact fun z => z
    | bad => exact fun z => z
  obtain ⟨it, fp, tn, J, H2, e, I2, T, t2, f2, W1, xs, μ1, few, g1, o1, wk, z1⟩ := h2
  subst e
  refine PpSet.newSet_ok (newEnv_comp ?_)
  generalize hDn : s2.heap.objs.size = Dn
  have nD : H2 Dn = none := I2.hok.fresh (Nat.le_of_eq hDn)
  have J3 : Inv X pins σ (upd H2 Dn (SetTO X.prog X.w Dn [])) { s2 with heap := s2.heap.push { cls := .type "set", dict := none, data := .set #[] 0 (.fresh 0 0 (!X.w.params.followText "set-order")) } } := by
    refine I2.laid (t' := s2.toks) (fun b o e => Heap.get?_push_of_some _ e) (Nat.le_of_eq hDn) ?_
    rw [← hDn]
    exact setTO_new (SetOf_congr ((setObjOf_fresh (knd := PySem.strKind X.prog X.w) (!X.w.params.followText "set-order")).setOf (Heap.get?_push_size _ rfl) (by unfold scanBound; omega)) (fun _ => rfl) rfl)
  have g3 : Go W1 H2 W1 (upd H2 Dn (SetTO X.prog X.w Dn [])) := (Go.refl W1 H2).other nD
  have o3 : Ok X.K W1 (upd H2 Dn (SetTO X.prog X.w Dn [])) μ1 := o1.other (o1.snone nD) (o1.notio nD) (.inl nD)
  have d3 : upd H2 Dn (SetTO X.prog X.w Dn []) Dn = some (SetTO X.prog X.w Dn []) := upd_same
  have m3 : ∀ b ∈ fp, FpOk X pins (upd H2 Dn (SetTO X.prog X.w Dn [])) b ∧ b < s2.heap.objs.size := fun b hb => by
    obtain ⟨o, eo, _⟩ := T.obj _ _ t2 b hb
    have lt := Heap.lt_size eo
    exact ⟨⟨(upd_ne (by rw [← hDn]; exact Nat.ne_of_lt lt)).trans (f2 b hb).1, (f2 b hb).2⟩, lt⟩
  show codeAny (model X.prog X.w) X.A (.compStart (.SetComp elt [⟨tg, iter, [], 0⟩] scope pos) 0 (.ref it) (.ref Dn) (compEnvC scope (cellsFrom ((s2.heap.push { cls := .type "set", dict := none, data := .set #[] 0 (.fresh 0 0 (!X.w.params.followText "set-order")) }).objs.size + 1) scope.names (cloFrom X.env.cells scope.names [])) (s2.heap.push { cls := .type "set", dict := none, data := .set #[] 0 (.fresh 0 0 (!X.w.params.followText "set-order")) }).objs.size X.env))
    (compPost (model X.prog X.w) X.A X.xe none (fun v s₁ => wpAny (model X.prog X.w) X.A (spliced (backTo cpos (starEach [] X.env))) (fun vs s₂ => wpAny (model X.prog X.w) X.A (call (Value.builtin "len") (v :: vs)) (EP X pins σ Q) X.xe s₂) X.xe s₁) (.ref Dn) (s2.heap.push { cls := .type "set", dict := none, data := .set #[] 0 (.fresh 0 0 (!X.w.params.followText "set-order")) }).objs.size)
    { s2 with heap := pushCells ((s2.heap.push { cls := .type "set", dict := none, data := .set #[] 0 (.fresh 0 0 (!X.w.params.followText "set-order")) }).push { cls := .type "dict", data := .dict #[] }) scope.names }
  have up3 : ∀ b o, s2.heap.get? b = some o → (s2.heap.push { cls := .type "set", dict := none, data := .set #[] 0 (.fresh 0 0 (!X.w.params.followText "set-order")) }).get? b = some o := fun b o e => Heap.get?_push_of_some _ e
  have lt3 : ∀ b, b < s2.heap.objs.size → b < (s2.heap.push { cls := .type "set", dict := none, data := .set #[] 0 (.fresh 0 0 (!X.w.params.followText "set-order")) }).objs.size := fun b h => by
    rw [Heap.size_push]
    exact Nat.lt_succ_of_lt h
  generalize s2.heap.push { cls := .type "set", dict := none, data := .set #[] 0 (.fresh 0 0 (!X.w.params.followText "set-order")) } = h3 at J3 up3 lt3 ⊢
  have J4 := block_start J3 bok hN (fp := fp) fun b hb => ⟨(m3 b hb).1, lt3 b (m3 b hb).2⟩
  have cg := hg { s2 with heap := h3 } (upd H2 Dn (SetTO X.prog X.w Dn [])) h3.objs.size (cellsFrom (h3.objs.size + 1) scope.names (cloFrom X.env.cells scope.names [])) fp
  have ce := he { s2 with heap := h3 } (upd H2 Dn (SetTO X.prog X.w Dn [])) h3.objs.size (cellsFrom (h3.objs.size + 1) scope.names (cloFrom X.env.cells scope.names [])) fp
  have t4 : tn 0 (pushCells (h3.push { cls := .type "dict", data := .dict #[] }) scope.names) := T.keep _ _ _ t2 fun b _ o e => pushCells_keeps _ _ _ _ (Heap.get?_push_of_some _ (up3 b o e))
  have loop := scT_loop (Y := X.blk { s2 with heap := h3 } (upd H2 Dn (SetTO X.prog X.w Dn [])) scope (compEnvC scope (cellsFrom (h3.objs.size + 1) scope.names (cloFrom X.env.cells scope.names [])) h3.objs.size X.env) fp) (K0 := WE E σ) (Q := Q) (s0 := { s2 with heap := pushCells (h3.push { cls := .type "dict", data := .dict #[] }) scope.names }) (pos := pos) (scope := scope) (iter := iter) rfl hc T wk cg ce hsub few
    (fun {σ' H' s'} I' hn b hb => ⟨hn b hb, (I'.ok.exf b hb).1, I'.ok.exfs b hb, .inl hb, fun x c e => (I'.ok.exf b hb).2 x c e, fun p hp => nomatch (show p ∈ ([] : List (Addr × Obj)) ++ [] from hp)⟩) ((en.mono g1.le).wipe (own.map (·.2)))
    (Rr := compPost (model X.prog X.w) X.A X.xe none (fun v s₁ => wpAny (model X.prog X.w) X.A (spliced (backTo cpos (starEach [] X.env))) (fun vs s₂ => wpAny (model X.prog X.w) X.A (call (Value.builtin "len") (v :: vs)) (EP X pins σ Q) X.xe s₂) X.xe s₁) (.ref Dn) h3.objs.size)
    (fun H' W' μ' acc s' la I' g' o' e' x' y' pp => ?_) nD J4 g3 o3 t4 (fun b hb => (m3 b hb).1.1) d3 (o1.notio nD) (o1.snone nD) z1
  · exact PpSet.codeAny_compStart_set loop (T.self X.A 0 _ _ _ t4 loop)
  · have back : Inv X pins σ H' s' := J3.call' (ch := fp) I'.os I'.base I'.hok I'.bare fun b hb => ⟨(m3 b hb).1.2.2.2.1, (m3 b hb).1.2.1, (m3 b hb).1.2.2.2.2.1, (m3 b hb).1.2.2.2.2.2⟩
    have nC : H' h3.objs.size = none := I'.free
    obtain ⟨m, hn, _⟩ := I'.loc
    refine ⟨m, hn, fun h'' sb => ?_⟩
    obtain ⟨k0, k1, k2, k3, k4, k5⟩ := J3.fpOk (Nat.le_refl _) nC
    have I9 : Inv X pins σ H' { s' with heap := h'' } := back.turned (t' := s'.toks) (fun b o hb e => (sb.2 b hb).trans e) k0 k1 k3 k4 k5
    refine PyProof.Rows.args_nil ?_
    obtain ⟨ob, en', ep, tt, ho, hex, hd, _, _, _, hf, hnn⟩ := (I9.hok Dn _ e').1
    have few3 := met_len acc acc.length (Nat.le_refl _)
    refine call_len_set ho hex hd hf (by rw [hnn]; omega) ⟨.int ((met acc acc.length).length : Nat), H', I9.tok _, ⟨_, by rw [hnn]⟩, ?_⟩
    unfold finSc at pp
    rw [strsD_map] at pp
    exact pp W' _ H' g' o' (.int _)
end
end DL
/-! DL61: xs.extend(ys), xs.pop(), xs[::-1], tuple(range(n)). -/
namespace DL
open PySem PySem.Spec PyProof.Rows L2
section
variable {X : Cx} {E : WX}
/-- a method without arguments -/
def dbm0 (T : String) (g : D → List D → Mu → R D) (fo : FE) : FE := fun ρ μ => (fo ρ μ).bind fun x μ1 => if tyD T x μ1 = true then g x [] μ1 else .bad
theorem de_bm0 {o : Expr} {fo : FE} {name : Str} {apos cpos : Pos} {T id : String} {g : D → List D → Mu → R D} (pa : PlainAttrs T) (slot : Slot T name id) (hty : typeOf (.builtin id) = pure (.type "method_descriptor")) (hm : MtX X E id g) (ho : DE X E o fo)
    (hbase : attributeBase o name X.env (eval o X.env) = eval o X.env := by rfl) (hline : (apos.endLine == cpos.line) = true := by rfl) : DE X E (.Call (.Attribute o name apos) [] [] cpos) (dbm0 T g fo) := by
  refine pe_imp (pe_bm0 pa slot hty hm ho hbase hline) fun σ H Q ⟨W, ρ, μ, ok, en, p⟩ => ?_
  refine seq p ok en fun x μ1 W1 v H1 g1 o1 en1 r p1 => ?_
  split at p1
  · rename_i ht
    exact ⟨tyD_rep o1 r ht, _, W1, μ1, x, [], o1, r, .nil, p1⟩
  · exact p1.elim
/-- xs.pop() -/
def mPopL : D → List D → Mu → R D := fun x ds μ => match x, ds with
  | .hdl l, [] => match μ[l]? with
    | some (.lst xs) => match xs[xs.length - 1]? with
      | some d => .ok d (μ.set l (.lst xs.dropLast))
      | none => .bad
    | _ => .bad
  | _, _ => .bad
theorem reps_dropLast {K : PySem.W.Frag} {W : Wd} : ∀ {vs : List V} {ds : List D}, Reps K W vs ds → Reps K W vs.dropLast ds.dropLast
  | _, _, .nil => .nil
  | _, _, .cons _ .nil => .nil
  | _, _, .cons r (.cons r2 rs) => .cons r (reps_dropLast (.cons r2 rs))
theorem mx_popL : MtX X E "list.pop" mPopL := mtx fun W H μ d ds x xs Q ok r rs p => by
  unfold mPopL at p
  split at p
  · rename_i l
    split at p
    · rename_i ys hm
      split at p
      · rename_i dd hd
        cases r with
        | @hdl a _ ha =>
          cases rs
          obtain ⟨o, ho, vs, rfl, q⟩ := ok.cell l a _ ha hm
          obtain ⟨v, hv, rv⟩ := q.get hd
          obtain ⟨ok2, g2⟩ := ok.setcell (m' := .lst ys.dropLast) ha hm (fun z => nomatch z) ⟨vs.dropLast, rfl, reps_dropLast q⟩
          exact ⟨_, mt_pop, a, vs, v, rfl, rfl, ho, by rw [q.length]; exact hv, p _ _ _ g2 ok2 (rv.mono g2.le)⟩
      · exact p.elim
    · exact p.elim
  · exact p.elim
/-- xs.extend(ys) -/
def mExtend : D → List D → Mu → R D := fun x ds μ => match x, ds with
  | .hdl l, [d] => match μ[l]? with
    | some (.lst xs) => match d with
      | .lst ys => if xs.length + ys.length ≤ 1000000 then .ok .non (μ.set l (.lst (xs ++ ys))) else .bad
      | _ => .bad
    | _ => .bad
  | _, _ => .bad
theorem mx_extend : MtX X E "list.extend" mExtend := by
  intro pins s σ H x vs v us Q I rx rv q
  obtain ⟨_, W, μ, d, ds, ok, r1, r2, p⟩ := q
  unfold mExtend at p
  split at p
  · rename_i l dd
    split at p
    · rename_i ys hm
      split at p
      · rename_i zs
        split at p
        · rename_i hn
          cases r1 with
          | @hdl a _ ha =>
            cases rx
            cases r2 with
            | cons r2 r3 =>
              cases r3
              cases r2 with
              | @lst b ws _ z h1 q2 =>
                cases rv with
                | cons w1 w2 =>
                  cases w1
                  cases w2
                  obtain ⟨o, ho, vs, rfl, q⟩ := ok.cell l a _ ha hm
                  obtain ⟨_, its, n, rr, hl, e⟩ := I.lstM ho
                  obtain ⟨its2, n2, rr2, e2⟩ := (same_lq ok.sub h1).isL I
                  have k1 := rr.length
                  have k2 := q.length
                  have k3 := rr2.length
                  have k4 := q2.length
                  have big : its.toArray.size + its2.toArray.size ≤ sizeLine := by
                    rw [List.size_toArray, List.size_toArray]
                    have := le_line hn
                    omega
                  have nl : ¬ (!its.toArray.isEmpty && Builtin.List.listTooLong (its.toArray.size + its2.toArray.size)) = true := by
                    rw [notLongL big, Bool.and_false]
                    decide
                  obtain ⟨ok2, g2⟩ := ok.setcell (m' := .lst (ys ++ zs)) ha hm (fun z => nomatch z) ⟨vs ++ ws, rfl, q.app q2⟩
                  refine call_meets F.slot_list_extend ⟨_, e, rfl⟩ F.entry_list_extend (F.args_list_extend_2 _ _) (AutoSeq1.list_extend_list_list_0 a its.toArray n b its2.toArray n2 nl (by rw [List.size_toArray] at big ⊢; omega) (by omega)) ⟨e, e2, ?_⟩
                  exact ⟨.non, _, I.lset (its' := its ++ its2) ho e (by simp) (rr.append rr2) (by rw [List.length_append]; rw [List.size_toArray, List.size_toArray] at big; omega), rfl, p _ _ _ g2 ok2 .non⟩
        · exact p.elim
      · exact p.elim
    · exact p.elim
  · exact p.elim
/-- xs[::-1] -/
def drev (f : FE) : FE := fun ρ μ => (f ρ μ).bind fun d μ1 => match thaw μ1 d with
  | .lst xs => .ok (.lst xs.reverse) μ1
  | _ => .bad
theorem reps_rev {K : PySem.W.Frag} {W : Wd} : ∀ {vs : List V} {ds : List D}, Reps K W vs ds → Reps K W vs.reverse ds.reverse
  | _, _, .nil => .nil
  | _, _, .cons r t => by
    rw [List.reverse_cons, List.reverse_cons]
    exact (reps_rev t).app (.cons r .nil)
theorem de_rev {e : Expr} {f : FE} {k : Nat} {p1 p2 p3 pos : Pos} (h : DE X E e f) : DE X E (.Subscript e (.Slice none none (some (.UnaryOp .USub (.Constant (.int 1) k p1) p2)) p3) pos) (drev f) := pe_imp (pe_revL h) fun σ H Q ⟨W, ρ, μ, ok, en, p⟩ => by
  refine seq p ok en fun d μ1 W1 v H1 g1 o1 en1 r p1 => ?_
  revert p1
  cases ht : thaw μ1 d with
  | lst xs =>
    intro p1
    obtain ⟨a, vs, rfl, lq, rr, z⟩ := thaw_lq o1 r ht
    exact ⟨a, vs, rfl, lq.sq, fun q hq => p1 _ _ _ (Go.new o1 hq) (o1.new hq) (rep_lst o1 hq (by rw [List.length_reverse]; exact z) (reps_rev rr))⟩
  | _ => exact fun z => z.elim
end
end DL
/-! DL62: lists that are changed later: comprehensions, list(..); list(d), list(d.values()). -/
namespace DL
open PySem PySem.Spec PyProof.Rows L2
def dlcC (fi : FA) (vs : List Nat) (t : Tg) (ft : FT) (fe : FE) : FE := fun ρ μ => (fi ρ μ).bind fun xs μ1 => (lcD t ft fe (wipeD ρ vs) xs μ1).bind fun ys μ2 => .ok (.hdl μ2.length) (μ2 ++ [.lst ys])
section
variable {X : Cx} {E : WX} {pos : Pos}
theorem tLcC_of {fi : FA} {vs : List Nat} {t : Tg} {ft : FT} {fe : FE} (hsub : ∀ i ∈ t.slots, i ∈ vs) : ∀ σ H Q, rE X.K E (dlcC fi vs t ft fe) σ H Q → tLc (rI X.K E fi) (rG X.K t) (rT X.K E0 ft) (rE X.K E0 fe) vs σ H Q := fun σ H Q ⟨W, ρ, μ, ok, en, p⟩ => by
  refine ⟨W, ρ, μ, ok, en, ?_⟩
  unfold dlcC at p
  revert p
  cases fi ρ μ with
  | ex c fs μ1 => exact fun p => p
  | bad => exact fun p => p
  | ok xs μ1 =>
    rw [R.bind_ok]
    intro p W1 J H1 g1 o1 wk Dn hD
    have hz := wk.len
    have en1 := (en.mono g1.le).wipe vs
    refine ⟨fun i m H2 => m = xs.length - i ∧ i ≤ xs.length ∧ ∃ W2 μ2 acc ds, Go W1 H1 W2 H2 ∧ Ok X.K W2 H2 μ2 ∧ H2 Dn = some (.lst acc) ∧ Dn ∉ W2.io ∧ W2.S Dn = none ∧ Reps X.K W2 acc ds ∧ acc.length ≤ i ∧ postE X.K (WE E σ) W1 H1 ((lcD t ft fe (wipeD ρ vs) (xs.drop i) μ2).bind fun ys μ3 => .ok (.hdl μ3.length) (μ3 ++ [.lst (ds ++ ys)])) Q,
      ⟨xs.length, by simp, Nat.zero_le _, W1, μ1, [], [], (Go.refl _ _).other hD, o1.other (o1.snone hD) (o1.notio hD) (.inl hD), upd_same, o1.notio hD, o1.snone hD, .nil, Nat.le_refl _, ?_⟩, ?_⟩
    · exact post.mono g1 p
    rintro i m H2 ⟨rfl, hi, W2, μ2, acc, ds, g2, o2, hacc, n2, s2, r2, l2, p2⟩
    have sm : Same W1.S H2 := g2.le.s.trans o2.sub
    by_cases hlt : i < xs.length
    · rw [List.drop_eq_getElem_cons hlt] at p2
      unfold lcD at p2
      refine .inr ⟨wk.go H2 i sm hlt, fun H3 => ∃ W3 μ3 acc ds, Go W1 H1 W3 H3 ∧ Ok X.K W3 H3 μ3 ∧ H3 Dn = some (.lst acc) ∧ Dn ∉ W3.io ∧ W3.S Dn = none ∧ Reps X.K W3 acc ds ∧ acc.length ≤ i + 1 ∧ postE X.K (WE E σ) W1 H1 ((lcD t ft fe (wipeD ρ vs) (xs.drop (i + 1)) μ3).bind fun ys μ3 => .ok (.hdl μ3.length) (μ3 ++ [.lst (ds ++ ys)])) Q,
        fun H3 ⟨W3, μ3, acc, ds, q⟩ => ⟨xs.length - (i + 1), by omega, rfl, hlt, W3, μ3, acc, ds, q⟩, fun x H3 y => ?_⟩
      obtain ⟨W3, g3, o3, r3⟩ := wk.yld H2 i x H3 sm y xs[i] (List.getElem?_eq_getElem hlt) W2 μ2 g2.le o2
      obtain ⟨a3, s3, n3⟩ := g3.out hacc s2 n2
      revert p2
      cases e : asg t xs[i] (wipeD ρ vs) with
      | none => exact fun p => p.elim
      | some ρ3 =>
        dsimp only
        intro p2
        refine ⟨W3, wipeD ρ vs, ρ3, xs[i], μ2, o3, en1.mono (g2.le.trans g3.le), r3, e, fun σ4 en4 b4 => ⟨wipe_but hsub b4, ?_⟩⟩
        refine ⟨W3, ρ3, μ2, o3, en4, ?_⟩
        revert p2
        cases ft ρ3 μ2 with
        | ex c fs μ4 => exact fun p => p.elim
        | bad => exact fun p => p.elim
        | ok b μ4 =>
          rw [R.nox_ok, R.bind_ok]
          intro p2 W4 H4 g4 o4
          obtain ⟨a4, s4, n4⟩ := g4.out a3 s3 n3
          cases b with
          | false =>
            rw [if_neg Bool.false_ne_true] at p2 ⊢
            exact ⟨W4, μ4, acc, ds, (g2.trans g3).trans g4, o4, a4, n4, s4, r2.mono (g3.le.trans g4.le), by omega, p2⟩
          | true =>
            rw [if_pos rfl] at p2 ⊢
            refine ⟨W4, ρ3, μ4, o4, en4.mono g4.le, ?_⟩
            revert p2
            cases fe ρ3 μ4 with
            | ex c fs μ5 => exact fun p => p.elim
            | bad => exact fun p => p.elim
            | ok yd μ5 =>
              rw [R.nox_ok, R.bind_ok]
              intro p2 W5 yv H5 g5 o5 r5
              obtain ⟨a5, s5, n5⟩ := g5.out a4 s4 n4
              refine ⟨acc, a5, by omega, W5, μ5, acc ++ [yv], ds ++ [yd], (((g2.trans g3).trans g4).trans g5).other hD, o5.other s5 n5 (.inr ⟨_, a5, (fun _ z => nomatch z), (fun _ z => nomatch z)⟩), upd_same, n5, s5, (r2.mono ((g3.le.trans g4.le).trans g5.le)).app (.cons r5 .nil), by simp; omega, ?_⟩
              revert p2
              cases lcD t ft fe (wipeD ρ vs) (xs.drop (i + 1)) μ5 with
              | ex c fs μ6 => exact fun p => p
              | bad => exact fun p => p
              | ok ys μ6 =>
                rw [R.bind_ok, R.bind_ok, R.bind_ok, List.append_assoc]
                exact fun p => p
    · have ei : i = xs.length := by omega
      subst ei
      rw [List.drop_length] at p2
      unfold lcD at p2
      rw [R.bind_ok, List.append_nil] at p2
      refine .inl ⟨wk.stop H2 _ sm (Nat.le_refl _), ?_⟩
      have ok3 := okAdopt (m := .lst ds) o2 hacc s2 n2 ⟨acc, rfl, r2⟩
      refine p2 (W2.cell Dn) (.ref Dn) H2 ⟨g2.le.trans ⟨Same.refl _, List.prefix_append _ _⟩, g2.kept, g2.grow, fun a e => ?_, g2.newS⟩ ok3 (.hdl ?_)
      · have e : a ∈ W2.io ++ [Dn] := e
        rcases List.mem_append.mp e with e | e
        · exact g2.newio a e
        · have e : a = Dn := by simpa using e
          rw [e]; exact .inr hD
      · show (W2.io ++ [Dn])[μ2.length]? = some Dn
        rw [← o2.len]
        simp
theorem de_lcC {elt tg iter : Expr} {ifs : List Expr} {scope : Scope} {fi : FA} {t : Tg} {ft : FT} {fe : FE} (own : List (Str × Nat)) (hc : X.calm = true) (hN : X.N.Nodup) (hi : DI X E tg iter fi) (ok : BlkOk X.N X.env.scope scope own)
    (hg : ∀ (s : Shared) (H : Hp) (C : Addr) (cl : List (Str × Addr)) (fp : List Addr), DG (X.blk s H scope (compEnvC scope cl C X.env) fp) tg t) (ht : ∀ (s : Shared) (H : Hp) (C : Addr) (cl : List (Str × Addr)) (fp : List Addr), DTs (X.blk s H scope (compEnvC scope cl C X.env) fp) ifs ft)
    (he : ∀ (s : Shared) (H : Hp) (C : Addr) (cl : List (Str × Addr)) (fp : List Addr), DE (X.blk s H scope (compEnvC scope cl C X.env) fp) E0 elt fe) (hsub : ∀ i ∈ t.slots, i ∈ own.map (·.2) := by decide) (hs : ∀ x, foldedSetIterable iter X.env x = pure x := by intro _; rfl) :
    DE X E (.ListComp elt [⟨tg, iter, ifs, 0⟩] scope pos) (dlcC fi (own.map (·.2)) t ft fe) := pe_imp (pe_lc (te := rE X.K E0 fe) (g := rG X.K t) (tt := rT X.K E0 ft) hc hN hi ok hg ht he hs) (tLcC_of hsub)
theorem ds_setLcC (i : Nat) {y : Str} {py spos : Pos} {elt tg iter : Expr} {ifs : List Expr} {scope : Scope} {fi : FA} {t : Tg} {ft : FT} {fe : FE} (own : List (Str × Nat)) (hc : X.calm = true) (hN : X.N.Nodup) (hi : DI X E tg iter fi) (ok : BlkOk X.N X.env.scope scope own)
    (hg : ∀ (s : Shared) (H : Hp) (C : Addr) (cl : List (Str × Addr)) (fp : List Addr), DG (X.blk s H scope (compEnvC scope cl C X.env) fp) tg t) (ht : ∀ (s : Shared) (H : Hp) (C : Addr) (cl : List (Str × Addr)) (fp : List Addr), DTs (X.blk s H scope (compEnvC scope cl C X.env) fp) ifs ft)
    (he : ∀ (s : Shared) (H : Hp) (C : Addr) (cl : List (Str × Addr)) (fp : List Addr), DE (X.blk s H scope (compEnvC scope cl C X.env) fp) E0 elt fe) (hsub : ∀ i ∈ t.slots, i ∈ own.map (·.2) := by decide) (hy : X.N[i]? = some y := by rfl) (hyl : X.env.scope.names.lookup y = some .local := by rfl)
    (hsw : swapsWith (.ListComp elt [⟨tg, iter, ifs, 0⟩] scope pos) (some (.Name y py)) spos.line X.env = pure true := by exact sw_true rfl rfl rfl (by decide +kernel)) (hs : ∀ x, foldedSetIterable iter X.env x = pure x := by intro _; rfl) :
    DS X E (.Assign [.Name y py] (.ListComp elt [⟨tg, iter, ifs, 0⟩] scope pos) spos) (gasg (.nm i) (dlcC fi (own.map (·.2)) t ft fe)) := by
  refine ps_imp (ps_setLc (te := rE X.K E0 fe) (g := rG X.K t) (tt := rT X.K E0 ft) hc hN hy hyl hsw hi ok hg ht he hs) fun Z σ H ⟨W, ρ, μ, ok, en, p⟩ => ?_
  refine tLcC_of (X := X) (E := E) hsub σ H _ (seqS p ok en fun d μ1 W1 v H1 g1 o1 en1 r p1 => ?_)
  rw [asg_nm] at p1
  exact p1 W1 _ H1 (Go.refl _ _) o1 (en1.set r i)
end

section
variable {X : Cx} {E : WX}
/-- the items of a list, a tuple, the keys of a dict -/
def itemsL (μ : Mu) (d : D) : Option (List D) := match thaw μ d with
  | .lst xs => some xs
  | .tup xs => some xs
  | .hdl l => match μ[l]? with
    | some (.dct ks xs) => if walkable ks xs = true then some (ks.map kD) else none
    | _ => none
  | _ => none
def bListM : List D → Mu → R D
  | [d], μ => match itemsL μ d with
    | some xs => .ok (.lst xs) μ
    | none => .bad
  | _, _ => .bad
/-- .. a list that is changed later -/
def bListC : List D → Mu → R D
  | [d], μ => match itemsL μ d with
    | some xs => .ok (.hdl μ.length) (μ ++ [.lst xs])
    | none => .bad
  | _, _ => .bad
theorem keys_reps {K : PySem.W.Frag} {W : Wd} : ∀ {ks : List Key}, (ks.all keyOk) = true → Reps K W (ks.map kV) (ks.map kD)
  | [], _ => .nil
  | k :: ks, h => by
    rw [List.all_cons, Bool.and_eq_true] at h
    exact .cons (kD_rep h.1) (keys_reps h.2)
theorem items_new {W : Wd} {H : Hp} {μ : Mu} {v : V} {d : D} {xs : List D} {Q : VK} (hc : X.calm = true) (ok : Ok X.K W H μ) (r : Rep X.K W v d) (h : itemsL μ d = some xs) (q : ∀ vs p, H p = none → Reps X.K W vs xs → xs.length ≤ sizeLine → Q (.ref p) (upd H p (.lst vs))) :
    ∃ r, CallR X (.type "list") r ∧ r [v] H Q := by
  unfold itemsL at h
  split at h
  · rename_i ys ht
    cases h
    obtain ⟨a, vs, rfl, lq, rs, z⟩ := thaw_lq ok r ht
    exact ⟨_, call_list_of, _, _, rfl, .inl lq.sq, fun l hl => q vs l hl rs z⟩
  · rename_i ys ht
    cases h
    have e := thaw_tup ht
    subst e
    cases r with
    | tup z h q2 => exact ⟨_, call_list_of, _, _, rfl, .inr (same_t ok.sub h), fun l hl => q _ l hl q2 z⟩
  · rename_i l ht
    have ed : d = .hdl l := by
      cases d with
      | hdl m =>
        unfold thaw at ht
        dsimp only at ht
        split at ht
        · split at ht
          · cases ht
          · exact ht
        · exact ht
      | _ => simp [thaw] at ht
    subst ed
    split at h
    · rename_i ks xs' hm
      split at h
      · rename_i hw
        cases h
        unfold walkable at hw
        simp only [Bool.and_eq_true, decide_eq_true_eq] at hw
        cases r with
        | @hdl a _ ha =>
          obtain ⟨o, ho, vs, rfl, hl, rs⟩ := ok.cell l a _ ha hm
          refine ⟨_, call_list_dK hc, a, _, rfl, ho, fun p hp => ?_⟩
          have e : ((ks.zip vs).map fun kv => kV kv.1) = ks.map kV := by
            have e2 : (ks.zip vs).map Prod.fst = ks := List.map_fst_zip (by omega)
            rw [← e2, List.map_map, e2]
            rfl
          rw [e]
          exact q _ p hp (keys_reps hw.2.2) (by rw [List.length_map]; exact le_line hw.2.1)
      · cases h
    · cases h
  · cases h
theorem cx_listM (hc : X.calm = true := by rfl) : CallX X E (.type "list") bListM := callx fun W H μ ds xs Q ok r p => by
  unfold bListM at p
  split at p
  · cases r with
    | cons r1 r2 =>
      cases r2
      split at p
      · rename_i ys hi
        exact items_new hc ok r1 hi fun vs l hl rs z => p _ _ _ (Go.new ok hl) (ok.new hl) (rep_lst ok hl z rs)
      · exact p.elim
  · exact p.elim
theorem cx_listC (hc : X.calm = true := by rfl) : CallX X E (.type "list") bListC := callx fun W H μ ds xs Q ok r p => by
  unfold bListC at p
  split at p
  · cases r with
    | cons r1 r2 =>
      cases r2
      split at p
      · rename_i ys hi
        exact items_new hc ok r1 hi fun vs l hl rs z => p _ _ _ (Go.cell ok hl) (ok.newcell hl ⟨vs, rfl, rs⟩) (.hdl (by
          show (W.io ++ [l])[μ.length]? = some l
          rw [← ok.len]
          simp))
      · exact p.elim
  · exact p.elim
end
end DL
/-! DL63: more in suites; defs that make functions. -/
namespace DL
open PySem PySem.Spec PyProof.Rows L2
section
variable {P : Program} {w : World} {K : PySem.W.Frag} {mg : Str → Option Value} {base : Heap}
/-- a def whose code object is known -/
theorem FunD.gc {x qual : Str} {params : Arguments} {body : List Stmt} {scope : Scope} {dvs : List V} {kws : List (Str × V)} {f : Addr} {fd : FuncData} {N ps : List Str} {k : Nat} {g : FS} {pp : Str × Option Str} (F : FunD K x qual params body scope dvs kws f fd) (hf : f = He.fAd K pp) (sc : FnScope N ps scope)
    (hb : ∀ (A : Around) (outer : List Env) (s : Shared) (H : Hp) (E : XK), Cal (cxOf (L2.CX P w) P w K mg base N qual scope f (.ref (He.cT K pp).1) A outer s H E) (lift E) k → DSs (cxOf (L2.CX P w) P w K mg base N qual scope f (.ref (He.cT K pp).1) A outer s H E) (lift E) body g) :
    FnG P w K mg base (k + 1) f fd ps (callF N.length g) := by
  obtain ⟨oc, od, dV, kV, doc, pm, an, cdv, ct, osl, rfl, lk, hcd, _, _⟩ := F.ex
  have e : cdv = .ref (He.cT K pp).1 := by
    rw [hf] at lk
    cases cdv with
    | ref c =>
      have : He.codeOf K pp = c := by
        unfold He.codeOf
        rw [lk]
      show _ = Value.ref (He.codeOf K pp)
      rw [this]
    | _ => simp [PySem.W.codeIn] at hcd
  subst e
  exact fn_body lk hcd sc hb
/-- in the body of such a def -/
theorem lamAt_of {N : List Str} {qual : Str} {scope : Scope} {f : Addr} {A : Around} {outer : List Env} {s : Shared} {H : Hp} {E : XK} {pp : Str × Option Str} {q : Str} (tin : TabIn K base mg) (one : ∀ p ∈ tabsOf K, ∀ p' ∈ tabsOf K, p.1 = p'.1 → p.2 = p'.2) (hp : (pp, q) ∈ lamDefs) :
    LamAt (cxOf (L2.CX P w) P w K mg base N qual scope f (.ref (He.cT K pp).1) A outer s H E) q := ⟨⟨(pp, q), hp, rfl, rfl⟩, tin, one⟩
end
/-- the tables stand apart -/
def tabOneB (K : PySem.W.Frag) : Bool := decide ((tabsOf K).map (·.1)).Nodup
theorem tabOne_of {K : PySem.W.Frag} (h : tabOneB K = true) : ∀ p ∈ tabsOf K, ∀ p' ∈ tabsOf K, p.1 = p'.1 → p.2 = p'.2 := by
  have nd := of_decide_eq_true h
  intro p hp p' hp' e
  have key : ∀ {l : List (Addr × Str)}, (l.map (·.1)).Nodup → ∀ {a b : Addr × Str}, a ∈ l → b ∈ l → a.1 = b.1 → a = b := by
    intro l
    induction l with
    | nil => exact fun _ _ _ h => nomatch h
    | cons c l ih =>
      intro nd a b ha hb e
      rw [List.map_cons, List.nodup_cons] at nd
      rcases List.mem_cons.mp ha with ha | ha <;> rcases List.mem_cons.mp hb with hb | hb
      · rw [ha, hb]
      · exact absurd (List.mem_map.mpr ⟨b, hb, by rw [← e, ha]⟩) nd.1
      · exact absurd (List.mem_map.mpr ⟨a, ha, by rw [e, hb]⟩) nd.1
      · exact ih nd.2 ha hb e
  rw [key nd hp hp' e]
end DL
/-! DL64: a changed list settled where a statement begins; != of lists of instances with an own __eq__. -/
namespace DL
open PySem L2 PySem.Spec PyProof.Rows
open PySem.SeqAt
open AutoSeq1 (wpAny_loadPart')
open MeetsSeq MeetsSeq2 MeetsSeq3 SeqRoads2
/-! ### settled ahead of a statement -/
def frz (i : Nat) (ρ : En) (μ : Mu) : Option (Nat × List D) := match ρ[i]? with
  | some (some (.hdl l)) => match μ[l]? with
    | some (.lst xs) => if xs.length ≤ 1000000 then some (l, xs) else none
    | _ => none
  | _ => none
def gfrz (i : Nat) (g : FS) : FS := fun ρ μ => match frz i ρ μ with
  | some (l, xs) => g (ρ.set i (some (.lst xs))) (μ.set l .gone)
  | none => g ρ μ
theorem postS_mono' {K : PySem.W.Frag} {E : WX} {W W1 : Wd} {H H1 : Hp} {o : O} {Z : Ends} (g : Go W H W1 H1) (p : postS K E W H o Z) : postS K E W1 H1 o Z := postS.mono g p
theorem ds_frz {X : Cx} {E : WX} {st : Stmt} {g : FS} (i : Nat) (h : DS X E st g) : DS X E st (gfrz i g) := ps_imp h fun Z σ H ⟨W, ρ, μ, ok, en, p⟩ => by
  unfold gfrz at p
  cases e : frz i ρ μ with
  | none =>
    rw [e] at p
    exact ⟨W, ρ, μ, ok, en, p⟩
  | some q =>
    obtain ⟨l, xs⟩ := q
    rw [e] at p
    dsimp only at p
    unfold frz at e
    split at e
    · rename_i l' e1
      split at e
      · rename_i ys e2
        split at e
        · rename_i hn
          cases e
          obtain ⟨v, hv, r⟩ := en.at_ i _ e1
          cases r with
          | @hdl a _ ha =>
            obtain ⟨o, ho, vs, rfl, rs⟩ := ok.cell _ a _ ha e2
            obtain ⟨ok2, g2⟩ := ok.freeze ha e2 (fun z => nomatch z) ho
            refine ⟨_, _, _, ok2, ?_, postS_mono' g2 p⟩
            have en2 := (en.mono g2.le).set (v := .ref a) (d := .lst xs) (.lst (le_line hn) (.inl (.inl (show upd W.S a (.lst vs) a = _ from upd_same))) (rs.mono g2.le)) i
            have e3 : σ.set i (some (V.ref a)) = σ := List.ext_getElem? fun j => by
              by_cases hj : i = j
              · subst hj
                rw [List.getElem?_set_self (List.getElem?_eq_some_iff.mp hv).1, hv]
              · rw [List.getElem?_set_ne hj]
            rw [e3] at en2
            exact en2
        · cases e
      · cases e
    · cases e
/-! ### != of lists, item by item by an own == -/
theorem ownLoop {P : Program} {w : World} (Iv : Shared → Prop) (Ex : Value → Shared → Prop) (a b : Addr) (xs ys : Array Value) (hz : xs.size = ys.size) (k : Nat) :
    ∀ i : Nat, xs.size - i = k → MeetsIn P w (Builtin.«list.__eq__.loop» ⟨[.ref a, .ref b, rawInt i, rawInt 3], []⟩)
      (fun A R s => Iv s ∧ (∀ s, Iv s → s.heap.IsList a xs ∧ s.heap.IsList b ys) ∧ (∀ j (h1 : j < xs.size) (h2 : j < ys.size) s, Iv s → wpAny (model P w) A.in1 (eqBool xs[j] ys[j]) (fun t s' => t = true ∧ Iv s') Ex s) ∧
        (∀ e s, Ex e s → R (.error e) s) ∧ ∀ s, Iv s → R (.ok (.ret (.bool false))) s) := by
  induction k with
  | zero =>
    intro i hk A R s z
    obtain ⟨iv, hl, he, hx, z⟩ := z
    obtain ⟨la, lb⟩ := hl s iv
    have z := z s iv
    obtain ⟨hp, g, d, tk, os⟩ := s
    obtain ⟨⟨c1, dd, dt, sl⟩, ho, hc, n, hd⟩ := la
    obtain ⟨⟨c2, dd2, dt2, sl2⟩, ho2, hc2, n2, hd2⟩ := lb
    simp only at hc hd hc2 hd2
    subst hc hd hc2 hd2
    wp_walk using wpAny_loadPart' ho, wpAny_loadPart' ho2
    have i1 : xs[((i : Nat) : Int).toNat]? = none := by simp; omega
    have i2 : ys[((i : Nat) : Int).toNat]? = none := by simp; omega
    rw [i1, i2]
    wp_walk using wpAny_loadPart' ho, wpAny_loadPart' ho2
    show R (.ok (.ret (.bool (xs.size != ys.size)))) _
    rw [hz]
    simpa using z
  | succ k ih =>
    intro i hk A R s z
    obtain ⟨iv, hl, he, hx, z⟩ := z
    obtain ⟨la, lb⟩ := hl s iv
    have q1 : i < xs.size := by omega
    have q2 : i < ys.size := by omega
    have hw := he i q1 q2 s iv
    obtain ⟨hp, g, d, tk, os⟩ := s
    obtain ⟨⟨c1, dd, dt, sl⟩, ho, hc, n, hd⟩ := la
    obtain ⟨⟨c2, dd2, dt2, sl2⟩, ho2, hc2, n2, hd2⟩ := lb
    simp only at hc hd hc2 hd2
    subst hc hd hc2 hd2
    wp_walk using wpAny_loadPart' ho, wpAny_loadPart' ho2
    have i1 : xs[((i : Nat) : Int).toNat]? = some xs[i] := by simp [q1]
    have i2 : ys[((i : Nat) : Int).toNat]? = some ys[i] := by simp [q2]
    have ec : ((i : Int) + 1) = ((i + 1 : Nat) : Int) := by push_cast; rfl
    rw [i1, i2]
    refine wpAny_bind (wpAny_mono hw (fun t s' y => ?_) fun e s' y => hx e s' y)
    obtain ⟨rfl, iv'⟩ := y
    wp_walk
    rw [ec]
    refine ⟨plainId_quiet plain_eq_loop _, codeAny_builtin entry_eq_loop ?_⟩
    rw [Around.under_plainId plain_eq_loop _]
    exact ih (i + 1) (by omega) A R _ ⟨iv', hl, he, hx, z⟩
theorem ownNe {P : Program} {w : World} (Iv : Shared → Prop) (Ex : Value → Shared → Prop) (a b : Addr) (xs ys : Array Value) (hz : xs.size = ys.size) :
    MeetsIn P w (Builtin.«list.__ne__» ⟨[.ref a, .ref b], []⟩)
      (fun A R s => Iv s ∧ (∀ s, Iv s → s.heap.IsList a xs ∧ s.heap.IsList b ys) ∧ (∀ j (h1 : j < xs.size) (h2 : j < ys.size) s, Iv s → wpAny (model P w) A.in1 (eqBool xs[j] ys[j]) (fun t s' => t = true ∧ Iv s') Ex s) ∧
        (∀ e s, Ex e s → R (.error e) s) ∧ ∀ s, Iv s → R (.ok (.ret (.bool false))) s) := by
  intro A R s z
  obtain ⟨iv, hl, he, hx, z⟩ := z
  obtain ⟨la, lb⟩ := hl s iv
  have f3 := AutoSeq1.sub_list_list
  have hn : ¬ (xs.size != ys.size) = true := by simp [hz]
  have nx := ownLoop (P := P) (w := w) Iv Ex a b xs ys hz _ 0 rfl A R s ⟨iv, hl, he, hx, z⟩
  obtain ⟨hp, g, d, tk, os⟩ := s
  obtain ⟨⟨c1, dd, dt, sl⟩, ho, hc, n, hd⟩ := la
  obtain ⟨⟨c2, dd2, dt2, sl2⟩, ho2, hc2, n2, hd2⟩ := lb
  simp only at hc hd hc2 hd2
  subst hc hd hc2 hd2
  wp_walk using wpAny_loadPart' ho, wpAny_loadPart' ho2
  refine ⟨plainId_quiet plain_eq_loop _, codeAny_builtin entry_eq_loop ?_⟩
  rw [Around.under_plainId plain_eq_loop _]
  exact nx
theorem rcOwn_ne {P : Program} {w : World} {A : Around} {s : Shared} {Ex : Value → Shared → Prop} {a b : Addr} {xs ys : Array Value} {Q : Value → Shared → Prop} (Iv : Shared → Prop) (iv : Iv s) (hl : ∀ s, Iv s → s.heap.IsList a xs ∧ s.heap.IsList b ys) (hz : xs.size = ys.size) (hu : A.units < cLine)
    (he : ∀ j (h1 : j < xs.size) (h2 : j < ys.size) s, Iv s → wpAny (model P w) A.in1 (eqBool xs[j] ys[j]) (fun t s' => t = true ∧ Iv s') Ex s) (q : ∀ s, Iv s → Q (.bool false) s) : wpAny (model P w) A (richCompare .NotEq (.ref a) (.ref b)) Q Ex s := by
  obtain ⟨la, lb⟩ := hl s iv
  obtain ⟨o1, ho, hc, n, hd⟩ := la
  obtain ⟨o2, ho2, hc2, n2, hd2⟩ := lb
  exact wpAny_richCompare_same_room (T := "list") (op := .NotEq) ⟨_, ho, hc⟩ ⟨_, ho2, hc2⟩ F.slot_list_ne (call_meetsIn F.slot_list_ne ⟨_, ho, hc⟩ F.entry_list_ne (F.args_list_ne_2 _ _) (ownNe Iv Ex a b xs ys hz) ⟨iv, hl, he, fun e s z => z, fun s y => ⟨(fun x => nomatch x), q s y⟩⟩) hu
/-! ### as a rule -/
def isOb (C : Nat) : D → Bool
  | .obj C' _ => C' == C
  | _ => false
def pairsEq (C : Nat) (F : List D → Mu → R D) : List D → List D → Bool
  | [], [] => true
  | x :: xs, y :: ys => isOb C x && (isOb C y && (D.closedL 0 [x, y] && (isTrue (F [x, y] []) && pairsEq C F xs ys)))
  | _, _ => false
def lstPairs (C : Nat) (F : List D → Mu → R D) : D → D → Mu → Bool
  | .lst xs, .lst ys, _ => pairsEq C F xs ys
  | _, _, _ => false
def neL (C : Nat) (F : List D → Mu → R D) : D → D → Mu → R D := fun x y μ => if lstPairs C F x y μ = true then .ok (.bl false) μ else .bad
def neM (C : Nat) (F : List D → Mu → R D) : D → D → Mu → R D := fun x y μ => if lstPairs C F x y μ = true then neL C F x y μ else dNeM x y μ
def neLX (C : Nat) (F : List D → Mu → R D) : D → D → Mu → R D := fun x y μ => if lstPairs C F x y μ = true then neL C F x y μ else dNeX x y μ
theorem refs_of {K : PySem.W.Frag} {W : Wd} {C : Nat} : ∀ {vs : List V} {ds : List D}, Reps K W vs ds → (∀ d ∈ ds, isOb C d = true) → ∃ as : List Addr, vs = as.map V.ref
  | _, _, .nil, _ => ⟨[], rfl⟩
  | _, _, .cons (d := d) r rs, h => by
    obtain ⟨as, e⟩ := refs_of rs fun d hd => h d (List.mem_cons_of_mem _ hd)
    have hd := h d (List.mem_cons_self ..)
    unfold isOb at hd
    split at hd
    · cases r with
      | obj h1 h2 h3 => exact ⟨_ :: as, by rw [e]; rfl⟩
    · cases hd
theorem vals_refs : ∀ {as : List Addr} {its : List Value}, Vals (as.map V.ref) its → its = as.map Value.ref
  | [], _, h => by cases h; rfl
  | a :: as, _, h => by
    cases h with
    | cons r rs =>
      cases r
      rw [vals_refs rs]
      rfl
theorem pairs_all {C : Nat} {F : List D → Mu → R D} : ∀ {xs ys : List D}, pairsEq C F xs ys = true → xs.length = ys.length ∧ (∀ d ∈ xs, isOb C d = true) ∧ (∀ d ∈ ys, isOb C d = true) ∧ ∀ (j : Nat) x y, xs[j]? = some x → ys[j]? = some y → isOb C x = true ∧ isOb C y = true ∧ D.closedL 0 [x, y] = true ∧ isTrue (F [x, y] []) = true
  | [], [], _ => ⟨rfl, (fun d h => nomatch h), (fun d h => nomatch h), fun j x y h => by simp at h⟩
  | x :: xs, y :: ys, h => by
    unfold pairsEq at h
    simp only [Bool.and_eq_true] at h
    obtain ⟨h1, h2, h3, h4, h5⟩ := h
    obtain ⟨i1, i2, i3, i4⟩ := pairs_all h5
    refine ⟨by simp [i1], fun d hd => ?_, fun d hd => ?_, fun j a b ha hb => ?_⟩
    · rcases List.mem_cons.mp hd with e | e
      · rw [e]; exact h1
      · exact i2 d e
    · rcases List.mem_cons.mp hd with e | e
      · rw [e]; exact h2
      · exact i3 d e
    · cases j with
      | zero =>
        simp at ha hb
        subst ha hb
        exact ⟨h1, h2, h3, h4⟩
      | succ j => exact i4 j a b (by simpa using ha) (by simpa using hb)
  | [], _ :: _, h => by simp [pairsEq] at h
  | _ :: _, [], h => by simp [pairsEq] at h
/-- says a truth over any cells, if over none -/
def SaysOn (F : List D → Mu → R D) : Prop := ∀ ds μ, D.closedL 0 ds = true → isTrue (F ds []) = true → F ds μ = .ok (.bl true) μ
theorem isTrue_is {r : R D} (h : isTrue r = true) : ∃ μ, r = .ok (.bl true) μ := by
  unfold isTrue at h
  split at h
  · rw [h]
    exact ⟨_, rfl⟩
  · cases h
theorem says_framed (F : List D → Mu → R D) : SaysOn (framed F) := fun ds μ hc h => by
  obtain ⟨μ0, q⟩ := isTrue_is h
  have h0 : ∃ μ1, F ds [] = .ok (.bl true) μ1 := by
    unfold framed at q
    rw [if_pos hc] at q
    cases e : F ds [] with
    | ok d μ1 =>
      rw [e] at q
      dsimp only at q
      split at q
      · cases q
        exact ⟨_, rfl⟩
      · cases q
        exact ⟨_, rfl⟩
    | ex c fs μ1 =>
      rw [e] at q
      dsimp only at q
      split at q <;> cases q
    | bad =>
      rw [e] at q
      cases q
  obtain ⟨μ1, e⟩ := h0
  exact framed_ok hc e rfl
section
variable {X : Cx} {E : WX} {k C : Nat} {f : Addr} {fd : FuncData} {ps : List Str} {F : List D → Mu → R D} {ts : List Ty} {pins : List (Addr × Obj)} {σ : L2.St}
theorem own_item {A : Around} {a b : Addr} {x y : D} {H : Hp} {W : Wd} {μ : Mu} {s : Shared} (rm : Room k A) (hg : A.guards = some []) (hA : Env0 X.prog X.w X.K X.mg X.base A X.stack s H) (G : FnG X.prog X.w X.K X.mg X.base k f fd ps F) (bd : Dfl X.K fd ps 2 [])
    (hs : PySem.W.findIn X.K (.ref (cl X.K C)) "__eq__" = some (some (.ref f))) (hf : PySem.W.isFn X.K (.ref f) = true) (hts : ∀ t ∈ ts, PySem.W.notFirst X.K (cl X.K C) (t.val X.K) = true) (hC : Ty.own C ∈ ts) (hF : SaysOn F)
    (I : Inv X pins σ H s) (ok : Ok X.K W H μ) (ra : Rep X.K W (.ref a) x) (rb : Rep X.K W (.ref b) y) (ox : isOb C x = true) (oy : isOb C y = true) (hc : D.closedL 0 [x, y] = true) (ht : isTrue (F [x, y] []) = true) :
    wpAny (model X.prog X.w) A (eqBool (.ref a) (.ref b)) (fun t s' => t = true ∧ ∃ H2 W2, Inv X pins σ H2 s' ∧ Go W H W2 H2 ∧ Ok X.K W2 H2 μ) X.xe s := by
  unfold eqBool
  refine wpAny_holding ?_
  refine wpAny_ite_split (fun _ => ?_) (fun _ => ?_)
  · refine wpAny_bind (wpAny_rule (wpAny_pure ?_))
    exact ⟨rfl, H, W, I, Go.refl _ _, ok⟩
  have ix : ∃ fs, insD μ x = some (C, fs) := by
    unfold isOb at ox
    split at ox
    · rw [beq_iff_eq.mp ox]
      exact ⟨_, rfl⟩
    · cases ox
  have iy : tyW μ y = some (.own C) := by
    unfold isOb at oy
    split at oy
    · rw [beq_iff_eq.mp oy]
      rfl
    · cases oy
  obtain ⟨fs, ix⟩ := ix
  have lk := looks_ty (u := .ref b) I ok rb rfl iy
  obtain ⟨a', dd, ns, vs, ds, ea, ha, _, _⟩ := ins_rep ok ra ix
  cases ea
  obtain ⟨od, J⟩ := ins_inst I ha
  obtain ⟨m, hFr⟩ := I.fr
  refine wpAny_bind ?_
  refine PySem.W.cmp_K (op := .Eq) (tb := (Ty.own C).val X.K) rm.units0 hFr I.ok.mod.kin J lk (hts _ hC) hs hf ?_
  refine wpAny_mono (callF_at (us := [.ref a, .ref b]) (vs := [.ref a, .ref b]) (n := 2) (ds := [x, y]) (W := W) (μ := μ) (Q := fun z H2 => z = .bl true ∧ ∃ W2, Go W H W2 H2 ∧ Ok X.K W2 H2 μ) rm hg hA G pass0 bd I rfl (.cons rfl (.cons rfl .nil)) ok (.cons ra (.cons rb .nil)) ?_) (fun w s2 z => ?_) fun _ _ e => e
  · rw [List.append_nil, hF _ _ hc ht]
    intro W2 v2 H2 g2 o2 r2
    cases r2
    exact ⟨rfl, W2, g2, o2⟩
  · obtain ⟨z', H2, I2, rz, rfl, W2, g2, o2⟩ := z
    cases rz
    exact wpAny_truthy_bool ⟨rfl, H2, W2, I2, g2, o2⟩
theorem opx_neL (G : FnG X.prog X.w X.K X.mg X.base k f fd ps F) (c : Cal X E (k + 1)) (bd : Dfl X.K fd ps 2 [])
    (hs : PySem.W.findIn X.K (.ref (cl X.K C)) "__eq__" = some (some (.ref f))) (hf : PySem.W.isFn X.K (.ref f) = true) (hts : ∀ t ∈ ts, PySem.W.notFirst X.K (cl X.K C) (t.val X.K) = true) (hC : Ty.own C ∈ ts) (hF : SaysOn F) : OpX X E (compareOp .NotEq) (neL C F) := by
  intro pins s σ H x y v u Q I rx ry q
  obtain ⟨E', W, μ, dx, dy, ok, r1, r2, p⟩ := q
  unfold neL at p
  split at p
  · rename_i hp
    unfold lstPairs at hp
    split at hp
    · rename_i _ xs ys
      obtain ⟨le, o1, o2, each⟩ := pairs_all hp
      cases r1 with
      | @lst a vs _ z1 h1 q1 =>
        cases r2 with
        | @lst b us _ z2 h2 q2 =>
          cases rx
          cases ry
          obtain ⟨as, rfl⟩ := refs_of q1 o1
          obtain ⟨bs, rfl⟩ := refs_of q2 o2
          have l1 : as.length = xs.length := by simpa using q1.length
          have l2 : bs.length = ys.length := by simpa using q2.length
          show wpAny _ _ (richCompare .NotEq (.ref a) (.ref b)) _ _ _
          refine rcOwn_ne (xs := (as.map Value.ref).toArray) (ys := (bs.map Value.ref).toArray) (fun s' => ∃ H' W', Inv X pins σ H' s' ∧ Go W H W' H' ∧ Ok X.K W' H' μ) ⟨H, W, I, Go.refl _ _, ok⟩ ?_ (by simp [l1, l2, le]) c.room.units0 ?_ ?_
          · rintro s' ⟨H', W', I', g', ok'⟩
            obtain ⟨its, v1, ht, _⟩ := I'.list (same_lq ok'.sub (same_lq g'.le.s h1)).sq
            obtain ⟨its', v2, ht', _⟩ := I'.list (same_lq ok'.sub (same_lq g'.le.s h2)).sq
            rw [vals_refs v1] at ht
            rw [vals_refs v2] at ht'
            exact ⟨ht.isList, ht'.isList⟩
          · rintro j j1 j2 s' ⟨H', W', I', g', ok'⟩
            have n1 : j < as.length := by simpa using j1
            have n2 : j < bs.length := by simpa using j2
            have n3 : j < xs.length := by omega
            have n4 : j < ys.length := by omega
            obtain ⟨e1, e2, e3, e4⟩ := each j xs[j] ys[j] (List.getElem?_eq_getElem n3) (List.getElem?_eq_getElem n4)
            obtain ⟨w1, hw1, rr1⟩ := (q1.mono g'.le).get (List.getElem?_eq_getElem n3)
            obtain ⟨w2, hw2, rr2⟩ := (q2.mono g'.le).get (List.getElem?_eq_getElem n4)
            simp [n1] at hw1
            simp [n2] at hw2
            subst hw1 hw2
            simp only [List.getElem_toArray, List.getElem_map]
            refine wpAny_mono (own_item (Room.in1 c.room) c.guards I'.env0.in1 G bd hs hf hts hC hF I' ok' rr1 rr2 e1 e2 e3 e4) (fun t s2 z => ?_) fun _ _ e => e
            obtain ⟨et, H2, W2, I2, g2, o2⟩ := z
            exact ⟨et, H2, W2, I2, g'.trans g2, o2⟩
          · rintro s' ⟨H', W', I', g', ok'⟩
            exact ⟨.bl false, H', I', rfl, p W' _ H' g' ok' (.bl _)⟩
    · cases hp
  · exact p.elim
end
end DL
/-! DL65: enumerate over a text. -/
namespace DL
open PySem L2 PySem.Spec PyProof.Rows
/-- signs with their places, each pair new -/
def Ites (x : Str) : It :=
  ⟨fun i _ => i < x.cps.size, fun i H v H' => ∃ T c, v = .ref T ∧ H T = none ∧ H' = upd H T (.tup [.int (i : Nat), .str ⟨#[c]⟩]) ∧ x.cps[i]? = some c, fun i _ => x.cps.size ≤ i⟩
theorem turn_enumS {P : Program} {w : World} {K : PySem.W.Frag} {elts : List Expr} {kk : Nat} {tpos : Pos} (x : Str) (t : Tok) (e it : Addr) :
    Turn P w K (.Tuple elts kk tpos) (Ites x) [e, it] e (fun i h => i ≤ x.cps.size ∧ (∃ old, IsEnum h e it ((i : Nat) : Int) old) ∧ h.IsStrIter it (strIterType x) x t i ∧ e ≠ it) where
  mem := by simp
  obj := fun i h st b hb => by
    obtain ⟨_, ⟨old, he⟩, ⟨o, ho, hc, hd⟩, _⟩ := st
    have q : b = e ∨ b = it := by simpa using hb
    rcases q with z | z
    · rw [z]
      exact ⟨_, he, fun v q => nomatch q⟩
    · rw [z]
      exact ⟨o, ho, fun v q => by rw [hd] at q; cases q⟩
  keep := fun i h h' st k => by
    obtain ⟨hi, ⟨old, he⟩, ⟨o, ho, r⟩, hne⟩ := st
    exact ⟨hi, ⟨old, k e (by simp) _ he⟩, ⟨o, k it (by simp) o ho, r⟩, hne⟩
  item := by
    intro X hP hw hK hc i pins s σ H E I hf st hg
    subst hP hw hK
    obtain ⟨hi, ⟨old, he⟩, hit, hne⟩ := st
    have lt : i < x.cps.size := hg
    have hel : e < s.heap.objs.size := Heap.lt_size he
    have hil : it < s.heap.objs.size := by
      obtain ⟨_, q, _⟩ := hit
      exact Heap.lt_size q
    refine wpAny_pyNext_enum_itemD (Draws.text (A := X.A.in1) (I.ok.hd hc) it x t) he hit lt hne (by simpa using hne) fun u h' tk hu ho hit' hT hsz hk => ?_
    obtain ⟨c, tu, hcx, rfl⟩ := hu
    refine ⟨_, rfl, wpAny_letOwnedTupleGo_enum (s := { s with heap := h', toks := tk + 1 }) ho fun h'' he' sb => ?_⟩
    have hT2 : h''.get? s.heap.objs.size = some { cls := .type "tuple", data := .seq #[.int i tk, .str ⟨#[c]⟩ tu] } := (sb.2 _ (Nat.ne_of_gt hel)).trans hT
    have new : ObjOk X.prog X.w (upd H s.heap.objs.size (.tup [.int (i : Nat), .str ⟨#[c]⟩])) h'' s.heap.objs.size (.tup [.int (i : Nat), .str ⟨#[c]⟩]) :=
      ⟨by show 2 ≤ sizeLine; decide, [.int i tk, .str ⟨#[c]⟩ tu], .cons ⟨_, rfl⟩ (.cons ⟨_, rfl⟩ .nil), ⟨_, hT2, rfl, _, rfl⟩⟩
    have I1 : Inv X pins σ (upd H s.heap.objs.size (.tup [.int (i : Nat), .str ⟨#[c]⟩])) { s with heap := h'', toks := tk + 1 } :=
      I.turnedNew (ch := [e, it]) (fun b ob hb q => (sb.2 b (fun z => hb (by simp [z]))).trans (hk b ob (fun z => hb (by simp [z])) (fun z => hb (by simp [z])) q)) hf (Nat.le_refl _) new
    refine ⟨.ref s.heap.objs.size, _, I1, rfl, ⟨_, c, rfl, I.hok.fresh (Nat.le_refl _), rfl, hcx⟩, ⟨lt, ⟨.str ⟨#[c]⟩ tu, ?_⟩, ?_, hne⟩, fun b hb => ?_⟩
    · have e1 : ((i + 1 : Nat) : Int) = (i : Int) + 1 := by omega
      rw [e1]
      exact he'
    · obtain ⟨o, ho2, r⟩ := hit'
      exact ⟨o, (sb.2 it (Ne.symm hne)).trans ho2, r⟩
    · have hb' : b < s.heap.objs.size := by
        have q : b = e ∨ b = it := by simpa using hb
        rcases q with z | z
        · rw [z]; exact hel
        · rw [z]; exact hil
      rw [upd_ne (Nat.ne_of_lt hb')]
      exact (hf b hb).1
  done := by
    intro X hP hw hK hc i pins s σ H E I hf st hg
    subst hP hw hK
    obtain ⟨hi, ⟨old, he⟩, hit, hne⟩ := st
    have ge : x.cps.size ≤ i := hg
    have ei : i = x.cps.size := Nat.le_antisymm hi ge
    subst ei
    obtain ⟨f0, f1, f2, f3, f4, f5⟩ := hf it (by simp)
    exact wpAny_pyNext_enum_endD (Draws.text (A := X.A.in1) (I.ok.hd hc) it x t) he hit fun h' eb => ⟨rfl, I.turned (t' := s.toks) (fun b o hb q => eb b o hb q) f0 f1 f3 f4 f5⟩
  self := fun A i s Q E st h => let ⟨_, ⟨_, he⟩, _⟩ := st; wpAny_pyIter_enum he h
def iEnumS (ta : TA) : TI := fun σ H R => ta σ H fun vs H1 => ∃ x, vs = [.str x] ∧ R (Ites x) H1
theorem pi_enumS {X : Cx} {e : Expr} {ta : TA} {p pos tpos : Pos} {elts : List Expr} {kk : Nat} (hg : Gl X "enumerate") (hm : X.mg "enumerate" = none) (ha : PA X [e] ta) (hs : starEach [e] X.env = [(false, eval e X.env)] := by rfl) :
    PI X (.Tuple elts kk tpos) (.Call (.Name "enumerate" p) [e] [] pos) (iEnumS ta) := by
  refine ⟨fun pins s σ H R I h => ?_⟩
  refine Call_ (ld_blt I hg hm boot_enumerate (PyProof.Rows.callWith_type1 (thn (ha.run pos pins s σ H _ I h) fun us s1 ⟨vs, H1, I1, r1, q1⟩ => ?_) hs rfl))
  obtain ⟨x, ex, q⟩ := q1
  subst ex
  obtain ⟨u, rfl, t, rfl⟩ := r1.one
  refine call_enumerate_str fun h' he hit hsz hk => wpAny_pyIter_enum he ?_
  have I2 : Inv X pins σ H1 { s1 with heap := h' } := I1.kept (t' := s1.toks) hk
  refine ⟨s1.heap.objs.size + 1, [s1.heap.objs.size + 1, s1.heap.objs.size], _, _, H1, rfl, I2, turn_enumS x t (s1.heap.objs.size + 1) s1.heap.objs.size, ⟨Nat.zero_le _, ⟨.none, he⟩, hit, Nat.succ_ne_self _⟩, fun b hb => ?_, q⟩
  have e' : b = s1.heap.objs.size + 1 ∨ b = s1.heap.objs.size := by simpa using hb
  have hle : s1.heap.objs.size ≤ b := by
    rcases e' with z | z
    · rw [z]; exact Nat.le_add_right _ _
    · rw [z]; exact Nat.le_refl _
  exact I1.fpOk hle (I1.hok.fresh hle)
theorem walk_enumS {K : PySem.W.Frag} {W : Wd} (x : Str) (z : x.length ≤ sizeLine) : Walk K W (Ites x) (enumD 0 (signs x)) := by
  have hz : (signs x).length = x.cps.size := by simp [signs]
  refine ⟨by rw [enumD_len, hz]; exact z, fun H i s hi => by rw [enumD_len, hz] at hi; exact hi, fun H i s hi => by rw [enumD_len, hz] at hi; exact hi, fun H i v H' s y d e W1 μ l1 ok => ?_⟩
  obtain ⟨T, c, rfl, hT, rfl, hc⟩ := y
  have e2 : (signs x)[i]? = some (.str ⟨#[c]⟩) := by
    unfold signs
    rw [List.getElem?_map, Array.getElem?_toList, hc]
    rfl
  rw [enumD_get 0 (signs x) i _ e2] at e
  cases e
  refine ⟨W1.new T (.tup [.int i, .str ⟨#[c]⟩]), Go.new ok hT, ok.new hT, rep_tup ok hT (by show 2 ≤ sizeLine; decide) (.cons ?_ (.cons (.str _ (by show 1 ≤ sizeLine; decide)) .nil))⟩
  have : (0 : Int) + i = i := by omega
  rw [this]
  exact .int _
def itES (f : FA) : FA := fun ρ μ => (f ρ μ).bind fun ds μ1 => match ds with
  | [.lst xs] => .ok (enumD 0 xs) μ1
  | [.str x] => .ok (enumD 0 (signs x)) μ1
  | _ => .bad
theorem di_enumS {X : Cx} {E : WX} {e : Expr} {pos p : Pos} {fa : FA} {tpos : Pos} {elts : List Expr} {kk : Nat} (hm : X.mg "enumerate" = none) (ha : DA X E [e] fa) (hg : Gl X "enumerate" := by rfl) (hs : starEach [e] X.env = [(false, eval e X.env)] := by rfl) : DI X E (.Tuple elts kk tpos) (.Call (.Name "enumerate" p) [e] [] pos) (itES fa) := by
  refine pi_imp (pi_or (pi_enum hg hm ha hs) (pi_enumS hg hm ha hs)) fun σ H Q ⟨W, ρ, μ, ok, en, p⟩ => ?_
  unfold itES at p
  have both : ∀ (T : List V → Hp → Prop), (∀ ds μ1, fa ρ μ = .ok ds μ1 → ∀ W1 vs H1, Go W H W1 H1 → Ok X.K W1 H1 μ1 → Reps X.K W1 vs ds → T vs H1) → rA X.K E fa σ H T := fun T hT => by
    refine ⟨W, ρ, μ, ok, en, ?_⟩
    revert p
    cases e1 : fa ρ μ with
    | ok ds μ1 => exact fun _ W1 vs H1 g o r => hT ds μ1 e1 W1 vs H1 g o r
    | ex c fs μ1 => exact fun p => p
    | bad => exact fun p => p.elim
  cases e1 : fa ρ μ with
  | bad =>
    rw [e1] at p
    exact p.elim
  | ex c fs μ1 => exact .inl (both _ fun ds μ2 e2 => by rw [e1] at e2; cases e2)
  | ok ds μ1 =>
    rw [e1, R.bind_ok] at p
    match ds, p, e1 with
    | [.lst xs], p, e1 =>
      refine .inl (both _ fun ds μ2 e2 W1 vs H1 g o r => ?_)
      rw [e1] at e2
      cases e2
      cases r with
      | cons r rr =>
        cases rr
        cases r with
        | lst z h r => exact ⟨_, _, rfl, (same_lq o.sub h).sq, p W1 _ H1 g o (walk_enum z h.sq r)⟩
    | [.str x], p, e1 =>
      refine .inr (both _ fun ds μ2 e2 W1 vs H1 g o r => ?_)
      rw [e1] at e2
      cases e2
      cases r with
      | cons r rr =>
        cases rr
        cases r with
        | str _ z => exact ⟨_, rfl, p W1 _ H1 g o (walk_enumS x z)⟩
end DL
/-! DL66: a changed list != []. -/
namespace DL
open PySem L2 PySem.Spec PyProof.Rows
open PySem.SeqAt
def lstAt (μ : Mu) : D → Option (List D)
  | .hdl l => match μ[l]? with
    | some (.lst xs) => some xs
    | _ => none
  | _ => none
def neNil : D → D → Mu → R D := fun x y μ => match lstAt μ x, y with
  | some xs, .lst [] => .ok (.bl (!xs.isEmpty)) μ
  | _, _ => .bad
def dNeC : D → D → Mu → R D := fun x y μ => if (lstAt μ x).isSome = true then neNil x y μ else dNeM x y μ
section
variable {X : Cx} {E : WX}
theorem opx_neNil (hu : X.A.units + 64 < cLine) : OpX X E (compareOp .NotEq) neNil := by
  intro pins s σ H x y v u Q I rx ry q
  obtain ⟨E', W, μ, dx, dy, ok, r1, r2, p⟩ := q
  unfold neNil at p
  split at p
  · rename_i xs e1
    unfold lstAt at e1
    split at e1
    · rename_i l
      split at e1
      · rename_i ys e2
        cases e1
        cases r1 with
        | @hdl a _ ha =>
          cases r2 with
          | @lst b us _ z2 h2 q2 =>
            cases q2
            cases rx
            cases ry
            obtain ⟨o, ho, vs, rfl, rs⟩ := ok.cell _ a _ ha e2
            obtain ⟨its, v1, ht, _⟩ := I.list (show SqL X.K H a vs from .inl (.inl ho))
            obtain ⟨its', v2, ht', _⟩ := I.list (same_lq ok.sub h2).sq
            have n2 : its' = [] := by cases v2; rfl
            subst n2
            have fin : EP X pins σ Q (.bool (!xs.isEmpty)) s := ⟨.bl (!xs.isEmpty), H, I, rfl, p W _ H (Go.refl _ _) ok (.bl _)⟩
            show wpAny _ _ (richCompare .NotEq (.ref a) (.ref b)) _ _ _
            have hl : its.length = xs.length := by rw [← v1.length, rs.length]
            cases xs with
            | nil =>
              refine rcNe_lists (f := fun _ => true) ht.isList ht'.isList ?_ (by omega) ?_ ?_
              · simpa using hl
              · intro j h1 h2
                simp at h2
              · simpa [hl] using fin
            | cons d ds =>
              refine rcNe_len ht.isList ht'.isList ?_ (by omega) (by simpa using fin)
              have : its ≠ [] := fun e => by rw [e] at hl; simp at hl
              simpa using this
      · cases e1
    · cases e1
  · exact p.elim
theorem opx_neC (hu : X.A.units + 64 < cLine) : OpX X E (compareOp .NotEq) dNeC := opx_if (fun x _ μ => (lstAt μ x).isSome) (opx_neNil hu) (opx_neM hu)
end
end DL
/-! DL67: comprehensions over two sources. -/
namespace DL
open PySem L2 PySem.Spec PyProof.Rows
def lc2D (t : Tg) (ft : FT) (fj : FA) (ws : List Nat) (u : Tg) (fu : FT) (fe : FE) (ρ : En) : List D → Mu → List D → R (List D)
  | [], μ, ds => .ok ds μ
  | x :: xs, μ, ds => match asg t x ρ with
    | none => .bad
    | some ρ1 => (ft ρ1 μ).nox.bind fun b μ1 => if b = true then (fj ρ1 μ1).nox.bind fun zs μ2 => if ds.length + zs.length ≤ 1000000 then (lcD u fu fe (wipeD ρ1 ws) zs μ2).bind fun ys μ3 => lc2D t ft fj ws u fu fe ρ xs μ3 (ds ++ ys) else .bad else lc2D t ft fj ws u fu fe ρ xs μ1 ds
def dlc2 (fi : FA) (vs : List Nat) (t : Tg) (ft : FT) (fj : FA) (ws : List Nat) (u : Tg) (fu : FT) (fe : FE) : FE := fun ρ μ => (fi ρ μ).bind fun xs μ1 => (lc2D t ft fj ws u fu fe (wipeD ρ vs) xs μ1 []).bind fun ys μ2 => .ok (.lst ys) μ2
section
variable {X : Cx} {E : WX} {pos : Pos}
theorem tLc2_of {fi fj : FA} {vs ws : List Nat} {t u : Tg} {ft fu : FT} {fe : FE} (hsub : ∀ i ∈ t.slots, i ∈ vs) (hsub1 : ∀ i ∈ u.slots, i ∈ ws) : ∀ σ H Q, rE X.K E (dlc2 fi vs t ft fj ws u fu fe) σ H Q → tLc2 (rI X.K E fi) (rG X.K t) (rT X.K E0 ft) (rI X.K E0 fj) (rG X.K u) (rT X.K E0 fu) (rE X.K E0 fe) vs ws σ H Q := fun σ H Q ⟨W, ρ, μ, ok, en, p⟩ => by
  refine ⟨W, ρ, μ, ok, en, ?_⟩
  unfold dlc2 at p
  revert p
  cases fi ρ μ with
  | ex c fs μ1 => exact fun p => p
  | bad => exact fun p => p
  | ok xs μ1 =>
    rw [R.bind_ok]
    intro p W1 J H1 g1 o1 wk Dn hD
    have hz := wk.len
    have en1 := (en.mono g1.le).wipe vs
    refine ⟨fun i m H2 => m = xs.length - i ∧ i ≤ xs.length ∧ ∃ W2 μ2 acc ds, Go W1 H1 W2 H2 ∧ Ok X.K W2 H2 μ2 ∧ H2 Dn = some (.lst acc) ∧ Dn ∉ W2.io ∧ W2.S Dn = none ∧ Reps X.K W2 acc ds ∧ acc.length ≤ 1000000 ∧ postE X.K (WE E σ) W1 H1 ((lc2D t ft fj ws u fu fe (wipeD ρ vs) (xs.drop i) μ2 ds).bind fun ys μ3 => .ok (.lst ys) μ3) Q,
      ⟨xs.length, by simp, Nat.zero_le _, W1, μ1, [], [], (Go.refl _ _).other hD, o1.other (o1.snone hD) (o1.notio hD) (.inl hD), upd_same, o1.notio hD, o1.snone hD, .nil, by simp, ?_⟩, ?_⟩
    · exact post.mono g1 p
    rintro i m H2 ⟨rfl, hi, W2, μ2, acc, ds, g2, o2, hacc, n2, s2, r2, l2, p2⟩
    have sm : Same W1.S H2 := g2.le.s.trans o2.sub
    by_cases hlt : i < xs.length
    · rw [List.drop_eq_getElem_cons hlt] at p2
      unfold lc2D at p2
      refine .inr ⟨wk.go H2 i sm hlt, fun H3 => ∃ W3 μ3 acc ds, Go W1 H1 W3 H3 ∧ Ok X.K W3 H3 μ3 ∧ H3 Dn = some (.lst acc) ∧ Dn ∉ W3.io ∧ W3.S Dn = none ∧ Reps X.K W3 acc ds ∧ acc.length ≤ 1000000 ∧ postE X.K (WE E σ) W1 H1 ((lc2D t ft fj ws u fu fe (wipeD ρ vs) (xs.drop (i + 1)) μ3 ds).bind fun ys μ3 => .ok (.lst ys) μ3) Q,
        fun H3 ⟨W3, μ3, acc, ds, q⟩ => ⟨xs.length - (i + 1), by omega, rfl, hlt, W3, μ3, acc, ds, q⟩, fun x H3 y => ?_⟩
      obtain ⟨W3, g3, o3, r3⟩ := wk.yld H2 i x H3 sm y xs[i] (List.getElem?_eq_getElem hlt) W2 μ2 g2.le o2
      obtain ⟨a3, s3, n3⟩ := g3.out hacc s2 n2
      revert p2
      cases e : asg t xs[i] (wipeD ρ vs) with
      | none => exact fun p => p.elim
      | some ρ3 =>
        dsimp only
        intro p2
        refine ⟨W3, wipeD ρ vs, ρ3, xs[i], μ2, o3, en1.mono (g2.le.trans g3.le), r3, e, fun σ4 en4 b4 => ⟨wipe_but hsub b4, ?_⟩⟩
        refine ⟨W3, ρ3, μ2, o3, en4, ?_⟩
        revert p2
        cases ft ρ3 μ2 with
        | ex c fs μ4 => exact fun p => p.elim
        | bad => exact fun p => p.elim
        | ok b μ4 =>
          rw [R.nox_ok, R.bind_ok]
          intro p2 W4 H4 g4 o4
          obtain ⟨a4, s4, n4⟩ := g4.out a3 s3 n3
          cases b with
          | false =>
            rw [if_neg Bool.false_ne_true] at p2 ⊢
            exact ⟨W4, μ4, acc, ds, (g2.trans g3).trans g4, o4, a4, n4, s4, r2.mono (g3.le.trans g4.le), l2, p2⟩
          | true =>
            rw [if_pos rfl] at p2 ⊢
            refine ⟨W4, ρ3, μ4, o4, en4.mono g4.le, ?_⟩
            revert p2
            cases fj ρ3 μ4 with
            | ex c fs μ5 => exact fun p => p.elim
            | bad => exact fun p => p.elim
            | ok zs μ5 =>
              rw [R.nox_ok, R.bind_ok]
              intro p2 W5 J1 H5 g5 o5 wk1
              obtain ⟨a5, s5, n5⟩ := g5.out a4 s4 n4
              by_cases hb : ds.length + zs.length ≤ 1000000
              case neg => rw [if_neg hb] at p2; exact p2.elim
              rw [if_pos hb] at p2
              have gA : Go W1 H1 W5 H5 := ((g2.trans g3).trans g4).trans g5
              have lA : acc.length = ds.length := r2.length
              have en5 := (en4.mono (g4.le.trans g5.le)).wipe ws
              refine ⟨fun j k H6 => k = zs.length - j ∧ j ≤ zs.length ∧ ∃ W6 μ6 acc6 ds6, Go W1 H1 W6 H6 ∧ Le W5 W6 ∧ Ok X.K W6 H6 μ6 ∧ H6 Dn = some (.lst acc6) ∧ Dn ∉ W6.io ∧ W6.S Dn = none ∧ Reps X.K W6 acc6 ds6 ∧ acc6.length ≤ acc.length + j ∧ postE X.K (WE E σ) W1 H1 (((lcD u fu fe (wipeD ρ3 ws) (zs.drop j) μ6).bind fun ys μ3 => lc2D t ft fj ws u fu fe (wipeD ρ vs) (xs.drop (i + 1)) μ3 (ds6 ++ ys)).bind fun ys μ3 => .ok (.lst ys) μ3) Q,
                ⟨zs.length, by simp, Nat.zero_le _, W5, μ5, acc, ds, gA, Le.refl _, o5, a5, n5, s5, r2.mono ((g3.le.trans g4.le).trans g5.le), by omega, p2⟩, ?_⟩
              rintro j k H6 ⟨rfl, hj, W6, μ6, acc6, ds6, g6, le6, o6, a6, n6, s6, r6, l6, p6⟩
              have sm6 : Same W5.S H6 := le6.s.trans o6.sub
              by_cases hjt : j < zs.length
              · rw [List.drop_eq_getElem_cons hjt] at p6
                unfold lcD at p6
                refine .inr ⟨wk1.go H6 j sm6 hjt, fun H7 => ∃ W7 μ7 acc7 ds7, Go W1 H1 W7 H7 ∧ Le W5 W7 ∧ Ok X.K W7 H7 μ7 ∧ H7 Dn = some (.lst acc7) ∧ Dn ∉ W7.io ∧ W7.S Dn = none ∧ Reps X.K W7 acc7 ds7 ∧ acc7.length ≤ acc.length + (j + 1) ∧ postE X.K (WE E σ) W1 H1 (((lcD u fu fe (wipeD ρ3 ws) (zs.drop (j + 1)) μ7).bind fun ys μ3 => lc2D t ft fj ws u fu fe (wipeD ρ vs) (xs.drop (i + 1)) μ3 (ds7 ++ ys)).bind fun ys μ3 => .ok (.lst ys) μ3) Q,
                  fun H7 ⟨W7, μ7, acc7, ds7, q⟩ => ⟨zs.length - (j + 1), by omega, rfl, hjt, W7, μ7, acc7, ds7, q⟩, fun x7 H7 y7 => ?_⟩
                obtain ⟨W7, g7, o7, r7⟩ := wk1.yld H6 j x7 H7 sm6 y7 zs[j] (List.getElem?_eq_getElem hjt) W6 μ6 le6 o6
                obtain ⟨a7, s7, n7⟩ := g7.out a6 s6 n6
                revert p6
                cases e7 : asg u zs[j] (wipeD ρ3 ws) with
                | none => exact fun p => p.elim
                | some ρ7 =>
                  dsimp only
                  intro p6
                  refine ⟨W7, wipeD ρ3 ws, ρ7, zs[j], μ6, o7, en5.mono (le6.trans g7.le), r7, e7, fun σ8 en8 b8 => ⟨wipe_but hsub1 b8, ?_⟩⟩
                  refine ⟨W7, ρ7, μ6, o7, en8, ?_⟩
                  revert p6
                  cases fu ρ7 μ6 with
                  | ex c fs μ4 => exact fun p => p.elim
                  | bad => exact fun p => p.elim
                  | ok b8' μ8 =>
                    rw [R.nox_ok, R.bind_ok]
                    intro p6 W8 H8 g8 o8
                    obtain ⟨a8, s8, n8⟩ := g8.out a7 s7 n7
                    cases b8' with
                    | false =>
                      rw [if_neg Bool.false_ne_true] at p6 ⊢
                      exact ⟨W8, μ8, acc6, ds6, (g6.trans g7).trans g8, (le6.trans g7.le).trans g8.le, o8, a8, n8, s8, r6.mono (g7.le.trans g8.le), by omega, p6⟩
                    | true =>
                      rw [if_pos rfl] at p6 ⊢
                      refine ⟨W8, ρ7, μ8, o8, en8.mono g8.le, ?_⟩
                      revert p6
                      cases fe ρ7 μ8 with
                      | ex c fs μ9 => exact fun p => p.elim
                      | bad => exact fun p => p.elim
                      | ok yd μ9 =>
                        rw [R.nox_ok, R.bind_ok]
                        intro p6 W9 yv H9 g9 o9 r9
                        obtain ⟨a9, s9, n9⟩ := g9.out a8 s8 n8
                        have hlen : acc6.length < sizeLine := by
                          have := le_line hb
                          omega
                        refine ⟨acc6, a9, hlen, W9, μ9, acc6 ++ [yv], ds6 ++ [yd], (((g6.trans g7).trans g8).trans g9).other hD, ((le6.trans g7.le).trans g8.le).trans g9.le, o9.other s9 n9 (.inr ⟨_, a9, (fun _ z => nomatch z), (fun _ z => nomatch z)⟩), upd_same, n9, s9, (r6.mono ((g7.le.trans g8.le).trans g9.le)).app (.cons r9 .nil), by simp; omega, ?_⟩
                        revert p6
                        cases lcD u fu fe (wipeD ρ3 ws) (zs.drop (j + 1)) μ9 with
                        | ex c fs μ6 => exact fun p => p
                        | bad => exact fun p => p
                        | ok ys μ6 =>
                          rw [R.bind_ok, R.bind_ok, R.bind_ok, List.append_assoc]
                          exact fun p => p
              · have ej : j = zs.length := by omega
                subst ej
                rw [List.drop_length] at p6
                unfold lcD at p6
                rw [R.bind_ok, List.append_nil] at p6
                refine .inl ⟨wk1.stop H6 _ sm6 (Nat.le_refl _), W6, μ6, acc6, ds6, g6, o6, a6, n6, s6, r6, by omega, p6⟩
    · have ei : i = xs.length := by omega
      subst ei
      rw [List.drop_length] at p2
      unfold lc2D at p2
      rw [R.bind_ok] at p2
      refine .inl ⟨wk.stop H2 _ sm (Nat.le_refl _), ?_⟩
      have lD : Le W2 (W2.new Dn (.lst acc)) := ⟨same_new s2, List.prefix_refl _⟩
      refine p2 (W2.new Dn (.lst acc)) (.ref Dn) H2 ⟨g2.le.trans lD, g2.kept, g2.grow, g2.newio, fun a u e => ?_⟩ ?_ ?_
      · by_cases z : a = Dn
        · rw [z]; exact .inr (.inl hD)
        · exact g2.newS a u (by rw [← e]; exact (upd_ne z).symm)
      · refine ⟨fun a u e => ?_, o2.len, o2.nd, fun l a m e1 e2 n => ?_, fun l a m e1 e2 => (o2.cell l a m e1 e2).mono lD fun u e => e, ⟨o2.tab.all, fun q hq => (upd_ne (o2.tab.ne hacc (fun _ z => nomatch z) q hq)).trans (o2.tab.no q hq)⟩⟩
        · by_cases z : a = Dn
          · have e : upd W2.S Dn (.lst acc) a = some u := e
            rw [z, upd_same] at e
            rw [z, hacc, e]
          · have e : upd W2.S Dn (.lst acc) a = some u := e
            rw [upd_ne z] at e
            exact o2.sub a u e
        · show upd W2.S Dn (.lst acc) a = none
          have z : a ≠ Dn := fun z => n2 (by rw [← z]; exact List.mem_of_getElem? e1)
          rw [upd_ne z]
          exact o2.apart l a m e1 e2 n
      · refine .lst ?_ (.inl (.inl (show upd W2.S Dn (.lst acc) Dn = _ from upd_same))) (r2.mono lD)
        rw [← r2.length]
        exact le_line l2
variable {elt tg iter tg1 iter1 : Expr} {ifs ifs1 : List Expr} {scope : Scope} {fi fj : FA} {t u : Tg} {ft fu : FT} {fe : FE}
theorem de_lc2 (own : List (Str × Nat)) (ws : List Nat) (hc : X.calm = true) (hN : X.N.Nodup) (hi : DI X E tg iter fi) (ok : BlkOk X.N X.env.scope scope own)
    (hg : ∀ (s : Shared) (H : Hp) (C : Addr) (cl : List (Str × Addr)) (fp : List Addr), DG (X.blk s H scope (compEnvC scope cl C X.env) fp) tg t) (ht : ∀ (s : Shared) (H : Hp) (C : Addr) (cl : List (Str × Addr)) (fp : List Addr), DTs (X.blk s H scope (compEnvC scope cl C X.env) fp) ifs ft)
    (hi1 : ∀ (s : Shared) (H : Hp) (C : Addr) (cl : List (Str × Addr)) (fp : List Addr), DI (X.blk s H scope (compEnvC scope cl C X.env) fp) E0 tg1 iter1 fj)
    (hg1 : ∀ (s : Shared) (H : Hp) (C : Addr) (cl : List (Str × Addr)) (fp : List Addr), DG (X.blk s H scope (compEnvC scope cl C X.env) fp) tg1 u) (ht1 : ∀ (s : Shared) (H : Hp) (C : Addr) (cl : List (Str × Addr)) (fp : List Addr), DTs (X.blk s H scope (compEnvC scope cl C X.env) fp) ifs1 fu)
    (he : ∀ (s : Shared) (H : Hp) (C : Addr) (cl : List (Str × Addr)) (fp : List Addr), DE (X.blk s H scope (compEnvC scope cl C X.env) fp) E0 elt fe) (hsub : ∀ i ∈ t.slots, i ∈ own.map (·.2) := by decide) (hsub1 : ∀ i ∈ u.slots, i ∈ ws := by decide) (hv : ∀ i ∈ ws, i ∈ own.map (·.2) := by decide)
    (hs : ∀ x, foldedSetIterable iter X.env x = pure x := by intro _; rfl) (hs1 : ∀ env x, foldedSetIterable iter1 env x = pure x := by intro _ _; rfl) :
    DE X E (.ListComp elt [⟨tg, iter, ifs, 0⟩, ⟨tg1, iter1, ifs1, 0⟩] scope pos) (dlc2 fi (own.map (·.2)) t ft fj ws u fu fe) :=
  pe_imp (pe_lc2 (te := rE X.K E0 fe) (g := rG X.K t) (tt := rT X.K E0 ft) (wi1 := rI X.K E0 fj) (g1 := rG X.K u) (tt1 := rT X.K E0 fu) hc hN hi ok hv hg ht hi1 hg1 ht1 he hs hs1) (tLc2_of hsub hsub1)
theorem ds_setLc2 (i : Nat) {y : Str} {py spos : Pos} (own : List (Str × Nat)) (ws : List Nat) (hc : X.calm = true) (hN : X.N.Nodup) (hi : DI X E tg iter fi) (ok : BlkOk X.N X.env.scope scope own)
    (hg : ∀ (s : Shared) (H : Hp) (C : Addr) (cl : List (Str × Addr)) (fp : List Addr), DG (X.blk s H scope (compEnvC scope cl C X.env) fp) tg t) (ht : ∀ (s : Shared) (H : Hp) (C : Addr) (cl : List (Str × Addr)) (fp : List Addr), DTs (X.blk s H scope (compEnvC scope cl C X.env) fp) ifs ft)
    (hi1 : ∀ (s : Shared) (H : Hp) (C : Addr) (cl : List (Str × Addr)) (fp : List Addr), DI (X.blk s H scope (compEnvC scope cl C X.env) fp) E0 tg1 iter1 fj)
    (hg1 : ∀ (s : Shared) (H : Hp) (C : Addr) (cl : List (Str × Addr)) (fp : List Addr), DG (X.blk s H scope (compEnvC scope cl C X.env) fp) tg1 u) (ht1 : ∀ (s : Shared) (H : Hp) (C : Addr) (cl : List (Str × Addr)) (fp : List Addr), DTs (X.blk s H scope (compEnvC scope cl C X.env) fp) ifs1 fu)
    (he : ∀ (s : Shared) (H : Hp) (C : Addr) (cl : List (Str × Addr)) (fp : List Addr), DE (X.blk s H scope (compEnvC scope cl C X.env) fp) E0 elt fe) (hsub : ∀ i ∈ t.slots, i ∈ own.map (·.2) := by decide) (hsub1 : ∀ i ∈ u.slots, i ∈ ws := by decide) (hv : ∀ i ∈ ws, i ∈ own.map (·.2) := by decide) (hy : X.N[i]? = some y := by rfl) (hyl : X.env.scope.names.lookup y = some .local := by rfl)
    (hsw : swapsWith (.ListComp elt [⟨tg, iter, ifs, 0⟩, ⟨tg1, iter1, ifs1, 0⟩] scope pos) (some (.Name y py)) spos.line X.env = pure true := by exact sw_true rfl rfl rfl (by decide +kernel))
    (hs : ∀ x, foldedSetIterable iter X.env x = pure x := by intro _; rfl) (hs1 : ∀ env x, foldedSetIterable iter1 env x = pure x := by intro _ _; rfl) :
    DS X E (.Assign [.Name y py] (.ListComp elt [⟨tg, iter, ifs, 0⟩, ⟨tg1, iter1, ifs1, 0⟩] scope pos) spos) (gasg (.nm i) (dlc2 fi (own.map (·.2)) t ft fj ws u fu fe)) := by
  refine ps_imp (ps_setLc2 (te := rE X.K E0 fe) (g := rG X.K t) (tt := rT X.K E0 ft) (wi1 := rI X.K E0 fj) (g1 := rG X.K u) (tt1 := rT X.K E0 fu) hc hN hy hyl hsw hi ok hv hg ht hi1 hg1 ht1 he hs hs1) fun Z σ H ⟨W, ρ, μ, ok, en, p⟩ => ?_
  refine tLc2_of (X := X) (E := E) hsub hsub1 σ H _ (seqS p ok en fun d μ1 W1 v H1 g1 o1 en1 r p1 => ?_)
  rw [asg_nm] at p1
  exact p1 W1 _ H1 (Go.refl _ _) o1 (en1.set r i)
end
end DL
/-! DL68: xs.count(x), texts. -/
namespace DL
open PySem L2 PySem.Spec PyProof.Rows
theorem strs_are {K : PySem.W.Frag} {W : Wd} : ∀ {ss : List Str} {vs : List V} {us : List Value}, Reps K W vs (ss.map D.str) → Vals vs us → StrsAre us ss
  | [], _, _, .nil, .nil => .nil
  | s :: ss, _, _, .cons r rs, .cons w ws => by
    cases r with
    | str _ z =>
      obtain ⟨t, rfl⟩ := w
      exact .cons s t (strs_are rs ws)
theorem strsD_eq : ∀ {xs : List D} {ss : List Str}, strsD xs = some ss → xs = ss.map D.str
  | [], ss, h => by
    simp [strsD] at h
    subst h
    rfl
  | x :: xs, ss, h => by
    cases x <;> simp [strsD] at h
    obtain ⟨r, hr, rfl⟩ := h
    rw [strsD_eq hr]
    rfl
def mCountS : D → List D → Mu → R D := fun x ds μ => match x, ds with
  | .lst xs, [.str k] => match strsD xs with
    | some ss => .ok (.int (countIn (.str k) (ss.map PyData.str))) μ
    | none => .bad
  | _, _ => .bad
section
variable {X : Cx} {E : WX}
theorem mx_countS : MtX X E "list.count" mCountS := by
  intro pins s σ H x vs v us Q I rx rv q
  obtain ⟨_, W, μ, d, ds, ok, r1, r2, p⟩ := q
  unfold mCountS at p
  split at p
  · rename_i xs k
    split at p
    · rename_i ss hs
      rw [strsD_eq hs] at r1
      cases r1 with
      | @lst a ws _ z h1 q1 =>
        cases rx
        cases r2 with
        | cons r2 r3 =>
          cases r3
          cases r2 with
          | str _ zk =>
            cases rv with
            | cons w1 w2 =>
              cases w2
              obtain ⟨t, rfl⟩ := w1
              obtain ⟨its, v1, ht, _⟩ := I.list (same_lq ok.sub h1).sq
              refine count_list_strs ht.isList (strs_are q1 v1) ?_
              exact ⟨.int (countIn (.str k) (ss.map PyData.str)), H, I.kept (t' := s.toks + 1) (fun b o e => e), ⟨_, rfl⟩, p W _ H (Go.refl _ _) ok (.int _)⟩
    · exact p.elim
  · exact p.elim
end
end DL
/-! DL69: enumerate over a tuple. -/
namespace DL
open PySem L2 PySem.Spec PyProof.Rows
theorem enumNew {v : Value} {ob : Obj} {P : Heap → Prop} (B : Begins v ob P) :
    Meets (Builtin.«enumerate.__new__» ⟨[.type "enumerate", v], []⟩) (fun _ R s => P s.heap ∧
      R (.ok (.ret (.ref (s.heap.push ob).objs.size))) { s with heap := (s.heap.push ob).push { cls := .type "enumerate", data := .fields #[.none, .bool false, .ref s.heap.objs.size, rawInt 0, .none, .none] } }) :=
  .of_wp fun prog w A R s z => by
    obtain ⟨hp, g, d, tk, os⟩ := s
    obtain ⟨z1, z⟩ := z
    have hsub := sub_enumerate
    have it : ∀ {A' : Around} {E : Value → Shared → Prop} {Q : Value → Shared → Prop}, Q (.ref hp.objs.size) ⟨hp.push ob, g, d, tk, os⟩ → wpAny (model prog w) A' (pyIter v) Q E ⟨hp, g, d, tk, os⟩ := fun q => B.iter prog w _ _ ⟨hp, g, d, tk, os⟩ _ z1 q
    wp_walk using it
    refine wpAny_stack_any fun st => wpAny_pure ?_
    split
    · rename_i c _ _ _ _ _
      cases (c == Value.type "enumerate")
      · wp_walk using it
        exact ⟨_, rfl, z⟩
      · wp_walk using it
        exact ⟨_, rfl, z⟩
    · wp_walk using it
      exact ⟨_, rfl, z⟩
theorem call_enumB {prog : Program} {w : World} {A : Around} {E : Value → Shared → Prop} {s : Shared} {v : Value} {ob : Obj} {P : Heap → Prop} {Q : Value → Shared → Prop} (B : Begins v ob P) (z1 : P s.heap)
    (z : ∀ h', IsEnum h' (s.heap.objs.size + 1) s.heap.objs.size 0 .none → h'.get? s.heap.objs.size = some ob → h'.objs.size = s.heap.objs.size + 2 → (∀ b o, s.heap.get? b = some o → h'.get? b = some o) → Q (.ref (s.heap.objs.size + 1)) { s with heap := h' }) :
    wpAny (model prog w) A (call (.type "enumerate") [v]) Q E s := by
  refine callType_new F.called_enumerate (by decide) (F.typeCall_enumerate_1 _) (F.newCall_enumerate_1 _) (fun obj => F.args_object_init_2 obj _) F.entry_enumerate_new (enumNew B) ⟨z1, ?_⟩
  have hz : (s.heap.push ob).objs.size = s.heap.objs.size + 1 := Heap.size_push ..
  show _ ∧ _
  rw [hz]
  have he : IsEnum ((s.heap.push ob).push { cls := .type "enumerate", data := .fields #[.none, .bool false, .ref s.heap.objs.size, rawInt 0, .none, .none] }) (s.heap.objs.size + 1) s.heap.objs.size 0 .none := by
    have q := Heap.get?_push_size (s.heap.push ob) (o := { cls := .type "enumerate", data := .fields #[.none, .bool false, .ref s.heap.objs.size, rawInt 0, .none, .none] }) rfl
    rw [hz] at q
    exact q
  exact ⟨⟨_, he, rfl⟩, z _ he (Heap.get?_push_of_some _ (Heap.get?_push_size _ B.free)) (by rw [Heap.size_push, hz]) fun b o x => Heap.get?_push_of_some _ (Heap.get?_push_of_some _ x)⟩
/-- a tuple's items with their places, each pair new -/
def Itet (K : PySem.W.Frag) (a : Addr) (n : Nat) : It :=
  ⟨fun i H => ∃ (xs : List V) (x : V), SqT K H a xs ∧ xs.length = n ∧ xs[i]? = some x, fun i H v H' => ∃ T x, v = .ref T ∧ H T = none ∧ H' = upd H T (.tup [.int (i : Nat), x]) ∧ ∀ xs, SqT K H a xs → xs[i]? = some x, fun i H => ∃ xs : List V, SqT K H a xs ∧ xs.length = n ∧ n ≤ i⟩
theorem turn_enumT {P : Program} {w : World} {K : PySem.W.Frag} {elts : List Expr} {kk : Nat} {tpos : Pos} (a e it : Addr) (n : Nat) :
    Turn P w K (.Tuple elts kk tpos) (Itet K a n) [e, it] e (fun i h => i ≤ n ∧ (∃ old, IsEnum h e it ((i : Nat) : Int) old) ∧ h.IsTupleIter it a i ∧ e ≠ it ∧ a ≠ it ∧ a ≠ e) where
  mem := by simp
  obj := fun i h st b hb => by
    obtain ⟨_, ⟨old, he⟩, ⟨o, ho, hc, hd⟩, _⟩ := st
    have q : b = e ∨ b = it := by simpa using hb
    rcases q with z | z
    · rw [z]
      exact ⟨_, he, fun v q => nomatch q⟩
    · rw [z]
      exact ⟨o, ho, fun v q => by rw [hd] at q; cases q⟩
  keep := fun i h h' st k => by
    obtain ⟨hi, ⟨old, he⟩, ⟨o, ho, r⟩, hne⟩ := st
    exact ⟨hi, ⟨old, k e (by simp) _ he⟩, ⟨o, k it (by simp) o ho, r⟩, hne⟩
  item := by
    intro X hP hw hK hc i pins s σ H E I hf st hg
    subst hP hw hK
    obtain ⟨hi, ⟨old, he⟩, hit, hne, hai, hae⟩ := st
    obtain ⟨xs, x, hq, hl, hx⟩ := hg
    obtain ⟨its, rv, p', _⟩ := I.tuple hq
    have p : s.heap.IsTuple a its.toArray := p'
    obtain ⟨u, hu, ru⟩ := rv.get hx
    have sz : its.toArray.size = n := by rw [List.size_toArray, ← rv.length, hl]
    have lt : i < its.toArray.size := by
      rw [sz, ← hl]
      exact (List.getElem?_eq_some_iff.mp hx).1
    have hel : e < s.heap.objs.size := Heap.lt_size he
    have hil : it < s.heap.objs.size := by
      obtain ⟨_, q, _⟩ := hit
      exact Heap.lt_size q
    refine wpAny_pyNext_enum_itemD (Draws.tuple (A := X.A.in1) (I.ok.hd hc) it a hai its.toArray) he ⟨hit, p⟩ lt hne (by simp [hne, hae.symm]) fun u' h' tk hu' ho hit' hT hsz hk => ?_
    have eu : u' = u := by
      have q : its[i]? = some u' := by simpa using hu'
      rw [hu] at q
      exact (Option.some.inj q).symm
    subst eu
    refine ⟨_, rfl, wpAny_letOwnedTupleGo_enum (s := { s with heap := h', toks := tk + 1 }) ho fun h'' he' sb => ?_⟩
    have hT2 : h''.get? s.heap.objs.size = some { cls := .type "tuple", data := .seq #[.int i tk, u'] } := (sb.2 _ (Nat.ne_of_gt hel)).trans hT
    have new : ObjOk X.prog X.w (upd H s.heap.objs.size (.tup [.int (i : Nat), x])) h'' s.heap.objs.size (.tup [.int (i : Nat), x]) :=
      ⟨by show 2 ≤ sizeLine; decide, [.int i tk, u'], .cons ⟨_, rfl⟩ (.cons ru .nil), ⟨_, hT2, rfl, _, rfl⟩⟩
    have I1 : Inv X pins σ (upd H s.heap.objs.size (.tup [.int (i : Nat), x])) { s with heap := h'', toks := tk + 1 } :=
      I.turnedNew (ch := [e, it]) (fun b ob hb q => (sb.2 b (fun z => hb (by simp [z]))).trans (hk b ob (fun z => hb (by simp [z])) (fun z => hb (by simp [z])) q)) hf (Nat.le_refl _) new
    refine ⟨.ref s.heap.objs.size, _, I1, rfl, ⟨_, x, rfl, I.hok.fresh (Nat.le_refl _), rfl, fun ys hy => by rw [I.tuple_inj hy hq]; exact hx⟩, ⟨by omega, ⟨u', ?_⟩, ?_, hne, hai, hae⟩, fun b hb => ?_⟩
    · have e1 : ((i + 1 : Nat) : Int) = (i : Int) + 1 := by omega
      rw [e1]
      exact he'
    · obtain ⟨o, ho2, r⟩ := hit'.1
      exact ⟨o, (sb.2 it (Ne.symm hne)).trans ho2, r⟩
    · have hb' : b < s.heap.objs.size := by
        have q : b = e ∨ b = it := by simpa using hb
        rcases q with z | z
        · rw [z]; exact hel
        · rw [z]; exact hil
      rw [upd_ne (Nat.ne_of_lt hb')]
      exact (hf b hb).1
  done := by
    intro X hP hw hK hc i pins s σ H E I hf st hg
    subst hP hw hK
    obtain ⟨hi, ⟨old, he⟩, hit, hne, hai, hae⟩ := st
    obtain ⟨xs, hq, hl, ge⟩ := hg
    obtain ⟨its, rv, p', _⟩ := I.tuple hq
    have p : s.heap.IsTuple a its.toArray := p'
    have sz : its.toArray.size = n := by rw [List.size_toArray, ← rv.length, hl]
    have ei : i = its.toArray.size := by omega
    subst ei
    obtain ⟨f0, f1, f2, f3, f4, f5⟩ := hf it (by simp)
    exact wpAny_pyNext_enum_endD (Draws.tuple (A := X.A.in1) (I.ok.hd hc) it a hai its.toArray) he ⟨hit, p⟩ fun h' eb => ⟨rfl, I.turned (t' := s.toks) (fun b o hb q => eb b o hb q) f0 f1 f3 f4 f5⟩
  self := fun A i s Q E st h => let ⟨_, ⟨_, he⟩, _⟩ := st; wpAny_pyIter_enum he h
def iEnumT (K : PySem.W.Frag) (ta : TA) : TI := fun σ H R => ta σ H fun vs H1 => ∃ a xs, vs = [.ref a] ∧ SqT K H1 a xs ∧ R (Itet K a xs.length) H1
theorem pi_enumT {X : Cx} {e : Expr} {ta : TA} {p pos tpos : Pos} {elts : List Expr} {kk : Nat} (hg : Gl X "enumerate") (hm : X.mg "enumerate" = none) (ha : PA X [e] ta) (hs : starEach [e] X.env = [(false, eval e X.env)] := by rfl) :
    PI X (.Tuple elts kk tpos) (.Call (.Name "enumerate" p) [e] [] pos) (iEnumT X.K ta) := by
  refine ⟨fun pins s σ H R I h => ?_⟩
  refine Call_ (ld_blt I hg hm boot_enumerate (PyProof.Rows.callWith_type1 (thn (ha.run pos pins s σ H _ I h) fun us s1 ⟨vs, H1, I1, r1, q1⟩ => ?_) hs rfl))
  obtain ⟨a, xs, ex, hq, q⟩ := q1
  subst ex
  obtain ⟨u, rfl, ru⟩ := r1.one
  cases ru
  obtain ⟨its, rv, p', hz⟩ := I1.tuple hq
  have ht : s1.heap.IsTuple a its.toArray := p'
  have al : a < s1.heap.objs.size := by
    obtain ⟨o, ho, _⟩ := ht
    exact Heap.lt_size ho
  refine call_enumB (begins_tuple a its.toArray) ht fun h' he hit hsz hk => wpAny_pyIter_enum he ?_
  have I2 : Inv X pins σ H1 { s1 with heap := h' } := I1.kept (t' := s1.toks) hk
  refine ⟨s1.heap.objs.size + 1, [s1.heap.objs.size + 1, s1.heap.objs.size], _, _, H1, rfl, I2, turn_enumT a (s1.heap.objs.size + 1) s1.heap.objs.size xs.length, ⟨Nat.zero_le _, ⟨.none, he⟩, ⟨_, hit, rfl, rfl⟩, Nat.succ_ne_self _, Nat.ne_of_lt al, Nat.ne_of_lt (Nat.lt_succ_of_lt al)⟩, fun b hb => ?_, q⟩
  have e' : b = s1.heap.objs.size + 1 ∨ b = s1.heap.objs.size := by simpa using hb
  have hle : s1.heap.objs.size ≤ b := by
    rcases e' with z | z
    · rw [z]; exact Nat.le_add_right _ _
    · rw [z]; exact Nat.le_refl _
  exact I1.fpOk hle (I1.hok.fresh hle)
theorem walk_enumT {K : PySem.W.Frag} {W : Wd} {a : Addr} {vs : List V} {ds : List D} (z : ds.length ≤ sizeLine) (h : SqT K W.S a vs) (r : Reps K W vs ds) : Walk K W (Itet K a vs.length) (enumD 0 ds) := by
  have hl := r.length
  refine ⟨by rw [enumD_len]; exact z, fun H i s hi => ?_, fun H i s hi => ⟨vs, same_t s h, rfl, by rw [enumD_len] at hi; omega⟩, fun H i x H' s y d e W1 μ l1 ok => ?_⟩
  · rw [enumD_len] at hi
    obtain ⟨v, e, _⟩ := r.get (List.getElem?_eq_getElem hi)
    exact ⟨vs, v, same_t s h, rfl, e⟩
  · obtain ⟨T, xv, rfl, hT, rfl, q⟩ := y
    have q2 := q vs (same_t s h)
    obtain ⟨xd, e3, r3⟩ := r.getV q2
    rw [enumD_get 0 ds i xd e3] at e
    cases e
    refine ⟨W1.new T (.tup [.int i, xv]), Go.new ok hT, ok.new hT, rep_tup ok hT (by show 2 ≤ sizeLine; decide) (.cons ?_ (.cons (r3.mono l1) .nil))⟩
    have : (0 : Int) + i = i := by omega
    rw [this]
    exact .int _
def itEX (f : FA) : FA := fun ρ μ => (f ρ μ).bind fun ds μ1 => match ds with
  | [.tup xs] => .ok (enumD 0 xs) μ1
  | [.lst xs] => .ok (enumD 0 xs) μ1
  | [.str x] => .ok (enumD 0 (signs x)) μ1
  | _ => .bad
theorem di_enumX {X : Cx} {E : WX} {e : Expr} {pos p : Pos} {fa : FA} {tpos : Pos} {elts : List Expr} {kk : Nat} (hm : X.mg "enumerate" = none) (ha : DA X E [e] fa) (hg : Gl X "enumerate" := by rfl) (hs : starEach [e] X.env = [(false, eval e X.env)] := by rfl) : DI X E (.Tuple elts kk tpos) (.Call (.Name "enumerate" p) [e] [] pos) (itEX fa) := by
  refine pi_imp (pi_or (pi_or (pi_enum hg hm ha hs) (pi_enumS hg hm ha hs)) (pi_enumT hg hm ha hs)) fun σ H Q ⟨W, ρ, μ, ok, en, p⟩ => ?_
  unfold itEX at p
  have both : ∀ (T : List V → Hp → Prop), (∀ ds μ1, fa ρ μ = .ok ds μ1 → ∀ W1 vs H1, Go W H W1 H1 → Ok X.K W1 H1 μ1 → Reps X.K W1 vs ds → T vs H1) → rA X.K E fa σ H T := fun T hT => by
    refine ⟨W, ρ, μ, ok, en, ?_⟩
    revert p
    cases e1 : fa ρ μ with
    | ok ds μ1 => exact fun _ W1 vs H1 g o r => hT ds μ1 e1 W1 vs H1 g o r
    | ex c fs μ1 => exact fun p => p
    | bad => exact fun p => p.elim
  cases e1 : fa ρ μ with
  | bad =>
    rw [e1] at p
    exact p.elim
  | ex c fs μ1 => exact .inl (.inl (both _ fun ds μ2 e2 => by rw [e1] at e2; cases e2))
  | ok ds μ1 =>
    rw [e1, R.bind_ok] at p
    match ds, p, e1 with
    | [.lst xs], p, e1 =>
      refine .inl (.inl (both _ fun ds μ2 e2 W1 vs H1 g o r => ?_))
      rw [e1] at e2
      cases e2
      cases r with
      | cons r rr =>
        cases rr
        cases r with
        | lst z h r => exact ⟨_, _, rfl, (same_lq o.sub h).sq, p W1 _ H1 g o (walk_enum z h.sq r)⟩
    | [.str x], p, e1 =>
      refine .inl (.inr (both _ fun ds μ2 e2 W1 vs H1 g o r => ?_))
      rw [e1] at e2
      cases e2
      cases r with
      | cons r rr =>
        cases rr
        cases r with
        | str _ z => exact ⟨_, rfl, p W1 _ H1 g o (walk_enumS x z)⟩
    | [.tup xs], p, e1 =>
      refine .inr (both _ fun ds μ2 e2 W1 vs H1 g o r => ?_)
      rw [e1] at e2
      cases e2
      cases r with
      | cons r rr =>
        cases rr
        cases r with
        | tup z h r => exact ⟨_, _, rfl, same_t o.sub h, p W1 _ H1 g o (walk_enumT z h r)⟩
end DL
/-! DL70: min of a list of texts; or by truth. -/
namespace DL
open PySem L2 PySem.Spec PyProof.Rows
def bMinX : List D → Mu → R D
  | [.lst xs], μ => match strsD xs with
    | some (s :: ss) => match PySem.W.minD (PyData.str s) (ss.map PyData.str) with
      | .str y => if y.length ≤ 1000000 then .ok (.str y) μ else .bad
      | _ => .bad
    | _ => .bad
  | ds, μ => bMin ds μ
theorem reads_strs (h : Heap) : ∀ {us : List Value} {ss : List Str}, StrsAre us ss → ReadsAll h us (ss.map PyData.str) []
  | _, _, .nil => .nil
  | _, _, .cons y t r => by
    have q := ReadsAll.cons (Reads.str (h := h) y t) (reads_strs h r)
    exact q
theorem depth_strs : ∀ ss : List Str, PyData.depthAll (ss.map PyData.str) ≤ 1
  | [] => by simp [PyData.depthAll]
  | s :: ss => by
    have := depth_strs ss
    simp only [List.map_cons, PyData.depthAll, PyData.depth]
    omega
section
variable {X : Cx} {E : WX}
theorem cx_minX (hc : X.calm = true) (hu : X.A.units + 64 < cLine) : CallX X E (.builtin "min") bMinX := by
  intro pins s σ H xs us Q I rx q
  obtain ⟨E', W, μ, ds, ok, r1, p⟩ := q
  unfold bMinX at p
  split at p
  · rename_i ys
    split at p
    · rename_i y ss hs
      split at p
      · rename_i z hz
        split at p
        · rename_i hzl
          rw [strsD_eq hs] at r1
          cases r1 with
          | cons r1 r2 =>
            cases r2
            cases r1 with
            | @lst a ws _ z1 h1 q1 =>
              obtain ⟨u, rfl, ru⟩ := rx.one
              cases ru
              obtain ⟨its, v1, ht, _⟩ := I.list (same_lq ok.sub h1).sq
              have sa := strs_are q1 v1
              have ra := reads_strs s.heap sa
              have dp := depth_strs (y :: ss)
              rw [List.map_cons] at ra dp
              refine PySem.W.min_list_data (I.ok.hd hc) ht.isList (by simpa using ra) ⟨fun x hx w hw => ?_, fun x hx => ?_⟩ (by omega) fun i v h' tk bs hv hr hk => ?_
              · rw [← List.map_cons] at hx hw
                obtain ⟨x', _, rfl⟩ := List.mem_map.mp hx
                obtain ⟨w', _, rfl⟩ := List.mem_map.mp hw
                rfl
              · rw [← List.map_cons] at hx
                obtain ⟨x', _, rfl⟩ := List.mem_map.mp hx
                exact fun e => nomatch e
              · rw [hz] at hr
                cases hr with
                | str _ t => exact ⟨.str z, H, I.kept (t' := tk) hk, ⟨t, rfl⟩, p W _ H (Go.refl _ _) ok (.str _ (le_line hzl))⟩
        · exact p.elim
      · exact p.elim
    · exact p.elim
  · exact cx_min (E := E) hc pins s σ H xs us Q I rx ⟨E', W, μ, _, ok, r1, p⟩
/-! ### or by truth -/
def truD : D → Option Bool
  | .non => some false
  | .bl b => some b
  | .int i => some (i != 0)
  | .tup xs => some (!xs.isEmpty)
  | .lst xs => some (!xs.isEmpty)
  | _ => none
theorem truD_rep {K : PySem.W.Frag} {W : Wd} {H : Hp} {μ : Mu} {v : V} {d : D} {k : Bool} (ok : Ok K W H μ) (r : Rep K W v d) (h : truD d = some k) : TruV K v H k := by
  have emp : ∀ {vs : List V} {ds : List D}, Reps K W vs ds → (!ds.isEmpty) = !vs.isEmpty := fun r => by cases r <;> rfl
  cases r with
  | non => simp [truD] at h; subst h; exact rfl
  | bl b => simp [truD] at h; subst h; exact rfl
  | int i => simp only [truD, Option.some.injEq] at h; subst h; exact rfl
  | tup z h1 q =>
    simp only [truD, Option.some.injEq] at h
    exact .inr (.inl ⟨_, same_t ok.sub h1, by rw [← h]; exact emp q⟩)
  | lst z h1 q =>
    simp only [truD, Option.some.injEq] at h
    exact .inl ⟨_, (same_lq ok.sub h1).sq, by rw [← h]; exact emp q⟩
  | _ => simp [truD] at h
def dorT (f g : FE) : FE := fun ρ μ => (f ρ μ).bind fun d μ1 => match truD d with
  | some true => .ok d μ1
  | some false => g ρ μ1
  | none => .bad
variable {a b : Expr} {f g : FE} {rest : List Expr} {pos : Pos}
theorem de_orT (ha : DE X E a f) (hb : DE X E (.BoolOp .Or (b :: rest) pos) g) : DE X E (.BoolOp .Or (a :: b :: rest) pos) (dorT f g) := pe_imp (pe_orT ha hb) fun σ H Q ⟨W, ρ, μ, ok, en, p⟩ => by
  refine seq p ok en fun d μ1 W1 v H1 g1 o1 en1 r p1 => ?_
  revert p1
  cases e : truD d with
  | none => exact fun p => p.elim
  | some k =>
    intro p1
    refine ⟨k, truD_rep o1 r e, ?_⟩
    cases k with
    | true => exact p1 W1 v H1 (Go.refl _ _) o1 r
    | false => exact ⟨W1, ρ, μ1, o1, en1, p1⟩
end
end DL
/-! DL71: isinstance(x, (list, tuple)) of lists and tuples. -/
namespace DL
open PySem L2 PySem.Spec PyProof.Rows
theorem two_list (t : Addr) : AnswersAll (fun s => s.TypeIs (.ref t) "list") (.ref t) [.type "list", .type "tuple"] [true, false] :=
  ⟨Answers.of_true PySem.F.isi_meta_list AutoSeq1.sub_list_list, Answers.of_false_list (by decide +kernel) PySem.F.isi_meta_tuple PySem.F.sub_list_tuple, True.intro⟩
theorem two_tuple (t : Addr) : AnswersAll (fun s => s.TypeIs (.ref t) "tuple") (.ref t) [.type "list", .type "tuple"] [false, true] :=
  ⟨Answers.of_false_tuple (by decide +kernel) PySem.F.isi_meta_list PySem.F.sub_tuple_list, Answers.of_true PySem.F.isi_meta_tuple PySem.F.isi_sub_tuple, True.intro⟩
def tIsLT (K : PySem.W.Frag) (te : TE) : TE := fun σ H Q => te σ H fun x H1 => (∃ t xs, x = .ref t ∧ (SqL K H1 t xs ∨ SqT K H1 t xs)) ∧ ∀ T, H1 T = none → Q (.bl true) (upd H1 T (.tup [.ty "list", .ty "tuple"]))
section
variable {X : Cx} {E : WX} {p pos tpos p1 p2 : Pos} {e e1 e2 : Expr} {te : TE} {f : FE}
theorem pe_isiLT {k : Nat} (he : PE X e te) (hg : Gl X "isinstance") (hm : X.mg "isinstance" = none) (h1 : PE X e1 (tC (.ty "list"))) (h2 : PE X e2 (tC (.ty "tuple")))
    (hs1 : starEach [e, .Tuple [e1, e2] k tpos] X.env = (false, eval e X.env) :: starEach [.Tuple [e1, e2] k tpos] X.env := by rfl) (hs2 : starEach [.Tuple [e1, e2] k tpos] X.env = (false, eval (.Tuple [e1, e2] k tpos) X.env) :: starEach [] X.env := by rfl)
    (hpl : (backTo pos (starEach [.Tuple [e1, e2] k tpos] X.env)).any (·.1) = false := by rfl) (hs3 : starEach [e1, e2] X.env = (false, eval e1 X.env) :: starEach [e2] X.env := by rfl) (hs4 : starEach [e2] X.env = (false, eval e2 X.env) :: starEach [] X.env := by rfl) :
    PE X (.Call (.Name "isinstance" p) [e, .Tuple [e1, e2] k tpos] [] pos) (tIsLT X.K te) := by
  have hes : PA X [e1, e2] (tCons (tC (.ty "list")) (tCons (tC (.ty "tuple")) tNil)) := pa_cons h1 (pa_cons h2 pa_nil hs4) hs3
  refine ⟨fun pins s σ H Q I h => ?_⟩
  refine wpAny_Call_Name_kw (ld_blt I hg hm PyProof.Rows.boot_isinstance ?_ (by decide) (by decide))
  refine PyProof.Rows.callWith_builtin1 ?_ hs1 hpl
  rw [hs1]
  show wpAny _ _ (spliced ((false, eval e X.env) :: backTo pos (starEach [.Tuple [e1, e2] k tpos] X.env))) _ _ s
  refine Calls.spliced_cons (thn (he.run pins s σ H _ I h) fun u s1 ⟨x, H1, I1, r1, hx, q1⟩ => ?_)
  obtain ⟨t, xs, ex, hT⟩ := hx
  subst ex
  obtain rfl : u = Value.ref t := r1
  rw [hs2]
  show wpAny _ _ (spliced ((false, eval (.Tuple [e1, e2] k tpos) X.env) :: backTo pos (starEach [] X.env))) _ _ s1
  refine Calls.spliced_cons (wpAny_Tuple_spliced (thn (hes.run tpos pins s1 σ H1 (fun ys H' => ys = [.ty "list", .ty "tuple"] ∧ H' = H1) I1 ⟨rfl, rfl⟩) fun us s2 ⟨ys, H2, I2, r2, ey, eH⟩ => ?_))
  subst ey eH
  have eu := vals_ty2 r2
  subst eu
  refine ⟨by show 2 ≤ sizeLine; rw [sizeLine_eq]; omega, ?_⟩
  have hf := I2.hok.fresh (Nat.le_refl s2.heap.objs.size)
  have I3 := I2.laid (a := s2.heap.objs.size) (o := .tup [.ty "list", .ty "tuple"]) (h' := s2.heap.push { cls := .type "tuple", data := .seq [Value.type "list", Value.type "tuple"].toArray }) (t' := s2.toks) (fun b u e => Heap.get?_push_of_some _ e) (Nat.le_refl _)
    ⟨by show 2 ≤ sizeLine; rw [sizeLine_eq]; omega, [.type "list", .type "tuple"], r2, ⟨_, Heap.get?_push_size _ rfl, rfl, _, rfl⟩⟩
  refine Calls.spliced_nil ?_
  rcases hT with hT | hT
  · obtain ⟨its, _, hp, _⟩ := I2.list hT
    obtain ⟨o, ho, hc, _⟩ := hp.isList
    exact call_isinstance (isinstance_tuple (x := .ref t) (Tx := "list") (tp := s2.heap.objs.size) (two_list t)) ⟨⟨o, Heap.get?_push_of_some _ ho, hc⟩, Heap.get?_push_size _ rfl, fun tk => ⟨.bl true, _, I3.tok tk, rfl, q1 _ hf⟩⟩
  · obtain ⟨its, _, ⟨o, ho, hc, _⟩, _⟩ := I2.tuple hT
    exact call_isinstance (isinstance_tuple (x := .ref t) (Tx := "tuple") (tp := s2.heap.objs.size) (two_tuple t)) ⟨⟨o, Heap.get?_push_of_some _ ho, hc⟩, Heap.get?_push_size _ rfl, fun tk => ⟨.bl true, _, I3.tok tk, rfl, q1 _ hf⟩⟩
def dIsLT (f : FE) : FE := fun ρ μ => (f ρ μ).bind fun d μ1 => match seqD μ1 d with
  | some _ => .ok (.bl true) μ1
  | none => .bad
theorem de_isLT {k : Nat} (he : DE X E e f) (hm : X.mg "isinstance" = none) (h1 : PE X e1 (tC (.ty "list"))) (h2 : PE X e2 (tC (.ty "tuple"))) (hg : Gl X "isinstance" := by rfl)
    (hs1 : starEach [e, .Tuple [e1, e2] k tpos] X.env = (false, eval e X.env) :: starEach [.Tuple [e1, e2] k tpos] X.env := by rfl) (hs2 : starEach [.Tuple [e1, e2] k tpos] X.env = (false, eval (.Tuple [e1, e2] k tpos) X.env) :: starEach [] X.env := by rfl)
    (hpl : (backTo pos (starEach [.Tuple [e1, e2] k tpos] X.env)).any (·.1) = false := by rfl) (hs3 : starEach [e1, e2] X.env = (false, eval e1 X.env) :: starEach [e2] X.env := by rfl) (hs4 : starEach [e2] X.env = (false, eval e2 X.env) :: starEach [] X.env := by rfl) :
    DE X E (.Call (.Name "isinstance" p) [e, .Tuple [e1, e2] k tpos] [] pos) (dIsLT f) := pe_imp (pe_isiLT he hg hm h1 h2 hs1 hs2 hpl hs3 hs4) fun σ H Q ⟨W, ρ, μ, ok, en, p⟩ => by
  refine seq p ok en fun d μ1 W1 v H1 g1 o1 en1 r p1 => ?_
  revert p1
  cases e : seqD μ1 d with
  | none => exact fun p => p.elim
  | some xs =>
    intro p1
    obtain ⟨a, vs, rfl, _, hq⟩ := seq_rep o1 r e
    exact ⟨⟨a, vs, rfl, hq⟩, fun T hT => p1 W1 _ _ ((Go.refl _ _).other hT) (o1.other (o1.snone hT) (o1.notio hT) (.inl hT)) (.bl _)⟩
end
end DL
/-! DL72: == of lists in lists, with instances that have an own __eq__: where it is certainly true. -/
namespace DL
open PySem L2 PySem.Spec PyProof.Rows
open PySem.SeqAt
open AutoSeq1 (wpAny_loadPart')
open MeetsSeq MeetsSeq2 MeetsSeq3 SeqRoads2
theorem eqLoop {P : Program} {w : World} (Iv : Shared → Prop) (Ex : Value → Shared → Prop) (a b : Addr) (xs ys : Array Value) (hz : xs.size = ys.size) (k : Nat) :
    ∀ i : Nat, xs.size - i = k → MeetsIn P w (Builtin.«list.__eq__.loop» ⟨[.ref a, .ref b, rawInt i, rawInt 2], []⟩)
      (fun A R s => Iv s ∧ (∀ s, Iv s → s.heap.IsList a xs ∧ s.heap.IsList b ys) ∧ (∀ j (h1 : j < xs.size) (h2 : j < ys.size) s, Iv s → wpAny (model P w) A.in1 (eqBool xs[j] ys[j]) (fun t s' => t = true ∧ Iv s') Ex s) ∧
        (∀ e s, Ex e s → R (.error e) s) ∧ ∀ s, Iv s → R (.ok (.ret (.bool true))) s) := by
  induction k with
  | zero =>
    intro i hk A R s z
    obtain ⟨iv, hl, he, hx, z⟩ := z
    obtain ⟨la, lb⟩ := hl s iv
    have z := z s iv
    obtain ⟨hp, g, d, tk, os⟩ := s
    obtain ⟨⟨c1, dd, dt, sl⟩, ho, hc, n, hd⟩ := la
    obtain ⟨⟨c2, dd2, dt2, sl2⟩, ho2, hc2, n2, hd2⟩ := lb
    simp only at hc hd hc2 hd2
    subst hc hd hc2 hd2
    wp_walk using wpAny_loadPart' ho, wpAny_loadPart' ho2
    have i1 : xs[((i : Nat) : Int).toNat]? = none := by simp; omega
    have i2 : ys[((i : Nat) : Int).toNat]? = none := by simp; omega
    rw [i1, i2]
    wp_walk using wpAny_loadPart' ho, wpAny_loadPart' ho2
    show R (.ok (.ret (.bool (xs.size == ys.size)))) _
    rw [hz]
    simpa using z
  | succ k ih =>
    intro i hk A R s z
    obtain ⟨iv, hl, he, hx, z⟩ := z
    obtain ⟨la, lb⟩ := hl s iv
    have q1 : i < xs.size := by omega
    have q2 : i < ys.size := by omega
    have hw := he i q1 q2 s iv
    obtain ⟨hp, g, d, tk, os⟩ := s
    obtain ⟨⟨c1, dd, dt, sl⟩, ho, hc, n, hd⟩ := la
    obtain ⟨⟨c2, dd2, dt2, sl2⟩, ho2, hc2, n2, hd2⟩ := lb
    simp only at hc hd hc2 hd2
    subst hc hd hc2 hd2
    wp_walk using wpAny_loadPart' ho, wpAny_loadPart' ho2
    have i1 : xs[((i : Nat) : Int).toNat]? = some xs[i] := by simp [q1]
    have i2 : ys[((i : Nat) : Int).toNat]? = some ys[i] := by simp [q2]
    have ec : ((i : Int) + 1) = ((i + 1 : Nat) : Int) := by push_cast; rfl
    rw [i1, i2]
    refine wpAny_bind (wpAny_mono hw (fun t s' y => ?_) fun e s' y => hx e s' y)
    obtain ⟨rfl, iv'⟩ := y
    wp_walk
    rw [ec]
    refine ⟨plainId_quiet plain_eq_loop _, codeAny_builtin entry_eq_loop ?_⟩
    rw [Around.under_plainId plain_eq_loop _]
    exact ih (i + 1) (by omega) A R _ ⟨iv', hl, he, hx, z⟩
theorem eqOwnB {P : Program} {w : World} (Iv : Shared → Prop) (Ex : Value → Shared → Prop) (a b : Addr) (xs ys : Array Value) (hz : xs.size = ys.size) :
    MeetsIn P w (Builtin.«list.__eq__» ⟨[.ref a, .ref b], []⟩)
      (fun A R s => Iv s ∧ (∀ s, Iv s → s.heap.IsList a xs ∧ s.heap.IsList b ys) ∧ (∀ j (h1 : j < xs.size) (h2 : j < ys.size) s, Iv s → wpAny (model P w) A.in1 (eqBool xs[j] ys[j]) (fun t s' => t = true ∧ Iv s') Ex s) ∧
        (∀ e s, Ex e s → R (.error e) s) ∧ ∀ s, Iv s → R (.ok (.ret (.bool true))) s) := by
  intro A R s z
  obtain ⟨iv, hl, he, hx, z⟩ := z
  obtain ⟨la, lb⟩ := hl s iv
  have f3 := AutoSeq1.sub_list_list
  have hn : ¬ (xs.size != ys.size) = true := by simp [hz]
  have nx := eqLoop (P := P) (w := w) Iv Ex a b xs ys hz _ 0 rfl A R s ⟨iv, hl, he, hx, z⟩
  obtain ⟨hp, g, d, tk, os⟩ := s
  obtain ⟨⟨c1, dd, dt, sl⟩, ho, hc, n, hd⟩ := la
  obtain ⟨⟨c2, dd2, dt2, sl2⟩, ho2, hc2, n2, hd2⟩ := lb
  simp only at hc hd hc2 hd2
  subst hc hd hc2 hd2
  wp_walk using wpAny_loadPart' ho, wpAny_loadPart' ho2
  refine ⟨plainId_quiet plain_eq_loop _, codeAny_builtin entry_eq_loop ?_⟩
  rw [Around.under_plainId plain_eq_loop _]
  exact nx
theorem rcOwn_eq {P : Program} {w : World} {A : Around} {s : Shared} {Ex : Value → Shared → Prop} {a b : Addr} {xs ys : Array Value} {Q : Value → Shared → Prop} (Iv : Shared → Prop) (iv : Iv s) (hl : ∀ s, Iv s → s.heap.IsList a xs ∧ s.heap.IsList b ys) (hz : xs.size = ys.size) (hu : A.units < cLine)
    (he : ∀ j (h1 : j < xs.size) (h2 : j < ys.size) s, Iv s → wpAny (model P w) A.in1 (eqBool xs[j] ys[j]) (fun t s' => t = true ∧ Iv s') Ex s) (q : ∀ s, Iv s → Q (.bool true) s) : wpAny (model P w) A (richCompare .Eq (.ref a) (.ref b)) Q Ex s := by
  obtain ⟨la, lb⟩ := hl s iv
  obtain ⟨o1, ho, hc, n, hd⟩ := la
  obtain ⟨o2, ho2, hc2, n2, hd2⟩ := lb
  exact wpAny_richCompare_same_room (T := "list") (op := .Eq) ⟨_, ho, hc⟩ ⟨_, ho2, hc2⟩ F.slot_list_eq (call_meetsIn F.slot_list_eq ⟨_, ho, hc⟩ F.entry_list_eq (F.args_list_eq_2 _ _) (eqOwnB Iv Ex a b xs ys hz) ⟨iv, hl, he, fun e s z => z, fun s y => ⟨(fun x => nomatch x), q s y⟩⟩) hu
/-- certainly alike -/
def sameL (f : D → D → Bool) : List D → List D → Bool
  | [], [] => true
  | x :: xs, y :: ys => f x y && sameL f xs ys
  | _, _ => false
def isRf : D → Bool
  | .lst _ => true
  | .tup _ => true
  | .obj _ _ => true
  | _ => false
def sameT (C : Nat) (F : List D → Mu → R D) : Nat → D → D → Bool
  | 0, _, _ => false
  | n + 1, x, y => if (eqD 20 x y == some true) = true then true else match x, y with
    | .lst xs, .lst ys => xs.all isRf && (ys.all isRf && sameL (sameT C F n) xs ys)
    | .obj C1 f1, .obj C2 f2 => isOb C (.obj C1 f1) && (isOb C (.obj C2 f2) && (D.closedL 0 [.obj C1 f1, .obj C2 f2] && isTrue (F [.obj C1 f1, .obj C2 f2] [])))
    | _, _ => false
theorem refs_rf {K : PySem.W.Frag} {W : Wd} : ∀ {vs : List V} {ds : List D}, Reps K W vs ds → ds.all isRf = true → ∃ as : List Addr, vs = as.map V.ref
  | _, _, .nil, _ => ⟨[], rfl⟩
  | _, _, .cons (d := d) r rs, h => by
    rw [List.all_cons, Bool.and_eq_true] at h
    obtain ⟨as, e⟩ := refs_rf rs h.2
    have hd := h.1
    unfold isRf at hd
    split at hd
    · cases r with
      | lst h1 h2 h3 => exact ⟨_ :: as, by rw [e]; rfl⟩
    · cases r with
      | tup h1 h2 h3 => exact ⟨_ :: as, by rw [e]; rfl⟩
    · cases r with
      | obj h1 h2 h3 => exact ⟨_ :: as, by rw [e]; rfl⟩
    · cases hd
theorem sameL_all {f : D → D → Bool} : ∀ {xs ys : List D}, sameL f xs ys = true → xs.length = ys.length ∧ ∀ (j : Nat) x y, xs[j]? = some x → ys[j]? = some y → f x y = true
  | [], [], _ => ⟨rfl, fun j x y h => by simp at h⟩
  | x :: xs, y :: ys, h => by
    unfold sameL at h
    rw [Bool.and_eq_true] at h
    obtain ⟨i1, i2⟩ := sameL_all h.2
    refine ⟨by simp [i1], fun j a b ha hb => ?_⟩
    cases j with
    | zero =>
      simp at ha hb
      subst ha hb
      exact h.1
    | succ j => exact i2 j a b (by simpa using ha) (by simpa using hb)
  | [], _ :: _, h => by simp [sameL] at h
  | _ :: _, [], h => by simp [sameL] at h
section
variable {X : Cx} {E : WX} {k C : Nat} {f : Addr} {fd : FuncData} {ps : List Str} {F : List D → Mu → R D} {ts : List Ty} {pins : List (Addr × Obj)} {σ : L2.St}
theorem same_item (G : FnG X.prog X.w X.K X.mg X.base k f fd ps F) (bd : Dfl X.K fd ps 2 []) (hs : PySem.W.findIn X.K (.ref (cl X.K C)) "__eq__" = some (some (.ref f))) (hf : PySem.W.isFn X.K (.ref f) = true) (hts : ∀ t ∈ ts, PySem.W.notFirst X.K (cl X.K C) (t.val X.K) = true) (hC : Ty.own C ∈ ts) (hF : SaysOn F) : ∀ (n : Nat) (A : Around) (x y : D) (u v : V) (p q : Value) (H : Hp) (W : Wd) (μ : Mu) (s : Shared),
    Room (k + n) A → A.units + 64 < cLine → A.guards = some [] → (∀ H s, Inv X pins σ H s → Env0 X.prog X.w X.K X.mg X.base A X.stack s H) → Inv X pins σ H s → Ok X.K W H μ → Rep X.K W u x → Rep X.K W v y → RelV u p → RelV v q → sameT C F n x y = true →
    wpAny (model X.prog X.w) A (eqBool p q) (fun t s' => t = true ∧ ∃ H2 W2, Inv X pins σ H2 s' ∧ Go W H W2 H2 ∧ Ok X.K W2 H2 μ) X.xe s
  | 0, _, _, _, _, _, _, _, _, _, _, _, _, _, _, _, _, _, _, _, _, _, h => by simp [sameT] at h
  | n + 1, A, x, y, u, v, p, q, H, W, μ, s, rm, hu, hg, hA, I, ok, r1, r2, w1, w2, h => by
    unfold sameT at h
    split at h
    · rename_i he
      have e := beq_iff_eq.mp he
      have ea := (eqD_at I ok 20 A x y true u v p q (by omega) r1 r2 w1 w2 e).2
      refine ea X.prog X.w X.xe _ ?_
      exact ⟨rfl, H, W, I, Go.refl _ _, ok⟩
    · split at h
      · rename_i xs ys _
        simp only [Bool.and_eq_true] at h
        obtain ⟨f1, f2, h⟩ := h
        obtain ⟨le, each⟩ := sameL_all h
        cases r1 with
        | @lst a vs _ z1 h1 q1 =>
          cases r2 with
          | @lst b us _ z2 h2 q2 =>
            cases w1
            cases w2
            obtain ⟨as, rfl⟩ := refs_rf q1 f1
            obtain ⟨bs, rfl⟩ := refs_rf q2 f2
            have l1 : as.length = xs.length := by simpa using q1.length
            have l2 : bs.length = ys.length := by simpa using q2.length
            unfold eqBool
            refine wpAny_holding ?_
            refine wpAny_ite_split (fun _ => ?_) (fun _ => ?_)
            · refine wpAny_bind (wpAny_rule (wpAny_pure ?_))
              exact ⟨rfl, H, W, I, Go.refl _ _, ok⟩
            refine wpAny_bind ?_
            refine rcOwn_eq (xs := (as.map Value.ref).toArray) (ys := (bs.map Value.ref).toArray) (fun s' => ∃ H' W', Inv X pins σ H' s' ∧ Go W H W' H' ∧ Ok X.K W' H' μ) ⟨H, W, I, Go.refl _ _, ok⟩ ?_ (by simp [l1, l2, le]) (by omega) ?_ ?_
            · rintro s' ⟨H', W', I', g', ok'⟩
              obtain ⟨its, v1, ht, _⟩ := I'.list (same_lq ok'.sub (same_lq g'.le.s h1)).sq
              obtain ⟨its', v2, ht', _⟩ := I'.list (same_lq ok'.sub (same_lq g'.le.s h2)).sq
              rw [vals_refs v1] at ht
              rw [vals_refs v2] at ht'
              exact ⟨ht.isList, ht'.isList⟩
            · rintro j j1 j2 s' ⟨H', W', I', g', ok'⟩
              have n1 : j < as.length := by simpa using j1
              have n2 : j < bs.length := by simpa using j2
              have n3 : j < xs.length := by omega
              have n4 : j < ys.length := by omega
              have eq := each j xs[j] ys[j] (List.getElem?_eq_getElem n3) (List.getElem?_eq_getElem n4)
              obtain ⟨c1, hc1, rr1⟩ := (q1.mono g'.le).get (List.getElem?_eq_getElem n3)
              obtain ⟨c2, hc2, rr2⟩ := (q2.mono g'.le).get (List.getElem?_eq_getElem n4)
              simp [n1] at hc1
              simp [n2] at hc2
              subst hc1 hc2
              simp only [List.getElem_toArray, List.getElem_map]
              refine wpAny_mono (same_item G bd hs hf hts hC hF n A.in1 xs[j] ys[j] _ _ _ _ H' W' μ s' rm.in1 ?_ hg (fun H s I => (hA H s I).in1) I' ok' rr1 rr2 rfl rfl eq) (fun t s2 z => ?_) fun _ _ e => e
              · have := rm.un
                show A.units + 1 + 64 < cLine
                omega
              · obtain ⟨et, H2, W2, I2, g2, o2⟩ := z
                exact ⟨et, H2, W2, I2, g'.trans g2, o2⟩
            · rintro s' ⟨H', W', I', g', ok'⟩
              exact wpAny_truthy_bool ⟨rfl, H', W', I', g', ok'⟩
      · simp only [Bool.and_eq_true] at h
        obtain ⟨e1, e2, e3, e4⟩ := h
        cases r1 with
        | obj h1 h2 h3 =>
          cases r2 with
          | obj h4 h5 h6 =>
            cases w1
            cases w2
            exact own_item (rm.mono (by omega)) hg (hA _ _ I) G bd hs hf hts hC hF I ok (.obj h1 h2 h3) (.obj h4 h5 h6) e1 e2 e3 e4
      · cases h
/-! ### as a rule -/
def topT (C : Nat) (F : List D → Mu → R D) : D → D → Mu → Bool
  | .lst xs, .lst ys, _ => xs.all isRf && (ys.all isRf && sameL (sameT C F 3) xs ys)
  | _, _, _ => false
def eqT (C : Nat) (F : List D → Mu → R D) : D → D → Mu → R D := fun x y μ => if topT C F x y μ = true then .ok (.bl true) μ else .bad
def eqTM (C : Nat) (F : List D → Mu → R D) : D → D → Mu → R D := fun x y μ => if topT C F x y μ = true then eqT C F x y μ else dEqM x y μ
theorem opx_eqT (G : FnG X.prog X.w X.K X.mg X.base k f fd ps F) (c : Cal X E (k + 4)) (bd : Dfl X.K fd ps 2 [])
    (hs : PySem.W.findIn X.K (.ref (cl X.K C)) "__eq__" = some (some (.ref f))) (hf : PySem.W.isFn X.K (.ref f) = true) (hts : ∀ t ∈ ts, PySem.W.notFirst X.K (cl X.K C) (t.val X.K) = true) (hC : Ty.own C ∈ ts) (hF : SaysOn F) : OpX X E (compareOp .Eq) (eqT C F) := by
  intro pins s σ H x y v u Q I rx ry q
  obtain ⟨E', W, μ, dx, dy, ok, r1, r2, p⟩ := q
  unfold eqT at p
  split at p
  · rename_i hp
    unfold topT at hp
    split at hp
    · rename_i _ xs ys
      simp only [Bool.and_eq_true] at hp
      obtain ⟨f1, f2, h⟩ := hp
      obtain ⟨le, each⟩ := sameL_all h
      cases r1 with
      | @lst a vs _ z1 h1 q1 =>
        cases r2 with
        | @lst b us _ z2 h2 q2 =>
          cases rx
          cases ry
          obtain ⟨as, rfl⟩ := refs_rf q1 f1
          obtain ⟨bs, rfl⟩ := refs_rf q2 f2
          have l1 : as.length = xs.length := by simpa using q1.length
          have l2 : bs.length = ys.length := by simpa using q2.length
          show wpAny _ _ (richCompare .Eq (.ref a) (.ref b)) _ _ _
          refine rcOwn_eq (xs := (as.map Value.ref).toArray) (ys := (bs.map Value.ref).toArray) (fun s' => ∃ H' W', Inv X pins σ H' s' ∧ Go W H W' H' ∧ Ok X.K W' H' μ) ⟨H, W, I, Go.refl _ _, ok⟩ ?_ (by simp [l1, l2, le]) c.room.units0 ?_ ?_
          · rintro s' ⟨H', W', I', g', ok'⟩
            obtain ⟨its, v1, ht, _⟩ := I'.list (same_lq ok'.sub (same_lq g'.le.s h1)).sq
            obtain ⟨its', v2, ht', _⟩ := I'.list (same_lq ok'.sub (same_lq g'.le.s h2)).sq
            rw [vals_refs v1] at ht
            rw [vals_refs v2] at ht'
            exact ⟨ht.isList, ht'.isList⟩
          · rintro j j1 j2 s' ⟨H', W', I', g', ok'⟩
            have n1 : j < as.length := by simpa using j1
            have n2 : j < bs.length := by simpa using j2
            have n3 : j < xs.length := by omega
            have n4 : j < ys.length := by omega
            have eq := each j xs[j] ys[j] (List.getElem?_eq_getElem n3) (List.getElem?_eq_getElem n4)
            obtain ⟨c1, hc1, rr1⟩ := (q1.mono g'.le).get (List.getElem?_eq_getElem n3)
            obtain ⟨c2, hc2, rr2⟩ := (q2.mono g'.le).get (List.getElem?_eq_getElem n4)
            simp [n1] at hc1
            simp [n2] at hc2
            subst hc1 hc2
            simp only [List.getElem_toArray, List.getElem_map]
            refine wpAny_mono (same_item G bd hs hf hts hC hF 3 X.A.in1 xs[j] ys[j] _ _ _ _ H' W' μ s' (Room.in1 c.room) (by have := c.room.un; show X.A.units + 1 + 64 < cLine; omega) c.guards (fun H s I => I.env0.in1) I' ok' rr1 rr2 rfl rfl eq) (fun t s2 z => ?_) fun _ _ e => e
            obtain ⟨et, H2, W2, I2, g2, o2⟩ := z
            exact ⟨et, H2, W2, I2, g'.trans g2, o2⟩
          · rintro s' ⟨H', W', I', g', ok'⟩
            exact ⟨.bl true, H', I', rfl, p W' _ H' g' ok' (.bl _)⟩
    · cases hp
  · exact p.elim
end
end DL
/-! DL73: dict(xs) of a list of pairs. -/
namespace DL
open PySem L2 PySem.Spec PyProof.Rows
/-- pairs by keys -/
def kvD : List D → Option (List (Key × D))
  | [] => some []
  | .tup [k, d] :: xs => match keyD k, kvD xs with
    | some j, some ps => some ((j, d) :: ps)
    | _, _ => none
  | _ => none
def bDictP : List D → Mu → R D
  | [d], μ => match thaw μ d with
    | .lst xs => match kvD xs with
      | some ps => .ok (.hdl μ.length) (μ ++ [.dct (mergeD ps ([], [])).1 (mergeD ps ([], [])).2])
      | none => .bad
    | _ => .bad
  | _, _ => .bad
section
variable {X : Cx} {E : WX}
theorem kv_rep {K : PySem.W.Frag} {W : Wd} {H : Hp} {μ : Mu} (ok : Ok K W H μ) : ∀ {xs : List D} {ps : List (Key × D)} {vs : List V}, Reps K W vs xs → kvD xs = some ps →
    ∃ (as : List Addr) (us : List V), vs = as.map V.ref ∧ Reps K W us (ps.map (·.2)) ∧ Paired (fun p kv => SqT K H p [kV kv.1, kv.2]) as ((ps.map (·.1)).zip us)
  | [], ps, vs, r, h => by
    cases r
    simp [kvD] at h
    subst h
    exact ⟨[], [], rfl, .nil, .nil⟩
  | x :: xs, ps, vs, r, h => by
    cases r with
    | @cons v vs _ _ r1 r2 =>
      unfold kvD at h
      split at h
      · rename_i e
        cases e
      · rename_i k d xs' e
        cases e
        split at h
        · rename_i j ps' hj hp
          cases h
          obtain ⟨as, us, rfl, ru, pr⟩ := kv_rep ok r2 hp
          cases r1 with
          | @tup a ws _ z sq rs =>
            cases rs with
            | @cons v1 _ _ _ q1 q2 =>
              cases q2 with
              | @cons v2 _ _ _ q3 q4 =>
                cases q4
                have e1 := key_rep q1 hj
                subst e1
                exact ⟨a :: as, v2 :: us, rfl, .cons q3 ru, .cons (same_t ok.sub sq) pr⟩
        · cases h
      · cases h
theorem cx_dictP (hc : X.calm = true := by rfl) : CallX X E (.type "dict") bDictP := callx fun W H μ ds xs Q ok r p => by
  unfold bDictP at p
  split at p
  · cases r with
    | cons r1 r2 =>
      cases r2
      split at p
      · rename_i ys ht
        split at p
        · rename_i ps hk
          obtain ⟨a, vs, rfl, lq, rs, z⟩ := thaw_lq ok r1 ht
          obtain ⟨as, us, rfl, ru, pr⟩ := kv_rep ok rs hk
          obtain ⟨ws, e1, e2, e3⟩ := merge_rep (ks := []) (xs := []) (vs := []) ru .nil rfl rfl .nil
          refine ⟨_, call_dictP hc, a, as, _, rfl, lq.sq, pr, fun p1 hp => ?_⟩
          exact p _ _ _ (Go.cell ok hp) (ok.newcell hp (m := .dct (mergeD ps ([], [])).1 (mergeD ps ([], [])).2) ⟨ws, by rw [← e1]; rfl, e2, e3⟩) (.hdl (by
            show (W.io ++ [p1])[μ.length]? = some p1
            rw [← ok.len]
            simp))
        · exact p.elim
      · exact p.elim
  · exact p.elim
end
end DL
/-! DL74: xs.pop(i). -/
namespace DL
open PySem L2 PySem.Spec PyProof.Rows
def mPopI : D → List D → Mu → R D := fun x ds μ => match x, ds with
  | .hdl l, [.int k] => match μ[l]? with
    | some (.lst xs) => if 0 ≤ k ∧ k < 1000000 then match xs[k.toNat]? with
      | some d => .ok d (μ.set l (.lst (xs.eraseIdx k.toNat)))
      | none => .bad
      else .bad
    | _ => .bad
  | _, _ => .bad
section
variable {X : Cx} {E : WX}
theorem reps_erase {K : PySem.W.Frag} {W : Wd} : ∀ {vs : List V} {ds : List D} (i : Nat), Reps K W vs ds → Reps K W (vs.eraseIdx i) (ds.eraseIdx i)
  | _, _, _, .nil => .nil
  | _, _, 0, .cons _ rs => rs
  | _, _, i + 1, .cons r rs => .cons r (reps_erase i rs)
theorem mx_popI : MtX X E "list.pop" mPopI := mtx fun W H μ d ds x xs Q ok r rs p => by
  unfold mPopI at p
  split at p
  · rename_i l k
    split at p
    · rename_i ys hm
      split at p
      · rename_i hk
        split at p
        · rename_i dd hd
          cases r with
          | @hdl a _ ha =>
            cases rs with
            | cons r1 r2 =>
              cases r2
              cases r1
              obtain ⟨o, ho, vs, rfl, q⟩ := ok.cell l a _ ha hm
              obtain ⟨v, hv, rv⟩ := q.get hd
              obtain ⟨ok2, g2⟩ := ok.setcell (m' := .lst (ys.eraseIdx k.toNat)) ha hm (fun z => nomatch z) ⟨vs.eraseIdx k.toNat, rfl, reps_erase _ q⟩
              have hl : k.toNat < vs.length := (List.getElem?_eq_some_iff.mp hv).1
              have hq : seqIndex? k vs.length = some k.toNat := by
                unfold seqIndex?
                simp
                omega
              exact ⟨_, mt_popAt, a, vs, k, k.toNat, v, rfl, rfl, ho, by omega, by omega, hq, hv, p _ _ _ g2 ok2 (rv.mono g2.le)⟩
        · exact p.elim
      · exact p.elim
    · exact p.elim
  · exact p.elim
end
end DL
/-! DL75: t[::-1] of a tuple, of a list. -/
namespace DL
open PySem PySem.Spec PyProof.Rows L2 HT
theorem places_rev (n : Nat) : Builtin.Slice.slicePlaces ((n : Int) - 1) (-1) (-1) = n := by
  unfold Builtin.Slice.slicePlaces
  have h1 : ¬ ((-1 : Int) > 0) := by omega
  rw [if_neg h1]
  by_cases h : n = 0
  · subst h
    rfl
  · rw [if_pos (by omega)]
    have e : ((n : Int) - 1 - -1 - 1) / (- -1) = (n : Int) - 1 := by
      rw [show (- -1 : Int) = 1 by omega, Int.ediv_one]
      omega
    rw [e]
    omega
theorem filterMap_same {α β : Type} {f g : α → Option β} : ∀ {l : List α}, (∀ m ∈ l, f m = g m) → l.filterMap f = l.filterMap g
  | [], _ => rfl
  | x :: l, h => by
    rw [List.filterMap_cons, List.filterMap_cons, h x (by simp), filterMap_same fun m hm => h m (List.mem_cons_of_mem _ hm)]
theorem pick_rev (xs : Array Value) (n : Nat) (hn : n = xs.size) : ((List.range n).filterMap fun (m : Nat) => xs[((n : Int) - 1 + (m : Int) * -1).toNat]?).toArray = xs.toList.reverse.toArray := by
  congr 1
  have e : (List.range n).filterMap (fun (m : Nat) => xs[((n : Int) - 1 + (m : Int) * -1).toNat]?) = (List.range n).filterMap (fun m => xs.toList.reverse[m]?) := by
    refine filterMap_same fun m hm => ?_
    have hm' : m < n := List.mem_range.mp hm
    have : ((n : Int) - 1 + (m : Int) * -1).toNat = n - 1 - m := by omega
    rw [this, List.getElem?_reverse (by simpa [← hn] using hm')]
    simp [hn]
  rw [e]
  have len : n = xs.toList.reverse.length := by simp [hn]
  rw [len]
  generalize xs.toList.reverse = ys
  have key : ∀ (ys : List Value), (List.range ys.length).filterMap (fun m => ys[m]?) = ys := by
    intro ys
    induction ys with
    | nil => rfl
    | cons y ys ih =>
      rw [List.length_cons, List.range_succ_eq_map, List.filterMap_cons]
      simp only [List.getElem?_cons_zero]
      rw [List.filterMap_map]
      congr 1
  exact key ys
section
variable {prog : Program} {w : World} {A : Around} {E : Value → Shared → Prop} {s : Shared}
theorem adjust_rev (n : Nat) : Builtin.Slice.sliceAdjust none none (-1) (n : Int) = ((n : Int) - 1, -1) := by
  unfold Builtin.Slice.sliceAdjust
  first | rfl | simp
theorem sliceApplied_rev {sl : Addr} {vl vu vs : Value} {n : Nat} {Q : Int × Int × Nat → Shared → Prop} (hs : s.heap.IsSliceOf sl vl vu vs) (pl : IsPart vl none) (pu : IsPart vu none) (ps : IsPart vs (some (-1)))
    (h : Q ((n : Int) - 1, -1, n) s) : wpAny (model prog w) A (Builtin.Slice.sliceApplied (.ref sl) (pure (n : Int))) Q E s := by
  obtain ⟨os, hos, hcs, hds⟩ := id hs
  unfold Builtin.Slice.sliceApplied Builtin.Slice.sliceFields
  refine wpAny_bind (wpAny_bind (wpAny_field hos hds (x := vl) rfl (wpAny_bind (wpAny_field hos hds (x := vu) rfl (wpAny_bind (wpAny_field hos hds (x := vs) rfl (wpAny_pure ?_)))))))
  refine wpAny_bind (slicePart_ ps ?_)
  show wpAny _ _ (if ((-1 : Int) == 0) = true then _ else _) _ _ s
  rw [if_neg (by decide)]
  refine wpAny_bind (slicePart_ pl (wpAny_bind (slicePart_ pu (wpAny_bind (wpAny_pure ?_)))))
  show wpAny _ _ (match Builtin.Slice.sliceAdjust none none (-1) (n : Int) with | (lo, hi) => pure (lo, (-1 : Int), Builtin.Slice.slicePlaces lo hi (-1))) _ _ s
  rw [adjust_rev]
  show wpAny _ _ (pure ((n : Int) - 1, (-1 : Int), Builtin.Slice.slicePlaces ((n : Int) - 1) (-1) (-1))) _ _ s
  rw [places_rev]
  exact wpAny_pure h
theorem getItem_tuple_rev {t sl : Addr} {items : Array Value} {vl vu vs : Value} {Q : Value → Shared → Prop} (ht : IsTup s.heap t items) (hs : s.heap.IsSliceOf sl vl vu vs) (pl : IsPart vl none) (pu : IsPart vu none) (ps : IsPart vs (some (-1)))
    (h : Q (.ref s.heap.objs.size) { s with heap := s.heap.push { cls := .type "tuple", data := .seq items.toList.reverse.toArray } })
    (hsz : items.size ≤ sizeLine) : wpAny (model prog w) A (getItem (.ref t) (.ref sl)) Q E s := by
  have htake : sizeOk (.seq items.toList.reverse.toArray) := by
    show items.toList.reverse.toArray.size ≤ sizeLine
    rw [List.size_toArray, List.length_reverse, Array.length_toList]
    omega
  obtain ⟨os, hos, hcs, hds⟩ := id hs
  have hTs : s.TypeIs (.ref sl) "slice" := ⟨os, hos, hcs⟩
  unfold getItem
  try with_reducible refine wpAny_holding ?_
  first | refine wpAny_bind (wpAny_pure ?_) | skip
  refine wpAny_bind (wpAny_sequenceKey ht.typeIs (by decide) ?_)
  refine wpAny_bind (wpAny_callSpecial?_slot (name := Str.ofString "__getitem__") ht.typeIs PyProof.Rows.slot_tuple_getitem
    (wpAny_call_entry PyProof.Rows.slot_tuple_getitem ht.typeIs entry_tuple_getitem ?_ (args_tuple_getitem _ _)))
  show wpAny _ _ (Builtin.Tuple.tupleItemsOf (.ref t) >>= _) _ _ s
  refine wpAny_bind (tupleItemsOf_ ht ?_)
  refine wpAny_bind (wpAny_typeOf hTs ?_)
  rw [if_pos (by decide)]
  refine wpAny_bind (sliceApplied_rev hs pl pu ps ?_)
  have hno : ¬ (((items.size : Int) - 1 == 0 && (-1 : Int) == 1 && items.size == items.size) = true) := by
    intro q
    rw [Bool.and_eq_true, Bool.and_eq_true] at q
    exact absurd q.1.2 (by decide)
  show wpAny _ _ (if ((items.size : Int) - 1 == 0 && (-1 : Int) == 1 && items.size == items.size) = true then _ else _) _ _ s
  rw [if_neg hno, pick_rev items items.size rfl]
  first
    | exact wpAny_bind (m := Builtin.Tuple.tupleExact _) (wpAny_newObj_type (wpAny_pure ⟨_, rfl, wpAny_pure h⟩) htake)
    | exact wpAny_bind (m := Builtin.Tuple.tupleExact _) (wpAny_newObj_type (wpAny_bind (wpAny_pure (wpAny_pure ⟨_, rfl, wpAny_pure h⟩))) htake)
    | exact wpAny_bind (wpAny_bind (m := Builtin.Tuple.tupleExact _) (wpAny_newObj_type (wpAny_pure (wpAny_pure ⟨_, rfl, wpAny_pure h⟩)) htake))
    | exact wpAny_bind (wpAny_bind (m := Builtin.Tuple.tupleExact _) (wpAny_newObj_type (wpAny_pure ⟨_, rfl, wpAny_pure h⟩) htake))
end
section
variable {X : Cx} {E : WX}
def tRevX (K : PySem.W.Frag) (te : TE) : TE := fun σ H Q => te σ H fun x H1 => ∃ a xs, x = .ref a ∧ ((SqL K H1 a xs ∧ ∀ p, H1 p = none → Q (.ref p) (upd H1 p (.lst xs.reverse))) ∨ (SqT K H1 a xs ∧ ∀ p, H1 p = none → Q (.ref p) (upd H1 p (.tup xs.reverse))))
theorem pe_revX {e : Expr} {te : TE} {k : Nat} {p1 p2 p3 pos : Pos} (he : PE X e te) : PE X (.Subscript e (.Slice none none (some (.UnaryOp .USub (.Constant (.int 1) k p1) p2)) p3) pos) (tRevX X.K te) := by
  refine ⟨fun pins s σ H Q I h => ?_⟩
  refine Subscript_ (thn (he.run pins s σ H _ I h) fun v s1 ⟨x, H1, I1, r1, q1⟩ => ?_)
  obtain ⟨a, xs, ex, hx⟩ := q1
  subst ex
  cases r1
  have hst : PO X (some (.UnaryOp .USub (.Constant (.int 1) k p1) p2)) (tPart (tUn (rU fun i => .int (-i)) (tC (.int 1)))) := po_some (pe_un un_neg pe_int)
  refine wpAny_Slice (thn (po_none.run pins s1 σ H1 (fun o H2 => o = none ∧ H2 = H1) I1 ⟨rfl, rfl⟩) fun vl s2 ⟨l, H2, I2, pl, el, e2⟩ => ?_)
  subst el e2
  refine thn (po_none.run pins s2 σ H2 (fun o H3 => o = none ∧ H3 = H2) I2 ⟨rfl, rfl⟩) fun vu s3 ⟨u, H3, I3, pu, eu, e3⟩ => ?_
  subst eu e3
  refine thn (hst.run pins s3 σ H3 (fun o H4 => o = some (-1) ∧ H4 = H3) I3 ⟨1, rfl, -1, rfl, rfl, rfl⟩) fun vs s4 ⟨o, H4, I4, ps, eo, e4⟩ => ?_
  subst eo e4
  have I5 : Inv X pins σ H4 { s4 with heap := s4.heap.push { cls := .type "slice", data := .fields #[vl, vu, vs] } } := I4.kept (t' := s4.toks) fun b ob q => Heap.get?_push_of_some _ q
  show wpAny (model X.prog X.w) X.A (subscriptTail e (.Slice none none (some (.UnaryOp .USub (.Constant (.int 1) k p1) p2)) p3) (.ref a) (.ref s4.heap.objs.size)) (EP X pins σ Q) X.xe { s4 with heap := s4.heap.push { cls := .type "slice", data := .fields #[vl, vu, vs] } }
  rcases hx with ⟨hx, q⟩ | ⟨hx, q⟩
  · obtain ⟨its, r, ht, hz⟩ := I5.list hx
    have hlen := r.length
    refine tail_any (ops := [.ref a, .ref s4.heap.objs.size]) ht.isList.typeIs (PySem.slot_list_getitem.lookup) ?_ (by with_unfolding_all rfl)
    refine wpAny_getItem_list_slice ht.isList (Heap.IsSliceOf.new _ vl vu vs) pl pu ps (by decide) ?_ (by rw [List.size_toArray]; omega)
    rw [PySem.W.krv_pick]
    refine ⟨.ref _, _, I5.laid (t' := s4.toks) (o := .lst xs.reverse) (fun b ob q => Heap.get?_push_of_some _ q) (Nat.le_refl _) ?_, rfl, q _ (I5.hok.fresh (Nat.le_refl _))⟩
    exact ⟨by rw [List.length_reverse]; exact hz, _, 0, r.reverse, Heap.get?_push_size _ rfl⟩
  · obtain ⟨its, r, ht, hz⟩ := I5.tuple hx
    have hlen := r.length
    refine tail_any (ops := [.ref a, .ref s4.heap.objs.size]) ht.typeIs (PyProof.Rows.slot_tuple_getitem.lookup) ?_ (by with_unfolding_all rfl)
    refine getItem_tuple_rev ht (Heap.IsSliceOf.new _ vl vu vs) pl pu ps ?_ (by rw [List.size_toArray]; omega)
    refine ⟨.ref _, _, I5.laid (t' := s4.toks) (o := .tup xs.reverse) (fun b ob q => Heap.get?_push_of_some _ q) (Nat.le_refl _) ?_, rfl, q _ (I5.hok.fresh (Nat.le_refl _))⟩
    exact ⟨by rw [List.length_reverse]; exact hz, _, r.reverse, IsTup.new _ _⟩
def drevX (f : FE) : FE := fun ρ μ => (f ρ μ).bind fun d μ1 => match thaw μ1 d with
  | .lst xs => .ok (.lst xs.reverse) μ1
  | .tup xs => .ok (.tup xs.reverse) μ1
  | _ => .bad
theorem de_revX {e : Expr} {f : FE} {k : Nat} {p1 p2 p3 pos : Pos} (h : DE X E e f) : DE X E (.Subscript e (.Slice none none (some (.UnaryOp .USub (.Constant (.int 1) k p1) p2)) p3) pos) (drevX f) := pe_imp (pe_revX h) fun σ H Q ⟨W, ρ, μ, ok, en, p⟩ => by
  refine seq p ok en fun d μ1 W1 v H1 g1 o1 en1 r p1 => ?_
  revert p1
  cases ht : thaw μ1 d with
  | lst xs =>
    intro p1
    obtain ⟨a, vs, rfl, lq, rr, z⟩ := thaw_lq o1 r ht
    exact ⟨a, vs, rfl, .inl ⟨lq.sq, fun q hq => p1 _ _ _ (Go.new o1 hq) (o1.new hq) (rep_lst o1 hq (by rw [List.length_reverse]; exact z) (reps_rev rr))⟩⟩
  | tup xs =>
    intro p1
    have e := thaw_tup ht
    subst e
    cases r with
    | @tup a vs ds z sq rr => exact ⟨a, vs, rfl, .inr ⟨same_t o1.sub sq, fun q hq => p1 _ _ _ (Go.new o1 hq) (o1.new hq) (rep_tup o1 hq (by rw [List.length_reverse]; exact z) (reps_rev rr))⟩⟩
  | _ => exact fun z => z.elim
end
end DL
/-! DL76: x, y = a, b. -/
namespace DL
open PySem PySem.Spec PyProof.Rows L2
def gpar (i j : Nat) (fa : FA) : FS := fun ρ μ => (fa ρ μ).to ρ fun ds μ1 => match ds with
  | [d, e] => .nx ((ρ.set i (some d)).set j (some e)) μ1
  | _ => .bad
@[simp] theorem ap_par (i j : Nat) (fa : FA) (ρ : En) (μ : Mu) : gpar i j fa ρ μ = (fa ρ μ).to ρ fun ds μ1 => match ds with
  | [d, e] => .nx ((ρ.set i (some d)).set j (some e)) μ1
  | _ => .bad := of_eq_true (eq_self _)
theorem ds_par {X : Cx} {E : WX} (i j : Nat) {x y : Str} {a b : Expr} {fa : FA} {px py pt pos : Pos} {kt k2 pt2} (hN : X.N.Nodup) (ha : DA X E [a, b] fa) (hc : X.calm = true := by rfl) (hi : X.N[i]? = some x := by rfl) (hj : X.N[j]? = some y := by rfl) (hij : i ≠ j := by decide)
    (hx : X.env.scope.names.lookup x = some .local := by rfl) (hy : X.env.scope.names.lookup y = some .local := by rfl)
    (hw : swappedStores [.Tuple [.Name x px, .Name y py] kt pt] (.Tuple [a, b] k2 pt2) X.env = pure (some [x, y]) := by rfl)
    (hs : swapsWithSole [.Tuple [.Name x px, .Name y py] kt pt] (.Tuple [a, b] k2 pt2) pos.line X.env = pure false := by rfl) :
    DS X E (.Assign [.Tuple [.Name x px, .Name y py] kt pt] (.Tuple [a, b] k2 pt2) pos) (gpar i j fa) := by
  refine ps_imp (ps_par hc hN hi hj hij hx hy ha hw hs) fun Z σ H ⟨W, ρ, μ, ok, en, p⟩ => ?_
  refine ⟨W, ρ, μ, ok, en, ?_⟩
  unfold gpar at p
  revert p
  cases fa ρ μ with
  | ex c fs μ1 => exact fun p W' H' d g o r => p W' σ H' d g o (en.mono g.le) r
  | bad => exact fun p => p
  | ok ds μ1 =>
    rw [R.to_ok]
    intro p W1 vs H1 g1 o1 r1
    split at p
    · cases r1 with
      | cons q1 q2 =>
        cases q2 with
        | cons q3 q4 =>
          cases q4
          exact ⟨_, _, rfl, p W1 _ H1 g1 o1 (((en.mono g1.le).set q1 i).set q3 j)⟩
    · exact p.elim
end DL
/-! DL77: a list that changes is lent to a def that only reads it. -/
namespace DL
open PySem PySem.Spec PyProof.Rows L2
mutual
/-- no list within, no handle, no object -/
def flatD : D → Bool
  | .non => true
  | .bl _ => true
  | .int _ => true
  | .str _ => true
  | .tup xs => flatL xs
  | _ => false
def flatL : List D → Bool
  | [] => true
  | x :: xs => flatD x && flatL xs
end
def lent (F : List D → Mu → R D) (ds : List D) (μ : Mu) : R D := match ds with
  | .hdl l :: rest => match μ[l]? with
    | some (.lst xs) => if D.closedL 0 (.lst xs :: rest) = true ∧ xs.length ≤ 1000000 then (match F (.lst xs :: rest) [] with
      | .ok d _ => if flatD d = true then .ok d μ else .bad
      | _ => .bad) else .bad
    | _ => .bad
  | _ => F ds μ
theorem lent_lst (F : List D → Mu → R D) (xs : List D) (rest : List D) (μ : Mu) : lent F (.lst xs :: rest) μ = F (.lst xs :: rest) μ := rfl
theorem lent_hdl {F : List D → Mu → R D} {l : Nat} {xs rest : List D} {μ μ1 : Mu} {d : D} (h : μ[l]? = some (.lst xs)) (c : D.closedL 0 (.lst xs :: rest) = true) (hl : xs.length ≤ 1000000) (e : F (.lst xs :: rest) [] = .ok d μ1) (f : flatD d = true) : lent F (.hdl l :: rest) μ = .ok d μ := by
  unfold lent
  simp only [h]
  rw [if_pos ⟨c, hl⟩, e]
  dsimp only
  rw [if_pos f]
section
variable {K : PySem.W.Frag} {W : Wd} {a : Addr} {ws : List V}
theorem lent_rd {b : Addr} {x : HO} (h : W.S a = some (.lst ws)) (hx : x ≠ .lst ws) (r : Rd W.S b x) : Rd (del W.S a) b x := by
  have ne : b ≠ a := fun z => by
    subst z
    rcases r with r | ⟨o, r⟩
    · rw [h] at r; cases r; exact hx rfl
    · rw [h] at r; cases r
  rcases r with r | ⟨o, r⟩
  · exact .inl (by rw [del_ne ne]; exact r)
  · exact .inr ⟨o, by rw [del_ne ne]; exact r⟩
mutual
theorem Rep.unlend {io : List Addr} (h : W.S a = some (.lst ws)) : ∀ {v : V} {d : D}, Rep K W v d → flatD d = true → Rep K ⟨del W.S a, io⟩ v d
  | _, _, .non, _ => .non
  | _, _, .bl b, _ => .bl b
  | _, _, .int i, _ => .int i
  | _, _, .str x z, _ => .str x z
  | _, _, .tup z q r, f => .tup z (by
      rcases q with q | q
      · exact .inl (lent_rd h (fun z => nomatch z) q)
      · exact .inr q) (Reps.unlend h r (by simpa [flatD] using f))
  | _, _, .lst z q r, f => by simp [flatD] at f
  | _, _, .hdl q, f => by simp [flatD] at f
  | _, _, .cst v, f => by simp [flatD] at f
  | _, _, .glo c, f => by simp [flatD] at f
  | _, _, .obj q n r, f => by simp [flatD] at f
theorem Reps.unlend {io : List Addr} (h : W.S a = some (.lst ws)) : ∀ {vs : List V} {ds : List D}, Reps K W vs ds → flatL ds = true → Reps K ⟨del W.S a, io⟩ vs ds
  | _, _, .nil, _ => .nil
  | _, _, .cons r t, f => by
    simp only [flatL, Bool.and_eq_true] at f
    exact .cons (Rep.unlend h r f.1) (Reps.unlend h t f.2)
end
end
section
variable {K : PySem.W.Frag} {W W' : Wd} {H H' : Hp} {μ : Mu} {a : Addr} {l : Nat} {ws : List V} {xs : List D}
theorem lend_ok (ok : Ok K W H μ) (ha : W.io[l]? = some a) (hm : μ[l]? = some (.lst xs)) (ho : H a = some (.lst ws)) : Ok K ⟨upd W.S a (.lst ws), []⟩ H [] ∧ Le ⟨W.S, []⟩ ⟨upd W.S a (.lst ws), []⟩ := by
  have hn : W.S a = none := ok.apart l a _ ha hm (fun z => nomatch z)
  refine ⟨⟨fun b u e => ?_, rfl, List.nodup_nil, fun l a o e => by simp at e, fun l a o e => by simp at e, ⟨ok.tab.all, fun q hq => ?_⟩⟩, ⟨same_new hn, List.prefix_refl _⟩⟩
  · have e : upd W.S a (.lst ws) b = some u := e
    by_cases z : b = a
    · rw [z] at e ⊢
      rw [upd_same] at e
      rw [ho]; exact e
    · rw [upd_ne z] at e
      exact ok.sub _ _ e
  · exact (upd_ne (ok.tab.ne ho (fun _ z => nomatch z) q hq)).trans (ok.tab.no q hq)
theorem unlend (ok : Ok K W H μ) (ha : W.io[l]? = some a) (hm : μ[l]? = some (.lst xs)) (ho : H a = some (.lst ws)) (g : Go ⟨upd W.S a (.lst ws), []⟩ H W' H') {μ1 : Mu} (o : Ok K W' H' μ1) :
    W'.S a = some (.lst ws) ∧ Go W H ⟨del W'.S a, W.io⟩ H' ∧ Ok K ⟨del W'.S a, W.io⟩ H' μ := by
  have hn : W.S a = none := ok.apart l a _ ha hm (fun z => nomatch z)
  have hS : W'.S a = some (.lst ws) := g.le.s a _ (show upd W.S a (.lst ws) a = _ from upd_same)
  have le : Le W ⟨del W'.S a, W.io⟩ := ⟨fun b u e => by
    show del W'.S a b = _
    rw [del_ne (ne_of_none e hn)]
    exact g.le.s b u (by show upd W.S a (.lst ws) b = _; rw [upd_ne (ne_of_none e hn)]; exact e), List.prefix_refl _⟩
  have nw : ∀ b u, del W'.S a b = some u → W.S b = some u ∨ H b = none := fun b u e => by
    have z : b ≠ a := fun z => by rw [z, del_same] at e; cases e
    rw [del_ne z] at e
    rcases g.newS b u e with q | q | q
    · have q : upd W.S a (.lst ws) b = some u := q
      rw [upd_ne z] at q
      exact .inl q
    · exact .inr q
    · cases q
  refine ⟨hS, ⟨le, fun b u e _ nt => g.kept b u e (by simp) nt, g.grow, fun b e => .inl e, fun b u e => ?_⟩, ⟨fun b u e => ?_, ok.len, ok.nd, fun k b m e1 e2 n => ?_, fun k b m e1 e2 => ?_, ⟨o.tab.all, fun q hq => ?_⟩⟩⟩
  · rcases nw b u e with z | z
    · exact .inl z
    · exact .inr (.inl z)
  · have e : del W'.S a b = some u := e
    have z : b ≠ a := fun z => by rw [z, del_same] at e; cases e
    rw [del_ne z] at e
    exact o.sub b u e
  · show del W'.S a b = none
    cases e : del W'.S a b with
    | none => rfl
    | some u =>
      rcases nw b u e with z | z
      · rw [ok.apart k b m e1 e2 n] at z
        cases z
      · obtain ⟨v, hv, _⟩ := ok.cell k b m e1 e2
        rw [z] at hv
        cases hv
  · obtain ⟨u, hu, cu⟩ := ok.cell k b m e1 e2
    exact ⟨u, g.kept b u hu (by simp) cu.notbl, cu.mono le⟩
  · show del W'.S a q.1 = none
    by_cases z : q.1 = a
    · rw [z, del_same]
    · rw [del_ne z]
      exact o.tab.no q hq
end
theorem FnG.lent {P : Program} {w : World} {K : PySem.W.Frag} {mg : Str → Option Value} {base : Heap} {k : Nat} {f : Addr} {fd : FuncData} {ps : List Str} {F : List D → Mu → R D} (h : FnG P w K mg base k f fd ps F) : FnG P w K mg base k f fd ps (DL.lent F) := by
  refine ⟨fun A outer s H args us vs Q E W ds μ hr hg e0 hl hb rv ok r p => ?_⟩
  have plain : postE K E W H (F ds μ) Q → codeAny (model P w) A (.call (.ref f) args) (CR (L2.CX P w) outer P w H s Q E) s := fun p => h.run A outer s H args us vs Q E W ds μ hr hg e0 hl hb rv ok r p
  cases r with
  | nil => exact plain p
  | @cons v0 vs d0 rest r0 rs =>
    cases r0 with
    | @hdl a l ha =>
      unfold DL.lent at p
      dsimp only at p
      split at p
      · rename_i xs hm
        split at p
        · rename_i hc
          obtain ⟨o, ho, ws, rfl, rx⟩ := ok.cell l a _ ha hm
          obtain ⟨ok0, le0⟩ := lend_ok ok ha hm ho
          have hc1 : D.closedL 0 xs = true ∧ D.closedL 0 rest = true := by simpa [D.closedL, D.closed] using hc.1
          have c1 := rx.cut hc1.1
          have c2 := rs.cut hc1.2
          rw [List.take_zero] at c1 c2
          have r2 : Reps K ⟨upd W.S a (.lst ws), []⟩ (.ref a :: vs) (.lst xs :: rest) := .cons (.lst (le_line hc.2) (.inl (.inl (show upd W.S a (.lst ws) a = _ from upd_same))) (c1.mono le0)) (c2.mono le0)
          split at p
          · rename_i d μ1 hF
            split at p
            · rename_i hf
              refine h.run A outer s H args us (.ref a :: vs) Q E ⟨upd W.S a (.lst ws), []⟩ (.lst xs :: rest) [] hr hg e0 hl hb rv ok0 r2 ?_
              rw [hF]
              intro W' v H' g o r'
              obtain ⟨hS, g2, o2⟩ := unlend ok ha hm ho g o
              exact p _ v H' g2 o2 (Rep.unlend hS r' hf)
            · exact p.elim
          · exact p.elim
        · exact p.elim
      · exact p.elim
    | _ => exact plain p
end DL
/-! DL78: min of two tuples. -/
namespace PySem.W
open PySem
section
variable {prog : Program} {w : World} {A : Around} {E : Value → Shared → Prop} {s : Shared}
theorem call_min_twoH {a b : Value} {Q : Value → Shared → Prop}
    (h : wpAny (model prog w) A.in1 (pyIter (.ref s.heap.objs.size)) (fun it s₂ => ∃ I fp wr G n P St H bt, it = .ref I ∧ WalksS prog w A.in1 I fp wr G n P St ∧ St 0 s₂ ∧ (∀ b ∈ fp, b < s₂.heap.objs.size) ∧ 0 < n ∧
      (∀ b o, H.get? b = some o → b ∉ wr) ∧ (∀ b o, H.get? b = some o → s₂.heap.get? b = some o) ∧ CmpIn prog w A.in1 .Lt H P bt ∧ ∀ v s', P (argBest bt (n - 1)) v → Moved wr G s₂ s' → Q v s') E
      { s with heap := s.heap.push { cls := .type "tuple", data := .seq #[a, b] } }) :
    wpAny (model prog w) A (call (.builtin "min") [a, b]) Q E s := by
  have hname : (toString "min" ++ toString ".loop" : String) = "min.loop" := by decide
  refine call_function_tree F.kind_min F.plain_min F.entry_min (F.args_min2 _ _) ?_
  show wpAny _ A.in1 (Builtin.Builtins.bindParams "min" ["key", "default"] 0 ⟨[], []⟩ >>= _) _ _ s
  refine wpAny_bind (wpAny_of_eq (show Builtin.Builtins.bindParams "min" ["key", "default"] 0 ⟨[], []⟩ = pure [none, none] from rfl) ?_)
  show wpAny _ A.in1 (newTuple [a, b] >>= _) _ _ s
  refine wpAny_bind (wpAny_newObj_type ?_)
  refine wpAny_bind (wpAny_mono h (fun it s₂ h₂ => ?_) fun _ _ e => e)
  obtain ⟨I, fp, wr, G, n, P, St, H, bt, rfl, W, hst, hfp, hn, hw, hkeep, hcmp, hQ⟩ := h₂
  refine wpAny_bind (wpAny_newObj_type ?_)
  have hSf : s₂.heap.objs.size ∉ fp := fun hm => Nat.lt_irrefl _ (hfp _ hm)
  rw [hname]
  refine wpAny_pure ⟨plainId_quiet F.plain_min_loop _, codeAny_min_loop_firstH W H hw bt hcmp s₂.heap.objs.size hSf (fresh_in hkeep) _ hn (fun b o e => Heap.get?_push_of_some _ (hkeep b o e)) (W.frame 0 s₂ _ s₂.toks hst (Nat.le_refl _) fun b _ o e => Heap.get?_push_of_some _ e) (Heap.get?_push_size _ rfl) fun v s' hP hm => ?_⟩
  exact hQ v s' hP (Moved.drop_new (tk := s₂.toks) hm (Nat.le_refl _))
theorem min_two_data {a b : Value} {x y : PyData} {as : List Addr} {Q : Value → Shared → Prop} (hh : A.handled = none) (hr : ReadsAll s.heap [a, b] [x, y] as) (ha : AlikeAll [x, y]) (hu : A.units + 1 + PyData.depthAll [x, y] < cLine)
    (h : ∀ h' tk, (∀ b o, s.heap.get? b = some o → h'.get? b = some o) → Q (if dataLt y x = true then b else a) { s with heap := h', toks := tk }) :
    wpAny (model prog w) A (call (.builtin "min") [a, b]) Q E s := by
  refine call_min_twoH ?_
  have kp : ∀ c o, s.heap.get? c = some o → (s.heap.push { cls := .type "tuple", data := .seq #[a, b] }).get? c = some o := fun c o e => Heap.get?_push_of_some _ e
  have hr1 : ReadsAll (s.heap.push { cls := .type "tuple", data := .seq #[a, b] }) (#[a, b] : Array Value).toList [x, y] as := by
    cases hr with
    | cons r1 t =>
      cases t with
      | cons r2 n =>
        cases n
        exact .cons (reads_keeps kp r1) (.cons (reads_keeps kp r2) .nil)
  have ht : (s.heap.push { cls := .type "tuple", data := .seq #[a, b] }).IsTuple s.heap.objs.size #[a, b] := by
    first
      | exact ⟨_, Heap.get?_push_size _ rfl, rfl, rfl⟩
      | exact ⟨_, Heap.get?_push_size _ rfl, rfl, _, rfl⟩
  refine iter_tupleW (s := { s with heap := s.heap.push { cls := .type "tuple", data := .seq #[a, b] } }) (A := A.in1) hh ht fun s₂ e W st hfp hw hk => ?_
  refine ⟨_, _, _, _, _, _, _, s.heap.push { cls := .type "tuple", data := .seq #[a, b] }, _, rfl, W, st, hfp, (by show 0 < 2; decide), hw, hk, cmpIn_lt (s := { s with heap := s.heap.push { cls := .type "tuple", data := .seq #[a, b] } }) (A := A.in1) hr1 ha (by show A.units + 1 + _ < _; exact hu), fun v s' hP m => ?_⟩
  obtain ⟨h', tk, rfl, hk'⟩ := moved_old e rfl m
  have ev : v = if dataLt y x = true then b else a := by
    have e1 : argBest (fun i j => dataLt ([x, y].getD i .none) ([x, y].getD j .none)) ((#[a, b] : Array Value).size - 1) = if dataLt y x = true then 1 else 0 := rfl
    rw [e1] at hP
    by_cases q : dataLt y x = true
    · rw [if_pos q] at hP ⊢
      exact (Option.some.inj hP).symm
    · rw [if_neg q] at hP ⊢
      exact (Option.some.inj hP).symm
  rw [ev]
  exact h h' tk fun c o e => hk' c o (kp c o e)
end
end PySem.W
namespace DL
open PySem PySem.Spec PyProof.Rows L2
def bMinT : List D → Mu → R D := fun ds μ => match ds with
  | [.tup xs, .tup ys] => match D.pys [.tup xs, .tup ys] with
    | some [p, q] => if keysOk [p, q] = true then .ok (if PySem.W.dataLt q p = true then .tup ys else .tup xs) μ else .bad
    | _ => .bad
  | ds => bMinX ds μ
section
variable {X : Cx} {E : WX}
theorem cx_minT (hc : X.calm = true) (hu : X.A.units + 64 < cLine) : CallX X E (.builtin "min") bMinT := by
  have base := cx_minX (X := X) (E := E) hc hu
  intro pins s σ H xs us Q I rx q
  obtain ⟨E', W, μ, ds, ok, r1, p⟩ := q
  unfold bMinT at p
  split at p
  · rename_i x1 x2
    split at p
    · rename_i p1 p2 hp
      split at p
      · rename_i hk
        have dp := pys_dp ok r1 hp
        cases dp with
        | cons d1 d2 =>
          cases d2 with
          | cons d3 d4 =>
            cases d4
            obtain ⟨u1, u2, rfl, ru1, ru2⟩ := vals2 rx
            obtain ⟨as1, rd1⟩ := Dp.reads I _ _ _ d1 ru1
            obtain ⟨as2, rd2⟩ := Dp.reads I _ _ _ d3 ru2
            have al : PySem.W.AlikeAll [p1, p2] := by
              refine ⟨fun a ha b hb => keysOk_alike hk a ha b hb, fun a ha z => ?_⟩
              unfold keysOk at hk
              rw [Bool.and_eq_true, Bool.and_eq_true, Bool.or_eq_true] at hk
              rcases hk.2.1 with q | q
              · have := List.all_eq_true.mp q a ha
                rw [z] at this
                cases this
              · have := List.all_eq_true.mp q a ha
                rw [z] at this
                cases this
            have dk := keysOk_depth hk
            have d1' := dk p1 (by simp)
            have d2' := dk p2 (by simp)
            refine PySem.W.min_two_data (I.ok.hd hc) (ReadsAll.cons rd1 (ReadsAll.cons rd2 .nil)) al ?_ fun h' tk k => ?_
            · simp only [PyData.depthAll]
              omega
            · cases r1 with
              | cons q1 q2 =>
                cases q2 with
                | cons q3 q4 =>
                  by_cases lt : PySem.W.dataLt p2 p1 = true
                  · rw [if_pos lt] at p ⊢
                    exact ⟨_, H, I.kept k, ru2, p W _ H (Go.refl _ _) ok q3⟩
                  · rw [if_neg lt] at p ⊢
                    exact ⟨_, H, I.kept k, ru1, p W _ H (Go.refl _ _) ok q1⟩
      · exact p.elim
    · exact p.elim
  · exact base pins s σ H xs us Q I rx ⟨E', W, μ, ds, ok, r1, p⟩
end
end DL
/-! DL79: [(k, d[k][c]) for k in d]: a dict is read while it is walked. -/
namespace DL
open PySem PySem.Spec PyProof.Rows L2
def kvsD (c : Int) (ks : List Key) (xs : List D) : List Key → Option (List D)
  | [] => some []
  | k :: rest => match lookK ks xs k with
    | some (.tup zs) => match L2.atI zs c, kvsD c ks xs rest with
      | some y, some ys => some (.tup [kD k, y] :: ys)
      | _, _ => none
    | _ => none
def dkvs (i j : Nat) (c : Int) : FE := fun ρ μ => match ρ[i]? with
  | some (some (.hdl l)) => (match μ[l]? with
    | some (.dct ks xs) => if (walkable ks xs && decide (j < ρ.length)) = true then (match kvsD c ks xs ks with
        | some ys => .ok (.lst ys) μ
        | none => .bad) else .bad
    | _ => .bad)
  | _ => .bad
/-- what one pair wants -/
def TV (K : PySem.W.Frag) (i j : Nat) (c : Int) : TE := fun σ H Q => ∃ (a b : Addr) (kvs : List (Key × V)) (k : Key) (od : Obj) (ws : List V) (w : V), σ[i]? = some (some (.ref a)) ∧ σ[j]? = some (some (kV k)) ∧ H a = some (.frz od (.dK kvs)) ∧ valV kvs k = some (.ref b) ∧ SqT K H b ws ∧ L2.atI ws c = some w ∧ ∀ p, H p = none → Q (.ref p) (upd H p (.tup [kV k, w]))
theorem kvs_at {c : Int} {ks : List Key} {xs : List D} : ∀ {rest : List Key} {ys : List D}, kvsD c ks xs rest = some ys → ys.length = rest.length ∧ ∀ (n : Nat) k, rest[n]? = some k → ∃ zs y, lookK ks xs k = some (.tup zs) ∧ L2.atI zs c = some y ∧ ys[n]? = some (.tup [kD k, y])
  | [], ys, h => by
    simp [kvsD] at h
    subst h
    exact ⟨rfl, fun n k e => by simp at e⟩
  | k0 :: rest, ys, h => by
    unfold kvsD at h
    split at h
    · rename_i zs hz
      split at h
      · rename_i y ys' hy hr
        cases h
        obtain ⟨h1, h2⟩ := kvs_at hr
        refine ⟨by simp [h1], fun n k e => ?_⟩
        cases n with
        | zero =>
          simp at e
          subst e
          exact ⟨zs, y, hz, hy, rfl⟩
        | succ n => exact h2 n k (by simpa using e)
      · cases h
    · cases h
section
variable {X : Cx} {E : WX}
theorem lcV_run {l i j : Nat} {c : Int} {σ : L2.St} {W1 : Wd} {H1 : Hp} {μ1 : Mu} {ρ : En} {J : It} {Q : VK} {E' : XK} {a : Addr} {od : Obj} {ks : List Key} {vs : List V} {xs ys : List D} (hij : i ≠ j) (o1 : Ok X.K W1 H1 μ1) (en : Envs X.K W1 σ ρ) (hi : ρ[i]? = some (some (.hdl l))) (hj : j < ρ.length)
    (ha : W1.io[l]? = some a) (hS : W1.S a = some (.frz od (.dK (ks.zip vs)))) (rx : Reps X.K W1 vs xs) (wk : Walk X.K W1 J (keysD ks xs)) (hy : kvsD c ks xs ks = some ys) (hw : ks.all keyOk = true)
    (p : postE X.K E' W1 H1 (.ok (.lst ys) μ1) Q) : bLc (rG X.K (.nm j)) (rT X.K E0 tyes) (TV X.K i j c) [j] σ J H1 Q := by
  intro Dn hD
  obtain ⟨yl, ya⟩ := kvs_at hy
  have hz := wk.len
  have kl : (keysD ks xs).length = ks.length := by simp [keysD]
  have en1 := en.wipe [j]
  refine ⟨fun n m H2 => m = ks.length - n ∧ n ≤ ks.length ∧ ∃ W2 acc, Go W1 H1 W2 H2 ∧ Ok X.K W2 H2 μ1 ∧ H2 Dn = some (.lst acc) ∧ Dn ∉ W2.io ∧ W2.S Dn = none ∧ Reps X.K W2 acc (ys.take n) ∧ acc.length ≤ n,
    ⟨ks.length, by simp, Nat.zero_le _, W1, [], (Go.refl _ _).other hD, o1.other (o1.snone hD) (o1.notio hD) (.inl hD), upd_same, o1.notio hD, o1.snone hD, by rw [List.take_zero]; exact .nil, Nat.le_refl _⟩, ?_⟩
  rintro n m H2 ⟨rfl, hn, W2, acc, g2, o2, hacc, n2, s2, r2, l2⟩
  have sm : Same W1.S H2 := g2.le.s.trans o2.sub
  by_cases hlt : n < ks.length
  · refine .inr ⟨wk.go H2 n sm (by rw [kl]; exact hlt), fun H3 => ∃ W3 acc, Go W1 H1 W3 H3 ∧ Ok X.K W3 H3 μ1 ∧ H3 Dn = some (.lst acc) ∧ Dn ∉ W3.io ∧ W3.S Dn = none ∧ Reps X.K W3 acc (ys.take (n + 1)) ∧ acc.length ≤ n + 1,
      fun H3 ⟨W3, acc, q⟩ => ⟨ks.length - (n + 1), by omega, rfl, hlt, W3, acc, q⟩, fun x H3 y => ?_⟩
    have hk : ks[n]? = some ks[n] := List.getElem?_eq_getElem hlt
    have hkd : (keysD ks xs)[n]? = some (kD ks[n]) := by
      unfold keysD
      rw [List.getElem?_map, hk]
      rfl
    obtain ⟨W3, g3, o3, r3⟩ := wk.yld H2 n x H3 sm y (kD ks[n]) hkd W2 μ1 g2.le o2
    obtain ⟨a3, s3, n3⟩ := g3.out hacc s2 n2
    obtain ⟨zs, y0, hlk, hat, hys⟩ := ya n ks[n] hk
    refine ⟨W3, wipeD ρ [j], (wipeD ρ [j]).set j (some (kD ks[n])), kD ks[n], μ1, o3, en1.mono (g2.le.trans g3.le), r3, asg_nm _ _ _, fun σ4 en4 b4 => ⟨wipe_but (by simp [Tg.slots]) b4, ?_⟩⟩
    refine ⟨W3, _, μ1, o3, en4, ?_⟩
    rw [ap_tyes]
    intro W4 H4 g4 o4
    obtain ⟨a4, s4, n4⟩ := g4.out a3 s3 n3
    rw [if_pos rfl]
    have le4 : Le W1 W4 := (g2.le.trans g3.le).trans g4.le
    have en5 := en4.mono g4.le
    have wl : (wipeD ρ [j]).length = ρ.length := by simp [wipeD]
    have e1 : ((wipeD ρ [j]).set j (some (kD ks[n])))[i]? = some (some (.hdl l)) := by
      rw [List.getElem?_set_ne (Ne.symm hij)]
      simp only [wipeD, List.foldl_cons, List.foldl_nil]
      rw [List.getElem?_set_ne (Ne.symm hij)]
      exact hi
    have e2 : ((wipeD ρ [j]).set j (some (kD ks[n])))[j]? = some (some (kD ks[n])) := List.getElem?_set_self (by rw [wl]; exact hj)
    obtain ⟨u1, f1, q1⟩ := en5.at_ i _ e1
    obtain ⟨u2, f2, q2⟩ := en5.at_ j _ e2
    have eu1 : u1 = .ref a := by
      cases q1 with
      | hdl h =>
        rw [prefix_get le4.io ha] at h
        cases h
        rfl
    have hkk : keyD (kD ks[n]) = some ks[n] := by cases ks[n] <;> rfl
    have eu2 : u2 = kV ks[n] := key_rep q2 hkk
    subst eu1
    subst eu2
    have hS4 : W4.S a = some (.frz od (.dK (ks.zip vs))) := le4.s a _ hS
    have lr := look_rep (j := ks[n]) (ks := ks) (rx.mono le4)
    rw [hlk] at lr
    dsimp only at lr
    obtain ⟨v, hv, rv⟩ := lr
    cases rv with
    | @tup b ws _ z sq rs =>
      obtain ⟨w, hw1, rw1⟩ := rs.atI hat
      refine ⟨a, b, ks.zip vs, ks[n], od, ws, w, f1, f2, o4.sub _ _ hS4, hv, same_t o4.sub sq, hw1, fun p hp => ?_⟩
      have g5 := Go.new (o := .tup [kV ks[n], w]) o4 hp
      have o5 := Ok.new (o := .tup [kV ks[n], w]) o4 hp
      obtain ⟨a5, s5, n5⟩ := g5.out a4 s4 n4
      have ko : keyOk ks[n] = true := List.all_eq_true.mp hw _ (List.mem_of_getElem? hk)
      have rt : Rep X.K (W4.new p (.tup [kV ks[n], w])) (.ref p) (.tup [kD ks[n], y0]) := rep_tup o4 hp (by show 2 ≤ sizeLine; decide) (.cons (kD_rep ko) (.cons rw1 .nil))
      have tk : ys.take (n + 1) = ys.take n ++ [.tup [kD ks[n], y0]] := by
        rw [List.take_succ, hys]
        rfl
      refine ⟨acc, a5, by omega, W4.new p (.tup [kV ks[n], w]), acc ++ [.ref p], (((g2.trans g3).trans g4).trans g5).other hD, o5.other s5 n5 (.inr ⟨_, a5, (fun _ z => nomatch z), (fun _ z => nomatch z)⟩), upd_same, n5, s5, ?_, by simp; omega⟩
      rw [tk]
      exact (r2.mono ((g3.le.trans g4.le).trans g5.le)).app (.cons rt .nil)
  · have ei : n = ks.length := by omega
    subst ei
    have tk : ys.take ks.length = ys := List.take_of_length_le (by omega)
    rw [tk] at r2
    refine .inl ⟨wk.stop H2 _ sm (by rw [kl]; exact Nat.le_refl _), ?_⟩
    have lD : Le W2 (W2.new Dn (.lst acc)) := ⟨same_new s2, List.prefix_refl _⟩
    refine p (W2.new Dn (.lst acc)) (.ref Dn) H2 ⟨g2.le.trans lD, g2.kept, g2.grow, g2.newio, fun a u e => ?_⟩ ?_ ?_
    · by_cases z : a = Dn
      · rw [z]; exact .inr (.inl hD)
      · exact g2.newS a u (by rw [← e]; exact (upd_ne z).symm)
    · refine ⟨fun a u e => ?_, o2.len, o2.nd, fun l a m e1 e2 n => ?_, fun l a m e1 e2 => (o2.cell l a m e1 e2).mono lD fun u e => e, ⟨o2.tab.all, fun q hq => (upd_ne (o2.tab.ne hacc (fun _ z => nomatch z) q hq)).trans (o2.tab.no q hq)⟩⟩
      · by_cases z : a = Dn
        · have e : upd W2.S Dn (.lst acc) a = some u := e
          rw [z, upd_same] at e
          rw [z, hacc, e]
        · have e : upd W2.S Dn (.lst acc) a = some u := e
          rw [upd_ne z] at e
          exact o2.sub a u e
      · show upd W2.S Dn (.lst acc) a = none
        have z : a ≠ Dn := fun z => n2 (by rw [← z]; exact List.mem_of_getElem? e1)
        rw [upd_ne z]
        exact o2.apart l a m e1 e2 n
    · refine .lst ?_ (.inl (.inl (show upd W2.S Dn (.lst acc) Dn = _ from upd_same))) (r2.mono lD)
      rw [← r2.length]
      omega
/-- the dict locked meanwhile -/
theorem lockV_of {i j : Nat} {c : Int} (hij : i ≠ j) :
    ∀ σ H Q, rE X.K E (dkvs i j c) σ H Q → tLockE (fun σ H Q => iAny Itk (rE X.K E0 (dvar i)) σ H fun Jx H1 => bLc (rG X.K (.nm j)) (rT X.K E0 tyes) (TV X.K i j c) [j] σ Jx H1 Q) σ H Q := fun σ H Q ⟨W, ρ, μ, ok, en, p⟩ => by
  unfold dkvs at p
  split at p
  · rename_i l hf
    split at p
    · rename_i ks xs hm
      split at p
      · rename_i hc
        rw [Bool.and_eq_true] at hc
        obtain ⟨hc, hjl⟩ := hc
        have hjl := of_decide_eq_true hjl
        split at p
        · rename_i ys hys
          obtain ⟨a, ha⟩ : ∃ a, W.io[l]? = some a := ⟨_, List.getElem?_eq_getElem (by rw [ok.len]; exact (List.getElem?_eq_some_iff.mp hm).1)⟩
          obtain ⟨o, ho, vs, rfl, hl, rs⟩ := ok.cell l a _ ha hm
          refine ⟨a, _, ho, trivial, fun od => ?_⟩
          obtain ⟨ok1, le1⟩ := lock_ok (od := od) (u := .dK (ks.zip vs)) ok ha hm (fun z => nomatch z)
          refine ⟨_, ρ, _, ok1, en.mono le1, ?_⟩
          have dv1 : dvar i ρ (μ.set l .gone) = .ok (.hdl l) (μ.set l .gone) := by simp [hf]
          rw [dv1]
          intro W' v H' g o' r
          cases r with
          | @hdl a' _ hb =>
            have e := prefix_get g.le.io ha
            rw [e] at hb
            cases hb
            have hS : W'.S a = some (.frz od (.dK (ks.zip vs))) := g.le.s a _ (show upd W.S a (.frz od (.dK (ks.zip vs))) a = _ from upd_same)
            refine ⟨a, od, ks.zip vs, rfl, o'.sub _ _ hS, ?_⟩
            have rs' := rs.mono (le1.trans g.le)
            have hw := hc
            unfold walkable at hw
            simp only [Bool.and_eq_true, decide_eq_true_eq] at hw
            refine lcV_run (l := l) (E' := WE E σ) hij o' (en.mono (le1.trans g.le)) hf hjl e hS rs' (lkw_keys W' a od ks vs xs hS hl rs' hc) hys hw.2.2 ?_
            intro W2 v2 H2 g2 o2 r2
            obtain ⟨e1, e2, e3, e4⟩ := unlock_ok ok ha hm (fun z => nomatch z) ho aside_dK ⟨vs, rfl, hl, rs⟩ (g.trans g2) o2
            have em : (μ.set l .gone).set l (.dct ks xs) = μ := by
              rw [List.set_set]
              apply List.ext_getElem?
              intro n
              by_cases z : l = n
              · subst z
                rw [List.getElem?_set_self (List.getElem?_eq_some_iff.mp hm).1, hm]
              · rw [List.getElem?_set_ne z]
            rw [em] at e3
            exact ⟨e1, p _ v2 _ e4 e3 (r2.less e2 aside_dK)⟩
        · exact p.elim
      · exact p.elim
    · exact p.elim
  · exact p.elim
theorem pe_kv {Y : Cx} (i j : Nat) {c : Int} {x d : Str} {px pd px2 ps ps2 pc pos : Pos} {x1 kk} (hu : Y.A.units + 64 < cLine) (hi : Y.N[i]? = some d := by rfl) (hj : Y.N[j]? = some x := by rfl) (hvi : Vis Y.env.scope d := by first | exact Or.inl rfl | exact Or.inr (Or.inl rfl) | exact Or.inr (Or.inr rfl)) (hvj : Vis Y.env.scope x := by first | exact Or.inl rfl | exact Or.inr (Or.inl rfl) | exact Or.inr (Or.inr rfl)) (hd1 : (d == ("__debug__" : Str)) = false := by decide) (hd2 : (d == ("__classdict__" : Str)) = false := by decide) (hx1 : (x == ("__debug__" : Str)) = false := by decide) (hx2 : (x == ("__classdict__" : Str)) = false := by decide)
    (st : starEach [.Name x px, .Subscript (.Subscript (.Name d pd) (.Name x px2) ps) (.Constant (.int c) kk pc) ps2] Y.env = (false, eval (.Name x px) Y.env) :: starEach [.Subscript (.Subscript (.Name d pd) (.Name x px2) ps) (.Constant (.int c) kk pc) ps2] Y.env := by rfl)
    (st2 : starEach [.Subscript (.Subscript (.Name d pd) (.Name x px2) ps) (.Constant (.int c) kk pc) ps2] Y.env = (false, eval (.Subscript (.Subscript (.Name d pd) (.Name x px2) ps) (.Constant (.int c) kk pc) ps2) Y.env) :: starEach [] Y.env := by rfl) :
    PE Y (.Tuple [.Name x px, .Subscript (.Subscript (.Name d pd) (.Name x px2) ps) (.Constant (.int c) kk pc) ps2] x1 pos) (TV Y.K i j c) := by
  refine pe_imp (pe_tup (pa_cons (pe_var hj hvj hx1 hx2) (pa_cons (pe_ix L2.ix_tup (pe_ix (ix_dict (by omega)) (pe_var hi hvi hd1 hd2) (pe_var hj hvj hx1 hx2) (fun _ _ => rfl)) pe_int (fun _ _ => rfl)) pa_nil st2) st)) fun σ H Q ⟨a, b, kvs, k, od, ws, w, h1, h2, h3, h4, h5, h6, q⟩ => ?_
  refine ⟨kV k, h2, .ref a, h1, kV k, h2, a, .ref b, rfl, .inl ⟨kvs, k, .inr ⟨od, h3⟩, rfl, h4.symm⟩, b, ws, c, w, rfl, rfl, h5, h6, ?_⟩
  exact ⟨by show 2 ≤ sizeLine; decide, q⟩
theorem de_kvs (i j : Nat) {x d : Str} {px px0 pd pd0 px2 ps ps2 pc tpos pos : Pos} {x1 : Nat} {kk2} {c : Int} {scope : Scope} (hc : X.calm = true) (hN : X.N.Nodup) (ok : BlkOk X.N X.env.scope scope [(x, j)]) (hd0 : DE X E0 (.Name d pd0) (dvar i))
    (hg : ∀ (s : Shared) (H : Hp) (C : Addr) (cl : List (Str × Addr)) (fp : List Addr), DG (X.blk s H scope (compEnvC scope cl C X.env) fp) (.Name x px0) (.nm j))
    (he : ∀ (s : Shared) (H : Hp) (C : Addr) (cl : List (Str × Addr)) (fp : List Addr), PE (X.blk s H scope (compEnvC scope cl C X.env) fp) (.Tuple [.Name x px, .Subscript (.Subscript (.Name d pd) (.Name x px2) ps) (.Constant (.int c) kk2 pc) ps2] x1 tpos) (TV X.K i j c))
    (hij : i ≠ j := by decide) (hs : ∀ y, foldedSetIterable (.Name d pd0) X.env y = pure y := by intro _; rfl) :
    DE X E (.ListComp (.Tuple [.Name x px, .Subscript (.Subscript (.Name d pd) (.Name x px2) ps) (.Constant (.int c) kk2 pc) ps2] x1 tpos) [⟨.Name x px0, .Name d pd0, [], 0⟩] scope pos) (dkvs i j c) :=
  pe_imp (pe_lock (pe_lc (te := TV X.K i j c) (g := rG X.K (.nm j)) (tt := rT X.K E0 tyes) hc hN (dil_keys hd0).pi ok hg (fun s H C cl fp => dts_nil) he hs)) (lockV_of hij)
end
end DL
/-! DL80: sum of a list of numbers. -/
namespace DL
open PySem PySem.Spec PyProof.Rows L2
def bSumI : List D → Mu → R D := fun ds μ => match ds with
  | [.lst es] => match intsD es with
    | some ns => .ok (.int ns.sum) μ
    | none => .bad
  | _ => .bad
section
variable {X : Cx} {E : WX}
theorem cx_sum (hc : X.calm = true) : CallX X E (.builtin "sum") bSumI := callx fun W H μ ds xs Q ok r p => by
  unfold bSumI at p
  split at p
  · rename_i es
    split at p
    · rename_i ns hn
      cases r with
      | cons r1 r2 =>
        cases r2
        cases r1 with
        | lst z h q =>
          have e := intsD_rep q hn
          subst e
          exact ⟨_, cr_sum hc, _, ns, rfl, (same_lq ok.sub h).sq, post_pure ok p (.int _)⟩
    · exact p.elim
  · exact p.elim
end
end DL
/-! DL81: exceptions as values: how they are made. -/
namespace DL
open PySem L2 PySem.Spec PyProof.Rows PySem.HandSPX
theorem exv_ok {P : Program} {w : World} {H : Hp} {h : Heap} {e C : Addr} {o : Obj} {fv : Array Value} {d : Option Addr} (he : h.get? e = some o) (h1 : o.cls = .ref C) (h2 : o.dict = d) (h3 : o.data = .fields fv) : ObjOk P w H h e (exv e C d) :=
  ⟨⟨o, he, h1, h2, fv, h3⟩, ⟨_, he⟩, fun h1 h2 z k => by
    obtain ⟨o, q, t⟩ := z
    exact ⟨o, k _ q, t⟩⟩
section
variable {X : Cx} {pins : List (Addr × Obj)} {σ : L2.St} {H : Hp}
/-- an exception that was made is one of the things that are known -/
theorem inv_exv {a C : Addr} {oe : Obj} {vs : Array Value} {sI s' : Shared} {d : Option Addr} (I : Inv X pins σ H sI) (k : ∀ b o, sI.heap.get? b = some o → s'.heap.get? b = some o) (hn : sI.heap.get? a = none) (ho : s'.heap.get? a = some oe) (hz : Zc (.ref C) d oe) (hd : oe.data = .fields vs) (os : s'.os = sI.os) (bg : AllBare s'.gens) (hH : H a = none) :
    Inv X pins σ (upd H a (exv a C d)) s' := by
  obtain ⟨c1, c2⟩ := hz
  obtain ⟨h', g', d', t', o'⟩ := s'
  have hok : HOk X.prog X.w (upd H a (exv a C d)) h' := fun b u e => by
    by_cases hb : b = a
    · subst hb
      rw [upd_same] at e
      cases e
      exact exv_ok ho c1 c2 hd
    · rw [upd_ne hb] at e
      exact (I.hok b u e).stay (fun c v _ q => k c v q) (fun c q => by rw [upd_ne (ne_of_none q hH)]; exact q) fun c xs q => by rw [upd_ne (ne_of_none q hH)]; exact q
  have U : Un (frs X.stack) [] H (upd H a (exv a C d)) sI.heap h' :=
    { keep := fun b u q _ _ _ => k b u q
      slot := fun b u q _ _ _ => ⟨u.slots, k b u q⟩
      free := fun b u q n _ => by rw [upd_ne (fun z => by rw [z, hn] at q; cases q)]; exact n
      there := fun b u q _ => ⟨u, k b u q⟩
      tups := fun b xs q => by rw [upd_ne (ne_of_none q hH)]; exact q
      frzs := fun b u xs q => by rw [upd_ne (ne_of_none q hH)]; exact q
      tbls := fun b ps q => ⟨#[], by rw [upd_ne (ne_of_none q hH), q]; simp⟩ }
  exact I.call' (ch := []) os U hok bg (fun b z => absurd z (by simp))
theorem pe_of_mk {e : Expr} {t : L2.St → Hp → XK → Prop} (h : PMk X e t) : PE X e (fun σ H Q => t σ H fun cls d H' => ∃ C, cls = .ref C ∧ ∀ a, H' a = none → Q (.ref a) (upd H' a (exv a C d))) :=
  ⟨fun pins s σ H Q I q => wpAny_mono (h pins s σ H _ I q) (fun u s1 z => by
    obtain ⟨a, oe, vs, sI, H', cls, d, rfl, I', k, hn, ho, hz, hd, _, hH, os, bg, _, C, rfl, q'⟩ := z
    exact ⟨.ref a, _, inv_exv I' k hn ho hz hd os bg hH, rfl, q' a hH⟩) fun _ _ z => z⟩
theorem del_upd {H1 H2 : Hp} {a dx : Addr} {o : HO} (ha : H1 a = none) (h : ∀ b, b ≠ a → b ≠ dx → H2 b = H1 b) : upd (del H2 a) dx o = upd H1 dx o := by
  funext b
  by_cases h1 : b = dx
  · rw [h1, upd_same, upd_same]
  · rw [upd_ne h1, upd_ne h1]
    by_cases h2 : b = a
    · rw [h2, del_same, ha]
    · rw [del_ne h2, h b h2 h1]
end
/-- one of such a class, of such values -/
def dexcV (c : Nat) (ns : List Str) (ds : List D) (μ : Mu) : R D := if ds.length = ns.length then .ok (.exc c (ns.reverse.zip ds.reverse)) μ else .bad
/-- C(e, ..) -/
def dexc (c : Nat) (ns : List Str) (fa : FA) : FE := fun ρ μ => (fa ρ μ).bind fun ds μ1 => dexcV c ns ds μ1
/-- C(k = e, ..) -/
def dexcK (c : Nat) (ns : List Str) (g : List D → List D) (fk : FA) : FE := fun ρ μ => (fk ρ μ).bind fun es μ1 => dexcV c ns (g es) μ1
@[simp] theorem ap_exc (c : Nat) (ns : List Str) (fa : FA) (ρ : En) (μ : Mu) : dexc c ns fa ρ μ = (fa ρ μ).bind fun ds μ1 => dexcV c ns ds μ1 := of_eq_true (eq_self _)
@[simp] theorem ap_excK (c : Nat) (ns : List Str) (g : List D → List D) (fk : FA) (ρ : En) (μ : Mu) : dexcK c ns g fk ρ μ = (fk ρ μ).bind fun es μ1 => dexcV c ns (g es) μ1 := of_eq_true (eq_self _)
section
variable {K : PySem.W.Frag} {E : XK} {W : Wd} {H : Hp} {μ : Mu} {vs : List V} {ds : List D} {Q : VK} {c : Nat} {f g : Str}
theorem exc_done1 (ok : Ok K W H μ) (r : Reps K W vs ds) (p : postE K E W H (dexcV c [f] ds μ) Q) : ∃ y, vs = [y] ∧ ∀ dx, H dx = none → ∀ a, upd H dx (.xd [(f, y)]) a = none → Q (.ref a) (upd (upd H dx (.xd [(f, y)])) a (exv a (cl K c) (some dx))) := by
  unfold dexcV at p
  split at p
  · rename_i hl
    match ds, r, hl, p with
    | [d], .cons (v := v) r .nil, _, p =>
      refine ⟨v, rfl, fun dx hd a ha => ?_⟩
      have p : postE K E W H (.ok (.exc c [(f, d)]) μ) Q := p
      have g2 := Go.new (o := .xd [(f, v)]) ok hd
      have o2 := Ok.new (o := .xd [(f, v)]) ok hd
      have g3 := Go.new (o := exv a (cl K c) (some dx)) o2 ha
      have o3 := Ok.new (o := exv a (cl K c) (some dx)) o2 ha
      have ne : dx ≠ a := fun z => by rw [z, upd_same] at ha; cases ha
      exact p _ _ _ (g2.trans g3) o3 (.exc (ns := [f]) (vs := [v]) (.inr ⟨dx, upd_same, by show upd _ a _ dx = _; rw [upd_ne ne]; exact upd_same, rfl⟩) (.cons (r.mono (g2.le.trans g3.le)) .nil))
  · exact p.elim
theorem exc_done2 (ok : Ok K W H μ) (r : Reps K W vs ds) (p : postE K E W H (dexcV c [f, g] ds μ) Q) : ∃ y z, vs = [y, z] ∧ ∀ dx, H dx = none → ∀ a, upd H dx (.xd [(g, z), (f, y)]) a = none → Q (.ref a) (upd (upd H dx (.xd [(g, z), (f, y)])) a (exv a (cl K c) (some dx))) := by
  unfold dexcV at p
  split at p
  · rename_i hl
    match ds, r, hl, p with
    | [d, e], .cons (v := v) r (.cons (v := z) r2 .nil), _, p =>
      refine ⟨v, z, rfl, fun dx hd a ha => ?_⟩
      have p : postE K E W H (.ok (.exc c [(g, e), (f, d)]) μ) Q := p
      have g2 := Go.new (o := .xd [(g, z), (f, v)]) ok hd
      have o2 := Ok.new (o := .xd [(g, z), (f, v)]) ok hd
      have g3 := Go.new (o := exv a (cl K c) (some dx)) o2 ha
      have o3 := Ok.new (o := exv a (cl K c) (some dx)) o2 ha
      have ne : dx ≠ a := fun z => by rw [z, upd_same] at ha; cases ha
      exact p _ _ _ (g2.trans g3) o3 (.exc (ns := [g, f]) (vs := [z, v]) (.inr ⟨dx, upd_same, by show upd _ a _ dx = _; rw [upd_ne ne]; exact upd_same, rfl⟩) (.cons (r2.mono (g2.le.trans g3.le)) (.cons (r.mono (g2.le.trans g3.le)) .nil)))
  · exact p.elim
end
/-- a call by keywords alone -/
structure XDfl (K : PySem.W.Frag) (fd : FuncData) (ps ks : List Str) (g : {α : Type} → List α → List α) : Prop where
  to : ∀ (s : Shared) (a : Value) (ws : List Value), ws.length = ks.length → BindsTo s fd ⟨[a], ks.zip ws⟩ (ps.zip (a :: g ws))
  rel : ∀ {zs : List V} {ws : List Value}, Vals zs ws → Vals (g zs) (g ws)
  rep : ∀ (W : Wd) (zs : List V) (es : List D), Reps K W zs es → Reps K W (g zs) (g es)
theorem xdfl {K : PySem.W.Frag} {x qual : Str} {params : Arguments} {body : List Stmt} {scope : Scope} {f : Addr} {fd : FuncData} {ps : List Str} (F : FunD K x qual params body scope [] [] f fd) (ks : List Str) (g : {α : Type} → List α → List α)
    (hrel : ∀ {zs : List V} {ws : List Value}, Vals zs ws → Vals (g zs) (g ws)) (hrep : ∀ (W : Wd) (zs : List V) (es : List D), Reps K W zs es → Reps K W (g zs) (g es))
    (h : ∀ (kV doc pm : Value) (an : Option Addr) (cdv ct : Value) (a : Value) (ws : List Value), ws.length = ks.length → bindArgs (PySem.W.fnOf x qual params body scope .none kV doc pm an cdv ct) ⟨[a], ks.zip ws⟩ = pure (ps.zip (a :: g ws))) : XDfl K fd ps ks g := by
  obtain ⟨oc, od, dV, kV, doc, pm, an, cdv, ct, osl, rfl, lk, hcd, hD, hK⟩ := F.ex
  rcases hD with ⟨_, rfl⟩ | ⟨e, _⟩
  · exact ⟨fun s a ws hl => BindsTo.of_eq (h kV doc pm an cdv ct a ws hl), hrel, hrep⟩
  · exact absurd rfl e
section
variable {X : Cx} {E : WX} {k c : Nat} {fI : Addr} {fd : FuncData} {ps ks : List Str} {i : String} {x f g : Str} {p pos pos' : Pos} {e e2 : Expr} {es : List Expr} {kws : List Keyword} {fa fk : FA} {gp : {α : Type} → List α → List α}
theorem de_exc0 (T : OexG X.K (cl X.K c) i) (iC : PySem.W.findIn X.K (.ref (cl X.K c)) "__init__" = some (some (.ref fI))) (tI : PySem.W.typeIn X.K (.ref fI) = some (.type "function"))
    (F1 : FnOk X.prog X.w X.K X.mg X.base (L2.CX X.prog X.w) k fI fd ps (sp0 (cl X.K c))) (hb : Binds X.K fd ps []) (C : Cal X E (k + 1)) (hm : X.mg x = some (.ref (cl X.K c))) (hg : Gl X x := by rfl) (hdb : (x == ("__debug__" : Str)) = false := by decide) :
    DE X E (.Call (.Name x p) [] [] pos) (dexc c [] aNil) := by
  have pm : PMk X (.Call (.Name x p) [] [] pos) (fun σ H Q => Q (.ref (cl X.K c)) none H) := fun pins s σ H Q I q => by
    refine wpAny_Call_Name_kw (ld_glob I hg hm ?_ hdb)
    exact PySem.W.callWith_K0 I.kIn T.kC (run_oex (us := []) (vs := []) T iC tI F1 C.room hb I .nil (by show 0 ≤ 1000; decide) fun a ha => ⟨a, rfl, upd_same, rfl, .inl ⟨rfl, q⟩⟩)
  refine pe_imp (pe_of_mk pm) fun σ H Q ⟨W, ρ, μ, ok, en, p⟩ => ⟨_, rfl, fun a ha => ?_⟩
  have p : postE X.K _ W H (.ok (.exc c []) μ) Q := p
  exact p _ _ _ (Go.new ok ha) (ok.new ha) (.exc (ns := []) (.inl ⟨upd_same, rfl, rfl⟩) .nil)
theorem de_exc1 (T : OexG X.K (cl X.K c) i) (iC : PySem.W.findIn X.K (.ref (cl X.K c)) "__init__" = some (some (.ref fI))) (tI : PySem.W.typeIn X.K (.ref fI) = some (.type "function"))
    (F1 : FnOk X.prog X.w X.K X.mg X.base (L2.CX X.prog X.w) k fI fd ps (sp1 (cl X.K c) f)) (hb : Binds X.K fd ps []) (C : Cal X E (k + 1)) (hm : X.mg x = some (.ref (cl X.K c))) (ha : DA X E [e] fa) (hg : Gl X x := by rfl) (hdb : (x == ("__debug__" : Str)) = false := by decide)
    (he : starEach [e] X.env = (false, eval e X.env) :: starEach [] X.env := by rfl) :
    DE X E (.Call (.Name x p) [e] [] pos) (dexc c [f] fa) := by
  have pm : PMk X (.Call (.Name x p) [e] [] pos) (fun σ H Q => rA X.K E fa σ H fun vs H1 => ∃ y, vs = [y] ∧ ∀ d, H1 d = none → Q (.ref (cl X.K c)) (some d) (upd H1 d (.xd [(f, y)]))) := fun pins s σ H Q I q => by
    refine wpAny_Call_Name_kw (ld_glob I hg hm ?_ hdb)
    refine PySem.W.callWith_K (h₀ := X.base) I.ok.mod.kin T.kC (thn (ha.run pos pins s σ H _ I q) fun us s1 ⟨vs, H1, I1, r1, y, ev, q1⟩ => ⟨I1.kIn, ?_⟩) he (by rfl)
    subst ev
    refine run_oex T iC tI F1 C.room hb I1 r1 (by show 1 ≤ 1000; decide) fun a ha => ⟨a, y, rfl, upd_same, fun dx hd ne => ⟨rfl, .inr ⟨dx, [(f, y)], upd_same, by rw [upd_ne ne, upd_same], by rw [upd_ne ne] at hd; exact hd, ?_⟩⟩⟩
    have hd1 : H1 dx = none := by rw [upd_ne ne] at hd; exact hd
    rw [del_upd ha fun b h1 h2 => by rw [upd_ne h1, upd_ne h2, upd_ne h1]]
    exact q1 dx hd1
  exact pe_imp (pe_of_mk pm) fun σ H Q ⟨W, ρ, μ, ok, en, p⟩ => seqA p ok en fun ds μ1 W1 xs H1 g1 o1 en1 r p1 => by
    obtain ⟨y, ev, q⟩ := exc_done1 o1 r p1
    exact ⟨y, ev, fun dx hd => ⟨_, rfl, fun a ha => q dx hd a ha⟩⟩
theorem de_exc2 (T : OexG X.K (cl X.K c) i) (iC : PySem.W.findIn X.K (.ref (cl X.K c)) "__init__" = some (some (.ref fI))) (tI : PySem.W.typeIn X.K (.ref fI) = some (.type "function"))
    (F1 : FnOk X.prog X.w X.K X.mg X.base (L2.CX X.prog X.w) k fI fd ps (sp2 (cl X.K c) f g)) (hb : Binds X.K fd ps []) (C : Cal X E (k + 1)) (hm : X.mg x = some (.ref (cl X.K c))) (ha : DA X E [e, e2] fa) (hg : Gl X x := by rfl) (hdb : (x == ("__debug__" : Str)) = false := by decide)
    (he : starEach [e, e2] X.env = (false, eval e X.env) :: starEach [e2] X.env := by rfl) (hpl : (backTo pos (starEach [e2] X.env)).any (·.1) = false := by rfl) :
    DE X E (.Call (.Name x p) [e, e2] [] pos) (dexc c [f, g] fa) := by
  have pm : PMk X (.Call (.Name x p) [e, e2] [] pos) (fun σ H Q => rA X.K E fa σ H fun vs H1 => ∃ y z, vs = [y, z] ∧ ∀ d, H1 d = none → Q (.ref (cl X.K c)) (some d) (upd H1 d (.xd [(g, z), (f, y)]))) := fun pins s σ H Q I q => by
    refine wpAny_Call_Name_kw (ld_glob I hg hm ?_ hdb)
    refine PySem.W.callWith_K (h₀ := X.base) I.ok.mod.kin T.kC (thn (ha.run pos pins s σ H _ I q) fun us s1 ⟨vs, H1, I1, r1, y, z, ev, q1⟩ => ⟨I1.kIn, ?_⟩) he hpl
    subst ev
    refine run_oex T iC tI F1 C.room hb I1 r1 (by show 2 ≤ 1000; decide) fun a ha => ⟨a, y, z, rfl, upd_same, fun dx hd ne => ⟨rfl, .inr ⟨dx, [(g, z), (f, y)], by rw [upd_ne (Ne.symm ne), upd_same], upd_same, by rw [upd_ne ne] at hd; exact hd, ?_⟩⟩⟩
    have hd1 : H1 dx = none := by rw [upd_ne ne] at hd; exact hd
    rw [del_upd ha fun b h1 h2 => by rw [upd_ne h2, upd_ne h1, upd_ne h2, upd_ne h1]]
    exact q1 dx hd1
  exact pe_imp (pe_of_mk pm) fun σ H Q ⟨W, ρ, μ, ok, en, p⟩ => seqA p ok en fun ds μ1 W1 xs H1 g1 o1 en1 r p1 => by
    obtain ⟨y, z, ev, q⟩ := exc_done2 o1 r p1
    exact ⟨y, z, ev, fun dx hd => ⟨_, rfl, fun a ha => q dx hd a ha⟩⟩
/-- what the keywords' values are, and how many -/
theorem seqK {σ : L2.St} {H : Hp} {W : Wd} {ρ : En} {μ : Mu} {Q : VK} {kk : List D → Mu → R D} {n : Nat} (hf : HasLen fk n) (p : postE X.K (WE E σ) W H ((fk ρ μ).bind kk) Q) (ok : Ok X.K W H μ) (en : Envs X.K W σ ρ) {Q1 : List V → Hp → Prop}
    (hk : ∀ ds μ1 W1 xs H1, Ok X.K W1 H1 μ1 → Reps X.K W1 xs ds → xs.length = n → postE X.K (WE E σ) W1 H1 (kk ds μ1) Q → Q1 xs H1) : rA X.K E fk σ H Q1 := by
  refine ⟨W, ρ, μ, ok, en, ?_⟩
  revert p
  cases h : fk ρ μ with
  | ok ds μ1 => exact fun p W1 x H1 g o r => hk ds μ1 W1 x H1 o r (by rw [r.length]; exact hf ρ μ ds μ1 h) (post.mono g p)
  | ex c fs μ1 => exact fun p => p
  | bad => exact fun p => p
theorem de_excK1 (T : OexG X.K (cl X.K c) i) (iC : PySem.W.findIn X.K (.ref (cl X.K c)) "__init__" = some (some (.ref fI))) (tI : PySem.W.typeIn X.K (.ref fI) = some (.type "function"))
    (F1 : FnOk X.prog X.w X.K X.mg X.base (L2.CX X.prog X.w) k fI fd ps (sp1 (cl X.K c) f)) (xb : XDfl X.K fd ps ks gp) (C : Cal X E (k + 1)) (hm : X.mg x = some (.ref (cl X.K c))) (hkw : DK X E kws fk)
    (hf2 : HasLen fk ks.length := by repeat (first | exact aNil_len | refine aCons_len ?_))
    (hall : (backToKw pos (keywordEach kws X.env)).all (·.1.isSome) = true := by rfl) (hks : (backToKw pos (keywordEach kws X.env)).filterMap (·.1) = ks := by rfl)
    (hg : Gl X x := by rfl) (hdb : (x == ("__debug__" : Str)) = false := by decide)
    (hpl : (((backTo pos (starEach [] X.env)).any (·.1)) || (backToKw pos (keywordEach kws X.env)).any (·.1.isNone)) = false := by rfl) :
    DE X E (.Call (.Name x p) [] kws pos) (dexcK c [f] (fun es => gp es) fk) := by
  have pm : PMk X (.Call (.Name x p) [] kws pos) (fun σ H Q => rA X.K E fk σ H fun zs H1 => zs.length = ks.length ∧ ∃ y, gp zs = [y] ∧ ∀ d, H1 d = none → Q (.ref (cl X.K c)) (some d) (upd H1 d (.xd [(f, y)]))) := fun pins s σ H Q I q => by
    refine wpAny_Call_Name_kw (ld_glob I hg hm ?_ hdb)
    refine PySem.W.callWith_KW0 (h₀ := X.base) I.ok.mod.kin T.kC hall (thn (hkw.run pos pins s σ H _ I q) fun ws s1 ⟨zs, H1, I1, rz, hz, y, ev, q1⟩ => ⟨I1.kIn, ?_⟩) hpl
    rw [hks]
    have hw : ws.length = ks.length := by rw [← rz.length]; exact hz
    refine run_oexK (us := []) (fun a => a :: gp ws) (fun a => a :: gp zs) T iC tI F1 C.room (fun s' a kin => xb.to s' _ ws hw) I1 (fun a => .cons rfl (xb.rel rz)) (by show 0 ≤ sizeLine; exact Nat.zero_le _) fun a ha => ⟨a, y, by rw [ev], upd_same, fun dx hd ne => ⟨rfl, .inr ⟨dx, [(f, y)], upd_same, by rw [upd_ne ne, upd_same], by rw [upd_ne ne] at hd; exact hd, ?_⟩⟩⟩
    have hd1 : H1 dx = none := by rw [upd_ne ne] at hd; exact hd
    rw [del_upd ha fun b h1 h2 => by rw [upd_ne h1, upd_ne h2, upd_ne h1]]
    exact q1 dx hd1
  exact pe_imp (pe_of_mk pm) fun σ H Q ⟨W, ρ, μ, ok, en, p⟩ => seqK hf2 p ok en fun ds μ1 W1 xs H1 o1 r hl p1 => by
    obtain ⟨y, ev, q⟩ := exc_done1 o1 (xb.rep _ _ _ r) p1
    exact ⟨hl, y, ev, fun dx hd => ⟨_, rfl, fun a ha => q dx hd a ha⟩⟩
theorem de_excK2 (T : OexG X.K (cl X.K c) i) (iC : PySem.W.findIn X.K (.ref (cl X.K c)) "__init__" = some (some (.ref fI))) (tI : PySem.W.typeIn X.K (.ref fI) = some (.type "function"))
    (F1 : FnOk X.prog X.w X.K X.mg X.base (L2.CX X.prog X.w) k fI fd ps (sp2 (cl X.K c) f g)) (xb : XDfl X.K fd ps ks gp) (C : Cal X E (k + 1)) (hm : X.mg x = some (.ref (cl X.K c))) (hkw : DK X E kws fk)
    (hf2 : HasLen fk ks.length := by repeat (first | exact aNil_len | refine aCons_len ?_))
    (hall : (backToKw pos (keywordEach kws X.env)).all (·.1.isSome) = true := by rfl) (hks : (backToKw pos (keywordEach kws X.env)).filterMap (·.1) = ks := by rfl)
    (hg : Gl X x := by rfl) (hdb : (x == ("__debug__" : Str)) = false := by decide)
    (hpl : (((backTo pos (starEach [] X.env)).any (·.1)) || (backToKw pos (keywordEach kws X.env)).any (·.1.isNone)) = false := by rfl) :
    DE X E (.Call (.Name x p) [] kws pos) (dexcK c [f, g] (fun es => gp es) fk) := by
  have pm : PMk X (.Call (.Name x p) [] kws pos) (fun σ H Q => rA X.K E fk σ H fun zs H1 => zs.length = ks.length ∧ ∃ y z, gp zs = [y, z] ∧ ∀ d, H1 d = none → Q (.ref (cl X.K c)) (some d) (upd H1 d (.xd [(g, z), (f, y)]))) := fun pins s σ H Q I q => by
    refine wpAny_Call_Name_kw (ld_glob I hg hm ?_ hdb)
    refine PySem.W.callWith_KW0 (h₀ := X.base) I.ok.mod.kin T.kC hall (thn (hkw.run pos pins s σ H _ I q) fun ws s1 ⟨zs, H1, I1, rz, hz, y, z, ev, q1⟩ => ⟨I1.kIn, ?_⟩) hpl
    rw [hks]
    have hw : ws.length = ks.length := by rw [← rz.length]; exact hz
    refine run_oexK (us := []) (fun a => a :: gp ws) (fun a => a :: gp zs) T iC tI F1 C.room (fun s' a kin => xb.to s' _ ws hw) I1 (fun a => .cons rfl (xb.rel rz)) (by show 0 ≤ sizeLine; exact Nat.zero_le _) fun a ha => ⟨a, y, z, by rw [ev], upd_same, fun dx hd ne => ⟨rfl, .inr ⟨dx, [(g, z), (f, y)], by rw [upd_ne (Ne.symm ne), upd_same], upd_same, by rw [upd_ne ne] at hd; exact hd, ?_⟩⟩⟩
    have hd1 : H1 dx = none := by rw [upd_ne ne] at hd; exact hd
    rw [del_upd ha fun b h1 h2 => by rw [upd_ne h2, upd_ne h1, upd_ne h2, upd_ne h1]]
    exact q1 dx hd1
  exact pe_imp (pe_of_mk pm) fun σ H Q ⟨W, ρ, μ, ok, en, p⟩ => seqK hf2 p ok en fun ds μ1 W1 xs H1 o1 r hl p1 => by
    obtain ⟨y, z, ev, q⟩ := exc_done2 o1 (xb.rep _ _ _ r) p1
    exact ⟨hl, y, z, ev, fun dx hd => ⟨_, rfl, fun a ha => q dx hd a ha⟩⟩
end
end DL
/-! DL82: exceptions as values: their fields, isinstance. -/
namespace DL
open PySem L2 PySem.Spec PyProof.Rows PySem.HandSPX
section
variable {X : Cx} {pins : List (Addr × Obj)} {σ : L2.St} {H : Hp} {s : Shared} {a C : Addr} {d : Option Addr}
/-- such an exception in the heap -/
theorem exv_inst (I : Inv X pins σ H s) (ha : H a = some (exv a C d)) (hd : d = none ∨ ∃ dd fs, d = some dd ∧ H dd = some (.xd fs)) : ∃ o od, PySem.W.InstAt s.heap a o C od ∧ ∀ dd fs, d = some dd → H dd = some (.xd fs) → ∃ (mA : Str → Option Value) (odd : Obj), od = some odd ∧ s.heap.Ns1 dd mA ∧ ∀ f, RelO (fs.lookup f) (mA f) := by
  have hx : ObjOk X.prog X.w H s.heap a (exv a C d) := I.hok a _ ha
  obtain ⟨⟨o, ho, h1, h2, fv, h3⟩, _⟩ := hx
  obtain ⟨oc, od, oda, osl⟩ := o
  dsimp only at h1 h2 h3
  subst h1 h2 h3
  rcases hd with e | ⟨dd, fs, e, hx⟩
  · subst e
    exact ⟨_, none, ⟨ho, rfl, rfl, trivial⟩, fun _ _ z => nomatch z⟩
  · subst e
    have hx' : ObjOk X.prog X.w H s.heap dd (.xd fs) := I.hok dd _ hx
    obtain ⟨mA, hns, hr⟩ := hx'
    obtain ⟨odd, ho2, hl⟩ := lookIn_ns hns
    refine ⟨_, some odd, ⟨ho, rfl, rfl, ho2⟩, fun dd' fs' z1 z2 => ?_⟩
    cases z1
    rw [hx] at z2
    cases z2
    exact ⟨mA, odd, rfl, hns, hr⟩
def tXat (K : PySem.W.Frag) (n : Str) (te : TE) : TE := fun σ H Q => te σ H fun x H1 => ∃ (a C dd : Addr) (fs : List (Str × V)) (v : V), x = .ref a ∧ XfC K C ∧ PySem.W.findIn K (.ref C) n = some none ∧ H1 a = some (exv a C (some dd)) ∧ H1 dd = some (.xd fs) ∧ fs.lookup n = some v ∧ Q v H1
theorem pe_xat {e : Expr} {te : TE} {pos : Pos} {n : Str} (he : PE X e te) (hb : attributeBase e n X.env (eval e X.env) = eval e X.env := by rfl) : PE X (.Attribute e n pos) (tXat X.K n te) := by
  refine ⟨fun pins s σ H Q I h => ?_⟩
  refine attr_of hb (thn (he.run pins s σ H _ I h) fun u s1 hh => ?_)
  obtain ⟨x, H1, I1, rx, a, C, dd, fs, v, ex, T, hno, ha, ea, l, q⟩ := hh
  subst ex
  obtain rfl : u = Value.ref a := rx
  have hx : ObjOk X.prog X.w H1 s1.heap a (exv a C (some dd)) := I1.hok a _ ha
  obtain ⟨⟨o, ho, h1, h2, fv, h3⟩, _⟩ := hx
  have hx : ObjOk X.prog X.w H1 s1.heap dd (.xd fs) := I1.hok dd _ ea
  obtain ⟨mA, hns, hr⟩ := hx
  obtain ⟨od, ho2, hl⟩ := lookIn_ns hns
  obtain ⟨u, hu, ru⟩ := RelO.some_of (v := v) (o := mA n) (by rw [← l]; exact hr n)
  have J : PySem.W.InstAt s1.heap a o C (some od) := ⟨ho, h1, by unfold PySem.W.notCls; rw [h3] <;> rfl, by rw [h2]; exact ho2⟩
  exact HandSPX.exc_get I1.kIn J T.ga T.gg T.exC (PySem.W.findObj_own T.hdC hno rfl (by rw [hl, hu])) (handed_of ru) ⟨v, H1, I1.tok _, ru, q⟩
end
/-- e.n of an exception -/
def xatD (cs : List Nat) (n : Str) : D → Option D
  | .exc C fs => if C ∈ cs then fs.lookup n else none
  | _ => none
def dxat (cs : List Nat) (n : Str) (fo : FE) : FE := fun ρ μ => (fo ρ μ).bind fun d μ1 => R.of (xatD cs n d) μ1
@[simp] theorem ap_xat (cs : List Nat) (n : Str) (fo : FE) (ρ : En) (μ : Mu) : dxat cs n fo ρ μ = (fo ρ μ).bind fun d μ1 => R.of (xatD cs n d) μ1 := of_eq_true (eq_self _)
theorem lookup_zip {n : Str} {ns : List Str} {vs : List V} {ds : List D} {K : PySem.W.Frag} {W : Wd} {y : D} (r : Reps K W vs ds) (h : (ns.zip ds).lookup n = some y) : ∃ v, (ns.zip vs).lookup n = some v ∧ Rep K W v y := lookup_rep r h
section
variable {X : Cx} {E : WX} {e : Expr} {fe : FE} {n : Str} {pos : Pos} {cs : List Nat}
theorem de_xat (hc : ∀ C ∈ cs, XfC X.K (cl X.K C) ∧ PySem.W.findIn X.K (.ref (cl X.K C)) n = some none) (he : DE X E e fe) (hb : attributeBase e n X.env (eval e X.env) = eval e X.env := by rfl) : DE X E (.Attribute e n pos) (dxat cs n fe) := by
  refine pe_imp (pe_xat he hb) fun σ H Q ⟨W, ρ, μ, ok, en, p⟩ => ?_
  refine seq p ok en fun d μ1 W1 v H1 g1 o1 en1 r p1 => ?_
  cases hx : xatD cs n d with
  | none => rw [hx] at p1; exact p1.elim
  | some y =>
    rw [hx] at p1
    unfold xatD at hx
    split at hx
    · rename_i C fs
      split at hx
      · rename_i hC
        cases r with
        | exc hat rs =>
          obtain ⟨w, hw, rw1⟩ := lookup_zip rs hx
          rcases hat with ⟨_, rfl, rfl⟩ | ⟨dx, h1, h2, h3⟩
          · simp at hw
          · exact ⟨_, _, dx, _, w, rfl, (hc _ hC).1, (hc _ hC).2, o1.sub _ _ h1, o1.sub _ _ h2, hw, p1 W1 w H1 (Go.refl _ _) o1 rw1⟩
      · cases hx
    · cases hx
end
/-! ### isinstance -/
def isiX (cs : List Nat) (kt : Nat → Option Bool) : D → Option Bool
  | .exc C _ => if C ∈ cs then kt C else none
  | _ => none
def bIsiX (c : D) (cs : List Nat) (kt : Nat → Option Bool) : List D → Mu → R D
  | [d, c'], μ => if sameC c' c = true then R.of ((isiX cs kt d).map .bl) μ else .bad
  | _, _ => .bad
theorem call_isX {X : Cx} {cval : Value} : CallR X (.builtin "isinstance") (fun xs H Q => ∃ (a C : Addr) (d : Option Addr) (v2 : V) (b : Bool), xs = [.ref a, v2] ∧ ClsV v2 cval ∧ H a = some (exv a C d) ∧ (d = none ∨ ∃ dd fs, d = some dd ∧ H dd = some (.xd fs)) ∧ ExcC X.K C ∧ PySem.W.kitOne X.K (.ref C) cval = some b ∧ Q (.bl b) H) := by
  intro pins s σ H xs us Q I r h
  obtain ⟨a, C, d, v2, b, rfl, hcv, ha, hd, T, hk, q⟩ := h
  cases r with
  | cons rx rr =>
    cases rr with
    | cons rt rr =>
      cases rr
      cases rx
      have ec := hcv.eq rt
      subst ec
      obtain ⟨o, od, J, _⟩ := exv_inst I ha hd
      have hcl : (PySem.W.clsIn X.K C).isSome = true := by
        obtain ⟨cd, hc, _⟩ := PySem.W.any_some T.hd
        rw [hc]
        rfl
      exact PySem.W.kia_one (PySem.W.kitx_exc hcl T.hg T.hk T.hs T.ha T.hn T.ht T.hm) I.kIn J hk (fun z => nomatch z) fun tk => ⟨.bl b, H, I.kept (t' := tk) fun _ _ z => z, rfl, q⟩
theorem cx_isiX {X : Cx} {E : WX} {cs : List Nat} {kt : Nat → Option Bool} (c : Ty) (hcs : ∀ C ∈ cs, ExcC X.K (cl X.K C)) (hk : ∀ C b, kt C = some b → PySem.W.kitOne X.K (.ref (cl X.K C)) (c.val X.K) = some b) : CallX X E (.builtin "isinstance") (bIsiX c.d cs kt) := callx fun W H μ ds xs Q ok r p => by
  unfold bIsiX at p
  split at p
  · rename_i d c'
    split at p
    · rename_i ec
      cases r with
      | cons r1 r2 =>
        cases r2 with
        | cons r2 r3 =>
          cases r3
          rename_i v1 v2
          have hcv : ClsV v2 (c.val X.K) := by
            cases c with
            | own C =>
              unfold sameC Ty.d at ec
              cases c' <;> simp at ec
              subst ec
              cases r2
              exact .own _
            | blt t =>
              unfold sameC Ty.d at ec
              cases c' <;> simp at ec
              rename_i w
              cases w <;> simp at ec
              subst ec
              cases r2
              exact .ty _
          cases hi : isiX cs kt d with
          | none => rw [hi] at p; exact p.elim
          | some b =>
            rw [hi] at p
            have q : Q (.bl b) H := post_pure ok p (.bl b)
            unfold isiX at hi
            split at hi
            · rename_i C fs
              split at hi
              · rename_i hC
                cases r1 with
                | exc hat rs =>
                  rcases hat with ⟨h1, _, _⟩ | ⟨dx, h1, h2, _⟩
                  · exact ⟨_, call_isX, _, _, none, v2, b, rfl, hcv, ok.sub _ _ h1, .inl rfl, hcs C hC, hk C b hi, q⟩
                  · exact ⟨_, call_isX, _, _, some dx, v2, b, rfl, hcv, ok.sub _ _ h1, .inr ⟨dx, _, rfl, ok.sub _ _ h2⟩, hcs C hC, hk C b hi, q⟩
              · cases hi
            · cases hi
    · exact p.elim
  · exact p.elim
/-- which classes are of one, which are not -/
def kxB (K : PySem.W.Frag) (t : Ty) (yes no : List Nat) : Bool := yes.all (fun c => decide (PySem.W.kitOne K (.ref (cl K c)) (t.val K) = some true)) && no.all fun c => decide (PySem.W.kitOne K (.ref (cl K c)) (t.val K) = some false)
theorem kxB_ok {K : PySem.W.Frag} {t : Ty} {yes no : List Nat} (h : kxB K t yes no = true) : ∀ C b, mL yes no C = some b → PySem.W.kitOne K (.ref (cl K C)) (t.val K) = some b := by
  unfold kxB at h
  simp only [Bool.and_eq_true, decide_eq_true_eq, List.all_eq_true] at h
  obtain ⟨h1, h2⟩ := h
  intro c b e
  unfold mL at e
  split at e
  · rename_i m
    cases e
    exact h1 c m
  · split at e
    · rename_i m
      cases e
      exact h2 c m
    · cases e
@[simp] theorem isiX_ap (c : Nat) (cs : List Nat) (kt : Nat → Option Bool) (d : D) (μ : Mu) : bIsiX (.glo c) cs kt [d, .glo c] μ = R.of ((isiX cs kt d).map .bl) μ := by
  unfold bIsiX
  simp [sameC]
@[simp] theorem isiX_apT (t : String) (cs : List Nat) (kt : Nat → Option Bool) (d : D) (μ : Mu) : bIsiX (.cst (.ty t)) cs kt [d, .cst (.ty t)] μ = R.of ((isiX cs kt d).map .bl) μ := by
  unfold bIsiX
  simp [sameC]
end DL
/-! DL83: repr of lists that hold dicts (of texts, numbers). -/
namespace DL
open PySem L2 PySem.Spec PyProof.Rows
def keyPy : Key → PyData
  | .inl i => .int i
  | .inr x => .str x
def flatPy : D → Option PyData
  | .non => some .none
  | .bl b => some (.bool b)
  | .int i => some (.int i)
  | .str x => some (.str x)
  | _ => none
def flatPys : List D → Option (List PyData)
  | [] => some []
  | x :: xs => match flatPy x, flatPys xs with
    | some p, some ps => some (p :: ps)
    | _, _ => none
def cellPy (μ : Mu) : D → Option PyData
  | .hdl l => match μ[l]? with
    | some (.dct ks xs) => (flatPys xs).map fun ps => .dict ((ks.map keyPy).zip ps)
    | _ => none
  | d => flatPy d
def cellPys (μ : Mu) : List D → Option (List PyData)
  | [] => some []
  | x :: xs => match cellPy μ x, cellPys μ xs with
    | some p, some ps => some (p :: ps)
    | _, _ => none
def bReprC : List D → Mu → R D
  | [.lst (x :: xs)], μ => match cellPys μ (x :: xs) with
    | some ps => if (PyData.list ps).showable = true ∧ (PyData.list ps).depth ≤ 40 ∧ (PyData.list ps).shown.length ≤ 1000000 then .ok (.str (PyData.list ps).shown) μ else .bad
    | none => .bad
  | _, _ => .bad
def bReprX (ds : List D) (μ : Mu) : R D := match bReprM ds μ with
  | .bad => bReprC ds μ
  | r => r
section
variable {K : PySem.W.Frag} {W : Wd} {h : Heap}
theorem reads_flat {v : V} {d : D} {p : PyData} {u : Value} (r : Rep K W v d) (e : flatPy d = some p) (rv : RelV v u) : Reads h u p [] := by
  cases r with
  | non => cases e; cases rv; exact .none
  | bl b => cases e; cases rv; exact .bool b
  | int i => cases e; obtain ⟨t, rfl⟩ := rv; exact .int i t
  | str x z => cases e; obtain ⟨t, rfl⟩ := rv; exact .str x t
  | _ => cases e
theorem pairs_flat : ∀ {ks : List Key} {vs : List V} {ds : List D} {ps : List PyData} {kvs : List (Key × Value)}, Reps K W vs ds → flatPys ds = some ps → ks.length = vs.length → KV (ks.zip vs) kvs → PyProof.V.PairsRead h keyPy kvs ((ks.map keyPy).zip ps) []
  | [], [], _, _, _, .nil, e, _, .nil => .nil
  | [], _ :: _, _, _, _, _, _, hl, _ => by cases hl
  | _ :: _, [], _, _, _, _, _, hl, _ => by cases hl
  | k :: ks, v :: vs, _, _, q :: qs, .cons (d := d) (ds := ds) r rs, e, hl, .cons hq hqs => by
    unfold flatPys at e
    cases e1 : flatPy d with
    | none => rw [e1] at e; cases e
    | some p =>
      cases e2 : flatPys ds with
      | none => rw [e1, e2] at e; cases e
      | some ps =>
        rw [e1, e2] at e
        cases e
        obtain ⟨k', u⟩ := q
        obtain ⟨h1, h2⟩ := hq
        dsimp only at h1 h2
        subst h1
        exact PyProof.V.PairsRead.cons (reads_flat r e1 h2) (pairs_flat rs e2 (by simpa using hl) hqs)
theorem reads_key {prog : Program} {w : World} : ∀ (k : Key) (key : Value), (mixKind prog w).is k key = true → Reads h key (keyPy k) [] := fun k key e => by
  rcases keyIs_shape e with ⟨i, t, rfl, rfl⟩ | ⟨x, t, rfl, rfl⟩
  · exact .int i t
  · exact .str x t
end
section
variable {X : Cx} {pins : List (Addr × Obj)} {σ : L2.St} {H : Hp} {s : Shared} {W : Wd} {μ : Mu}
theorem reads_cell {v : V} {d : D} {p : PyData} {u : Value} (I : Inv X pins σ H s) (ok : Ok X.K W H μ) (r : Rep X.K W v d) (e : cellPy μ d = some p) (rv : RelV v u) : ∃ as, Reads s.heap u p as ∧ sysModules ∉ as := by
  cases r with
  | @hdl a l ha =>
    unfold cellPy at e
    dsimp only at e
    cases hm : μ[l]? with
    | none => rw [hm] at e; cases e
    | some m =>
      rw [hm] at e
      cases m with
      | dct ks xs =>
        dsimp only at e
        cases e1 : flatPys xs with
        | none => rw [e1] at e; cases e
        | some ps =>
          rw [e1] at e
          cases e
          obtain ⟨o, ho, vs, rfl, hl, rs⟩ := ok.cell l a _ ha hm
          obtain ⟨z, hsm, kvs, rel, dd⟩ := dk_of I.hok ho
          cases rv
          exact ⟨_, PyProof.V.reads_dictOf reads_key dd (pairs_flat rs e1 hl rel), fun z => by
            rcases List.mem_cons.mp z with z | z
            · rw [z] at hsm
              simp at hsm
            · cases z⟩
      | _ => cases e
  | non => exact ⟨_, reads_flat (K := X.K) (W := W) .non e rv, fun z => nomatch z⟩
  | bl b => exact ⟨_, reads_flat (K := X.K) (W := W) (.bl b) e rv, fun z => nomatch z⟩
  | int i => exact ⟨_, reads_flat (K := X.K) (W := W) (.int i) e rv, fun z => nomatch z⟩
  | str x z => exact ⟨_, reads_flat (K := X.K) (W := W) (.str x z) e rv, fun z => nomatch z⟩
  | _ => cases e
theorem reads_cells (I : Inv X pins σ H s) (ok : Ok X.K W H μ) : ∀ {vs : List V} {ds : List D} {ps : List PyData} {us : List Value}, Reps X.K W vs ds → cellPys μ ds = some ps → Vals vs us → ∃ as, ReadsAll s.heap us ps as ∧ sysModules ∉ as
  | _, _, _, _, .nil, e, .nil => by cases e; exact ⟨_, .nil, fun z => nomatch z⟩
  | _, _, _, _, .cons (d := d) (ds := ds) r rs, e, .cons h1 h2 => by
    unfold cellPys at e
    cases e1 : cellPy μ d with
    | none => rw [e1] at e; cases e
    | some p =>
      cases e2 : cellPys μ ds with
      | none => rw [e1, e2] at e; cases e
      | some ps =>
        rw [e1, e2] at e
        cases e
        obtain ⟨a1, q1, n1⟩ := reads_cell I ok r e1 h1
        obtain ⟨a2, q2, n2⟩ := reads_cells I ok rs e2 h2
        exact ⟨_, .cons q1 q2, fun z => by
          rcases List.mem_append.mp z with z | z
          · exact n1 z
          · exact n2 z⟩
end
/-- a list whose things are read shows them -/
theorem shows_lst {prog : Program} {w : World} {hp : Heap} {b : Addr} {ob : Obj} {its : Array Value} {k : Nat} {ps : List PyData} {rs : List Addr} (g1 : hp.get? b = some ob) (g2 : ob.cls = .type "list") (g3 : ob.data = .seq its k) (g4 : ReadsAll hp its.toList ps rs) (hsh : (PyData.list ps).showable = true) (hno : sysModules ∉ rs)
    (hln : (PyData.list ps).shown.length ≤ sizeLine) : ShowsBy prog w hp b (.list ps) "list" "list.__repr__" := by
  have hln' : (listText (PyData.shownAll ps)).length ≤ sizeLine := by simpa only [PyData.shown] using hln
  obtain ⟨cs, hcs, hks⟩ := ReprAllK.of_readsAll (prog := prog) (w := w) g4 (by simpa [PyData.showable] using hsh) (fun _ => hno) (fun t ht => Nat.le_trans (listText_mem_le ht) hln')
  have hb : b ∉ cs := not_mem_of_deeper (.list g1 g2 g3 g4) (by simp only [PyData.depth]; omega) hcs
  refine ⟨F.slot_list_repr.toG, F.slot_list_str, F.slot_list_format, fun s hk => ⟨ob, hk _ _ g1, g2⟩, fun A E s Q hgd hun hk hQ => ?_⟩
  simp only [PyData.depth] at hun
  simp only [PyData.shown] at hQ
  obtain ⟨l⟩ := its
  cases l with
  | nil =>
    have g4' : ReadsAll hp [] ps _ := g4
    cases g4'
    simp only [PyData.shownAll, listText_nil] at hQ
    exact call_list_repr_empty ⟨ob, hk _ _ g1, g2⟩ (hk _ _ g1) g3 (hQ s.heap _ _ fun _ _ e => e)
  | cons x l => exact call_list_reprK g1 g2 g3 hb (by simpa using hks.length_eq) (fun i y e => hks.item i y (by simpa using e)) hgd (fun b _ => Clear.nil b) hun hk hQ hln'
theorem cx_reprC {X : Cx} {E : WX} (hg : X.A.guards = some []) (hu : X.A.units + 64 < cLine) : CallX X E (.builtin "repr") bReprC := by
  intro pins s σ H xs us Q I rx q
  obtain ⟨E', W, μ, ds, ok, r1, p⟩ := q
  unfold bReprC at p
  split at p
  · rename_i y ys
    split at p
    · rename_i ps hps
      split at p
      · rename_i hc
        obtain ⟨c1, c2, c3⟩ := hc
        cases r1 with
        | cons r1 r2 =>
          cases r2
          cases rx with
          | cons w1 w2 =>
            cases w2
            rename_i v u
            cases r1 with
            | lst z hL rs =>
              cases w1
              obtain ⟨its, n, hv, hget⟩ := (same_lq ok.sub hL).isL I
              obtain ⟨as, hr, hno⟩ := reads_cells I ok rs hps hv
              have S := shows_lst (prog := X.prog) (w := X.w) hget rfl rfl (by simpa using hr) c1 hno (le_line c3)
              have fin : ∀ h' tk tk', (∀ b o, s.heap.get? b = some o → h'.get? b = some o) → EP X pins σ Q (.str (PyData.list ps).shown tk) { s with heap := h', toks := tk' } := fun h' tk tk' hk => ⟨.str (PyData.list ps).shown, H, I.kept hk, ⟨_, rfl⟩, post_pure ok p (.str _ (le_line c3))⟩
              exact call_repr_slot (by omega) (S.typeIs s fun _ _ e => e) S.slotRepr (S.call X.A.in1 _ s _ hg (by show X.A.units + 1 + _ < cLine; omega) (fun _ _ e => e) fun h' u tk hk => ⟨_, _, rfl, fin h' u tk hk⟩)
      · exact p.elim
    · exact p.elim
  · exact p.elim
theorem cx_reprX {X : Cx} {E : WX} (hg : X.A.guards = some []) (hu : X.A.units + 64 < cLine) : CallX X E (.builtin "repr") bReprX := by
  intro pins s σ H xs us Q I rx q
  obtain ⟨E', W, μ, ds, ok, r1, p⟩ := q
  unfold bReprX at p
  cases hb : bReprM ds μ with
  | bad =>
    rw [hb] at p
    exact cx_reprC (E := E) hg hu pins s σ H xs us Q I rx ⟨E', W, μ, ds, ok, r1, p⟩
  | ok d μ1 =>
    rw [hb] at p
    exact cx_reprM (E := E) hg hu pins s σ H xs us Q I rx ⟨E', W, μ, ds, ok, r1, by rw [hb]; exact p⟩
  | ex c fs μ1 =>
    rw [hb] at p
    exact cx_reprM (E := E) hg hu pins s σ H xs us Q I rx ⟨E', W, μ, ds, ok, r1, by rw [hb]; exact p⟩
end DL
namespace DL05
open PySem PySem.Spec PyProof.Rows L2 DL
/-! the text -/
def topS (i : Nat) : Stmt := PySem.Challenge.pw_wholeparcels_k05_refusals_apart.main.body.getD i (.Pass ⟨0, 0, 0, 0⟩)
def clsS (i j : Nat) : Stmt := match topS i with
  | .ClassDef _ _ _ b _ _ _ _ _ _ _ => b.getD j (.Pass ⟨0, 0, 0, 0⟩)
  | s => s
abbrev s_law_kinds : Stmt := topS 21
theorem sc_law_kinds : FnScope ["_law_one", "_law_found"] ["_law_one"] (defScope s_law_kinds) := ⟨rfl, rfl, rfl, by decide +kernel, rfl, by decide +kernel, by decide +kernel⟩
abbrev s_law_right : Stmt := topS 22
theorem sc_law_right : FnScope ["_law_one", "_law_at", "_law_k"] ["_law_one", "_law_at"] (defScope s_law_right) := ⟨rfl, rfl, rfl, by decide +kernel, rfl, by decide +kernel, by decide +kernel⟩
abbrev s_law : Stmt := topS 23
theorem sc_law : FnScope ["_law_script", "_law_thing", "_law_some", "_law_told", "_law_named", "_law_cell", "_law_at", "_law_one"] ["_law_script"] (defScope s_law) := ⟨rfl, rfl, rfl, by decide +kernel, rfl, by decide +kernel, by decide +kernel⟩
abbrev s_Amid_init : Stmt := clsS 17 0
theorem sc_Amid_init : FnScope ["self"] ["self"] (defScope s_Amid_init) := ⟨rfl, rfl, rfl, by decide +kernel, rfl, by decide +kernel, by decide +kernel⟩
abbrev s_CannotStand_init : Stmt := clsS 12 0
theorem sc_CannotStand_init : FnScope ["self", "lot", "paper"] ["self", "lot", "paper"] (defScope s_CannotStand_init) := ⟨rfl, rfl, rfl, by decide +kernel, rfl, by decide +kernel, by decide +kernel⟩
abbrev s_NoAnswers_init : Stmt := clsS 7 0
theorem sc_NoAnswers_init : FnScope ["self"] ["self"] (defScope s_NoAnswers_init) := ⟨rfl, rfl, rfl, by decide +kernel, rfl, by decide +kernel, by decide +kernel⟩
abbrev s_NoLot_init : Stmt := clsS 3 0
theorem sc_NoLot_init : FnScope ["self"] ["self"] (defScope s_NoLot_init) := ⟨rfl, rfl, rfl, by decide +kernel, rfl, by decide +kernel, by decide +kernel⟩
abbrev s_NoName_init : Stmt := clsS 13 0
theorem sc_NoName_init : FnScope ["self", "name"] ["self", "name"] (defScope s_NoName_init) := ⟨rfl, rfl, rfl, by decide +kernel, rfl, by decide +kernel, by decide +kernel⟩
abbrev s_NoNumber_init : Stmt := clsS 9 0
theorem sc_NoNumber_init : FnScope ["self", "number"] ["self", "number"] (defScope s_NoNumber_init) := ⟨rfl, rfl, rfl, by decide +kernel, rfl, by decide +kernel, by decide +kernel⟩
abbrev s_NoOrder_init : Stmt := clsS 6 0
theorem sc_NoOrder_init : FnScope ["self"] ["self"] (defScope s_NoOrder_init) := ⟨rfl, rfl, rfl, by decide +kernel, rfl, by decide +kernel, by decide +kernel⟩
abbrev s_NoParcel_init : Stmt := clsS 2 0
theorem sc_NoParcel_init : FnScope ["self", "part"] ["self", "part"] (defScope s_NoParcel_init) := ⟨rfl, rfl, rfl, by decide +kernel, rfl, by decide +kernel, by decide +kernel⟩
abbrev s_NoPath_init : Stmt := clsS 14 0
theorem sc_NoPath_init : FnScope ["self", "path"] ["self", "path"] (defScope s_NoPath_init) := ⟨rfl, rfl, rfl, by decide +kernel, rfl, by decide +kernel, by decide +kernel⟩
abbrev s_NoRoom_init : Stmt := clsS 15 0
theorem sc_NoRoom_init : FnScope ["self", "room"] ["self", "room"] (defScope s_NoRoom_init) := ⟨rfl, rfl, rfl, by decide +kernel, rfl, by decide +kernel, by decide +kernel⟩
abbrev s_NoRow_init : Stmt := clsS 11 0
theorem sc_NoRow_init : FnScope ["self"] ["self"] (defScope s_NoRow_init) := ⟨rfl, rfl, rfl, by decide +kernel, rfl, by decide +kernel, by decide +kernel⟩
abbrev s_NoStand_init : Stmt := clsS 5 0
theorem sc_NoStand_init : FnScope ["self"] ["self"] (defScope s_NoStand_init) := ⟨rfl, rfl, rfl, by decide +kernel, rfl, by decide +kernel, by decide +kernel⟩
abbrev s_NoText_init : Stmt := clsS 10 0
theorem sc_NoText_init : FnScope ["self", "row"] ["self", "row"] (defScope s_NoText_init) := ⟨rfl, rfl, rfl, by decide +kernel, rfl, by decide +kernel, by decide +kernel⟩
abbrev s_NoWish_init : Stmt := clsS 4 0
theorem sc_NoWish_init : FnScope ["self", "number"] ["self", "number"] (defScope s_NoWish_init) := ⟨rfl, rfl, rfl, by decide +kernel, rfl, by decide +kernel, by decide +kernel⟩
abbrev s_NoWorth_init : Stmt := clsS 8 0
theorem sc_NoWorth_init : FnScope ["self"] ["self"] (defScope s_NoWorth_init) := ⟨rfl, rfl, rfl, by decide +kernel, rfl, by decide +kernel, by decide +kernel⟩
abbrev s_Shut_init : Stmt := clsS 19 0
theorem sc_Shut_init : FnScope ["self"] ["self"] (defScope s_Shut_init) := ⟨rfl, rfl, rfl, by decide +kernel, rfl, by decide +kernel, by decide +kernel⟩
abbrev s_Still_init : Stmt := clsS 18 0
theorem sc_Still_init : FnScope ["self"] ["self"] (defScope s_Still_init) := ⟨rfl, rfl, rfl, by decide +kernel, rfl, by decide +kernel, by decide +kernel⟩
abbrev s_Stopped_init : Stmt := clsS 16 0
theorem sc_Stopped_init : FnScope ["self"] ["self"] (defScope s_Stopped_init) := ⟨rfl, rfl, rfl, by decide +kernel, rfl, by decide +kernel, by decide +kernel⟩
/-! names as numbers -/
abbrev cC_NoNumber : Nat := 5651822323626567026
theorem nC_NoNumber : nmC cC_NoNumber = "NoNumber" := by decide +kernel
abbrev cC_NoWorth : Nat := 22077469506040936
theorem nC_NoWorth : nmC cC_NoWorth = "NoWorth" := by decide +kernel
abbrev cC_NoAnswers : Nat := 1446862848003244651123
theorem nC_NoAnswers : nmC cC_NoAnswers = "NoAnswers" := by decide +kernel
abbrev cC_NoOrder : Nat := 22077435195712882
theorem nC_NoOrder : nmC cC_NoOrder = "NoOrder" := by decide +kernel
abbrev cC_NoStand : Nat := 22077452408942180
theorem nC_NoStand : nmC cC_NoStand = "NoStand" := by decide +kernel
abbrev cC_NoWish : Nat := 86240114865000
theorem nC_NoWish : nmC cC_NoWish = "NoWish" := by decide +kernel
abbrev cC_NoLot : Nat := 336874729332
theorem nC_NoLot : nmC cC_NoLot = "NoLot" := by decide +kernel
abbrev cC_NoParcel : Nat := 5651824436834428268
theorem nC_NoParcel : nmC cC_NoParcel = "NoParcel" := by decide +kernel
abbrev cC_NoRoom : Nat := 86240031371117
theorem nC_NoRoom : nmC cC_NoRoom = "NoRoom" := by decide +kernel
abbrev cC_NoPath : Nat := 86239996900456
theorem nC_NoPath : nmC cC_NoPath = "NoPath" := by decide +kernel
abbrev cC_NoName : Nat := 86239963344229
theorem nC_NoName : nmC cC_NoName = "NoName" := by decide +kernel
abbrev cC_CannotStand : Nat := 81458136562573586712325732
theorem nC_CannotStand : nmC cC_CannotStand = "CannotStand" := by decide +kernel
abbrev cC_NoRow : Nat := 336875122551
theorem nC_NoRow : nmC cC_NoRow = "NoRow" := by decide +kernel
abbrev cC_NoText : Nat := 86240064272500
theorem nC_NoText : nmC cC_NoText = "NoText" := by decide +kernel
abbrev cC_Shut : Nat := 1399354740
theorem nC_Shut : nmC cC_Shut = "Shut" := by decide +kernel
abbrev cC_Still : Nat := 358435351660
theorem nC_Still : nmC cC_Still = "Still" := by decide +kernel
abbrev cC_Amid : Nat := 1097689444
theorem nC_Amid : nmC cC_Amid = "Amid" := by decide +kernel
abbrev cC_Stopped : Nat := 23490445043590500
theorem nC_Stopped : nmC cC_Stopped = "Stopped" := by decide +kernel
abbrev cC_WholeError : Nat := 412772374296909568962418
theorem nC_WholeError : nmC cC_WholeError = "WholeError" := by decide +kernel
def isAll : List Nat := []
def xAll : List Nat := [cC_Amid, cC_CannotStand, cC_NoAnswers, cC_NoLot, cC_NoName, cC_NoNumber, cC_NoOrder, cC_NoParcel, cC_NoPath, cC_NoRoom, cC_NoRow, cC_NoStand, cC_NoText, cC_NoWish, cC_NoWorth, cC_Shut, cC_Still, cC_Stopped]
def kxy_Amid : List Nat := [cC_Amid]
def kxn_Amid : List Nat := [cC_CannotStand, cC_NoAnswers, cC_NoLot, cC_NoName, cC_NoNumber, cC_NoOrder, cC_NoParcel, cC_NoPath, cC_NoRoom, cC_NoRow, cC_NoStand, cC_NoText, cC_NoWish, cC_NoWorth, cC_Shut, cC_Still, cC_Stopped]
def kxy_CannotStand : List Nat := [cC_CannotStand]
def kxn_CannotStand : List Nat := [cC_Amid, cC_NoAnswers, cC_NoLot, cC_NoName, cC_NoNumber, cC_NoOrder, cC_NoParcel, cC_NoPath, cC_NoRoom, cC_NoRow, cC_NoStand, cC_NoText, cC_NoWish, cC_NoWorth, cC_Shut, cC_Still, cC_Stopped]
def kxy_KeyError : List Nat := [cC_NoName, cC_NoPath, cC_NoRoom]
def kxn_KeyError : List Nat := [cC_Amid, cC_CannotStand, cC_NoAnswers, cC_NoLot, cC_NoNumber, cC_NoOrder, cC_NoParcel, cC_NoRow, cC_NoStand, cC_NoText, cC_NoWish, cC_NoWorth, cC_Shut, cC_Still, cC_Stopped]
def kxy_NoAnswers : List Nat := [cC_NoAnswers]
def kxn_NoAnswers : List Nat := [cC_Amid, cC_CannotStand, cC_NoLot, cC_NoName, cC_NoNumber, cC_NoOrder, cC_NoParcel, cC_NoPath, cC_NoRoom, cC_NoRow, cC_NoStand, cC_NoText, cC_NoWish, cC_NoWorth, cC_Shut, cC_Still, cC_Stopped]
def kxy_NoLot : List Nat := [cC_NoLot]
def kxn_NoLot : List Nat := [cC_Amid, cC_CannotStand, cC_NoAnswers, cC_NoName, cC_NoNumber, cC_NoOrder, cC_NoParcel, cC_NoPath, cC_NoRoom, cC_NoRow, cC_NoStand, cC_NoText, cC_NoWish, cC_NoWorth, cC_Shut, cC_Still, cC_Stopped]
def kxy_NoName : List Nat := [cC_NoName]
def kxn_NoName : List Nat := [cC_Amid, cC_CannotStand, cC_NoAnswers, cC_NoLot, cC_NoNumber, cC_NoOrder, cC_NoParcel, cC_NoPath, cC_NoRoom, cC_NoRow, cC_NoStand, cC_NoText, cC_NoWish, cC_NoWorth, cC_Shut, cC_Still, cC_Stopped]
def kxy_NoNumber : List Nat := [cC_NoNumber]
def kxn_NoNumber : List Nat := [cC_Amid, cC_CannotStand, cC_NoAnswers, cC_NoLot, cC_NoName, cC_NoOrder, cC_NoParcel, cC_NoPath, cC_NoRoom, cC_NoRow, cC_NoStand, cC_NoText, cC_NoWish, cC_NoWorth, cC_Shut, cC_Still, cC_Stopped]
def kxy_NoOrder : List Nat := [cC_NoOrder]
def kxn_NoOrder : List Nat := [cC_Amid, cC_CannotStand, cC_NoAnswers, cC_NoLot, cC_NoName, cC_NoNumber, cC_NoParcel, cC_NoPath, cC_NoRoom, cC_NoRow, cC_NoStand, cC_NoText, cC_NoWish, cC_NoWorth, cC_Shut, cC_Still, cC_Stopped]
def kxy_NoParcel : List Nat := [cC_NoParcel]
def kxn_NoParcel : List Nat := [cC_Amid, cC_CannotStand, cC_NoAnswers, cC_NoLot, cC_NoName, cC_NoNumber, cC_NoOrder, cC_NoPath, cC_NoRoom, cC_NoRow, cC_NoStand, cC_NoText, cC_NoWish, cC_NoWorth, cC_Shut, cC_Still, cC_Stopped]
def kxy_NoPath : List Nat := [cC_NoPath]
def kxn_NoPath : List Nat := [cC_Amid, cC_CannotStand, cC_NoAnswers, cC_NoLot, cC_NoName, cC_NoNumber, cC_NoOrder, cC_NoParcel, cC_NoRoom, cC_NoRow, cC_NoStand, cC_NoText, cC_NoWish, cC_NoWorth, cC_Shut, cC_Still, cC_Stopped]
def kxy_NoRoom : List Nat := [cC_NoRoom]
def kxn_NoRoom : List Nat := [cC_Amid, cC_CannotStand, cC_NoAnswers, cC_NoLot, cC_NoName, cC_NoNumber, cC_NoOrder, cC_NoParcel, cC_NoPath, cC_NoRow, cC_NoStand, cC_NoText, cC_NoWish, cC_NoWorth, cC_Shut, cC_Still, cC_Stopped]
def kxy_NoRow : List Nat := [cC_NoRow]
def kxn_NoRow : List Nat := [cC_Amid, cC_CannotStand, cC_NoAnswers, cC_NoLot, cC_NoName, cC_NoNumber, cC_NoOrder, cC_NoParcel, cC_NoPath, cC_NoRoom, cC_NoStand, cC_NoText, cC_NoWish, cC_NoWorth, cC_Shut, cC_Still, cC_Stopped]
def kxy_NoStand : List Nat := [cC_NoStand]
def kxn_NoStand : List Nat := [cC_Amid, cC_CannotStand, cC_NoAnswers, cC_NoLot, cC_NoName, cC_NoNumber, cC_NoOrder, cC_NoParcel, cC_NoPath, cC_NoRoom, cC_NoRow, cC_NoText, cC_NoWish, cC_NoWorth, cC_Shut, cC_Still, cC_Stopped]
def kxy_NoText : List Nat := [cC_NoText]
def kxn_NoText : List Nat := [cC_Amid, cC_CannotStand, cC_NoAnswers, cC_NoLot, cC_NoName, cC_NoNumber, cC_NoOrder, cC_NoParcel, cC_NoPath, cC_NoRoom, cC_NoRow, cC_NoStand, cC_NoWish, cC_NoWorth, cC_Shut, cC_Still, cC_Stopped]
def kxy_NoWish : List Nat := [cC_NoWish]
def kxn_NoWish : List Nat := [cC_Amid, cC_CannotStand, cC_NoAnswers, cC_NoLot, cC_NoName, cC_NoNumber, cC_NoOrder, cC_NoParcel, cC_NoPath, cC_NoRoom, cC_NoRow, cC_NoStand, cC_NoText, cC_NoWorth, cC_Shut, cC_Still, cC_Stopped]
def kxy_NoWorth : List Nat := [cC_NoWorth]
def kxn_NoWorth : List Nat := [cC_Amid, cC_CannotStand, cC_NoAnswers, cC_NoLot, cC_NoName, cC_NoNumber, cC_NoOrder, cC_NoParcel, cC_NoPath, cC_NoRoom, cC_NoRow, cC_NoStand, cC_NoText, cC_NoWish, cC_Shut, cC_Still, cC_Stopped]
def kxy_RuntimeError : List Nat := [cC_Stopped, cC_Amid, cC_Still, cC_Shut]
def kxn_RuntimeError : List Nat := [cC_CannotStand, cC_NoAnswers, cC_NoLot, cC_NoName, cC_NoNumber, cC_NoOrder, cC_NoParcel, cC_NoPath, cC_NoRoom, cC_NoRow, cC_NoStand, cC_NoText, cC_NoWish, cC_NoWorth]
def kxy_Shut : List Nat := [cC_Shut]
def kxn_Shut : List Nat := [cC_Amid, cC_CannotStand, cC_NoAnswers, cC_NoLot, cC_NoName, cC_NoNumber, cC_NoOrder, cC_NoParcel, cC_NoPath, cC_NoRoom, cC_NoRow, cC_NoStand, cC_NoText, cC_NoWish, cC_NoWorth, cC_Still, cC_Stopped]
def kxy_Still : List Nat := [cC_Still]
def kxn_Still : List Nat := [cC_Amid, cC_CannotStand, cC_NoAnswers, cC_NoLot, cC_NoName, cC_NoNumber, cC_NoOrder, cC_NoParcel, cC_NoPath, cC_NoRoom, cC_NoRow, cC_NoStand, cC_NoText, cC_NoWish, cC_NoWorth, cC_Shut, cC_Stopped]
def kxy_Stopped : List Nat := [cC_Stopped]
def kxn_Stopped : List Nat := [cC_Amid, cC_CannotStand, cC_NoAnswers, cC_NoLot, cC_NoName, cC_NoNumber, cC_NoOrder, cC_NoParcel, cC_NoPath, cC_NoRoom, cC_NoRow, cC_NoStand, cC_NoText, cC_NoWish, cC_NoWorth, cC_Shut, cC_Still]
def kxy_ValueError : List Nat := [cC_NoParcel, cC_NoLot, cC_NoWish, cC_NoStand, cC_NoOrder, cC_NoAnswers, cC_NoWorth, cC_NoNumber, cC_NoText, cC_NoRow, cC_CannotStand]
def kxn_ValueError : List Nat := [cC_Amid, cC_NoName, cC_NoPath, cC_NoRoom, cC_Shut, cC_Still, cC_Stopped]
def kxy_WholeError : List Nat := [cC_NoParcel, cC_NoLot, cC_NoWish, cC_NoStand, cC_NoOrder, cC_NoAnswers, cC_NoWorth, cC_NoNumber, cC_NoText, cC_NoRow, cC_CannotStand]
def kxn_WholeError : List Nat := [cC_Amid, cC_NoName, cC_NoPath, cC_NoRoom, cC_Shut, cC_Still, cC_Stopped]
def xa_lot : List Nat := [cC_CannotStand]
def xa_name : List Nat := [cC_NoName]
def xa_number : List Nat := [cC_NoNumber, cC_NoWish]
def xa_paper : List Nat := [cC_CannotStand]
def xa_part : List Nat := [cC_NoParcel]
def xa_path : List Nat := [cC_NoPath]
def xa_room : List Nat := [cC_NoRoom]
def xa_row : List Nat := [cC_NoText]
def xk_NoNumber_number {α : Type} (ws : List α) : List α := (pk ws 0 [])
def xk_NoWish_number {α : Type} (ws : List α) : List α := (pk ws 0 [])
def xk_NoParcel_part {α : Type} (ws : List α) : List α := (pk ws 0 [])
def xk_NoName_name {α : Type} (ws : List α) : List α := (pk ws 0 [])
def xk_CannotStand_paper_lot {α : Type} (ws : List α) : List α := (pk ws 1 (pk ws 0 []))
def xk_NoText_row {α : Type} (ws : List α) : List α := (pk ws 0 [])
def xk_NoRoom_room {α : Type} (ws : List α) : List α := (pk ws 0 [])
def xk_NoPath_path {α : Type} (ws : List α) : List α := (pk ws 0 [])
/-! what the defs are worth -/
def g_law_kinds : FS := (gseq (gasg (.nm 1) (dlst (aCons (dcallB (bIsiX (.glo cC_NoParcel) xAll (mL kxy_NoParcel kxn_NoParcel)) (aCons (dvar 0) (aCons (dc (.glo cC_NoParcel)) aNil))) (aCons (dcallB (bIsiX (.glo cC_NoLot) xAll (mL kxy_NoLot kxn_NoLot)) (aCons (dvar 0) (aCons (dc (.glo cC_NoLot)) aNil))) (aCons (dcallB (bIsiX (.glo cC_NoWish) xAll (mL kxy_NoWish kxn_NoWish)) (aCons (dvar 0) (aCons (dc (.glo cC_NoWish)) aNil))) (aCons (dcallB (bIsiX (.glo cC_NoStand) xAll (mL kxy_NoStand kxn_NoStand)) (aCons (dvar 0) (aCons (dc (.glo cC_NoStand)) aNil))) aNil))))))
    (gseq (gasg (.nm 1) (dbin addX (dvar 1) (dlst (aCons (dcallB (bIsiX (.glo cC_NoOrder) xAll (mL kxy_NoOrder kxn_NoOrder)) (aCons (dvar 0) (aCons (dc (.glo cC_NoOrder)) aNil))) (aCons (dcallB (bIsiX (.glo cC_NoAnswers) xAll (mL kxy_NoAnswers kxn_NoAnswers)) (aCons (dvar 0) (aCons (dc (.glo cC_NoAnswers)) aNil))) (aCons (dcallB (bIsiX (.glo cC_NoWorth) xAll (mL kxy_NoWorth kxn_NoWorth)) (aCons (dvar 0) (aCons (dc (.glo cC_NoWorth)) aNil))) aNil))))))
    (gseq (gasg (.nm 1) (dbin addX (dvar 1) (dlst (aCons (dcallB (bIsiX (.glo cC_NoNumber) xAll (mL kxy_NoNumber kxn_NoNumber)) (aCons (dvar 0) (aCons (dc (.glo cC_NoNumber)) aNil))) (aCons (dcallB (bIsiX (.glo cC_NoText) xAll (mL kxy_NoText kxn_NoText)) (aCons (dvar 0) (aCons (dc (.glo cC_NoText)) aNil))) (aCons (dcallB (bIsiX (.glo cC_NoRow) xAll (mL kxy_NoRow kxn_NoRow)) (aCons (dvar 0) (aCons (dc (.glo cC_NoRow)) aNil))) aNil))))))
    (gseq (gasg (.nm 1) (dbin addX (dvar 1) (dlst (aCons (dcallB (bIsiX (.glo cC_CannotStand) xAll (mL kxy_CannotStand kxn_CannotStand)) (aCons (dvar 0) (aCons (dc (.glo cC_CannotStand)) aNil))) (aCons (dcallB (bIsiX (.glo cC_NoName) xAll (mL kxy_NoName kxn_NoName)) (aCons (dvar 0) (aCons (dc (.glo cC_NoName)) aNil))) (aCons (dcallB (bIsiX (.glo cC_NoPath) xAll (mL kxy_NoPath kxn_NoPath)) (aCons (dvar 0) (aCons (dc (.glo cC_NoPath)) aNil))) aNil))))))
    (gseq (gasg (.nm 1) (dbin addX (dvar 1) (dlst (aCons (dcallB (bIsiX (.glo cC_NoRoom) xAll (mL kxy_NoRoom kxn_NoRoom)) (aCons (dvar 0) (aCons (dc (.glo cC_NoRoom)) aNil))) (aCons (dcallB (bIsiX (.glo cC_Stopped) xAll (mL kxy_Stopped kxn_Stopped)) (aCons (dvar 0) (aCons (dc (.glo cC_Stopped)) aNil))) (aCons (dcallB (bIsiX (.glo cC_Amid) xAll (mL kxy_Amid kxn_Amid)) (aCons (dvar 0) (aCons (dc (.glo cC_Amid)) aNil))) (aCons (dcallB (bIsiX (.glo cC_Still) xAll (mL kxy_Still kxn_Still)) (aCons (dvar 0) (aCons (dc (.glo cC_Still)) aNil))) aNil)))))))
    (gret (dbin addX (dvar 1) (dlst (aCons (dcallB (bIsiX (.glo cC_Shut) xAll (mL kxy_Shut kxn_Shut)) (aCons (dvar 0) (aCons (dc (.glo cC_Shut)) aNil))) aNil)))))))))
def F_law_kinds : List D → Mu → R D := callF 2 g_law_kinds
def g_law_right : FS := (gseq (gif (dtest (dbin dNeC (dcall F_law_kinds [] (aCons (dvar 0) aNil)) (dlc (itR1 (aCons (dc (.int 18)) aNil)) [2] (.nm 2) tyes (dbin dEqM (dvar 2) (dvar 1))))) (gret (dc (.bl false))) gnil)
    (gseq (gif (tor (dtest (dbin dNeC (dcallB (bIsiX (.glo cC_WholeError) xAll (mL kxy_WholeError kxn_WholeError)) (aCons (dvar 0) (aCons (dc (.glo cC_WholeError)) aNil))) (dbin ltD (dvar 1) (dc (.int 11))))) (dtest (dbin dNeC (dcallB (bIsiX (.cst (.ty "ValueError")) xAll (mL kxy_ValueError kxn_ValueError)) (aCons (dvar 0) (aCons (dc (.cst (.ty "ValueError"))) aNil))) (dbin ltD (dvar 1) (dc (.int 11)))))) (gret (dc (.bl false))) gnil)
    (gret (dand (dbin dEqM (dcallB (bIsiX (.cst (.ty "KeyError")) xAll (mL kxy_KeyError kxn_KeyError)) (aCons (dvar 0) (aCons (dc (.cst (.ty "KeyError"))) aNil))) (dbin (inX true dIn) (dvar 1) (dtup (aCons (dc (.int 11)) (aCons (dc (.int 12)) (aCons (dc (.int 13)) aNil)))))) (dbin dEqM (dcallB (bIsiX (.cst (.ty "RuntimeError")) xAll (mL kxy_RuntimeError kxn_RuntimeError)) (aCons (dvar 0) (aCons (dc (.cst (.ty "RuntimeError"))) aNil))) (dbin gtD (dvar 1) (dc (.int 13))))))))
def F_law_right : List D → Mu → R D := callF 3 g_law_right
def g_law : FS := (gseq (gfor (itA (dbin addX (dlst (aCons (dc .non) (aCons (dc (.int 0)) (aCons (dc (.bl true)) (aCons (dc (.str "x")) (aCons (dtup (aCons (dc (.str "a")) (aCons (dc (.int 1)) aNil))) (aCons (dlst (aCons (dc (.int 1)) aNil)) (aCons (dDisp [((dc (.str "a")), (dc (.int 2)))]) (aCons (dbin powD (dc (.int 10)) (dc (.int 40))) aNil))))))))) (dlc (itA (dsl (dvar 0) onone (osome (dc (.int 3))))) [5] (.nm 5) tyes (dbin modD (dvar 5) (dbin powD (dc (.int 10)) (dc (.int 40))))))) (.nm 1) (gseq (gasg (.nm 2) (dlst (aCons (dexc cC_NoParcel ["part"] (aCons (dvar 1) aNil)) (aCons (dexc cC_NoLot [] aNil) (aCons (dexc cC_NoWish ["number"] (aCons (dvar 1) aNil)) (aCons (dexc cC_NoStand [] aNil) (aCons (dexc cC_NoOrder [] aNil) (aCons (dexc cC_NoAnswers [] aNil) (aCons (dexc cC_NoWorth [] aNil) (aCons (dexc cC_NoNumber ["number"] (aCons (dvar 1) aNil)) aNil))))))))))
    (gseq (gasg (.nm 2) (dbin addX (dvar 2) (dlst (aCons (dexc cC_NoText ["row"] (aCons (dvar 1) aNil)) (aCons (dexc cC_NoRow [] aNil) (aCons (dexc cC_CannotStand ["lot", "paper"] (aCons (dvar 1) (aCons (dlst (aCons (dvar 1) aNil)) aNil))) (aCons (dexc cC_NoName ["name"] (aCons (dvar 1) aNil)) (aCons (dexc cC_NoPath ["path"] (aCons (dvar 1) aNil)) (aCons (dexc cC_NoRoom ["room"] (aCons (dvar 1) aNil)) aNil)))))))))
    (gseq (gasg (.nm 2) (dbin addX (dvar 2) (dlst (aCons (dexc cC_Stopped [] aNil) (aCons (dexc cC_Amid [] aNil) (aCons (dexc cC_Still [] aNil) (aCons (dexc cC_Shut [] aNil) aNil)))))))
    (gseq (gif (dtest (dbin dNeC (dlc (itEX (aCons (dvar 2) aNil)) [6, 7] (.tp [(.nm 6), (.nm 7)]) (tnot (dtest (dcall F_law_right [] (aCons (dvar 7) (aCons (dvar 6) aNil))))) (dvar 6)) (dlst aNil))) (gret (dc (.bl false))) gnil)
    (gseq (gasg (.nm 3) (dlst (aCons (dxat xa_part "part" (dbin dIxX (dvar 2) (dc (.int 0)))) (aCons (dxat xa_number "number" (dbin dIxX (dvar 2) (dc (.int 2)))) (aCons (dxat xa_number "number" (dbin dIxX (dvar 2) (dc (.int 7)))) (aCons (dxat xa_row "row" (dbin dIxX (dvar 2) (dc (.int 8)))) (aCons (dxat xa_lot "lot" (dbin dIxX (dvar 2) (dc (.int 10)))) (aCons (dxat xa_name "name" (dbin dIxX (dvar 2) (dc (.int 11)))) (aCons (dxat xa_path "path" (dbin dIxX (dvar 2) (dc (.int 12)))) aNil)))))))))
    (gseq (gif (tor (dtest (dbin dNeC (dcallB bReprX (aCons (dbin addX (dvar 3) (dlst (aCons (dxat xa_room "room" (dbin dIxX (dvar 2) (dc (.int 13)))) aNil))) aNil)) (dcallB bReprX (aCons (dbin mulX (dlst (aCons (dvar 1) aNil)) (dc (.int 8))) aNil)))) (dtest (dbin dNeC (dcallB bReprX (aCons (dxat xa_paper "paper" (dbin dIxX (dvar 2) (dc (.int 10)))) aNil)) (dcallB bReprX (aCons (dlst (aCons (dvar 1) aNil)) aNil))))) (gret (dc (.bl false))) gnil)
    (gseq (gasg (.nm 4) (dlst (aCons (dxat xa_part "part" (dexcK cC_NoParcel ["part"] (fun es => xk_NoParcel_part es) (aCons (dvar 1) aNil))) (aCons (dxat xa_number "number" (dexcK cC_NoWish ["number"] (fun es => xk_NoWish_number es) (aCons (dvar 1) aNil))) (aCons (dxat xa_number "number" (dexcK cC_NoNumber ["number"] (fun es => xk_NoNumber_number es) (aCons (dvar 1) aNil))) aNil)))))
    (gseq (gasg (.nm 4) (dbin addX (dvar 4) (dlst (aCons (dxat xa_row "row" (dexcK cC_NoText ["row"] (fun es => xk_NoText_row es) (aCons (dvar 1) aNil))) (aCons (dxat xa_paper "paper" (dexcK cC_CannotStand ["lot", "paper"] (fun es => xk_CannotStand_paper_lot es) (aCons (dvar 1) (aCons (dc .non) aNil)))) (aCons (dxat xa_name "name" (dexcK cC_NoName ["name"] (fun es => xk_NoName_name es) (aCons (dvar 1) aNil))) aNil))))))
    (gif (dtest (dbin dNeC (dcallB bReprX (aCons (dbin addX (dvar 4) (dlst (aCons (dxat xa_path "path" (dexcK cC_NoPath ["path"] (fun es => xk_NoPath_path es) (aCons (dvar 1) aNil))) (aCons (dxat xa_room "room" (dexcK cC_NoRoom ["room"] (fun es => xk_NoRoom_room es) (aCons (dvar 1) aNil))) aNil)))) aNil)) (dcallB bReprX (aCons (dbin mulX (dlst (aCons (dvar 1) aNil)) (dc (.int 8))) aNil)))) (gret (dc (.bl false))) gnil))))))))))
    (gret (dc (.bl true))))
def F_law : List D → Mu → R D := callF 8 g_law
/-! what the top has left -/
abbrev FnP (K : PySem.W.Frag) (x q : Str) (st : Stmt) (kws : List (Str × V)) (f : Addr) (fd : FuncData) : Prop := FunD K x q (defArgs st) (defBody st) (defScope st) [] kws f fd
structure Tops (K : PySem.W.Frag) (mg : Str → Option Value) where
  f_law_kinds : Addr
  d_law_kinds : FuncData
  F_law_kinds : FnP K "_law_kinds" "_law_kinds" s_law_kinds [] f_law_kinds d_law_kinds
  m_law_kinds : mg "_law_kinds" = some (.ref f_law_kinds)
  f_law_right : Addr
  d_law_right : FuncData
  F_law_right : FnP K "_law_right" "_law_right" s_law_right [] f_law_right d_law_right
  m_law_right : mg "_law_right" = some (.ref f_law_right)
  f_law : Addr
  d_law : FuncData
  F_law : FnP K "law" "law" s_law [] f_law d_law
  m_law : mg "law" = some (.ref f_law)
  f_Amid_init : Addr
  d_Amid_init : FuncData
  F_Amid_init : FnP K "__init__" "Amid.__init__" s_Amid_init [] f_Amid_init d_Amid_init
  f_CannotStand_init : Addr
  d_CannotStand_init : FuncData
  F_CannotStand_init : FnP K "__init__" "CannotStand.__init__" s_CannotStand_init [] f_CannotStand_init d_CannotStand_init
  f_NoAnswers_init : Addr
  d_NoAnswers_init : FuncData
  F_NoAnswers_init : FnP K "__init__" "NoAnswers.__init__" s_NoAnswers_init [] f_NoAnswers_init d_NoAnswers_init
  f_NoLot_init : Addr
  d_NoLot_init : FuncData
  F_NoLot_init : FnP K "__init__" "NoLot.__init__" s_NoLot_init [] f_NoLot_init d_NoLot_init
  f_NoName_init : Addr
  d_NoName_init : FuncData
  F_NoName_init : FnP K "__init__" "NoName.__init__" s_NoName_init [] f_NoName_init d_NoName_init
  f_NoNumber_init : Addr
  d_NoNumber_init : FuncData
  F_NoNumber_init : FnP K "__init__" "NoNumber.__init__" s_NoNumber_init [] f_NoNumber_init d_NoNumber_init
  f_NoOrder_init : Addr
  d_NoOrder_init : FuncData
  F_NoOrder_init : FnP K "__init__" "NoOrder.__init__" s_NoOrder_init [] f_NoOrder_init d_NoOrder_init
  f_NoParcel_init : Addr
  d_NoParcel_init : FuncData
  F_NoParcel_init : FnP K "__init__" "NoParcel.__init__" s_NoParcel_init [] f_NoParcel_init d_NoParcel_init
  f_NoPath_init : Addr
  d_NoPath_init : FuncData
  F_NoPath_init : FnP K "__init__" "NoPath.__init__" s_NoPath_init [] f_NoPath_init d_NoPath_init
  f_NoRoom_init : Addr
  d_NoRoom_init : FuncData
  F_NoRoom_init : FnP K "__init__" "NoRoom.__init__" s_NoRoom_init [] f_NoRoom_init d_NoRoom_init
  f_NoRow_init : Addr
  d_NoRow_init : FuncData
  F_NoRow_init : FnP K "__init__" "NoRow.__init__" s_NoRow_init [] f_NoRow_init d_NoRow_init
  f_NoStand_init : Addr
  d_NoStand_init : FuncData
  F_NoStand_init : FnP K "__init__" "NoStand.__init__" s_NoStand_init [] f_NoStand_init d_NoStand_init
  f_NoText_init : Addr
  d_NoText_init : FuncData
  F_NoText_init : FnP K "__init__" "NoText.__init__" s_NoText_init [] f_NoText_init d_NoText_init
  f_NoWish_init : Addr
  d_NoWish_init : FuncData
  F_NoWish_init : FnP K "__init__" "NoWish.__init__" s_NoWish_init [] f_NoWish_init d_NoWish_init
  f_NoWorth_init : Addr
  d_NoWorth_init : FuncData
  F_NoWorth_init : FnP K "__init__" "NoWorth.__init__" s_NoWorth_init [] f_NoWorth_init d_NoWorth_init
  f_Shut_init : Addr
  d_Shut_init : FuncData
  F_Shut_init : FnP K "__init__" "Shut.__init__" s_Shut_init [] f_Shut_init d_Shut_init
  f_Still_init : Addr
  d_Still_init : FuncData
  F_Still_init : FnP K "__init__" "Still.__init__" s_Still_init [] f_Still_init d_Still_init
  f_Stopped_init : Addr
  d_Stopped_init : FuncData
  F_Stopped_init : FnP K "__init__" "Stopped.__init__" s_Stopped_init [] f_Stopped_init d_Stopped_init
  m_Amid : mg "Amid" = some (.ref (cl K cC_Amid))
  m_CannotStand : mg "CannotStand" = some (.ref (cl K cC_CannotStand))
  m_NoAnswers : mg "NoAnswers" = some (.ref (cl K cC_NoAnswers))
  m_NoLot : mg "NoLot" = some (.ref (cl K cC_NoLot))
  m_NoName : mg "NoName" = some (.ref (cl K cC_NoName))
  m_NoNumber : mg "NoNumber" = some (.ref (cl K cC_NoNumber))
  m_NoOrder : mg "NoOrder" = some (.ref (cl K cC_NoOrder))
  m_NoParcel : mg "NoParcel" = some (.ref (cl K cC_NoParcel))
  m_NoPath : mg "NoPath" = some (.ref (cl K cC_NoPath))
  m_NoRoom : mg "NoRoom" = some (.ref (cl K cC_NoRoom))
  m_NoRow : mg "NoRow" = some (.ref (cl K cC_NoRow))
  m_NoStand : mg "NoStand" = some (.ref (cl K cC_NoStand))
  m_NoText : mg "NoText" = some (.ref (cl K cC_NoText))
  m_NoWish : mg "NoWish" = some (.ref (cl K cC_NoWish))
  m_NoWorth : mg "NoWorth" = some (.ref (cl K cC_NoWorth))
  m_Shut : mg "Shut" = some (.ref (cl K cC_Shut))
  m_Still : mg "Still" = some (.ref (cl K cC_Still))
  m_Stopped : mg "Stopped" = some (.ref (cl K cC_Stopped))
  m_WholeError : mg "WholeError" = some (.ref (cl K cC_WholeError))
  oex_Amid : OexG K (cl K cC_Amid) (Bk.init .rt)
  ini_Amid : PySem.W.findIn K (.ref (cl K cC_Amid)) "__init__" = some (some (.ref f_Amid_init)) ∧ PySem.W.typeIn K (.ref f_Amid_init) = some (.type "function")
  exc_Amid : ExcC K (cl K cC_Amid) ∧ XfC K (cl K cC_Amid)
  oex_CannotStand : OexG K (cl K cC_CannotStand) (Bk.init .ve)
  ini_CannotStand : PySem.W.findIn K (.ref (cl K cC_CannotStand)) "__init__" = some (some (.ref f_CannotStand_init)) ∧ PySem.W.typeIn K (.ref f_CannotStand_init) = some (.type "function")
  exc_CannotStand : ExcC K (cl K cC_CannotStand) ∧ XfC K (cl K cC_CannotStand)
  xf_CannotStand_lot : PySem.W.findIn K (.ref (cl K cC_CannotStand)) "lot" = some none
  xf_CannotStand_paper : PySem.W.findIn K (.ref (cl K cC_CannotStand)) "paper" = some none
  oex_NoAnswers : OexG K (cl K cC_NoAnswers) (Bk.init .ve)
  ini_NoAnswers : PySem.W.findIn K (.ref (cl K cC_NoAnswers)) "__init__" = some (some (.ref f_NoAnswers_init)) ∧ PySem.W.typeIn K (.ref f_NoAnswers_init) = some (.type "function")
  exc_NoAnswers : ExcC K (cl K cC_NoAnswers) ∧ XfC K (cl K cC_NoAnswers)
  oex_NoLot : OexG K (cl K cC_NoLot) (Bk.init .ve)
  ini_NoLot : PySem.W.findIn K (.ref (cl K cC_NoLot)) "__init__" = some (some (.ref f_NoLot_init)) ∧ PySem.W.typeIn K (.ref f_NoLot_init) = some (.type "function")
  exc_NoLot : ExcC K (cl K cC_NoLot) ∧ XfC K (cl K cC_NoLot)
  oex_NoName : OexG K (cl K cC_NoName) (Bk.init .ke)
  ini_NoName : PySem.W.findIn K (.ref (cl K cC_NoName)) "__init__" = some (some (.ref f_NoName_init)) ∧ PySem.W.typeIn K (.ref f_NoName_init) = some (.type "function")
  exc_NoName : ExcC K (cl K cC_NoName) ∧ XfC K (cl K cC_NoName)
  xf_NoName_name : PySem.W.findIn K (.ref (cl K cC_NoName)) "name" = some none
  oex_NoNumber : OexG K (cl K cC_NoNumber) (Bk.init .ve)
  ini_NoNumber : PySem.W.findIn K (.ref (cl K cC_NoNumber)) "__init__" = some (some (.ref f_NoNumber_init)) ∧ PySem.W.typeIn K (.ref f_NoNumber_init) = some (.type "function")
  exc_NoNumber : ExcC K (cl K cC_NoNumber) ∧ XfC K (cl K cC_NoNumber)
  xf_NoNumber_number : PySem.W.findIn K (.ref (cl K cC_NoNumber)) "number" = some none
  oex_NoOrder : OexG K (cl K cC_NoOrder) (Bk.init .ve)
  ini_NoOrder : PySem.W.findIn K (.ref (cl K cC_NoOrder)) "__init__" = some (some (.ref f_NoOrder_init)) ∧ PySem.W.typeIn K (.ref f_NoOrder_init) = some (.type "function")
  exc_NoOrder : ExcC K (cl K cC_NoOrder) ∧ XfC K (cl K cC_NoOrder)
  oex_NoParcel : OexG K (cl K cC_NoParcel) (Bk.init .ve)
  ini_NoParcel : PySem.W.findIn K (.ref (cl K cC_NoParcel)) "__init__" = some (some (.ref f_NoParcel_init)) ∧ PySem.W.typeIn K (.ref f_NoParcel_init) = some (.type "function")
  exc_NoParcel : ExcC K (cl K cC_NoParcel) ∧ XfC K (cl K cC_NoParcel)
  xf_NoParcel_part : PySem.W.findIn K (.ref (cl K cC_NoParcel)) "part" = some none
  oex_NoPath : OexG K (cl K cC_NoPath) (Bk.init .ke)
  ini_NoPath : PySem.W.findIn K (.ref (cl K cC_NoPath)) "__init__" = some (some (.ref f_NoPath_init)) ∧ PySem.W.typeIn K (.ref f_NoPath_init) = some (.type "function")
  exc_NoPath : ExcC K (cl K cC_NoPath) ∧ XfC K (cl K cC_NoPath)
  xf_NoPath_path : PySem.W.findIn K (.ref (cl K cC_NoPath)) "path" = some none
  oex_NoRoom : OexG K (cl K cC_NoRoom) (Bk.init .ke)
  ini_NoRoom : PySem.W.findIn K (.ref (cl K cC_NoRoom)) "__init__" = some (some (.ref f_NoRoom_init)) ∧ PySem.W.typeIn K (.ref f_NoRoom_init) = some (.type "function")
  exc_NoRoom : ExcC K (cl K cC_NoRoom) ∧ XfC K (cl K cC_NoRoom)
  xf_NoRoom_room : PySem.W.findIn K (.ref (cl K cC_NoRoom)) "room" = some none
  oex_NoRow : OexG K (cl K cC_NoRow) (Bk.init .ve)
  ini_NoRow : PySem.W.findIn K (.ref (cl K cC_NoRow)) "__init__" = some (some (.ref f_NoRow_init)) ∧ PySem.W.typeIn K (.ref f_NoRow_init) = some (.type "function")
  exc_NoRow : ExcC K (cl K cC_NoRow) ∧ XfC K (cl K cC_NoRow)
  oex_NoStand : OexG K (cl K cC_NoStand) (Bk.init .ve)
  ini_NoStand : PySem.W.findIn K (.ref (cl K cC_NoStand)) "__init__" = some (some (.ref f_NoStand_init)) ∧ PySem.W.typeIn K (.ref f_NoStand_init) = some (.type "function")
  exc_NoStand : ExcC K (cl K cC_NoStand) ∧ XfC K (cl K cC_NoStand)
  oex_NoText : OexG K (cl K cC_NoText) (Bk.init .ve)
  ini_NoText : PySem.W.findIn K (.ref (cl K cC_NoText)) "__init__" = some (some (.ref f_NoText_init)) ∧ PySem.W.typeIn K (.ref f_NoText_init) = some (.type "function")
  exc_NoText : ExcC K (cl K cC_NoText) ∧ XfC K (cl K cC_NoText)
  xf_NoText_row : PySem.W.findIn K (.ref (cl K cC_NoText)) "row" = some none
  oex_NoWish : OexG K (cl K cC_NoWish) (Bk.init .ve)
  ini_NoWish : PySem.W.findIn K (.ref (cl K cC_NoWish)) "__init__" = some (some (.ref f_NoWish_init)) ∧ PySem.W.typeIn K (.ref f_NoWish_init) = some (.type "function")
  exc_NoWish : ExcC K (cl K cC_NoWish) ∧ XfC K (cl K cC_NoWish)
  xf_NoWish_number : PySem.W.findIn K (.ref (cl K cC_NoWish)) "number" = some none
  oex_NoWorth : OexG K (cl K cC_NoWorth) (Bk.init .ve)
  ini_NoWorth : PySem.W.findIn K (.ref (cl K cC_NoWorth)) "__init__" = some (some (.ref f_NoWorth_init)) ∧ PySem.W.typeIn K (.ref f_NoWorth_init) = some (.type "function")
  exc_NoWorth : ExcC K (cl K cC_NoWorth) ∧ XfC K (cl K cC_NoWorth)
  oex_Shut : OexG K (cl K cC_Shut) (Bk.init .rt)
  ini_Shut : PySem.W.findIn K (.ref (cl K cC_Shut)) "__init__" = some (some (.ref f_Shut_init)) ∧ PySem.W.typeIn K (.ref f_Shut_init) = some (.type "function")
  exc_Shut : ExcC K (cl K cC_Shut) ∧ XfC K (cl K cC_Shut)
  oex_Still : OexG K (cl K cC_Still) (Bk.init .rt)
  ini_Still : PySem.W.findIn K (.ref (cl K cC_Still)) "__init__" = some (some (.ref f_Still_init)) ∧ PySem.W.typeIn K (.ref f_Still_init) = some (.type "function")
  exc_Still : ExcC K (cl K cC_Still) ∧ XfC K (cl K cC_Still)
  oex_Stopped : OexG K (cl K cC_Stopped) (Bk.init .rt)
  ini_Stopped : PySem.W.findIn K (.ref (cl K cC_Stopped)) "__init__" = some (some (.ref f_Stopped_init)) ∧ PySem.W.typeIn K (.ref f_Stopped_init) = some (.type "function")
  exc_Stopped : ExcC K (cl K cC_Stopped) ∧ XfC K (cl K cC_Stopped)
  gm_WholeError : gmB K cC_WholeError (Bk.init .ve) = true
  gm_KeyError : gmTB K .ke = true
  gm_RuntimeError : gmTB K .rt = true
  xall : ∀ C ∈ xAll, ExcC K (cl K C)
  kx_Amid : ∀ C b, mL kxy_Amid kxn_Amid C = some b → PySem.W.kitOne K (.ref (cl K C)) (Ty.val K (.own cC_Amid)) = some b
  kx_CannotStand : ∀ C b, mL kxy_CannotStand kxn_CannotStand C = some b → PySem.W.kitOne K (.ref (cl K C)) (Ty.val K (.own cC_CannotStand)) = some b
  kx_KeyError : ∀ C b, mL kxy_KeyError kxn_KeyError C = some b → PySem.W.kitOne K (.ref (cl K C)) (Ty.val K (.blt "KeyError")) = some b
  kx_NoAnswers : ∀ C b, mL kxy_NoAnswers kxn_NoAnswers C = some b → PySem.W.kitOne K (.ref (cl K C)) (Ty.val K (.own cC_NoAnswers)) = some b
  kx_NoLot : ∀ C b, mL kxy_NoLot kxn_NoLot C = some b → PySem.W.kitOne K (.ref (cl K C)) (Ty.val K (.own cC_NoLot)) = some b
  kx_NoName : ∀ C b, mL kxy_NoName kxn_NoName C = some b → PySem.W.kitOne K (.ref (cl K C)) (Ty.val K (.own cC_NoName)) = some b
  kx_NoNumber : ∀ C b, mL kxy_NoNumber kxn_NoNumber C = some b → PySem.W.kitOne K (.ref (cl K C)) (Ty.val K (.own cC_NoNumber)) = some b
  kx_NoOrder : ∀ C b, mL kxy_NoOrder kxn_NoOrder C = some b → PySem.W.kitOne K (.ref (cl K C)) (Ty.val K (.own cC_NoOrder)) = some b
  kx_NoParcel : ∀ C b, mL kxy_NoParcel kxn_NoParcel C = some b → PySem.W.kitOne K (.ref (cl K C)) (Ty.val K (.own cC_NoParcel)) = some b
  kx_NoPath : ∀ C b, mL kxy_NoPath kxn_NoPath C = some b → PySem.W.kitOne K (.ref (cl K C)) (Ty.val K (.own cC_NoPath)) = some b
  kx_NoRoom : ∀ C b, mL kxy_NoRoom kxn_NoRoom C = some b → PySem.W.kitOne K (.ref (cl K C)) (Ty.val K (.own cC_NoRoom)) = some b
  kx_NoRow : ∀ C b, mL kxy_NoRow kxn_NoRow C = some b → PySem.W.kitOne K (.ref (cl K C)) (Ty.val K (.own cC_NoRow)) = some b
  kx_NoStand : ∀ C b, mL kxy_NoStand kxn_NoStand C = some b → PySem.W.kitOne K (.ref (cl K C)) (Ty.val K (.own cC_NoStand)) = some b
  kx_NoText : ∀ C b, mL kxy_NoText kxn_NoText C = some b → PySem.W.kitOne K (.ref (cl K C)) (Ty.val K (.own cC_NoText)) = some b
  kx_NoWish : ∀ C b, mL kxy_NoWish kxn_NoWish C = some b → PySem.W.kitOne K (.ref (cl K C)) (Ty.val K (.own cC_NoWish)) = some b
  kx_NoWorth : ∀ C b, mL kxy_NoWorth kxn_NoWorth C = some b → PySem.W.kitOne K (.ref (cl K C)) (Ty.val K (.own cC_NoWorth)) = some b
  kx_RuntimeError : ∀ C b, mL kxy_RuntimeError kxn_RuntimeError C = some b → PySem.W.kitOne K (.ref (cl K C)) (Ty.val K (.blt "RuntimeError")) = some b
  kx_Shut : ∀ C b, mL kxy_Shut kxn_Shut C = some b → PySem.W.kitOne K (.ref (cl K C)) (Ty.val K (.own cC_Shut)) = some b
  kx_Still : ∀ C b, mL kxy_Still kxn_Still C = some b → PySem.W.kitOne K (.ref (cl K C)) (Ty.val K (.own cC_Still)) = some b
  kx_Stopped : ∀ C b, mL kxy_Stopped kxn_Stopped C = some b → PySem.W.kitOne K (.ref (cl K C)) (Ty.val K (.own cC_Stopped)) = some b
  kx_ValueError : ∀ C b, mL kxy_ValueError kxn_ValueError C = some b → PySem.W.kitOne K (.ref (cl K C)) (Ty.val K (.blt "ValueError")) = some b
  kx_WholeError : ∀ C b, mL kxy_WholeError kxn_WholeError C = some b → PySem.W.kitOne K (.ref (cl K C)) (Ty.val K (.own cC_WholeError)) = some b
  xat_lot : ∀ C ∈ xa_lot, XfC K (cl K C) ∧ PySem.W.findIn K (.ref (cl K C)) "lot" = some none
  xat_name : ∀ C ∈ xa_name, XfC K (cl K C) ∧ PySem.W.findIn K (.ref (cl K C)) "name" = some none
  xat_number : ∀ C ∈ xa_number, XfC K (cl K C) ∧ PySem.W.findIn K (.ref (cl K C)) "number" = some none
  xat_paper : ∀ C ∈ xa_paper, XfC K (cl K C) ∧ PySem.W.findIn K (.ref (cl K C)) "paper" = some none
  xat_part : ∀ C ∈ xa_part, XfC K (cl K C) ∧ PySem.W.findIn K (.ref (cl K C)) "part" = some none
  xat_path : ∀ C ∈ xa_path, XfC K (cl K C) ∧ PySem.W.findIn K (.ref (cl K C)) "path" = some none
  xat_room : ∀ C ∈ xa_room, XfC K (cl K C) ∧ PySem.W.findIn K (.ref (cl K C)) "room" = some none
  xat_row : ∀ C ∈ xa_row, XfC K (cl K C) ∧ PySem.W.findIn K (.ref (cl K C)) "row" = some none
  z_KeyError : mg "KeyError" = none
  z_RuntimeError : mg "RuntimeError" = none
  z_ValueError : mg "ValueError" = none
  z_enumerate : mg "enumerate" = none
  z_isinstance : mg "isinstance" = none
  z_range : mg "range" = none
  z_repr : mg "repr" = none
section
variable {P : Program} {w : World} {K : PySem.W.Frag} {mg : Str → Option Value} {base : Heap}
theorem Tops.b_law_right_2 (T : Tops K mg) : Dfl K T.d_law_right ["_law_one", "_law_at"] 2 [] := dfl0 (T.F_law_right.bindsN fun _ _ _ _ _ _ us hl => match us, hl with | [_, _], _ => rfl)
theorem Tops.b_law_kinds_1 (T : Tops K mg) : Dfl K T.d_law_kinds ["_law_one"] 1 [] := dfl0 (T.F_law_kinds.bindsN fun _ _ _ _ _ _ us hl => match us, hl with | [_], _ => rfl)
theorem Tops.bi_Amid (T : Tops K mg) : Binds K T.d_Amid_init ["self"] [] := T.F_Amid_init.bindsN fun _ _ _ _ _ _ us hl => match us, hl with | [_], _ => rfl
set_option maxHeartbeats 8000000 in
theorem ei_Amid (T : Tops K mg) : FnOk P w K mg base (L2.CX P w) 1 T.f_Amid_init T.d_Amid_init ["self"] (sp0 (cl K cC_Amid)) := by
  refine FunD.ok (k := 0) T.F_Amid_init sc_Amid_init (fun vs H Q E h => by obtain ⟨a, rfl, _⟩ := h; rfl) fun cdv A outer s H vs Q E hr h => ⟨tI0 K (Bk.init .rt), ?_, ?_⟩
  · exact pss_init0 (pl := _) rfl (names_blt rfl T.z_RuntimeError (by decide +kernel)) (gmTB_ok T.gm_RuntimeError) rfl (.inl rfl)
  · obtain ⟨a, rfl, ha, q⟩ := h
    exact ⟨a, cl K cC_Amid, rfl, T.oex_Amid, ha, q⟩
theorem Tops.bi_CannotStand (T : Tops K mg) : Binds K T.d_CannotStand_init ["self", "lot", "paper"] [] := T.F_CannotStand_init.bindsN fun _ _ _ _ _ _ us hl => match us, hl with | [_, _, _], _ => rfl
theorem Tops.xd_CannotStand_paper_lot (T : Tops K mg) : XDfl K T.d_CannotStand_init ["self", "lot", "paper"] ["paper", "lot"] (fun {α} => xk_CannotStand_paper_lot) := xdfl T.F_CannotStand_init ["paper", "lot"] (fun {α} => xk_CannotStand_paper_lot) (fun r => (vals_pk (vals_pk .nil 0 r) 1 r)) (fun W zs es r => (reps_pk (reps_pk .nil 0 r) 1 r)) fun kV doc pm an cdv ct a ws hl => match ws, hl with | [_, _], _ => rfl
set_option maxHeartbeats 8000000 in
theorem ei_CannotStand (T : Tops K mg) : FnOk P w K mg base (L2.CX P w) 1 T.f_CannotStand_init T.d_CannotStand_init ["self", "lot", "paper"] (sp2 (cl K cC_CannotStand) "lot" "paper") := by
  refine FunD.ok (k := 0) T.F_CannotStand_init sc_CannotStand_init (fun vs H Q E h => by obtain ⟨a, y, z, rfl, _⟩ := h; rfl) fun cdv A outer s H vs Q E hr h => ⟨tI2 K (Bk.init .ve) "lot" "paper", ?_, ?_⟩
  · exact pss_init2 (pl := _) rfl ⟨rfl, by decide, .inl T.m_WholeError⟩ (gmB_ok (k := .ve) T.gm_WholeError) rfl (.inl rfl) rfl (.inl rfl) (by decide) (by decide) rfl (.inl rfl) (by decide) (by decide)
  · obtain ⟨a, y, z, rfl, ha, q⟩ := h
    exact ⟨a, cl K cC_CannotStand, y, z, rfl, rfl, rfl, T.oex_CannotStand, T.xf_CannotStand_lot, T.xf_CannotStand_paper, ha, q⟩
theorem Tops.bi_NoAnswers (T : Tops K mg) : Binds K T.d_NoAnswers_init ["self"] [] := T.F_NoAnswers_init.bindsN fun _ _ _ _ _ _ us hl => match us, hl with | [_], _ => rfl
set_option maxHeartbeats 8000000 in
theorem ei_NoAnswers (T : Tops K mg) : FnOk P w K mg base (L2.CX P w) 1 T.f_NoAnswers_init T.d_NoAnswers_init ["self"] (sp0 (cl K cC_NoAnswers)) := by
  refine FunD.ok (k := 0) T.F_NoAnswers_init sc_NoAnswers_init (fun vs H Q E h => by obtain ⟨a, rfl, _⟩ := h; rfl) fun cdv A outer s H vs Q E hr h => ⟨tI0 K (Bk.init .ve), ?_, ?_⟩
  · exact pss_init0 (pl := _) rfl ⟨rfl, by decide, .inl T.m_WholeError⟩ (gmB_ok (k := .ve) T.gm_WholeError) rfl (.inl rfl)
  · obtain ⟨a, rfl, ha, q⟩ := h
    exact ⟨a, cl K cC_NoAnswers, rfl, T.oex_NoAnswers, ha, q⟩
theorem Tops.bi_NoLot (T : Tops K mg) : Binds K T.d_NoLot_init ["self"] [] := T.F_NoLot_init.bindsN fun _ _ _ _ _ _ us hl => match us, hl with | [_], _ => rfl
set_option maxHeartbeats 8000000 in
theorem ei_NoLot (T : Tops K mg) : FnOk P w K mg base (L2.CX P w) 1 T.f_NoLot_init T.d_NoLot_init ["self"] (sp0 (cl K cC_NoLot)) := by
  refine FunD.ok (k := 0) T.F_NoLot_init sc_NoLot_init (fun vs H Q E h => by obtain ⟨a, rfl, _⟩ := h; rfl) fun cdv A outer s H vs Q E hr h => ⟨tI0 K (Bk.init .ve), ?_, ?_⟩
  · exact pss_init0 (pl := _) rfl ⟨rfl, by decide, .inl T.m_WholeError⟩ (gmB_ok (k := .ve) T.gm_WholeError) rfl (.inl rfl)
  · obtain ⟨a, rfl, ha, q⟩ := h
    exact ⟨a, cl K cC_NoLot, rfl, T.oex_NoLot, ha, q⟩
theorem Tops.bi_NoName (T : Tops K mg) : Binds K T.d_NoName_init ["self", "name"] [] := T.F_NoName_init.bindsN fun _ _ _ _ _ _ us hl => match us, hl with | [_, _], _ => rfl
theorem Tops.xd_NoName_name (T : Tops K mg) : XDfl K T.d_NoName_init ["self", "name"] ["name"] (fun {α} => xk_NoName_name) := xdfl T.F_NoName_init ["name"] (fun {α} => xk_NoName_name) (fun r => (vals_pk .nil 0 r)) (fun W zs es r => (reps_pk .nil 0 r)) fun kV doc pm an cdv ct a ws hl => match ws, hl with | [_], _ => rfl
set_option maxHeartbeats 8000000 in
theorem ei_NoName (T : Tops K mg) : FnOk P w K mg base (L2.CX P w) 1 T.f_NoName_init T.d_NoName_init ["self", "name"] (sp1 (cl K cC_NoName) "name") := by
  refine FunD.ok (k := 0) T.F_NoName_init sc_NoName_init (fun vs H Q E h => by obtain ⟨a, y, rfl, _⟩ := h; rfl) fun cdv A outer s H vs Q E hr h => ⟨tI1 K (Bk.init .ke) "name", ?_, ?_⟩
  · exact pss_init1 (pl := _) rfl (names_blt rfl T.z_KeyError (by decide +kernel)) (gmTB_ok T.gm_KeyError) rfl (.inl rfl) rfl (.inl rfl) (by decide) (by decide)
  · obtain ⟨a, y, rfl, ha, q⟩ := h
    exact ⟨a, cl K cC_NoName, y, rfl, rfl, T.oex_NoName, T.xf_NoName_name, ha, q⟩
theorem Tops.bi_NoNumber (T : Tops K mg) : Binds K T.d_NoNumber_init ["self", "number"] [] := T.F_NoNumber_init.bindsN fun _ _ _ _ _ _ us hl => match us, hl with | [_, _], _ => rfl
theorem Tops.xd_NoNumber_number (T : Tops K mg) : XDfl K T.d_NoNumber_init ["self", "number"] ["number"] (fun {α} => xk_NoNumber_number) := xdfl T.F_NoNumber_init ["number"] (fun {α} => xk_NoNumber_number) (fun r => (vals_pk .nil 0 r)) (fun W zs es r => (reps_pk .nil 0 r)) fun kV doc pm an cdv ct a ws hl => match ws, hl with | [_], _ => rfl
set_option maxHeartbeats 8000000 in
theorem ei_NoNumber (T : Tops K mg) : FnOk P w K mg base (L2.CX P w) 1 T.f_NoNumber_init T.d_NoNumber_init ["self", "number"] (sp1 (cl K cC_NoNumber) "number") := by
  refine FunD.ok (k := 0) T.F_NoNumber_init sc_NoNumber_init (fun vs H Q E h => by obtain ⟨a, y, rfl, _⟩ := h; rfl) fun cdv A outer s H vs Q E hr h => ⟨tI1 K (Bk.init .ve) "number", ?_, ?_⟩
  · exact pss_init1 (pl := _) rfl ⟨rfl, by decide, .inl T.m_WholeError⟩ (gmB_ok (k := .ve) T.gm_WholeError) rfl (.inl rfl) rfl (.inl rfl) (by decide) (by decide)
  · obtain ⟨a, y, rfl, ha, q⟩ := h
    exact ⟨a, cl K cC_NoNumber, y, rfl, rfl, T.oex_NoNumber, T.xf_NoNumber_number, ha, q⟩
theorem Tops.bi_NoOrder (T : Tops K mg) : Binds K T.d_NoOrder_init ["self"] [] := T.F_NoOrder_init.bindsN fun _ _ _ _ _ _ us hl => match us, hl with | [_], _ => rfl
set_option maxHeartbeats 8000000 in
theorem ei_NoOrder (T : Tops K mg) : FnOk P w K mg base (L2.CX P w) 1 T.f_NoOrder_init T.d_NoOrder_init ["self"] (sp0 (cl K cC_NoOrder)) := by
  refine FunD.ok (k := 0) T.F_NoOrder_init sc_NoOrder_init (fun vs H Q E h => by obtain ⟨a, rfl, _⟩ := h; rfl) fun cdv A outer s H vs Q E hr h => ⟨tI0 K (Bk.init .ve), ?_, ?_⟩
  · exact pss_init0 (pl := _) rfl ⟨rfl, by decide, .inl T.m_WholeError⟩ (gmB_ok (k := .ve) T.gm_WholeError) rfl (.inl rfl)
  · obtain ⟨a, rfl, ha, q⟩ := h
    exact ⟨a, cl K cC_NoOrder, rfl, T.oex_NoOrder, ha, q⟩
theorem Tops.bi_NoParcel (T : Tops K mg) : Binds K T.d_NoParcel_init ["self", "part"] [] := T.F_NoParcel_init.bindsN fun _ _ _ _ _ _ us hl => match us, hl with | [_, _], _ => rfl
theorem Tops.xd_NoParcel_part (T : Tops K mg) : XDfl K T.d_NoParcel_init ["self", "part"] ["part"] (fun {α} => xk_NoParcel_part) := xdfl T.F_NoParcel_init ["part"] (fun {α} => xk_NoParcel_part) (fun r => (vals_pk .nil 0 r)) (fun W zs es r => (reps_pk .nil 0 r)) fun kV doc pm an cdv ct a ws hl => match ws, hl with | [_], _ => rfl
set_option maxHeartbeats 8000000 in
theorem ei_NoParcel (T : Tops K mg) : FnOk P w K mg base (L2.CX P w) 1 T.f_NoParcel_init T.d_NoParcel_init ["self", "part"] (sp1 (cl K cC_NoParcel) "part") := by
  refine FunD.ok (k := 0) T.F_NoParcel_init sc_NoParcel_init (fun vs H Q E h => by obtain ⟨a, y, rfl, _⟩ := h; rfl) fun cdv A outer s H vs Q E hr h => ⟨tI1 K (Bk.init .ve) "part", ?_, ?_⟩
  · exact pss_init1 (pl := _) rfl ⟨rfl, by decide, .inl T.m_WholeError⟩ (gmB_ok (k := .ve) T.gm_WholeError) rfl (.inl rfl) rfl (.inl rfl) (by decide) (by decide)
  · obtain ⟨a, y, rfl, ha, q⟩ := h
    exact ⟨a, cl K cC_NoParcel, y, rfl, rfl, T.oex_NoParcel, T.xf_NoParcel_part, ha, q⟩
theorem Tops.bi_NoPath (T : Tops K mg) : Binds K T.d_NoPath_init ["self", "path"] [] := T.F_NoPath_init.bindsN fun _ _ _ _ _ _ us hl => match us, hl with | [_, _], _ => rfl
theorem Tops.xd_NoPath_path (T : Tops K mg) : XDfl K T.d_NoPath_init ["self", "path"] ["path"] (fun {α} => xk_NoPath_path) := xdfl T.F_NoPath_init ["path"] (fun {α} => xk_NoPath_path) (fun r => (vals_pk .nil 0 r)) (fun W zs es r => (reps_pk .nil 0 r)) fun kV doc pm an cdv ct a ws hl => match ws, hl with | [_], _ => rfl
set_option maxHeartbeats 8000000 in
theorem ei_NoPath (T : Tops K mg) : FnOk P w K mg base (L2.CX P w) 1 T.f_NoPath_init T.d_NoPath_init ["self", "path"] (sp1 (cl K cC_NoPath) "path") := by
  refine FunD.ok (k := 0) T.F_NoPath_init sc_NoPath_init (fun vs H Q E h => by obtain ⟨a, y, rfl, _⟩ := h; rfl) fun cdv A outer s H vs Q E hr h => ⟨tI1 K (Bk.init .ke) "path", ?_, ?_⟩
  · exact pss_init1 (pl := _) rfl (names_blt rfl T.z_KeyError (by decide +kernel)) (gmTB_ok T.gm_KeyError) rfl (.inl rfl) rfl (.inl rfl) (by decide) (by decide)
  · obtain ⟨a, y, rfl, ha, q⟩ := h
    exact ⟨a, cl K cC_NoPath, y, rfl, rfl, T.oex_NoPath, T.xf_NoPath_path, ha, q⟩
theorem Tops.bi_NoRoom (T : Tops K mg) : Binds K T.d_NoRoom_init ["self", "room"] [] := T.F_NoRoom_init.bindsN fun _ _ _ _ _ _ us hl => match us, hl with | [_, _], _ => rfl
theorem Tops.xd_NoRoom_room (T : Tops K mg) : XDfl K T.d_NoRoom_init ["self", "room"] ["room"] (fun {α} => xk_NoRoom_room) := xdfl T.F_NoRoom_init ["room"] (fun {α} => xk_NoRoom_room) (fun r => (vals_pk .nil 0 r)) (fun W zs es r => (reps_pk .nil 0 r)) fun kV doc pm an cdv ct a ws hl => match ws, hl with | [_], _ => rfl
set_option maxHeartbeats 8000000 in
theorem ei_NoRoom (T : Tops K mg) : FnOk P w K mg base (L2.CX P w) 1 T.f_NoRoom_init T.d_NoRoom_init ["self", "room"] (sp1 (cl K cC_NoRoom) "room") := by
  refine FunD.ok (k := 0) T.F_NoRoom_init sc_NoRoom_init (fun vs H Q E h => by obtain ⟨a, y, rfl, _⟩ := h; rfl) fun cdv A outer s H vs Q E hr h => ⟨tI1 K (Bk.init .ke) "room", ?_, ?_⟩
  · exact pss_init1 (pl := _) rfl (names_blt rfl T.z_KeyError (by decide +kernel)) (gmTB_ok T.gm_KeyError) rfl (.inl rfl) rfl (.inl rfl) (by decide) (by decide)
  · obtain ⟨a, y, rfl, ha, q⟩ := h
    exact ⟨a, cl K cC_NoRoom, y, rfl, rfl, T.oex_NoRoom, T.xf_NoRoom_room, ha, q⟩
theorem Tops.bi_NoRow (T : Tops K mg) : Binds K T.d_NoRow_init ["self"] [] := T.F_NoRow_init.bindsN fun _ _ _ _ _ _ us hl => match us, hl with | [_], _ => rfl
set_option maxHeartbeats 8000000 in
theorem ei_NoRow (T : Tops K mg) : FnOk P w K mg base (L2.CX P w) 1 T.f_NoRow_init T.d_NoRow_init ["self"] (sp0 (cl K cC_NoRow)) := by
  refine FunD.ok (k := 0) T.F_NoRow_init sc_NoRow_init (fun vs H Q E h => by obtain ⟨a, rfl, _⟩ := h; rfl) fun cdv A outer s H vs Q E hr h => ⟨tI0 K (Bk.init .ve), ?_, ?_⟩
  · exact pss_init0 (pl := _) rfl ⟨rfl, by decide, .inl T.m_WholeError⟩ (gmB_ok (k := .ve) T.gm_WholeError) rfl (.inl rfl)
  · obtain ⟨a, rfl, ha, q⟩ := h
    exact ⟨a, cl K cC_NoRow, rfl, T.oex_NoRow, ha, q⟩
theorem Tops.bi_NoStand (T : Tops K mg) : Binds K T.d_NoStand_init ["self"] [] := T.F_NoStand_init.bindsN fun _ _ _ _ _ _ us hl => match us, hl with | [_], _ => rfl
set_option maxHeartbeats 8000000 in
theorem ei_NoStand (T : Tops K mg) : FnOk P w K mg base (L2.CX P w) 1 T.f_NoStand_init T.d_NoStand_init ["self"] (sp0 (cl K cC_NoStand)) := by
  refine FunD.ok (k := 0) T.F_NoStand_init sc_NoStand_init (fun vs H Q E h => by obtain ⟨a, rfl, _⟩ := h; rfl) fun cdv A outer s H vs Q E hr h => ⟨tI0 K (Bk.init .ve), ?_, ?_⟩
  · exact pss_init0 (pl := _) rfl ⟨rfl, by decide, .inl T.m_WholeError⟩ (gmB_ok (k := .ve) T.gm_WholeError) rfl (.inl rfl)
  · obtain ⟨a, rfl, ha, q⟩ := h
    exact ⟨a, cl K cC_NoStand, rfl, T.oex_NoStand, ha, q⟩
theorem Tops.bi_NoText (T : Tops K mg) : Binds K T.d_NoText_init ["self", "row"] [] := T.F_NoText_init.bindsN fun _ _ _ _ _ _ us hl => match us, hl with | [_, _], _ => rfl
theorem Tops.xd_NoText_row (T : Tops K mg) : XDfl K T.d_NoText_init ["self", "row"] ["row"] (fun {α} => xk_NoText_row) := xdfl T.F_NoText_init ["row"] (fun {α} => xk_NoText_row) (fun r => (vals_pk .nil 0 r)) (fun W zs es r => (reps_pk .nil 0 r)) fun kV doc pm an cdv ct a ws hl => match ws, hl with | [_], _ => rfl
set_option maxHeartbeats 8000000 in
theorem ei_NoText (T : Tops K mg) : FnOk P w K mg base (L2.CX P w) 1 T.f_NoText_init T.d_NoText_init ["self", "row"] (sp1 (cl K cC_NoText) "row") := by
  refine FunD.ok (k := 0) T.F_NoText_init sc_NoText_init (fun vs H Q E h => by obtain ⟨a, y, rfl, _⟩ := h; rfl) fun cdv A outer s H vs Q E hr h => ⟨tI1 K (Bk.init .ve) "row", ?_, ?_⟩
  · exact pss_init1 (pl := _) rfl ⟨rfl, by decide, .inl T.m_WholeError⟩ (gmB_ok (k := .ve) T.gm_WholeError) rfl (.inl rfl) rfl (.inl rfl) (by decide) (by decide)
  · obtain ⟨a, y, rfl, ha, q⟩ := h
    exact ⟨a, cl K cC_NoText, y, rfl, rfl, T.oex_NoText, T.xf_NoText_row, ha, q⟩
theorem Tops.bi_NoWish (T : Tops K mg) : Binds K T.d_NoWish_init ["self", "number"] [] := T.F_NoWish_init.bindsN fun _ _ _ _ _ _ us hl => match us, hl with | [_, _], _ => rfl
theorem Tops.xd_NoWish_number (T : Tops K mg) : XDfl K T.d_NoWish_init ["self", "number"] ["number"] (fun {α} => xk_NoWish_number) := xdfl T.F_NoWish_init ["number"] (fun {α} => xk_NoWish_number) (fun r => (vals_pk .nil 0 r)) (fun W zs es r => (reps_pk .nil 0 r)) fun kV doc pm an cdv ct a ws hl => match ws, hl with | [_], _ => rfl
set_option maxHeartbeats 8000000 in
theorem ei_NoWish (T : Tops K mg) : FnOk P w K mg base (L2.CX P w) 1 T.f_NoWish_init T.d_NoWish_init ["self", "number"] (sp1 (cl K cC_NoWish) "number") := by
  refine FunD.ok (k := 0) T.F_NoWish_init sc_NoWish_init (fun vs H Q E h => by obtain ⟨a, y, rfl, _⟩ := h; rfl) fun cdv A outer s H vs Q E hr h => ⟨tI1 K (Bk.init .ve) "number", ?_, ?_⟩
  · exact pss_init1 (pl := _) rfl ⟨rfl, by decide, .inl T.m_WholeError⟩ (gmB_ok (k := .ve) T.gm_WholeError) rfl (.inl rfl) rfl (.inl rfl) (by decide) (by decide)
  · obtain ⟨a, y, rfl, ha, q⟩ := h
    exact ⟨a, cl K cC_NoWish, y, rfl, rfl, T.oex_NoWish, T.xf_NoWish_number, ha, q⟩
theorem Tops.bi_NoWorth (T : Tops K mg) : Binds K T.d_NoWorth_init ["self"] [] := T.F_NoWorth_init.bindsN fun _ _ _ _ _ _ us hl => match us, hl with | [_], _ => rfl
set_option maxHeartbeats 8000000 in
theorem ei_NoWorth (T : Tops K mg) : FnOk P w K mg base (L2.CX P w) 1 T.f_NoWorth_init T.d_NoWorth_init ["self"] (sp0 (cl K cC_NoWorth)) := by
  refine FunD.ok (k := 0) T.F_NoWorth_init sc_NoWorth_init (fun vs H Q E h => by obtain ⟨a, rfl, _⟩ := h; rfl) fun cdv A outer s H vs Q E hr h => ⟨tI0 K (Bk.init .ve), ?_, ?_⟩
  · exact pss_init0 (pl := _) rfl ⟨rfl, by decide, .inl T.m_WholeError⟩ (gmB_ok (k := .ve) T.gm_WholeError) rfl (.inl rfl)
  · obtain ⟨a, rfl, ha, q⟩ := h
    exact ⟨a, cl K cC_NoWorth, rfl, T.oex_NoWorth, ha, q⟩
theorem Tops.bi_Shut (T : Tops K mg) : Binds K T.d_Shut_init ["self"] [] := T.F_Shut_init.bindsN fun _ _ _ _ _ _ us hl => match us, hl with | [_], _ => rfl
set_option maxHeartbeats 8000000 in
theorem ei_Shut (T : Tops K mg) : FnOk P w K mg base (L2.CX P w) 1 T.f_Shut_init T.d_Shut_init ["self"] (sp0 (cl K cC_Shut)) := by
  refine FunD.ok (k := 0) T.F_Shut_init sc_Shut_init (fun vs H Q E h => by obtain ⟨a, rfl, _⟩ := h; rfl) fun cdv A outer s H vs Q E hr h => ⟨tI0 K (Bk.init .rt), ?_, ?_⟩
  · exact pss_init0 (pl := _) rfl (names_blt rfl T.z_RuntimeError (by decide +kernel)) (gmTB_ok T.gm_RuntimeError) rfl (.inl rfl)
  · obtain ⟨a, rfl, ha, q⟩ := h
    exact ⟨a, cl K cC_Shut, rfl, T.oex_Shut, ha, q⟩
theorem Tops.bi_Still (T : Tops K mg) : Binds K T.d_Still_init ["self"] [] := T.F_Still_init.bindsN fun _ _ _ _ _ _ us hl => match us, hl with | [_], _ => rfl
set_option maxHeartbeats 8000000 in
theorem ei_Still (T : Tops K mg) : FnOk P w K mg base (L2.CX P w) 1 T.f_Still_init T.d_Still_init ["self"] (sp0 (cl K cC_Still)) := by
  refine FunD.ok (k := 0) T.F_Still_init sc_Still_init (fun vs H Q E h => by obtain ⟨a, rfl, _⟩ := h; rfl) fun cdv A outer s H vs Q E hr h => ⟨tI0 K (Bk.init .rt), ?_, ?_⟩
  · exact pss_init0 (pl := _) rfl (names_blt rfl T.z_RuntimeError (by decide +kernel)) (gmTB_ok T.gm_RuntimeError) rfl (.inl rfl)
  · obtain ⟨a, rfl, ha, q⟩ := h
    exact ⟨a, cl K cC_Still, rfl, T.oex_Still, ha, q⟩
theorem Tops.bi_Stopped (T : Tops K mg) : Binds K T.d_Stopped_init ["self"] [] := T.F_Stopped_init.bindsN fun _ _ _ _ _ _ us hl => match us, hl with | [_], _ => rfl
set_option maxHeartbeats 8000000 in
theorem ei_Stopped (T : Tops K mg) : FnOk P w K mg base (L2.CX P w) 1 T.f_Stopped_init T.d_Stopped_init ["self"] (sp0 (cl K cC_Stopped)) := by
  refine FunD.ok (k := 0) T.F_Stopped_init sc_Stopped_init (fun vs H Q E h => by obtain ⟨a, rfl, _⟩ := h; rfl) fun cdv A outer s H vs Q E hr h => ⟨tI0 K (Bk.init .rt), ?_, ?_⟩
  · exact pss_init0 (pl := _) rfl (names_blt rfl T.z_RuntimeError (by decide +kernel)) (gmTB_ok T.gm_RuntimeError) rfl (.inl rfl)
  · obtain ⟨a, rfl, ha, q⟩ := h
    exact ⟨a, cl K cC_Stopped, rfl, T.oex_Stopped, ha, q⟩
set_option maxHeartbeats 8000000 in
theorem ok_law_kinds (tin : TabIn K base mg) (T : Tops K mg) : FnG P w K mg base 1 T.f_law_kinds T.d_law_kinds ["_law_one"] F_law_kinds := by
  refine FunD.g T.F_law_kinds sc_law_kinds fun cdv A outer s H E c => ?_
  exact (by refine ds_cons (ds_set 1 sc_law_kinds.nd (de_lst (da_cons (de_callB (cx_isiX (.own cC_NoParcel) T.xall T.kx_NoParcel) T.z_isinstance (da_cons (dv 0) (da_cons (de_glob (v := .ref (cl K cC_NoParcel)) T.m_NoParcel rfl fun _ => .glo _) da_nil))) (da_cons (de_callB (cx_isiX (.own cC_NoLot) T.xall T.kx_NoLot) T.z_isinstance (da_cons (dv 0) (da_cons (de_glob (v := .ref (cl K cC_NoLot)) T.m_NoLot rfl fun _ => .glo _) da_nil))) (da_cons (de_callB (cx_isiX (.own cC_NoWish) T.xall T.kx_NoWish) T.z_isinstance (da_cons (dv 0) (da_cons (de_glob (v := .ref (cl K cC_NoWish)) T.m_NoWish rfl fun _ => .glo _) da_nil))) (da_cons (de_callB (cx_isiX (.own cC_NoStand) T.xall T.kx_NoStand) T.z_isinstance (da_cons (dv 0) (da_cons (de_glob (v := .ref (cl K cC_NoStand)) T.m_NoStand rfl fun _ => .glo _) da_nil))) da_nil)))))) ?_; refine ds_cons (ds_set 1 sc_law_kinds.nd (de_bin opx_addX (dv 1) (de_lst (da_cons (de_callB (cx_isiX (.own cC_NoOrder) T.xall T.kx_NoOrder) T.z_isinstance (da_cons (dv 0) (da_cons (de_glob (v := .ref (cl K cC_NoOrder)) T.m_NoOrder rfl fun _ => .glo _) da_nil))) (da_cons (de_callB (cx_isiX (.own cC_NoAnswers) T.xall T.kx_NoAnswers) T.z_isinstance (da_cons (dv 0) (da_cons (de_glob (v := .ref (cl K cC_NoAnswers)) T.m_NoAnswers rfl fun _ => .glo _) da_nil))) (da_cons (de_callB (cx_isiX (.own cC_NoWorth) T.xall T.kx_NoWorth) T.z_isinstance (da_cons (dv 0) (da_cons (de_glob (v := .ref (cl K cC_NoWorth)) T.m_NoWorth rfl fun _ => .glo _) da_nil))) da_nil)))))) ?_; refine ds_cons (ds_set 1 sc_law_kinds.nd (de_bin opx_addX (dv 1) (de_lst (da_cons (de_callB (cx_isiX (.own cC_NoNumber) T.xall T.kx_NoNumber) T.z_isinstance (da_cons (dv 0) (da_cons (de_glob (v := .ref (cl K cC_NoNumber)) T.m_NoNumber rfl fun _ => .glo _) da_nil))) (da_cons (de_callB (cx_isiX (.own cC_NoText) T.xall T.kx_NoText) T.z_isinstance (da_cons (dv 0) (da_cons (de_glob (v := .ref (cl K cC_NoText)) T.m_NoText rfl fun _ => .glo _) da_nil))) (da_cons (de_callB (cx_isiX (.own cC_NoRow) T.xall T.kx_NoRow) T.z_isinstance (da_cons (dv 0) (da_cons (de_glob (v := .ref (cl K cC_NoRow)) T.m_NoRow rfl fun _ => .glo _) da_nil))) da_nil)))))) ?_; refine ds_cons (ds_set 1 sc_law_kinds.nd (de_bin opx_addX (dv 1) (de_lst (da_cons (de_callB (cx_isiX (.own cC_CannotStand) T.xall T.kx_CannotStand) T.z_isinstance (da_cons (dv 0) (da_cons (de_glob (v := .ref (cl K cC_CannotStand)) T.m_CannotStand rfl fun _ => .glo _) da_nil))) (da_cons (de_callB (cx_isiX (.own cC_NoName) T.xall T.kx_NoName) T.z_isinstance (da_cons (dv 0) (da_cons (de_glob (v := .ref (cl K cC_NoName)) T.m_NoName rfl fun _ => .glo _) da_nil))) (da_cons (de_callB (cx_isiX (.own cC_NoPath) T.xall T.kx_NoPath) T.z_isinstance (da_cons (dv 0) (da_cons (de_glob (v := .ref (cl K cC_NoPath)) T.m_NoPath rfl fun _ => .glo _) da_nil))) da_nil)))))) ?_; refine ds_cons (ds_set 1 sc_law_kinds.nd (de_bin opx_addX (dv 1) (de_lst (da_cons (de_callB (cx_isiX (.own cC_NoRoom) T.xall T.kx_NoRoom) T.z_isinstance (da_cons (dv 0) (da_cons (de_glob (v := .ref (cl K cC_NoRoom)) T.m_NoRoom rfl fun _ => .glo _) da_nil))) (da_cons (de_callB (cx_isiX (.own cC_Stopped) T.xall T.kx_Stopped) T.z_isinstance (da_cons (dv 0) (da_cons (de_glob (v := .ref (cl K cC_Stopped)) T.m_Stopped rfl fun _ => .glo _) da_nil))) (da_cons (de_callB (cx_isiX (.own cC_Amid) T.xall T.kx_Amid) T.z_isinstance (da_cons (dv 0) (da_cons (de_glob (v := .ref (cl K cC_Amid)) T.m_Amid rfl fun _ => .glo _) da_nil))) (da_cons (de_callB (cx_isiX (.own cC_Still) T.xall T.kx_Still) T.z_isinstance (da_cons (dv 0) (da_cons (de_glob (v := .ref (cl K cC_Still)) T.m_Still rfl fun _ => .glo _) da_nil))) da_nil))))))) ?_; exact (ds_one (ds_ret (de_bin opx_addX (dv 1) (de_lst (da_cons (de_callB (cx_isiX (.own cC_Shut) T.xall T.kx_Shut) T.z_isinstance (da_cons (dv 0) (da_cons (de_glob (v := .ref (cl K cC_Shut)) T.m_Shut rfl fun _ => .glo _) da_nil))) da_nil))))))
set_option maxHeartbeats 8000000 in
theorem ok_law_right (tin : TabIn K base mg) (T : Tops K mg) : FnG P w K mg base 2 T.f_law_right T.d_law_right ["_law_one", "_law_at"] F_law_right := by
  have G_law_kinds := ok_law_kinds (P := P) (w := w) (base := base) tin T
  refine FunD.g T.F_law_right sc_law_right fun cdv A outer s H E c => ?_
  exact (by refine ds_cons (ds_if (dt_cmp (opx_neC c.room.units) (de_call G_law_kinds (c.mono (by decide)) T.m_law_kinds T.F_law_kinds.kp T.b_law_kinds_1 (da_cons (dv 0) da_nil)) (de_lc [("_law_k", 2)] rfl sc_law_right.nd (di_range1 T.z_range (da_cons dint da_nil)) (blkOk_by (N := ["_law_one", "_law_at", "_law_k"]) (sc := defScope s_law_right) (by decide +kernel)) (fun s1 H1 C1 cl1 fp1 => (dg_name sc_law_right.nd)) (fun s1 H1 C1 cl1 fp1 => dts_nil) (fun s1 H1 C1 cl1 fp1 => (de_cmp (opx_eqM (c.blk s1 H1 _ _ fp1).room.units) (dv 2) (dv 1))))) (ds_one (ds_ret dbool)) ds_nil) ?_; refine ds_cons (ds_if (dt_w (dw_or (dt_cmp (opx_neC c.room.units) (de_callB (cx_isiX (.own cC_WholeError) T.xall T.kx_WholeError) T.z_isinstance (da_cons (dv 0) (da_cons (de_glob (v := .ref (cl K cC_WholeError)) T.m_WholeError rfl fun _ => .glo _) da_nil))) (de_cmp opx_lt (dv 1) dint)) (dw_or1 (dt_cmp (opx_neC c.room.units) (de_callB (cx_isiX (.blt "ValueError") T.xall T.kx_ValueError) T.z_isinstance (da_cons (dv 0) (da_cons (de_ty T.z_ValueError) da_nil))) (de_cmp opx_lt (dv 1) dint))))) (ds_one (ds_ret dbool)) ds_nil) ?_; exact (ds_one (ds_ret (de_and (de_cmp (opx_eqM c.room.units) (de_callB (cx_isiX (.blt "KeyError") T.xall T.kx_KeyError) T.z_isinstance (da_cons (dv 0) (da_cons (de_ty T.z_KeyError) da_nil))) (de_cmp (opx_inX c.room.units) (dv 1) (de_tup (da_cons dint (da_cons dint (da_cons dint da_nil)))))) (de_one (de_cmp (opx_eqM c.room.units) (de_callB (cx_isiX (.blt "RuntimeError") T.xall T.kx_RuntimeError) T.z_isinstance (da_cons (dv 0) (da_cons (de_ty T.z_RuntimeError) da_nil))) (de_cmp opx_gt (dv 1) dint)))))))
end
end DL05
namespace DL05
open PySem PySem.Spec PyProof.Rows L2 DL
/-! the law -/
section
variable {P : Program} {w : World} {K : PySem.W.Frag} {mg : Str → Option Value} {base : Heap}
set_option maxHeartbeats 8000000 in
theorem ok_law (tin : TabIn K base mg) (T : Tops K mg) : FnG P w K mg base 3 T.f_law T.d_law ["_law_script"] F_law := by
  have G_law_right := ok_law_right (P := P) (w := w) (base := base) tin T
  refine FunD.g T.F_law sc_law fun cdv A outer s H E c => ?_
  exact (by refine ds_cons (ds_for (passes_of rfl) rfl (di_any (de_bin opx_addX (de_lst (da_cons dnon (da_cons dint (da_cons dbool (da_cons dstr (da_cons (de_tup (da_cons dstr (da_cons dint da_nil))) (da_cons (de_lst (da_cons dint da_nil)) (da_cons (de_disp (dp_cons dstr dint dp_nil)) (da_cons (de_bin opx_pow dint dint) da_nil))))))))) (de_lc [("_law_cell", 5)] rfl sc_law.nd (di_any (de_slice (dv 0) do_none (do_some dint))) (blkOk_by (N := ["_law_script", "_law_thing", "_law_some", "_law_told", "_law_named", "_law_cell", "_law_at", "_law_one"]) (sc := defScope s_law) (by decide +kernel)) (fun s1 H1 C1 cl1 fp1 => (dg_name sc_law.nd)) (fun s1 H1 C1 cl1 fp1 => dts_nil) (fun s1 H1 C1 cl1 fp1 => (de_bin opx_mod (dv 5) (de_bin opx_pow dint dint)))))) (dg_name sc_law.nd) (by refine ds_cons (ds_set 2 sc_law.nd (de_lst (da_cons (de_exc1 T.oex_NoParcel T.ini_NoParcel.1 T.ini_NoParcel.2 (ei_NoParcel (P := P) (w := w) (base := base) T) T.bi_NoParcel (c.mono (by decide)) T.m_NoParcel (da_cons (dv 1) da_nil)) (da_cons (de_exc0 T.oex_NoLot T.ini_NoLot.1 T.ini_NoLot.2 (ei_NoLot (P := P) (w := w) (base := base) T) T.bi_NoLot (c.mono (by decide)) T.m_NoLot) (da_cons (de_exc1 T.oex_NoWish T.ini_NoWish.1 T.ini_NoWish.2 (ei_NoWish (P := P) (w := w) (base := base) T) T.bi_NoWish (c.mono (by decide)) T.m_NoWish (da_cons (dv 1) da_nil)) (da_cons (de_exc0 T.oex_NoStand T.ini_NoStand.1 T.ini_NoStand.2 (ei_NoStand (P := P) (w := w) (base := base) T) T.bi_NoStand (c.mono (by decide)) T.m_NoStand) (da_cons (de_exc0 T.oex_NoOrder T.ini_NoOrder.1 T.ini_NoOrder.2 (ei_NoOrder (P := P) (w := w) (base := base) T) T.bi_NoOrder (c.mono (by decide)) T.m_NoOrder) (da_cons (de_exc0 T.oex_NoAnswers T.ini_NoAnswers.1 T.ini_NoAnswers.2 (ei_NoAnswers (P := P) (w := w) (base := base) T) T.bi_NoAnswers (c.mono (by decide)) T.m_NoAnswers) (da_cons (de_exc0 T.oex_NoWorth T.ini_NoWorth.1 T.ini_NoWorth.2 (ei_NoWorth (P := P) (w := w) (base := base) T) T.bi_NoWorth (c.mono (by decide)) T.m_NoWorth) (da_cons (de_exc1 T.oex_NoNumber T.ini_NoNumber.1 T.ini_NoNumber.2 (ei_NoNumber (P := P) (w := w) (base := base) T) T.bi_NoNumber (c.mono (by decide)) T.m_NoNumber (da_cons (dv 1) da_nil)) da_nil)))))))))) ?_; refine ds_cons (ds_set 2 sc_law.nd (de_bin opx_addX (dv 2) (de_lst (da_cons (de_exc1 T.oex_NoText T.ini_NoText.1 T.ini_NoText.2 (ei_NoText (P := P) (w := w) (base := base) T) T.bi_NoText (c.mono (by decide)) T.m_NoText (da_cons (dv 1) da_nil)) (da_cons (de_exc0 T.oex_NoRow T.ini_NoRow.1 T.ini_NoRow.2 (ei_NoRow (P := P) (w := w) (base := base) T) T.bi_NoRow (c.mono (by decide)) T.m_NoRow) (da_cons (de_exc2 T.oex_CannotStand T.ini_CannotStand.1 T.ini_CannotStand.2 (ei_CannotStand (P := P) (w := w) (base := base) T) T.bi_CannotStand (c.mono (by decide)) T.m_CannotStand (da_cons (dv 1) (da_cons (de_lst (da_cons (dv 1) da_nil)) da_nil))) (da_cons (de_exc1 T.oex_NoName T.ini_NoName.1 T.ini_NoName.2 (ei_NoName (P := P) (w := w) (base := base) T) T.bi_NoName (c.mono (by decide)) T.m_NoName (da_cons (dv 1) da_nil)) (da_cons (de_exc1 T.oex_NoPath T.ini_NoPath.1 T.ini_NoPath.2 (ei_NoPath (P := P) (w := w) (base := base) T) T.bi_NoPath (c.mono (by decide)) T.m_NoPath (da_cons (dv 1) da_nil)) (da_cons (de_exc1 T.oex_NoRoom T.ini_NoRoom.1 T.ini_NoRoom.2 (ei_NoRoom (P := P) (w := w) (base := base) T) T.bi_NoRoom (c.mono (by decide)) T.m_NoRoom (da_cons (dv 1) da_nil)) da_nil))))))))) ?_; refine ds_cons (ds_set 2 sc_law.nd (de_bin opx_addX (dv 2) (de_lst (da_cons (de_exc0 T.oex_Stopped T.ini_Stopped.1 T.ini_Stopped.2 (ei_Stopped (P := P) (w := w) (base := base) T) T.bi_Stopped (c.mono (by decide)) T.m_Stopped) (da_cons (de_exc0 T.oex_Amid T.ini_Amid.1 T.ini_Amid.2 (ei_Amid (P := P) (w := w) (base := base) T) T.bi_Amid (c.mono (by decide)) T.m_Amid) (da_cons (de_exc0 T.oex_Still T.ini_Still.1 T.ini_Still.2 (ei_Still (P := P) (w := w) (base := base) T) T.bi_Still (c.mono (by decide)) T.m_Still) (da_cons (de_exc0 T.oex_Shut T.ini_Shut.1 T.ini_Shut.2 (ei_Shut (P := P) (w := w) (base := base) T) T.bi_Shut (c.mono (by decide)) T.m_Shut) da_nil))))))) ?_; refine ds_cons (ds_if (dt_cmp (opx_neC c.room.units) (de_lc [("_law_at", 6), ("_law_one", 7)] rfl sc_law.nd (di_enumX T.z_enumerate (da_cons (dv 2) da_nil)) (blkOk_by (N := ["_law_script", "_law_thing", "_law_some", "_law_told", "_law_named", "_law_cell", "_law_at", "_law_one"]) (sc := defScope s_law) (by decide +kernel)) (fun s1 H1 C1 cl1 fp1 => (dg_tup rfl (dgs_cons (dg_name sc_law.nd) (dgs_cons (dg_name sc_law.nd) dgs_nil)))) (fun s1 H1 C1 cl1 fp1 => (dts_one (dt_not (dtest_val (de_call G_law_right ((c.blk s1 H1 _ _ fp1).mono (by decide)) T.m_law_right T.F_law_right.kp T.b_law_right_2 (da_cons (dv 7) (da_cons (dv 6) da_nil))))))) (fun s1 H1 C1 cl1 fp1 => (dv 6))) (de_lst da_nil)) (ds_one (ds_ret dbool)) ds_nil) ?_; refine ds_cons (ds_set 3 sc_law.nd (de_lst (da_cons (de_xat T.xat_part (de_ixX c.room.units (dv 2) dint)) (da_cons (de_xat T.xat_number (de_ixX c.room.units (dv 2) dint)) (da_cons (de_xat T.xat_number (de_ixX c.room.units (dv 2) dint)) (da_cons (de_xat T.xat_row (de_ixX c.room.units (dv 2) dint)) (da_cons (de_xat T.xat_lot (de_ixX c.room.units (dv 2) dint)) (da_cons (de_xat T.xat_name (de_ixX c.room.units (dv 2) dint)) (da_cons (de_xat T.xat_path (de_ixX c.room.units (dv 2) dint)) da_nil))))))))) ?_; refine ds_cons (ds_if (dt_w (dw_or (dt_cmp (opx_neC c.room.units) (de_callB (cx_reprX c.guards c.room.units) T.z_repr (da_cons (de_bin opx_addX (dv 3) (de_lst (da_cons (de_xat T.xat_room (de_ixX c.room.units (dv 2) dint)) da_nil))) da_nil)) (de_callB (cx_reprX c.guards c.room.units) T.z_repr (da_cons (de_bin opx_mulX (de_lst (da_cons (dv 1) da_nil)) dint) da_nil))) (dw_or1 (dt_cmp (opx_neC c.room.units) (de_callB (cx_reprX c.guards c.room.units) T.z_repr (da_cons (de_xat T.xat_paper (de_ixX c.room.units (dv 2) dint)) da_nil)) (de_callB (cx_reprX c.guards c.room.units) T.z_repr (da_cons (de_lst (da_cons (dv 1) da_nil)) da_nil)))))) (ds_one (ds_ret dbool)) ds_nil) ?_; refine ds_cons (ds_set 4 sc_law.nd (de_lst (da_cons (de_xat T.xat_part (de_excK1 T.oex_NoParcel T.ini_NoParcel.1 T.ini_NoParcel.2 (ei_NoParcel (P := P) (w := w) (base := base) T) T.xd_NoParcel_part (c.mono (by decide)) T.m_NoParcel (dk_cons (dv 1) dk_nil))) (da_cons (de_xat T.xat_number (de_excK1 T.oex_NoWish T.ini_NoWish.1 T.ini_NoWish.2 (ei_NoWish (P := P) (w := w) (base := base) T) T.xd_NoWish_number (c.mono (by decide)) T.m_NoWish (dk_cons (dv 1) dk_nil))) (da_cons (de_xat T.xat_number (de_excK1 T.oex_NoNumber T.ini_NoNumber.1 T.ini_NoNumber.2 (ei_NoNumber (P := P) (w := w) (base := base) T) T.xd_NoNumber_number (c.mono (by decide)) T.m_NoNumber (dk_cons (dv 1) dk_nil))) da_nil))))) ?_; refine ds_cons (ds_set 4 sc_law.nd (de_bin opx_addX (dv 4) (de_lst (da_cons (de_xat T.xat_row (de_excK1 T.oex_NoText T.ini_NoText.1 T.ini_NoText.2 (ei_NoText (P := P) (w := w) (base := base) T) T.xd_NoText_row (c.mono (by decide)) T.m_NoText (dk_cons (dv 1) dk_nil))) (da_cons (de_xat T.xat_paper (de_excK2 T.oex_CannotStand T.ini_CannotStand.1 T.ini_CannotStand.2 (ei_CannotStand (P := P) (w := w) (base := base) T) T.xd_CannotStand_paper_lot (c.mono (by decide)) T.m_CannotStand (dk_cons (dv 1) (dk_cons dnon dk_nil)))) (da_cons (de_xat T.xat_name (de_excK1 T.oex_NoName T.ini_NoName.1 T.ini_NoName.2 (ei_NoName (P := P) (w := w) (base := base) T) T.xd_NoName_name (c.mono (by decide)) T.m_NoName (dk_cons (dv 1) dk_nil))) da_nil)))))) ?_; exact (ds_one (ds_if (dt_cmp (opx_neC c.room.units) (de_callB (cx_reprX c.guards c.room.units) T.z_repr (da_cons (de_bin opx_addX (dv 4) (de_lst (da_cons (de_xat T.xat_path (de_excK1 T.oex_NoPath T.ini_NoPath.1 T.ini_NoPath.2 (ei_NoPath (P := P) (w := w) (base := base) T) T.xd_NoPath_path (c.mono (by decide)) T.m_NoPath (dk_cons (dv 1) dk_nil))) (da_cons (de_xat T.xat_room (de_excK1 T.oex_NoRoom T.ini_NoRoom.1 T.ini_NoRoom.2 (ei_NoRoom (P := P) (w := w) (base := base) T) T.xd_NoRoom_room (c.mono (by decide)) T.m_NoRoom (dk_cons (dv 1) dk_nil))) da_nil)))) da_nil)) (de_callB (cx_reprX c.guards c.room.units) T.z_repr (da_cons (de_bin opx_mulX (de_lst (da_cons (dv 1) da_nil)) dint) da_nil))) (ds_one (ds_ret dbool)) ds_nil)))) ?_; exact (ds_one (ds_ret dbool)))
end
end DL05
namespace DL05
open PySem PySem.Spec PyProof.Rows L2 DL
/-! the head -/
def h_law_kinds : He.DefD := ⟨("_law_kinds", none), "_law_kinds", "_law_kinds", defArgs s_law_kinds, defBody s_law_kinds, defScope s_law_kinds, [], []⟩
def h_law_right : He.DefD := ⟨("_law_right", none), "_law_right", "_law_right", defArgs s_law_right, defBody s_law_right, defScope s_law_right, [], []⟩
def h_law : He.DefD := ⟨("law", none), "law", "law", defArgs s_law, defBody s_law, defScope s_law, [], []⟩
def h_Amid_init : He.DefD := ⟨(nmC cC_Amid, some "__init__"), "__init__", "Amid.__init__", defArgs s_Amid_init, defBody s_Amid_init, defScope s_Amid_init, [], []⟩
def h_CannotStand_init : He.DefD := ⟨(nmC cC_CannotStand, some "__init__"), "__init__", "CannotStand.__init__", defArgs s_CannotStand_init, defBody s_CannotStand_init, defScope s_CannotStand_init, [], []⟩
def h_NoAnswers_init : He.DefD := ⟨(nmC cC_NoAnswers, some "__init__"), "__init__", "NoAnswers.__init__", defArgs s_NoAnswers_init, defBody s_NoAnswers_init, defScope s_NoAnswers_init, [], []⟩
def h_NoLot_init : He.DefD := ⟨(nmC cC_NoLot, some "__init__"), "__init__", "NoLot.__init__", defArgs s_NoLot_init, defBody s_NoLot_init, defScope s_NoLot_init, [], []⟩
def h_NoName_init : He.DefD := ⟨(nmC cC_NoName, some "__init__"), "__init__", "NoName.__init__", defArgs s_NoName_init, defBody s_NoName_init, defScope s_NoName_init, [], []⟩
def h_NoNumber_init : He.DefD := ⟨(nmC cC_NoNumber, some "__init__"), "__init__", "NoNumber.__init__", defArgs s_NoNumber_init, defBody s_NoNumber_init, defScope s_NoNumber_init, [], []⟩
def h_NoOrder_init : He.DefD := ⟨(nmC cC_NoOrder, some "__init__"), "__init__", "NoOrder.__init__", defArgs s_NoOrder_init, defBody s_NoOrder_init, defScope s_NoOrder_init, [], []⟩
def h_NoParcel_init : He.DefD := ⟨(nmC cC_NoParcel, some "__init__"), "__init__", "NoParcel.__init__", defArgs s_NoParcel_init, defBody s_NoParcel_init, defScope s_NoParcel_init, [], []⟩
def h_NoPath_init : He.DefD := ⟨(nmC cC_NoPath, some "__init__"), "__init__", "NoPath.__init__", defArgs s_NoPath_init, defBody s_NoPath_init, defScope s_NoPath_init, [], []⟩
def h_NoRoom_init : He.DefD := ⟨(nmC cC_NoRoom, some "__init__"), "__init__", "NoRoom.__init__", defArgs s_NoRoom_init, defBody s_NoRoom_init, defScope s_NoRoom_init, [], []⟩
def h_NoRow_init : He.DefD := ⟨(nmC cC_NoRow, some "__init__"), "__init__", "NoRow.__init__", defArgs s_NoRow_init, defBody s_NoRow_init, defScope s_NoRow_init, [], []⟩
def h_NoStand_init : He.DefD := ⟨(nmC cC_NoStand, some "__init__"), "__init__", "NoStand.__init__", defArgs s_NoStand_init, defBody s_NoStand_init, defScope s_NoStand_init, [], []⟩
def h_NoText_init : He.DefD := ⟨(nmC cC_NoText, some "__init__"), "__init__", "NoText.__init__", defArgs s_NoText_init, defBody s_NoText_init, defScope s_NoText_init, [], []⟩
def h_NoWish_init : He.DefD := ⟨(nmC cC_NoWish, some "__init__"), "__init__", "NoWish.__init__", defArgs s_NoWish_init, defBody s_NoWish_init, defScope s_NoWish_init, [], []⟩
def h_NoWorth_init : He.DefD := ⟨(nmC cC_NoWorth, some "__init__"), "__init__", "NoWorth.__init__", defArgs s_NoWorth_init, defBody s_NoWorth_init, defScope s_NoWorth_init, [], []⟩
def h_Shut_init : He.DefD := ⟨(nmC cC_Shut, some "__init__"), "__init__", "Shut.__init__", defArgs s_Shut_init, defBody s_Shut_init, defScope s_Shut_init, [], []⟩
def h_Still_init : He.DefD := ⟨(nmC cC_Still, some "__init__"), "__init__", "Still.__init__", defArgs s_Still_init, defBody s_Still_init, defScope s_Still_init, [], []⟩
def h_Stopped_init : He.DefD := ⟨(nmC cC_Stopped, some "__init__"), "__init__", "Stopped.__init__", defArgs s_Stopped_init, defBody s_Stopped_init, defScope s_Stopped_init, [], []⟩
def hfn : List He.DefD := [h_law_kinds, h_law_right, h_law, h_Amid_init, h_CannotStand_init, h_NoAnswers_init, h_NoLot_init, h_NoName_init, h_NoNumber_init, h_NoOrder_init, h_NoParcel_init, h_NoPath_init, h_NoRoom_init, h_NoRow_init, h_NoStand_init, h_NoText_init, h_NoWish_init, h_NoWorth_init, h_Shut_init, h_Still_init, h_Stopped_init]
def hfa : List He.Fa := ([.glo "_law_kinds", .glo "_law_right", .glo "law", .glo (nmC cC_Amid), .glo (nmC cC_CannotStand), .glo (nmC cC_NoAnswers), .glo (nmC cC_NoLot), .glo (nmC cC_NoName), .glo (nmC cC_NoNumber), .glo (nmC cC_NoOrder), .glo (nmC cC_NoParcel), .glo (nmC cC_NoPath), .glo (nmC cC_NoRoom), .glo (nmC cC_NoRow), .glo (nmC cC_NoStand), .glo (nmC cC_NoText), .glo (nmC cC_NoWish), .glo (nmC cC_NoWorth), .glo (nmC cC_Shut), .glo (nmC cC_Still)] : List He.Fa) ++ ([.glo (nmC cC_Stopped), .glo (nmC cC_WholeError), .free "KeyError", .free "RuntimeError", .free "ValueError", .free "enumerate", .free "isinstance", .free "range", .free "repr"] : List He.Fa)
def exL (K : PySem.W.Frag) : List Bool := [oexB K cC_Amid .rt,
  oiniB K cC_Amid,
  excB K cC_Amid,
  oexB K cC_CannotStand .ve,
  oiniB K cC_CannotStand,
  excB K cC_CannotStand,
  decide (PySem.W.findIn K (.ref (cl K cC_CannotStand)) "lot" = some none),
  decide (PySem.W.findIn K (.ref (cl K cC_CannotStand)) "paper" = some none),
  oexB K cC_NoAnswers .ve,
  oiniB K cC_NoAnswers,
  excB K cC_NoAnswers,
  oexB K cC_NoLot .ve,
  oiniB K cC_NoLot,
  excB K cC_NoLot,
  oexB K cC_NoName .ke,
  oiniB K cC_NoName,
  excB K cC_NoName,
  decide (PySem.W.findIn K (.ref (cl K cC_NoName)) "name" = some none),
  oexB K cC_NoNumber .ve,
  oiniB K cC_NoNumber,
  excB K cC_NoNumber,
  decide (PySem.W.findIn K (.ref (cl K cC_NoNumber)) "number" = some none),
  oexB K cC_NoOrder .ve,
  oiniB K cC_NoOrder,
  excB K cC_NoOrder,
  oexB K cC_NoParcel .ve,
  oiniB K cC_NoParcel,
  excB K cC_NoParcel,
  decide (PySem.W.findIn K (.ref (cl K cC_NoParcel)) "part" = some none),
  oexB K cC_NoPath .ke,
  oiniB K cC_NoPath,
  excB K cC_NoPath,
  decide (PySem.W.findIn K (.ref (cl K cC_NoPath)) "path" = some none),
  oexB K cC_NoRoom .ke,
  oiniB K cC_NoRoom,
  excB K cC_NoRoom,
  decide (PySem.W.findIn K (.ref (cl K cC_NoRoom)) "room" = some none),
  oexB K cC_NoRow .ve,
  oiniB K cC_NoRow,
  excB K cC_NoRow,
  oexB K cC_NoStand .ve,
  oiniB K cC_NoStand,
  excB K cC_NoStand,
  oexB K cC_NoText .ve,
  oiniB K cC_NoText,
  excB K cC_NoText,
  decide (PySem.W.findIn K (.ref (cl K cC_NoText)) "row" = some none),
  oexB K cC_NoWish .ve,
  oiniB K cC_NoWish,
  excB K cC_NoWish,
  decide (PySem.W.findIn K (.ref (cl K cC_NoWish)) "number" = some none),
  oexB K cC_NoWorth .ve,
  oiniB K cC_NoWorth,
  excB K cC_NoWorth,
  oexB K cC_Shut .rt,
  oiniB K cC_Shut,
  excB K cC_Shut,
  oexB K cC_Still .rt,
  oiniB K cC_Still,
  excB K cC_Still,
  oexB K cC_Stopped .rt,
  oiniB K cC_Stopped,
  excB K cC_Stopped,
  gmB K cC_WholeError (Bk.init .ve),
  gmTB K .ke,
  gmTB K .rt,
  kxB K (.own cC_Amid) kxy_Amid kxn_Amid,
  kxB K (.own cC_CannotStand) kxy_CannotStand kxn_CannotStand,
  kxB K (.blt "KeyError") kxy_KeyError kxn_KeyError,
  kxB K (.own cC_NoAnswers) kxy_NoAnswers kxn_NoAnswers,
  kxB K (.own cC_NoLot) kxy_NoLot kxn_NoLot,
  kxB K (.own cC_NoName) kxy_NoName kxn_NoName,
  kxB K (.own cC_NoNumber) kxy_NoNumber kxn_NoNumber,
  kxB K (.own cC_NoOrder) kxy_NoOrder kxn_NoOrder,
  kxB K (.own cC_NoParcel) kxy_NoParcel kxn_NoParcel,
  kxB K (.own cC_NoPath) kxy_NoPath kxn_NoPath,
  kxB K (.own cC_NoRoom) kxy_NoRoom kxn_NoRoom,
  kxB K (.own cC_NoRow) kxy_NoRow kxn_NoRow,
  kxB K (.own cC_NoStand) kxy_NoStand kxn_NoStand,
  kxB K (.own cC_NoText) kxy_NoText kxn_NoText,
  kxB K (.own cC_NoWish) kxy_NoWish kxn_NoWish,
  kxB K (.own cC_NoWorth) kxy_NoWorth kxn_NoWorth,
  kxB K (.blt "RuntimeError") kxy_RuntimeError kxn_RuntimeError,
  kxB K (.own cC_Shut) kxy_Shut kxn_Shut,
  kxB K (.own cC_Still) kxy_Still kxn_Still,
  kxB K (.own cC_Stopped) kxy_Stopped kxn_Stopped,
  kxB K (.blt "ValueError") kxy_ValueError kxn_ValueError,
  kxB K (.own cC_WholeError) kxy_WholeError kxn_WholeError]
def exB (K : PySem.W.Frag) : Bool := (exL K).all id
theorem exL_at {K : PySem.W.Frag} (h : exB K = true) (i : Nat) {b : Bool} (e : (exL K)[i]? = some b) : b = true := List.all_eq_true.mp h b (List.mem_of_getElem? e)
abbrev Rw : PySem.W.OpenRow := PySem.W.OpenLaw.row PySem.Challenge.rw_wholeparcels_k05_refusals_apart
abbrev hk : PySem.W.Hook := hookY 5 hfa hfn exB
def hob (s : PySem.W.SharedT) : He.AlX := obsY 5 hfa hfn exB (HandSHeadRun.getT s)
theorem hob_eq (s : PySem.W.SharedT) : hob s = hk.obs s.abs := obsY_eq (HandSHeadRun.getT_eq s)
def hview : List Nat := [21, 22, 23]
def hloose : List Str := (["WholeError", "NoParcel", "NoLot", "NoWish", "NoStand", "NoOrder", "NoAnswers", "NoWorth", "NoNumber", "NoText", "NoRow", "CannotStand", "NoName", "NoPath", "NoRoom", "Stopped", "Amid", "Still", "Shut"] : List Str)
open PySem.W PySem.Calls HandSHeadRun in
theorem hrunA (w : World) (os : PySem.OsState) : (HandSHeadRun.endF (HandSHeadRun.stepQ (HandSHeadRun.denQ HandSHeadRun.tabQ) Rw.prog w) 20000 Rw.prog w os).map (fun s => HandSHeadRun.looksF Rw.prog (boot_heap w.params) s.abs) = some true := by kernel_rfl
open PySem.W PySem.Calls HandSHeadRun in
theorem hrunB (w : World) (os : PySem.OsState) : (HandSHeadRun.endF (HandSHeadRun.stepQ (HandSHeadRun.denQ HandSHeadRun.tabQ) Rw.prog w) 20000 Rw.prog w os).map (fun s => seenQ (PySem.W.view Rw.prog hview) hloose (importedModules Rw.prog.main.body) (fun s => xlAt (PySem.W.view Rw.prog hview) [] s && recOk Rw.toRowW.records s) s.abs) = some (openGood (PySem.W.view Rw.prog hview) hloose) := by kernel_rfl
theorem hrunC (w : World) (os : PySem.OsState) : (HandSHeadRun.endF (HandSHeadRun.stepQ (HandSHeadRun.denQ HandSHeadRun.tabQ) Rw.prog w) 20000 Rw.prog w os).map hob = some (hk.val w) := by kernel_rfl
theorem hrun (w : World) : HandSHeadRun.RunEq Rw (PySem.W.view Rw.prog hview) hk hob 20000 hloose w := by
  intro os
  have a := hrunA w os
  have b := hrunB w os
  have c := hrunC w os
  revert a b c
  generalize (HandSHeadRun.endF (HandSHeadRun.stepQ (HandSHeadRun.denQ HandSHeadRun.tabQ) Rw.prog w) 20000 Rw.prog w os) = x
  intro a b c
  cases x with
  | none => cases a
  | some s => exact congrArg some (Prod.ext (Option.some.inj a) (Prod.ext (Option.some.inj b) (Option.some.inj c)))
noncomputable def tops {w : World} {K : PySem.W.Frag} {h : Heap} {mg : Str → Option Value} (X : K.In h) (G : h.Ns mainGlobals mg) (c : He.SaysX hfa hfn [] lamTf exB w h K) : Tops K mg where
  f_law_kinds := He.fAd K ("_law_kinds", none)
  d_law_kinds := Classical.choose (c.t.d.def_ 0 (d := h_law_kinds) rfl)
  F_law_kinds := Classical.choose_spec (c.t.d.def_ 0 (d := h_law_kinds) rfl)
  m_law_kinds := He.glo_ok X G (c.t.d.fact 0 (f := .glo "_law_kinds") rfl)
  f_law_right := He.fAd K ("_law_right", none)
  d_law_right := Classical.choose (c.t.d.def_ 1 (d := h_law_right) rfl)
  F_law_right := Classical.choose_spec (c.t.d.def_ 1 (d := h_law_right) rfl)
  m_law_right := He.glo_ok X G (c.t.d.fact 1 (f := .glo "_law_right") rfl)
  f_law := He.fAd K ("law", none)
  d_law := Classical.choose (c.t.d.def_ 2 (d := h_law) rfl)
  F_law := Classical.choose_spec (c.t.d.def_ 2 (d := h_law) rfl)
  m_law := He.glo_ok X G (c.t.d.fact 2 (f := .glo "law") rfl)
  f_Amid_init := He.fAd K (nmC cC_Amid, some "__init__")
  d_Amid_init := Classical.choose (c.t.d.def_ 3 (d := h_Amid_init) rfl)
  F_Amid_init := Classical.choose_spec (c.t.d.def_ 3 (d := h_Amid_init) rfl)
  f_CannotStand_init := He.fAd K (nmC cC_CannotStand, some "__init__")
  d_CannotStand_init := Classical.choose (c.t.d.def_ 4 (d := h_CannotStand_init) rfl)
  F_CannotStand_init := Classical.choose_spec (c.t.d.def_ 4 (d := h_CannotStand_init) rfl)
  f_NoAnswers_init := He.fAd K (nmC cC_NoAnswers, some "__init__")
  d_NoAnswers_init := Classical.choose (c.t.d.def_ 5 (d := h_NoAnswers_init) rfl)
  F_NoAnswers_init := Classical.choose_spec (c.t.d.def_ 5 (d := h_NoAnswers_init) rfl)
  f_NoLot_init := He.fAd K (nmC cC_NoLot, some "__init__")
  d_NoLot_init := Classical.choose (c.t.d.def_ 6 (d := h_NoLot_init) rfl)
  F_NoLot_init := Classical.choose_spec (c.t.d.def_ 6 (d := h_NoLot_init) rfl)
  f_NoName_init := He.fAd K (nmC cC_NoName, some "__init__")
  d_NoName_init := Classical.choose (c.t.d.def_ 7 (d := h_NoName_init) rfl)
  F_NoName_init := Classical.choose_spec (c.t.d.def_ 7 (d := h_NoName_init) rfl)
  f_NoNumber_init := He.fAd K (nmC cC_NoNumber, some "__init__")
  d_NoNumber_init := Classical.choose (c.t.d.def_ 8 (d := h_NoNumber_init) rfl)
  F_NoNumber_init := Classical.choose_spec (c.t.d.def_ 8 (d := h_NoNumber_init) rfl)
  f_NoOrder_init := He.fAd K (nmC cC_NoOrder, some "__init__")
  d_NoOrder_init := Classical.choose (c.t.d.def_ 9 (d := h_NoOrder_init) rfl)
  F_NoOrder_init := Classical.choose_spec (c.t.d.def_ 9 (d := h_NoOrder_init) rfl)
  f_NoParcel_init := He.fAd K (nmC cC_NoParcel, some "__init__")
  d_NoParcel_init := Classical.choose (c.t.d.def_ 10 (d := h_NoParcel_init) rfl)
  F_NoParcel_init := Classical.choose_spec (c.t.d.def_ 10 (d := h_NoParcel_init) rfl)
  f_NoPath_init := He.fAd K (nmC cC_NoPath, some "__init__")
  d_NoPath_init := Classical.choose (c.t.d.def_ 11 (d := h_NoPath_init) rfl)
  F_NoPath_init := Classical.choose_spec (c.t.d.def_ 11 (d := h_NoPath_init) rfl)
  f_NoRoom_init := He.fAd K (nmC cC_NoRoom, some "__init__")
  d_NoRoom_init := Classical.choose (c.t.d.def_ 12 (d := h_NoRoom_init) rfl)
  F_NoRoom_init := Classical.choose_spec (c.t.d.def_ 12 (d := h_NoRoom_init) rfl)
  f_NoRow_init := He.fAd K (nmC cC_NoRow, some "__init__")
  d_NoRow_init := Classical.choose (c.t.d.def_ 13 (d := h_NoRow_init) rfl)
  F_NoRow_init := Classical.choose_spec (c.t.d.def_ 13 (d := h_NoRow_init) rfl)
  f_NoStand_init := He.fAd K (nmC cC_NoStand, some "__init__")
  d_NoStand_init := Classical.choose (c.t.d.def_ 14 (d := h_NoStand_init) rfl)
  F_NoStand_init := Classical.choose_spec (c.t.d.def_ 14 (d := h_NoStand_init) rfl)
  f_NoText_init := He.fAd K (nmC cC_NoText, some "__init__")
  d_NoText_init := Classical.choose (c.t.d.def_ 15 (d := h_NoText_init) rfl)
  F_NoText_init := Classical.choose_spec (c.t.d.def_ 15 (d := h_NoText_init) rfl)
  f_NoWish_init := He.fAd K (nmC cC_NoWish, some "__init__")
  d_NoWish_init := Classical.choose (c.t.d.def_ 16 (d := h_NoWish_init) rfl)
  F_NoWish_init := Classical.choose_spec (c.t.d.def_ 16 (d := h_NoWish_init) rfl)
  f_NoWorth_init := He.fAd K (nmC cC_NoWorth, some "__init__")
  d_NoWorth_init := Classical.choose (c.t.d.def_ 17 (d := h_NoWorth_init) rfl)
  F_NoWorth_init := Classical.choose_spec (c.t.d.def_ 17 (d := h_NoWorth_init) rfl)
  f_Shut_init := He.fAd K (nmC cC_Shut, some "__init__")
  d_Shut_init := Classical.choose (c.t.d.def_ 18 (d := h_Shut_init) rfl)
  F_Shut_init := Classical.choose_spec (c.t.d.def_ 18 (d := h_Shut_init) rfl)
  f_Still_init := He.fAd K (nmC cC_Still, some "__init__")
  d_Still_init := Classical.choose (c.t.d.def_ 19 (d := h_Still_init) rfl)
  F_Still_init := Classical.choose_spec (c.t.d.def_ 19 (d := h_Still_init) rfl)
  f_Stopped_init := He.fAd K (nmC cC_Stopped, some "__init__")
  d_Stopped_init := Classical.choose (c.t.d.def_ 20 (d := h_Stopped_init) rfl)
  F_Stopped_init := Classical.choose_spec (c.t.d.def_ 20 (d := h_Stopped_init) rfl)
  m_Amid := (congrArg mg nC_Amid).symm.trans (He.glo_ok X G (c.t.d.fact 3 (f := .glo (nmC cC_Amid)) rfl))
  m_CannotStand := (congrArg mg nC_CannotStand).symm.trans (He.glo_ok X G (c.t.d.fact 4 (f := .glo (nmC cC_CannotStand)) rfl))
  m_NoAnswers := (congrArg mg nC_NoAnswers).symm.trans (He.glo_ok X G (c.t.d.fact 5 (f := .glo (nmC cC_NoAnswers)) rfl))
  m_NoLot := (congrArg mg nC_NoLot).symm.trans (He.glo_ok X G (c.t.d.fact 6 (f := .glo (nmC cC_NoLot)) rfl))
  m_NoName := (congrArg mg nC_NoName).symm.trans (He.glo_ok X G (c.t.d.fact 7 (f := .glo (nmC cC_NoName)) rfl))
  m_NoNumber := (congrArg mg nC_NoNumber).symm.trans (He.glo_ok X G (c.t.d.fact 8 (f := .glo (nmC cC_NoNumber)) rfl))
  m_NoOrder := (congrArg mg nC_NoOrder).symm.trans (He.glo_ok X G (c.t.d.fact 9 (f := .glo (nmC cC_NoOrder)) rfl))
  m_NoParcel := (congrArg mg nC_NoParcel).symm.trans (He.glo_ok X G (c.t.d.fact 10 (f := .glo (nmC cC_NoParcel)) rfl))
  m_NoPath := (congrArg mg nC_NoPath).symm.trans (He.glo_ok X G (c.t.d.fact 11 (f := .glo (nmC cC_NoPath)) rfl))
  m_NoRoom := (congrArg mg nC_NoRoom).symm.trans (He.glo_ok X G (c.t.d.fact 12 (f := .glo (nmC cC_NoRoom)) rfl))
  m_NoRow := (congrArg mg nC_NoRow).symm.trans (He.glo_ok X G (c.t.d.fact 13 (f := .glo (nmC cC_NoRow)) rfl))
  m_NoStand := (congrArg mg nC_NoStand).symm.trans (He.glo_ok X G (c.t.d.fact 14 (f := .glo (nmC cC_NoStand)) rfl))
  m_NoText := (congrArg mg nC_NoText).symm.trans (He.glo_ok X G (c.t.d.fact 15 (f := .glo (nmC cC_NoText)) rfl))
  m_NoWish := (congrArg mg nC_NoWish).symm.trans (He.glo_ok X G (c.t.d.fact 16 (f := .glo (nmC cC_NoWish)) rfl))
  m_NoWorth := (congrArg mg nC_NoWorth).symm.trans (He.glo_ok X G (c.t.d.fact 17 (f := .glo (nmC cC_NoWorth)) rfl))
  m_Shut := (congrArg mg nC_Shut).symm.trans (He.glo_ok X G (c.t.d.fact 18 (f := .glo (nmC cC_Shut)) rfl))
  m_Still := (congrArg mg nC_Still).symm.trans (He.glo_ok X G (c.t.d.fact 19 (f := .glo (nmC cC_Still)) rfl))
  m_Stopped := (congrArg mg nC_Stopped).symm.trans (He.glo_ok X G (c.t.d.fact 20 (f := .glo (nmC cC_Stopped)) rfl))
  m_WholeError := (congrArg mg nC_WholeError).symm.trans (He.glo_ok X G (c.t.d.fact 21 (f := .glo (nmC cC_WholeError)) rfl))
  oex_Amid := oexB_ok (exL_at c.more 0 rfl)
  ini_Amid := oiniB_ok (exL_at c.more 1 rfl)
  exc_Amid := excB_ok (exL_at c.more 2 rfl)
  oex_CannotStand := oexB_ok (exL_at c.more 3 rfl)
  ini_CannotStand := oiniB_ok (exL_at c.more 4 rfl)
  exc_CannotStand := excB_ok (exL_at c.more 5 rfl)
  xf_CannotStand_lot := of_decide_eq_true (exL_at c.more 6 rfl)
  xf_CannotStand_paper := of_decide_eq_true (exL_at c.more 7 rfl)
  oex_NoAnswers := oexB_ok (exL_at c.more 8 rfl)
  ini_NoAnswers := oiniB_ok (exL_at c.more 9 rfl)
  exc_NoAnswers := excB_ok (exL_at c.more 10 rfl)
  oex_NoLot := oexB_ok (exL_at c.more 11 rfl)
  ini_NoLot := oiniB_ok (exL_at c.more 12 rfl)
  exc_NoLot := excB_ok (exL_at c.more 13 rfl)
  oex_NoName := oexB_ok (exL_at c.more 14 rfl)
  ini_NoName := oiniB_ok (exL_at c.more 15 rfl)
  exc_NoName := excB_ok (exL_at c.more 16 rfl)
  xf_NoName_name := of_decide_eq_true (exL_at c.more 17 rfl)
  oex_NoNumber := oexB_ok (exL_at c.more 18 rfl)
  ini_NoNumber := oiniB_ok (exL_at c.more 19 rfl)
  exc_NoNumber := excB_ok (exL_at c.more 20 rfl)
  xf_NoNumber_number := of_decide_eq_true (exL_at c.more 21 rfl)
  oex_NoOrder := oexB_ok (exL_at c.more 22 rfl)
  ini_NoOrder := oiniB_ok (exL_at c.more 23 rfl)
  exc_NoOrder := excB_ok (exL_at c.more 24 rfl)
  oex_NoParcel := oexB_ok (exL_at c.more 25 rfl)
  ini_NoParcel := oiniB_ok (exL_at c.more 26 rfl)
  exc_NoParcel := excB_ok (exL_at c.more 27 rfl)
  xf_NoParcel_part := of_decide_eq_true (exL_at c.more 28 rfl)
  oex_NoPath := oexB_ok (exL_at c.more 29 rfl)
  ini_NoPath := oiniB_ok (exL_at c.more 30 rfl)
  exc_NoPath := excB_ok (exL_at c.more 31 rfl)
  xf_NoPath_path := of_decide_eq_true (exL_at c.more 32 rfl)
  oex_NoRoom := oexB_ok (exL_at c.more 33 rfl)
  ini_NoRoom := oiniB_ok (exL_at c.more 34 rfl)
  exc_NoRoom := excB_ok (exL_at c.more 35 rfl)
  xf_NoRoom_room := of_decide_eq_true (exL_at c.more 36 rfl)
  oex_NoRow := oexB_ok (exL_at c.more 37 rfl)
  ini_NoRow := oiniB_ok (exL_at c.more 38 rfl)
  exc_NoRow := excB_ok (exL_at c.more 39 rfl)
  oex_NoStand := oexB_ok (exL_at c.more 40 rfl)
  ini_NoStand := oiniB_ok (exL_at c.more 41 rfl)
  exc_NoStand := excB_ok (exL_at c.more 42 rfl)
  oex_NoText := oexB_ok (exL_at c.more 43 rfl)
  ini_NoText := oiniB_ok (exL_at c.more 44 rfl)
  exc_NoText := excB_ok (exL_at c.more 45 rfl)
  xf_NoText_row := of_decide_eq_true (exL_at c.more 46 rfl)
  oex_NoWish := oexB_ok (exL_at c.more 47 rfl)
  ini_NoWish := oiniB_ok (exL_at c.more 48 rfl)
  exc_NoWish := excB_ok (exL_at c.more 49 rfl)
  xf_NoWish_number := of_decide_eq_true (exL_at c.more 50 rfl)
  oex_NoWorth := oexB_ok (exL_at c.more 51 rfl)
  ini_NoWorth := oiniB_ok (exL_at c.more 52 rfl)
  exc_NoWorth := excB_ok (exL_at c.more 53 rfl)
  oex_Shut := oexB_ok (exL_at c.more 54 rfl)
  ini_Shut := oiniB_ok (exL_at c.more 55 rfl)
  exc_Shut := excB_ok (exL_at c.more 56 rfl)
  oex_Still := oexB_ok (exL_at c.more 57 rfl)
  ini_Still := oiniB_ok (exL_at c.more 58 rfl)
  exc_Still := excB_ok (exL_at c.more 59 rfl)
  oex_Stopped := oexB_ok (exL_at c.more 60 rfl)
  ini_Stopped := oiniB_ok (exL_at c.more 61 rfl)
  exc_Stopped := excB_ok (exL_at c.more 62 rfl)
  gm_WholeError := (exL_at c.more 63 rfl)
  gm_KeyError := (exL_at c.more 64 rfl)
  gm_RuntimeError := (exL_at c.more 65 rfl)
  xall := List.forall_mem_cons.mpr ⟨(excB_ok (exL_at c.more 2 rfl)).1, List.forall_mem_cons.mpr ⟨(excB_ok (exL_at c.more 5 rfl)).1, List.forall_mem_cons.mpr ⟨(excB_ok (exL_at c.more 10 rfl)).1, List.forall_mem_cons.mpr ⟨(excB_ok (exL_at c.more 13 rfl)).1, List.forall_mem_cons.mpr ⟨(excB_ok (exL_at c.more 16 rfl)).1, List.forall_mem_cons.mpr ⟨(excB_ok (exL_at c.more 20 rfl)).1, List.forall_mem_cons.mpr ⟨(excB_ok (exL_at c.more 24 rfl)).1, List.forall_mem_cons.mpr ⟨(excB_ok (exL_at c.more 27 rfl)).1, List.forall_mem_cons.mpr ⟨(excB_ok (exL_at c.more 31 rfl)).1, List.forall_mem_cons.mpr ⟨(excB_ok (exL_at c.more 35 rfl)).1, List.forall_mem_cons.mpr ⟨(excB_ok (exL_at c.more 39 rfl)).1, List.forall_mem_cons.mpr ⟨(excB_ok (exL_at c.more 42 rfl)).1, List.forall_mem_cons.mpr ⟨(excB_ok (exL_at c.more 45 rfl)).1, List.forall_mem_cons.mpr ⟨(excB_ok (exL_at c.more 49 rfl)).1, List.forall_mem_cons.mpr ⟨(excB_ok (exL_at c.more 53 rfl)).1, List.forall_mem_cons.mpr ⟨(excB_ok (exL_at c.more 56 rfl)).1, List.forall_mem_cons.mpr ⟨(excB_ok (exL_at c.more 59 rfl)).1, List.forall_mem_cons.mpr ⟨(excB_ok (exL_at c.more 62 rfl)).1, fun _ h => absurd h List.not_mem_nil⟩⟩⟩⟩⟩⟩⟩⟩⟩⟩⟩⟩⟩⟩⟩⟩⟩⟩
  kx_Amid := kxB_ok (exL_at c.more 66 rfl)
  kx_CannotStand := kxB_ok (exL_at c.more 67 rfl)
  kx_KeyError := kxB_ok (exL_at c.more 68 rfl)
  kx_NoAnswers := kxB_ok (exL_at c.more 69 rfl)
  kx_NoLot := kxB_ok (exL_at c.more 70 rfl)
  kx_NoName := kxB_ok (exL_at c.more 71 rfl)
  kx_NoNumber := kxB_ok (exL_at c.more 72 rfl)
  kx_NoOrder := kxB_ok (exL_at c.more 73 rfl)
  kx_NoParcel := kxB_ok (exL_at c.more 74 rfl)
  kx_NoPath := kxB_ok (exL_at c.more 75 rfl)
  kx_NoRoom := kxB_ok (exL_at c.more 76 rfl)
  kx_NoRow := kxB_ok (exL_at c.more 77 rfl)
  kx_NoStand := kxB_ok (exL_at c.more 78 rfl)
  kx_NoText := kxB_ok (exL_at c.more 79 rfl)
  kx_NoWish := kxB_ok (exL_at c.more 80 rfl)
  kx_NoWorth := kxB_ok (exL_at c.more 81 rfl)
  kx_RuntimeError := kxB_ok (exL_at c.more 82 rfl)
  kx_Shut := kxB_ok (exL_at c.more 83 rfl)
  kx_Still := kxB_ok (exL_at c.more 84 rfl)
  kx_Stopped := kxB_ok (exL_at c.more 85 rfl)
  kx_ValueError := kxB_ok (exL_at c.more 86 rfl)
  kx_WholeError := kxB_ok (exL_at c.more 87 rfl)
  xat_lot := List.forall_mem_cons.mpr ⟨⟨(excB_ok (exL_at c.more 5 rfl)).2, of_decide_eq_true (exL_at c.more 6 rfl)⟩, fun _ h => absurd h List.not_mem_nil⟩
  xat_name := List.forall_mem_cons.mpr ⟨⟨(excB_ok (exL_at c.more 16 rfl)).2, of_decide_eq_true (exL_at c.more 17 rfl)⟩, fun _ h => absurd h List.not_mem_nil⟩
  xat_number := List.forall_mem_cons.mpr ⟨⟨(excB_ok (exL_at c.more 20 rfl)).2, of_decide_eq_true (exL_at c.more 21 rfl)⟩, List.forall_mem_cons.mpr ⟨⟨(excB_ok (exL_at c.more 49 rfl)).2, of_decide_eq_true (exL_at c.more 50 rfl)⟩, fun _ h => absurd h List.not_mem_nil⟩⟩
  xat_paper := List.forall_mem_cons.mpr ⟨⟨(excB_ok (exL_at c.more 5 rfl)).2, of_decide_eq_true (exL_at c.more 7 rfl)⟩, fun _ h => absurd h List.not_mem_nil⟩
  xat_part := List.forall_mem_cons.mpr ⟨⟨(excB_ok (exL_at c.more 27 rfl)).2, of_decide_eq_true (exL_at c.more 28 rfl)⟩, fun _ h => absurd h List.not_mem_nil⟩
  xat_path := List.forall_mem_cons.mpr ⟨⟨(excB_ok (exL_at c.more 31 rfl)).2, of_decide_eq_true (exL_at c.more 32 rfl)⟩, fun _ h => absurd h List.not_mem_nil⟩
  xat_room := List.forall_mem_cons.mpr ⟨⟨(excB_ok (exL_at c.more 35 rfl)).2, of_decide_eq_true (exL_at c.more 36 rfl)⟩, fun _ h => absurd h List.not_mem_nil⟩
  xat_row := List.forall_mem_cons.mpr ⟨⟨(excB_ok (exL_at c.more 45 rfl)).2, of_decide_eq_true (exL_at c.more 46 rfl)⟩, fun _ h => absurd h List.not_mem_nil⟩
  z_KeyError := He.free_ok X G (c.t.d.fact 22 (f := .free "KeyError") rfl)
  z_RuntimeError := He.free_ok X G (c.t.d.fact 23 (f := .free "RuntimeError") rfl)
  z_ValueError := He.free_ok X G (c.t.d.fact 24 (f := .free "ValueError") rfl)
  z_enumerate := He.free_ok X G (c.t.d.fact 25 (f := .free "enumerate") rfl)
  z_isinstance := He.free_ok X G (c.t.d.fact 26 (f := .free "isinstance") rfl)
  z_range := He.free_ok X G (c.t.d.fact 27 (f := .free "range") rfl)
  z_repr := He.free_ok X G (c.t.d.fact 28 (f := .free "repr") rfl)
end DL05
namespace DL05
open PySem PySem.Spec PyProof.Rows L2 DL
def lw0i : FA := (itA (dbin addX (dlst (aCons (dc .non) (aCons (dc (.int 0)) (aCons (dc (.bl true)) (aCons (dc (.str "x")) (aCons (dtup (aCons (dc (.str "a")) (aCons (dc (.int 1)) aNil))) (aCons (dlst (aCons (dc (.int 1)) aNil)) (aCons (dDisp [((dc (.str "a")), (dc (.int 2)))]) (aCons (dbin powD (dc (.int 10)) (dc (.int 40))) aNil))))))))) (dlc (itA (dsl (dvar 0) onone (osome (dc (.int 3))))) [5] (.nm 5) tyes (dbin modD (dvar 5) (dbin powD (dc (.int 10)) (dc (.int 40)))))))
def lw0b : FS := (gseq (gasg (.nm 2) (dlst (aCons (dexc cC_NoParcel ["part"] (aCons (dvar 1) aNil)) (aCons (dexc cC_NoLot [] aNil) (aCons (dexc cC_NoWish ["number"] (aCons (dvar 1) aNil)) (aCons (dexc cC_NoStand [] aNil) (aCons (dexc cC_NoOrder [] aNil) (aCons (dexc cC_NoAnswers [] aNil) (aCons (dexc cC_NoWorth [] aNil) (aCons (dexc cC_NoNumber ["number"] (aCons (dvar 1) aNil)) aNil)))))))))) (gseq (gasg (.nm 2) (dbin addX (dvar 2) (dlst (aCons (dexc cC_NoText ["row"] (aCons (dvar 1) aNil)) (aCons (dexc cC_NoRow [] aNil) (aCons (dexc cC_CannotStand ["lot", "paper"] (aCons (dvar 1) (aCons (dlst (aCons (dvar 1) aNil)) aNil))) (aCons (dexc cC_NoName ["name"] (aCons (dvar 1) aNil)) (aCons (dexc cC_NoPath ["path"] (aCons (dvar 1) aNil)) (aCons (dexc cC_NoRoom ["room"] (aCons (dvar 1) aNil)) aNil))))))))) (gseq (gasg (.nm 2) (dbin addX (dvar 2) (dlst (aCons (dexc cC_Stopped [] aNil) (aCons (dexc cC_Amid [] aNil) (aCons (dexc cC_Still [] aNil) (aCons (dexc cC_Shut [] aNil) aNil))))))) (gseq (gif (dtest (dbin dNeC (dlc (itEX (aCons (dvar 2) aNil)) [6, 7] (.tp [(.nm 6), (.nm 7)]) (tnot (dtest (dcall F_law_right [] (aCons (dvar 7) (aCons (dvar 6) aNil))))) (dvar 6)) (dlst aNil))) (gret (dc (.bl false))) gnil) (gseq (gasg (.nm 3) (dlst (aCons (dxat xa_part "part" (dbin dIxX (dvar 2) (dc (.int 0)))) (aCons (dxat xa_number "number" (dbin dIxX (dvar 2) (dc (.int 2)))) (aCons (dxat xa_number "number" (dbin dIxX (dvar 2) (dc (.int 7)))) (aCons (dxat xa_row "row" (dbin dIxX (dvar 2) (dc (.int 8)))) (aCons (dxat xa_lot "lot" (dbin dIxX (dvar 2) (dc (.int 10)))) (aCons (dxat xa_name "name" (dbin dIxX (dvar 2) (dc (.int 11)))) (aCons (dxat xa_path "path" (dbin dIxX (dvar 2) (dc (.int 12)))) aNil))))))))) (gseq (gif (tor (dtest (dbin dNeC (dcallB bReprX (aCons (dbin addX (dvar 3) (dlst (aCons (dxat xa_room "room" (dbin dIxX (dvar 2) (dc (.int 13)))) aNil))) aNil)) (dcallB bReprX (aCons (dbin mulX (dlst (aCons (dvar 1) aNil)) (dc (.int 8))) aNil)))) (dtest (dbin dNeC (dcallB bReprX (aCons (dxat xa_paper "paper" (dbin dIxX (dvar 2) (dc (.int 10)))) aNil)) (dcallB bReprX (aCons (dlst (aCons (dvar 1) aNil)) aNil))))) (gret (dc (.bl false))) gnil) (gseq (gasg (.nm 4) (dlst (aCons (dxat xa_part "part" (dexcK cC_NoParcel ["part"] (fun es => xk_NoParcel_part es) (aCons (dvar 1) aNil))) (aCons (dxat xa_number "number" (dexcK cC_NoWish ["number"] (fun es => xk_NoWish_number es) (aCons (dvar 1) aNil))) (aCons (dxat xa_number "number" (dexcK cC_NoNumber ["number"] (fun es => xk_NoNumber_number es) (aCons (dvar 1) aNil))) aNil))))) (gseq (gasg (.nm 4) (dbin addX (dvar 4) (dlst (aCons (dxat xa_row "row" (dexcK cC_NoText ["row"] (fun es => xk_NoText_row es) (aCons (dvar 1) aNil))) (aCons (dxat xa_paper "paper" (dexcK cC_CannotStand ["lot", "paper"] (fun es => xk_CannotStand_paper_lot es) (aCons (dvar 1) (aCons (dc .non) aNil)))) (aCons (dxat xa_name "name" (dexcK cC_NoName ["name"] (fun es => xk_NoName_name es) (aCons (dvar 1) aNil))) aNil)))))) (gif (dtest (dbin dNeC (dcallB bReprX (aCons (dbin addX (dvar 4) (dlst (aCons (dxat xa_path "path" (dexcK cC_NoPath ["path"] (fun es => xk_NoPath_path es) (aCons (dvar 1) aNil))) (aCons (dxat xa_room "room" (dexcK cC_NoRoom ["room"] (fun es => xk_NoRoom_room es) (aCons (dvar 1) aNil))) aNil)))) aNil)) (dcallB bReprX (aCons (dbin mulX (dlst (aCons (dvar 1) aNil)) (dc (.int 8))) aNil)))) (gret (dc (.bl false))) gnil)))))))))
def lw0 : FS := gfor lw0i (.nm 1) lw0b
def lw1e : FE := (dc (.bl true))
def lw1 : FS := gret lw1e
theorem lw_is : g_law = gseq lw0 lw1 := rfl
def lb0e : FE := (dlst (aCons (dexc cC_NoParcel ["part"] (aCons (dvar 1) aNil)) (aCons (dexc cC_NoLot [] aNil) (aCons (dexc cC_NoWish ["number"] (aCons (dvar 1) aNil)) (aCons (dexc cC_NoStand [] aNil) (aCons (dexc cC_NoOrder [] aNil) (aCons (dexc cC_NoAnswers [] aNil) (aCons (dexc cC_NoWorth [] aNil) (aCons (dexc cC_NoNumber ["number"] (aCons (dvar 1) aNil)) aNil)))))))))
def lb0 : FS := gasg (.nm 2) lb0e
def lb1e : FE := (dbin addX (dvar 2) (dlst (aCons (dexc cC_NoText ["row"] (aCons (dvar 1) aNil)) (aCons (dexc cC_NoRow [] aNil) (aCons (dexc cC_CannotStand ["lot", "paper"] (aCons (dvar 1) (aCons (dlst (aCons (dvar 1) aNil)) aNil))) (aCons (dexc cC_NoName ["name"] (aCons (dvar 1) aNil)) (aCons (dexc cC_NoPath ["path"] (aCons (dvar 1) aNil)) (aCons (dexc cC_NoRoom ["room"] (aCons (dvar 1) aNil)) aNil))))))))
def lb1 : FS := gasg (.nm 2) lb1e
def lb2e : FE := (dbin addX (dvar 2) (dlst (aCons (dexc cC_Stopped [] aNil) (aCons (dexc cC_Amid [] aNil) (aCons (dexc cC_Still [] aNil) (aCons (dexc cC_Shut [] aNil) aNil))))))
def lb2 : FS := gasg (.nm 2) lb2e
def lb3c : FT := (dtest (dbin dNeC (dlc (itEX (aCons (dvar 2) aNil)) [6, 7] (.tp [(.nm 6), (.nm 7)]) (tnot (dtest (dcall F_law_right [] (aCons (dvar 7) (aCons (dvar 6) aNil))))) (dvar 6)) (dlst aNil)))
def lb3 : FS := gif lb3c (gret (dc (.bl false))) gnil
def lb4e : FE := (dlst (aCons (dxat xa_part "part" (dbin dIxX (dvar 2) (dc (.int 0)))) (aCons (dxat xa_number "number" (dbin dIxX (dvar 2) (dc (.int 2)))) (aCons (dxat xa_number "number" (dbin dIxX (dvar 2) (dc (.int 7)))) (aCons (dxat xa_row "row" (dbin dIxX (dvar 2) (dc (.int 8)))) (aCons (dxat xa_lot "lot" (dbin dIxX (dvar 2) (dc (.int 10)))) (aCons (dxat xa_name "name" (dbin dIxX (dvar 2) (dc (.int 11)))) (aCons (dxat xa_path "path" (dbin dIxX (dvar 2) (dc (.int 12)))) aNil))))))))
def lb4 : FS := gasg (.nm 3) lb4e
def lb5c : FT := (tor (dtest (dbin dNeC (dcallB bReprX (aCons (dbin addX (dvar 3) (dlst (aCons (dxat xa_room "room" (dbin dIxX (dvar 2) (dc (.int 13)))) aNil))) aNil)) (dcallB bReprX (aCons (dbin mulX (dlst (aCons (dvar 1) aNil)) (dc (.int 8))) aNil)))) (dtest (dbin dNeC (dcallB bReprX (aCons (dxat xa_paper "paper" (dbin dIxX (dvar 2) (dc (.int 10)))) aNil)) (dcallB bReprX (aCons (dlst (aCons (dvar 1) aNil)) aNil)))))
def lb5 : FS := gif lb5c (gret (dc (.bl false))) gnil
def lb6e : FE := (dlst (aCons (dxat xa_part "part" (dexcK cC_NoParcel ["part"] (fun es => xk_NoParcel_part es) (aCons (dvar 1) aNil))) (aCons (dxat xa_number "number" (dexcK cC_NoWish ["number"] (fun es => xk_NoWish_number es) (aCons (dvar 1) aNil))) (aCons (dxat xa_number "number" (dexcK cC_NoNumber ["number"] (fun es => xk_NoNumber_number es) (aCons (dvar 1) aNil))) aNil))))
def lb6 : FS := gasg (.nm 4) lb6e
def lb7e : FE := (dbin addX (dvar 4) (dlst (aCons (dxat xa_row "row" (dexcK cC_NoText ["row"] (fun es => xk_NoText_row es) (aCons (dvar 1) aNil))) (aCons (dxat xa_paper "paper" (dexcK cC_CannotStand ["lot", "paper"] (fun es => xk_CannotStand_paper_lot es) (aCons (dvar 1) (aCons (dc .non) aNil)))) (aCons (dxat xa_name "name" (dexcK cC_NoName ["name"] (fun es => xk_NoName_name es) (aCons (dvar 1) aNil))) aNil)))))
def lb7 : FS := gasg (.nm 4) lb7e
def lb8c : FT := (dtest (dbin dNeC (dcallB bReprX (aCons (dbin addX (dvar 4) (dlst (aCons (dxat xa_path "path" (dexcK cC_NoPath ["path"] (fun es => xk_NoPath_path es) (aCons (dvar 1) aNil))) (aCons (dxat xa_room "room" (dexcK cC_NoRoom ["room"] (fun es => xk_NoRoom_room es) (aCons (dvar 1) aNil))) aNil)))) aNil)) (dcallB bReprX (aCons (dbin mulX (dlst (aCons (dvar 1) aNil)) (dc (.int 8))) aNil))))
def lb8 : FS := gif lb8c (gret (dc (.bl false))) gnil
theorem lb_is : lw0b = gseq lb0 (gseq lb1 (gseq lb2 (gseq lb3 (gseq lb4 (gseq lb5 (gseq lb6 (gseq lb7 lb8))))))) := rfl
def mu0 : Mu := [.dct [.inr "a"] [.int 2]]
def some18 (d : D) : List D := [.exc cC_NoParcel [("part", d)],
  .exc cC_NoLot [],
  .exc cC_NoWish [("number", d)],
  .exc cC_NoStand [],
  .exc cC_NoOrder [],
  .exc cC_NoAnswers [],
  .exc cC_NoWorth [],
  .exc cC_NoNumber [("number", d)],
  .exc cC_NoText [("row", d)],
  .exc cC_NoRow [],
  .exc cC_CannotStand [("paper", .lst [d]), ("lot", d)],
  .exc cC_NoName [("name", d)],
  .exc cC_NoPath [("path", d)],
  .exc cC_NoRoom [("room", d)],
  .exc cC_Stopped [],
  .exc cC_Amid [],
  .exc cC_Still [],
  .exc cC_Shut []]
def rA : FA := (aCons (dbin addX (dvar 3) (dlst (aCons (dxat xa_room "room" (dbin dIxX (dvar 2) (dc (.int 13)))) aNil))) aNil)
def rB : FA := (aCons (dbin mulX (dlst (aCons (dvar 1) aNil)) (dc (.int 8))) aNil)
def rC : FA := (aCons (dxat xa_paper "paper" (dbin dIxX (dvar 2) (dc (.int 10)))) aNil)
def rD : FA := (aCons (dlst (aCons (dvar 1) aNil)) aNil)
def rE : FA := (aCons (dbin addX (dvar 4) (dlst (aCons (dxat xa_path "path" (dexcK cC_NoPath ["path"] (fun es => xk_NoPath_path es) (aCons (dvar 1) aNil))) (aCons (dxat xa_room "room" (dexcK cC_NoRoom ["room"] (fun es => xk_NoRoom_room es) (aCons (dvar 1) aNil))) aNil)))) aNil)
def rF : FA := (aCons (dbin mulX (dlst (aCons (dvar 1) aNil)) (dc (.int 8))) aNil)
theorem lb5c_is : lb5c = tor (dtest (dbin dNeC (dcallB bReprX rA) (dcallB bReprX rB))) (dtest (dbin dNeC (dcallB bReprX rC) (dcallB bReprX rD))) := rfl
theorem lb8c_is : lb8c = dtest (dbin dNeC (dcallB bReprX rE) (dcallB bReprX rF)) := rfl
section
variable (S d : D) (a2 a3 a4 a5 a6 a7 : Option D)
abbrev d7 (d : D) : List D := [d, d, d, d, d, d, d]
abbrev d8 (d : D) : List D := [d, d, d, d, d, d, d, d]
abbrev d6 (d : D) : List D := [d, d, d, d, d, d]
theorem t0 : gseq lb0 (gseq lb1 lb2) [some S, some d, a2, a3, a4, a5, a6, a7] mu0 = .nx [some S, some d, some (.lst (some18 d)), a3, a4, a5, a6, a7] mu0 := by kernel_rfl
theorem t3 : lb3 [some S, some d, some (.lst (some18 d)), a3, a4, a5, a6, a7] mu0 = .nx [some S, some d, some (.lst (some18 d)), a3, a4, a5, a6, a7] mu0 := by kernel_rfl
theorem t4 : lb4 [some S, some d, some (.lst (some18 d)), a3, a4, a5, a6, a7] mu0 = .nx [some S, some d, some (.lst (some18 d)), some (.lst (d7 d)), a4, a5, a6, a7] mu0 := by kernel_rfl
theorem tA : rA [some S, some d, some (.lst (some18 d)), some (.lst (d7 d)), a4, a5, a6, a7] mu0 = .ok [.lst (d8 d)] mu0 := by kernel_rfl
theorem tB : rB [some S, some d, some (.lst (some18 d)), some (.lst (d7 d)), a4, a5, a6, a7] mu0 = .ok [.lst (d8 d)] mu0 := by kernel_rfl
theorem tC : rC [some S, some d, some (.lst (some18 d)), some (.lst (d7 d)), a4, a5, a6, a7] mu0 = .ok [.lst [d]] mu0 := by kernel_rfl
theorem tD : rD [some S, some d, some (.lst (some18 d)), some (.lst (d7 d)), a4, a5, a6, a7] mu0 = .ok [.lst [d]] mu0 := by kernel_rfl
theorem t6 : gseq lb6 lb7 [some S, some d, some (.lst (some18 d)), some (.lst (d7 d)), a4, a5, a6, a7] mu0 = .nx [some S, some d, some (.lst (some18 d)), some (.lst (d7 d)), some (.lst (d6 d)), a5, a6, a7] mu0 := by kernel_rfl
theorem tE : rE [some S, some d, some (.lst (some18 d)), some (.lst (d7 d)), some (.lst (d6 d)), a5, a6, a7] mu0 = .ok [.lst (d8 d)] mu0 := by kernel_rfl
theorem tF : rF [some S, some d, some (.lst (some18 d)), some (.lst (d7 d)), some (.lst (d6 d)), a5, a6, a7] mu0 = .ok [.lst (d8 d)] mu0 := by kernel_rfl
end
theorem ne_same (x : Str) (μ : Mu) : dNeC (.str x) (.str x) μ = .ok (.bl false) μ := by
  simp [dNeC, lstAt, dNeM, neOk, dNeX, D.kd, dNe, eqV]
  rfl
/-- its text, and eight times -/
def Shows (d : D) : Prop := (∃ x, bReprX [.lst [d]] mu0 = .ok (.str x) mu0) ∧ ∃ x, bReprX [.lst (d8 d)] mu0 = .ok (.str x) mu0
theorem turn (S d : D) (a2 a3 a4 a5 a6 a7 : Option D) (h : Shows d) : lw0b [some S, some d, a2, a3, a4, a5, a6, a7] mu0 = .nx [some S, some d, some (.lst (some18 d)), some (.lst (d7 d)), some (.lst (d6 d)), a5, a6, a7] mu0 := by
  obtain ⟨⟨x, hx⟩, ⟨y, hy⟩⟩ := h
  rw [lb_is]
  have e0 := t0 S d a2 a3 a4 a5 a6 a7
  have e6 := t6 S d a4 a5 a6 a7
  simp only [ap_seq] at e0 e6 ⊢
  revert e0 e6
  generalize lb0 [some S, some d, a2, a3, a4, a5, a6, a7] mu0 = o0
  intro e0 e6
  cases o0 with
  | nx ρ1 μ1 =>
    simp only [O.thn_nx, ap_seq] at e0 e6 ⊢
    revert e0
    generalize lb1 ρ1 μ1 = o1
    intro e0
    cases o1 with
    | nx ρ2 μ2 =>
      simp only [O.thn_nx, ap_seq] at e0 ⊢
      rw [e0]
      simp only [O.thn_nx, ap_seq, t3, t4]
      have e5 : lb5 [some S, some d, some (.lst (some18 d)), some (.lst (d7 d)), a4, a5, a6, a7] mu0 = .nx [some S, some d, some (.lst (some18 d)), some (.lst (d7 d)), a4, a5, a6, a7] mu0 := by
        unfold lb5
        rw [ap_gif, lb5c_is]
        simp only [ap_tor, ap_test, ap_bin, ap_callB, tA, tB, tC, tD, R.bind_ok, hx, hy, ne_same, Bool.false_eq_true, if_false, R.to_ok, ap_nil]
      simp only [e5, O.thn_nx, ap_seq]
      revert e6
      generalize lb6 [some S, some d, some (.lst (some18 d)), some (.lst (d7 d)), a4, a5, a6, a7] mu0 = o6
      intro e6
      cases o6 with
      | nx ρ3 μ3 =>
        simp only [O.thn_nx, ap_seq] at e6 ⊢
        rw [e6]
        simp only [O.thn_nx]
        unfold lb8
        rw [ap_gif, lb8c_is]
        simp only [ap_test, ap_bin, ap_callB, tE, tF, R.bind_ok, hy, ne_same, Bool.false_eq_true, if_false, R.to_ok, ap_nil]
      | _ => cases e6
    | _ => cases e0
  | _ => cases e0
/-! ### what is shown -/
def isStr : R D → Bool
  | .ok (.str _) [.dct [.inr x] [.int 2]] => decide (x = "a")
  | _ => false
theorem isStr_ok {r : R D} (h : isStr r = true) : ∃ x, r = .ok (.str x) mu0 := by
  unfold isStr at h
  split at h
  · simp at h
    subst h
    exact ⟨_, rfl⟩
  · cases h
def fixed : List D := [.non, .int 0, .bl true, .str "x", .tup [.str "a", .int 1], .lst [.int 1], .hdl 0, .int (10 ^ 40)]
theorem fixed_ok : (fixed.all fun d => isStr (bReprX [.lst [d]] mu0) && isStr (bReprX [.lst (d8 d)] mu0)) = true := by decide +kernel
theorem shows_fixed {d : D} (h : d ∈ fixed) : Shows d := by
  have := List.all_eq_true.mp fixed_ok d h
  simp only [Bool.and_eq_true] at this
  exact ⟨isStr_ok this.1, isStr_ok this.2⟩
theorem int_leaf {i : Int} (h : i.natAbs < 10 ^ 40) : (PyData.int i).leavesShort 41 = true := by
  have e := int_text_length_le10 (k := 40) (by decide) h
  simp only [PyData.leavesShort, decide_eq_true_eq]
  show (Str.ofString (toString i)).length ≤ 41
  rw [PySem.ofString_length]
  exact e
theorem int_log {i : Int} (h : i.natAbs < 10 ^ 40) : i.natAbs.log2 < 1920 := by
  rcases Nat.eq_zero_or_pos i.natAbs with z | z
  · rw [z]; decide
  · exact (Nat.log2_lt (by omega)).mpr (Nat.lt_trans h (by decide +kernel))
theorem repr_ints {ps : List Int} (h : ∀ i ∈ ps, i.natAbs < 10 ^ 40) (hl : ps.length ≤ 8) (μ : Mu) : ∃ x, bReprX [.lst (ps.map .int)] μ = .ok (.str x) μ := by
  have key : ∀ ps : List Int, (∀ i ∈ ps, i.natAbs < 10 ^ 40) → D.pys (ps.map .int) = some (ps.map .int) ∧ PyData.leavesShortAll 41 (ps.map .int) = true ∧ PyData.showableAll (ps.map .int) = true ∧ PyData.hasDictAll (ps.map .int) = false ∧ PyData.depthAll (ps.map .int) = 0 ∧ PyData.bulkAll (ps.map .int) ≤ ps.length * 41 := by
    intro ps
    induction ps with
    | nil => exact fun _ => ⟨by simp [D.pys], by simp [PyData.leavesShortAll], by simp [PyData.showableAll], by simp [PyData.hasDictAll], by simp [PyData.depthAll], by simp [PyData.bulkAll]⟩
    | cons i ps ih =>
      intro hi
      obtain ⟨q1, q2, q3, q4, q5, q6⟩ := ih fun j hj => hi j (List.mem_cons_of_mem _ hj)
      have h0 := hi i List.mem_cons_self
      refine ⟨by simp [D.pys, D.py, q1], ?_, ?_, ?_, ?_, ?_⟩
      · rw [List.map_cons, PyData.leavesShortAll, int_leaf h0, q2]; rfl
      · rw [List.map_cons, PyData.showableAll, q3]; simp [PyData.showable, int_log h0]
      · rw [List.map_cons, PyData.hasDictAll, q4]; simp [PyData.hasDict]
      · rw [List.map_cons, PyData.depthAll, q5]; simp [PyData.depth]
      · rw [List.map_cons, PyData.bulkAll, List.length_cons]; simp [PyData.bulk]; omega
  obtain ⟨q1, q2, q3, q4, q5, q6⟩ := key ps h
  have e : D.py (.lst (ps.map .int)) = some (.list (ps.map .int)) := by simp [D.py, q1]
  have hs := PyData.shown_le_bulk 41 (by decide) (.list (ps.map .int)) (by simpa [PyData.leavesShort] using q2)
  have hb : PyData.bulk (.list (ps.map .int)) ≤ 1000 := by simp only [PyData.bulk]; omega
  have r : reprD (.lst (ps.map .int)) = some (PyData.list (ps.map .int)).shown := by
    unfold reprD
    rw [e]
    dsimp only
    rw [if_pos ⟨by simpa [PyData.showable] using q3, by simpa [PyData.hasDict] using q4, by simp [PyData.depth, q5], by omega⟩]
  exact ⟨_, by simp [bReprX, bReprM, bRepr, r]; rfl⟩
theorem shows_int {i : Int} (h : i.natAbs < 10 ^ 40) : Shows (.int i) := ⟨repr_ints (ps := [i]) (by simpa using h) (by simp) _, repr_ints (ps := [i, i, i, i, i, i, i, i]) (by simpa using h) (by simp) _⟩
/-! ### the law -/
theorem mod_abs (n : Int) : (n % 10 ^ 40).natAbs < 10 ^ 40 := by omega
def lwA : FE := (dlst (aCons (dc .non) (aCons (dc (.int 0)) (aCons (dc (.bl true)) (aCons (dc (.str "x")) (aCons (dtup (aCons (dc (.str "a")) (aCons (dc (.int 1)) aNil))) (aCons (dlst (aCons (dc (.int 1)) aNil)) (aCons (dDisp [((dc (.str "a")), (dc (.int 2)))]) (aCons (dbin powD (dc (.int 10)) (dc (.int 40))) aNil)))))))))
def lwB : FE := (dlc (itA (dsl (dvar 0) onone (osome (dc (.int 3))))) [5] (.nm 5) tyes (dbin modD (dvar 5) (dbin powD (dc (.int 10)) (dc (.int 40)))))
theorem lw0i_is : lw0i = itA (dbin addX lwA lwB) := rfl
theorem a_ok (S : D) : lwA [some S, none, none, none, none, none, none, none] [] = .ok (.lst fixed) mu0 := by kernel_rfl
theorem cut_take (xs : List D) (k : Nat) : DL.cutD xs none (some (k : Int)) = xs.take k := by
  simp only [DL.cutD, HT.sIx_none, HT.sIx_nat, List.drop_zero, Nat.sub_zero]
  by_cases h : k ≤ xs.length
  · rw [Nat.min_eq_left h]
  · rw [Nat.min_eq_right (by omega), List.take_length, List.take_of_length_le (by omega)]
theorem b_ok (ns : List Int) (hns : ns.length ≤ 63) : lwB [some (.lst (ns.map .int)), none, none, none, none, none, none, none] mu0 = .ok (.lst ((ns.take 3).map fun n => .int (n % 10 ^ 40))) mu0 := by
  have sl : slD (.lst (ns.map .int)) none (some 3) = some (.lst ((ns.take 3).map .int)) := by
    have c := cut_take (ns.map D.int) 3
    simp only [slD]
    show some (D.lst (DL.cutD (ns.map D.int) none (some ((3 : Nat) : Int)))) = _
    rw [c, List.map_take]
  unfold lwB
  rw [ap_lc, ap_itA, ap_sl]
  simp only [ap_var, List.getElem?_cons_zero, R.bind_ok, ap_onone, ap_osome, ap_dc, sl, R.of_some, items_lst]
  have wp : wipeD [some (.lst (ns.map .int)), none, none, none, none, none, none, none] [5] = [some (.lst (ns.map .int)), none, none, none, none, none, none, none] := rfl
  rw [wp, lc_pure (fun d => [some (.lst (ns.map .int)), none, none, none, none, some d, none, none]) (fun _ => true) (fun d => match d with | .int n => .int (n % 10 ^ 40) | _ => .non) (xs := (ns.take 3).map .int) (fun d hd => by
    obtain ⟨n, _, rfl⟩ := List.mem_map.mp hd
    refine ⟨rfl, rfl, fun _ => ?_⟩
    simp only [ap_bin, ap_var, List.getElem?_cons_succ, List.getElem?_cons_zero, R.bind_ok, ap_dc, DL.pow_int, DL.mod_int]
    rw [if_pos (by decide), R.bind_ok, DL.mod_int, if_pos (by decide +kernel)]
    rfl)]
  rw [List.filter_eq_self.mpr (fun _ _ => rfl), R.bind_ok, List.map_map]
  rfl
theorem law_is (ns : List Int) (hns : ns.length ≤ 63) : ∃ μ', F_law [.lst (ns.map D.int)] [] = .ok (.bl true) μ' := by
  have all : ∀ d ∈ fixed ++ (ns.take 3).map (fun n => D.int (n % 10 ^ 40)), Shows d := fun d hd => by
    rcases List.mem_append.mp hd with z | z
    · exact shows_fixed z
    · obtain ⟨n, _, rfl⟩ := List.mem_map.mp z
      exact shows_int (mod_abs n)
  obtain ⟨ρ', μ', e, -, rfl⟩ := for_inv (t := .nm 1) (b := lw0b) (xs := fixed ++ (ns.take 3).map (fun n => D.int (n % 10 ^ 40))) (fun ρ μ => (∃ a1 a2 a3 a4 a5 a6 a7, ρ = [some (.lst (ns.map .int)), a1, a2, a3, a4, a5, a6, a7]) ∧ μ = mu0)
    (ρ := [some (.lst (ns.map .int)), none, none, none, none, none, none, none]) (μ := mu0)
    (fun d hd ρ μ hi => by
      obtain ⟨⟨a1, a2, a3, a4, a5, a6, a7, rfl⟩, rfl⟩ := hi
      exact ⟨_, _, _, asg_nm _ _ _, turn _ d a2 a3 a4 a5 a6 a7 (all d hd), ⟨_, _, _, _, _, _, _, rfl⟩, rfl⟩) ⟨⟨_, _, _, _, _, _, _, rfl⟩, rfl⟩
  have body : g_law (startD 8 [.lst (ns.map D.int)]) [] = .rt (.bl true) mu0 := by
    rw [lw_is]
    have st : startD 8 [.lst (ns.map D.int)] = [some (.lst (ns.map .int)), none, none, none, none, none, none, none] := rfl
    rw [st]
    have hl : fixed.length + ((ns.take 3).map fun n => D.int (n % 10 ^ 40)).length ≤ 1000000 := by
      simp [fixed]
      omega
    have add : addX (.lst fixed) (.lst ((ns.take 3).map fun n => D.int (n % 10 ^ 40))) mu0 = .ok (.lst (fixed ++ (ns.take 3).map fun n => D.int (n % 10 ^ 40))) mu0 := by
      simp only [addX, add_lst, if_pos hl]
    have it : lw0i [some (.lst (ns.map .int)), none, none, none, none, none, none, none] [] = .ok (fixed ++ (ns.take 3).map fun n => D.int (n % 10 ^ 40)) mu0 := by
      rw [lw0i_is]
      simp only [ap_itA, ap_bin, a_ok, b_ok ns hns, R.bind_ok, add, items_lst, R.of_some]
    simp only [ap_seq, lw0, ap_for, it, R.to_ok, e, O.thn_nx, lw1, lw1e, ap_ret, ap_dc]
  unfold F_law
  rw [callF_eq _ _ _ _ _ _ body]
  exact ⟨_, by simp [trunc, D.closed, closedMu]; rfl⟩
end DL05
open PySem PySem.W PySem.Calls PyProof.Rows
theorem PySem.Challenge.cw_wholeparcels_k05_refusals_apart_holds : PySem.Challenge.rw_wholeparcels_k05_refusals_apart.Holds := by
  w_on; o_law
  refine HandSHeadRun.head_any (r := DL05.Rw) (q := view DL05.Rw.prog DL05.hview) (H := DL05.hk) (ob := DL05.hob) (M := 20000) (loose := DL05.hloose) (d := HandSHeadRun.topDef DL05.Rw.prog 23) (kwd := []) DL05.hob_eq
    (by kernel_rfl) (fun s => by kernel_rfl) DL05.hrun (by kernel_rfl) (by kernel_rfl) (by kernel_rfl) (by rfl) (by first | assumption | decide +kernel) (by decide +kernel) ⟨rfl, rfl, rfl, rfl, rfl, by decide +kernel⟩ ?hw ?hc
  case hw => w_witness2
  case hc =>
    refine DL.walk_g (l := PySem.Challenge.rw_wholeparcels_k05_refusals_apart) (n := 63) (k := 3) (x := "_law_script") rfl (by decide) (by kernel_rfl) ⟨rfl, by decide, by decide⟩ ?F
    intro w mg fa h Y G hmg0
    obtain ⟨K, KX, c⟩ := Y
    have named : mg ("law" : PySem.Str) = some (.ref fa) := by
      have e : (HandSHeadRun.topDef DL05.Rw.prog 23).name = ("law" : PySem.Str) := by kernel_rfl
      rw [← e]
      exact hmg0
    have T := DL05.tops KX G c
    have e := named.symm.trans T.m_law
    cases e
    have b := L2.FunD.bindsA (ps := ["_law_script"]) T.F_law fun _ _ _ _ _ _ us hl => match us, hl with | [_], _ => rfl
    exact ⟨K, T.d_law, DL05.F_law, KX, DL.tabHead_of c, fun s v => b s [v] rfl, fun base _ _ tin => DL05.ok_law tin T, fun ns hl _ => DL05.law_is ns hl⟩
